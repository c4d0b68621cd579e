import PyProof.Rows.All
import Wide.All
import OpenK.AllK
import Wide.FinOn
import HandS.ForMost
import HandS.ForExc
import HandS.Zip
import HandS.TupAny
import HandS.TupMul
import HandS.TupLe
import HandS.Wide
import HandS.Deep
import HandS.SortInts
import HandS.Style
import HandS.Ends
import HandS.IsInst
import HandS.SetFor
import HandS.AnyAll
import KE.KSuper
import KE.KExcSuper
import HandS.ExcSuper
import HandS.ExcIs
import HandS.ExcValue
import HandS.ExcField
import HandS.Gcd
import PyProof.ZipIter
import HandS.Base
import HandS.Call
import HandS.Conv
import HandS.Sort
import KE.DataMinMax
import KE.DataFind
import KE.SortData
import KE.GoesEnum
import PySem.Challenge.RW_cutswhole_k45_great_unpaid_numbers
section
set_option Elab.async false
set_option linter.all false
set_option maxRecDepth 100000
/-! The data layer: expressions and statements tied to plain Lean programs over data (PyData) and slots. -/
namespace L2.DL
open PySem PySem.Spec PyProof.Rows
set_option autoImplicit false

abbrev Fg := PySem.W.Frag
/-- what a slot is known to hold: data; a list that nobody else holds (b: it came in as a parameter); an error object -/
inductive Slot where
  | val (d : PyData)
  | own (b : Bool) (ds : List PyData)
  | exc (nm : Str) (d : PyData)
abbrev EnvD := List (Option Slot)

/-! ### data that lies in the heap, none of its lists in O -/
mutual
inductive Dq (K : Fg) (H : Hp) (O : Addr → Prop) : V → PyData → Prop
  | non : Dq K H O .non .none
  | bl (b : Bool) : Dq K H O (.bl b) (.bool b)
  | int (i : Int) : Dq K H O (.int i) (.int i)
  | str (x : Str) : Dq K H O (.str x) (.str x)
  | lst {a : Addr} {xs : List V} {ds : List PyData} : ¬ O a → Rd H a (.lst xs) → DqAll K H O xs ds → Dq K H O (.ref a) (.list ds)
  | tup {a : Addr} {xs : List V} {ds : List PyData} : SqT K H a xs → DqAll K H O xs ds → Dq K H O (.ref a) (.tuple ds)
inductive DqAll (K : Fg) (H : Hp) (O : Addr → Prop) : List V → List PyData → Prop
  | nil : DqAll K H O [] []
  | cons {v : V} {vs : List V} {d : PyData} {ds : List PyData} : Dq K H O v d → DqAll K H O vs ds → DqAll K H O (v :: vs) (d :: ds)
end
section
variable {K : Fg} {H H' : Hp} {O O' : Addr → Prop}
/-- what a change leaves: all that is tracked and not in O -/
structure Kp (O O' : Addr → Prop) (H H' : Hp) : Prop where
  keep : ∀ q o, H q = some o → ¬ O q → H' q = some o
  lsts : ∀ q, O q → ∃ xs, H q = some (.lst xs)
  less : ∀ q, O' q → O q ∨ H q = none
theorem Rd.some {H : Hp} {a : Addr} {u : HO} (r : Rd H a u) : ∃ o, H a = some o := by
  rcases r with r | ⟨o, r⟩
  · exact ⟨_, r⟩
  · exact ⟨_, r⟩
theorem Kp.rd {a : Addr} {u : HO} (k : Kp O O' H H') (h : ¬ O a) (r : Rd H a u) : Rd H' a u ∧ ¬ O' a := by
  refine ⟨?_, fun z => ?_⟩
  · rcases r with r | ⟨o, r⟩
    · exact .inl (k.keep _ _ r h)
    · exact .inr ⟨o, k.keep _ _ r h⟩
  · obtain ⟨o, e⟩ := Rd.some r
    rcases k.less _ z with q | q
    · exact h q
    · rw [q] at e; cases e
theorem Kp.tup {a : Addr} {xs : List V} (k : Kp O O' H H') (r : SqT K H a xs) : SqT K H' a xs := by
  rcases r with r | r
  · refine .inl (k.rd (fun z => ?_) r).1
    obtain ⟨ys, e⟩ := k.lsts _ z
    rcases r with r | ⟨o, r⟩
    · rw [r] at e; cases e
    · rw [r] at e; cases e
  · exact .inr r
mutual
theorem Dq.keep (k : Kp O O' H H') : ∀ (d : PyData) (v : V), Dq K H O v d → Dq K H' O' v d
  | .none, _, h => by cases h; exact .non
  | .bool b, _, h => by cases h; exact .bl b
  | .int i, _, h => by cases h; exact .int i
  | .str x, _, h => by cases h; exact .str x
  | .list ds, _, h => by
    cases h with
    | lst no r all =>
      have q := k.rd no r
      exact .lst q.2 q.1 (DqAll.keep k ds _ all)
  | .tuple ds, _, h => by
    cases h with
    | tup r all => exact .tup (k.tup r) (DqAll.keep k ds _ all)
  | .dict _, _, h => by cases h
theorem DqAll.keep (k : Kp O O' H H') : ∀ (ds : List PyData) (vs : List V), DqAll K H O vs ds → DqAll K H' O' vs ds
  | [], _, h => by cases h; exact .nil
  | d :: ds, _, h => by
    cases h with
    | cons h1 h2 => exact .cons (Dq.keep k d _ h1) (DqAll.keep k ds _ h2)
end
mutual
theorem Dq.dp : ∀ (d : PyData) (v : V), Dq K H O v d → Dp K H v d
  | .none, _, h => by cases h; exact .non
  | .bool b, _, h => by cases h; exact .bl b
  | .int i, _, h => by cases h; exact .int i
  | .str x, _, h => by cases h; exact .str x
  | .list ds, _, h => by
    cases h with
    | lst no r all => exact .lst (.inl r) (DqAll.dp ds _ all)
  | .tuple ds, _, h => by
    cases h with
    | tup r all => exact .tup r (DqAll.dp ds _ all)
  | .dict _, _, h => by cases h
theorem DqAll.dp : ∀ (ds : List PyData) (vs : List V), DqAll K H O vs ds → DpAll K H vs ds
  | [], _, h => by cases h; exact .nil
  | d :: ds, _, h => by
    cases h with
    | cons h1 h2 => exact .cons (Dq.dp d _ h1) (DqAll.dp ds _ h2)
end
mutual
/-- fewer lists to keep away from -/
theorem Dq.less (k : ∀ q, O' q → O q) : ∀ (d : PyData) (v : V), Dq K H O v d → Dq K H O' v d
  | .none, _, h => by cases h; exact .non
  | .bool b, _, h => by cases h; exact .bl b
  | .int i, _, h => by cases h; exact .int i
  | .str x, _, h => by cases h; exact .str x
  | .list ds, _, h => by
    cases h with
    | lst no r all => exact .lst (fun z => no (k _ z)) r (DqAll.less k ds _ all)
  | .tuple ds, _, h => by
    cases h with
    | tup r all => exact .tup r (DqAll.less k ds _ all)
  | .dict _, _, h => by cases h
theorem DqAll.less (k : ∀ q, O' q → O q) : ∀ (ds : List PyData) (vs : List V), DqAll K H O vs ds → DqAll K H O' vs ds
  | [], _, h => by cases h; exact .nil
  | d :: ds, _, h => by
    cases h with
    | cons h1 h2 => exact .cons (Dq.less k d _ h1) (DqAll.less k ds _ h2)
end
theorem DqAll.length : ∀ {ds : List PyData} {vs : List V}, DqAll K H O vs ds → vs.length = ds.length
  | [], _, h => by cases h; rfl
  | d :: ds, _, h => by
    cases h with
    | cons h1 h2 => simp [DqAll.length h2]
theorem DqAll.append : ∀ {ds es : List PyData} {vs ws : List V}, DqAll K H O vs ds → DqAll K H O ws es → DqAll K H O (vs ++ ws) (ds ++ es)
  | [], _, _, _, h, h' => by cases h; exact h'
  | d :: ds, _, _, _, h, h' => by
    cases h with
    | cons h1 h2 => exact .cons h1 (DqAll.append h2 h')
theorem DqAll.get : ∀ {ds : List PyData} {vs : List V} {i : Nat} {d : PyData}, DqAll K H O vs ds → ds[i]? = some d → ∃ v, vs[i]? = some v ∧ Dq K H O v d
  | [], _, _, _, h, e => by simp at e
  | d :: ds, _, 0, x, h, e => by
    cases h with
    | cons h1 h2 =>
      simp at e
      subst e
      exact ⟨_, rfl, h1⟩
  | d :: ds, _, i + 1, x, h, e => by
    cases h with
    | cons h1 h2 =>
      obtain ⟨v, a, b⟩ := DqAll.get (i := i) (d := x) h2 (by simpa using e)
      exact ⟨v, by simpa using a, b⟩
theorem DqAll.get' : ∀ {ds : List PyData} {vs : List V} {i : Nat} {v : V}, DqAll K H O vs ds → vs[i]? = some v → ∃ d, ds[i]? = some d ∧ Dq K H O v d
  | [], _, _, _, h, e => by cases h; simp at e
  | d :: ds, _, 0, x, h, e => by
    cases h with
    | cons h1 h2 =>
      simp at e
      subst e
      exact ⟨_, rfl, h1⟩
  | d :: ds, _, i + 1, x, h, e => by
    cases h with
    | cons h1 h2 =>
      obtain ⟨v, a, b⟩ := DqAll.get' (i := i) (v := x) h2 (by simpa using e)
      exact ⟨v, by simpa using a, b⟩
theorem DqAll.set : ∀ {ds : List PyData} {vs : List V} {v : V} {d : PyData} (i : Nat), DqAll K H O vs ds → Dq K H O v d → DqAll K H O (vs.set i v) (ds.set i d)
  | [], _, _, _, _, h, _ => by cases h; exact .nil
  | d :: ds, _, _, _, 0, h, q => by
    cases h with
    | cons h1 h2 => exact .cons q h2
  | d :: ds, _, _, _, i + 1, h, q => by
    cases h with
    | cons h1 h2 => exact .cons h1 (DqAll.set i h2 q)
theorem DqAll.take : ∀ {ds : List PyData} {vs : List V} (n : Nat), DqAll K H O vs ds → DqAll K H O (vs.take n) (ds.take n)
  | _, _, 0, h => by simpa using DqAll.nil
  | [], _, n + 1, h => by cases h; exact .nil
  | d :: ds, _, n + 1, h => by
    cases h with
    | cons h1 h2 => exact .cons h1 (DqAll.take n h2)
theorem DqAll.drop : ∀ {ds : List PyData} {vs : List V} (n : Nat), DqAll K H O vs ds → DqAll K H O (vs.drop n) (ds.drop n)
  | _, _, 0, h => h
  | [], _, n + 1, h => by cases h; exact .nil
  | d :: ds, _, n + 1, h => by
    cases h with
    | cons h1 h2 => exact DqAll.drop n h2
theorem DqAll.reverse {ds : List PyData} {vs : List V} (h : DqAll K H O vs ds) : DqAll K H O vs.reverse ds.reverse := by
  induction ds generalizing vs with
  | nil => cases h; exact .nil
  | cons d ds ih =>
    cases h with
    | cons h1 h2 =>
      rw [List.reverse_cons, List.reverse_cons]
      exact (ih h2).append (.cons h1 .nil)
end
end L2.DL
end
section
set_option Elab.async false
set_option linter.all false
set_option maxRecDepth 100000
namespace L2.DL
open PySem PySem.Spec PyProof.Rows
set_option autoImplicit false

/-! ### states -/
def OwnAt (σ : St) (η : EnvD) (a : Addr) : Prop := ∃ (i : Nat) (b : Bool) (ds : List PyData), η[i]? = some (some (.own b ds)) ∧ σ[i]? = some (some (.ref a))
/-- an own list of the frame's, none of a caller's -/
def FreeAt (σ : St) (η : EnvD) (a : Addr) : Prop := ∃ (i : Nat) (ds : List PyData), η[i]? = some (some (.own false ds)) ∧ σ[i]? = some (some (.ref a))
def Avd (σ : St) (η : EnvD) (T : Addr → Prop) (a : Addr) : Prop := T a ∨ OwnAt σ η a
/-- an error object at a, of the class that nm names -/
def ExAt (K : Fg) (mg : Str → Option Value) (H : Hp) (O : Addr → Prop) (a : Addr) (nm : Str) (d : PyData) : Prop :=
  ∃ (C dd : Addr) (v : V), mg nm = some (.ref C) ∧ (∃ φ : Heap → Prop, (∀ h, φ h → ∃ oe vs, h.get? a = some oe ∧ Zc (.ref C) (some dd) oe ∧ oe.data = .fields vs) ∧ H a = some (.ext φ)) ∧ H dd = some (.xd [(("value" : Str), v)]) ∧ Dq K H O v d
structure Rp (K : Fg) (mg : Str → Option Value) (σ : St) (H : Hp) (η : EnvD) (T : Addr → Prop) : Prop where
  val : ∀ (i : Nat) (d : PyData), η[i]? = some (some (.val d)) → ∃ v, σ[i]? = some (some v) ∧ Dq K H (Avd σ η T) v d
  own : ∀ (i : Nat) (b : Bool) (ds : List PyData), η[i]? = some (some (.own b ds)) → ∃ a vs, σ[i]? = some (some (.ref a)) ∧ H a = some (.lst vs) ∧ DqAll K H (Avd σ η T) vs ds ∧ ¬ T a
  exc : ∀ (i : Nat) (nm : Str) (d : PyData), η[i]? = some (some (.exc nm d)) → ∃ a, σ[i]? = some (some (.ref a)) ∧ ExAt K mg H (Avd σ η T) a nm d
  inj : ∀ (i j : Nat) (b b' : Bool) (ds ds' : List PyData) (a : Addr), η[i]? = some (some (.own b ds)) → η[j]? = some (some (.own b' ds')) → σ[i]? = some (some (.ref a)) → σ[j]? = some (some (.ref a)) → i = j
  tl : ∀ a, T a → ∃ xs, H a = some (.lst xs)
  len : η.length ≤ σ.length
structure StepS (σ : St) (H : Hp) (η : EnvD) (σ' : St) (H' : Hp) (η' : EnvD) : Prop where
  tr : ∀ q, H' q = none → H q = none
  keep : ∀ q o, H q = some o → ¬ OwnAt σ η q → H' q = some o
  le : ∀ q, OwnAt σ' η' q → OwnAt σ η q ∨ H q = none
  leF : ∀ q, FreeAt σ' η' q → FreeAt σ η q ∨ H q = none
  inn : ∀ (i : Nat) (ds' : List PyData), η'[i]? = some (some (.own true ds')) → (∃ ds : List PyData, η[i]? = some (some (.own true ds))) ∧ σ'[i]? = σ[i]?
section
variable {K : Fg} {mg : Str → Option Value} {σ σ1 σ2 : St} {H H1 H2 : Hp} {η η1 η2 : EnvD} {T T' : Addr → Prop}
theorem StepS.refl : StepS σ H η σ H η := ⟨fun _ h => h, fun _ _ h _ => h, fun _ h => .inl h, fun _ h => .inl h, fun i ds h => ⟨⟨ds, h⟩, rfl⟩⟩
theorem StepS.trans (a : StepS σ H η σ1 H1 η1) (b : StepS σ1 H1 η1 σ2 H2 η2) : StepS σ H η σ2 H2 η2 where
  tr := fun q h => a.tr q (b.tr q h)
  keep := fun q o h n => b.keep q o (a.keep q o h n) fun z => by
    rcases a.le q z with z | z
    · exact n z
    · rw [h] at z; cases z
  le := fun q z => by
    rcases b.le q z with z | z
    · exact a.le q z
    · cases e : H q with
      | none => exact .inr rfl
      | some o =>
        by_cases w : OwnAt σ η q
        · exact .inl w
        · rw [a.keep q o e w] at z; cases z
  leF := fun q z => by
    rcases b.leF q z with z | z
    · exact a.leF q z
    · exact .inr (a.tr q z)
  inn := fun i ds z => by
    obtain ⟨⟨d1, z1⟩, e1⟩ := b.inn i ds z
    obtain ⟨z2, e2⟩ := a.inn i d1 z1
    exact ⟨z2, e1.trans e2⟩
/-- more is tracked, nothing else -/
theorem none_of_more (k : ∀ q o, H q = some o → H1 q = some o) (q : Addr) (h : H1 q = none) : H q = none := by
  cases e : H q with
  | none => rfl
  | some o => rw [k q o e] at h; cases h
theorem StepS.more (k : ∀ q o, H q = some o → H1 q = some o) : StepS σ H η σ H1 η := ⟨none_of_more k, fun q o h _ => k q o h, fun _ h => .inl h, fun _ h => .inl h, fun i ds h => ⟨⟨ds, h⟩, rfl⟩⟩
theorem Rp.avd (r : Rp K mg σ H η T) : ∀ q, Avd σ η T q → ∃ xs, H q = some (.lst xs) := fun q z => by
  rcases z with z | ⟨i, b, ds, z1, z2⟩
  · exact r.tl q z
  · obtain ⟨a, vs, e1, e2, _⟩ := r.own i b ds z1
    rw [z2] at e1; cases e1
    exact ⟨vs, e2⟩
theorem Rp.kp (r : Rp K mg σ H η T) (s : StepS σ H η σ1 H1 η1) : Kp (Avd σ η T) (Avd σ1 η1 T) H H1 where
  keep := fun q o h n => s.keep q o h fun z => n (.inr z)
  lsts := r.avd
  less := fun q z => by
    rcases z with z | z
    · exact .inl (.inl z)
    · rcases s.le q z with z | z
      · exact .inl (.inr z)
      · exact .inr z
theorem Rp.old (r : Rp K mg σ H η T) (s : StepS σ H η σ1 H1 η1) {v : V} {d : PyData} (h : Dq K H (Avd σ η T) v d) : Dq K H1 (Avd σ1 η1 T) v d := Dq.keep (r.kp s) d v h
theorem Rp.olds (r : Rp K mg σ H η T) (s : StepS σ H η σ1 H1 η1) {vs : List V} {ds : List PyData} (h : DqAll K H (Avd σ η T) vs ds) : DqAll K H1 (Avd σ1 η1 T) vs ds := DqAll.keep (r.kp s) ds vs h
theorem ExAt.kp {O O' : Addr → Prop} {a : Addr} {nm : Str} {d : PyData} (k : Kp O O' H H1) (h : ExAt K mg H O a nm d) : ExAt K mg H1 O' a nm d := by
  obtain ⟨C, dd, v, e, ⟨φ, p, ea⟩, ed, q⟩ := h
  refine ⟨C, dd, v, e, ⟨φ, p, k.keep _ _ ea fun z => ?_⟩, k.keep _ _ ed fun z => ?_, Dq.keep k d v q⟩
  · obtain ⟨xs, w⟩ := k.lsts _ z
    rw [ea] at w; cases w
  · obtain ⟨xs, w⟩ := k.lsts _ z
    rw [ed] at w; cases w
/-- the heap grows, the slots stay -/
theorem Rp.more (r : Rp K mg σ H η T) (k : ∀ q o, H q = some o → H1 q = some o) : Rp K mg σ H1 η T := by
  have kp : Kp (Avd σ η T) (Avd σ η T) H H1 := r.kp (StepS.more k)
  refine ⟨fun i d h => ?_, fun i b ds h => ?_, fun i nm d h => ?_, r.inj, fun a h => ?_, ?_⟩
  · obtain ⟨v, e, q⟩ := r.val i d h
    exact ⟨v, e, Dq.keep kp d v q⟩
  · obtain ⟨a, vs, e, e2, q, n⟩ := r.own i b ds h
    exact ⟨a, vs, e, k _ _ e2, DqAll.keep kp ds vs q, n⟩
  · obtain ⟨a, e, q⟩ := r.exc i nm d h
    exact ⟨a, e, q.kp kp⟩
  · obtain ⟨xs, e⟩ := r.tl a h
    exact ⟨xs, k _ _ e⟩
  · exact r.len
theorem ExAt.less {O O' : Addr → Prop} {a : Addr} {nm : Str} {d : PyData} (k : ∀ q, O' q → O q) (h : ExAt K mg H O a nm d) : ExAt K mg H O' a nm d := by
  obtain ⟨C, dd, v, e, x, ed, q⟩ := h
  exact ⟨C, dd, v, e, x, ed, Dq.less k d v q⟩
/-- fewer lists told apart -/
theorem Rp.lessT (r : Rp K mg σ H η T) (k : ∀ q, T' q → T q) : Rp K mg σ H η T' := by
  have kA : ∀ q, Avd σ η T' q → Avd σ η T q := fun q z => z.imp (k q) id
  refine ⟨fun i d h => ?_, fun i b ds h => ?_, fun i nm d h => ?_, r.inj, fun a h => r.tl a (k a h), r.len⟩
  · obtain ⟨v, e, q⟩ := r.val i d h
    exact ⟨v, e, Dq.less kA d v q⟩
  · obtain ⟨a, vs, e, e2, q, n⟩ := r.own i b ds h
    exact ⟨a, vs, e, e2, DqAll.less kA ds vs q, fun z => n (k _ z)⟩
  · obtain ⟨a, e, q⟩ := r.exc i nm d h
    exact ⟨a, e, q.less kA⟩

/-! ### a slot is changed -/
/-- slots whose knowledge shrinks (to data known beside it, or to nothing), the values the same -/
theorem set_get {α : Type} {l : List α} {i j : Nat} {x y : α} (h : (l.set i x)[j]? = some y) : (i = j ∧ y = x) ∨ (i ≠ j ∧ l[j]? = some y) := by
  by_cases e : i = j
  · subst e
    by_cases hl : i < l.length
    · rw [List.getElem?_set_self hl] at h
      exact .inl ⟨rfl, (Option.some.inj h).symm⟩
    · rw [List.getElem?_eq_none (by simpa using hl)] at h; cases h
  · rw [List.getElem?_set_ne e] at h
    exact .inr ⟨e, h⟩
theorem own_set {i : Nat} {s : Option Slot} (hs : ∀ (b : Bool) (ds : List PyData), s ≠ some (.own b ds)) {q : Addr} (h : OwnAt σ (η.set i s) q) : OwnAt σ η q := by
  obtain ⟨j, b, ds, e1, e2⟩ := h
  rcases set_get e1 with ⟨_, e⟩ | ⟨_, e⟩
  · exact absurd e.symm (hs b ds)
  · exact ⟨j, b, ds, e, e2⟩
theorem free_set {i : Nat} {s : Option Slot} (hs : ∀ (b : Bool) (ds : List PyData), s ≠ some (.own b ds)) {q : Addr} (h : FreeAt σ (η.set i s) q) : FreeAt σ η q := by
  obtain ⟨j, ds, e1, e2⟩ := h
  rcases set_get e1 with ⟨_, e⟩ | ⟨_, e⟩
  · exact absurd e.symm (hs false ds)
  · exact ⟨j, ds, e, e2⟩
/-- own becomes data: the list is lent out for good -/
theorem Rp.freeze {i : Nat} {b : Bool} {ds : List PyData} {a : Addr} (r : Rp K mg σ H η T) (h : η[i]? = some (some (.own b ds))) (hv : σ[i]? = some (some (.ref a))) :
    Rp K mg σ H (η.set i (some (.val (.list ds)))) T ∧ Dq K H (Avd σ (η.set i (some (.val (.list ds)))) T) (.ref a) (.list ds) := by
  have kA : ∀ q, Avd σ (η.set i (some (.val (.list ds)))) T q → Avd σ η T q := fun q z => z.imp id (own_set (fun _ _ z => by cases z))
  obtain ⟨a', vs, e1, e2, q, n⟩ := r.own i b ds h
  rw [hv] at e1; cases e1
  have me : Dq K H (Avd σ (η.set i (some (.val (.list ds)))) T) (.ref a) (.list ds) := by
    refine .lst (fun z => ?_) (.inl e2) (DqAll.less kA ds vs q)
    rcases z with z | ⟨j, b', ds', z1, z2⟩
    · exact n z
    · rcases set_get z1 with ⟨_, e⟩ | ⟨ne, e⟩
      · cases e
      · exact ne (r.inj i j b b' ds ds' a h e hv z2)
  refine ⟨⟨fun j d h' => ?_, fun j b' ds' h' => ?_, fun j nm d h' => ?_, fun j k b1 b2 d1 d2 a' h1 h2 => ?_, r.tl, by simpa using r.len⟩, me⟩
  · rcases set_get h' with ⟨e, e'⟩ | ⟨_, e⟩
    · cases e'
      subst e
      exact ⟨.ref a, hv, me⟩
    · obtain ⟨v, e1, q1⟩ := r.val j d e
      exact ⟨v, e1, Dq.less kA d v q1⟩
  · rcases set_get h' with ⟨e, e'⟩ | ⟨_, e⟩
    · cases e'
    · obtain ⟨a2, vs2, e1, e2, q1, n1⟩ := r.own j b' ds' e
      exact ⟨a2, vs2, e1, e2, DqAll.less kA ds' vs2 q1, n1⟩
  · rcases set_get h' with ⟨e, e'⟩ | ⟨_, e⟩
    · cases e'
    · obtain ⟨a2, e1, q1⟩ := r.exc j nm d e
      exact ⟨a2, e1, q1.less kA⟩
  · rcases set_get h1 with ⟨_, e⟩ | ⟨_, e⟩
    · cases e
    · rcases set_get h2 with ⟨_, e'⟩ | ⟨_, e'⟩
      · cases e'
      · exact r.inj j k b1 b2 d1 d2 a' e e'
/-- a slot forgotten -/
theorem Rp.drop {i : Nat} (r : Rp K mg σ H η T) : Rp K mg σ H (η.set i none) T := by
  have kA : ∀ q, Avd σ (η.set i none) T q → Avd σ η T q := fun q z => z.imp id (own_set (fun _ _ z => by cases z))
  refine ⟨fun j d h' => ?_, fun j b' ds' h' => ?_, fun j nm d h' => ?_, fun j k b1 b2 d1 d2 a' h1 h2 => ?_, r.tl, by simpa using r.len⟩
  · rcases set_get h' with ⟨e, e'⟩ | ⟨_, e⟩
    · cases e'
    · obtain ⟨v, e1, q1⟩ := r.val j d e
      exact ⟨v, e1, Dq.less kA d v q1⟩
  · rcases set_get h' with ⟨e, e'⟩ | ⟨_, e⟩
    · cases e'
    · obtain ⟨a2, vs2, e1, e2, q1, n1⟩ := r.own j b' ds' e
      exact ⟨a2, vs2, e1, e2, DqAll.less kA ds' vs2 q1, n1⟩
  · rcases set_get h' with ⟨e, e'⟩ | ⟨_, e⟩
    · cases e'
    · obtain ⟨a2, e1, q1⟩ := r.exc j nm d e
      exact ⟨a2, e1, q1.less kA⟩
  · rcases set_get h1 with ⟨_, e⟩ | ⟨_, e⟩
    · cases e
    · rcases set_get h2 with ⟨_, e'⟩ | ⟨_, e'⟩
      · cases e'
      · exact r.inj j k b1 b2 d1 d2 a' e e'
theorem StepS.set {i : Nat} {s : Option Slot} (hs : ∀ (b : Bool) (ds : List PyData), s ≠ some (.own b ds)) : StepS σ H η σ H (η.set i s) := by
  refine ⟨fun _ h => h, fun _ _ h _ => h, fun q z => .inl (own_set hs z), fun q z => .inl (free_set hs z), fun j ds z => ?_⟩
  rcases set_get z with ⟨_, e⟩ | ⟨_, e⟩
  · exact absurd e.symm (hs true ds)
  · exact ⟨⟨ds, e⟩, rfl⟩
/-- a name is stored: data -/
theorem Rp.store {i : Nat} {v : V} {d : PyData} (r : Rp K mg σ H η T) (hq : Dq K H (Avd σ η T) v d) : Rp K mg (σ.set i (some v)) H (η.set i (some (.val d))) T ∧ ((∀ ds : List PyData, η[i]? ≠ some (some (.own true ds))) → StepS σ H η (σ.set i (some v)) H (η.set i (some (.val d)))) := by
  have own : ∀ q, OwnAt (σ.set i (some v)) (η.set i (some (.val d))) q → OwnAt σ η q := fun q ⟨j, b, ds, e1, e2⟩ => by
    rcases set_get e1 with ⟨_, e⟩ | ⟨ne, e⟩
    · cases e
    · rcases set_get e2 with ⟨e', _⟩ | ⟨_, e'⟩
      · exact absurd e' ne
      · exact ⟨j, b, ds, e, e'⟩
  have free : ∀ q, FreeAt (σ.set i (some v)) (η.set i (some (.val d))) q → FreeAt σ η q := fun q ⟨j, ds, e1, e2⟩ => by
    rcases set_get e1 with ⟨_, e⟩ | ⟨ne, e⟩
    · cases e
    · rcases set_get e2 with ⟨e', _⟩ | ⟨_, e'⟩
      · exact absurd e' ne
      · exact ⟨j, ds, e, e'⟩
  have kA : ∀ q, Avd (σ.set i (some v)) (η.set i (some (.val d))) T q → Avd σ η T q := fun q z => z.imp id (own q)
  refine ⟨⟨fun j d' h' => ?_, fun j b' ds' h' => ?_, fun j nm d' h' => ?_, fun j k b1 b2 d1 d2 a' h1 h2 h3 h4 => ?_, r.tl, by simpa using r.len⟩, fun ni => ⟨fun _ h => h, fun _ _ h _ => h, fun q z => .inl (own q z), fun q z => .inl (free q z), fun j ds z => ?_⟩⟩
  · rcases set_get h' with ⟨e, e'⟩ | ⟨ne, e⟩
    · cases e'
      subst e
      have hl : i < σ.length := by
        have z := (List.getElem?_eq_some_iff.mp h').1
        have := r.len
        simp at z
        omega
      exact ⟨v, List.getElem?_set_self hl, Dq.less kA d v hq⟩
    · obtain ⟨v', e1, q1⟩ := r.val j d' e
      exact ⟨v', by rw [List.getElem?_set_ne ne]; exact e1, Dq.less kA d' v' q1⟩
  · rcases set_get h' with ⟨e, e'⟩ | ⟨ne, e⟩
    · cases e'
    · obtain ⟨a2, vs2, e1, e2, q1, n1⟩ := r.own j b' ds' e
      exact ⟨a2, vs2, by rw [List.getElem?_set_ne ne]; exact e1, e2, DqAll.less kA ds' vs2 q1, n1⟩
  · rcases set_get h' with ⟨e, e'⟩ | ⟨ne, e⟩
    · cases e'
    · obtain ⟨a2, e1, q1⟩ := r.exc j nm d' e
      exact ⟨a2, by rw [List.getElem?_set_ne ne]; exact e1, q1.less kA⟩
  · rcases set_get h1 with ⟨_, e⟩ | ⟨ne, e⟩
    · cases e
    · rcases set_get h2 with ⟨_, e'⟩ | ⟨ne', e'⟩
      · cases e'
      · rw [List.getElem?_set_ne ne] at h3
        rw [List.getElem?_set_ne ne'] at h4
        exact r.inj j k b1 b2 d1 d2 a' e e' h3 h4
  · rcases set_get z with ⟨_, e⟩ | ⟨ne, e⟩
    · cases e
    · exact ⟨⟨ds, e⟩, List.getElem?_set_ne ne⟩
/-- a name is stored: a list that nobody else holds -/
theorem Rp.storeL {i : Nat} {a : Addr} {vs : List V} {ds : List PyData} (r : Rp K mg σ H η (fun q => T q ∨ q = a)) (ea : H a = some (.lst vs)) (hq : DqAll K H (Avd σ η fun q => T q ∨ q = a) vs ds) (no : ¬ Avd σ η T a) :
    Rp K mg (σ.set i (some (.ref a))) H (η.set i (some (.own false ds))) T ∧
    (∀ q, OwnAt (σ.set i (some (.ref a))) (η.set i (some (.own false ds))) q → OwnAt σ η q ∨ q = a) ∧ (∀ q, FreeAt (σ.set i (some (.ref a))) (η.set i (some (.own false ds))) q → FreeAt σ η q ∨ q = a) ∧
    ((∀ ds : List PyData, η[i]? ≠ some (some (.own true ds))) → ∀ (j : Nat) (ds' : List PyData), (η.set i (some (.own false ds)))[j]? = some (some (.own true ds')) → (∃ ds : List PyData, η[j]? = some (some (.own true ds))) ∧ (σ.set i (some (.ref a)))[j]? = σ[j]?) := by
  have own : ∀ q, OwnAt (σ.set i (some (.ref a))) (η.set i (some (.own false ds))) q → OwnAt σ η q ∨ q = a := fun q ⟨j, b, ds, e1, e2⟩ => by
    rcases set_get e1 with ⟨ij, e⟩ | ⟨ne, e⟩
    · subst ij
      rcases set_get e2 with ⟨_, e'⟩ | ⟨n, _⟩
      · cases e'; exact .inr rfl
      · exact absurd rfl n
    · rcases set_get e2 with ⟨e', _⟩ | ⟨_, e'⟩
      · exact absurd e' ne
      · exact .inl ⟨j, b, ds, e, e'⟩
  have free : ∀ q, FreeAt (σ.set i (some (.ref a))) (η.set i (some (.own false ds))) q → FreeAt σ η q ∨ q = a := fun q ⟨j, ds, e1, e2⟩ => by
    rcases set_get e1 with ⟨ij, e⟩ | ⟨ne, e⟩
    · subst ij
      rcases set_get e2 with ⟨_, e'⟩ | ⟨n, _⟩
      · cases e'; exact .inr rfl
      · exact absurd rfl n
    · rcases set_get e2 with ⟨e', _⟩ | ⟨_, e'⟩
      · exact absurd e' ne
      · exact .inl ⟨j, ds, e, e'⟩
  have kA : ∀ q, Avd (σ.set i (some (.ref a))) (η.set i (some (.own false ds))) T q → Avd σ η (fun q => T q ∨ q = a) q := fun q z => by
    rcases z with z | z
    · exact .inl (.inl z)
    · rcases own q z with z | z
      · exact .inr z
      · exact .inl (.inr z)
  refine ⟨⟨fun j d' h' => ?_, fun j b' ds' h' => ?_, fun j nm d' h' => ?_, fun j k b1 b2 d1 d2 a' h1 h2 h3 h4 => ?_, fun q z => r.tl q (.inl z), by simpa using r.len⟩, own, free, fun ni j ds' z => ?_⟩
  · rcases set_get h' with ⟨e, e'⟩ | ⟨ne, e⟩
    · cases e'
    · obtain ⟨v', e1, q1⟩ := r.val j d' e
      exact ⟨v', by rw [List.getElem?_set_ne ne]; exact e1, Dq.less kA d' v' q1⟩
  · rcases set_get h' with ⟨e, e'⟩ | ⟨ne, e⟩
    · cases e'
      subst e
      have hl : i < σ.length := by
        have z := (List.getElem?_eq_some_iff.mp h').1
        have := r.len
        simp at z
        omega
      exact ⟨a, vs, List.getElem?_set_self hl, ea, DqAll.less kA _ _ hq, fun z => no (.inl z)⟩
    · obtain ⟨a2, vs2, e1, e2, q1, n1⟩ := r.own j b' ds' e
      exact ⟨a2, vs2, by rw [List.getElem?_set_ne ne]; exact e1, e2, DqAll.less kA ds' vs2 q1, fun z => n1 (.inl z)⟩
  · rcases set_get h' with ⟨e, e'⟩ | ⟨ne, e⟩
    · cases e'
    · obtain ⟨a2, e1, q1⟩ := r.exc j nm d' e
      exact ⟨a2, by rw [List.getElem?_set_ne ne]; exact e1, q1.less kA⟩
  · have na : ∀ {j : Nat} {b : Bool} {d : List PyData}, η[j]? = some (some (.own b d)) → σ[j]? ≠ some (some (.ref a)) := fun {j b d} h e => no (.inr ⟨j, b, d, h, e⟩)
    rcases set_get h1 with ⟨ij, e⟩ | ⟨ne, e⟩
    · subst ij
      rcases set_get h3 with ⟨_, e3⟩ | ⟨n, _⟩
      · cases e3
        rcases set_get h2 with ⟨ik, _⟩ | ⟨nk, e2⟩
        · exact ik
        · rw [List.getElem?_set_ne nk] at h4
          exact absurd h4 (na e2)
      · exact absurd rfl n
    · rw [List.getElem?_set_ne ne] at h3
      rcases set_get h2 with ⟨ik, _⟩ | ⟨nk, e2⟩
      · subst ik
        rcases set_get h4 with ⟨_, e4⟩ | ⟨n, _⟩
        · cases e4
          exact absurd h3 (na e)
        · exact absurd rfl n
      · rw [List.getElem?_set_ne nk] at h4
        exact r.inj j k b1 b2 d1 d2 a' e e2 h3 h4
  · rcases set_get z with ⟨_, e⟩ | ⟨ne, e⟩
    · cases e
    · exact ⟨⟨ds', e⟩, List.getElem?_set_ne ne⟩
end
end L2.DL
end
section
set_option Elab.async false
set_option linter.all false
set_option maxRecDepth 100000
namespace L2.DL
open PySem PySem.Spec PyProof.Rows
set_option autoImplicit false

/-! ### programs over slots -/
inductive R (α : Type) where
  | ok (a : α)
  | exc (nm : Str) (d : PyData)
abbrev MX (α : Type) := EnvD → Option (R α × EnvD)
def mPure {α : Type} (a : α) : MX α := fun η => some (.ok a, η)
def mBind {α β : Type} (m : MX α) (k : α → MX β) : MX β := fun η =>
  match m η with
  | some (.ok x, η1) => k x η1
  | some (.exc n d, η1) => some (.exc n d, η1)
  | none => none
def mLift {α : Type} (o : Option α) : MX α := fun η => match o with
  | some a => some (.ok a, η)
  | none => none

def ExcOut (K : Fg) (mg : Str → Option Value) (H : Hp) (O : Addr → Prop) (cls : Value) (dd : Option Addr) (nm : Str) (d : PyData) : Prop :=
  ∃ (C a : Addr) (v : V), mg nm = some (.ref C) ∧ cls = .ref C ∧ dd = some a ∧ H a = some (.xd [(("value" : Str), v)]) ∧ Dq K H O v d
/-- data, or an own list whose items are kept apart: for those who read it at once -/
def Bq (K : Fg) (H : Hp) (O : Addr → Prop) (v : V) (d : PyData) : Prop := Dq K H O v d ∨ ∃ a vs ds, v = .ref a ∧ d = .list ds ∧ H a = some (.lst vs) ∧ DqAll K H O vs ds
/-- what is wanted behind a part: β is the wish's type, α the result's -/
abbrev Ps (α β : Type) := St → Hp → EnvD → (Addr → Prop) → β → α → EnvD → Prop
section
variable (K : Fg) (mg : Str → Option Value)
def PD : Ps PyData VK := fun σ H η T Q x η' => ∀ v H', StepS σ H η σ H' η' → Rp K mg σ H' η' T → Dq K H' (Avd σ η' T) v x → Q v H'
/-- the value may lie in an own list of the frame's: for those who read it at once -/
def PB : Ps PyData VK := fun σ H η T Q x η' => ∀ v H', StepS σ H η σ H' η' → Rp K mg σ H' η' T → Bq K H' (Avd σ η' T) v x → Q v H'
def PL : Ps (List PyData) VK := fun σ H η T Q xs η' =>
  ∀ a vs H', StepS σ H η σ H' η' → H a = none → H' a = some (.lst vs) → Rp K mg σ H' η' (fun q => T q ∨ q = a) → DqAll K H' (Avd σ η' fun q => T q ∨ q = a) vs xs → ¬ Avd σ η' T a → Q (.ref a) H'
def PTs : Ps Bool (Bool → Hp → Prop) := fun σ H η T Q b η' => ∀ H', StepS σ H η σ H' η' → Rp K mg σ H' η' T → Q b H'
def PAs : Ps (List PyData) (List V → Hp → Prop) := fun σ H η T Q xs η' => ∀ vs H', StepS σ H η σ H' η' → Rp K mg σ H' η' T → DqAll K H' (Avd σ η' T) vs xs → Q vs H'
def PX (W : WX) : St → Hp → EnvD → (Addr → Prop) → Str → PyData → EnvD → Prop := fun σ H η T nm x η' =>
  ∀ cls dd σ' H', StepS σ H η σ' H' η' → Rp K mg σ' H' η' T → ExcOut K mg H' (Avd σ' η' T) cls dd nm x → W cls dd σ' H'
def Nx {α β : Type} (W : WX) (P : Ps α β) (σ : St) (H : Hp) (η : EnvD) (T : Addr → Prop) (Q : β) (out : Option (R α × EnvD)) : Prop :=
  ∃ o η', out = some (o, η') ∧ match o with
    | .ok y => P σ H η T Q y η'
    | .exc nm y => PX K mg W σ H η T nm y η'
def tG {α β : Type} (W : WX) (P : Ps α β) (m : MX α) : St → Hp → β → Prop := fun σ H Q => ∃ η T, Rp K mg σ H η T ∧ Nx K mg W P σ H η T Q (m η)
abbrev tD (W : WX) (m : MX PyData) : TE := tG K mg W (PD K mg) m
abbrev tBo (W : WX) (m : MX PyData) : TE := tG K mg W (PB K mg) m
abbrev tF (W : WX) (m : MX (List PyData)) : TE := tG K mg W (PL K mg) m
abbrev tTs (W : WX) (m : MX Bool) : TT := tG K mg W (PTs K mg) m
abbrev tAr (W : WX) (m : MX (List PyData)) : TA := tG K mg W (PAs K mg) m
end

/-! ### the judgements -/
def DE (X : Cx) (W : WX) (e : Expr) (m : MX PyData) : Prop := PE X e (tD X.K X.mg W m)
def DB (X : Cx) (W : WX) (e : Expr) (m : MX PyData) : Prop := PE X e (tBo X.K X.mg W m)
def DF (X : Cx) (W : WX) (e : Expr) (m : MX (List PyData)) : Prop := PE X e (tF X.K X.mg W m)
def DT (X : Cx) (W : WX) (e : Expr) (m : MX Bool) : Prop := PT X e (tTs X.K X.mg W m)
def DW (X : Cx) (W : WX) (e : Expr) (m : MX Bool) : Prop := PW X e (tTs X.K X.mg W m)
def DA (X : Cx) (W : WX) (es : List Expr) (m : MX (List PyData)) : Prop := PA X es (tAr X.K X.mg W m)

theorem PE.imp {X : Cx} {e : Expr} {t t' : TE} (h : PE X e t) (i : ∀ σ H Q, t' σ H Q → t σ H Q) : PE X e t' := ⟨fun pins s σ H Q I hw => h.run pins s σ H Q I (i σ H Q hw)⟩
theorem PT.imp {X : Cx} {e : Expr} {t t' : TT} (h : PT X e t) (i : ∀ σ H Q, t' σ H Q → t σ H Q) : PT X e t' := ⟨fun pins s σ H Q I hw => h.run pins s σ H Q I (i σ H Q hw)⟩
theorem PW.imp {X : Cx} {e : Expr} {t t' : TT} (h : PW X e t) (i : ∀ σ H Q, t' σ H Q → t σ H Q) : PW X e t' := ⟨fun p pins s σ H Q I hw => h.run p pins s σ H Q I (i σ H Q hw)⟩
theorem PA.imp {X : Cx} {e : List Expr} {t t' : TA} (h : PA X e t) (i : ∀ σ H Q, t' σ H Q → t σ H Q) : PA X e t' := ⟨fun p pins s σ H Q I hw => h.run p pins s σ H Q I (i σ H Q hw)⟩
theorem PS.imp {X : Cx} {e : Stmt} {t t' : TS} (h : PS X e t) (i : ∀ D σ H, t' D σ H → t D σ H) : PS X e t' := ⟨fun pins s σ H D I hw => h.run pins s σ H D I (i D σ H hw)⟩
theorem PSs.imp {X : Cx} {e : List Stmt} {t t' : TS} (h : PSs X e t) (i : ∀ D σ H, t' D σ H → t D σ H) : PSs X e t' := ⟨fun pins s σ H D I hw => h.run pins s σ H D I (i D σ H hw)⟩

section
variable {K : Fg} {mg : Str → Option Value} {W : WX} {σ : St} {H H1 H2 : Hp} {η η1 η2 : EnvD} {T : Addr → Prop} {α β γ δ : Type}
/-- a wish that may be asked later -/
def Later (P : Ps α β) : Prop := ∀ σ H η T Q x η' H1 η1, StepS σ H η σ H1 η1 → P σ H η T Q x η' → P σ H1 η1 T Q x η'
theorem PD.later : Later (PD K mg) := fun σ H η T Q x η' H1 η1 s p v H' s' r q => p v H' (s.trans s') r q
theorem PB.later : Later (PB K mg) := fun σ H η T Q x η' H1 η1 s p v H' s' r q => p v H' (s.trans s') r q
theorem PTs.later : Later (PTs K mg) := fun σ H η T Q x η' H1 η1 s p H' s' r => p H' (s.trans s') r
theorem PAs.later : Later (PAs K mg) := fun σ H η T Q x η' H1 η1 s p v H' s' r q => p v H' (s.trans s') r q
theorem PL.later : Later (PL K mg) := fun σ H η T Q x η' H1 η1 s p a vs H' s' n => p a vs H' (s.trans s') (s.tr a n)
theorem PX.later {nm : Str} {x : PyData} (s : StepS σ H η σ H1 η1) (p : PX K mg W σ H η T nm x η2) : PX K mg W σ H1 η1 T nm x η2 :=
  fun cls dd σ' H' s' r q => p cls dd σ' H' (s.trans s') r q
theorem Nx.later {P : Ps α β} (hP : Later P) {Q : β} {out : Option (R α × EnvD)} (s : StepS σ H η σ H1 η1) (h : Nx K mg W P σ H η T Q out) : Nx K mg W P σ H1 η1 T Q out := by
  obtain ⟨o, η', e, p⟩ := h
  refine ⟨o, η', e, ?_⟩
  cases o with
  | ok y => exact hP _ _ _ _ _ _ _ _ _ s p
  | exc nm y => exact PX.later s p
theorem Nx.bind {P : Ps α β} {P' : Ps γ δ} {m : MX α} {k : α → MX γ} {Q : δ} {Q1 : β} (h : Nx K mg W P' σ H η T Q (mBind m k η))
    (h1 : ∀ x η1, m η = some (.ok x, η1) → Nx K mg W P' σ H η T Q (k x η1) → P σ H η T Q1 x η1) : Nx K mg W P σ H η T Q1 (m η) := by
  obtain ⟨o, η', e, p⟩ := h
  unfold mBind at e
  split at e
  · rename_i x η1 e1
    exact ⟨.ok x, η1, e1, h1 x η1 e1 ⟨o, η', e, p⟩⟩
  · rename_i n d η1 e1
    cases e
    exact ⟨.exc n d, η', e1, p⟩
  · cases e
theorem Nx.lift {P : Ps α β} {Q : β} {o : Option α} (h : Nx K mg W P σ H η T Q (mLift o η1)) : ∃ x, o = some x ∧ P σ H η T Q x η1 := by
  obtain ⟨o', η', e, p⟩ := h
  unfold mLift at e
  split at e
  · cases e
    exact ⟨_, rfl, p⟩
  · cases e
theorem Nx.pure {P : Ps α β} {Q : β} {x : α} (h : Nx K mg W P σ H η T Q (mPure x η1)) : P σ H η T Q x η1 := by
  obtain ⟨o', η', e, p⟩ := h
  unfold mPure at e
  cases e
  exact p
theorem Nx.imp {P : Ps α β} {P' : Ps α δ} {Q : β} {Q' : δ} {out : Option (R α × EnvD)} (h : Nx K mg W P σ H η T Q out) (i : ∀ x η', out = some (.ok x, η') → P σ H η T Q x η' → P' σ H η T Q' x η') : Nx K mg W P' σ H η T Q' out := by
  obtain ⟨o, η', e, p⟩ := h
  refine ⟨o, η', e, ?_⟩
  cases o with
  | ok y => exact i y η' e p
  | exc nm y => exact p
end

/-! ### data by values -/
def Lists (H : Hp) (O : Addr → Prop) : Prop := ∀ q, O q → ∃ xs, H q = some (.lst xs)
def More (H H' : Hp) : Prop := ∀ q o, H q = some o → H' q = some o
theorem More.refl {H : Hp} : More H H := fun _ _ h => h
theorem More.upd {H : Hp} {a : Addr} {o : HO} (h : H a = none) : More H (upd H a o) := fun q u e => by
  rw [upd_ne (ne_of_none e h)]; exact e
theorem More.kp {H H' : Hp} {O : Addr → Prop} (k : More H H') (l : Lists H O) : Kp O O H H' := ⟨fun q o h _ => k q o h, l, fun q h => .inl h⟩
section
variable {K : Fg} {H H' : Hp} {O : Addr → Prop}
theorem Dq.more {v : V} {d : PyData} (h : Dq K H O v d) (l : Lists H O) (k : More H H') : Dq K H' O v d := Dq.keep (k.kp l) d v h
theorem DqAll.more {v : List V} {d : List PyData} (h : DqAll K H O v d) (l : Lists H O) (k : More H H') : DqAll K H' O v d := DqAll.keep (k.kp l) d v h
theorem Lists.no {a : Addr} (l : Lists H O) (h : H a = none) : ¬ O a := fun z => by
  obtain ⟨xs, e⟩ := l a z
  rw [h] at e; cases e
/-- a new list beside what is to be kept away from -/
theorem DqAll.beside {a : Addr} {v : List V} {d : List PyData} (h : DqAll K H O v d) (l : Lists H O) (n : H a = none) (k : More H H') : DqAll K H' (fun q => O q ∨ q = a) v d := by
  refine DqAll.keep ⟨fun q o h _ => k q o h, l, fun q z => ?_⟩ d v h
  rcases z with z | z
  · exact .inl z
  · subst z; exact .inr n
end
/-- a two-place rule by values gives data -/
def OpG (K : Fg) (r : R2) (g : PyData → PyData → Option PyData) : Prop :=
  ∀ x y d e z H O Q, Lists H O → Dq K H O x d → Dq K H O y e → g d e = some z → (∀ v H', More H H' → Dq K H' O v z → Q v H') → r x y H Q
/-- .. a new list -/
def OpL (K : Fg) (r : R2) (g : PyData → PyData → Option (List PyData)) : Prop :=
  ∀ x y d e zs H O Q, Lists H O → Dq K H O x d → Dq K H O y e → g d e = some zs → (∀ a vs, H a = none → DqAll K H O vs zs → Q (.ref a) (upd H a (.lst vs))) → r x y H Q
/-- one place, or a call: the arguments' data -/
def CaG (K : Fg) (r : List V → Hp → VK → Prop) (g : List PyData → Option PyData) : Prop :=
  ∀ xs ds z H O Q, Lists H O → DqAll K H O xs ds → g ds = some z → (∀ v H', More H H' → Dq K H' O v z → Q v H') → r xs H Q
def CaL (K : Fg) (r : List V → Hp → VK → Prop) (g : List PyData → Option (List PyData)) : Prop :=
  ∀ xs ds zs H O Q, Lists H O → DqAll K H O xs ds → g ds = some zs → (∀ a vs, H a = none → DqAll K H O vs zs → Q (.ref a) (upd H a (.lst vs))) → r xs H Q

def mOp (g : PyData → PyData → Option PyData) (ma mb : MX PyData) : MX PyData := mBind ma fun x => mBind mb fun y => mLift (g x y)
def mOpL (g : PyData → PyData → Option (List PyData)) (ma mb : MX PyData) : MX (List PyData) := mBind ma fun x => mBind mb fun y => mLift (g x y)
def mFz (m : MX (List PyData)) : MX PyData := mBind m fun xs => mPure (.list xs)

section
variable {K : Fg} {mg : Str → Option Value} {σ : St} {H H2 : Hp} {η η' η2 : EnvD} {T : Addr → Prop}
theorem Rp.lists (r : Rp K mg σ H η T) : Lists H (Avd σ η T) := r.avd
theorem avdT {a : Addr} {q : Addr} (z : Avd σ η (fun q => T q ∨ q = a) q) : Avd σ η T q ∨ q = a := by
  rcases z with (z | z) | z
  · exact .inl (.inl z)
  · exact .inr z
  · exact .inl (.inr z)
/-- a new list is told apart -/
theorem Rp.new' {H' : Hp} {a : Addr} {vs : List V} (r : Rp K mg σ H η T) (n : H a = none) (k : More H H') (ea : H' a = some (.lst vs)) : Rp K mg σ H' η (fun q => T q ∨ q = a) := by
  have kp : Kp (Avd σ η T) (Avd σ η fun q => T q ∨ q = a) H H' := ⟨fun q o h _ => k q o h, r.avd, fun q z => by
    rcases avdT z with z | z
    · exact .inl z
    · subst z; exact .inr n⟩
  refine ⟨fun i d h => ?_, fun i b ds h => ?_, fun i nm d h => ?_, r.inj, fun q h => ?_, r.len⟩
  · obtain ⟨v, e, q⟩ := r.val i d h
    exact ⟨v, e, Dq.keep kp d v q⟩
  · obtain ⟨a', vs, e, e2, q, nt⟩ := r.own i b ds h
    refine ⟨a', vs, e, k _ _ e2, DqAll.keep kp ds vs q, fun z => ?_⟩
    rcases z with z | z
    · exact nt z
    · rw [z, n] at e2; cases e2
  · obtain ⟨a', e, q⟩ := r.exc i nm d h
    exact ⟨a', e, q.kp kp⟩
  · rcases h with h | h
    · obtain ⟨xs, e⟩ := r.tl q h
      exact ⟨xs, k _ _ e⟩
    · subst h
      exact ⟨vs, ea⟩
theorem Rp.new {a : Addr} {vs : List V} (r : Rp K mg σ H η T) (n : H a = none) : Rp K mg σ (upd H a (.lst vs)) η (fun q => T q ∨ q = a) := r.new' n (More.upd n) upd_same
theorem PL.meet {Q : VK} {xs : List PyData} {a : Addr} {vs : List V} (p : PL K mg σ H η T Q xs η2) (s : StepS σ H η σ H2 η2) (r : Rp K mg σ H2 η2 T) (n : H2 a = none) (q : DqAll K H2 (Avd σ η2 T) vs xs) : Q (.ref a) (upd H2 a (.lst vs)) := by
  have k : More H2 (upd H2 a (.lst vs)) := More.upd n
  refine p a vs _ (s.trans (StepS.more k)) (s.tr a n) upd_same (r.new n) ?_ (r.lists.no n)
  exact DqAll.less (fun q z => avdT z) xs vs (q.beside r.lists n k)
theorem PD.meet {Q : VK} {x : PyData} (p : PD K mg σ H η T Q x η2) (s : StepS σ H η σ H2 η2) (r : Rp K mg σ H2 η2 T) : ∀ v H', More H2 H' → Dq K H' (Avd σ η2 T) v x → Q v H' :=
  fun v H' k q => p v H' (s.trans (StepS.more k)) (r.more k) q
end

section
variable {X : Cx} {W : WX} {a b : Expr} {ma mb : MX PyData} {ml : MX (List PyData)} {pos : Pos} {e : Expr} {es : List Expr}
theorem de_op_gen {r : R2} {g : PyData → PyData → Option PyData} (hg : OpG X.K r g) (h : PE X e (tOp r (tD X.K X.mg W ma) (tD X.K X.mg W mb))) : DE X W e (mOp g ma mb) := by
  refine PE.imp h fun σ H Q ⟨η, T, r0, n0⟩ => ⟨η, T, r0, n0.bind fun x η1 e1 n1 v H1 s1 r1 q1 => ?_⟩
  refine ⟨η1, T, r1, (n1.later PD.later s1).bind fun y η2 e2 n2 w H2 s2 r2 q2 => ?_⟩
  obtain ⟨z, ez, p⟩ := n2.lift
  exact hg v w x y z H2 (Avd σ η2 T) Q r2.lists (r1.old s2 q1) q2 ez (p.meet s2 r2)
theorem df_op_gen {r : R2} {g : PyData → PyData → Option (List PyData)} (hg : OpL X.K r g) (h : PE X e (tOp r (tD X.K X.mg W ma) (tD X.K X.mg W mb))) : DF X W e (mOpL g ma mb) := by
  refine PE.imp h fun σ H Q ⟨η, T, r0, n0⟩ => ⟨η, T, r0, n0.bind fun x η1 e1 n1 v H1 s1 r1 q1 => ?_⟩
  refine ⟨η1, T, r1, (n1.later PL.later s1).bind fun y η2 e2 n2 w H2 s2 r2 q2 => ?_⟩
  obtain ⟨z, ez, p⟩ := n2.lift
  exact hg v w x y z H2 (Avd σ η2 T) Q r2.lists (r1.old s2 q1) q2 ez fun a vs na q => p.meet s2 r2 na q
theorem de_op {op : Operator} {r : R2} {g : PyData → PyData → Option PyData} (ho : OpR X (binaryOp op) r) (hg : OpG X.K r g) (ha : DE X W a ma) (hb : DE X W b mb) : DE X W (.BinOp a op b pos) (mOp g ma mb) := de_op_gen hg (pe_op ho ha hb)
theorem df_op {op : Operator} {r : R2} {g : PyData → PyData → Option (List PyData)} (ho : OpR X (binaryOp op) r) (hg : OpL X.K r g) (ha : DE X W a ma) (hb : DE X W b mb) : DF X W (.BinOp a op b pos) (mOpL g ma mb) := df_op_gen hg (pe_op ho ha hb)
theorem de_cmp {op : CmpOp} {r : R2} {g : PyData → PyData → Option PyData} (ho : OpR X (compareOp op) r) (hg : OpG X.K r g) (ha : DE X W a ma) (hb : DE X W b mb) (hm : behindInMarks op b = false) : DE X W (.Compare a [op] [b] pos) (mOp g ma mb) := de_op_gen hg (pe_cmpR ho ha hb hm)
theorem de_ix {r : R2} {g : PyData → PyData → Option PyData} (hr : IxR X r) (hg : OpG X.K r g) (ha : DE X W a ma) (hb : DE X W b mb) (hs : PlainIx b) : DE X W (.Subscript a b pos) (mOp g ma mb) := de_op_gen hg (pe_ix hr ha hb hs)

/-! ### coercions -/
theorem DE.toB {m : MX PyData} (h : DE X W e m) : DB X W e m := PE.imp h fun σ H Q ⟨η, T, r0, n0⟩ => ⟨η, T, r0, n0.imp fun x η' _ p v H' s r q => p v H' s r (.inl q)⟩
theorem DF.toE (h : DF X W e ml) : DE X W e (mFz ml) := PE.imp h fun σ H Q ⟨η, T, r0, n0⟩ => ⟨η, T, r0, n0.bind fun xs η1 _ n1 a vs H1 s1 na ea r1 q1 no => by
  have p := n1.pure
  have k : ∀ q, Avd σ η1 T q → Avd σ η1 (fun q => T q ∨ q = a) q := fun q z => z.imp .inl id
  exact p (.ref a) H1 s1 (r1.lessT fun q z => .inl z) (.lst no (.inl ea) (DqAll.less k xs vs q1))⟩

/-! ### constants, names -/
theorem de_con {v : V} {d : PyData} (h : PE X e (tC v)) (c : ∀ H O, Dq X.K H O v d) : DE X W e (mPure d) := PE.imp h fun σ H Q ⟨η, T, r0, n0⟩ =>
  n0.pure v H StepS.refl r0 (c H _)
theorem de_int {i j pos} : DE X W (.Constant (.int i) j pos) (mPure (.int i)) := de_con pe_int fun _ _ => .int i
theorem de_bl {b j pos} : DE X W (.Constant (.bool b) j pos) (mPure (.bool b)) := de_con pe_bl fun _ _ => .bl b
theorem de_non {j pos} : DE X W (.Constant .none j pos) (mPure .none) := de_con pe_non fun _ _ => .non
theorem de_str {x j pos} : DE X W (.Constant (.str x) j pos) (mPure (.str x)) := de_con pe_str fun _ _ => .str x
/-- a module's constant -/
theorem de_glob {x : Str} {u : Value} {v : V} {d : PyData} {pos : Pos} (hm : X.mg x = some u) (r : RelV v u) (c : ∀ H O, Dq X.K H O v d) (hg : Gl X x := by rfl) (hd : (x == ("__debug__" : Str)) = false := by decide) : DE X W (.Name x pos) (mPure d) :=
  de_con (pe_glob hg hm r hd) c
/-- a name: its data; an own list is lent out for good -/
def mVar (i : Nat) : MX PyData := fun η => match η[i]? with
  | some (some (.val d)) => some (.ok d, η)
  | some (some (.own false ds)) => some (.ok (.list ds), η.set i (some (.val (.list ds))))
  | _ => none
/-- .. read at once -/
def mBor (i : Nat) : MX PyData := fun η => match η[i]? with
  | some (some (.val d)) => some (.ok d, η)
  | some (some (.own _ ds)) => some (.ok (.list ds), η)
  | _ => none
theorem de_var {i : Nat} {x : Str} {pos : Pos} (h : PE X (.Name x pos) (tVar i)) : DE X W (.Name x pos) (mVar i) := PE.imp h fun σ H Q ⟨η, T, r0, n0⟩ => by
  obtain ⟨o, η', e, p⟩ := n0
  unfold mVar at e
  split at e
  · rename_i d hd
    cases e
    obtain ⟨v, ev, q⟩ := r0.val i d hd
    exact ⟨v, ev, p v H StepS.refl r0 q⟩
  · rename_i ds hd
    cases e
    obtain ⟨a, vs, ea, _⟩ := r0.own i false ds hd
    obtain ⟨r1, q1⟩ := r0.freeze hd ea
    exact ⟨.ref a, ea, p (.ref a) H (StepS.set fun _ _ z => by cases z) r1 q1⟩
  · cases e
theorem db_var {i : Nat} {x : Str} {pos : Pos} (h : PE X (.Name x pos) (tVar i)) : DB X W (.Name x pos) (mBor i) := PE.imp h fun σ H Q ⟨η, T, r0, n0⟩ => by
  obtain ⟨o, η', e, p⟩ := n0
  unfold mBor at e
  split at e
  · rename_i d hd
    cases e
    obtain ⟨v, ev, q⟩ := r0.val i d hd
    exact ⟨v, ev, p v H StepS.refl r0 (.inl q)⟩
  · rename_i b ds hd
    cases e
    obtain ⟨a, vs, ea, e2, q, _⟩ := r0.own i b ds hd
    exact ⟨.ref a, ea, p (.ref a) H StepS.refl r0 (.inr ⟨a, vs, ds, rfl, rfl, e2, q⟩)⟩
  · cases e

/-! ### arguments, calls of built-ins -/
def mNil : MX (List PyData) := mPure []
def mCons (m : MX PyData) (ms : MX (List PyData)) : MX (List PyData) := mBind m fun x => mBind ms fun xs => mPure (x :: xs)
theorem da_nil : DA X W [] mNil := PA.imp pa_nil fun σ H Q ⟨η, T, r0, n0⟩ => n0.pure [] H StepS.refl r0 .nil
theorem da_cons {m : MX PyData} (ha : DE X W e m) (hr : DA X W es ml) (hs : starEach (e :: es) X.env = (false, eval e X.env) :: starEach es X.env := by rfl) : DA X W (e :: es) (mCons m ml) := by
  refine PA.imp (pa_cons ha hr hs) fun σ H Q ⟨η, T, r0, n0⟩ => ⟨η, T, r0, n0.bind fun x η1 e1 n1 v H1 s1 r1 q1 => ?_⟩
  refine ⟨η1, T, r1, (n1.later PAs.later s1).bind fun xs η2 e2 n2 vs H2 s2 r2 q2 => ?_⟩
  exact n2.pure (v :: vs) H2 s2 r2 (.cons (r1.old s2 q1) q2)
def mCa (g : List PyData → Option PyData) (ml : MX (List PyData)) : MX PyData := mBind ml fun xs => mLift (g xs)
def mCaL (g : List PyData → Option (List PyData)) (ml : MX (List PyData)) : MX (List PyData) := mBind ml fun xs => mLift (g xs)
theorem de_ca_gen {r : List V → Hp → VK → Prop} {g : List PyData → Option PyData} (hg : CaG X.K r g) (h : PE X e (fun σ H Q => tAr X.K X.mg W ml σ H fun vs H1 => r vs H1 Q)) : DE X W e (mCa g ml) := by
  refine PE.imp h fun σ H Q ⟨η, T, r0, n0⟩ => ⟨η, T, r0, n0.bind fun x η1 e1 n1 v H1 s1 r1 q1 => ?_⟩
  obtain ⟨z, ez, p⟩ := n1.lift
  exact hg v x z H1 (Avd σ η1 T) Q r1.lists q1 ez (p.meet s1 r1)
theorem df_ca_gen {r : List V → Hp → VK → Prop} {g : List PyData → Option (List PyData)} (hg : CaL X.K r g) (h : PE X e (fun σ H Q => tAr X.K X.mg W ml σ H fun vs H1 => r vs H1 Q)) : DF X W e (mCaL g ml) := by
  refine PE.imp h fun σ H Q ⟨η, T, r0, n0⟩ => ⟨η, T, r0, n0.bind fun x η1 e1 n1 v H1 s1 r1 q1 => ?_⟩
  obtain ⟨z, ez, p⟩ := n1.lift
  exact hg v x z H1 (Avd σ η1 T) Q r1.lists q1 ez fun a vs na q => p.meet s1 r1 na q
theorem de_tup {x1} (hz : True) (h : DA X W es ml) : DE X W (.Tuple es x1 pos) (mCa (fun xs => if xs.length ≤ sizeLine then some (.tuple xs) else none) ml) := by
  refine de_ca_gen (r := fun xs H Q => xs.length ≤ sizeLine ∧ ∀ p, H p = none → Q (.ref p) (upd H p (.tup xs))) (fun xs ds z H O Q l q e k => ?_) (pe_tup h)
  split at e
  · rename_i hl
    cases e
    refine ⟨by rw [q.length]; exact hl, fun p hp => k _ _ (More.upd hp) (.tup (.inl (.inl upd_same)) (q.more l (More.upd hp)))⟩
  · cases e
theorem df_lst (h : DA X W es ml) : DF X W (.List es pos) (mCaL (fun xs => if xs.length ≤ sizeLine then some xs else none) ml) := by
  refine df_ca_gen (r := fun xs H Q => xs.length ≤ sizeLine ∧ ∀ p, H p = none → Q (.ref p) (upd H p (.lst xs))) (fun xs ds z H O Q l q e k => ?_) (pe_lst h)
  split at e
  · rename_i hl
    cases e
    exact ⟨by rw [q.length]; exact hl, fun p hp => k _ _ hp q⟩
  · cases e
end
end L2.DL
end
section
set_option Elab.async false
set_option linter.all false
set_option maxRecDepth 100000
namespace L2.DL
open PySem PySem.Spec PyProof.Rows
set_option autoImplicit false

/-! ### what is read at once -/
theorem Bq.dp {K : Fg} {H : Hp} {O : Addr → Prop} {v : V} {d : PyData} (h : Bq K H O v d) : Dp K H v d := by
  rcases h with h | ⟨a, vs, ds, rfl, rfl, e, q⟩
  · exact Dq.dp d v h
  · exact .lst (.inl (.inl e)) (DqAll.dp ds vs q)
def CaB (K : Fg) (r : List V → Hp → VK → Prop) (g : PyData → Option PyData) : Prop :=
  ∀ x d z H O Q, Lists H O → Bq K H O x d → g d = some z → (∀ v H', More H H' → Dq K H' O v z → Q v H') → r [x] H Q
def CaBL (K : Fg) (r : List V → Hp → VK → Prop) (g : PyData → Option (List PyData)) : Prop :=
  ∀ x d zs H O Q, Lists H O → Bq K H O x d → g d = some zs → (∀ a vs, H a = none → DqAll K H O vs zs → Q (.ref a) (upd H a (.lst vs))) → r [x] H Q
def mUn (g : PyData → Option PyData) (m : MX PyData) : MX PyData := mBind m fun x => mLift (g x)
def mUnL (g : PyData → Option (List PyData)) (m : MX PyData) : MX (List PyData) := mBind m fun x => mLift (g x)
def mTru (g : PyData → Option Bool) (m : MX PyData) : MX Bool := mBind m fun x => mLift (g x)
section
variable {X : Cx} {W : WX} {a b : Expr} {ma mb : MX PyData} {ml : MX (List PyData)} {pos p : Pos} {e : Expr} {es : List Expr} {id Ty : String} {x : Str}
theorem de_un_gen {r : V → Hp → VK → Prop} {g : PyData → Option PyData} (hg : CaB X.K (fun xs H Q => ∀ x, xs = [x] → r x H Q) g) (h : PE X e (fun σ H Q => tBo X.K X.mg W ma σ H fun v H1 => r v H1 Q)) : DE X W e (mUn g ma) := by
  refine PE.imp h fun σ H Q ⟨η, T, r0, n0⟩ => ⟨η, T, r0, n0.bind fun x η1 e1 n1 v H1 s1 r1 q1 => ?_⟩
  obtain ⟨z, ez, p⟩ := n1.lift
  exact hg v x z H1 (Avd σ η1 T) Q r1.lists q1 ez (p.meet s1 r1) v rfl
theorem de_ca1 {r : List V → Hp → VK → Prop} {g : PyData → Option PyData} (hg : CaB X.K r g) (h : PE X e (tCB r (tCons (tBo X.K X.mg W ma) tNil))) : DE X W e (mUn g ma) := by
  refine PE.imp h fun σ H Q ⟨η, T, r0, n0⟩ => ⟨η, T, r0, n0.bind fun x η1 e1 n1 v H1 s1 r1 q1 => ?_⟩
  obtain ⟨z, ez, p⟩ := n1.lift
  exact hg v x z H1 (Avd σ η1 T) Q r1.lists q1 ez (p.meet s1 r1)
theorem df_ca1 {r : List V → Hp → VK → Prop} {g : PyData → Option (List PyData)} (hg : CaBL X.K r g) (h : PE X e (tCB r (tCons (tBo X.K X.mg W ma) tNil))) : DF X W e (mUnL g ma) := by
  refine PE.imp h fun σ H Q ⟨η, T, r0, n0⟩ => ⟨η, T, r0, n0.bind fun x η1 e1 n1 v H1 s1 r1 q1 => ?_⟩
  obtain ⟨z, ez, p⟩ := n1.lift
  exact hg v x z H1 (Avd σ η1 T) Q r1.lists q1 ez fun a vs na q => p.meet s1 r1 na q
/-- f(e), f a built-in function; a built-in type -/
theorem de_bf1 {r : List V → Hp → VK → Prop} {g : PyData → Option PyData} (hc : CallR X (.builtin id) r) (hg : CaB X.K r g) (hm : X.mg x = none) (hv : bootBuiltins x = some (.builtin id)) (ha : DB X W a ma) (gl : Gl X x := by rfl) (hn : x ≠ "__name__" := by decide) (hd : (x == ("__debug__" : Str)) = false := by decide)
    (hs : starEach (a :: []) X.env = (false, eval a X.env) :: starEach [] X.env := by rfl) (hpl : (backTo pos (starEach [] X.env)).any (·.1) = false := by rfl) : DE X W (.Call (.Name x p) [a] [] pos) (mUn g ma) :=
  de_ca1 hg (pe_callB hc gl hm hv (pa_cons ha pa_nil hs) hn hd hs hpl)
theorem df_bf1 {r : List V → Hp → VK → Prop} {g : PyData → Option (List PyData)} (hc : CallR X (.builtin id) r) (hg : CaBL X.K r g) (hm : X.mg x = none) (hv : bootBuiltins x = some (.builtin id)) (ha : DB X W a ma) (gl : Gl X x := by rfl) (hn : x ≠ "__name__" := by decide) (hd : (x == ("__debug__" : Str)) = false := by decide)
    (hs : starEach (a :: []) X.env = (false, eval a X.env) :: starEach [] X.env := by rfl) (hpl : (backTo pos (starEach [] X.env)).any (·.1) = false := by rfl) : DF X W (.Call (.Name x p) [a] [] pos) (mUnL g ma) :=
  df_ca1 hg (pe_callB hc gl hm hv (pa_cons ha pa_nil hs) hn hd hs hpl)
theorem de_ty1 {r : List V → Hp → VK → Prop} {g : PyData → Option PyData} (hc : CallR X (.type Ty) r) (hg : CaB X.K r g) (hm : X.mg x = none) (hv : bootBuiltins x = some (.type Ty)) (ha : DB X W a ma) (gl : Gl X x := by rfl) (hn : x ≠ "__name__" := by decide) (hd : (x == ("__debug__" : Str)) = false := by decide)
    (hs : starEach (a :: []) X.env = (false, eval a X.env) :: starEach [] X.env := by rfl) (hpl : (backTo pos (starEach [] X.env)).any (·.1) = false := by rfl) : DE X W (.Call (.Name x p) [a] [] pos) (mUn g ma) :=
  de_ca1 hg (pe_callTy hc gl hm hv (pa_cons ha pa_nil hs) hn hd hs hpl)
theorem df_ty1 {r : List V → Hp → VK → Prop} {g : PyData → Option (List PyData)} (hc : CallR X (.type Ty) r) (hg : CaBL X.K r g) (hm : X.mg x = none) (hv : bootBuiltins x = some (.type Ty)) (ha : DB X W a ma) (gl : Gl X x := by rfl) (hn : x ≠ "__name__" := by decide) (hd : (x == ("__debug__" : Str)) = false := by decide)
    (hs : starEach (a :: []) X.env = (false, eval a X.env) :: starEach [] X.env := by rfl) (hpl : (backTo pos (starEach [] X.env)).any (·.1) = false := by rfl) : DF X W (.Call (.Name x p) [a] [] pos) (mUnL g ma) :=
  df_ca1 hg (pe_callTy hc gl hm hv (pa_cons ha pa_nil hs) hn hd hs hpl)
/-- f(e1, ..), by data -/
theorem de_bfn {r : List V → Hp → VK → Prop} {g : List PyData → Option PyData} (hc : CallR X (.builtin id) r) (hg : CaG X.K r g) (hm : X.mg x = none) (hv : bootBuiltins x = some (.builtin id)) (ha : DA X W (a :: es) ml) (gl : Gl X x := by rfl) (hn : x ≠ "__name__" := by decide) (hd : (x == ("__debug__" : Str)) = false := by decide)
    (he : starEach (a :: es) X.env = (false, eval a X.env) :: starEach es X.env := by rfl) (hpl : (backTo pos (starEach es X.env)).any (·.1) = false := by rfl) : DE X W (.Call (.Name x p) (a :: es) [] pos) (mCa g ml) :=
  de_ca_gen hg (pe_callB hc gl hm hv ha hn hd he hpl)
/-- -e -/
def negD : PyData → Option PyData
  | .int i => some (.int (-i))
  | _ => none
theorem de_neg (ha : DE X W a ma) : DE X W (.UnaryOp .USub a pos) (mUn negD ma) := by
  refine PE.imp (pe_un un_neg ha) fun σ H Q ⟨η, T, r0, n0⟩ => ⟨η, T, r0, n0.bind fun x η1 e1 n1 v H1 s1 r1 q1 => ?_⟩
  obtain ⟨z, ez, p⟩ := n1.lift
  cases q1 <;> first
    | (cases ez; exact ⟨_, rfl, p.meet s1 r1 _ _ More.refl (.int _)⟩)
    | cases ez

/-! ### tests -/
def truD : PyData → Option Bool
  | .none => some false
  | .bool b => some b
  | .int i => some (i != 0)
  | .str y => if y.length ≤ sizeLine then some ((y.length : Int) != 0) else none
  | .list xs => some !xs.isEmpty
  | .tuple xs => some !xs.isEmpty
  | .dict _ => none
theorem emp_of {K : Fg} {H : Hp} {O : Addr → Prop} {ds : List PyData} {vs : List V} (h : DqAll K H O vs ds) : vs.isEmpty = ds.isEmpty := by
  cases h <;> rfl
theorem tru_of {K : Fg} {H : Hp} {O : Addr → Prop} {v : V} {d : PyData} {b : Bool} (h : Bq K H O v d) (e : truD d = some b) : TruV K v H b := by
  rcases h with h | ⟨a, vs, ds, rfl, rfl, ea, q⟩
  · cases h with
    | non => cases e; rfl
    | bl c => cases e; rfl
    | int i => cases e; rfl
    | str y =>
      simp only [truD] at e
      split at e
      · rename_i hl
        cases e
        exact ⟨hl, rfl⟩
      · cases e
    | lst no r all => cases e; exact .inl ⟨_, .inl r, by rw [emp_of all]⟩
    | tup r all => cases e; exact .inr (.inl ⟨_, r, by rw [emp_of all]⟩)
  · cases e; exact .inl ⟨vs, .inl (.inl ea), by rw [emp_of q]⟩
/-- any expression as a test, by its value's truth -/
theorem dt_val (ha : DB X W a ma) (he : ∀ whole, isTrue a X.env whole = (do let v ← whole; standAt a.pos; holding [v] (truthy v)) := by intro _; rfl) : DT X W a (mTru truD ma) := by
  refine PT.imp (pt_truth ha he) fun σ H Q ⟨η, T, r0, n0⟩ => ⟨η, T, r0, n0.bind fun x η1 e1 n1 v H1 s1 r1 q1 => ?_⟩
  obtain ⟨z, ez, p⟩ := n1.lift
  exact ⟨z, tru_of q1 ez, p H1 s1 r1⟩
def boolD : PyData → Option Bool
  | .bool b => some b
  | _ => none
/-- a comparison as a test -/
theorem dt_of_op {r : R2} {m : MX PyData} (h : PT X e (tTest (tD X.K X.mg W m))) : DT X W e (mTru boolD m) := by
  refine PT.imp h fun σ H Q ⟨η, T, r0, n0⟩ => ⟨η, T, r0, n0.bind fun x η1 e1 n1 v H1 s1 r1 q1 => ?_⟩
  obtain ⟨z, ez, p⟩ := n1.lift
  cases q1 <;> first
    | (cases ez; exact ⟨_, rfl, p H1 s1 r1⟩)
    | cases ez
theorem tTest_imp {t t' : TE} (i : ∀ σ H Q, t' σ H Q → t σ H Q) : ∀ σ H Q, tTest t' σ H Q → tTest t σ H Q := fun σ H Q h => i σ H _ h
def mAnd (m k : MX Bool) : MX Bool := mBind m fun b => if b = true then k else mPure false
def mOr (m k : MX Bool) : MX Bool := mBind m fun b => if b = true then mPure true else k
def mNot (m : MX Bool) : MX Bool := mBind m fun b => mPure (!b)
variable {m k : MX Bool} {rest : List Expr}
theorem dw_and1 (ha : DT X W a m) : DW X W (.BoolOp .And [a] pos) m := pw_and1 ha
theorem dw_or1 (ha : DT X W a m) : DW X W (.BoolOp .Or [a] pos) m := pw_or1 ha
theorem dw_and (ha : DT X W a m) (hb : DW X W (.BoolOp .And (b :: rest) pos) k) : DW X W (.BoolOp .And (a :: b :: rest) pos) (mAnd m k) := by
  refine PW.imp (pw_and ha hb) fun σ H Q ⟨η, T, r0, n0⟩ => ⟨η, T, r0, n0.bind fun x η1 e1 n1 H1 s1 r1 => ?_⟩
  cases x with
  | true => rw [if_pos rfl]; exact ⟨η1, T, r1, Nx.later PTs.later s1 n1⟩
  | false => rw [if_neg Bool.false_ne_true]; exact Nx.pure n1 H1 s1 r1
theorem dw_or (ha : DT X W a m) (hb : DW X W (.BoolOp .Or (b :: rest) pos) k) : DW X W (.BoolOp .Or (a :: b :: rest) pos) (mOr m k) := by
  refine PW.imp (pw_or ha hb) fun σ H Q ⟨η, T, r0, n0⟩ => ⟨η, T, r0, n0.bind fun x η1 e1 n1 H1 s1 r1 => ?_⟩
  cases x with
  | true => rw [if_pos rfl]; exact Nx.pure n1 H1 s1 r1
  | false => rw [if_neg Bool.false_ne_true]; exact ⟨η1, T, r1, Nx.later PTs.later s1 n1⟩
theorem DW.toT (h : DW X W e m) : DT X W e m := PW.pt h
theorem dt_not (ha : DT X W a m) : DT X W (.UnaryOp .Not a pos) (mNot m) := by
  refine PT.imp (pt_not ha) fun σ H Q ⟨η, T, r0, n0⟩ => ⟨η, T, r0, n0.bind fun x η1 e1 n1 H1 s1 r1 => ?_⟩
  exact n1.pure H1 s1 r1
/-- and, or, not as values: the parts True or False -/
def mAndV (m k : MX PyData) : MX PyData := mBind m fun x => match x with
  | .bool true => k
  | .bool false => mPure (.bool false)
  | _ => fun _ => none
def mOrV (m k : MX PyData) : MX PyData := mBind m fun x => match x with
  | .bool true => mPure (.bool true)
  | .bool false => k
  | _ => fun _ => none
theorem de_one {op} {m : MX PyData} (h : DE X W a m) : DE X W (.BoolOp op [a] pos) m := pe_one h
theorem de_and (ha : DE X W a ma) (hb : DE X W (.BoolOp .And (b :: rest) pos) mb) : DE X W (.BoolOp .And (a :: b :: rest) pos) (mAndV ma mb) := by
  refine PE.imp (pe_and ha hb) fun σ H Q ⟨η, T, r0, n0⟩ => ⟨η, T, r0, n0.bind fun x η1 e1 n1 v H1 s1 r1 q1 => ?_⟩
  cases q1 with
  | bl c =>
    refine ⟨c, rfl, ?_⟩
    cases c with
    | true => rw [if_pos rfl]; exact ⟨η1, T, r1, n1.later PD.later s1⟩
    | false => rw [if_neg Bool.false_ne_true]; exact n1.pure (.bl false) H1 s1 r1 (.bl false)
  | _ => obtain ⟨_, _, z, _⟩ := n1; cases z
theorem de_or (ha : DE X W a ma) (hb : DE X W (.BoolOp .Or (b :: rest) pos) mb) : DE X W (.BoolOp .Or (a :: b :: rest) pos) (mOrV ma mb) := by
  refine PE.imp (pe_or ha hb) fun σ H Q ⟨η, T, r0, n0⟩ => ⟨η, T, r0, n0.bind fun x η1 e1 n1 v H1 s1 r1 q1 => ?_⟩
  cases q1 with
  | bl c =>
    refine ⟨c, rfl, ?_⟩
    cases c with
    | false => rw [if_neg Bool.false_ne_true]; exact ⟨η1, T, r1, n1.later PD.later s1⟩
    | true => rw [if_pos rfl]; exact n1.pure (.bl true) H1 s1 r1 (.bl true)
  | _ => obtain ⟨_, _, z, _⟩ := n1; cases z
def mNotV (m : MX PyData) : MX PyData := mBind m fun x => match x with
  | .bool b => mPure (.bool !b)
  | _ => fun _ => none
theorem de_not (ha : DE X W a ma) : DE X W (.UnaryOp .Not a pos) (mNotV ma) := by
  refine PE.imp (pe_not ha) fun σ H Q ⟨η, T, r0, n0⟩ => ⟨η, T, r0, n0.bind fun x η1 e1 n1 v H1 s1 r1 q1 => ?_⟩
  cases q1 with
  | bl c => exact ⟨c, rfl, n1.pure (.bl !c) H1 s1 r1 (.bl !c)⟩
  | _ => obtain ⟨_, _, z, _⟩ := n1; cases z
def mIf {α : Type} (c : MX Bool) (m k : MX α) : MX α := mBind c fun b => if b = true then m else k
theorem de_if {c : Expr} (hc : DT X W c m) (ha : DE X W a ma) (hb : DE X W b mb) : DE X W (.IfExp c a b pos) (mIf m ma mb) := by
  refine PE.imp (pe_ifExp hc ha hb) fun σ H Q ⟨η, T, r0, n0⟩ => ⟨η, T, r0, n0.bind fun x η1 e1 n1 H1 s1 r1 => ?_⟩
  cases x with
  | true => rw [if_pos rfl]; exact ⟨η1, T, r1, Nx.later PD.later s1 n1⟩
  | false => rw [if_neg Bool.false_ne_true]; exact ⟨η1, T, r1, Nx.later PD.later s1 n1⟩
theorem df_if {c : Expr} {la lb : MX (List PyData)} (hc : DT X W c m) (ha : DF X W a la) (hb : DF X W b lb) : DF X W (.IfExp c a b pos) (mIf m la lb) := by
  refine PE.imp (pe_ifExp hc ha hb) fun σ H Q ⟨η, T, r0, n0⟩ => ⟨η, T, r0, n0.bind fun x η1 e1 n1 H1 s1 r1 => ?_⟩
  cases x with
  | true => rw [if_pos rfl]; exact ⟨η1, T, r1, Nx.later PL.later s1 n1⟩
  | false => rw [if_neg Bool.false_ne_true]; exact ⟨η1, T, r1, Nx.later PL.later s1 n1⟩
end
end L2.DL
end
section
set_option Elab.async false
set_option linter.all false
set_option maxRecDepth 100000
namespace L2.DL
open PySem PySem.Spec PyProof.Rows
set_option autoImplicit false

/-! ### what a def promises: a plain function of the arguments' slots -/
inductive RV where
  | d (x : PyData)
  | l (xs : List PyData)
def RV.val : RV → PyData
  | .d x => x
  | .l xs => .list xs
abbrev FS := EnvD → Option (R RV × EnvD)
def PV (K : Fg) (mg : Str → Option Value) : Ps RV VK := fun σ H η T Q r η' => match r with
  | .d x => PD K mg σ H η T Q x η'
  | .l xs => PL K mg σ H η T Q xs η'
def spG (K : Fg) (mg : Str → Option Value) (n : Nat) (F : FS) : Sp := fun vs H Q E => vs.length = n ∧ ∃ args T, Rp K mg (vs.map some) H args T ∧ Nx K mg (fun cls dd _ H' => E cls dd H') (PV K mg) (vs.map some) H args T Q (F args)
def valsE (ds : List PyData) : EnvD := ds.map fun d => some (.val d)
/-- by values alone -/
def fnV (F : FS) (ds : List PyData) : Option (R RV) := (F (valsE ds)).map (·.1)
/-- the first argument an own list of the caller's: its items behind the call -/
def fnI (F : FS) (xs ds : List PyData) : Option (R (RV × List PyData)) := match F (some (.own true xs) :: valsE ds) with
  | some (.ok r, some (.own true ys) :: _) => some (.ok (r, ys))
  | _ => none

section
variable {K : Fg} {mg : Str → Option Value} {σ : St} {H H' : Hp} {η : EnvD} {T : Addr → Prop}
theorem valsE_get {ds : List PyData} {i : Nat} {s : Slot} (h : (valsE ds)[i]? = some (some s)) : ∃ d, s = .val d ∧ ds[i]? = some d := by
  unfold valsE at h
  rw [List.getElem?_map] at h
  cases e : ds[i]? with
  | none => rw [e] at h; cases h
  | some d => rw [e] at h; cases h; exact ⟨d, rfl, rfl⟩
theorem no_own {ds : List PyData} {q : Addr} (h : OwnAt σ (valsE ds) q) : False := by
  obtain ⟨i, b, xs, e, _⟩ := h
  obtain ⟨d, z, _⟩ := valsE_get e
  cases z
/-- the arguments of a call by values -/
theorem Rp.args {O : Addr → Prop} {vs : List V} {ds : List PyData} (l : Lists H O) (q : DqAll K H O vs ds) : Rp K mg (vs.map some) H (valsE ds) O := by
  have kA : ∀ z, Avd (vs.map some) (valsE ds) O z → O z := fun z w => w.elim id fun w => (no_own w).elim
  refine ⟨fun i d h => ?_, fun i b xs h => ?_, fun i nm d h => ?_, fun i j b b' d1 d2 a h => ?_, l, ?_⟩
  · obtain ⟨d', z, e⟩ := valsE_get h
    cases z
    obtain ⟨v, ev, qv⟩ := q.get e
    exact ⟨v, by rw [List.getElem?_map, ev]; rfl, Dq.less kA d v qv⟩
  · obtain ⟨d', z, e⟩ := valsE_get h
    cases z
  · obtain ⟨d', z, e⟩ := valsE_get h
    cases z
  · obtain ⟨d', z, e⟩ := valsE_get h
    cases z
  · unfold valsE
    rw [List.length_map, List.length_map, q.length]
    exact Nat.le_refl _
end

/-- a def of the text, called by values -/
def mCall (f : List PyData → Option (R RV)) (ml : MX (List PyData)) : MX PyData := mBind ml fun xs => fun η => match f xs with
  | some (.ok r) => some (.ok r.val, η)
  | some (.exc n d) => some (.exc n d, η)
  | none => none
def mCallL (f : List PyData → Option (R RV)) (ml : MX (List PyData)) : MX (List PyData) := mBind ml fun xs => fun η => match f xs with
  | some (.ok (.l r)) => some (.ok r, η)
  | some (.exc n d) => some (.exc n d, η)
  | _ => none
section
variable {X : Cx} {W : WX} {ml : MX (List PyData)} {e : Expr} {es : List Expr} {F : FS} {n : Nat}
/-- behind a call by values -/
theorem behind {H1 H' : Hp} {σ' : St} {η' : EnvD} {vs : List V} {xs : List PyData} (s : StepS (vs.map some) H1 (valsE xs) σ' H' η') : More H1 H' :=
  fun q o h => s.keep q o h fun z => no_own z
theorem de_call_gen (h : PE X e (fun σ H Q => tAr X.K X.mg W ml σ H fun vs H1 => spG X.K X.mg n F vs H1 Q (WE W σ))) (hn : ∀ η xs η1, ml η = some (.ok xs, η1) → xs.length = n) : DE X W e (mCall (fnV F) ml) := by
  refine PE.imp h fun σ H Q ⟨η, T, r0, n0⟩ => ⟨η, T, r0, n0.bind fun xs η1 e1 n1 vs H1 s1 r1 q1 => ?_⟩
  refine ⟨by rw [q1.length]; exact hn η xs η1 e1, valsE xs, Avd σ η1 T, Rp.args r1.lists q1, ?_⟩
  obtain ⟨o, η', eo, p⟩ := n1
  unfold fnV at eo
  cases eF : F (valsE xs) with
  | none => rw [eF] at eo; cases eo
  | some w =>
    obtain ⟨w, ηw⟩ := w
    rw [eF] at eo
    cases w with
    | ok r =>
      cases eo
      refine ⟨.ok r, ηw, rfl, ?_⟩
      have p : PD X.K X.mg σ H η T Q r.val η1 := p
      cases r with
      | d x =>
        intro v H' s r' q
        have k : More H1 H' := behind s
        exact p.meet s1 r1 v H' k (Dq.less (fun z w => .inl w) x v q)
      | l ys =>
        intro a ws H' s na ea r' q no
        have k : More H1 H' := behind s
        refine p.meet s1 r1 (.ref a) H' k (.lst (fun z => no (.inl z)) (.inl ea) (DqAll.less (fun z w => .inl (.inl w)) ys ws q))
    | exc nm d =>
      cases eo
      refine ⟨.exc nm d, ηw, rfl, fun cls dd σ' H' s r' q => ?_⟩
      have k : More H1 H' := behind s
      obtain ⟨C, a, v, h1, h2, h3, h4, h5⟩ := q
      exact p cls dd σ H' (s1.trans (StepS.more k)) (r1.more k) ⟨C, a, v, h1, h2, h3, h4, Dq.less (fun z w => .inl w) d v h5⟩
theorem df_call_gen (h : PE X e (fun σ H Q => tAr X.K X.mg W ml σ H fun vs H1 => spG X.K X.mg n F vs H1 Q (WE W σ))) (hn : ∀ η xs η1, ml η = some (.ok xs, η1) → xs.length = n) : DF X W e (mCallL (fnV F) ml) := by
  refine PE.imp h fun σ H Q ⟨η, T, r0, n0⟩ => ⟨η, T, r0, n0.bind fun xs η1 e1 n1 vs H1 s1 r1 q1 => ?_⟩
  refine ⟨by rw [q1.length]; exact hn η xs η1 e1, valsE xs, Avd σ η1 T, Rp.args r1.lists q1, ?_⟩
  obtain ⟨o, η', eo, p⟩ := n1
  unfold fnV at eo
  cases eF : F (valsE xs) with
  | none => rw [eF] at eo; cases eo
  | some w =>
    obtain ⟨w, ηw⟩ := w
    rw [eF] at eo
    cases w with
    | ok r =>
      cases r with
      | d x => cases eo
      | l ys =>
        cases eo
        refine ⟨.ok (.l ys), ηw, rfl, fun a ws H' s na ea r' q no => ?_⟩
        have k : More H1 H' := behind s
        have p : PL X.K X.mg σ H η T Q ys η1 := p
        have nA : ¬ Avd σ η1 T a := fun z => no (.inl z)
        have rT : Rp X.K X.mg σ H' η1 (fun q => T q ∨ q = a) := r1.new' na k ea
        exact p a ws H' (s1.trans (StepS.more k)) (s1.tr a na) ea rT (DqAll.less (fun z w => .inl (avdT w)) ys ws q) nA
    | exc nm d =>
      cases eo
      refine ⟨.exc nm d, ηw, rfl, fun cls dd σ' H' s r' q => ?_⟩
      have k : More H1 H' := behind s
      obtain ⟨C, a, v, h1, h2, h3, h4, h5⟩ := q
      exact p cls dd σ H' (s1.trans (StepS.more k)) (r1.more k) ⟨C, a, v, h1, h2, h3, h4, Dq.less (fun z w => .inl w) d v h5⟩
end
end L2.DL
end
section
set_option Elab.async false
set_option linter.all false
set_option maxRecDepth 100000
namespace L2.DL
open PySem PySem.Spec PyProof.Rows
set_option autoImplicit false

/-! ### a call whose first argument is an own list, changed by the callee -/
def mCallI' (F : FS) (i : Nat) (ml : MX (List PyData)) : MX RV := fun η => match η[i]? with
  | some (some (.own _ _)) => mBind ml (fun ds η1 => match η1[i]? with
    | some (some (.own b xs)) => match fnI F xs ds with
      | some (.ok (r, ys)) => some (.ok r, η1.set i (some (.own b ys)))
      | _ => none
    | _ => none) η
  | _ => none
def mCallI (F : FS) (i : Nat) (ml : MX (List PyData)) : MX PyData := mBind (mCallI' F i ml) fun r => mPure r.val
def mCallIL (F : FS) (i : Nat) (ml : MX (List PyData)) : MX (List PyData) := mBind (mCallI' F i ml) fun r => match r with
  | .l xs => mPure xs
  | .d _ => fun _ => none
section
variable {K : Fg} {mg : Str → Option Value} {σ σv : St} {H H' : Hp} {η : EnvD} {T : Addr → Prop}
theorem own_same {i : Nat} {b : Bool} {xs ys : List PyData} (h : η[i]? = some (some (.own b xs))) {q : Addr} : OwnAt σ (η.set i (some (.own b ys))) q ↔ OwnAt σ η q := by
  constructor
  · rintro ⟨j, b', ds, e1, e2⟩
    rcases set_get e1 with ⟨e, e'⟩ | ⟨_, e⟩
    · subst e
      exact ⟨i, b, xs, h, e2⟩
    · exact ⟨j, b', ds, e, e2⟩
  · rintro ⟨j, b', ds, e1, e2⟩
    by_cases e : i = j
    · subst e
      exact ⟨i, b, ys, List.getElem?_set_self (List.getElem?_eq_some_iff.mp h).1, e2⟩
    · exact ⟨j, b', ds, by rw [List.getElem?_set_ne e]; exact e1, e2⟩
/-- the list at a slot has changed, all else stands; T' may tell a new list apart -/
theorem Rp.turn' {T' : Addr → Prop} {i : Nat} {b : Bool} {xs ys : List PyData} {a : Addr} {ws : List V} (r : Rp K mg σ H η T) (h : η[i]? = some (some (.own b xs))) (ha : σ[i]? = some (some (.ref a))) (tr : ∀ q, H' q = none → H q = none) (keep : ∀ q o, H q = some o → q ≠ a → H' q = some o)
    (e' : H' a = some (.lst ws)) (hT : ∀ q, T' q → T q ∨ H q = none) (tl' : ∀ q, T' q → ∃ xs, H' q = some (.lst xs)) (q' : DqAll K H' (fun q => Avd σ η T q ∨ T' q) ws ys) : Rp K mg σ H' (η.set i (some (.own b ys))) T' ∧ StepS σ H η σ H' (η.set i (some (.own b ys))) := by
  have oa : OwnAt σ η a := ⟨i, b, xs, h, ha⟩
  have ne : ∀ q, ¬ OwnAt σ η q → q ≠ a := fun q n z => n (z ▸ oa)
  have hav : ∀ q, Avd σ (η.set i (some (.own b ys))) T' q → Avd σ η T q ∨ T' q := fun q z => z.elim .inr fun z => .inl (.inr ((own_same h).mp z))
  have kp : Kp (Avd σ η T) (Avd σ (η.set i (some (.own b ys))) T') H H' := ⟨fun q o h n => keep q o h (ne q fun z => n (.inr z)), r.avd, fun q z => by
    rcases hav q z with z | z
    · exact .inl z
    · exact (hT q z).imp .inl id⟩
  have ta : ¬ T' a := fun z => by
    obtain ⟨a', vs, e1, e2, _, n⟩ := r.own i b xs h
    rw [ha] at e1; cases e1
    rcases hT a z with w | w
    · exact n w
    · rw [e2] at w; cases w
  refine ⟨⟨fun j d h' => ?_, fun j b' ds' h' => ?_, fun j nm d h' => ?_, fun j k b1 b2 d1 d2 a' h1 h2 h3 h4 => ?_, tl', by simpa using r.len⟩, ⟨tr, fun q o h n => keep q o h (ne q n), fun q z => .inl ((own_same h).mp z), fun q z => .inl ?_, fun j ds z => ?_⟩⟩
  · rcases set_get h' with ⟨_, e⟩ | ⟨_, e⟩
    · cases e
    · obtain ⟨v, e1, q1⟩ := r.val j d e
      exact ⟨v, e1, Dq.keep kp d v q1⟩
  · rcases set_get h' with ⟨e, ee⟩ | ⟨nj, e⟩
    · cases ee
      subst e
      exact ⟨a, ws, ha, e', DqAll.less hav _ _ q', ta⟩
    · obtain ⟨a2, vs2, e1, e2, q1, n1⟩ := r.own j b' ds' e
      refine ⟨a2, vs2, e1, keep a2 _ e2 fun z => ?_, DqAll.keep kp ds' vs2 q1, fun z => ?_⟩
      · subst z
        exact nj (r.inj i j b b' xs ds' a2 h e ha e1)
      · rcases hT a2 z with w | w
        · exact n1 w
        · rw [e2] at w; cases w
  · rcases set_get h' with ⟨_, e⟩ | ⟨_, e⟩
    · cases e
    · obtain ⟨a2, e1, q1⟩ := r.exc j nm d e
      exact ⟨a2, e1, q1.kp kp⟩
  · have f : ∀ {j : Nat} {b1 : Bool} {d1 : List PyData}, (η.set i (some (.own b ys)))[j]? = some (some (.own b1 d1)) → ∃ d2, η[j]? = some (some (.own b1 d2)) := fun {j b1 d1} z => by
      rcases set_get z with ⟨e, e'⟩ | ⟨_, e⟩
      · cases e'
        subst e
        exact ⟨xs, h⟩
      · exact ⟨d1, e⟩
    obtain ⟨d3, h5⟩ := f h1
    obtain ⟨d4, h6⟩ := f h2
    exact r.inj j k b1 b2 d3 d4 a' h5 h6 h3 h4
  · obtain ⟨j, ds, e1, e2⟩ := z
    rcases set_get e1 with ⟨e, e'⟩ | ⟨_, e⟩
    · cases e'
      subst e
      exact ⟨i, xs, h, e2⟩
    · exact ⟨j, ds, e, e2⟩
  · rcases set_get z with ⟨e, e'⟩ | ⟨_, e⟩
    · cases e'
      subst e
      exact ⟨⟨xs, h⟩, rfl⟩
    · exact ⟨⟨ds, e⟩, rfl⟩
theorem Rp.turn {i : Nat} {b : Bool} {xs ys : List PyData} {a : Addr} {ws : List V} (r : Rp K mg σ H η T) (h : η[i]? = some (some (.own b xs))) (ha : σ[i]? = some (some (.ref a))) (tr : ∀ q, H' q = none → H q = none) (keep : ∀ q o, H q = some o → q ≠ a → H' q = some o)
    (e' : H' a = some (.lst ws)) (q' : DqAll K H' (Avd σ η T) ws ys) : Rp K mg σ H' (η.set i (some (.own b ys))) T ∧ StepS σ H η σ H' (η.set i (some (.own b ys))) := by
  refine r.turn' h ha tr keep e' (fun q z => .inl z) (fun q z => ?_) (DqAll.less (fun q z => z.elim id .inl) _ _ q')
  obtain ⟨vs, e⟩ := r.tl q z
  obtain ⟨a', vs', e1, e2, _, n⟩ := r.own i b xs h
  rw [ha] at e1; cases e1
  exact ⟨vs, keep q _ e fun w => n (w ▸ z)⟩
theorem cons_get {α : Type} {l : List α} {x y : α} {i : Nat} (h : (x :: l)[i]? = some y) : (i = 0 ∧ y = x) ∨ ∃ j, i = j + 1 ∧ l[j]? = some y := by
  cases i with
  | zero => exact .inl ⟨rfl, (Option.some.inj h).symm⟩
  | succ j => exact .inr ⟨j, rfl, h⟩
/-- the arguments of such a call -/
theorem Rp.argsI {O : Addr → Prop} {a : Addr} {ws vs : List V} {xs ds : List PyData} (l : Lists H O) (oa : O a) (ea : H a = some (.lst ws)) (qa : DqAll K H O ws xs) (q : DqAll K H O vs ds) :
    Rp K mg ((V.ref a :: vs).map some) H (some (.own true xs) :: valsE ds) (fun z => O z ∧ z ≠ a) := by
  have own : ∀ z, OwnAt ((V.ref a :: vs).map some) (some (.own true xs) :: valsE ds) z → z = a := fun z ⟨i, b, d, e1, e2⟩ => by
    rcases cons_get e1 with ⟨rfl, _⟩ | ⟨j, rfl, e⟩
    · cases e2; rfl
    · obtain ⟨_, w, _⟩ := valsE_get e
      cases w
  have kA : ∀ z, Avd ((V.ref a :: vs).map some) (some (.own true xs) :: valsE ds) (fun z => O z ∧ z ≠ a) z → O z := fun z w => w.elim And.left fun w => (own z w) ▸ oa
  refine ⟨fun i d h => ?_, fun i b d h => ?_, fun i nm d h => ?_, fun i j b b' d1 d2 c h1 h2 _ _ => ?_, fun z w => l z w.1, ?_⟩
  · rcases cons_get h with ⟨_, e⟩ | ⟨j, rfl, e⟩
    · cases e
    · obtain ⟨d', z, e⟩ := valsE_get e
      cases z
      obtain ⟨v, ev, qv⟩ := q.get e
      exact ⟨v, by simp [ev], Dq.less kA d v qv⟩
  · rcases cons_get h with ⟨rfl, e⟩ | ⟨j, rfl, e⟩
    · cases e
      exact ⟨a, ws, rfl, ea, DqAll.less kA _ _ qa, fun z => z.2 rfl⟩
    · obtain ⟨d', z, e⟩ := valsE_get e
      cases z
  · rcases cons_get h with ⟨rfl, e⟩ | ⟨j, rfl, e⟩
    · cases e
    · obtain ⟨d', z, e⟩ := valsE_get e
      cases z
  · rcases cons_get h1 with ⟨rfl, e⟩ | ⟨j', rfl, e⟩
    · rcases cons_get h2 with ⟨rfl, e⟩ | ⟨j', rfl, e⟩
      · rfl
      · obtain ⟨d', z, e⟩ := valsE_get e
        cases z
    · obtain ⟨d', z, e⟩ := valsE_get e
      cases z
  · simp [valsE, q.length]
end
section
variable {X : Cx} {W : WX} {ml : MX (List PyData)} {e : Expr} {es : List Expr} {F : FS} {n i : Nat}
theorem callI_gen {P : Ps RV VK} (hP : Later P) (hPV : ∀ σ H η T Q r η', P σ H η T Q r η' → PV X.K X.mg σ H η T Q r η') {σ : St} {H : Hp} {Q : VK} {η : EnvD} {T : Addr → Prop} (hn : ∀ η xs η1, ml η = some (.ok xs, η1) → xs.length + 1 = n) (r0 : Rp X.K X.mg σ H η T)
    (n0 : Nx X.K X.mg W P σ H η T Q (mCallI' F i ml η)) : ∃ v, σ[i]? = some (some v) ∧ tAr X.K X.mg W ml σ H (fun vs H1 => spG X.K X.mg n F (v :: vs) H1 Q (WE W σ)) := by
  unfold mCallI' at n0
  split at n0
  · rename_i b0 x0 h0
    obtain ⟨a, w0, ea, _⟩ := r0.own i b0 x0 h0
    refine ⟨.ref a, ea, η, T, r0, n0.bind fun ds η1 e1 n1 vs H1 s1 r1 q1 => ?_⟩
    refine ⟨by rw [List.length_cons, q1.length]; exact hn η ds η1 e1, ?_⟩
    obtain ⟨o, η', eo, p⟩ := n1
    split at eo
    · rename_i b xs hx
      obtain ⟨a', ws, ea', e2, q2, na⟩ := r1.own i b xs hx
      rw [ea] at ea'; cases ea'
      have oa : Avd σ η1 T a := .inr ⟨i, b, xs, hx, ea⟩
      refine ⟨some (.own true xs) :: valsE ds, fun z => Avd σ η1 T z ∧ z ≠ a, Rp.argsI r1.lists oa e2 q2 q1, ?_⟩
      unfold fnI at eo
      split at eo
      · rename_i r ys hF
        split at hF
        · rename_i r' ys' tl hF'
          cases hF
          cases eo
          refine ⟨.ok r, _, hF', ?_⟩
          have p : PV X.K X.mg σ H η T Q r (η1.set i (some (.own b ys))) := hPV _ _ _ _ _ _ _ p
          have fin : ∀ {H' : Hp} {T' : Addr → Prop} {T2 : Addr → Prop}, StepS ((V.ref a :: vs).map some) H1 (some (.own true xs) :: valsE ds) ((V.ref a :: vs).map some) H' (some (.own true ys) :: tl) → Rp X.K X.mg ((V.ref a :: vs).map some) H' (some (.own true ys) :: tl) T' → (∀ z, Avd σ η1 T z ∧ z ≠ a → T' z) →
              (∀ q, T2 q → T q ∨ H1 q = none) → (∀ q, T2 q → T' q) →
              Rp X.K X.mg σ H' (η1.set i (some (.own b ys))) T2 ∧ StepS σ H η σ H' (η1.set i (some (.own b ys))) ∧ (∀ z, Avd σ (η1.set i (some (.own b ys))) T2 z → Avd ((V.ref a :: vs).map some) (some (.own true ys) :: tl) T' z) := fun {H' T' T2} s r' hT h2 h3 => by
            obtain ⟨a2, ws', ea2, e3, q3, n3⟩ := r'.own 0 true ys rfl
            cases ea2
            have kA : ∀ z, Avd σ η1 T z → Avd ((V.ref a :: vs).map some) (some (.own true ys) :: tl) T' z := fun z w => by
              by_cases ez : z = a
              · subst ez
                exact .inr ⟨0, true, ys, rfl, rfl⟩
              · exact .inl (hT z ⟨w, ez⟩)
            obtain ⟨A, B⟩ := r1.turn' (T' := T2) hx ea s.tr (fun q o h ne => s.keep q o h fun z => by
              obtain ⟨j, b', d, z1, z2⟩ := z
              rcases cons_get z1 with ⟨rfl, _⟩ | ⟨k, rfl, z3⟩
              · cases z2; exact ne rfl
              · obtain ⟨_, w, _⟩ := valsE_get z3
                cases w) e3 h2 (fun q z => r'.tl q (h3 q z)) (DqAll.less (fun z w => w.elim (kA z) fun w => .inl (h3 z w)) _ _ q3)
            exact ⟨A, s1.trans B, fun z w => w.elim (fun w => .inl (h3 z w)) fun w => kA z (.inr ((own_same hx).mp w))⟩
          cases r with
          | d x =>
            intro v H' s r' q
            obtain ⟨A, B, C⟩ := fin (T2 := T) s r' (fun _ z => z) (fun _ z => .inl z) fun q z => ⟨.inl z, fun w => na (by rw [← w]; exact z)⟩
            exact p v H' B A (Dq.less C x v q)
          | l zs =>
            intro c cs H' s nc ec r' q no
            obtain ⟨A, B, C⟩ := fin (T2 := fun q => T q ∨ q = c) s r' (fun _ z => .inl z) (fun q z => z.imp id fun z => by rw [z]; exact nc) fun q z => z.imp (fun z => ⟨.inl z, fun w => na (by rw [← w]; exact z)⟩) id
            refine p c cs H' B (s1.tr c nc) ec A (DqAll.less C zs cs q) fun z => ?_
            rcases z with z | z
            · obtain ⟨_, w⟩ := r1.tl c z
              rw [nc] at w; cases w
            · obtain ⟨_, w⟩ := r1.avd c (.inr ((own_same hx).mp z))
              rw [nc] at w; cases w
        · cases hF
      · cases eo
    · cases eo
  · obtain ⟨_, _, z, _⟩ := n0; cases z
theorem de_callI_gen (h : PE X e (fun σ H Q => ∃ v, σ[i]? = some (some v) ∧ tAr X.K X.mg W ml σ H (fun vs H1 => spG X.K X.mg n F (v :: vs) H1 Q (WE W σ)))) (hn : ∀ η xs η1, ml η = some (.ok xs, η1) → xs.length + 1 = n) : DE X W e (mCallI F i ml) := by
  refine PE.imp h fun σ H Q ⟨η, T, r0, n0⟩ => ?_
  refine callI_gen (P := fun σ H η T Q r η' => PD X.K X.mg σ H η T Q r.val η') (fun σ H η T Q x η' H1 η1 s p => PD.later _ _ _ _ _ _ _ _ _ s p) (fun σ H η T Q r η' p => ?_) hn r0 (Nx.bind n0 fun r η1 e1 n1 => n1.pure)
  cases r with
  | d x => exact p
  | l xs =>
    intro a vs H' s na ea r' q no
    exact p (.ref a) H' s (r'.lessT fun q z => .inl z) (.lst no (.inl ea) (DqAll.less (fun q z => z.imp .inl id) xs vs q))
theorem df_callI_gen (h : PE X e (fun σ H Q => ∃ v, σ[i]? = some (some v) ∧ tAr X.K X.mg W ml σ H (fun vs H1 => spG X.K X.mg n F (v :: vs) H1 Q (WE W σ)))) (hn : ∀ η xs η1, ml η = some (.ok xs, η1) → xs.length + 1 = n) : DF X W e (mCallIL F i ml) := by
  refine PE.imp h fun σ H Q ⟨η, T, r0, n0⟩ => ?_
  refine callI_gen (P := fun σ H η T Q r η' => ∃ xs, r = .l xs ∧ PL X.K X.mg σ H η T Q xs η') (fun σ H η T Q x η' H1 η1 s ⟨xs, e, p⟩ => ⟨xs, e, PL.later _ _ _ _ _ _ _ _ _ s p⟩) (fun σ H η T Q r η' ⟨xs, e, p⟩ => ?_) hn r0 (Nx.bind n0 fun r η1 e1 n1 => ?_)
  · subst e
    exact p
  · cases r with
    | l xs => exact ⟨xs, rfl, n1.pure⟩
    | d x => obtain ⟨_, _, z, _⟩ := n1; cases z
end
end L2.DL
end
section
set_option Elab.async false
set_option linter.all false
set_option maxRecDepth 100000
namespace L2.DL
open PySem PySem.Spec PyProof.Rows
set_option autoImplicit false

/-! ### statements -/
inductive Fl where
  | nx | bk | ct
  | rt (r : RV)
def PSt (K : Fg) (mg : Str → Option Value) : Ps Fl Ends := fun σ H η T D fl η' => match fl with
  | .nx => ∀ σ' H', StepS σ H η σ' H' η' → Rp K mg σ' H' η' T → D.nx σ' H'
  | .bk => ∀ σ' H', StepS σ H η σ' H' η' → Rp K mg σ' H' η' T → D.bk σ' H'
  | .ct => ∀ σ' H', StepS σ H η σ' H' η' → Rp K mg σ' H' η' T → D.ct σ' H'
  | .rt (.d x) => ∀ v σ' H', StepS σ H η σ' H' η' → Rp K mg σ' H' η' T → Dq K H' (Avd σ' η' T) v x → D.rt v H'
  | .rt (.l xs) => ∀ a vs σ' H', StepS σ H η σ' H' η' → (FreeAt σ η a ∨ H a = none) → H' a = some (.lst vs) → Rp K mg σ' H' η' (fun q => T q ∨ q = a) → DqAll K H' (Avd σ' η' fun q => T q ∨ q = a) vs xs → ¬ Avd σ' η' T a → D.rt (.ref a) H'
abbrev tSt (K : Fg) (mg : Str → Option Value) (W : WX) (m : MX Fl) : TS := fun D σ H => tG K mg W (PSt K mg) m σ H D
def DS (X : Cx) (W : WX) (st : Stmt) (m : MX Fl) : Prop := PS X st (tSt X.K X.mg W m)
def DSs (X : Cx) (W : WX) (st : List Stmt) (m : MX Fl) : Prop := PSs X st (tSt X.K X.mg W m)
section
variable {K : Fg} {mg : Str → Option Value} {W : WX} {σ σ1 σ' : St} {H H1 H2 H' : Hp} {η η1 η2 η' : EnvD} {T : Addr → Prop} {α β γ δ : Type}
theorem PSt.later {D : Ends} {fl : Fl} (s : StepS σ H η σ1 H1 η1) (p : PSt K mg σ H η T D fl η') : PSt K mg σ1 H1 η1 T D fl η' := by
  cases fl with
  | nx => exact fun σ' H' s' r => p σ' H' (s.trans s') r
  | bk => exact fun σ' H' s' r => p σ' H' (s.trans s') r
  | ct => exact fun σ' H' s' r => p σ' H' (s.trans s') r
  | rt r =>
    cases r with
    | d x => exact fun v σ' H' s' r q => p v σ' H' (s.trans s') r q
    | l xs => exact fun a vs σ' H' s' f => p a vs σ' H' (s.trans s') (f.elim (s.leF a) fun z => .inr (s.tr a z))
theorem Nx.laterS {D : Ends} {out : Option (R Fl × EnvD)} (s : StepS σ H η σ1 H1 η1) (h : Nx K mg W (PSt K mg) σ H η T D out) : Nx K mg W (PSt K mg) σ1 H1 η1 T D out := by
  obtain ⟨o, η', e, p⟩ := h
  refine ⟨o, η', e, ?_⟩
  cases o with
  | ok y => exact PSt.later s p
  | exc nm y => exact fun cls dd σ' H' s' r q => p cls dd σ' H' (s.trans s') r q
end
section
variable {X : Cx} {W : WX} {a b : Expr} {ma mb me : MX PyData} {ml : MX (List PyData)} {pos p : Pos} {e : Expr} {es : List Expr} {st : Stmt} {rest : List Stmt} {m k : MX Fl} {i j : Nat} {x : Str}
def mSeq (m k : MX Fl) : MX Fl := mBind m fun fl => match fl with
  | .nx => k
  | .bk => mPure .bk
  | .ct => mPure .ct
  | .rt r => mPure (.rt r)
theorem dss_nil : DSs X W [] (mPure .nx) := PSs.imp pss_nil fun D σ H ⟨η, T, r0, n0⟩ => n0.pure σ H StepS.refl r0
theorem dss_cons (h1 : DS X W st m) (h2 : DSs X W rest k) : DSs X W (st :: rest) (mSeq m k) := by
  refine PSs.imp (pss_cons h1 h2) fun D σ H ⟨η, T, r0, n0⟩ => ⟨η, T, r0, n0.bind fun fl η1 e1 n1 => ?_⟩
  cases fl with
  | nx => exact fun σ' H' s r => ⟨η1, T, r, Nx.laterS s n1⟩
  | bk => exact n1.pure
  | ct => exact n1.pure
  | rt r =>
    have q := n1.pure
    cases r with
    | d x => exact q
    | l x => exact q
theorem dss_one (h1 : DS X W st m) : DSs X W [st] m := pss_one h1
theorem ds_pass : DS X W (.Pass pos) (mPure .nx) := PS.imp ps_pass fun D σ H ⟨η, T, r0, n0⟩ => n0.pure σ H StepS.refl r0
theorem ds_break : DS X W (.Break pos) (mPure .bk) := PS.imp ps_break fun D σ H ⟨η, T, r0, n0⟩ => n0.pure σ H StepS.refl r0
theorem ds_continue : DS X W (.Continue pos) (mPure .ct) := PS.imp ps_continue fun D σ H ⟨η, T, r0, n0⟩ => n0.pure σ H StepS.refl r0
theorem ds_doc {x j pos pos'} : DS X W (.Expr (.Constant (.str x) j pos) pos') (mPure .nx) := PS.imp ps_doc fun D σ H ⟨η, T, r0, n0⟩ => n0.pure σ H StepS.refl r0
theorem ds_never : DS X W st (fun _ => none) := PS.imp ps_never fun D σ H ⟨η, T, r0, o, η', e, _⟩ => by cases e
def mDrop (m : MX PyData) : MX Fl := mBind m fun _ => mPure .nx
theorem ds_expr (he : DE X W e me) (hs : swapsWith e none pos.line X.env = pure false := by rfl) : DS X W (.Expr e pos) (mDrop me) :=
  PS.imp (ps_expr he hs) fun D σ H ⟨η, T, r0, n0⟩ => ⟨η, T, r0, n0.bind fun x η1 e1 n1 v H1 s1 r1 q1 => n1.pure σ H1 s1 r1⟩
def mRet (m : MX PyData) : MX Fl := mBind m fun x => mPure (.rt (.d x))
def mRetL (m : MX (List PyData)) : MX Fl := mBind m fun x => mPure (.rt (.l x))
theorem ds_ret (he : DE X W e me) : DS X W (.Return (some e) pos) (mRet me) :=
  PS.imp (ps_ret he) fun D σ H ⟨η, T, r0, n0⟩ => ⟨η, T, r0, n0.bind fun x η1 e1 n1 v H1 s1 r1 q1 => n1.pure v σ H1 s1 r1 q1⟩
theorem ds_retL (he : DF X W e ml) : DS X W (.Return (some e) pos) (mRetL ml) :=
  PS.imp (ps_ret he) fun D σ H ⟨η, T, r0, n0⟩ => ⟨η, T, r0, n0.bind fun x η1 e1 n1 a vs H1 s1 na ea r1 q1 no => n1.pure a vs σ H1 s1 (.inr na) ea r1 q1 no⟩
theorem ds_retN : DS X W (.Return none pos) (mPure (.rt (.d .none))) := PS.imp ps_retN fun D σ H ⟨η, T, r0, n0⟩ => n0.pure .non σ H StepS.refl r0 .non
/-- return of a name whose list nobody else holds -/
def mRetV (i : Nat) : MX Fl := fun η => match η[i]? with
  | some (some (.val d)) => some (.ok (.rt (.d d)), η)
  | some (some (.own false ds)) => some (.ok (.rt (.l ds)), η.set i none)
  | _ => none
theorem ds_retV {pos' : Pos} (h : PE X (.Name x pos) (tVar i)) : DS X W (.Return (some (.Name x pos)) pos') (mRetV i) := by
  refine PS.imp (ps_ret h) fun D σ H ⟨η, T, r0, o, η', e, p⟩ => ?_
  unfold mRetV at e
  split at e
  · rename_i d hd
    cases e
    obtain ⟨v, ev, q⟩ := r0.val i d hd
    exact ⟨v, ev, p v σ H StepS.refl r0 q⟩
  · rename_i ds hd
    cases e
    obtain ⟨a, vs, ea, e2, q, no⟩ := r0.own i false ds hd
    have own' : ∀ q, OwnAt σ (η.set i none) q → OwnAt σ η q ∧ q ≠ a := fun q z => by
      refine ⟨own_set (fun _ _ z => by cases z) z, fun w => ?_⟩
      subst w
      obtain ⟨j, b, ds', z1, z2⟩ := z
      rcases set_get z1 with ⟨_, e⟩ | ⟨ne, e⟩
      · cases e
      · exact ne (r0.inj i j false b ds ds' q hd e ea z2)
    have kA : ∀ q, Avd σ (η.set i none) (fun q => T q ∨ q = a) q → Avd σ η T q := fun q z => by
      rcases z with (z | z) | z
      · exact .inl z
      · subst z; exact .inr ⟨i, false, ds, hd, ea⟩
      · exact .inr (own' q z).1
    have r1 : Rp X.K X.mg σ H (η.set i none) T := r0.drop
    have r2 : Rp X.K X.mg σ H (η.set i none) (fun q => T q ∨ q = a) := by
      refine ⟨fun j d h' => ?_, fun j b' ds' h' => ?_, fun j nm d h' => ?_, r1.inj, fun q z => ?_, r1.len⟩
      · rcases set_get h' with ⟨_, e⟩ | ⟨_, e⟩
        · cases e
        · obtain ⟨v, e1, q1⟩ := r0.val j d e
          exact ⟨v, e1, Dq.less kA d v q1⟩
      · rcases set_get h' with ⟨_, e⟩ | ⟨nj, e⟩
        · cases e
        · obtain ⟨a2, vs2, e1, e2', q1, n1⟩ := r0.own j b' ds' e
          refine ⟨a2, vs2, e1, e2', DqAll.less kA ds' vs2 q1, fun z => z.elim n1 fun z => ?_⟩
          subst z
          exact nj (r0.inj i j false b' ds ds' a2 hd e ea e1)
      · rcases set_get h' with ⟨_, e⟩ | ⟨_, e⟩
        · cases e
        · obtain ⟨a2, e1, q1⟩ := r0.exc j nm d e
          exact ⟨a2, e1, q1.less kA⟩
      · rcases z with z | z
        · exact r0.tl q z
        · subst z; exact ⟨vs, e2⟩
    exact ⟨.ref a, ea, p a vs σ H (StepS.set fun _ _ z => by cases z) (.inl ⟨i, ds, hd, ea⟩) e2 r2 (DqAll.less kA ds vs q) fun z => z.elim no fun z => (own' a z).2 rfl⟩
  · cases e
def mIfS (c : MX Bool) (m k : MX Fl) : MX Fl := mBind c fun b => if b = true then m else k
theorem ds_if {c : Expr} {mc : MX Bool} {sa sb : List Stmt} (hc : DT X W c mc) (ha : DSs X W sa m) (hb : DSs X W sb k) : DS X W (.If c sa sb pos) (mIfS mc m k) := by
  refine PS.imp (ps_if hc ha hb) fun D σ H ⟨η, T, r0, n0⟩ => ⟨η, T, r0, n0.bind fun x η1 e1 n1 H1 s1 r1 => ?_⟩
  cases x with
  | true => rw [if_pos rfl]; exact ⟨η1, T, r1, Nx.laterS s1 n1⟩
  | false => rw [if_neg Bool.false_ne_true]; exact ⟨η1, T, r1, Nx.laterS s1 n1⟩

end
/-! ### targets -/
/-- a slot may be stored to unless it is a caller's list -/
def stO (i : Nat) (s : Slot) : EnvD → Option EnvD := fun η => match η[i]? with
  | some (some (.own true _)) => none
  | _ => some (η.set i (some s))
theorem stO_some {i : Nat} {s : Slot} {η η' : EnvD} (h : stO i s η = some η') : η' = η.set i (some s) ∧ ∀ ds : List PyData, η[i]? ≠ some (some (.own true ds)) := by
  unfold stO at h
  split at h
  · cases h
  · rename_i hn
    exact ⟨(Option.some.inj h).symm, fun ds z => hn ds z⟩
/-- a target's reading, by data: vs the slots that it stores to -/
def TGok (K : Fg) (mg : Str → Option Value) (g : TG) (vs : List Nat) (gm : PyData → EnvD → Option EnvD) : Prop :=
  ∀ (v : V) (d : PyData) (σ : St) (H : Hp) (η : EnvD) (T : Addr → Prop) (η' : EnvD) (Q : St → Hp → Prop), Rp K mg σ H η T → Dq K H (Avd σ η T) v d → gm d η = some η' →
    (∀ σ', StepS σ H η σ' H η' → Rp K mg σ' H η' T → σ'.length = σ.length → (∀ j, j ∉ vs → σ'[j]? = σ[j]?) → Q σ' H) → g v σ H Q
def TGsOk (K : Fg) (mg : Str → Option Value) (g : TGs) (vs : List Nat) (gm : List PyData → EnvD → Option EnvD) : Prop :=
  ∀ (us : List V) (ds : List PyData) (σ : St) (H : Hp) (η : EnvD) (T : Addr → Prop) (η' : EnvD) (Q : St → Hp → Prop), Rp K mg σ H η T → DqAll K H (Avd σ η T) us ds → gm ds η = some η' →
    (∀ σ', StepS σ H η σ' H η' → Rp K mg σ' H η' T → σ'.length = σ.length → (∀ j, j ∉ vs → σ'[j]? = σ[j]?) → Q σ' H) → g us σ H Q
def gV (i : Nat) (d : PyData) : EnvD → Option EnvD := stO i (.val d)
def gNilD : List PyData → EnvD → Option EnvD := fun ds η => match ds with
  | [] => some η
  | _ :: _ => none
def gConsD (g : PyData → EnvD → Option EnvD) (gs : List PyData → EnvD → Option EnvD) : List PyData → EnvD → Option EnvD := fun ds η => match ds with
  | [] => none
  | d :: ds => (g d η).bind (gs ds)
def gTupD (n : Nat) (gs : List PyData → EnvD → Option EnvD) : PyData → EnvD → Option EnvD := fun d η => match d with
  | .tuple ds => if ds.length = n then gs ds η else none
  | _ => none
section
variable {K : Fg} {mg : Str → Option Value}
theorem gok_name {i : Nat} : TGok K mg (gName i) [i] (gV i) := fun v d σ H η T η' Q r q e k => by
  obtain ⟨rfl, ni⟩ := stO_some e
  obtain ⟨r1, s1⟩ := r.store (i := i) (v := v) (d := d) q
  exact k _ (s1 ni) r1 (by simp) fun j hj => List.getElem?_set_ne (fun z => hj (by simp [z]))
theorem gok_nil : TGsOk K mg gNil [] gNilD := fun us ds σ H η T η' Q r q e k => by
  cases q with
  | nil => cases e; exact ⟨rfl, k σ StepS.refl r rfl fun _ _ => rfl⟩
  | cons _ _ => cases e
theorem gok_cons {vs ws : List Nat} {g1 : TG} {g2 : TGs} {g : PyData → EnvD → Option EnvD} {gs : List PyData → EnvD → Option EnvD} (f1 : TGok K mg g1 vs g) (f2 : TGsOk K mg g2 ws gs) : TGsOk K mg (gCons g1 g2) (vs ++ ws) (gConsD g gs) :=
  fun us ds σ H η T η' Q r q e k => by
  cases q with
  | nil => cases e
  | cons q1 q2 =>
    unfold gConsD at e
    obtain ⟨η1, e1, e2⟩ := Option.bind_eq_some_iff.mp e
    refine ⟨_, _, rfl, f1 _ _ σ H η T η1 _ r q1 e1 fun σ1 s1 r1 l1 k1 => ?_⟩
    exact f2 _ _ σ1 H η1 T η' Q r1 (r.olds s1 q2) e2 fun σ2 s2 r2 l2 k2 => k σ2 (s1.trans s2) r2 (l2.trans l1) fun j hj => (k2 j fun z => hj (List.mem_append_right _ z)).trans (k1 j fun z => hj (List.mem_append_left _ z))
theorem gok_tup {n : Nat} {vs : List Nat} {g : TGs} {gs : List PyData → EnvD → Option EnvD} (f : TGsOk K mg g vs gs) : TGok K mg (gTup K n g) vs (gTupD n gs) := fun v d σ H η T η' Q r q e k => by
  unfold gTupD at e
  cases q with
  | tup hs all =>
    simp only at e
    split at e
    · rename_i hl
      exact ⟨_, _, rfl, hs, by rw [all.length]; exact hl, f _ _ σ H η T η' Q r all e k⟩
    · cases e
  | _ => cases e
end

/-! ### assignments -/
def mAsg (me : MX PyData) (gm : PyData → EnvD → Option EnvD) : MX Fl := mBind me fun x => fun η => match gm x η with
  | some η' => some (.ok .nx, η')
  | none => none
def mAsgL (ml : MX (List PyData)) (i : Nat) : MX Fl := mBind ml fun xs => fun η => match stO i (.own false xs) η with
  | some η' => some (.ok .nx, η')
  | none => none
section
variable {X : Cx} {W : WX} {a b : Expr} {ma mb me : MX PyData} {ml : MX (List PyData)} {pos p : Pos} {e : Expr} {es : List Expr} {st : Stmt} {rest : List Stmt} {m k : MX Fl} {i j : Nat} {x : Str}
theorem asg_imp {gm : PyData → EnvD → Option EnvD} {g : TG} {vs : List Nat} {te : TE} (hg : TGok X.K X.mg g vs gm) (ht : ∀ σ H Q, tD X.K X.mg W me σ H Q → te σ H Q) :
    ∀ D σ H, tSt X.K X.mg W (mAsg me gm) D σ H → tAsg te g D σ H := fun D σ H ⟨η, T, r0, n0⟩ => ht σ H _ ⟨η, T, r0, n0.bind fun x η1 e1 n1 v H1 s1 r1 q1 => by
  obtain ⟨o, η', eo, p⟩ := n1
  split at eo
  · rename_i η2 hη
    cases eo
    exact hg v x σ H1 η1 T η' D.nx r1 q1 hη fun σ' s2 r2 _ _ => p σ' H1 (s1.trans s2) r2
  · cases eo⟩
theorem asgL_imp {te : TE} (ht : ∀ σ H Q, tF X.K X.mg W ml σ H Q → te σ H Q) : ∀ D σ H, tSt X.K X.mg W (mAsgL ml i) D σ H → tAsg te (gName i) D σ H := fun D σ H ⟨η, T, r0, n0⟩ => ht σ H _ ⟨η, T, r0, n0.bind fun xs η1 e1 n1 a vs H1 s1 na ea r1 q1 no => by
  obtain ⟨o, η', eo, p⟩ := n1
  split at eo
  · rename_i η2 hη
    cases eo
    obtain ⟨rfl, ni⟩ := stO_some hη
    obtain ⟨r2, own, free, inn⟩ := r1.storeL (i := i) ea q1 no
    refine p _ H1 ⟨s1.tr, s1.keep, fun q z => ?_, fun q z => ?_, fun j ds z => ?_⟩ r2
    · rcases own q z with z | z
      · exact s1.le q z
      · subst z; exact .inr na
    · rcases free q z with z | z
      · exact s1.leF q z
      · subst z; exact .inr na
    · obtain ⟨⟨d1, z1⟩, e1⟩ := inn ni j ds z
      obtain ⟨z2, e2⟩ := s1.inn j d1 z1
      exact ⟨z2, e1.trans e2⟩
  · cases eo⟩
/-- name = e -/
theorem ds_set {pos' : Pos} (hN : X.N.Nodup) (hi : X.N[i]? = some x) (hx : Loc X.env.scope x) (he : DE X W e me) (hs : swapsWith e (some (.Name x pos')) pos.line X.env = pure false := by rfl) (hf : X.fn x = true ∨ X.env.scope.names.lookup x = some .local := by first | exact .inl rfl | exact .inr rfl | assumption) :
    DS X W (.Assign [.Name x pos'] e pos) (mAsg me (gV i)) := by
  exact PS.imp (ps_set hN hi hx he hs hf) (asg_imp gok_name fun _ _ _ h => h)
theorem ds_setL {pos' : Pos} (hN : X.N.Nodup) (hi : X.N[i]? = some x) (hx : Loc X.env.scope x) (he : DF X W e ml) (hs : swapsWith e (some (.Name x pos')) pos.line X.env = pure false := by rfl) (hf : X.fn x = true ∨ X.env.scope.names.lookup x = some .local := by first | exact .inl rfl | exact .inr rfl | assumption) :
    DS X W (.Assign [.Name x pos'] e pos) (mAsgL ml i) := PS.imp (ps_set hN hi hx he hs hf) (asgL_imp fun _ _ _ h => h)
/-- target = e -/
theorem ds_asg {tg : Expr} {g : TG} {vs : List Nat} {gm : PyData → EnvD → Option EnvD} (hp : PG X tg g) (hg : TGok X.K X.mg g vs gm) (he : DE X W e me) (hs : swapsWithSole [tg] e pos.line X.env = pure false := by rfl) (hw : swappedStores [tg] e X.env = pure none := by rfl)
    (h1 : (assignEach [tg] X.env).map (·.2) = [assign tg X.env] := by rfl) : DS X W (.Assign [tg] e pos) (mAsg me gm) := PS.imp (ps_asg he hp hs hw h1) (asg_imp hg fun _ _ _ h => h)
end
end L2.DL
end
section
set_option Elab.async false
set_option linter.all false
set_option maxRecDepth 100000
namespace L2.DL
open PySem PySem.Spec PyProof.Rows
set_option autoImplicit false

/-! ### a def by its body -/
def okA : Option Slot → Bool
  | some (.val _) => true
  | some (.own true _) => true
  | _ => false
def maskS : Option Slot → Option Slot
  | some (.own true ds) => some (.own true ds)
  | _ => none
def maskE (n : Nat) (η : EnvD) : EnvD := (η.take n).map maskS
def runF (N n : Nat) (m : MX Fl) : FS := fun args => if args.length = n ∧ args.all okA = true ∧ n ≤ N then
    match m (args ++ List.replicate (N - n) none) with
    | some (.ok (.rt r), η') => some (.ok r, maskE n η')
    | some (.ok .nx, η') => some (.ok (.d .none), maskE n η')
    | some (.exc nm d, η') => some (.exc nm d, maskE n η')
    | _ => none
  else none
section
variable {K : Fg} {mg : Str → Option Value} {σ σ' : St} {H H' : Hp} {η η' : EnvD} {T : Addr → Prop} {args : EnvD} {vs : List V} {N n : Nat}
theorem app_get {α : Type} {l r : List α} {i : Nat} {x : α} (h : (l ++ r)[i]? = some x) : l[i]? = some x ∨ (l.length ≤ i ∧ r[i - l.length]? = some x) := by
  by_cases hi : i < l.length
  · rw [List.getElem?_append_left hi] at h; exact .inl h
  · rw [List.getElem?_append_right (by omega)] at h; exact .inr ⟨by omega, h⟩
theorem pad_get {k i : Nat} {s : Slot} (h : (args ++ List.replicate k none)[i]? = some (some s)) : args[i]? = some (some s) := by
  rcases app_get h with h | ⟨_, h⟩
  · exact h
  · rw [List.getElem?_replicate] at h
    split at h <;> cases h
theorem padv_get {k i : Nat} {v : V} (h : (vs.map some ++ List.replicate k none)[i]? = some (some v)) : (vs.map some)[i]? = some (some v) := by
  rcases app_get h with h | ⟨_, h⟩
  · exact h
  · rw [List.getElem?_replicate] at h
    split at h <;> cases h
theorem pad_left {α : Type} {l r : List α} {i : Nat} {x : α} (h : l[i]? = some x) : (l ++ r)[i]? = some x := by
  rw [List.getElem?_append_left (List.getElem?_eq_some_iff.mp h).1]; exact h
theorem own_pad {k l : Nat} {q : Addr} : OwnAt (vs.map some ++ List.replicate k none) (args ++ List.replicate l none) q ↔ OwnAt (vs.map some) args q := by
  constructor
  · rintro ⟨i, b, ds, e1, e2⟩
    exact ⟨i, b, ds, pad_get e1, padv_get e2⟩
  · rintro ⟨i, b, ds, e1, e2⟩
    exact ⟨i, b, ds, pad_left e1, pad_left e2⟩
theorem Rp.pad (r : Rp K mg (vs.map some) H args T) (hl : args.length = vs.length) (k : Nat) : Rp K mg (vs.map some ++ List.replicate k none) H (args ++ List.replicate k none) T := by
  have kA : ∀ q, Avd (vs.map some ++ List.replicate k none) (args ++ List.replicate k none) T q → Avd (vs.map some) args T q := fun q z => z.imp id own_pad.mp
  refine ⟨fun i d h => ?_, fun i b ds h => ?_, fun i nm d h => ?_, fun i j b b' d1 d2 a h1 h2 h3 h4 => r.inj i j b b' d1 d2 a (pad_get h1) (pad_get h2) (padv_get h3) (padv_get h4), r.tl, by simp [hl]⟩
  · obtain ⟨v, e, q⟩ := r.val i d (pad_get h)
    exact ⟨v, pad_left e, Dq.less kA d v q⟩
  · obtain ⟨a, ws, e, e2, q, n⟩ := r.own i b ds (pad_get h)
    exact ⟨a, ws, pad_left e, e2, DqAll.less kA ds ws q, n⟩
  · obtain ⟨a, e, q⟩ := r.exc i nm d (pad_get h)
    exact ⟨a, pad_left e, q.less kA⟩
theorem mask_get {i : Nat} {s : Slot} (h : (maskE n η)[i]? = some (some s)) : i < n ∧ ∃ ds, s = .own true ds ∧ η[i]? = some (some (.own true ds)) := by
  unfold maskE at h
  rw [List.getElem?_map] at h
  cases e : (η.take n)[i]? with
  | none => rw [e] at h; cases h
  | some o =>
    rw [e] at h
    have hi := (List.getElem?_eq_some_iff.mp e).1
    rw [List.length_take] at hi
    rw [List.getElem?_take_of_lt (by omega)] at e
    have h' : maskS o = some s := Option.some.inj h
    unfold maskS at h'
    split at h'
    · cases h'
      exact ⟨by omega, _, rfl, e⟩
    · cases h'
/-- behind the body, as the caller sees it -/
theorem mask_ok {k : Nat} (hl : vs.length = n) (ha : args.all okA = true) (hla : args.length = n) (s : StepS (vs.map some ++ List.replicate k none) H (args ++ List.replicate k none) σ' H' η') (r : Rp K mg σ' H' η' T) :
    StepS (vs.map some) H args (vs.map some) H' (maskE n η') ∧ Rp K mg (vs.map some) H' (maskE n η') T ∧ ∀ q, Avd (vs.map some) (maskE n η') T q → Avd σ' η' T q := by
  have slot : ∀ {i : Nat} {s : Slot}, (maskE n η')[i]? = some (some s) → ∃ ds, s = .own true ds ∧ η'[i]? = some (some (.own true ds)) ∧ (∃ d0, args[i]? = some (some (.own true d0))) ∧ σ'[i]? = (vs.map some)[i]? := fun {i s'} h => by
    obtain ⟨hi, ds, rfl, e⟩ := mask_get h
    obtain ⟨⟨d0, e0⟩, e1⟩ := s.inn i ds e
    refine ⟨ds, rfl, e, ⟨d0, pad_get e0⟩, ?_⟩
    rw [e1, List.getElem?_append_left (by simp; omega)]
  have own : ∀ q, OwnAt (vs.map some) (maskE n η') q → OwnAt σ' η' q := fun q ⟨i, b, ds, e1, e2⟩ => by
    obtain ⟨ds', e, e3, _, e4⟩ := slot e1
    cases e
    exact ⟨i, true, ds, e3, by rw [e4]; exact e2⟩
  have kA : ∀ q, Avd (vs.map some) (maskE n η') T q → Avd σ' η' T q := fun q z => z.imp id (own q)
  refine ⟨⟨s.tr, fun q o h no => s.keep q o h fun z => no (own_pad.mp z), fun q z => ?_, fun q z => ?_, fun i ds z => ?_⟩, ⟨fun i d h => ?_, fun i b ds h => ?_, fun i nm d h => ?_, fun i j b b' d1 d2 a h1 h2 h3 h4 => ?_, r.tl, ?_⟩, kA⟩
  · rcases s.le q (own q z) with z | z
    · exact .inl (own_pad.mp z)
    · exact .inr z
  · obtain ⟨i, ds, e1, e2⟩ := z
    obtain ⟨ds', e, _⟩ := slot e1
    cases e
  · obtain ⟨ds', e, _, h, _⟩ := slot z
    exact ⟨h, rfl⟩
  · obtain ⟨ds', e, _⟩ := slot h
    cases e
  · obtain ⟨ds', e, e3, _, e4⟩ := slot h
    cases e
    obtain ⟨a, ws, h1, h2, h3, h4⟩ := r.own i true _ e3
    exact ⟨a, ws, by rw [← e4]; exact h1, h2, DqAll.less kA _ _ h3, h4⟩
  · obtain ⟨ds', e, _⟩ := slot h
    cases e
  · obtain ⟨_, e, e3, _, e4⟩ := slot h1
    obtain ⟨_, e', e5, _, e6⟩ := slot h2
    exact r.inj i j true true _ _ a e3 e5 (by rw [e4]; exact h3) (by rw [e6]; exact h4)
  · unfold maskE
    simp
    omega
theorem not_free {k : Nat} (ha : args.all okA = true) {q : Addr} : ¬ FreeAt (vs.map some ++ List.replicate k none) (args ++ List.replicate k none) q := fun ⟨i, ds, e1, e2⟩ => by
  have z := List.all_eq_true.mp ha _ (List.mem_of_getElem? (pad_get e1))
  cases z
end
/-- THE RULE for a def: its body as a plain program -/
theorem fn_ok {P : Program} {w : World} {K : PySem.W.Frag} {mg : Str → Option Value} {base : Heap} {x qual : Str} {st : Stmt} {f : Addr} {fd : FuncData} {N ps : List Str} {k : Nat} {m : MX Fl} (F : Fun K x qual st f fd) (S : FnScope N ps (defScope st))
    (hbody : ∀ (cdv : Value) (A : Around) (outer : List Env) (s : Shared) (H : Hp) (E : XK), Room k (A.deeper (envOfC qual (defScope st) s.heap.objs.size f cdv)) →
      DSs (cxOf (L2.CX P w) P w K mg base N qual (defScope st) f cdv A outer s H E) (fun cls d _ H => E cls d H) (defBody st) m) : FnOk P w K mg base (L2.CX P w) (k + 1) f fd ps (spG K mg ps.length (runF N.length ps.length m)) := by
  have hpl : ps.length ≤ N.length := by have := congrArg List.length S.pre; rw [List.length_take] at this; omega
  refine F.okX S (fun vs H Q E h => h.1) (fun cdv A outer s H vs Q E hr h => ⟨_, hbody cdv A outer s H E hr, ?_⟩)
  obtain ⟨hl, args, T, r, o, ηo, e, p⟩ := h
  unfold runF at e
  split at e
  · rename_i hc
    obtain ⟨hla, hall, _⟩ := hc
    have hst : start N vs = vs.map some ++ List.replicate (N.length - ps.length) none := by unfold start; rw [hl]
    refine ⟨args ++ List.replicate (N.length - ps.length) none, T, by rw [hst]; exact r.pad (by rw [hla, hl]) _, ?_⟩
    rw [hst]
    split at e
    · rename_i rv η' em
      cases e
      refine ⟨_, _, em, ?_⟩
      cases rv with
      | d y =>
        intro v σ' H' s' r' q
        obtain ⟨s2, r2, kA⟩ := mask_ok hl hall hla s' r'
        exact p v H' s2 r2 (Dq.less kA y v q)
      | l ys =>
        intro a ws σ' H' s' fr ea r' q no
        obtain ⟨s2, r2, kA⟩ := mask_ok hl hall hla s' r'
        obtain ⟨_, r3, kA3⟩ := mask_ok (T := T) hl hall hla s' (r'.lessT fun q z => .inl z)
        refine p a ws H' s2 (fr.elim (fun z => absurd z (not_free hall)) id) ea r2 (DqAll.less kA ys ws q) fun z => no (kA3 a z)
    · rename_i η' em
      cases e
      refine ⟨_, _, em, fun σ' H' s' r' => ?_⟩
      obtain ⟨s2, r2, kA⟩ := mask_ok hl hall hla s' r'
      exact p .non H' s2 r2 .non
    · rename_i nm d η' em
      cases e
      refine ⟨_, _, em, fun cls dd σ' H' s' r' q => ?_⟩
      obtain ⟨s2, r2, kA⟩ := mask_ok hl hall hla s' r'
      obtain ⟨C, a, v, h1, h2, h3, h4, h5⟩ := q
      exact p cls dd _ H' s2 r2 ⟨C, a, v, h1, h2, h3, h4, Dq.less kA d v h5⟩
    · cases e
  · cases e
end L2.DL
end
section
set_option Elab.async false
set_option linter.all false
set_option maxRecDepth 100000
namespace L2.DL
open PySem PySem.Spec PyProof.Rows
set_option autoImplicit false

/-! ### what is walked -/
/-- at H an iterator that yields these data -/
def ItOk (K : Fg) (J : It) (items : List PyData) (O : Addr → Prop) (H : Hp) : Prop :=
  ∀ H1 O1, Kp O O1 H H1 → Lists H1 O1 → (∀ i, i < items.length → J.go i H1) ∧ (∀ i, items.length ≤ i → J.stop i H1) ∧
    ∀ i x H2, i < items.length → J.yld i H1 x H2 → More H1 H2 ∧ ∃ d, items[i]? = some d ∧ Dq K H2 O1 x d
def PIt (K : Fg) (mg : Str → Option Value) : Ps (List PyData) (It → Hp → Prop) := fun σ H η T R items η' => ∀ J H', StepS σ H η σ H' η' → Rp K mg σ H' η' T → ItOk K J items (Avd σ η' T) H' → R J H'
theorem PIt.later {K : Fg} {mg : Str → Option Value} : Later (PIt K mg) := fun σ H η T Q x η' H1 η1 s p v H' s' r q => p v H' (s.trans s') r q
def DI (X : Cx) (W : WX) (tg iter : Expr) (mi : MX (List PyData)) : Prop := PI X tg iter (fun σ H R => tG X.K X.mg W (PIt X.K X.mg) mi σ H R)
theorem PI.imp {X : Cx} {tg e : Expr} {t t' : TI} (h : PI X tg e t) (i : ∀ σ H Q, t' σ H Q → t σ H Q) : PI X tg e t' := ⟨fun pins s σ H Q I hw => h.run pins s σ H Q I (i σ H Q hw)⟩
theorem DqAll.lt {K : Fg} {H : Hp} {O : Addr → Prop} {vs : List V} {ds : List PyData} (q : DqAll K H O vs ds) {i : Nat} (h : i < ds.length) : ∃ v, vs[i]? = some v := by
  have := q.length
  exact ⟨vs[i]'(by omega), List.getElem?_eq_getElem (by omega)⟩
theorem SqL.fun1 {K : Fg} {H : Hp} {a : Addr} {xs ys : List V} (r : Rd H a (.lst xs)) (h : Rd H a (.lst ys)) : ys = xs := by
  rcases r with r | ⟨o, r⟩
  · rcases h with h | ⟨o', h⟩
    · rw [r] at h; cases h; rfl
    · rw [r] at h; cases h
  · rcases h with h | ⟨o', h⟩
    · rw [r] at h; cases h
    · rw [r] at h; cases h; rfl
theorem SqT.fun1 {K : Fg} {H : Hp} {a : Addr} {xs ys : List V} (r : Rd H a (.tup xs)) (h : Rd H a (.tup ys)) : ys = xs := by
  rcases r with r | ⟨o, r⟩
  · rcases h with h | ⟨o', h⟩
    · rw [r] at h; cases h; rfl
    · rw [r] at h; cases h
  · rcases h with h | ⟨o', h⟩
    · rw [r] at h; cases h
    · rw [r] at h; cases h; rfl
/-- a list, a tuple that is walked: what stands there at any later time -/
def Src (K : Fg) (H : Hp) (O : Addr → Prop) (a : Addr) (t : Bool) (vs : List V) (ds : List PyData) : Prop := (if t = true then SqT K H a vs else ¬ O a ∧ Rd H a (.lst vs)) ∧ DqAll K H O vs ds
theorem Src.keep {K : Fg} {H H1 : Hp} {O O1 : Addr → Prop} {a : Addr} {t : Bool} {vs : List V} {ds : List PyData} (k : Kp O O1 H H1) (s : Src K H O a t vs ds) : Src K H1 O1 a t vs ds := by
  refine ⟨?_, DqAll.keep k ds vs s.2⟩
  have h := s.1
  cases t with
  | true => exact k.tup (show SqT K H a vs from h)
  | false =>
    have h : ¬ O a ∧ Rd H a (.lst vs) := h
    exact (show ¬ O1 a ∧ Rd H1 a (.lst vs) from ⟨(k.rd h.1 h.2).2, (k.rd h.1 h.2).1⟩)
theorem it_list {K : Fg} {H : Hp} {O : Addr → Prop} {a : Addr} {vs : List V} {ds : List PyData} (s : Src K H O a false vs ds) : ItOk K (Itl K a) ds O H := fun H1 O1 k l1 => by
  obtain ⟨h, q⟩ := s.keep k
  have h : ¬ O1 a ∧ Rd H1 a (.lst vs) := h
  refine ⟨fun i hi => ?_, fun i hi => ⟨vs, .inl h.2, by rw [q.length]; exact hi⟩, fun i x H2 hi y => ?_⟩
  · obtain ⟨v, e⟩ := q.lt hi
    exact ⟨vs, v, .inl h.2, e⟩
  · obtain ⟨rfl, y⟩ := y
    obtain ⟨d, e, qd⟩ := q.get' (y vs (.inl h.2))
    exact ⟨More.refl, d, e, qd⟩
theorem it_tup {K : Fg} {H : Hp} {O : Addr → Prop} {a : Addr} {vs : List V} {ds : List PyData} (s : Src K H O a true vs ds) : ItOk K (Itt K a) ds O H := fun H1 O1 k l1 => by
  obtain ⟨h, q⟩ := s.keep k
  have h : SqT K H1 a vs := h
  refine ⟨fun i hi => ?_, fun i hi => ⟨vs, h, by rw [q.length]; exact hi⟩, fun i x H2 hi y => ?_⟩
  · obtain ⟨v, e⟩ := q.lt hi
    exact ⟨vs, v, h, e⟩
  · obtain ⟨rfl, y⟩ := y
    obtain ⟨d, e, qd⟩ := q.get' (y vs h)
    exact ⟨More.refl, d, e, qd⟩
theorem PI.or {X : Cx} {tg e : Expr} {t t' : TI} (h : PI X tg e t) (h' : PI X tg e t') : PI X tg e (fun σ H R => t σ H R ∨ t' σ H R) := ⟨fun pins s σ H Q I hw => hw.elim (h.run pins s σ H Q I) (h'.run pins s σ H Q I)⟩
def itemsD : PyData → Option (List PyData)
  | .list ds => some ds
  | .tuple ds => some ds
  | _ => none
def mIter (m : MX PyData) : MX (List PyData) := mBind m fun x => mLift (itemsD x)
section
variable {X : Cx} {W : WX} {tg e e2 : Expr} {me : MX PyData} {ml : MX (List PyData)} {p pos tpos : Pos} {elts : List Expr} {kk : Nat}
/-- over a list or a tuple -/
theorem di_val (he : DE X W e me) : DI X W tg e (mIter me) := by
  refine PI.imp (PI.or (pi_list he) (pi_tup he)) fun σ H R ⟨η, T, r0, n0⟩ => ?_
  cases em : me η with
  | none =>
    obtain ⟨o, η', eo, _⟩ := n0
    unfold mIter mBind at eo
    rw [em] at eo; cases eo
  | some w =>
    obtain ⟨w, η1⟩ := w
    cases w with
    | exc nm d => exact .inl ⟨η, T, r0, n0.bind fun x η1 e1 n1 => by rw [em] at e1; cases e1⟩
    | ok x =>
      cases x with
      | list ds =>
        refine .inl ⟨η, T, r0, n0.bind fun x η1 e1 n1 v H1 s1 r1 q1 => ?_⟩
        rw [em] at e1; cases e1
        obtain ⟨z, ez, p⟩ := n1.lift
        cases ez
        cases q1 with
        | lst no r all => exact ⟨_, rfl, ⟨_, .inl r⟩, p _ H1 s1 r1 (it_list ⟨⟨no, r⟩, all⟩)⟩
      | tuple ds =>
        refine .inr ⟨η, T, r0, n0.bind fun x η1 e1 n1 v H1 s1 r1 q1 => ?_⟩
        rw [em] at e1; cases e1
        obtain ⟨z, ez, p⟩ := n1.lift
        cases ez
        cases q1 with
        | tup r all => exact ⟨_, rfl, ⟨_, r⟩, p _ H1 s1 r1 (it_tup ⟨r, all⟩)⟩
      | _ =>
        obtain ⟨o, η', eo, _⟩ := n0
        unfold mIter mBind at eo
        rw [em] at eo; cases eo
def rngL (lo : Int) (n : Nat) : List PyData := (List.range n).map fun (i : Nat) => .int (lo + (i : Int))
theorem it_rng {K : Fg} {H : Hp} {O : Addr → Prop} {lo : Int} {n : Nat} : ItOk K (Itr lo n) (rngL lo n) O H := fun H1 O1 k l1 => by
  have hl : (rngL lo n).length = n := by unfold rngL; simp
  refine ⟨fun i hi => by rw [hl] at hi; exact hi, fun i hi => by rw [hl] at hi; exact hi, fun i x H2 hi y => ?_⟩
  rw [hl] at hi
  obtain ⟨rfl, rfl⟩ := y
  refine ⟨More.refl, .int (lo + i), ?_, .int _⟩
  unfold rngL
  rw [List.getElem?_map, List.getElem?_range hi]
  rfl
def okR (i : Int) : Prop := -(2 ^ 62) ≤ i ∧ i < 2 ^ 62
instance (i : Int) : Decidable (okR i) := by unfold okR; infer_instance
def rangeD : List PyData → Option (List PyData)
  | [.int j] => if okR j then some (rngL 0 j.toNat) else none
  | [.int i, .int j] => if okR i ∧ okR j then some (rngL i (j - i).toNat) else none
  | _ => none
def gIt (g : List PyData → Option (List PyData)) (ml : MX (List PyData)) : MX (List PyData) := mBind ml fun xs => mLift (g xs)
theorem di_range1 {a : Expr} (hm : X.mg "range" = none) (ha : DA X W [a] ml) (hl : ∀ η xs η1, ml η = some (.ok xs, η1) → xs.length = 1) (hg : Gl X "range" := by rfl) (hs : starEach [a] X.env = [(false, eval a X.env)] := by rfl) : DI X W tg (.Call (.Name "range" p) [a] [] pos) (gIt rangeD ml) := by
  refine PI.imp (pi_range1 hg hm ha hs) fun σ H R ⟨η, T, r0, n0⟩ => ⟨η, T, r0, n0.bind fun x η1 e1 n1 vs H1 s1 r1 q1 => ?_⟩
  obtain ⟨z, ez, p⟩ := n1.lift
  have l1 := hl η x η1 e1
  match x, l1, q1, ez with
  | [d], _, .cons q .nil, ez =>
    cases q with
    | int j =>
      simp only [rangeD] at ez
      split at ez
      · rename_i h
        cases ez
        exact ⟨j, rfl, h.1, h.2, p _ H1 s1 r1 it_rng⟩
      · cases ez
    | _ => cases ez
theorem di_range2 {a b : Expr} (hm : X.mg "range" = none) (ha : DA X W [a, b] ml) (hl : ∀ η xs η1, ml η = some (.ok xs, η1) → xs.length = 2) (hg : Gl X "range" := by rfl) (hs : starEach [a, b] X.env = [(false, eval a X.env), (false, eval b X.env)] := by rfl) (hs2 : starEach [b] X.env = [(false, eval b X.env)] := by rfl) : DI X W tg (.Call (.Name "range" p) [a, b] [] pos) (gIt rangeD ml) := by
  refine PI.imp (pi_range2 hg hm ha hs hs2) fun σ H R ⟨η, T, r0, n0⟩ => ⟨η, T, r0, n0.bind fun x η1 e1 n1 vs H1 s1 r1 q1 => ?_⟩
  obtain ⟨z, ez, p⟩ := n1.lift
  have l1 := hl η x η1 e1
  match x, l1, q1, ez with
  | [d, d2], _, .cons q (.cons q2 .nil), ez =>
    cases q with
    | int i =>
      cases q2 with
      | int j =>
        simp only [rangeD] at ez
        split at ez
        · rename_i h
          cases ez
          exact ⟨i, j, rfl, ⟨h.1.1, h.1.2, h.2.1, h.2.2⟩, p _ H1 s1 r1 it_rng⟩
        · cases ez
      | _ => cases ez
    | _ => cases ez
/-- the pairs of enumerate, of zip -/
def enumD : List PyData → Option (List PyData)
  | [.list ds] => some ((List.range ds.length).map fun (i : Nat) => .tuple [.int (i : Nat), ds.getD i .none])
  | _ => none
def zipD : List PyData → Option (List PyData)
  | [.list ds, .list es] => some ((ds.zip es).map fun p => .tuple [p.1, p.2])
  | [.tuple ds, .tuple es] => some ((ds.zip es).map fun p => .tuple [p.1, p.2])
  | _ => none
theorem di_enum {a : Expr} (hm : X.mg "enumerate" = none) (ha : DA X W [a] ml) (hl : ∀ η xs η1, ml η = some (.ok xs, η1) → xs.length = 1) (hg : Gl X "enumerate" := by rfl) (hs : starEach [a] X.env = [(false, eval a X.env)] := by rfl) : DI X W (.Tuple elts kk tpos) (.Call (.Name "enumerate" p) [a] [] pos) (gIt enumD ml) := by
  refine PI.imp (pi_enum hg hm ha hs) fun σ H R ⟨η, T, r0, n0⟩ => ⟨η, T, r0, n0.bind fun x η1 e1 n1 vs H1 s1 r1 q1 => ?_⟩
  obtain ⟨z, ez, p⟩ := n1.lift
  have l1 := hl η x η1 e1
  match x, l1, q1, ez with
  | [d], _, .cons q .nil, ez =>
    cases q with
    | @lst a ws ds no r all =>
      simp only [enumD] at ez
      cases ez
      refine ⟨a, ws, rfl, .inl r, p _ H1 s1 r1 fun H2 O1 k l2 => ?_⟩
      obtain ⟨h, q⟩ := Src.keep (t := false) k ⟨⟨no, r⟩, all⟩
      have h : ¬ O1 a ∧ Rd H2 a (.lst ws) := h
      have hlen : ((List.range ds.length).map fun (i : Nat) => PyData.tuple [.int (i : Nat), ds.getD i .none]).length = ds.length := by simp
      rw [hlen]
      refine ⟨fun i hi => ?_, fun i hi => ⟨ws, .inl h.2, by rw [q.length]; exact hi⟩, fun i x H3 hi y => ?_⟩
      · obtain ⟨v, e⟩ := q.lt hi
        exact ⟨ws, v, .inl h.2, e⟩
      · obtain ⟨T', y', rfl, hn, rfl, hy⟩ := y
        obtain ⟨d', e', qd⟩ := q.get' (hy ws (.inl h.2))
        have mo : More H2 (upd H2 T' (.tup [.int (i : Nat), y'])) := More.upd hn
        refine ⟨mo, .tuple [.int (i : Nat), d'], ?_, .tup (.inl (.inl upd_same)) (.cons (.int _) (.cons (qd.more l2 mo) .nil))⟩
        rw [List.getElem?_map, List.getElem?_range hi, Option.map_some, List.getD_eq_getElem?_getD, e']
        rfl
    | _ => cases ez
theorem di_zip {a b : Expr} (hm : X.mg "zip" = none) (ha : DA X W [a, b] ml) (hl : ∀ η xs η1, ml η = some (.ok xs, η1) → xs.length = 2) (hg : Gl X "zip" := by rfl) (hs : starEach [a, b] X.env = (false, eval a X.env) :: starEach [b] X.env := by rfl) (hpl : (backTo pos (starEach [b] X.env)).any (·.1) = false := by rfl) : DI X W (.Tuple elts kk tpos) (.Call (.Name "zip" p) [a, b] [] pos) (gIt zipD ml) := by
  refine PI.imp (RZ.pi_zipA hg hm ha hs hpl) fun σ H R ⟨η, T, r0, n0⟩ => ⟨η, T, r0, n0.bind fun x η1 e1 n1 vs H1 s1 r1 q1 => ?_⟩
  obtain ⟨z, ez, p⟩ := n1.lift
  have l1 := hl η x η1 e1
  match x, l1, q1, ez with
  | [d, d2], _, .cons q (.cons q2 .nil), ez =>
    cases q with
    | @lst a ws ds no r all =>
      cases q2 with
      | @lst b us es no2 rb all2 =>
        simp only [zipD] at ez
        cases ez
        refine ⟨a, b, ws, us, rfl, .inl ⟨.inl r, .inl rb, p _ H1 s1 r1 fun H2 O1 k l2 => ?_⟩⟩
        obtain ⟨h, q⟩ := Src.keep (t := false) k ⟨⟨no, r⟩, all⟩
        obtain ⟨h2, q2⟩ := Src.keep (t := false) k ⟨⟨no2, rb⟩, all2⟩
        have h : ¬ O1 a ∧ Rd H2 a (.lst ws) := h
        have h2 : ¬ O1 b ∧ Rd H2 b (.lst us) := h2
        have hlen : ((ds.zip es).map fun p => PyData.tuple [p.1, p.2]).length = min ds.length es.length := by simp
        rw [hlen]
        refine ⟨fun i hi => ?_, fun i hi => ⟨ws, us, .inl h.2, .inl h2.2, by rw [q.length, q2.length]; omega⟩, fun i x H3 hi y => ?_⟩
        · obtain ⟨v, e⟩ := q.lt (i := i) (by omega)
          obtain ⟨v2, e2⟩ := q2.lt (i := i) (by omega)
          exact ⟨ws, us, v, v2, .inl h.2, .inl h2.2, e, e2⟩
        · obtain ⟨T', y1, y2, rfl, hn, rfl, hy1, hy2⟩ := y
          obtain ⟨d', e', qd⟩ := q.get' (hy1 ws (.inl h.2))
          obtain ⟨d2', e2', qd2⟩ := q2.get' (hy2 us (.inl h2.2))
          have mo : More H2 (upd H2 T' (.tup [y1, y2])) := More.upd hn
          refine ⟨mo, .tuple [d', d2'], ?_, .tup (.inl (.inl upd_same)) (.cons (qd.more l2 mo) (.cons (qd2.more l2 mo) .nil))⟩
          rw [List.getElem?_map, List.getElem?_zip_eq_some (z := (d', d2')) |>.mpr ⟨e', e2'⟩]
          rfl
      | _ => cases ez
    | @tup a ws ds r all =>
      cases q2 with
      | @tup b us es rb all2 =>
        simp only [zipD] at ez
        cases ez
        refine ⟨a, b, ws, us, rfl, .inr ⟨r, rb, p _ H1 s1 r1 fun H2 O1 k l2 => ?_⟩⟩
        obtain ⟨h, q⟩ := Src.keep (t := true) k ⟨r, all⟩
        obtain ⟨h2, q2⟩ := Src.keep (t := true) k ⟨rb, all2⟩
        have h : SqT X.K H2 a ws := h
        have h2 : SqT X.K H2 b us := h2
        have hlen : ((ds.zip es).map fun p => PyData.tuple [p.1, p.2]).length = min ds.length es.length := by simp
        rw [hlen]
        refine ⟨fun i hi => ?_, fun i hi => ⟨ws, us, h, h2, by rw [q.length, q2.length]; omega⟩, fun i x H3 hi y => ?_⟩
        · obtain ⟨v, e⟩ := q.lt (i := i) (by omega)
          obtain ⟨v2, e2⟩ := q2.lt (i := i) (by omega)
          exact ⟨ws, us, v, v2, h, h2, e, e2⟩
        · obtain ⟨T', y1, y2, rfl, hn, rfl, hy1, hy2⟩ := y
          obtain ⟨d', e', qd⟩ := q.get' (hy1 ws h)
          obtain ⟨d2', e2', qd2⟩ := q2.get' (hy2 us h2)
          have mo : More H2 (upd H2 T' (.tup [y1, y2])) := More.upd hn
          refine ⟨mo, .tuple [d', d2'], ?_, .tup (.inl (.inl upd_same)) (.cons (qd.more l2 mo) (.cons (qd2.more l2 mo) .nil))⟩
          rw [List.getElem?_map, List.getElem?_zip_eq_some (z := (d', d2')) |>.mpr ⟨e', e2'⟩]
          rfl
      | _ => cases ez
    | _ => cases ez
end
end L2.DL
end
section
set_option Elab.async false
set_option linter.all false
set_option maxRecDepth 100000
namespace L2.DL
open PySem PySem.Spec PyProof.Rows
set_option autoImplicit false

/-! ### for -/
/-- slots forgotten at each turn's end -/
def forget : List Nat → EnvD → EnvD
  | [], η => η
  | i :: is, η => forget is (match η[i]? with
    | some (some (.own true _)) => η
    | _ => η.set i none)
section
variable {K : Fg} {mg : Str → Option Value} {σ : St} {H : Hp} {η : EnvD} {T : Addr → Prop}
theorem Rp.forget (is : List Nat) : ∀ {η : EnvD}, Rp K mg σ H η T → Rp K mg σ H (DL.forget is η) T ∧ StepS σ H η σ H (DL.forget is η) := by
  induction is with
  | nil => exact fun r => ⟨r, StepS.refl⟩
  | cons i is ih =>
    intro η r
    unfold DL.forget
    split
    · exact ih r
    · obtain ⟨a, b⟩ := ih (r.drop (i := i))
      exact ⟨a, (StepS.set (s := none) (fun _ _ z => by cases z)).trans b⟩
end
/-- the turns: what a turn does, one by one -/
def loopM (gm : PyData → EnvD → Option EnvD) (mb : MX Fl) (fg : List Nat) : List PyData → MX Fl
  | [] => mPure .nx
  | x :: xs => fun η => match gm x η with
    | none => none
    | some η1 => match mb η1 with
      | none => none
      | some (.exc n d, η2) => some (.exc n d, η2)
      | some (.ok .nx, η2) => loopM gm mb fg xs (forget fg η2)
      | some (.ok .ct, η2) => loopM gm mb fg xs (forget fg η2)
      | some (.ok .bk, η2) => some (.ok .nx, η2)
      | some (.ok (.rt r), η2) => some (.ok (.rt r), η2)
def mFor (mi : MX (List PyData)) (gm : PyData → EnvD → Option EnvD) (mb : MX Fl) (fg : List Nat) : MX Fl := mBind mi fun xs => loopM gm mb fg xs
section
variable {X : Cx} {W : WX} {tg iter : Expr} {mi : MX (List PyData)} {gm : PyData → EnvD → Option EnvD} {vs : List Nat} {mb : MX Fl} {body : List Stmt} {pos : Pos}
theorem ds_for {g : TG} (fg : List Nat) (hp : PassesOwn (model X.prog X.w) X.A X.env X.xe) (hc : X.calm = true) (hi : DI X W tg iter mi) (pg : PG X tg g) (fg' : TGok X.K X.mg g vs gm) (hb : DSs X W body mb)
    (hs : ∀ x, foldedSetIterable iter X.env x = pure x := by intro _; rfl) : DS X W (.For tg iter body [] pos) (mFor mi gm mb fg) := by
  refine PS.imp (ps_for hp hc hi pg hb hs) fun D σ H ⟨η, T, r0, n0⟩ => ⟨η, T, r0, n0.bind fun items η1 e1 n1 J H1 s1 r1 it => ?_⟩
  have n1' := Nx.laterS s1 n1
  -- the state at turn i
  refine ⟨fun i m σ2 H2 => m = items.length - i ∧ i ≤ items.length ∧ ∃ η2, StepS σ H1 η1 σ2 H2 η2 ∧ Rp X.K X.mg σ2 H2 η2 T ∧ Nx X.K X.mg W (PSt X.K X.mg) σ H1 η1 T D (loopM gm mb fg (items.drop i) η2),
    ⟨items.length, by simp, Nat.zero_le _, η1, StepS.refl, r1, n1'⟩, ?_⟩
  rintro i m σ2 H2 ⟨rfl, hi2, η2, s2, r2, n2⟩
  obtain ⟨go, stop, yld⟩ := it H2 (Avd σ2 η2 T) (r1.kp s2) r2.lists
  by_cases hlt : i < items.length
  · refine .inr ⟨go i hlt, fun σ3 H3 => ∃ η2, StepS σ H1 η1 σ3 H3 η2 ∧ Rp X.K X.mg σ3 H3 η2 T ∧ Nx X.K X.mg W (PSt X.K X.mg) σ H1 η1 T D (loopM gm mb fg (items.drop (i + 1)) η2), fun σ' H' h => ⟨items.length - (i + 1), by omega, rfl, hlt, h⟩, fun x H3 y => ?_⟩
    obtain ⟨mo, d, ed, qd⟩ := yld i x H3 hlt y
    have ecs : items.drop i = d :: items.drop (i + 1) := by
      rw [List.drop_eq_getElem_cons hlt]
      have := (List.getElem?_eq_some_iff.mp ed).2
      rw [this]
    rw [ecs] at n2
    obtain ⟨o, η', eo, p⟩ := n2
    simp only [loopM] at eo
    split at eo
    · cases eo
    · rename_i η3 e3
      have r3 : Rp X.K X.mg σ2 H3 η2 T := r2.more mo
      refine fg' x d σ2 H3 η2 T η3 _ r3 qd e3 fun σ3 s3 r4 _ _ => ?_
      have s4 : StepS σ H1 η1 σ3 H3 η3 := (s2.trans (StepS.more mo)).trans s3
      have again : ∀ {η4 : EnvD} {σ5 : St} {H5 : Hp}, loopM gm mb fg (items.drop (i + 1)) (forget fg η4) = some (o, η') → StepS σ3 H3 η3 σ5 H5 η4 → Rp X.K X.mg σ5 H5 η4 T →
          ∃ η2, StepS σ H1 η1 σ5 H5 η2 ∧ Rp X.K X.mg σ5 H5 η2 T ∧ Nx X.K X.mg W (PSt X.K X.mg) σ H1 η1 T D (loopM gm mb fg (items.drop (i + 1)) η2) := fun {η4 σ5 H5} e s r => by
        obtain ⟨r6, s6⟩ := Rp.forget fg r
        exact ⟨_, (s4.trans s).trans s6, r6, o, η', e, p⟩
      split at eo
      · cases eo
      · rename_i n d η4 e4
        cases eo
        exact ⟨η3, T, r4, .exc n d, η', e4, fun cls dd σ' H' s r q => p cls dd σ' H' (s4.trans s) r q⟩
      · rename_i η4 e4
        exact ⟨η3, T, r4, .ok .nx, η4, e4, fun σ' H' s r => again eo s r⟩
      · rename_i η4 e4
        exact ⟨η3, T, r4, .ok .ct, η4, e4, fun σ' H' s r => again eo s r⟩
      · rename_i η4 e4
        cases eo
        exact ⟨η3, T, r4, .ok .bk, η', e4, fun σ' H' s r => p σ' H' (s4.trans s) r⟩
      · rename_i rv η4 e4
        cases eo
        refine ⟨η3, T, r4, .ok (.rt rv), η', e4, ?_⟩
        cases rv with
        | d y => exact fun v σ' H' s r q => p v σ' H' (s4.trans s) r q
        | l ys => exact fun a ws σ' H' s f => p a ws σ' H' (s4.trans s) (f.elim (s4.leF a) fun z => .inr (s4.tr a z))
  · exact .inl ⟨stop i (by omega), by
      have e : items.drop i = [] := List.drop_eq_nil_of_le (by omega)
      rw [e] at n2
      exact n2.pure σ2 H2 s2 r2⟩
end

/-! ### list comprehensions -/
def wipeE : List Nat → EnvD → EnvD
  | [], η => η
  | v :: vs, η => (wipeE vs η).set v none
def compM (gm : PyData → EnvD → Option EnvD) (mt : MX Bool) (me : MX PyData) (vs : List Nat) : List PyData → List PyData → MX (List PyData)
  | [], acc => mPure acc
  | x :: xs, acc => fun η => match gm x η with
    | none => none
    | some η1 => match mt η1 with
      | some (.ok false, η2) => compM gm mt me vs xs acc (wipeE vs η2)
      | some (.ok true, η2) => match me η2 with
        | some (.ok y, η3) => if acc.length < sizeLine then compM gm mt me vs xs (acc ++ [y]) (wipeE vs η3) else none
        | _ => none
      | _ => none
def mComp (mi : MX (List PyData)) (gm : PyData → EnvD → Option EnvD) (mt : MX Bool) (me : MX PyData) (vs : List Nat) : MX (List PyData) := mBind mi fun xs => fun η => compM gm mt me vs xs [] (wipeE vs η)
section
variable {K : Fg} {mg : Str → Option Value} {σ σ2 : St} {H H1 H2 : Hp} {η η1 η2 : EnvD} {T : Addr → Prop}
theorem wipe_in {i : Nat} : ∀ {vs : List Nat}, i ∈ vs → ∀ x, (wipe σ vs)[i]? ≠ some (some x) := fun {vs} h x e => (wipe_some e).2 h
theorem wipe_out {i : Nat} : ∀ {vs : List Nat}, i ∉ vs → (wipe σ vs)[i]? = σ[i]?
  | [], _ => rfl
  | v :: vs, h => by
    unfold wipe
    rw [List.getElem?_set_ne (fun z => h (by simp [z]))]
    exact wipe_out fun z => h (by simp [z])
theorem wipe_none {i : Nat} : ∀ {vs : List Nat}, i ∈ vs → i < σ.length → (wipe σ vs)[i]? = some none
  | v :: vs, h, hi => by
    unfold wipe
    by_cases e : v = i
    · subst e
      exact List.getElem?_set_self (by rw [wipe_length]; exact hi)
    · rw [List.getElem?_set_ne e]
      refine wipe_none ?_ hi
      rcases List.mem_cons.mp h with z | z
      · exact absurd z.symm e
      · exact z
theorem wipe_eq {vs : List Nat} (hl : σ2.length = (wipe σ vs).length) (h : ∀ j, j ∉ vs → σ2[j]? = (wipe σ vs)[j]?) : wipe σ2 vs = wipe σ vs := by
  rw [wipe_length] at hl
  refine List.ext_getElem? fun i => ?_
  by_cases hi : i ∈ vs
  · by_cases hlt : i < σ.length
    · rw [wipe_none hi (by omega), wipe_none hi hlt]
    · rw [List.getElem?_eq_none (by rw [wipe_length]; omega), List.getElem?_eq_none (by rw [wipe_length]; omega)]
  · rw [wipe_out hi, h i hi]
/-- a slot emptied on both sides -/
theorem Rp.wipe1 {i : Nat} (r : Rp K mg σ H η T) : Rp K mg (σ.set i none) H (η.set i none) T := by
  have own : ∀ q, OwnAt (σ.set i none) (η.set i none) q → OwnAt σ η q := fun q ⟨j, b, ds, e1, e2⟩ => by
    rcases set_get e1 with ⟨_, e⟩ | ⟨_, e⟩
    · cases e
    · rcases set_get e2 with ⟨_, e'⟩ | ⟨_, e'⟩
      · cases e'
      · exact ⟨j, b, ds, e, e'⟩
  have kA : ∀ q, Avd (σ.set i none) (η.set i none) T q → Avd σ η T q := fun q z => z.imp id (own q)
  refine ⟨fun j d h' => ?_, fun j b ds h' => ?_, fun j nm d h' => ?_, fun j k b1 b2 d1 d2 a' h1 h2 h3 h4 => ?_, r.tl, by simpa using r.len⟩
  · rcases set_get h' with ⟨_, e⟩ | ⟨ne, e⟩
    · cases e
    · obtain ⟨v, e1, q1⟩ := r.val j d e
      exact ⟨v, by rw [List.getElem?_set_ne ne]; exact e1, Dq.less kA d v q1⟩
  · rcases set_get h' with ⟨_, e⟩ | ⟨ne, e⟩
    · cases e
    · obtain ⟨a, vs, e1, e2, q1, n⟩ := r.own j b ds e
      exact ⟨a, vs, by rw [List.getElem?_set_ne ne]; exact e1, e2, DqAll.less kA ds vs q1, n⟩
  · rcases set_get h' with ⟨_, e⟩ | ⟨ne, e⟩
    · cases e
    · obtain ⟨a, e1, q1⟩ := r.exc j nm d e
      exact ⟨a, by rw [List.getElem?_set_ne ne]; exact e1, q1.less kA⟩
  · rcases set_get h1 with ⟨_, e⟩ | ⟨ne, e⟩
    · cases e
    · rcases set_get h2 with ⟨_, e'⟩ | ⟨ne', e'⟩
      · cases e'
      · rw [List.getElem?_set_ne ne] at h3
        rw [List.getElem?_set_ne ne'] at h4
        exact r.inj j k b1 b2 d1 d2 a' e e' h3 h4
theorem Rp.wipe (r : Rp K mg σ H η T) : ∀ vs : List Nat, Rp K mg (wipe σ vs) H (wipeE vs η) T
  | [] => r
  | v :: vs => (Rp.wipe r vs).wipe1
/-- what is known of emptied slots holds of the full ones -/
theorem own_wipe {vs : List Nat} (r : Rp K mg (wipe σ vs) H η T) {q : Addr} : OwnAt (wipe σ vs) η q ↔ OwnAt σ η q := by
  constructor
  · rintro ⟨i, b, ds, e1, e2⟩
    exact ⟨i, b, ds, e1, (wipe_some e2).1⟩
  · rintro ⟨i, b, ds, e1, e2⟩
    obtain ⟨a, ws, e3, _⟩ := r.own i b ds e1
    have e4 := (wipe_some e3).1
    rw [e2] at e4; cases e4
    exact ⟨i, b, ds, e1, e3⟩
theorem free_wipe {vs : List Nat} (r : Rp K mg (wipe σ vs) H η T) {q : Addr} : FreeAt (wipe σ vs) η q ↔ FreeAt σ η q := by
  constructor
  · rintro ⟨i, ds, e1, e2⟩
    exact ⟨i, ds, e1, (wipe_some e2).1⟩
  · rintro ⟨i, ds, e1, e2⟩
    obtain ⟨a, ws, e3, _⟩ := r.own i false ds e1
    have e4 := (wipe_some e3).1
    rw [e2] at e4; cases e4
    exact ⟨i, ds, e1, e3⟩
theorem Rp.unwipe {vs : List Nat} (r : Rp K mg (L2.wipe σ vs) H η T) : Rp K mg σ H η T := by
  have kA : ∀ q, Avd σ η T q → Avd (L2.wipe σ vs) η T q := fun q z => z.imp id (own_wipe r).mpr
  have slot : ∀ {i : Nat} {b : Bool} {ds : List PyData} {a : Addr}, η[i]? = some (some (.own b ds)) → σ[i]? = some (some (.ref a)) → (L2.wipe σ vs)[i]? = some (some (.ref a)) := fun {i b ds a} e1 e2 => by
    obtain ⟨a', ws, e3, _⟩ := r.own i b ds e1
    have e4 := (wipe_some e3).1
    rw [e2] at e4; cases e4
    exact e3
  refine ⟨fun j d h' => ?_, fun j b ds h' => ?_, fun j nm d h' => ?_, fun j k b1 b2 d1 d2 a' h1 h2 h3 h4 => r.inj j k b1 b2 d1 d2 a' h1 h2 (slot h1 h3) (slot h2 h4), r.tl, by have := r.len; rw [wipe_length] at this; exact this⟩
  · obtain ⟨v, e1, q1⟩ := r.val j d h'
    exact ⟨v, (wipe_some e1).1, Dq.less kA d v q1⟩
  · obtain ⟨a, ws, e1, e2, q1, n⟩ := r.own j b ds h'
    exact ⟨a, ws, (wipe_some e1).1, e2, DqAll.less kA ds ws q1, n⟩
  · obtain ⟨a, e1, q1⟩ := r.exc j nm d h'
    exact ⟨a, (wipe_some e1).1, q1.less kA⟩
theorem wipeE_get {vs : List Nat} {i : Nat} {s : Slot} (h : (wipeE vs η)[i]? = some (some s)) : η[i]? = some (some s) := by
  induction vs with
  | nil => exact h
  | cons v vs ih =>
    unfold wipeE at h
    rcases set_get h with ⟨_, e⟩ | ⟨_, e⟩
    · cases e
    · exact ih e
theorem StepS.wipeE (vs : List Nat) : StepS σ H η σ H (DL.wipeE vs η) :=
  ⟨fun _ h => h, fun _ _ h _ => h, fun q ⟨i, b, ds, e1, e2⟩ => .inl ⟨i, b, ds, wipeE_get e1, e2⟩, fun q ⟨i, ds, e1, e2⟩ => .inl ⟨i, ds, wipeE_get e1, e2⟩, fun i ds e => ⟨⟨ds, wipeE_get e⟩, rfl⟩⟩
/-- a list that is told apart grows -/
theorem Rp.grow {D : Addr} {ws : List V} (r : Rp K mg σ H η T) (hD : T D) : Rp K mg σ (upd H D (.lst ws)) η T := by
  have kp : Kp (Avd σ η T) (Avd σ η T) H (upd H D (.lst ws)) := ⟨fun q o h n => by rw [upd_ne (fun z => n (.inl (by rw [z]; exact hD)))]; exact h, r.avd, fun q z => .inl z⟩
  refine ⟨fun i d h => ?_, fun i b ds h => ?_, fun i nm d h => ?_, r.inj, fun a h => ?_, r.len⟩
  · obtain ⟨v, e, q⟩ := r.val i d h
    exact ⟨v, e, Dq.keep kp d v q⟩
  · obtain ⟨a, vs, e, e2, q, n⟩ := r.own i b ds h
    exact ⟨a, vs, e, by rw [upd_ne (fun z => n (by rw [z]; exact hD))]; exact e2, DqAll.keep kp ds vs q, n⟩
  · obtain ⟨a, e, q⟩ := r.exc i nm d h
    exact ⟨a, e, q.kp kp⟩
  · by_cases e : a = D
    · subst e; exact ⟨ws, upd_same⟩
    · rw [upd_ne e]; exact r.tl a h
theorem Rp.growAll {D : Addr} {ws us : List V} {ds : List PyData} (r : Rp K mg σ H η T) (hD : T D) (q : DqAll K H (Avd σ η T) us ds) : DqAll K (upd H D (.lst ws)) (Avd σ η T) us ds :=
  DqAll.keep ⟨fun q o h n => by rw [upd_ne (fun z => n (.inl (by rw [z]; exact hD)))]; exact h, r.avd, fun q z => .inl z⟩ ds us q
theorem StepS.grow {D : Addr} {o : HO} (s : StepS σ H1 η1 σ2 H η) (n : H1 D = none) : StepS σ H1 η1 σ2 (upd H D o) η := by
  refine ⟨fun q h => ?_, fun q u h no => ?_, s.le, s.leF, s.inn⟩
  · by_cases e : q = D
    · rw [e]; exact n
    · rw [upd_ne e] at h; exact s.tr q h
  · rw [upd_ne (fun z => by rw [z, n] at h; cases h)]; exact s.keep q u h no
end
end L2.DL
end
section
set_option Elab.async false
set_option linter.all false
set_option maxRecDepth 100000
namespace L2.DL
open PySem PySem.Spec PyProof.Rows
set_option autoImplicit false

abbrev W0 : WX := fun _ _ _ _ => False
/-- the tests of a comprehension -/
def DTs (X : Cx) (W : WX) (ifs : List Expr) (m : MX Bool) : Prop := L2.PTs X ifs (tTs X.K X.mg W m)
theorem dts_nil {X : Cx} {W : WX} : DTs X W [] (mPure true) := by
  have h : L2.PTs X [] tYes := pts_nil
  exact ⟨fun pins s σ H Q I hw => h.run pins s σ H Q I (by obtain ⟨η, T, r0, n0⟩ := hw; exact n0.pure H StepS.refl r0)⟩
theorem dts_one {X : Cx} {W : WX} {c : Expr} {m : MX Bool} (h : DT X W c m) : DTs X W [c] m := pts_one h
section
variable {K : Fg} {mg : Str → Option Value}
theorem lc_imp {W : WX} {mi : MX (List PyData)} {gm : PyData → EnvD → Option EnvD} {mt : MX Bool} {me : MX PyData} {vs vs' : List Nat} {g : TG} (hsub : ∀ j ∈ vs', j ∈ vs)
    (hg : TGok K mg g vs' gm) :
    ∀ σ H Q, tF K mg W (mComp mi gm mt me vs) σ H Q → tLc (fun σ H R => tG K mg W (PIt K mg) mi σ H R) g (tTs K mg W0 mt) (tD K mg W0 me) vs σ H Q := by
  rintro σ H Q ⟨η, T, r0, n0⟩
  refine ⟨η, T, r0, n0.bind fun items η1 e1 n1 J H1 s1 r1 it D hD => ?_⟩
  have n1' := n1.later PL.later s1
  have r2 : Rp K mg (wipe σ vs) (upd H1 D (.lst [])) (wipeE vs η1) (fun q => T q ∨ q = D) := (r1.new hD).wipe vs
  have s2 : StepS σ H1 η1 σ (upd H1 D (.lst [])) (wipeE vs η1) := (StepS.more (More.upd hD)).trans (StepS.wipeE vs)
  refine ⟨fun i m H2 => m = items.length - i ∧ i ≤ items.length ∧ ∃ η2 acc ws, StepS σ H1 η1 σ H2 η2 ∧ Rp K mg (wipe σ vs) H2 η2 (fun q => T q ∨ q = D) ∧ H2 D = some (.lst ws) ∧ DqAll K H2 (Avd σ η2 fun q => T q ∨ q = D) ws acc ∧ Nx K mg W (PL K mg) σ H1 η1 T Q (compM gm mt me vs (items.drop i) acc η2),
    ⟨items.length, by simp, Nat.zero_le _, wipeE vs η1, [], [], s2, r2, upd_same, .nil, n1'⟩, ?_⟩
  rintro i m H2 ⟨rfl, hi2, η2, acc, ws, s3, r3, eD, qA, n3⟩
  have r3' := r3.unwipe
  obtain ⟨go, stop, yld⟩ := it H2 (Avd σ η2 fun q => T q ∨ q = D) ⟨fun q o h n => s3.keep q o h fun z => n (.inr z), r1.avd, fun q z => by
    rcases z with (z | z) | z
    · exact .inl (.inl z)
    · subst z; exact .inr hD
    · rcases s3.le q z with z | z
      · exact .inl (.inr z)
      · exact .inr z⟩ r3'.lists
  by_cases hlt : i < items.length
  · refine .inr ⟨go i hlt, fun H3 => ∃ η2 acc ws, StepS σ H1 η1 σ H3 η2 ∧ Rp K mg (wipe σ vs) H3 η2 (fun q => T q ∨ q = D) ∧ H3 D = some (.lst ws) ∧ DqAll K H3 (Avd σ η2 fun q => T q ∨ q = D) ws acc ∧ Nx K mg W (PL K mg) σ H1 η1 T Q (compM gm mt me vs (items.drop (i + 1)) acc η2),
      fun H' h => ⟨items.length - (i + 1), by omega, rfl, hlt, h⟩, fun x H3 y => ?_⟩
    obtain ⟨mo, d, ed, qd⟩ := yld i x H3 hlt y
    have ecs : items.drop i = d :: items.drop (i + 1) := by
      rw [List.drop_eq_getElem_cons hlt]
      have := (List.getElem?_eq_some_iff.mp ed).2
      rw [this]
    rw [ecs] at n3
    obtain ⟨o, η', eo, p⟩ := n3
    simp only [compM] at eo
    split at eo
    · cases eo
    · rename_i η3 e3
      have r4 : Rp K mg (wipe σ vs) H3 η2 (fun q => T q ∨ q = D) := r3.more mo
      have qd' : Dq K H3 (Avd (wipe σ vs) η2 fun q => T q ∨ q = D) x d := Dq.less (fun q z => z.imp id (own_wipe r3).mp) d x qd
      refine hg x d (wipe σ vs) H3 η2 _ η3 _ r4 qd' e3 fun σ4 s4 r5 l4 k4 => ?_
      have hw : wipe σ4 vs = wipe σ vs := wipe_eq l4 fun j hj => k4 j fun z => hj (hsub j z)
      refine ⟨hw, ?_⟩
      -- at a turn's end, back to the def's slots
      have back : ∀ {η5 : EnvD} {H5 : Hp}, StepS σ4 H3 η3 σ4 H5 η5 → Rp K mg σ4 H5 η5 (fun q => T q ∨ q = D) →
          StepS σ H1 η1 σ H5 (wipeE vs η5) ∧ Rp K mg (wipe σ vs) H5 (wipeE vs η5) (fun q => T q ∨ q = D) ∧ H5 D = some (.lst ws) ∧ (∀ q, Avd σ (wipeE vs η5) (fun q => T q ∨ q = D) q → Avd σ4 η5 (fun q => T q ∨ q = D) q) ∧ DqAll K H5 (Avd σ (wipeE vs η5) fun q => T q ∨ q = D) ws acc := fun {η5 H5} s r => by
        have rw5 : Rp K mg (wipe σ vs) H5 (wipeE vs η5) (fun q => T q ∨ q = D) := by rw [← hw]; exact r.wipe vs
        have sA : StepS (wipe σ vs) H3 η2 σ4 H5 (wipeE vs η5) := (s4.trans s).trans (StepS.wipeE vs)
        have own5 : ∀ q, OwnAt σ (wipeE vs η5) q → OwnAt σ4 (wipeE vs η5) q := fun q z => by
          obtain ⟨j, b, ds, z1, z2⟩ := (own_wipe rw5).mpr z
          rw [← hw] at z2
          exact ⟨j, b, ds, z1, (wipe_some z2).1⟩
        have free5 : ∀ q, FreeAt σ (wipeE vs η5) q → FreeAt σ4 (wipeE vs η5) q := fun q z => by
          obtain ⟨j, ds, z1, z2⟩ := (free_wipe rw5).mpr z
          rw [← hw] at z2
          exact ⟨j, ds, z1, (wipe_some z2).1⟩
        have sB : StepS σ H3 η2 σ H5 (wipeE vs η5) := by
          refine ⟨sA.tr, fun q o h n => sA.keep q o h fun z => n ((own_wipe r4).mp z), fun q z => ?_, fun q z => ?_, fun j ds z => ?_⟩
          · exact (sA.le q (own5 q z)).imp (own_wipe r4).mp id
          · exact (sA.leF q (free5 q z)).imp (free_wipe r4).mp id
          · exact ⟨(sA.inn j ds z).1, rfl⟩
        have hA : ∀ q, Avd σ (wipeE vs η5) (fun q => T q ∨ q = D) q → Avd σ4 η5 (fun q => T q ∨ q = D) q := fun q z => z.imp id fun z => by
          obtain ⟨j, b, ds, z1, z2⟩ := own5 q z
          exact ⟨j, b, ds, wipeE_get z1, z2⟩
        have eD5 : H5 D = some (.lst ws) := by
          refine s.keep D _ (mo D _ eD) fun z => ?_
          obtain ⟨j, b, ds, z1, z2⟩ := z
          obtain ⟨a, us, z3, _, _, z4⟩ := r5.own j b ds z1
          rw [z2] at z3; cases z3
          exact z4 (.inr rfl)
        refine ⟨(s3.trans (StepS.more mo)).trans sB, rw5, eD5, hA, ?_⟩
        have qA3 : DqAll K H3 (Avd σ η2 fun q => T q ∨ q = D) ws acc := qA.more r3'.lists mo
        exact DqAll.keep ((r4.unwipe).kp sB) acc ws qA3
      split at eo
      · rename_i η5 e5
        refine ⟨η3, _, r5, .ok false, η5, e5, fun H5 s5 r6 => ?_⟩
        obtain ⟨A, B, C, _, E⟩ := back s5 r6
        exact iteF ⟨_, acc, ws, A, B, C, E, o, η', eo, p⟩
      · rename_i η5 e5
        refine ⟨η3, _, r5, .ok true, η5, e5, fun H5 s5 r6 => ?_⟩
        refine iteT ?_
        split at eo
        · rename_i yv η6 e6
          split at eo
          · rename_i hsz
            refine ⟨η5, _, r6, .ok yv, η6, e6, fun v H6 s6 r7 q7 => ?_⟩
            obtain ⟨A, B, C, hA, E⟩ := back (s5.trans s6) r7
            have hD' : (fun q => T q ∨ q = D) D := .inr rfl
            have Bu := B.unwipe
            refine ⟨ws, C, by rw [E.length]; exact hsz, _, acc ++ [yv], ws ++ [v], A.grow hD, B.grow hD', upd_same, ?_, o, η', eo, p⟩
            exact Bu.growAll hD' (E.append (.cons (Dq.less hA yv v q7) .nil))
          · cases eo
        · cases eo
      · cases eo
  · refine .inl ⟨stop i (by omega), ?_⟩
    have e : items.drop i = [] := List.drop_eq_nil_of_le (by omega)
    rw [e] at n3
    refine n3.pure D ws H2 s3 hD eD r3' qA fun z => ?_
    rcases z with z | ⟨j, b, ds, z1, z2⟩
    · obtain ⟨us, w⟩ := r1.tl D z
      rw [hD] at w; cases w
    · obtain ⟨a, us, z3, _, _, z4⟩ := r3'.own j b ds z1
      rw [z2] at z3; cases z3
      exact z4 (.inr rfl)
end
section
variable {X : Cx} {W : WX} {elt tg iter : Expr} {ifs : List Expr} {scope : Scope} {own : List (Str × Nat)} {pos : Pos} {mi : MX (List PyData)} {gm : PyData → EnvD → Option EnvD} {mt : MX Bool} {me : MX PyData} {vs' : List Nat}
/-- [elt for tg in iter if ..] -/
theorem df_lc {g : TG} (hc : X.calm = true) (hN : X.N.Nodup) (hi : DI X W tg iter mi) (ok : BlkOk X.N X.env.scope scope own)
    (hg : ∀ (s : Shared) (H : Hp) (C : Addr) (cl : List (Str × Addr)) (fp : List Addr), PG (X.blk s H scope (compEnvC scope cl C X.env) fp) tg g) (gok : TGok X.K X.mg g vs' gm) (hsub : ∀ j ∈ vs', j ∈ own.map (·.2))
    (ht : ∀ (s : Shared) (H : Hp) (C : Addr) (cl : List (Str × Addr)) (fp : List Addr), DTs (X.blk s H scope (compEnvC scope cl C X.env) fp) W0 ifs mt) (he : ∀ (s : Shared) (H : Hp) (C : Addr) (cl : List (Str × Addr)) (fp : List Addr), DE (X.blk s H scope (compEnvC scope cl C X.env) fp) W0 elt me)
    (hs : ∀ x, foldedSetIterable iter X.env x = pure x := by intro _; rfl) : DF X W (.ListComp elt [⟨tg, iter, ifs, 0⟩] scope pos) (mComp mi gm mt me (own.map (·.2))) :=
  PE.imp (pe_lc (tt := tTs X.K X.mg W0 mt) (te := tD X.K X.mg W0 me) hc hN hi ok hg ht he hs) (lc_imp hsub gok)
/-- name = [..] on one line, the name a local -/
theorem ds_setLc {g : TG} {i : Nat} {y : Str} {py spos : Pos} (hc : X.calm = true) (hN : X.N.Nodup) (hy : X.N[i]? = some y) (hyl : X.env.scope.names.lookup y = some .local)
    (hsw : swapsWith (.ListComp elt [⟨tg, iter, ifs, 0⟩] scope pos) (some (.Name y py)) spos.line X.env = pure true) (hi : DI X W tg iter mi) (ok : BlkOk X.N X.env.scope scope own)
    (hg : ∀ (s : Shared) (H : Hp) (C : Addr) (cl : List (Str × Addr)) (fp : List Addr), PG (X.blk s H scope (compEnvC scope cl C X.env) fp) tg g) (gok : TGok X.K X.mg g vs' gm) (hsub : ∀ j ∈ vs', j ∈ own.map (·.2))
    (ht : ∀ (s : Shared) (H : Hp) (C : Addr) (cl : List (Str × Addr)) (fp : List Addr), DTs (X.blk s H scope (compEnvC scope cl C X.env) fp) W0 ifs mt) (he : ∀ (s : Shared) (H : Hp) (C : Addr) (cl : List (Str × Addr)) (fp : List Addr), DE (X.blk s H scope (compEnvC scope cl C X.env) fp) W0 elt me)
    (hs : ∀ x, foldedSetIterable iter X.env x = pure x := by intro _; rfl) : DS X W (.Assign [.Name y py] (.ListComp elt [⟨tg, iter, ifs, 0⟩] scope pos) spos) (mAsgL (mComp mi gm mt me (own.map (·.2))) i) :=
  PS.imp (L2.ps_setLc (tt := tTs X.K X.mg W0 mt) (te := tD X.K X.mg W0 me) hc hN hy hyl hsw hi ok hg ht he hs) (asgL_imp (lc_imp hsub gok))
end
end L2.DL
end
section
set_option Elab.async false
set_option linter.all false
set_option maxRecDepth 100000
namespace L2.DL
open PySem PySem.Spec PyProof.Rows
set_option autoImplicit false

/-! ### operators by data -/
theorem OpR.orR {X : Cx} {f : Value → Value → Sem Value} {r r' : R2} (h : OpR X f r) (h' : OpR X f r') : OpR X f (fun x y H Q => r x y H Q ∨ r' x y H Q) := OpR.or h h'
section
variable {K : Fg}
/-- xs + ys, lists of data however held -/
def rCatL (K : Fg) : R2 := fun x y H Q => ∃ l b xs zs, x = .ref l ∧ y = .ref b ∧ Rd H l (.lst xs) ∧ Rd H b (.lst zs) ∧ xs.length + zs.length ≤ sizeLine ∧ ∀ p, H p = none → Q (.ref p) (upd H p (.lst (xs ++ zs)))
theorem op_catL {X : Cx} : OpR X (binaryOp .Add) (rCatL X.K) := by
  intro pins s σ H x y v u Q I rx ry h
  obtain ⟨l, b, xs, zs, rfl, rfl, hH, hB, hz, q⟩ := h
  cases rx
  cases ry
  obtain ⟨z, its, n, r, e⟩ := hH.ok I.hok
  obtain ⟨z2, its2, n2, r2, e2⟩ := hB.ok I.hok
  refine PySem.P.add_list e e2 ?_ (by rw [List.size_toArray, List.size_toArray, ← r.length, ← r2.length]; exact hz)
  have ea : its.toArray ++ its2.toArray = (its ++ its2).toArray := by simp
  rw [ea]
  exact ⟨.ref _, _, I.lnew (t' := s.toks) (r.append r2) (by rw [List.length_append]; omega), rfl, q _ I.fresh⟩
def rRepL (K : Fg) : R2 := fun x y H Q => ∃ l k xs, x = .ref l ∧ y = .int k ∧ Rd H l (.lst xs) ∧ -(2 ^ 63) ≤ k ∧ k < 2 ^ 63 ∧ xs.length * k.toNat ≤ sizeLine ∧
  ∀ p, H p = none → Q (.ref p) (upd H p (.lst (List.replicate k.toNat xs).flatten))
theorem op_repL {X : Cx} : OpR X (binaryOp .Mult) (rRepL X.K) := by
  intro pins s σ H x y v u Q I rx ry h
  obtain ⟨l, k, xs, rfl, rfl, hH, h1, h2, hz, q⟩ := h
  cases rx
  obtain ⟨t, rfl⟩ := ry
  obtain ⟨z, its, n, r, e⟩ := hH.ok I.hok
  have hlen : its.toArray.size * k.toNat ≤ sizeLine := by rw [List.size_toArray, ← r.length]; exact hz
  have hcap : ¬ its.toArray.size * k.toNat > (2 ^ 63 - 1) / 8 := by
    have : (sizeLine : Nat) ≤ (2 ^ 63 - 1) / 8 := by decide
    omega
  have hfit : ¬ (!Builtin.List.listFitsIndex k) = true := by
    rw [fitsIndex_both h1 h2]
    exact Bool.false_ne_true
  have hlong : ¬ Builtin.List.listTooLong (its.toArray.size * k.toNat) = true := by
    rw [notLongL hlen]
    exact Bool.false_ne_true
  have hnew : List.foldl (fun x1 x2 => x1 ++ x2) #[] (List.replicate (if its.toArray.isEmpty = true then 0 else k.toNat) its.toArray) = (List.replicate k.toNat its).flatten.toArray := by
    have f0 : ∀ m : Nat, List.foldl (fun x1 x2 => x1 ++ x2) #[] (List.replicate m its.toArray) = (List.replicate m its).flatten.toArray := fun m => by
      have := foldl_rep its m []
      rw [List.nil_append] at this
      exact this
    rw [f0]
    cases its with
    | nil => simp
    | cons a r' => rw [if_neg (by simp)]

  refine wpAny_binaryOp_repeat_ref (T := "list") (U := "int") (by decide) ⟨_, e, rfl⟩ (fun s' => typeIs_int s' k t) noFill_list_mul F.fills_int_mul F.slot_int_rmul repeat_list F.slot_int_index.lookup
    (call_meets F.slot_int_rmul (typeIs_int s k t) F.entry_int_rmul (F.args_int_rmul_2 _ _) (int___rmul___int_list k t l its.toArray n)
      ⟨e, rfl, ⟨_, e, rfl⟩, call_meets F.slot_list_mul ⟨_, e, rfl⟩ F.entry_list_mul (F.args_list_mul_2 _ _) (AutoListH.list___mul___list_int_3 l its.toArray n k t hfit hcap hlong) ⟨e, ?_⟩⟩)
  rw [hnew]
  exact ⟨.ref _, _, I.lnew (t' := s.toks) (r.rep k.toNat) (by rw [PyProof.Rows.lm_len_rep_flat, Nat.mul_comm]; exact hz), rfl, q _ I.fresh⟩
def addD : PyData → PyData → Option PyData
  | .int i, .int j => some (.int (i + j))
  | .str x, .str y => if x.length + y.length ≤ sizeLine then some (.str (x ++ y)) else none
  | .tuple xs, .tuple ys => if xs.length + ys.length ≤ sizeLine then some (.tuple (xs ++ ys)) else none
  | .list xs, .list ys => if xs.length + ys.length ≤ sizeLine then some (.list (xs ++ ys)) else none
  | _, _ => none
/-- lists alone: a new one -/
def catD : PyData → PyData → Option (List PyData)
  | .list xs, .list ys => if xs.length + ys.length ≤ sizeLine then some (xs ++ ys) else none
  | _, _ => none
def rAddA (K : Fg) : R2 := fun x y H Q => (rI0 fun i j => .int (i + j)) x y H Q ∨ (∃ i j, x = .str i ∧ y = .str j ∧ i.length + j.length ≤ sizeLine ∧ Q (.str (i ++ j)) H) ∨ rCatA K x y H Q ∨ rCatL K x y H Q
theorem op_addA {X : Cx} : OpR X (binaryOp .Add) (rAddA X.K) := OpR.or op_add (OpR.or op_add_str (OpR.or op_catA op_catL))
theorem Dq.fresh {H : Hp} {O : Addr → Prop} {vs : List V} {ds : List PyData} {p : Addr} (l : Lists H O) (h : H p = none) (q : DqAll K H O vs ds) : Dq K (upd H p (.lst vs)) O (.ref p) (.list ds) := .lst (l.no h) (.inl upd_same) (q.more l (More.upd h))
theorem addD_ok : OpG K (rAddA K) addD := by
  intro x y d e z H O Q l qx qy hg k
  cases qx <;> cases qy <;> simp only [addD] at hg <;> try (cases hg)
  · exact .inl ⟨_, _, rfl, rfl, k _ _ More.refl (.int _)⟩
  · split at hg
    · rename_i hl
      cases hg
      exact .inr (.inl ⟨_, _, rfl, rfl, hl, k _ _ More.refl (.str _)⟩)
    · cases hg
  · rename_i a xs ds na ha qa b ys es nb hb qb
    split at hg
    · rename_i hl
      cases hg
      exact .inr (.inr (.inr ⟨a, b, xs, ys, rfl, rfl, ha, hb, by rw [qa.length, qb.length]; exact hl, fun p hp => k _ _ (More.upd hp) (Dq.fresh l hp (qa.append qb))⟩))
    · cases hg
  · rename_i a xs ds ha qa b ys es hb qb
    split at hg
    · rename_i hl
      cases hg
      refine .inr (.inr (.inl ⟨a, b, xs, ys, rfl, rfl, ha, hb, by rw [qa.length, qb.length]; exact hl, fun e => ?_, fun _ e => ?_, fun _ _ p hp => ?_⟩))
      · subst e
        cases qa
        exact k _ _ More.refl (.tup hb qb)
      · subst e
        cases qb
        rw [List.append_nil] at k
        exact k _ _ More.refl (.tup ha qa)
      · exact k _ _ (More.upd hp) (.tup (.inl (.inl upd_same)) ((qa.append qb).more l (More.upd hp)))
    · cases hg
theorem catD_ok : OpL K (rCatL K) catD := by
  intro x y d e z H O Q l qx qy hg k
  cases qx <;> cases qy <;> simp only [catD] at hg <;> try (cases hg)
  rename_i a xs ds na ha qa b ys es nb hb qb
  split at hg
  · rename_i hl
    cases hg
    exact ⟨a, b, xs, ys, rfl, rfl, ha, hb, by rw [qa.length, qb.length]; exact hl, fun p hp => k p (xs ++ ys) hp (qa.append qb)⟩
  · cases hg
def iiD (f : Int → Int → Option PyData) : PyData → PyData → Option PyData
  | .int i, .int j => f i j
  | _, _ => none
theorem iiD_ok {r : R2} {f : Int → Int → Option PyData} (h : ∀ i j z H Q, f i j = some z → (∀ v, Dq K H (fun _ => False) v z → (∀ O, Dq K H O v z) → Q v H) → r (.int i) (.int j) H Q) : OpG K r (iiD f) := by
  intro x y d e z H O Q l qx qy hg k
  cases qx <;> cases qy <;> simp only [iiD] at hg <;> try (cases hg)
  exact h _ _ z H Q hg fun v _ q => k v H More.refl (q O)
abbrev subD := iiD fun i j => some (.int (i - j))
theorem subD_ok : OpG K (rI0 fun i j => .int (i - j)) subD := iiD_ok fun i j z H Q e k => by cases e; exact ⟨i, j, rfl, rfl, k _ (.int _) fun _ => .int _⟩
instance (i j : Int) : Decidable (CMul i j) := by unfold CMul; infer_instance
instance (i j : Int) : Decidable (CMulW i j) := by unfold CMulW; infer_instance
instance (i j : Int) : Decidable (CDivN i j) := by unfold CDivN; infer_instance
instance (i j : Int) : Decidable (CDivW i j) := by unfold CDivW; infer_instance
instance (i j : Int) : Decidable (CPow i j) := by unfold CPow; infer_instance
/-- products: of ints; a tuple times a number -/
def mulD : PyData → PyData → Option PyData
  | .int i, .int j => if CMul i j ∨ CMulW i j then some (.int (i * j)) else none
  | .tuple xs, .int k => if xs ≠ [] ∧ 2 ≤ k ∧ k ≤ 1000 ∧ xs.length ≤ 1000 then some (.tuple (List.replicate k.toNat xs).flatten) else none
  | .list xs, .int k => if -(2 ^ 63) ≤ k ∧ k < 2 ^ 63 ∧ xs.length * k.toNat ≤ sizeLine then some (.list (List.replicate k.toNat xs).flatten) else none
  | _, _ => none
def rMulA (K : Fg) : R2 := fun x y H Q => (rI CMul fun i j => .int (i * j)) x y H Q ∨ (rI CMulW fun i j => .int (i * j)) x y H Q ∨ rRepT K x y H Q ∨ rRepL K x y H Q
theorem op_mulA {X : Cx} : OpR X (binaryOp .Mult) (rMulA X.K) := OpR.or op_mul (OpR.or op_mulW (OpR.or op_repT op_repL))
theorem DqAll.rep {H : Hp} {O : Addr → Prop} {vs : List V} {ds : List PyData} (q : DqAll K H O vs ds) : ∀ k : Nat, DqAll K H O (List.replicate k vs).flatten (List.replicate k ds).flatten
  | 0 => .nil
  | k + 1 => by
    rw [List.replicate_succ, List.replicate_succ, List.flatten_cons, List.flatten_cons]
    exact q.append (DqAll.rep q k)
theorem mulD_ok : OpG K (rMulA K) mulD := by
  intro x y d e z H O Q l qx qy hg k
  cases qx <;> cases qy <;> simp only [mulD] at hg <;> try (cases hg)
  · split at hg
    · rename_i h
      cases hg
      rcases h with h | h
      · exact .inl ⟨_, _, rfl, rfl, h, k _ _ More.refl (.int _)⟩
      · exact .inr (.inl ⟨_, _, rfl, rfl, h, k _ _ More.refl (.int _)⟩)
    · cases hg
  · rename_i a xs ds na ha qa n
    split at hg
    · rename_i h
      cases hg
      exact .inr (.inr (.inr ⟨a, n, xs, rfl, rfl, ha, h.1, h.2.1, by rw [qa.length]; exact h.2.2, fun p hp => k _ _ (More.upd hp) (Dq.fresh l hp (qa.rep _))⟩))
    · cases hg
  · rename_i a xs ds ha qa n
    split at hg
    · rename_i h
      cases hg
      refine .inr (.inr (.inl ⟨a, n, xs, rfl, rfl, ha, fun z => h.1 ?_, h.2.1, h.2.2.1, by rw [qa.length]; exact h.2.2.2, fun p hp => ?_⟩))
      · subst z
        cases qa
        rfl
      · exact k _ _ (More.upd hp) (.tup (.inl (.inl upd_same)) ((qa.rep _).more l (More.upd hp)))
    · cases hg
/-- a list times a number: a new list -/
def repD : PyData → PyData → Option (List PyData)
  | .list xs, .int k => if -(2 ^ 63) ≤ k ∧ k < 2 ^ 63 ∧ xs.length * k.toNat ≤ sizeLine then some (List.replicate k.toNat xs).flatten else none
  | _, _ => none
theorem repD_ok : OpL K (rRepL K) repD := by
  intro x y d e z H O Q l qx qy hg k
  cases qx <;> cases qy <;> simp only [repD] at hg <;> try (cases hg)
  rename_i a xs ds na ha qa n
  split at hg
  · rename_i h
    cases hg
    exact ⟨a, n, xs, rfl, rfl, ha, h.1, h.2.1, by rw [qa.length]; exact h.2.2, fun p hp => k p _ hp (qa.rep _)⟩
  · cases hg
abbrev fdivD := iiD fun i j => if CDivN i j ∨ CDivW i j then some (.int (i.fdiv j)) else none
theorem op_fdivA {X : Cx} : OpR X (binaryOp .FloorDiv) (fun x y H Q => (rI CDivN fun i j => .int (i.fdiv j)) x y H Q ∨ (rI CDivW fun i j => .int (i / j)) x y H Q) := OpR.or op_fdivN op_fdivW
theorem fdivD_ok : OpG K (fun x y H Q => (rI CDivN fun i j => .int (i.fdiv j)) x y H Q ∨ (rI CDivW fun i j => .int (i / j)) x y H Q) fdivD := iiD_ok fun i j z H Q e k => by
  split at e
  · rename_i h
    cases e
    rcases h with h | h
    · exact .inl ⟨i, j, rfl, rfl, h, k _ (.int _) fun _ => .int _⟩
    · have h0 : (0 : Int) < j := h.1
      rw [Int.fdiv_eq_ediv_of_nonneg i (by omega)] at k
      exact .inr ⟨i, j, rfl, rfl, h, k _ (.int _) fun _ => .int _⟩
  · cases e
abbrev modD := iiD fun i j => if j ≠ 0 then some (.int (i.fmod j)) else none
theorem modD_ok : OpG K (rI (fun _ j => j ≠ 0) fun i j => .int (i.fmod j)) modD := iiD_ok fun i j z H Q e k => by
  split at e
  · rename_i h
    cases e
    exact ⟨i, j, rfl, rfl, h, k _ (.int _) fun _ => .int _⟩
  · cases e
abbrev powD := iiD fun i j => if CPow i j then some (.int (i ^ j.toNat)) else none
theorem powD_ok : OpG K (rI CPow fun i j => .int (i ^ j.toNat)) powD := iiD_ok fun i j z H Q e k => by
  split at e
  · rename_i h
    cases e
    exact ⟨i, j, rfl, rfl, h, k _ (.int _) fun _ => .int _⟩
  · cases e
abbrev shlD := iiD fun i j => if CPow i j then some (.int (i * 2 ^ j.toNat)) else none
theorem shlD_ok : OpG K (rI CPow fun i j => .int (i * 2 ^ j.toNat)) shlD := iiD_ok fun i j z H Q e k => by
  split at e
  · rename_i h
    cases e
    exact ⟨i, j, rfl, rfl, h, k _ (.int _) fun _ => .int _⟩
  · cases e
abbrev shrD := iiD fun i j => if 0 ≤ j then some (.int (i / 2 ^ j.toNat)) else none
theorem shrD_ok : OpG K (rI (fun _ j => 0 ≤ j) fun i j => .int (i / 2 ^ j.toNat)) shrD := iiD_ok fun i j z H Q e k => by
  split at e
  · rename_i h
    cases e
    exact ⟨i, j, rfl, rfl, h, k _ (.int _) fun _ => .int _⟩
  · cases e
abbrev andD := iiD fun i j => some (.int (Builtin.bitAnd i j))
theorem andD_ok : OpG K (rI0 fun i j => .int (Builtin.bitAnd i j)) andD := iiD_ok fun i j z H Q e k => by cases e; exact ⟨i, j, rfl, rfl, k _ (.int _) fun _ => .int _⟩
abbrev orD := iiD fun i j => some (.int (Builtin.bitOr i j))
theorem orD_ok : OpG K (rI0 fun i j => .int (Builtin.bitOr i j)) orD := iiD_ok fun i j z H Q e k => by cases e; exact ⟨i, j, rfl, rfl, k _ (.int _) fun _ => .int _⟩

/-! ### comparisons -/
def eqD (d e : PyData) : Option PyData := if SeqAt.shaped d = true ∧ SeqAt.shaped e = true then some (.bool (PyData.eqv d e)) else none
def neD (d e : PyData) : Option PyData := if SeqAt.shaped d = true ∧ SeqAt.shaped e = true then some (.bool (!PyData.eqv d e)) else none
theorem eqD_ok : OpG K (rEqD K) eqD := by
  intro x y d e z H O Q l qx qy hg k
  unfold eqD at hg
  split at hg
  · rename_i h
    cases hg
    exact ⟨d, e, Dq.dp d x qx, Dq.dp e y qy, h.1, h.2, k _ _ More.refl (.bl _)⟩
  · cases hg
theorem neD_ok : OpG K (rNeD K) neD := by
  intro x y d e z H O Q l qx qy hg k
  unfold neD at hg
  split at hg
  · rename_i h
    cases hg
    exact ⟨d, e, Dq.dp d x qx, Dq.dp e y qy, h.1, h.2, k _ _ More.refl (.bl _)⟩
  · cases hg
abbrev ltD := iiD fun i j => some (.bool (decide (i < j)))
abbrev leD := iiD fun i j => some (.bool (decide (i ≤ j)))
abbrev gtD := iiD fun i j => some (.bool (decide (j < i)))
abbrev geD := iiD fun i j => some (.bool (decide (j ≤ i)))
theorem ltD_ok : OpG K (rI0 fun i j => .bl (decide (i < j))) ltD := iiD_ok fun i j z H Q e k => by cases e; exact ⟨i, j, rfl, rfl, k _ (.bl _) fun _ => .bl _⟩
theorem leD_ok : OpG K (rI0 fun i j => .bl (decide (i ≤ j))) leD := iiD_ok fun i j z H Q e k => by cases e; exact ⟨i, j, rfl, rfl, k _ (.bl _) fun _ => .bl _⟩
theorem gtD_ok : OpG K (rI0 fun i j => .bl (decide (j < i))) gtD := iiD_ok fun i j z H Q e k => by cases e; exact ⟨i, j, rfl, rfl, k _ (.bl _) fun _ => .bl _⟩
theorem geD_ok : OpG K (rI0 fun i j => .bl (decide (j ≤ i))) geD := iiD_ok fun i j z H Q e k => by cases e; exact ⟨i, j, rfl, rfl, k _ (.bl _) fun _ => .bl _⟩
def isNoneD : PyData → Bool
  | .none => true
  | _ => false
def isD (d e : PyData) : Option PyData := match e with
  | .none => some (.bool (isNoneD d))
  | _ => none
def isnD (d e : PyData) : Option PyData := match e with
  | .none => some (.bool (!isNoneD d))
  | _ => none
theorem isN_of {H : Hp} {O : Addr → Prop} {v : V} {d : PyData} (q : Dq K H O v d) : decide (v = .non) = isNoneD d := by
  cases q <;> first | rfl | exact decide_eq_false (fun z => by cases z)
theorem isD_ok : OpG K (fun x y H Q => y = .non ∧ Q (.bl (decide (x = .non))) H) isD := by
  intro x y d e z H O Q l qx qy hg k
  cases qy <;> simp only [isD] at hg <;> cases hg
  exact ⟨rfl, by rw [isN_of qx]; exact k _ _ More.refl (.bl _)⟩
theorem isnD_ok : OpG K (fun x y H Q => y = .non ∧ Q (.bl (!decide (x = .non))) H) isnD := by
  intro x y d e z H O Q l qx qy hg k
  cases qy <;> simp only [isnD] at hg <;> cases hg
  exact ⟨rfl, by rw [isN_of qx]; exact k _ _ More.refl (.bl _)⟩

/-! ### items -/
def ixD (d e : PyData) : Option PyData := match d, e with
  | .list xs, .int i => atI xs i
  | .tuple xs, .int i => atI xs i
  | .str z, .int i => if z.length ≤ sizeLine then (atI z.cps.toList i).map fun c => .str ⟨#[c]⟩ else none
  | _, _ => none
theorem atI_all {H : Hp} {O : Addr → Prop} {vs : List V} {ds : List PyData} {i : Int} {z : PyData} (q : DqAll K H O vs ds) (h : atI ds i = some z) : ∃ v, atI vs i = some v ∧ Dq K H O v z := by
  unfold atI at h ⊢
  rw [q.length]
  obtain ⟨j, e1, e2⟩ := Option.bind_eq_some_iff.mp h
  rw [e1]
  exact q.get e2
theorem ixD_ok : OpG K (rIx K) ixD := by
  intro x y d e z H O Q l qx qy hg k
  cases qx <;> cases qy <;> simp only [ixD] at hg <;> try (cases hg)
  · rename_i i
    split at hg
    · rename_i hl
      obtain ⟨c, e1, e2⟩ := Option.map_eq_some_iff.mp hg
      subst e2
      exact .inr (.inr ⟨_, _, c, rfl, rfl, hl, e1, k _ _ More.refl (.str _)⟩)
    · cases hg
  · obtain ⟨v, e1, qv⟩ := atI_all (by assumption) hg
    exact .inl ⟨_, _, _, v, rfl, rfl, .inl (by assumption), e1, k _ _ More.refl qv⟩
  · obtain ⟨v, e1, qv⟩ := atI_all (by assumption) hg
    exact .inr (.inl ⟨_, _, _, v, rfl, rfl, by assumption, e1, k _ _ More.refl qv⟩)
end
end L2.DL
end
section
set_option Elab.async false
set_option linter.all false
set_option maxRecDepth 100000
namespace L2.DL
open PySem PySem.Spec PyProof.Rows
set_option autoImplicit false

/-! ### promises that hold where no repr is under way -/
structure FnG (P : Program) (w : World) (K : PySem.W.Frag) (mg : Str → Option Value) (base : Heap) (CX : CXT) (k : Nat) (f : Addr) (fd : FuncData) (ps : List Str) (sp : Sp) : Prop where
  len : ∀ vs H Q E, sp vs H Q E → vs.length = ps.length
  run : ∀ (A : Around) (outer : List Env) (s : Shared) (H : Hp) (args : Args) (us : List Value) (vs : List V) (Q : VK) (E : XK), Room k A → A.guards = some [] → Env0 P w K mg base A outer s H → BindsTo s fd args (ps.zip us) → Vals vs us → sp vs H Q E →
    codeAny (model P w) A (.call (.ref f) args) (CR CX outer P w H s Q E) s
section
variable {P : Program} {w : World} {K : PySem.W.Frag} {mg : Str → Option Value} {base : Heap} {CX : CXT} {j k : Nat} {f : Addr} {fd : FuncData} {ps : List Str} {sp : Sp}
theorem FnOk.toG (F : FnOk P w K mg base CX k f fd ps sp) : FnG P w K mg base CX k f fd ps sp := ⟨F.len, fun A outer s H args us vs Q E hr _ => F.run A outer s H args us vs Q E hr⟩
theorem FnG.mono (F : FnG P w K mg base CX j f fd ps sp) (h : j ≤ k) : FnG P w K mg base CX k f fd ps sp := ⟨F.len, fun A outer s H args us vs Q E hr => F.run A outer s H args us vs Q E (hr.mono h)⟩
theorem FnG.imp {sp' : Sp} (F : FnG P w K mg base CX k f fd ps sp) (h : ∀ vs H Q E, sp' vs H Q E → sp vs H Q E) : FnG P w K mg base CX k f fd ps sp' :=
  ⟨fun vs H Q E q => F.len vs H Q E (h _ _ _ _ q), fun A outer s H args us vs Q E hr hg he hb hv hs => F.run A outer s H args us vs Q E hr hg he hb hv (h _ _ _ _ hs)⟩
end
section
variable {X : Cx} {CX : CXT} {k n : Nat} {f C : Addr} {fd : FuncData} {ps ks : List Str} {sp : Sp} {E : St → XK} {x m : Str} {p pos apos : Pos} {e o : Expr} {es : List Expr} {ta : TE} {t tk : TA} {kws : List Keyword}
theorem run_fnG {pins : List (Addr × Obj)} {σ : St} {H : Hp} {s : Shared} {Q : VK} {us : List Value} {vs : List V} {args : Args} (F : FnG X.prog X.w X.K X.mg X.base CX k f fd ps sp) (hr : Room k X.A) (hgd : X.A.guards = some []) (hx : PassesAt CX X σ (E σ))
    (I : Inv X pins σ H s) (b : BindsTo s fd args (ps.zip us)) (r : Vals vs us) (h : sp vs H Q (E σ)) : wpAny (model X.prog X.w) X.A (call (.ref f) args.pos args.kw) (EP X pins σ Q) X.xe s := by
  refine wpAny_call (codeAny_mono (F.run X.A X.stack s H args us vs Q (E σ) hr hgd I.env0 b r h) fun r s' hq => ?_)
  cases r with
  | error e => exact hx pins H s e s' I hq
  | ok fl =>
    cases fl with
    | ret u => exact I.after hq
    | next => exact False.elim hq
    | brk => exact False.elim hq
    | cont => exact False.elim hq
end
end L2.DL
namespace L2
open L2.DL
open PySem PySem.Spec PyProof.Rows
/-- the written part holds no list -/
def noLists : PySem.W.Frag → Bool
  | [] => true
  | p :: K => (match p.2.cls with | .type s => s != "list" | _ => true) && noLists K
theorem noLists_at : ∀ {K : PySem.W.Frag} {a : Addr} {o : Obj}, noLists K = true → List.lookup a K = some o → o.cls ≠ .type "list"
  | [], _, _, _, h => by cases h
  | p :: K, a, o, h, e => by
    unfold noLists at h
    rw [Bool.and_eq_true] at h
    obtain ⟨b, u⟩ := p
    rw [List.lookup_cons] at e
    split at e
    · cases e
      intro z
      have h1 := h.1
      simp only at h1
      rw [z] at h1
      simp at h1
    · exact noLists_at h.2 e
theorem law_callG {P : Program} {w : World} {K : PySem.W.Frag} {mg mb : Str → Option Value} {CX : CXT} {k : Nat} {fa a : Addr} {fd : FuncData} {x : Str} {sp : Sp} {s₁ : Shared} {vs : List Value} {ns : List Int}
    (hnl : noLists K = true) (KX : K.In s₁.heap) (hns : s₁.heap.Ns mainGlobals mg) (hb : s₁.heap.Ns builtinsNs mb) (hbb : ∀ x : Str, x ≠ "__name__" → mb x = bootBuiltins x) (hlim : s₁.heap.NoLimit) (hg : s₁.gens = #[])
    (ha : s₁.heap.get? a = some { cls := .type "list", data := .seq vs.toArray }) (hi : IntsAre vs ns) (hl : ns.length ≤ sizeLine) (hr : Room k callerA)
    (F : ∀ base : Heap, K.In base → base.Ns mainGlobals mg → FnG P w K mg base CX k fa fd [x] sp) (hbind : ∀ (s : Shared) (u : Value), BindsTo s fd ⟨[u], []⟩ [(x, u)])
    (hsp : ∀ H : Hp, Only H → Rd H a (.lst (ns.map V.int)) → sp [.ref a] H (fun v _ => v = .bl true) fun _ _ _ => False)
    (hCX : ∀ H e s', CX [] H s₁ (fun _ _ _ => False) e s' → False) :
    codeAny (model P w) callerA (.call (.ref fa) ⟨[.ref a], []⟩) (fun r s' => r = .ok (.ret (.bool true)) ∧ OldK s₁.heap s'.heap ∧ s'.os = s₁.os ∧ AllBare s'.gens) s₁ := by
  have rv := vals_ints hi
  have lenV := hi.length
  -- from an abstract heap in which nothing but the script may be tracked
  have core : ∀ H : Hp, Only H → Rd H a (.lst (ns.map V.int)) → HOk P w H s₁.heap → (∀ b, H b ≠ none → b = a) → (H a ≠ none → K.lookup a = none) →
      codeAny (model P w) callerA (.call (.ref fa) ⟨[.ref a], []⟩) (fun r s' => r = .ok (.ret (.bool true)) ∧ OldK s₁.heap s'.heap ∧ s'.os = s₁.os ∧ AllBare s'.gens) s₁ := by
    intro H hO hS hok hA hK
    have base_of : ∀ {b : Addr} {o : Obj}, s₁.heap.get? b = some o → H b = none → (hidT s₁.heap H).get? b = some o := fun e n => hidT_get e n
    have noA : ∀ {b : Addr} {o : Obj} {es : Array DictEntry} {ep : Nat}, s₁.heap.get? b = some o → o.data = .dict es ep → H b = none := fun {b o es ep} e d => by
      cases q : H b with
      | none => rfl
      | some u =>
        have e' : b = a := hA b (by rw [q]; simp)
        subst e'
        rw [ha] at e; cases e
        have d' : Data.seq vs.toArray _ = Data.dict es ep := d
        cases d'
    have nsK : ∀ {b : Addr} {m : Str → Option Value}, s₁.heap.Ns b m → (hidT s₁.heap H).Ns b m := fun {b m} ⟨o, es, ep, e, d, r⟩ => ⟨o, es, ep, base_of e (noA e d), d, r⟩
    have hKb : K.In (hidT s₁.heap H) := fun b o e => base_of (KX b o e) (by
      cases q : H b with
      | none => rfl
      | some u =>
        have e' : b = a := hA b (by rw [q]; simp)
        subst e'
        rw [hK (by rw [q]; simp)] at e; cases e)
    have hM : Mod K mg (hidT s₁.heap H) := ⟨hKb, nsK hns, ⟨mb, nsK hb, hbb⟩, let ⟨mc, h1, h2⟩ := hlim; ⟨mc, nsK h1, h2⟩⟩
    have e0 : Env0 P w K mg (hidT s₁.heap H) callerA [] s₁ H := ⟨rfl, hM, fun b o e => of_hidT e, Nat.le_of_eq (hidT_size _ _), trivial, fun b hb => absurd (show b ∈ ([] : List Addr) from hb) (by simp), hok, .of_eq hg⟩
    refine codeAny_mono ((F _ hKb (nsK hns)).run callerA [] s₁ H ⟨[.ref a], []⟩ [.ref a] [.ref a] _ _ hr rfl e0 (hbind s₁ (.ref a)) (.cons rfl .nil) (hsp H hO hS)) fun r s' h => ?_
    cases r with
    | error e => exact (hCX H e s' h).elim
    | ok fl =>
      cases fl with
      | next => exact False.elim h
      | brk => exact False.elim h
      | cont => exact False.elim h
      | ret u =>
        obtain ⟨v, H', os, bare, un, hok', r', q⟩ := h
        have q' : v = .bl true := q
        subst q'
        obtain rfl : u = Value.bool true := r'
        refine ⟨rfl, OldK.of_keep fun b o e => ?_, os, bare⟩
        cases q : H b with
        | none => exact un.keep b o e q (by intro z; exact absurd (show b ∈ ([] : List Addr) from z) (by simp)) (by simp)
        | some u =>
          rcases hO b with z | ⟨ob, xs, z⟩
          · rw [q] at z; cases z
          · have z2 := un.frzs b ob _ z
            obtain ⟨e1, _⟩ := hok b _ z
            obtain ⟨e2, _⟩ := hok' b _ z2
            rw [e] at e1; cases e1
            exact e2
  cases hk : K.lookup a with
  | some o =>
    have e := KX a o hk
    rw [ha] at e
    cases e
    exact absurd rfl (noLists_at hnl hk)
  | none =>
    refine core (fun b => if b = a then some (.frz { cls := .type "list", data := .seq vs.toArray } (.lst (ns.map V.int))) else none) (fun b => ?_) (.inr ⟨{ cls := .type "list", data := .seq vs.toArray }, if_pos rfl⟩) (fun b u z => ?_) (fun b z => ?_) fun _ => hk
    · by_cases hb : b = a
      · exact .inr ⟨_, _, if_pos hb⟩
      · exact .inl (if_neg hb)
    · by_cases hb : b = a
      · have z' := (if_pos hb).symm.trans z
        cases z'
        subst hb
        exact ⟨ha, by rw [List.length_map]; exact hl, vs, _, rv, ha⟩
      · have z' := (if_neg hb).symm.trans z
        cases z'
    · by_cases hb : b = a
      · exact hb
      · exact absurd (if_neg hb) z
theorem walk_ofG {l : PySem.W.OpenLaw} {n k : Nat} {q : Program} {loose : List Str} {XP : (Str → Option Value) → Heap → Prop} {YP : World → Heap → Prop} {d : DefRec} {K : Params → PySem.W.Frag} {CX : World → CXT} {sp : World → Sp} {x : Str}
    (hn : l.most = some n) (hn2 : n ≤ sizeLine) (hdf : d.params.defaults = []) (hr : Room k callerA)
    (hnl : ∀ w : World, noLists (K w.params) = true) (hY : ∀ (w : World) (h : Heap), YP w h → (K w.params).In h)
    (F : ∀ (w : World) (mg : Str → Option Value) (fa : Addr) (h : Heap), (K w.params).In h → h.Ns mainGlobals mg → mg d.name = some (.ref fa) →
      ∃ fd : FuncData, (∀ (s : Shared) (u : Value), BindsTo s fd ⟨[u], []⟩ [(x, u)]) ∧
        ∀ base : Heap, (K w.params).In base → base.Ns mainGlobals mg → FnG l.prog w (K w.params) mg base (CX w) k fa fd [x] (sp w))
    (hsp : ∀ (w : World) (H : Hp) (a : Addr) (ns : List Int), ns.length ≤ n → Only H → Rd H a (.lst (ns.map V.int)) → sp w [.ref a] H (fun v _ => v = .bl true) fun _ _ _ => False)
    (hCX : ∀ (w : World) (H : Hp) (s : Shared) (e : Value) (s' : Shared), CX w [] H s (fun _ _ _ => False) e s' → False) :
    PySem.W.WalkO q loose XP YP l.row.toRowW d [] (fun f vs => PySem.call f vs) := by
  refine Att.attach_call hn hdf fun w s₀ s₁ mg mb fa o pm cd doc a vs ns G Y ho hd hcd hmg hobj hints hlen hg => ?_
  have KX := hY w _ Y
  obtain ⟨fd, hb, hF⟩ := F w mg fa _ KX G.T.g hmg
  exact law_callG (hnl w) KX G.T.g G.T.b G.T.builtins G.T.nolimit hg hobj hints (Nat.le_trans hlen hn2) hr hF hb (fun H hO hS => hsp w H a ns hlen hO hS) fun H e s' => hCX w H s₁ e s'
end L2
namespace L2.DL
open PySem PySem.Spec PyProof.Rows
section
variable {P : Program} {w : World} {K : PySem.W.Frag} {mg : Str → Option Value} {base : Heap}
/-- a def by its body, the guards known -/
theorem fun_okG {x qual : Str} {st : Stmt} {f : Addr} {fd : FuncData} {N ps : List Str} {k : Nat} {sp : Sp} (F : Fun K x qual st f fd) (S : FnScope N ps (defScope st)) (len : ∀ vs H Q E, sp vs H Q E → vs.length = ps.length)
    (hbody : ∀ (cdv : Value) (A : Around) (outer : List Env) (s : Shared) (H : Hp) (vs : List V) (Q : VK) (E : XK), Room k (A.deeper (envOfC qual (defScope st) s.heap.objs.size f cdv)) → A.guards = some [] → sp vs H Q E →
      ∃ t, PSs (cxOf (L2.CX P w) P w K mg base N qual (defScope st) f cdv A outer s H E) (defBody st) t ∧ t { nx := fun _ H' => Q .non H', rt := Q } (start N vs) H) : FnG P w K mg base (L2.CX P w) (k + 1) f fd ps sp := by
  obtain ⟨oc, od, kV, doc, pm, an, cdv, ct, osl, rfl, lk, hcd⟩ := F.ex
  refine ⟨len, fun A outer s H args us vs Q E hr hgd e0 hb r hsp => ?_⟩
  have hl := len _ _ _ _ hsp
  have KX : K.In s.heap := e0.mod.kin.keeps fun b o e => (e0.bs b o e).1
  have lim : s.heap.NoLimit := e0.mod.nolimit.keeps fun b o e => (e0.bs b o e).1
  have hkind : ∀ y ∈ ps.zip us, (defScope st).names.lookup y.1 = some .local ∨ ((defScope st).names.lookup y.1 = some .cell ∧ ((cellsFrom (s.heap.objs.size + 1) (defScope st).names []).lookup y.1).isSome = true) := fun ⟨n, v⟩ hy => by
    rcases S.par n (List.of_mem_zip hy).1 with q | q
    · exact .inl q
    · exact .inr ⟨q, PySem.W.cellsFrom_some _ _ _ (.inl q)⟩
  refine codeAny_call_function hr.depth (KX _ _ lk) rfl S.co S.gen rfl (PySem.W.codeRec_of KX hcd) (hb _ _ _ _ ?_)
  refine wpAny_newFunctionEnv_cells S.kind hkind fun env he s1 x => ?_
  subst he
  refine ⟨lim.keeps x.toInCall.keep, codeAny_func ?_⟩
  obtain ⟨t, ht, hq⟩ := hbody cdv A outer s H vs Q E (hr.deeper _) hgd hsp
  have I : Inv (cxOf (L2.CX P w) P w K mg base N qual (defScope st) f cdv A outer s H E) [] (start N vs) H s1 := inv_start S hr.hd e0 hl r x
  refine wpAny_mono (ht.run [] s1 (start N vs) H _ I hq) (fun fl s' hs => ?_) fun e s' hs => hs
  have fin : ∀ {σ' : St} {H' : Hp} {v : V} {u : Value}, Inv (cxOf (L2.CX P w) P w K mg base N qual (defScope st) f cdv A outer s H E) [] σ' H' s' → RelV v u → Q v H' → CE outer P w H s Q u s' :=
    fun {σ' H' v u} J rv q => ⟨v, H', J.os, J.bare, J.base, J.hok, rv, q⟩
  cases fl with
  | ret u =>
    obtain ⟨v, σ', H', J, rv, q⟩ := hs
    exact fin J rv q
  | next =>
    obtain ⟨σ', H', J, q⟩ := hs
    exact fin (v := V.non) (u := Value.none) J rfl q
  | brk =>
    obtain ⟨_, _, _, q⟩ := hs
    exact False.elim q
  | cont =>
    obtain ⟨_, _, _, q⟩ := hs
    exact False.elim q
end
/-- what a body may take as given of its surroundings -/
structure Gd (X : Cx) (k : Nat) : Prop where
  room : Room k X.A
  gd : X.A.guards = some []
/-- THE RULE for a def: its body as a plain program -/
theorem fn_okG {P : Program} {w : World} {K : PySem.W.Frag} {mg : Str → Option Value} {base : Heap} {x qual : Str} {st : Stmt} {f : Addr} {fd : FuncData} {N ps : List Str} {k : Nat} {m : MX Fl} (F : Fun K x qual st f fd) (S : FnScope N ps (defScope st))
    (hbody : ∀ (cdv : Value) (A : Around) (outer : List Env) (s : Shared) (H : Hp) (E : XK), Gd (cxOf (L2.CX P w) P w K mg base N qual (defScope st) f cdv A outer s H E) k →
      DSs (cxOf (L2.CX P w) P w K mg base N qual (defScope st) f cdv A outer s H E) (fun cls d _ H => E cls d H) (defBody st) m) : FnG P w K mg base (L2.CX P w) (k + 1) f fd ps (spG K mg ps.length (runF N.length ps.length m)) := by
  have hpl : ps.length ≤ N.length := by have := congrArg List.length S.pre; rw [List.length_take] at this; omega
  refine fun_okG F S (fun vs H Q E h => h.1) (fun cdv A outer s H vs Q E hr hgd h => ⟨_, hbody cdv A outer s H E ⟨hr, hgd⟩, ?_⟩)
  obtain ⟨hl, args, T, r, o, ηo, e, p⟩ := h
  unfold runF at e
  split at e
  · rename_i hc
    obtain ⟨hla, hall, _⟩ := hc
    have hst : start N vs = vs.map some ++ List.replicate (N.length - ps.length) none := by unfold start; rw [hl]
    refine ⟨args ++ List.replicate (N.length - ps.length) none, T, by rw [hst]; exact r.pad (by rw [hla, hl]) _, ?_⟩
    rw [hst]
    split at e
    · rename_i rv η' em
      cases e
      refine ⟨_, _, em, ?_⟩
      cases rv with
      | d y =>
        intro v σ' H' s' r' q
        obtain ⟨s2, r2, kA⟩ := mask_ok hl hall hla s' r'
        exact p v H' s2 r2 (Dq.less kA y v q)
      | l ys =>
        intro a ws σ' H' s' fr ea r' q no
        obtain ⟨s2, r2, kA⟩ := mask_ok hl hall hla s' r'
        obtain ⟨_, r3, kA3⟩ := mask_ok (T := T) hl hall hla s' (r'.lessT fun q z => .inl z)
        refine p a ws H' s2 (fr.elim (fun z => absurd z (not_free hall)) id) ea r2 (DqAll.less kA ys ws q) fun z => no (kA3 a z)
    · rename_i η' em
      cases e
      refine ⟨_, _, em, fun σ' H' s' r' => ?_⟩
      obtain ⟨s2, r2, kA⟩ := mask_ok hl hall hla s' r'
      exact p .non H' s2 r2 .non
    · rename_i nm d η' em
      cases e
      refine ⟨_, _, em, fun cls dd σ' H' s' r' q => ?_⟩
      obtain ⟨s2, r2, kA⟩ := mask_ok hl hall hla s' r'
      obtain ⟨C, a, v, h1, h2, h3, h4, h5⟩ := q
      exact p cls dd _ H' s2 r2 ⟨C, a, v, h1, h2, h3, h4, Dq.less kA d v h5⟩
    · cases e
  · cases e
/-! ### calls -/
/-- how keywords bind: the parameters' order among what is written -/
def pickL {α : Type} (z : α) (pick : List Nat) (l : List α) : List α := pick.map fun i => l.getD i z
theorem vals_getD {vs : List V} {us : List Value} (h : Vals vs us) (i : Nat) : RelV (vs.getD i .non) (us.getD i .none) := by
  induction h generalizing i with
  | nil => exact rfl
  | cons r t ih =>
    cases i with
    | zero => exact r
    | succ i => exact ih i
theorem vals_pick {vs : List V} {us : List Value} (h : Vals vs us) : ∀ pick : List Nat, Vals (pickL .non pick vs) (pickL .none pick us)
  | [] => .nil
  | i :: is => .cons (vals_getD h i) (vals_pick h is)
theorem DqAll.getD {K : Fg} {H : Hp} {O : Addr → Prop} {vs : List V} {ds : List PyData} (h : DqAll K H O vs ds) (i : Nat) : Dq K H O (vs.getD i .non) (ds.getD i .none) := by
  by_cases hi : i < ds.length
  · obtain ⟨d, e⟩ : ∃ d, ds[i]? = some d := ⟨_, List.getElem?_eq_getElem hi⟩
    obtain ⟨v, e2, q⟩ := h.get e
    rw [List.getD_eq_getElem?_getD, List.getD_eq_getElem?_getD, e, e2]
    exact q
  · have := h.length
    rw [List.getD_eq_getElem?_getD, List.getD_eq_getElem?_getD, List.getElem?_eq_none (by omega), List.getElem?_eq_none (by omega)]
    exact .non
theorem DqAll.pick {K : Fg} {H : Hp} {O : Addr → Prop} {vs : List V} {ds : List PyData} (h : DqAll K H O vs ds) : ∀ pick : List Nat, DqAll K H O (pickL .non pick vs) (pickL .none pick ds)
  | [] => .nil
  | i :: is => .cons (h.getD i) (DqAll.pick h is)
def KwB (fd : FuncData) (ps : List Str) (n : Nat) (ks : List Str) (pick : List Nat) : Prop :=
  ∀ us ws : List Value, us.length = n → ws.length = ks.length → bindArgs fd ⟨us, ks.zip ws⟩ = pure (ps.zip (pickL .none pick (us ++ ws)))
def LenM (n : Nat) (ml : MX (List PyData)) : Prop := ∀ η xs η1, ml η = some (.ok xs, η1) → xs.length = n
theorem LenM.nil : LenM 0 mNil := fun η xs η1 h => by cases h; rfl
theorem LenM.cons {n : Nat} {m : MX PyData} {ml : MX (List PyData)} (h : LenM n ml) : LenM (n + 1) (mCons m ml) := fun η xs η1 e => by
  unfold mCons mBind at e
  split at e
  · rename_i x η2 e2
    simp only at e
    split at e
    · rename_i ys η3 e3
      cases e
      rw [List.length_cons, h _ _ _ e3]
    · cases e
    · cases e
  · cases e
  · cases e
/-- the keywords' values -/
def DK (X : Cx) (W : WX) (kws : List Keyword) (m : MX (List PyData)) : Prop := PK X kws (tAr X.K X.mg W m)
section
variable {X : Cx} {W : WX} {a b e : Expr} {ma mb : MX PyData} {ml mk : MX (List PyData)} {pos p : Pos} {es : List Expr} {k n : Nat} {f : Addr} {fd : FuncData} {ps ks : List Str} {F : FS} {x : Str} {kws : List Keyword} {pick : List Nat} {nm : Option Str} {kpos : Pos}
theorem PK.imp {t t' : TA} (h : PK X kws t) (i : ∀ σ H Q, t' σ H Q → t σ H Q) : PK X kws t' := ⟨fun p pins s σ H Q I hw => h.run p pins s σ H Q I (i σ H Q hw)⟩
theorem dk_nil : DK X W [] mNil := PK.imp pk_nil fun σ H Q ⟨η, T, r0, n0⟩ => n0.pure [] H StepS.refl r0 .nil
theorem dk_cons {m : MX PyData} (ha : DE X W e m) (hr : DK X W kws ml) : DK X W (⟨nm, e, kpos⟩ :: kws) (mCons m ml) := by
  refine PK.imp (pk_cons ha hr) fun σ H Q ⟨η, T, r0, n0⟩ => ⟨η, T, r0, n0.bind fun x η1 e1 n1 v H1 s1 r1 q1 => ?_⟩
  refine ⟨η1, T, r1, (n1.later PAs.later s1).bind fun xs η2 e2 n2 vs H2 s2 r2 q2 => ?_⟩
  exact n2.pure (v :: vs) H2 s2 r2 (.cons (r1.old s2 q1) q2)
/-- a def's promise, ready to be called by name -/
structure Cal (X : Cx) (k : Nat) (x : Str) (n : Nat) (F : FS) : Prop where
  ex : ∃ (f : Addr) (fd : FuncData) (ps : List Str), ps.length = n ∧ FnG X.prog X.w X.K X.mg X.base (L2.CX X.prog X.w) k f fd ps (spG X.K X.mg n F) ∧ X.mg x = some (.ref f) ∧ PySem.W.keepIn X.K (.ref f) = true ∧ Binds X.K fd ps []
theorem pe_callG (C : Cal X k x n F) (gd : Gd X k) (tk : Takes X W) (hg : Gl X x)
    (ha : DA X W (e :: es) ml) (hdb : (x == ("__debug__" : Str)) = false := by decide) (he : starEach (e :: es) X.env = (false, eval e X.env) :: starEach es X.env := by rfl) (hpl : (backTo pos (starEach es X.env)).any (·.1) = false := by rfl) :
    PE X (.Call (.Name x p) (e :: es) [] pos) (fun σ H Q => tAr X.K X.mg W ml σ H fun vs H1 => spG X.K X.mg n F vs H1 Q (WE W σ)) := by
  obtain ⟨f, fd, ps, hn, G, hm, hk, hb⟩ := C.ex
  refine ⟨fun pins s σ H Q I h => ?_⟩
  refine wpAny_Call_Name_kw (ld_glob I hg hm ?_ hdb)
  refine PySem.W.callWith_K (h₀ := X.base) I.ok.mod.kin hk (thn (ha.run pos pins s σ H _ I h) fun us s1 ⟨vs, H1, I1, r, q⟩ => ⟨I1.kIn, ?_⟩) he hpl
  have hl : us.length = ps.length := by rw [← r.length]; exact G.len _ _ _ _ q
  have b := hb s1 us I1.kIn (by rw [List.append_nil]; exact hl)
  rw [List.append_nil] at b
  exact run_fnG G gd.room gd.gd (passAt tk σ) I1 b r q
theorem de_call (C : Cal X k x n F) (gd : Gd X k) (tk : Takes X W) (hg : Gl X x) (ha : DA X W (e :: es) ml) (hn : LenM n ml) (hdb : (x == ("__debug__" : Str)) = false := by decide) (he : starEach (e :: es) X.env = (false, eval e X.env) :: starEach es X.env := by rfl) (hpl : (backTo pos (starEach es X.env)).any (·.1) = false := by rfl) :
    DE X W (.Call (.Name x p) (e :: es) [] pos) (mCall (fnV F) ml) := de_call_gen (pe_callG C gd tk hg ha hdb he hpl) hn
theorem df_call (C : Cal X k x n F) (gd : Gd X k) (tk : Takes X W) (hg : Gl X x) (ha : DA X W (e :: es) ml) (hn : LenM n ml) (hdb : (x == ("__debug__" : Str)) = false := by decide) (he : starEach (e :: es) X.env = (false, eval e X.env) :: starEach es X.env := by rfl) (hpl : (backTo pos (starEach es X.env)).any (·.1) = false := by rfl) :
    DF X W (.Call (.Name x p) (e :: es) [] pos) (mCallL (fnV F) ml) := df_call_gen (pe_callG C gd tk hg ha hdb he hpl) hn
/-- a call with keywords -/
structure CalK (X : Cx) (k : Nat) (x : Str) (n : Nat) (F : FS) (nu : Nat) (ks : List Str) (pick : List Nat) : Prop where
  ex : ∃ (f : Addr) (fd : FuncData) (ps : List Str), ps.length = n ∧ FnG X.prog X.w X.K X.mg X.base (L2.CX X.prog X.w) k f fd ps (spG X.K X.mg n F) ∧ X.mg x = some (.ref f) ∧ PySem.W.keepIn X.K (.ref f) = true ∧ KwB fd ps nu ks pick
def mArgsK (pick : List Nat) (ml mk : MX (List PyData)) : MX (List PyData) := mBind ml fun xs => mBind mk fun ys => mPure (pickL .none pick (xs ++ ys))
theorem pe_callKG {nu : Nat} (C : CalK X k x n F nu ks pick) (gd : Gd X k) (tk : Takes X W) (hg : Gl X x)
    (ha : DA X W (e :: es) ml) (hu : LenM nu ml) (hkw : DK X W kws mk) (hw : LenM ks.length mk) (hall : (backToKw pos (keywordEach kws X.env)).all (·.1.isSome) = true := by rfl) (hks : (backToKw pos (keywordEach kws X.env)).filterMap (·.1) = ks := by rfl)
    (hdb : (x == ("__debug__" : Str)) = false := by decide) (he : starEach (e :: es) X.env = (false, eval e X.env) :: starEach es X.env := by rfl)
    (hpl : ((backTo pos (starEach (e :: es) X.env)).any (·.1) || (backToKw pos (keywordEach kws X.env)).any (·.1.isNone)) = false := by rfl) :
    PE X (.Call (.Name x p) (e :: es) kws pos) (fun σ H Q => tAr X.K X.mg W (mArgsK pick ml mk) σ H fun vs H1 => spG X.K X.mg n F vs H1 Q (WE W σ)) := by
  obtain ⟨f, fd, ps, hn, G, hm, hk, hb⟩ := C.ex
  refine ⟨fun pins s σ H Q I h => ?_⟩
  refine wpAny_Call_Name_kw (ld_glob I hg hm ?_ hdb)
  obtain ⟨η, T, r0, n0⟩ := h
  refine PySem.W.callWith_KW (h₀ := X.base) I.ok.mod.kin hk hall (thn (ha.run pos pins s σ H (fun vs H1 => vs.length = nu ∧ tAr X.K X.mg W mk σ H1 fun zs H2 => zs.length = ks.length ∧ spG X.K X.mg n F (pickL .non pick (vs ++ zs)) H2 Q (WE W σ)) I ⟨η, T, r0, ?_⟩) fun us s1 ⟨vs, H1, I1, r, lu, q⟩ => ?_) hpl he
  · refine n0.bind fun xs η1 e1 n1 vs H1 s1 r1 q1 => ⟨by rw [q1.length]; exact hu _ _ _ e1, η1, T, r1, ?_⟩
    refine (n1.later PAs.later s1).bind fun ys η2 e2 n2 zs H2 s2 r2 q2 => ⟨by rw [q2.length]; exact hw _ _ _ e2, ?_⟩
    exact n2.pure _ H2 s2 r2 (((r1.olds s2 q1).append q2).pick pick)
  · refine thn (hkw.run pos pins s1 σ H1 _ I1 q) fun ws s2 ⟨zs, H2, I2, rz, lw, q2⟩ => ⟨I2.kIn, ?_⟩
    rw [hks]
    exact run_fnG G gd.room gd.gd (passAt tk σ) I2 (.of_eq (hb us ws (by rw [← r.length]; exact lu) (by rw [← rz.length]; exact lw))) (vals_pick (Vals.append r rz) pick) q2
theorem pe_callK0G (C : CalK X k x n F 0 ks pick) (gd : Gd X k) (tk : Takes X W) (hg : Gl X x)
    (hkw : DK X W kws mk) (hw : LenM ks.length mk) (hall : (backToKw pos (keywordEach kws X.env)).all (·.1.isSome) = true := by rfl) (hks : (backToKw pos (keywordEach kws X.env)).filterMap (·.1) = ks := by rfl)
    (hdb : (x == ("__debug__" : Str)) = false := by decide)
    (hpl : (backToKw pos (keywordEach kws X.env)).any (·.1.isNone) = false := by rfl) :
    PE X (.Call (.Name x p) [] kws pos) (fun σ H Q => tAr X.K X.mg W (mArgsK pick mNil mk) σ H fun vs H1 => spG X.K X.mg n F vs H1 Q (WE W σ)) := by
  obtain ⟨f, fd, ps, hn, G, hm, hk, hb⟩ := C.ex
  refine ⟨fun pins s σ H Q I h => ?_⟩
  refine wpAny_Call_Name_kw (ld_glob I hg hm ?_ hdb)
  obtain ⟨η, T, r0, n0⟩ := h
  refine PySem.W.callWith_KW0 (h₀ := X.base) I.ok.mod.kin hk hall (thn (hkw.run pos pins s σ H (fun zs H2 => zs.length = ks.length ∧ spG X.K X.mg n F (pickL .non pick zs) H2 Q (WE W σ)) I ⟨η, T, r0, ?_⟩) fun ws s2 ⟨zs, H2, I2, rz, lw, q2⟩ => ⟨I2.kIn, ?_⟩) hpl
  · refine Nx.bind (P := PAs X.K X.mg) (k := fun ys => mPure (pickL .none pick ys)) (show Nx X.K X.mg W (PAs X.K X.mg) σ H η T _ (mBind mk _ η) from n0) fun ys η2 e2 n2 zs H2 s2 r2 q2 => ⟨by rw [q2.length]; exact hw _ _ _ e2, ?_⟩
    exact n2.pure _ H2 s2 r2 (q2.pick pick)
  · rw [hks]
    have b := hb [] ws rfl (by rw [← rz.length]; exact lw)
    exact run_fnG G gd.room gd.gd (passAt tk σ) I2 (.of_eq b) (vals_pick rz pick) q2
end
end L2.DL
namespace L2.DL
open PySem PySem.Spec PyProof.Rows
section
variable {X : Cx} {W : WX} {a b e : Expr} {ma mb : MX PyData} {ml mk : MX (List PyData)} {pos p py : Pos} {es : List Expr} {k n i : Nat} {F : FS} {x y : Str}
theorem pe_callIG (C : Cal X k x n F) (gd : Gd X k) (tk : Takes X W) (hg : Gl X x) (hv : PE X (.Name y py) (tVar i))
    (ha : DA X W es ml) (hdb : (x == ("__debug__" : Str)) = false := by decide) (he : starEach (.Name y py :: es) X.env = (false, eval (.Name y py) X.env) :: starEach es X.env := by rfl) (hpl : (backTo pos (starEach es X.env)).any (·.1) = false := by rfl) :
    PE X (.Call (.Name x p) (.Name y py :: es) [] pos) (fun σ H Q => ∃ v, σ[i]? = some (some v) ∧ tAr X.K X.mg W ml σ H fun vs H1 => spG X.K X.mg n F (v :: vs) H1 Q (WE W σ)) := by
  obtain ⟨f, fd, ps, hn, G, hm, hk, hb⟩ := C.ex
  refine ⟨fun pins s σ H Q I h => ?_⟩
  refine wpAny_Call_Name_kw (ld_glob I hg hm ?_ hdb)
  have hA : PA X (.Name y py :: es) (tCons (tVar i) (tAr X.K X.mg W ml)) := pa_cons hv ha he
  refine PySem.W.callWith_K (h₀ := X.base) I.ok.mod.kin hk (thn (hA.run pos pins s σ H (fun vs H1 => spG X.K X.mg n F vs H1 Q (WE W σ)) I h) fun us s1 ⟨vs, H1, I1, r, q⟩ => ⟨I1.kIn, ?_⟩) he hpl
  have hl : us.length = ps.length := by rw [← r.length]; exact G.len _ _ _ _ q
  have b := hb s1 us I1.kIn (by rw [List.append_nil]; exact hl)
  rw [List.append_nil] at b
  exact run_fnG G gd.room gd.gd (passAt tk σ) I1 b r q
theorem LenM.up {m : Nat} (h : LenM m ml) (e : m + 1 = n) : ∀ η xs η1, ml η = some (.ok xs, η1) → xs.length + 1 = n := fun η xs η1 z => by rw [h _ _ _ z]; exact e
theorem de_callI {m : Nat} (C : Cal X k x n F) (gd : Gd X k) (tk : Takes X W) (hg : Gl X x) (hv : PE X (.Name y py) (tVar i))
    (ha : DA X W es ml) (hn : LenM m ml) (hm : m + 1 = n) (hdb : (x == ("__debug__" : Str)) = false := by decide) (he : starEach (.Name y py :: es) X.env = (false, eval (.Name y py) X.env) :: starEach es X.env := by rfl) (hpl : (backTo pos (starEach es X.env)).any (·.1) = false := by rfl) :
    DE X W (.Call (.Name x p) (.Name y py :: es) [] pos) (mCallI F i ml) := de_callI_gen (pe_callIG C gd tk hg hv ha hdb he hpl) (hn.up hm)
theorem df_callI {m : Nat} (C : Cal X k x n F) (gd : Gd X k) (tk : Takes X W) (hg : Gl X x) (hv : PE X (.Name y py) (tVar i))
    (ha : DA X W es ml) (hn : LenM m ml) (hm : m + 1 = n) (hdb : (x == ("__debug__" : Str)) = false := by decide) (he : starEach (.Name y py :: es) X.env = (false, eval (.Name y py) X.env) :: starEach es X.env := by rfl) (hpl : (backTo pos (starEach es X.env)).any (·.1) = false := by rfl) :
    DF X W (.Call (.Name x p) (.Name y py :: es) [] pos) (mCallIL F i ml) := df_callI_gen (pe_callIG C gd tk hg hv ha hdb he hpl) (hn.up hm)

/-! ### repr -/
def reprD (d : PyData) : Option PyData := if d.showable = true ∧ d.hasDict = false ∧ d.depth ≤ 64 ∧ d.shown.length ≤ sizeLine then some (.str d.shown) else none
theorem call_reprD (gd : Gd X k) : CallR X (.builtin "repr") (fun xs H Q => ∃ v d, xs = [v] ∧ Dp X.K H v d ∧ (d.showable = true ∧ d.hasDict = false ∧ d.depth ≤ 64 ∧ d.shown.length ≤ sizeLine) ∧ Q (.str d.shown) H) := by
  intro pins s σ H xs us Q I r h
  obtain ⟨v, d, rfl, hd, ⟨h1, h2, h3, h4⟩, q⟩ := h
  obtain ⟨u, rfl, ru⟩ := vals1 r
  obtain ⟨as, rd⟩ := Dp.reads I d v u hd ru
  have un := gd.room.un
  cases hd with
  | non => cases rd; exact PySem.P.repr_of_none ⟨.str _, H, I.tok _, ⟨_, rfl⟩, q⟩
  | bl b => cases rd; exact PySem.P.repr_of_bool ⟨.str _, H, I.tok _, ⟨_, rfl⟩, q⟩
  | int i => cases rd; exact PySem.P.repr_of_int (of_decide_eq_true h1) ⟨.str _, H, I.tok _, ⟨_, rfl⟩, q⟩
  | str x => cases rd; exact PySem.P.repr_of_str ⟨.str _, H, I.tok _, ⟨_, rfl⟩, q⟩ h4
  | lst hs all =>
    cases ru
    exact PySem.repr_of_reads' rd h1 (fun e => by rw [h2] at e; cases e) gd.gd (by omega) (fun _ _ e => e) (fun h' tk tk2 hk => ⟨.str _, H, I.kept hk, ⟨_, rfl⟩, q⟩) h4
  | tup hs all =>
    cases ru
    exact PySem.repr_of_reads' rd h1 (fun e => by rw [h2] at e; cases e) gd.gd (by omega) (fun _ _ e => e) (fun h' tk tk2 hk => ⟨.str _, H, I.kept hk, ⟨_, rfl⟩, q⟩) h4
theorem reprD_ok {K : Fg} : CaB K (fun xs H Q => ∃ v d, xs = [v] ∧ Dp K H v d ∧ (d.showable = true ∧ d.hasDict = false ∧ d.depth ≤ 64 ∧ d.shown.length ≤ sizeLine) ∧ Q (.str d.shown) H) reprD := by
  intro x d z H O Q l q e kk
  unfold reprD at e
  split at e
  · rename_i h
    cases e
    exact ⟨x, d, rfl, q.dp, h, kk _ _ More.refl (.str _)⟩
  · cases e
end
end L2.DL
end
section
set_option Elab.async false
set_option linter.all false
set_option maxRecDepth 100000
namespace L2.DL
open PySem PySem.Spec PyProof.Rows
set_option autoImplicit false

/-! ### two places, both read at once -/
def OpB (K : Fg) (r : R2) (g : PyData → PyData → Option PyData) : Prop :=
  ∀ x y d e z H O Q, Lists H O → Bq K H O x d → Bq K H O y e → g d e = some z → (∀ v H', More H H' → Dq K H' O v z → Q v H') → r x y H Q
def OpBL (K : Fg) (r : R2) (g : PyData → PyData → Option (List PyData)) : Prop :=
  ∀ x y d e zs H O Q, Lists H O → Bq K H O x d → Bq K H O y e → g d e = some zs → (∀ a vs, H a = none → DqAll K H O vs zs → Q (.ref a) (upd H a (.lst vs))) → r x y H Q
theorem Bq.rd {K : Fg} {H : Hp} {O : Addr → Prop} {v : V} {ds : List PyData} (h : Bq K H O v (.list ds)) : ∃ a vs, v = .ref a ∧ Rd H a (.lst vs) ∧ DqAll K H O vs ds := by
  rcases h with h | ⟨a, vs, es, rfl, e, ea, q⟩
  · cases h with
    | lst no r all => exact ⟨_, _, rfl, r, all⟩
  · cases e
    exact ⟨a, vs, rfl, .inl ea, q⟩
theorem Bq.dq {K : Fg} {H : Hp} {O : Addr → Prop} {v : V} {d : PyData} (h : Bq K H O v d) (n : ∀ ds, d ≠ .list ds) : Dq K H O v d := by
  rcases h with h | ⟨a, vs, es, rfl, e, ea, q⟩
  · exact h
  · exact absurd e (n es)
section
variable {K : Fg}
theorem ixB_ok : OpB K (rIx K) ixD := by
  intro x y d e z H O Q l qx qy hg k
  cases d with
  | list ds =>
    obtain ⟨a, vs, rfl, r, q⟩ := qx.rd
    cases e with
    | int i =>
      have qi := qy.dq (fun _ z => by cases z)
      cases qi
      simp only [ixD] at hg
      obtain ⟨v, e1, qv⟩ := atI_all q hg
      exact .inl ⟨_, _, _, v, rfl, rfl, .inl r, e1, k _ _ More.refl qv⟩
    | _ => cases hg
  | _ =>
    cases e with
    | int i => exact ixD_ok _ _ _ _ z H O Q l (qx.dq fun _ z => by cases z) (qy.dq fun _ z => by cases z) hg k
    | _ => simp only [ixD] at hg <;> cases hg
theorem eqB_ok : OpB K (rEqD K) eqD := by
  intro x y d e z H O Q l qx qy hg k
  unfold eqD at hg
  split at hg
  · rename_i h
    cases hg
    exact ⟨d, e, qx.dp, qy.dp, h.1, h.2, k _ _ More.refl (.bl _)⟩
  · cases hg
theorem neB_ok : OpB K (rNeD K) neD := by
  intro x y d e z H O Q l qx qy hg k
  unfold neD at hg
  split at hg
  · rename_i h
    cases hg
    exact ⟨d, e, qx.dp, qy.dp, h.1, h.2, k _ _ More.refl (.bl _)⟩
  · cases hg
/-- flat data -/
def flatD : PyData → Bool
  | .none => true
  | .bool _ => true
  | .int _ => true
  | .str _ => true
  | _ => false
def inD (d e : PyData) : Option PyData := match e with
  | .list ds => if SeqAt.shaped d = true ∧ SeqAt.shaped (.list ds) = true then some (.bool (ds.any fun z => PyData.eqv z d)) else none
  | .tuple ds => if flatD d = true ∧ ds.all flatD = true then some (.bool (ds.any fun z => PyData.eqv z d)) else none
  | _ => none
def notInD (d e : PyData) : Option PyData := match e with
  | .list ds => if SeqAt.shaped d = true ∧ SeqAt.shaped (.list ds) = true then some (.bool (!ds.any fun z => PyData.eqv z d)) else none
  | .tuple ds => if flatD d = true ∧ ds.all flatD = true then some (.bool (!ds.any fun z => PyData.eqv z d)) else none
  | _ => none
theorem flatV_of {H : Hp} {O : Addr → Prop} {v : V} {d : PyData} (q : Dq K H O v d) (h : flatD d = true) : flatV v = true := by
  cases q <;> first | rfl | cases h
theorem eqV_of {H : Hp} {O : Addr → Prop} {v w : V} {d e : PyData} (q : Dq K H O v d) (q2 : Dq K H O w e) (h : flatD d = true) (h2 : flatD e = true) : eqV v w = PyData.eqv d e := by
  cases q <;> first | (cases h; done) | (cases q2 <;> first | (cases h2; done) | rfl | (simp [eqV, PyData.eqv]; done) | (rename_i a b; cases a <;> simp [eqV, PyData.eqv]; done) | (rename_i a b; cases b <;> simp [eqV, PyData.eqv]; done))
theorem flats_of {H : Hp} {O : Addr → Prop} : ∀ {ds : List PyData} {vs : List V}, DqAll K H O vs ds → ds.all flatD = true → vs.all flatV = true
  | _, _, .nil, _ => rfl
  | _, _, .cons q qs, h => by
    rw [List.all_cons, Bool.and_eq_true] at h ⊢
    exact ⟨flatV_of q h.1, flats_of qs h.2⟩
theorem inV_of {H : Hp} {O : Addr → Prop} {v : V} {d : PyData} (q : Dq K H O v d) (h : flatD d = true) : ∀ {ds : List PyData} {vs : List V}, DqAll K H O vs ds → ds.all flatD = true → inV v vs = ds.any fun z => PyData.eqv z d
  | _, _, .nil, _ => rfl
  | _, _, .cons q2 qs, h2 => by
    rw [List.all_cons, Bool.and_eq_true] at h2
    have ih := inV_of q h qs h2.2
    unfold inV at ih ⊢
    rw [List.any_cons, List.any_cons, ih, eqV_of q2 q h2.1 h]
theorem inB_ok : OpB K (fun x y H Q => rInD K x y H Q ∨ rIn K false x y H Q) inD := by
  intro x y d e z H O Q l qx qy hg k
  cases e with
  | list ds =>
    simp only [inD] at hg
    split at hg
    · rename_i h
      cases hg
      exact .inl ⟨d, ds, qx.dp, qy.dp, h.1, h.2, k _ _ More.refl (.bl _)⟩
    · cases hg
  | tuple ds =>
    simp only [inD] at hg
    split at hg
    · rename_i h
      cases hg
      have q2 := qy.dq fun _ z => by cases z
      have q1 := qx.dq fun ds z => by rw [z] at h; cases h.1
      cases q2 with
      | tup r all =>
        refine .inr ⟨_, _, rfl, .inr r, flatV_of q1 h.1, flats_of all h.2, ?_⟩
        rw [inV_of q1 h.1 all h.2]
        exact k _ _ More.refl (.bl _)
    · cases hg
  | _ => cases hg
theorem notInB_ok : OpB K (fun x y H Q => rNotInD K x y H Q ∨ rIn K true x y H Q) notInD := by
  intro x y d e z H O Q l qx qy hg k
  cases e with
  | list ds =>
    simp only [notInD] at hg
    split at hg
    · rename_i h
      cases hg
      exact .inl ⟨d, ds, qx.dp, qy.dp, h.1, h.2, k _ _ More.refl (.bl _)⟩
    · cases hg
  | tuple ds =>
    simp only [notInD] at hg
    split at hg
    · rename_i h
      cases hg
      have q2 := qy.dq fun _ z => by cases z
      have q1 := qx.dq fun ds z => by rw [z] at h; cases h.1
      cases q2 with
      | tup r all =>
        refine .inr ⟨_, _, rfl, .inr r, flatV_of q1 h.1, flats_of all h.2, ?_⟩
        rw [inV_of q1 h.1 all h.2]
        exact k _ _ More.refl (.bl _)
    · cases hg
  | _ => cases hg
end
/-- the first a name: read again behind the second part -/
def mAgain {α : Type} (i : Nat) (k : PyData → MX α) : MX α := fun η => match mBor i η with
  | some (.ok d, _) => k d η
  | _ => none
def mOpV (g : PyData → PyData → Option PyData) (i : Nat) (mb : MX PyData) : MX PyData := mAgain i fun _ => mBind mb fun y => mAgain i fun x => mLift (g x y)
def mOpVL (g : PyData → PyData → Option (List PyData)) (i : Nat) (mb : MX PyData) : MX (List PyData) := mAgain i fun _ => mBind mb fun y => mAgain i fun x => mLift (g x y)
section
variable {K : Fg} {mg : Str → Option Value} {W : WX} {σ : St} {H : Hp} {η η1 : EnvD} {T : Addr → Prop} {α β : Type}
theorem Nx.again {P : Ps α β} {Q : β} {i : Nat} {k : PyData → MX α} {H1 : Hp} (r : Rp K mg σ H1 η1 T) (h : Nx K mg W P σ H η T Q (mAgain i k η1)) : ∃ v d, σ[i]? = some (some v) ∧ Bq K H1 (Avd σ η1 T) v d ∧ Nx K mg W P σ H η T Q (k d η1) := by
  obtain ⟨o, η', e, p⟩ := h
  unfold mAgain mBor at e
  cases es : η1[i]? with
  | none => rw [es] at e; cases e
  | some s =>
    rw [es] at e
    cases s with
    | none => cases e
    | some s =>
      cases s with
      | val d =>
        obtain ⟨v, ev, q⟩ := r.val i d es
        exact ⟨v, d, ev, .inl q, o, η', e, p⟩
      | own b ds =>
        obtain ⟨a, vs, ea, e2, q, _⟩ := r.own i b ds es
        exact ⟨.ref a, .list ds, ea, .inr ⟨a, vs, ds, rfl, rfl, e2, q⟩, o, η', e, p⟩
      | exc nm d => cases e
end
section
variable {X : Cx} {W : WX} {a b e : Expr} {ma mb : MX PyData} {pos p : Pos} {i : Nat}
theorem de_opV_gen {r : R2} {g : PyData → PyData → Option PyData} (hg : OpB X.K r g) (h : PE X e (tOp r (tVar i) (tBo X.K X.mg W mb))) : DE X W e (mOpV g i mb) := by
  refine PE.imp h fun σ H Q ⟨η, T, r0, n0⟩ => ?_
  obtain ⟨v, d, ev, q, n1⟩ := n0.again r0
  refine ⟨v, ev, η, T, r0, n1.bind fun y η2 e2 n2 w H2 s2 r2 q2 => ?_⟩
  obtain ⟨v', d', ev', q', n3⟩ := n2.again r2
  rw [ev] at ev'; cases ev'
  obtain ⟨z, ez, p⟩ := n3.lift
  exact hg v w d' y z H2 (Avd σ η2 T) Q r2.lists q' q2 ez (p.meet s2 r2)
theorem df_opV_gen {r : R2} {g : PyData → PyData → Option (List PyData)} (hg : OpBL X.K r g) (h : PE X e (tOp r (tVar i) (tBo X.K X.mg W mb))) : DF X W e (mOpVL g i mb) := by
  refine PE.imp h fun σ H Q ⟨η, T, r0, n0⟩ => ?_
  obtain ⟨v, d, ev, q, n1⟩ := n0.again r0
  refine ⟨v, ev, η, T, r0, n1.bind fun y η2 e2 n2 w H2 s2 r2 q2 => ?_⟩
  obtain ⟨v', d', ev', q', n3⟩ := n2.again r2
  rw [ev] at ev'; cases ev'
  obtain ⟨z, ez, p⟩ := n3.lift
  exact hg v w d' y z H2 (Avd σ η2 T) Q r2.lists q' q2 ez fun a vs na q => p.meet s2 r2 na q
theorem de_opB_gen {r : R2} {g : PyData → PyData → Option PyData} (hg : OpB X.K r g) (h : PE X e (tOp r (tD X.K X.mg W ma) (tBo X.K X.mg W mb))) : DE X W e (mOp g ma mb) := by
  refine PE.imp h fun σ H Q ⟨η, T, r0, n0⟩ => ⟨η, T, r0, n0.bind fun x η1 e1 n1 v H1 s1 r1 q1 => ?_⟩
  refine ⟨η1, T, r1, (n1.later PD.later s1).bind fun y η2 e2 n2 w H2 s2 r2 q2 => ?_⟩
  obtain ⟨z, ez, p⟩ := n2.lift
  exact hg v w x y z H2 (Avd σ η2 T) Q r2.lists (.inl (r1.old s2 q1)) q2 ez (p.meet s2 r2)
theorem de_cmpB {op : CmpOp} {r : R2} {g : PyData → PyData → Option PyData} (ho : OpR X (compareOp op) r) (hg : OpB X.K r g) (ha : DE X W a ma) (hb : DB X W b mb) (hm : behindInMarks op b = false) : DE X W (.Compare a [op] [b] pos) (mOp g ma mb) := de_opB_gen hg (pe_cmpR ho ha hb hm)
theorem de_cmpV {op : CmpOp} {r : R2} {g : PyData → PyData → Option PyData} (ho : OpR X (compareOp op) r) (hg : OpB X.K r g) (ha : PE X a (tVar i)) (hb : DB X W b mb) (hm : behindInMarks op b = false) : DE X W (.Compare a [op] [b] pos) (mOpV g i mb) := de_opV_gen hg (pe_cmpR ho ha hb hm)
theorem de_ixV {r : R2} {g : PyData → PyData → Option PyData} (hr : IxR X r) (hg : OpB X.K r g) (ha : PE X a (tVar i)) (hb : DE X W b mb) (hs : PlainIx b) : DE X W (.Subscript a b pos) (mOpV g i mb) := de_opV_gen hg (pe_ix hr ha hb.toB hs)
/-! ### chains -/
def mChain (g g' : PyData → PyData → Option PyData) (ma mb mc : MX PyData) : MX PyData := mBind ma fun x => mBind mb fun y => mBind (mLift (g x y)) fun z => match z with
  | .bool true => mBind mc fun w => mLift (g' y w)
  | .bool false => mPure (.bool false)
  | _ => fun _ => none
theorem chain_gen {mc : MX PyData} {r r' : R2} {g g' : PyData → PyData → Option PyData} (hg : OpG X.K r g) (hg' : OpG X.K r' g') (h : PE X e (tChain r r' (tD X.K X.mg W ma) (tD X.K X.mg W mb) (tD X.K X.mg W mc))) : DE X W e (mChain g g' ma mb mc) := by
  refine PE.imp h fun σ H Q ⟨η, T, r0, n0⟩ => ⟨η, T, r0, n0.bind fun x η1 e1 n1 v H1 s1 r1 q1 => ?_⟩
  refine ⟨η1, T, r1, (n1.later PD.later s1).bind fun y η2 e2 n2 w H2 s2 r2 q2 => ?_⟩
  have n3 := n2.later PD.later s2
  have q1' := r1.old s2 q1
  cases ez : g x y with
  | none =>
    obtain ⟨_, _, eo, _⟩ := n3
    unfold mBind mLift at eo
    rw [ez] at eo; cases eo
  | some z =>
    refine hg v w x y z H2 (Avd σ η2 T) _ r2.lists q1' q2 ez fun u H3 k3 qz => ?_
    have n4 : Nx X.K X.mg W (PD X.K X.mg) σ H2 η2 T Q ((fun z => match z with
      | .bool true => mBind mc fun w => mLift (g' y w)
      | .bool false => mPure (.bool false)
      | _ => fun _ => none : PyData → MX PyData) z η2) := by
      unfold mBind at n3
      unfold mLift at n3
      rw [ez] at n3
      exact n3
    have s3 : StepS σ H2 η2 σ H3 η2 := StepS.more k3
    cases qz with
    | bl kb =>
      refine ⟨kb, rfl, ?_⟩
      cases kb with
      | true =>
        rw [if_pos rfl]
        refine ⟨η2, T, r2.more k3, (Nx.later PD.later s3 n4).bind fun u' η4 e4 n5 w' H4 s4 r4 q4 => ?_⟩
        obtain ⟨z', ez', p⟩ := n5.lift
        have rm := r2.more k3
        exact hg' w w' y u' z' H4 (Avd σ η4 T) Q r4.lists (rm.old s4 (r2.old s3 q2)) q4 ez' (p.meet s4 r4)
      | false =>
        rw [if_neg Bool.false_ne_true]
        exact n4.pure (.bl false) H3 s3 (r2.more k3) (.bl false)
    | _ => obtain ⟨_, _, z, _⟩ := n4; cases z
theorem de_chain {c : Expr} {mc : MX PyData} {op op' : CmpOp} {r r' : R2} {g g' : PyData → PyData → Option PyData} (ho : OpR X (compareOp op) r) (hg : OpG X.K r g) (ho' : OpR X (compareOp op') r') (hg' : OpG X.K r' g') (ha : DE X W a ma) (hb : DE X W b mb) (hc : DE X W c mc)
    (hm : lastMarks [op, op'] [b, c] = false := by with_unfolding_all rfl) : DE X W (.Compare a [op, op'] [b, c] pos) (mChain g g' ma mb mc) := chain_gen hg hg' (pe_chain ho ho' ha hb hc hm)
end

/-! ### slices -/
def POt (K : Fg) (mg : Str → Option Value) : Ps (Option Int) (Option Int → Hp → Prop) := fun σ H η T Q x η' => ∀ H', StepS σ H η σ H' η' → Rp K mg σ H' η' T → Q x H'
theorem POt.later {K : Fg} {mg : Str → Option Value} : Later (POt K mg) := fun σ H η T Q x η' H1 η1 s p H' s' r => p H' (s.trans s') r
def DO (X : Cx) (W : WX) (o : Option Expr) (m : MX (Option Int)) : Prop := PO X o (fun σ H Q => tG X.K X.mg W (POt X.K X.mg) m σ H Q)
theorem PO.imp {X : Cx} {e : Option Expr} {t t' : TO} (h : PO X e t) (i : ∀ σ H Q, t' σ H Q → t σ H Q) : PO X e t' := ⟨fun pins s σ H Q I hw => h.run pins s σ H Q I (i σ H Q hw)⟩
def mPart (m : MX PyData) : MX (Option Int) := mBind m fun x => match x with
  | .int i => mPure (some i)
  | _ => fun _ => none
def cutD {α : Type} (xs : List α) (lo hi : Option Int) : List α := (xs.drop (HT.sIx xs.length 0 lo)).take (HT.sIx xs.length xs.length hi - HT.sIx xs.length 0 lo)
theorem DqAll.cut {K : Fg} {H : Hp} {O : Addr → Prop} {vs : List V} {ds : List PyData} (q : DqAll K H O vs ds) (lo hi : Option Int) : DqAll K H O (cutV vs lo hi) (cutD ds lo hi) := by
  unfold cutV cutD
  rw [q.length]
  exact (q.drop _).take _
def SlB (K : Fg) (r : V → Option Int → Option Int → Hp → VK → Prop) (g : PyData → Option Int → Option Int → Option PyData) : Prop :=
  ∀ x d lo hi z H O Q, Lists H O → Bq K H O x d → g d lo hi = some z → (∀ v H', More H H' → Dq K H' O v z → Q v H') → r x lo hi H Q
def SlBL (K : Fg) (r : V → Option Int → Option Int → Hp → VK → Prop) (g : PyData → Option Int → Option Int → Option (List PyData)) : Prop :=
  ∀ x d lo hi zs H O Q, Lists H O → Bq K H O x d → g d lo hi = some zs → (∀ a vs, H a = none → DqAll K H O vs zs → Q (.ref a) (upd H a (.lst vs))) → r x lo hi H Q
def slD (d : PyData) (lo hi : Option Int) : Option PyData := match d with
  | .list ds => some (.list (cutD ds lo hi))
  | .tuple ds => some (.tuple (cutD ds lo hi))
  | .str z => if z.length ≤ sizeLine then some (.str (cutS z lo hi)) else none
  | _ => none
def slL (d : PyData) (lo hi : Option Int) : Option (List PyData) := match d with
  | .list ds => some (cutD ds lo hi)
  | _ => none
def rSl (K : Fg) : V → Option Int → Option Int → Hp → VK → Prop := fun x lo hi H Q => rSlL K x lo hi H Q ∨ rSlA K x lo hi H Q ∨ rSlS x lo hi H Q
theorem sl_all {X : Cx} : SlR X (rSl X.K) := SlR.or sl_list (SlR.or sl_tupA sl_str)
theorem cut_whole {α : Type} {xs : List α} {lo hi : Option Int} (h : HT.sIx xs.length 0 lo = 0 ∧ HT.sIx xs.length xs.length hi = xs.length) : cutD xs lo hi = xs := by
  unfold cutD
  rw [h.1, h.2]
  simp
theorem slB_ok {K : Fg} : SlB K (rSl K) slD := by
  intro x d lo hi z H O Q l q e k
  cases d with
  | list ds =>
    obtain ⟨a, vs, rfl, r, qa⟩ := q.rd
    cases e
    exact .inl ⟨a, vs, rfl, .inl r, fun p hp => k _ _ (More.upd hp) (Dq.fresh l hp (qa.cut lo hi))⟩
  | tuple ds =>
    have q2 := q.dq fun _ z => by cases z
    cases e
    cases q2 with
    | @tup a vs _ r all =>
      refine .inr (.inl ⟨a, vs, rfl, r, fun hw => ?_, fun _ p hp => k _ _ (More.upd hp) (.tup (.inl (.inl upd_same)) ((all.cut lo hi).more l (More.upd hp)))⟩)
      rw [all.length] at hw
      refine k _ _ More.refl ?_
      rw [cut_whole hw]
      exact .tup r all
  | str y =>
    have q2 := q.dq fun _ z => by cases z
    simp only [slD] at e
    split at e
    · rename_i hl
      cases e
      cases q2
      exact .inr (.inr ⟨y, rfl, hl, k _ _ More.refl (.str _)⟩)
    · cases e
  | _ => cases e
theorem slBL_ok {K : Fg} : SlBL K (rSlL K) slL := by
  intro x d lo hi z H O Q l q e k
  cases d with
  | list ds =>
    obtain ⟨a, vs, rfl, r, qa⟩ := q.rd
    cases e
    exact ⟨a, vs, rfl, .inl r, fun p hp => k _ _ hp (qa.cut lo hi)⟩
  | _ => cases e
def mSl {α : Type} (g : PyData → Option Int → Option Int → Option α) (ma : MX PyData) (ml mh : MX (Option Int)) : MX α := mBind ma fun x => mBind ml fun l => mBind mh fun h => mLift (g x l h)
def mSlV {α : Type} (g : PyData → Option Int → Option Int → Option α) (i : Nat) (ml mh : MX (Option Int)) : MX α := mAgain i fun _ => mBind ml fun l => mBind mh fun h => mAgain i fun x => mLift (g x l h)
section
variable {X : Cx} {W : WX} {e : Expr} {ma : MX PyData} {ml mh : MX (Option Int)} {lo hi : Option Expr} {pos p2 : Pos} {i : Nat}
theorem do_none : DO X W none (mPure none) := PO.imp po_none fun σ H Q ⟨η, T, r0, n0⟩ => n0.pure H StepS.refl r0
theorem do_some {m : MX PyData} (h : DE X W e m) : DO X W (some e) (mPart m) := PO.imp (po_some h) fun σ H Q ⟨η, T, r0, n0⟩ => ⟨η, T, r0, n0.bind fun x η1 e1 n1 v H1 s1 r1 q1 => by
  cases q1 with
  | int i => exact ⟨i, rfl, n1.pure H1 s1 r1⟩
  | _ => obtain ⟨_, _, z, _⟩ := n1; cases z⟩
theorem de_sl (he : DE X W e ma) (hl : DO X W lo ml) (hh : DO X W hi mh) : DE X W (.Subscript e (.Slice lo hi none p2) pos) (mSl slD ma ml mh) := by
  refine PE.imp (pe_slice sl_all he hl hh) fun σ H Q ⟨η, T, r0, n0⟩ => ⟨η, T, r0, n0.bind fun x η1 e1 n1 v H1 s1 r1 q1 => ?_⟩
  refine ⟨η1, T, r1, (n1.later PD.later s1).bind fun l η2 e2 n2 H2 s2 r2 => ?_⟩
  refine ⟨η2, T, r2, (n2.later PD.later s2).bind fun h η3 e3 n3 H3 s3 r3 => ?_⟩
  obtain ⟨z, ez, p⟩ := n3.lift
  exact slB_ok v x l h z H3 (Avd σ η3 T) Q r3.lists (.inl (r2.old s3 (r1.old s2 q1))) ez (p.meet s3 r3)
theorem df_sl (he : DE X W e ma) (hl : DO X W lo ml) (hh : DO X W hi mh) : DF X W (.Subscript e (.Slice lo hi none p2) pos) (mSl slL ma ml mh) := by
  refine PE.imp (pe_slice sl_list he hl hh) fun σ H Q ⟨η, T, r0, n0⟩ => ⟨η, T, r0, n0.bind fun x η1 e1 n1 v H1 s1 r1 q1 => ?_⟩
  refine ⟨η1, T, r1, (n1.later PL.later s1).bind fun l η2 e2 n2 H2 s2 r2 => ?_⟩
  refine ⟨η2, T, r2, (n2.later PL.later s2).bind fun h η3 e3 n3 H3 s3 r3 => ?_⟩
  obtain ⟨z, ez, p⟩ := n3.lift
  exact slBL_ok v x l h z H3 (Avd σ η3 T) Q r3.lists (.inl (r2.old s3 (r1.old s2 q1))) ez fun a vs na q => p.meet s3 r3 na q
theorem de_slV (he : PE X e (tVar i)) (hl : DO X W lo ml) (hh : DO X W hi mh) : DE X W (.Subscript e (.Slice lo hi none p2) pos) (mSlV slD i ml mh) := by
  refine PE.imp (pe_slice sl_all he hl hh) fun σ H Q ⟨η, T, r0, n0⟩ => ?_
  obtain ⟨v, d, ev, q, n1⟩ := n0.again r0
  refine ⟨v, ev, η, T, r0, n1.bind fun l η2 e2 n2 H2 s2 r2 => ?_⟩
  refine ⟨η2, T, r2, (n2.later PD.later s2).bind fun h η3 e3 n3 H3 s3 r3 => ?_⟩
  obtain ⟨v', d', ev', q', n4⟩ := n3.again r3
  rw [ev] at ev'; cases ev'
  obtain ⟨z, ez, p⟩ := n4.lift
  exact slB_ok v d' l h z H3 (Avd σ η3 T) Q r3.lists q' ez (p.meet s3 r3)
theorem df_slV (he : PE X e (tVar i)) (hl : DO X W lo ml) (hh : DO X W hi mh) : DF X W (.Subscript e (.Slice lo hi none p2) pos) (mSlV slL i ml mh) := by
  refine PE.imp (pe_slice sl_list he hl hh) fun σ H Q ⟨η, T, r0, n0⟩ => ?_
  obtain ⟨v, d, ev, q, n1⟩ := n0.again r0
  refine ⟨v, ev, η, T, r0, n1.bind fun l η2 e2 n2 H2 s2 r2 => ?_⟩
  refine ⟨η2, T, r2, (n2.later PL.later s2).bind fun h η3 e3 n3 H3 s3 r3 => ?_⟩
  obtain ⟨v', d', ev', q', n4⟩ := n3.again r3
  rw [ev] at ev'; cases ev'
  obtain ⟨z, ez, p⟩ := n4.lift
  exact slBL_ok v d' l h z H3 (Avd σ η3 T) Q r3.lists q' ez fun a vs na q => p.meet s3 r3 na q
end
end L2.DL
end
section
set_option Elab.async false
set_option linter.all false
set_option maxRecDepth 100000
set_option maxHeartbeats 4000000
namespace L2
open PySem PySem.Spec PyProof.Rows
/-! ### set(xs) of a list of ints: told as a sorted set -/
section
variable {P : Program} {w : World} {A : Around} {E : Value → Shared → Prop} {s : Shared}
theorem call_set_listI {l : Addr} {items : Array Value} (ns : List Int) {Q : Value → Shared → Prop} (hh : A.handled = none) (hl : s.heap.IsList l items) (hit : IntsAre items.toList ns) (hb : ns.length + 1 < scanBound)
    (h : ∀ (h' : Heap) (tk c : Nat), SetR w h' s.heap.objs.size (fun j => decide (j ∈ ns)) c → c ≤ ns.length → (∀ b o, s.heap.get? b = some o → h'.get? b = some o) → Q (.ref s.heap.objs.size) { s with heap := h', toks := tk }) :
    wpAny (model P w) A (call (.type "set") [.ref l]) Q E s := by
  have hisz : items.size = ns.length := by
    have q := IntsAre.length hit
    rw [Array.length_toList] at q
    exact q
  obtain ⟨c, tl, hmro⟩ := F.called_set.mro
  have hmade := F.called_set.made
  have hsub := F.called_set.sub
  refine wpAny_call (codeAny_of_tree ?_)
  show wpAny _ _ (callAny (.type "set") _) _ _ _
  refine wpAny_pure ⟨Code.quiet_builtin _ (by decide +kernel), codeAny_builtin F.entry_type_call ?_⟩
  rw [Around.under_plain (weight_type_call_type "set" [.ref l] []) rfl]
  have h1 := F.called_set.notType
  have h2 := F.called_set.canCreate
  have hct := F.typeCall_set_1 (.ref l)
  repeat (any_goals (first | assumption | wp_step))

  refine codeAny_mono (code_set_led1 (.ref l) (E := E) (Q₁ := fun obj s₁ => obj = .ref s.heap.objs.size ∧ s₁ = { s with heap := s.heap.push { cls := .type "set", dict := none, data := .set #[] 0 (.fresh 0 0 (!w.params.followText "set-order")) } }) ⟨rfl, rfl⟩) fun r s₁ hr => ?_
  cases r with
  | error e => exact hr
  | ok fl =>
    cases fl with
    | ret obj =>
      obtain ⟨rfl, rfl⟩ := hr
      have hS : (s.heap.push { cls := .type "set", dict := none, data := .set #[] 0 (.fresh 0 0 (!w.params.followText "set-order")) }).get? s.heap.objs.size = some { cls := .type "set", dict := none, data := .set #[] 0 (.fresh 0 0 (!w.params.followText "set-order")) } := Heap.get?_push_size _ rfl
      have hT : Shared.TypeIs { s with heap := s.heap.push { cls := .type "set", dict := none, data := .set #[] 0 (.fresh 0 0 (!w.params.followText "set-order")) } } (.ref s.heap.objs.size) "set" := ⟨_, hS, rfl⟩
      have hli := F.called_set.init.lookup
      have hbi := F.called_set.init.bind (.ref s.heap.objs.size)
      repeat (any_goals (first | assumption | wp_step))

      refine codeAny_mono (codeAny_call_builtin (R := wants (fun r s₂ => r = .none ∧ ∃ h' tk c, s₂ = { s with heap := h', toks := tk } ∧ SetR w h' s.heap.objs.size (fun j => decide (j ∈ ns)) c ∧ c ≤ ns.length ∧
          (∀ b o, s.heap.get? b = some o → h'.get? b = some o)) E) F.called_set.init.plain F.entry_set_init (check_set_init_1 hT ?_)) fun r₂ s₂ hr₂ => ?_
      · obtain ⟨ol, hol, hcl, nl, hdl⟩ := hl
        obtain ⟨ocls, odict, odata, oslots⟩ := ol
        simp only at hcl hdl
        subst hcl; subst hdl
        have hol' : (s.heap.push { cls := .type "set", dict := none, data := .set #[] 0 (.fresh 0 0 (!w.params.followText "set-order")) }).get? l = some { cls := .type "list", dict := odict, data := .seq items nl, slots := oslots } := Heap.get?_push_of_some _ hol
        have hsls := F.sub_list_set
        have hslf := F.sub_list_frozenset
        have hne : (Value.type "list" == Value.type "dict") = false := by decide
        have hl1 : (s.heap.push { cls := .type "set", dict := none, data := .set #[] 0 (.fresh 0 0 (!w.params.followText "set-order")) }).IsList l items := ⟨_, hol', rfl, nl, rfl⟩
        unfold Builtin.«set.__init__» noKeywords Builtin.Frozenset.updateFrom
        generalize hPI : pyIter = PI
        wp_walk
        subst hPI

        refine wpAny_pyIter_list hl1 ?_
        refine wpAny_bind (wpAny_runValue ?_)
        have hlS : l < s.heap.objs.size := Heap.lt_size hol
        have hh3 : A.in1.in1.in1.handled = none := by simp [hh]
        have hz1 : (s.heap.push { cls := .type "set", dict := none, data := .set #[] 0 (.fresh 0 0 (!w.params.followText "set-order")) }).objs.size = s.heap.objs.size + 1 := Heap.size_push ..
        have hneI : l ≠ (s.heap.push { cls := .type "set", dict := none, data := .set #[] 0 (.fresh 0 0 (!w.params.followText "set-order")) }).objs.size := by
          rw [Heap.size_push]; exact Nat.ne_of_lt (Nat.lt_succ_of_lt hlS)
        have hSf : s.heap.objs.size ∉ [(s.heap.push { cls := .type "set", dict := none, data := .set #[] 0 (.fresh 0 0 (!w.params.followText "set-order")) }).objs.size, l] := by
          rw [Heap.size_push]; simp only [List.mem_cons, List.mem_singleton, List.not_mem_nil, or_false, not_or]
          exact ⟨Nat.ne_of_lt (Nat.lt_succ_self _), Nat.ne_of_gt hlS⟩
        have hval : ∀ (i : Nat) (v : Value), items[i]? = some v → ∃ k t, ns[i]? = some k ∧ v = .int k t := fun i v hv => by
          have hi : i < ns.length := by rw [← hisz]; exact (Array.getElem?_eq_some_iff.mp hv).1
          obtain ⟨t, e⟩ := PyProof.Rows.IntsAre.int_at hit i v (by rw [Array.getElem?_toList]; exact hv)
          refine ⟨ns[i], t, List.getElem?_eq_getElem hi, ?_⟩
          rw [e, List.getD_eq_getElem?_getD, List.getElem?_eq_getElem hi] <;> rfl
        refine set_update_ints ((Walks.list hh3 _ l hneI items).toS) s.heap.objs.size
          hSf ns hisz hb hval (items.size - 0) 0 _ (by omega) (Nat.zero_le _)
          ⟨⟨_, Heap.get?_push_size _ rfl, rfl, rfl⟩, (hl1.push _)⟩ ?hS0 ?hR
        case hS0 =>
          have hget : ((s.heap.push { cls := .type "set", dict := none, data := .set #[] 0 (.fresh 0 0 (!w.params.followText "set-order")) }).push { cls := .type "list_iterator", data := .fields #[.ref l, .int 0 0] }).get? s.heap.objs.size
              = some { cls := .type "set", dict := none, data := .set #[] 0 (.fresh 0 0 (!w.params.followText "set-order")) } := Heap.get?_push_of_some _ hS
          exact ⟨0, Nat.le_refl 0, setR_new_at hget⟩
        case hR =>
          intro s' c' hm hc' hS'
          obtain ⟨h', g2, d', tk', os'⟩ := s'
          have eg : g2 = s.gens := hm.gens
          have ed : d' = s.drawn := hm.drawn
          have eo : os' = s.os := hm.os
          subst eg; subst ed; subst eo
          show wpAny _ _ _ _ _ _
          refine wpAny_pure ?_
          show wpAny _ _ (ret Value.none) _ _ _
          rw [hisz] at hc'
          refine wpAny_pure ⟨rfl, h', tk', c', rfl, hS', hc', fun b o e => ?_⟩
          have hb0 : b < s.heap.objs.size := Heap.lt_size e
          have hb1 : b ≠ s.heap.objs.size := Nat.ne_of_lt hb0
          have hb2 : b ≠ (s.heap.push { cls := .type "set", dict := none, data := .set #[] 0 (.fresh 0 0 (!w.params.followText "set-order")) }).objs.size := by
            rw [Heap.size_push]; exact Nat.ne_of_lt (Nat.lt_succ_of_lt hb0)
          exact hm.heap b o (by simp only [List.mem_cons, List.mem_singleton, List.not_mem_nil, or_false, not_or]; exact ⟨hb1, hb2⟩) (Heap.get?_push_of_some _ (Heap.get?_push_of_some _ e))

      · cases r₂ with
        | error e => exact hr₂
        | ok fl₂ =>
          cases fl₂ with
          | ret r =>
            obtain ⟨rfl, h', tk, c', rfl, hS', hc', hk'⟩ := hr₂
            repeat (any_goals (first | assumption | wp_step))
            exact h _ _ _ hS' hc' hk'
          | _ => exact hr₂.elim
    | _ => exact hr.elim

end
end L2
namespace L2.DL
open PySem PySem.Spec PyProof.Rows
set_option autoImplicit false
/-- the distinct ones, from the least on -/
def insU (x : Int) : List Int → List Int
  | [] => [x]
  | y :: ys => if x < y then x :: y :: ys else if x = y then y :: ys else y :: insU x ys
def sortU : List Int → List Int
  | [] => []
  | x :: xs => insU x (sortU xs)
theorem insU_mem {x k : Int} : ∀ {l : List Int}, k ∈ insU x l ↔ k = x ∨ k ∈ l
  | [] => by simp [insU]
  | y :: ys => by
    unfold insU
    split
    · simp
    · split
      · rename_i h; subst h; simp
      · rw [List.mem_cons, insU_mem, List.mem_cons]
        constructor
        · rintro (h | h | h)
          · exact .inr (.inl h)
          · exact .inl h
          · exact .inr (.inr h)
        · rintro (h | h | h)
          · exact .inr (.inl h)
          · exact .inl h
          · exact .inr (.inr h)
theorem sortU_mem {k : Int} : ∀ {l : List Int}, k ∈ sortU l ↔ k ∈ l
  | [] => by simp [sortU]
  | x :: xs => by rw [sortU, insU_mem, sortU_mem, List.mem_cons]
theorem insU_lt {x : Int} : ∀ {l : List Int}, l.Pairwise (· < ·) → (insU x l).Pairwise (· < ·)
  | [], _ => by simp [insU]
  | y :: ys, h => by
    unfold insU
    have h' := List.pairwise_cons.mp h
    split
    · rename_i hx
      refine List.pairwise_cons.mpr ⟨fun z hz => ?_, h⟩
      rcases List.mem_cons.mp hz with e | e
      · omega
      · have := h'.1 z e; omega
    · split
      · exact h
      · rename_i h1 h2
        refine List.pairwise_cons.mpr ⟨fun z hz => ?_, insU_lt h'.2⟩
        rcases insU_mem.mp hz with e | e
        · omega
        · exact h'.1 z e
theorem sortU_lt : ∀ {l : List Int}, (sortU l).Pairwise (· < ·)
  | [] => .nil
  | x :: xs => insU_lt sortU_lt
theorem sortU_ext : ∀ {l m : List Int}, l.Pairwise (· < ·) → m.Pairwise (· < ·) → (∀ k, k ∈ l ↔ k ∈ m) → l = m
  | [], [], _, _, _ => rfl
  | [], y :: ys, _, _, e => by have := (e y).mpr (List.mem_cons_self); simp at this
  | x :: xs, [], _, _, e => by have := (e x).mp (List.mem_cons_self); simp at this
  | x :: xs, y :: ys, h, h2, e => by
    have a := List.pairwise_cons.mp h
    have b := List.pairwise_cons.mp h2
    have exy : x = y := by
      have p := (e x).mp List.mem_cons_self
      have q := (e y).mpr List.mem_cons_self
      rcases List.mem_cons.mp p with p | p
      · exact p
      · rcases List.mem_cons.mp q with q | q
        · exact q.symm
        · have := a.1 y q
          have := b.1 x p
          omega
    subst exy
    rw [sortU_ext a.2 b.2 fun k => ?_]
    constructor
    · intro hk
      rcases List.mem_cons.mp ((e k).mp (List.mem_cons_of_mem _ hk)) with z | z
      · have := a.1 k hk; omega
      · exact z
    · intro hk
      rcases List.mem_cons.mp ((e k).mpr (List.mem_cons_of_mem _ hk)) with z | z
      · have := b.1 k hk; omega
      · exact z
theorem sortU_eq {l ns : List Int} (h : ns.Pairwise (· < ·)) (e : ∀ k, k ∈ ns ↔ k ∈ l) : ns = sortU l := sortU_ext h sortU_lt fun k => (e k).trans sortU_mem.symm
theorem sortU_card {l ks : List Int} (h : ks.Nodup) (e : ∀ k, k ∈ ks ↔ k ∈ l) : ks.length = (sortU l).length := by
  have n2 : (sortU l).Nodup := (sortU_lt (l := l)).imp fun h => by omega
  exact ((List.perm_ext_iff_of_nodup h n2).mpr fun k => (e k).trans sortU_mem.symm).length_eq
def intsD : List PyData → Option (List Int)
  | [] => some []
  | .int i :: r => (intsD r).map (i :: ·)
  | _ :: _ => none
theorem intsD_some : ∀ {ds : List PyData} {ns : List Int}, intsD ds = some ns → ds = ns.map PyData.int
  | [], _, h => by cases h; rfl
  | .int i :: r, ns, h => by
    simp only [intsD] at h
    obtain ⟨m, e, rfl⟩ := Option.map_eq_some_iff.mp h
    rw [intsD_some e]; rfl
  | .none :: _, _, h => by cases h
  | .bool _ :: _, _, h => by cases h
  | .str _ :: _, _, h => by cases h
  | .list _ :: _, _, h => by cases h
  | .tuple _ :: _, _, h => by cases h
  | .dict _ :: _, _, h => by cases h
theorem intsD_map : ∀ ns : List Int, intsD (ns.map PyData.int) = some ns
  | [] => rfl
  | n :: ns => by show (intsD (ns.map PyData.int)).map (n :: ·) = _; rw [intsD_map ns]; rfl
theorem ints_vs {K : Fg} {H : Hp} {O : Addr → Prop} : ∀ {ns : List Int} {vs : List V}, DqAll K H O vs (ns.map PyData.int) → vs = ns.map V.int
  | [], _, .nil => rfl
  | n :: ns, _, .cons q qs => by
    cases q
    rw [ints_vs qs]; rfl
theorem ints_dq {K : Fg} {H : Hp} {O : Addr → Prop} : ∀ (ns : List Int), DqAll K H O (ns.map V.int) (ns.map PyData.int)
  | [] => .nil
  | n :: ns => .cons (.int n) (ints_dq ns)
/-- sorted(set(xs)), len(set(xs)), xs a list or a tuple of ints -/
def setOfD (d : PyData) : Option (List Int) := match d with
  | .list ds => (intsD ds).bind fun ns => if ns.length < 4000 then some (sortU ns) else none
  | .tuple ds => (intsD ds).bind fun ns => if ns.length < 4000 then some (sortU ns) else none
  | _ => none
def sortedSetD (d : PyData) : Option (List PyData) := (setOfD d).bind fun ns => if ns.length < 64 then some (ns.map .int) else none
def lenSetD (d : PyData) : Option PyData := (setOfD d).map fun ns => .int (ns.length : Nat)
section
variable {X : Cx} {W : WX} {a : Expr} {ma : MX PyData} {p p2 q pos : Pos}
theorem set_any {pins : List (Addr × Obj)} {σ : St} {H : Hp} {s : Shared} {v : V} {u : Value} {O : Addr → Prop} {d : PyData} {ns : List Int} {A : Around} {E : Value → Shared → Prop} {Q : Value → Shared → Prop} (I : Inv X pins σ H s) (hh : A.handled = none) (rv : RelV v u) (qd : Bq X.K H O v d) (e : setOfD d = some ns)
    (h : ∀ (h' : Heap) (tk : Nat) (S : Int → Bool), SetR X.w h' s.heap.objs.size S ns.length → (∀ k, S k = true ↔ k ∈ ns) → (∀ b o, s.heap.get? b = some o → h'.get? b = some o) → Q (.ref s.heap.objs.size) { s with heap := h', toks := tk }) :
    wpAny (model X.prog X.w) A (call (.type "set") [u]) Q E s := by
  have fin : ∀ {ms : List Int}, sortU ms = ns → ∀ (h' : Heap) (tk c : Nat), SetR X.w h' s.heap.objs.size (fun j => decide (j ∈ ms)) c → c ≤ ms.length → (∀ b o, s.heap.get? b = some o → h'.get? b = some o) → Q (.ref s.heap.objs.size) { s with heap := h', toks := tk } := fun {ms} ems h' tk c R hc k => by
    have hlen : c = ns.length := by
      obtain ⟨o, es, ep, t, ho, hex, hd, g, nd, hm, hb, hf, hn, hr, hl⟩ := R
      rw [← ems, ← hn]
      have z := sortU_card nd (l := ms) fun k => by rw [← hm k]; simp
      simpa using z
    subst hlen
    exact h h' tk _ R (fun k => by rw [← ems]; simp [sortU_mem]) k
  unfold setOfD at e
  cases d with
  | list ds =>
    obtain ⟨ms, em, e2⟩ := Option.bind_eq_some_iff.mp e
    split at e2
    · rename_i hlt
      have ems : sortU ms = ns := Option.some.inj e2
      obtain rfl := intsD_some em
      obtain ⟨l, vs, rfl, r, qa⟩ := qd.rd
      obtain rfl := ints_vs qa
      obtain ⟨its, rv', pl, hz⟩ := I.list (.inl r)
      obtain rfl : u = Value.ref l := rv
      exact call_set_listI ms hh pl.isList (by simpa using rv'.ints) (by unfold scanBound; omega) (fin ems)
    · cases e2
  | tuple ds =>
    obtain ⟨ms, em, e2⟩ := Option.bind_eq_some_iff.mp e
    split at e2
    · rename_i hlt
      have ems : sortU ms = ns := Option.some.inj e2
      obtain rfl := intsD_some em
      have qd' := qd.dq fun _ z => by cases z
      cases qd' with
      | @tup l vs _ r qa =>
        obtain rfl := ints_vs qa
        obtain ⟨its, rv', pl, hz⟩ := I.tuple r
        obtain rfl : u = Value.ref l := rv
        exact call_set_tupI ms hh pl (by simpa using rv'.ints) (by unfold scanBound; omega) (fin ems)
    · cases e2
  | _ => cases e
theorem df_sortedSet (hc : X.calm = true) (hg : Gl X "sorted") (hm : X.mg "sorted" = none) (hg2 : Gl X "set") (hm2 : X.mg "set" = none) (ha : DB X W a ma)
    (na : starEach [a] X.env = (false, eval a X.env) :: starEach [] X.env := by rfl) : DF X W (.Call (.Name "sorted" p) [.Call (.Name "set" p2) [a] [] q] [] pos) (mUnL sortedSetD ma) := by
  refine ⟨fun pins s σ H Q I h => ?_⟩
  refine Call_ (ld_blt I hg hm (by first | exact PyProof.Rows.boot_sorted | exact boot_sorted | rfl) ?_)
  refine PyProof.Rows.callWith_builtin1 (PyProof.Rows.args_cons ?_ rfl) rfl rfl
  refine Call_ (ld_blt I hg2 hm2 (by first | exact PyProof.Rows.boot_set | exact boot_set | rfl) ?_)
  obtain ⟨η, T, r0, n0⟩ := h
  refine PyProof.Rows.callWith_type1 (PyProof.Rows.args_cons (thn (ha.run pins s σ H (fun v H1 => ∃ O d ns, Lists H1 O ∧ Bq X.K H1 O v d ∧ setOfD d = some ns ∧ ns.length < 64 ∧ ∀ a' vs, H1 a' = none → DqAll X.K H1 O vs (ns.map .int) → Q (.ref a') (upd H1 a' (.lst vs))) I ⟨η, T, r0, n0.bind fun x η1 e1 n1 v H1 s1 r1 q1 => ?_⟩) fun u s1 ⟨v, H1, I1, r1, O, d, ns, hl, qd, e, h64, kk⟩ => PyProof.Rows.args_nil ?_) na) na rfl
  · obtain ⟨zs, ez, pz⟩ := n1.lift
    unfold sortedSetD at ez
    obtain ⟨ns, ens, ez⟩ := Option.bind_eq_some_iff.mp ez
    split at ez
    · rename_i h64
      cases ez
      exact ⟨_, x, ns, r1.lists, q1, ens, h64, fun a' vs na q => pz.meet s1 r1 na q⟩
    · cases ez
  · refine set_any I1 (I1.ok.hd hc) r1 qd e fun h' tk S R hS k => PyProof.Rows.args_nil ?_
    refine sorted_set R (I1.ok.hd hc) h64 fun s' p out c ns' k2 g o hp hg hi hs hm hl => ?_
    have en : ns' = ns := by
      have hn : ns = sortU ns := sortU_eq (by
        unfold setOfD at e
        cases d with
        | list ds =>
          obtain ⟨ms, em, e2⟩ := Option.bind_eq_some_iff.mp e
          split at e2
          · cases e2; exact sortU_lt
          · cases e2
        | tuple ds =>
          obtain ⟨ms, em, e2⟩ := Option.bind_eq_some_iff.mp e
          split at e2
          · cases e2; exact sortU_lt
          · cases e2
        | _ => cases e) fun k => Iff.rfl
      rw [hn]
      exact sortU_eq hs fun k => (hm k).trans (hS k)
    subst en
    have I2 : Inv X pins σ H1 { s1 with heap := h', toks := tk } := I1.kept k
    have hlen : (ns'.map V.int).length ≤ sizeLine := by rw [List.length_map, sizeLine_eq]; omega
    have hn : H1 p = none := I2.hok.fresh hp
    have J : Inv X pins σ (upd H1 p (.lst (ns'.map V.int))) { s1 with heap := s'.heap, gens := s'.gens, drawn := s'.drawn, toks := s'.toks } :=
      Inv.call (s := { s1 with heap := h', toks := tk }) I2 (ch := []) (Un.laid k2 hp hn) (I2.hok.laid k2 hp ⟨hlen, out.toList, c, vals_of_ints hi, hg⟩) (by rw [g]; exact I1.bare) (fun _ z => nomatch z)
    have e : s' = { s1 with heap := s'.heap, gens := s'.gens, drawn := s'.drawn, toks := s'.toks } := by
      cases s'
      cases s1
      cases o
      rfl
    rw [e]
    exact ⟨.ref p, _, J, rfl, kk p _ hn (ints_dq ns')⟩
theorem de_lenSet (hc : X.calm = true) (hg : Gl X "len") (hm : X.mg "len" = none) (hg2 : Gl X "set") (hm2 : X.mg "set" = none) (ha : DB X W a ma)
    (na : starEach [a] X.env = (false, eval a X.env) :: starEach [] X.env := by rfl) : DE X W (.Call (.Name "len" p) [.Call (.Name "set" p2) [a] [] q] [] pos) (mUn lenSetD ma) := by
  refine ⟨fun pins s σ H Q I h => ?_⟩
  refine Call_ (ld_blt I hg hm (by first | exact PySem.boot_len | exact boot_len) ?_)
  refine PyProof.Rows.callWith_builtin1 (PyProof.Rows.args_cons ?_ rfl) rfl rfl
  refine Call_ (ld_blt I hg2 hm2 (by first | exact PyProof.Rows.boot_set | exact boot_set | rfl) ?_)
  obtain ⟨η, T, r0, n0⟩ := h
  refine PyProof.Rows.callWith_type1 (PyProof.Rows.args_cons (thn (ha.run pins s σ H (fun v H1 => ∃ O d ns, Lists H1 O ∧ Bq X.K H1 O v d ∧ setOfD d = some ns ∧ Q (.int (ns.length : Nat)) H1) I ⟨η, T, r0, n0.bind fun x η1 e1 n1 v H1 s1 r1 q1 => ?_⟩) fun u s1 ⟨v, H1, I1, r1, O, d, ns, hl, qd, e, kk⟩ => PyProof.Rows.args_nil ?_) na) na rfl
  · obtain ⟨zs, ez, pz⟩ := n1.lift
    unfold lenSetD at ez
    obtain ⟨ns, ens, rfl⟩ := Option.map_eq_some_iff.mp ez
    exact ⟨_, x, ns, r1.lists, q1, ens, pz.meet s1 r1 _ _ More.refl (.int _)⟩
  · refine set_any I1 (I1.ok.hd hc) r1 qd e fun h' tk S R hS k => PyProof.Rows.args_nil ?_
    obtain ⟨o, es, ep, t, ho, hex, hd, g, nd, hm', hb, hf, hn, hr, hl'⟩ := R
    have I2 : Inv X pins σ H1 { s1 with heap := h', toks := tk } := I1.kept k
    refine call_len_set ho hex hd hf (by have z := hb; unfold scanBound at z; omega) ⟨.int ns.length, H1, I2.tok _, ⟨_, by rw [hn]⟩, kk⟩
end
end L2.DL
end
section
set_option Elab.async false
set_option linter.all false
set_option maxRecDepth 100000
/-! sorted(t) of a tuple -/
namespace PyProof.Rows
open PySem
section
variable {prog : Program} {w : World} {A : Around} {E : Value → Shared → Prop} {s : Shared}
theorem collect_tup {l : Addr} {vs : List Value} {Q : List Value → Shared → Prop} (hl : s.heap.IsTuple l vs.toArray)
    (h : Q vs { s with heap := (s.heap.push (seqObj "list" #[] 0)).update s.heap.objs.size (Obj.mapSeq (· ++ vs.toArray)) }) (hsz : vs.length ≤ sizeLine := by size_fits) :
    wpAny (model prog w) A (collect (.ref l)) Q E s := by
  obtain ⟨o, ho, hc, n, hd⟩ := id hl
  unfold collect
  refine wpAny_bind (wpAny_runValue (codeAny_builtin entry_proto_collect' ?_))
  show wpAny _ _ (do again (.builtin "list.__iadd__" ⟨[← newList [], .ref l], []⟩)) _ _ s
  refine wpAny_bind (wpAny_newList (wpAny_pure ⟨Code.quiet_builtin _ (by decide +kernel), codeAny_builtin entry_list_iadd' ?_⟩))
  show wpAny _ _ (Builtin.List.listExtendWith (.ref s.heap.objs.size) (.ref l) (.ref s.heap.objs.size)) _ _ { s with heap := s.heap.push (seqObj "list" #[] 0) }
  unfold Builtin.List.listExtendWith
  have ho' : (s.heap.push (seqObj "list" #[] 0)).get? l = some o := Heap.get?_push_of_some _ ho
  refine wpAny_bind (wpAny_typeOf (T := "tuple") ⟨o, ho', hc⟩ ?_)
  have ht : (Value.type "tuple" == Value.type "tuple") = true := by rfl
  rw [if_pos (by rw [ht]; simp)]
  refine wpAny_bind (listItems_at ho' hd ?_)
  refine wpAny_bind (listItems_at (xs := #[]) (n := 0) (Heap.get?_push_size _ rfl) rfl ?_)
  rw [if_neg (by simp)]
  refine wpAny_bind (listUpdate_at (xs := #[]) (n := 0) (Heap.get?_push_size _ rfl) rfl ?_ (Nat.zero_le _) (by show (#[] ++ vs.toArray).size ≤ sizeLine + 1; simp only [Array.size_append, List.size_toArray, List.length_nil]; omega))
  refine wpAny_pure ?_
  show wpAny (model prog w) A (do
      let o ← load s.heap.objs.size
      match o.data with
      | .seq xs _ => pure xs.toList
      | _ => unsupported "internal:collect") Q E { s with heap := (s.heap.push (seqObj "list" #[] 0)).update s.heap.objs.size (Obj.mapSeq (· ++ vs.toArray)) }
  refine wpAny_bind (wpAny_load (get?_update_seq (Heap.get?_push_size _ rfl) _) ?_)
  show wpAny _ _ (pure ((#[] : Array Value) ++ vs.toArray).toList) Q E _
  rw [show ((#[] : Array Value) ++ vs.toArray).toList = vs by simp]
  exact wpAny_pure h

end
end PyProof.Rows
namespace SrtO
open PySem PyProof.Rows Srt
section
variable {prog : Program} {w : World} {A : Around} {E : Value → Shared → Prop} {s : Shared}
theorem sorted_ordT {l : Addr} {vs : List Value} {ltv : Value → Value → Bool} {Q : Value → Shared → Prop} (O : Swo ltv) (hl : s.heap.IsTuple l vs.toArray) (hz : vs.length ≤ sizeLine)
    (hS : 2 ≤ vs.length → ∀ (h₁ : Heap) (a : Addr), h₁.get? a = some (seqObj "list" vs.toArray 0) → (∀ b o, s.heap.get? b = some o → b ≠ a ∧ h₁.get? b = some o) → SortableO prog w A.in1.in1 { s with heap := h₁ } a vs ltv)
    (h : ∀ out : List Value, Srtd ltv out → Stb ltv out vs → Q (.ref (s.heap.objs.size + 1)) { s with heap := sortedAll s.heap vs out.toArray }) :
    wpAny (model prog w) A (call (.builtin "sorted") [.ref l]) Q E s := by
  refine Calls.call_function_entry kind_sorted plain_sorted entry_sorted (args_sorted1 _) ?_
  unfold Builtin.«sorted»
  refine wpAny_bind (m := checkCount "sorted" 1 1 _) (wpAny_pure ?_)
  refine wpAny_bind (collect_tup hl ?_ hz)
  refine wpAny_bind (wpAny_newList ?_ hz)
  have hsz : ((s.heap.push (seqObj "list" #[] 0)).update s.heap.objs.size (Obj.mapSeq (· ++ vs.toArray))).objs.size = s.heap.objs.size + 1 := by
    rw [Heap.size_update, size_push']
  have hoL : (((s.heap.push (seqObj "list" #[] 0)).update s.heap.objs.size (Obj.mapSeq (· ++ vs.toArray))).push (seqObj "list" vs.toArray 0)).get? (s.heap.objs.size + 1) = some (seqObj "list" vs.toArray 0) := by
    rw [← hsz]; exact Heap.get?_push_size _ rfl
  have keep : ∀ b o, s.heap.get? b = some o → b ≠ s.heap.objs.size + 1 ∧ (((s.heap.push (seqObj "list" #[] 0)).update s.heap.objs.size (Obj.mapSeq (· ++ vs.toArray))).push (seqObj "list" vs.toArray 0)).get? b = some o := fun b o q => by
    have hlt : b < s.heap.objs.size := Heap.lt_size q
    refine ⟨Nat.ne_of_lt (Nat.lt_succ_of_lt hlt), Heap.get?_push_of_some _ ?_⟩
    rw [Heap.get?_update_ne _ _ _ _ (Nat.ne_of_lt hlt)]
    exact Heap.get?_push_of_some _ q
  show wpAny _ _ _ _ _ { s with heap := ((s.heap.push (seqObj "list" #[] 0)).update s.heap.objs.size (Obj.mapSeq (· ++ vs.toArray))).push (seqObj "list" vs.toArray 0) }
  rw [hsz]
  refine wpAny_bind (wpAny_holding (wpAny_call_entry slot_list_sort ⟨_, hoL, rfl⟩ entry_list_sort (list_sort_ord O hoL hz (fun h2 => hS h2 _ _ hoL keep) fun out hs hb => ⟨_, rfl, ?_⟩) (args_list_sort _)))
  exact wpAny_pure ⟨_, rfl, h out hs hb⟩

end
end SrtO
namespace L2.DL
open PySem PySem.Spec PyProof.Rows
set_option autoImplicit false

/-! ### built-ins by data -/
section
variable {K : Fg}
def lenD : PyData → Option PyData
  | .list ds => some (.int (ds.length : Nat))
  | .tuple ds => some (.int (ds.length : Nat))
  | .str z => if z.length ≤ sizeLine then some (.int (z.length : Nat)) else none
  | _ => none
theorem lenD_ok : CaB K (fun xs H Q => ∃ x n, xs = [x] ∧ LenV K x H n ∧ Q (.int n) H) lenD := by
  intro x d z H O Q l q e k
  cases d with
  | list ds =>
    obtain ⟨a, vs, rfl, r, qa⟩ := q.rd
    cases e
    exact ⟨_, ds.length, rfl, .inl ⟨vs, .inl r, qa.length.symm⟩, k _ _ More.refl (.int _)⟩
  | tuple ds =>
    have q2 := q.dq fun _ z => by cases z
    cases e
    cases q2 with
    | @tup a vs _ r qa => exact ⟨_, ds.length, rfl, .inr ⟨vs, r, qa.length.symm⟩, k _ _ More.refl (.int _)⟩
  | str y =>
    have q2 := q.dq fun _ z => by cases z
    simp only [lenD] at e
    split at e
    · rename_i hl
      cases e
      cases q2
      exact ⟨_, y.length, rfl, ⟨hl, rfl⟩, k _ _ More.refl (.int _)⟩
    · cases e
  | _ => cases e
def intD : PyData → Option PyData
  | .int i => some (.int i)
  | .bool b => some (.int (if b then 1 else 0))
  | _ => none
theorem intD_ok : CaB K (fun xs H Q => (∃ i, xs = [.int i] ∧ Q (.int i) H) ∨ ∃ k, xs = [.bl k] ∧ Q (.int (if k then 1 else 0)) H) intD := by
  intro x d z H O Q l q e k
  cases d with
  | int i =>
    have q2 := q.dq fun _ z => by cases z
    cases e
    cases q2
    exact .inl ⟨i, rfl, k _ _ More.refl (.int _)⟩
  | bool b =>
    have q2 := q.dq fun _ z => by cases z
    cases e
    cases q2
    exact .inr ⟨b, rfl, k _ _ More.refl (.int _)⟩
  | _ => cases e
def absD : PyData → Option PyData
  | .int i => some (.int (if i < 0 then -i else i))
  | _ => none
theorem absD_ok : CaB K (fun xs H Q => ∃ i, xs = [.int i] ∧ Q (.int (if i < 0 then -i else i)) H) absD := by
  intro x d z H O Q l q e k
  cases d with
  | int i =>
    have q2 := q.dq fun _ z => by cases z
    cases e
    cases q2
    exact ⟨i, rfl, k _ _ More.refl (.int _)⟩
  | _ => cases e
def max2D : List PyData → Option PyData
  | [.int i, .int j] => some (.int (if j > i then j else i))
  | _ => none
def min2D : List PyData → Option PyData
  | [.int i, .int j] => some (.int (if j < i then j else i))
  | _ => none
theorem max2D_ok : CaG K (fun xs H Q => ∃ i j, xs = [.int i, .int j] ∧ Q (.int (if j > i then j else i)) H) max2D := by
  intro xs ds z H O Q l q e k
  cases q with
  | nil => cases e
  | cons q1 q =>
    cases q with
    | nil => cases q1 <;> cases e
    | cons q2 q =>
      cases q with
      | nil =>
        cases q1 <;> cases q2 <;> simp only [max2D] at e <;> first | (cases e; done) | skip
        cases e
        exact ⟨_, _, rfl, k _ _ More.refl (.int _)⟩
      | cons q3 q => cases q1 <;> cases q2 <;> cases e
theorem min2D_ok : CaG K (fun xs H Q => ∃ i j, xs = [.int i, .int j] ∧ Q (.int (if j < i then j else i)) H) min2D := by
  intro xs ds z H O Q l q e k
  cases q with
  | nil => cases e
  | cons q1 q =>
    cases q with
    | nil => cases q1 <;> cases e
    | cons q2 q =>
      cases q with
      | nil =>
        cases q1 <;> cases q2 <;> simp only [min2D] at e <;> first | (cases e; done) | skip
        cases e
        exact ⟨_, _, rfl, k _ _ More.refl (.int _)⟩
      | cons q3 q => cases q1 <;> cases q2 <;> cases e
def maxI : List Int → Int
  | [] => 0
  | [x] => x
  | x :: y :: r => max x (maxI (y :: r))
def minI : List Int → Int
  | [] => 0
  | [x] => x
  | x :: y :: r => min x (minI (y :: r))
theorem maxI_spec : ∀ {l : List Int}, l ≠ [] → maxI l ∈ l ∧ ∀ y ∈ l, y ≤ maxI l
  | [], h => absurd rfl h
  | [x], _ => by simp [maxI]
  | x :: y :: r, _ => by
    obtain ⟨a, b⟩ := maxI_spec (l := y :: r) (by simp)
    show max x (maxI (y :: r)) ∈ _ ∧ ∀ z ∈ _, z ≤ max x (maxI (y :: r))
    refine ⟨?_, fun z hz => ?_⟩
    · rcases Int.le_total x (maxI (y :: r)) with h | h
      · rw [Int.max_eq_right h]; exact List.mem_cons_of_mem _ a
      · rw [Int.max_eq_left h]; exact List.mem_cons_self
    · rcases List.mem_cons.mp hz with e | e
      · omega
      · have := b z e; omega
theorem minI_spec : ∀ {l : List Int}, l ≠ [] → minI l ∈ l ∧ ∀ y ∈ l, minI l ≤ y
  | [], h => absurd rfl h
  | [x], _ => by simp [minI]
  | x :: y :: r, _ => by
    obtain ⟨a, b⟩ := minI_spec (l := y :: r) (by simp)
    show min x (minI (y :: r)) ∈ _ ∧ ∀ z ∈ _, min x (minI (y :: r)) ≤ z
    refine ⟨?_, fun z hz => ?_⟩
    · rcases Int.le_total x (minI (y :: r)) with h | h
      · rw [Int.min_eq_left h]; exact List.mem_cons_self
      · rw [Int.min_eq_right h]; exact List.mem_cons_of_mem _ a
    · rcases List.mem_cons.mp hz with e | e
      · omega
      · have := b z e; omega
def intsLD (f : List Int → Option PyData) : PyData → Option PyData
  | .list ds => (intsD ds).bind f
  | _ => none
abbrev maxLD := intsLD fun ns => if ns ≠ [] then some (.int (maxI ns)) else none
abbrev minLD := intsLD fun ns => if ns ≠ [] then some (.int (minI ns)) else none
abbrev sumLD := intsLD fun ns => some (.int ns.sum)
theorem intsLD_ok {r : List V → Hp → VK → Prop} {f : List Int → Option PyData} (h : ∀ (a : Addr) (ns : List Int) (z : PyData) (H : Hp) (Q : VK), SqL K H a (ns.map V.int) → f ns = some z → (∀ v, (∀ O, Dq K H O v z) → Q v H) → r [.ref a] H Q) : CaB K r (intsLD f) := by
  intro x d z H O Q l q e k
  cases d with
  | list ds =>
    obtain ⟨ns, en, e2⟩ := Option.bind_eq_some_iff.mp e
    obtain rfl := intsD_some en
    obtain ⟨a, vs, rfl, r, qa⟩ := q.rd
    obtain rfl := ints_vs qa
    exact h a ns z H Q (.inl r) e2 fun v q => k _ _ More.refl (q O)
  | _ => cases e
theorem maxLD_ok : CaB K (rMax K) maxLD := intsLD_ok fun a ns z H Q s e k => by
  split at e
  · rename_i hn
    cases e
    obtain ⟨b, c⟩ := maxI_spec hn
    refine ⟨a, ns, rfl, s, List.length_pos_iff.mpr hn, fun m hm hM => ?_⟩
    have : m = maxI ns := by have := hM _ b; have := c m hm; omega
    subst this
    exact k _ fun O => .int _
  · cases e
theorem minLD_ok : CaB K (rMin K) minLD := intsLD_ok fun a ns z H Q s e k => by
  split at e
  · rename_i hn
    cases e
    obtain ⟨b, c⟩ := minI_spec hn
    refine ⟨a, ns, rfl, s, List.length_pos_iff.mpr hn, fun m hm hM => ?_⟩
    have : m = minI ns := by have := hM _ b; have := c m hm; omega
    subst this
    exact k _ fun O => .int _
  · cases e
theorem sumLD_ok : CaB K (rSum K) sumLD := intsLD_ok fun a ns z H Q s e k => by
  cases e
  exact ⟨a, ns, rfl, s, k _ fun O => .int _⟩
def boolsD : List PyData → Option (List Bool)
  | [] => some []
  | .bool i :: r => (boolsD r).map (i :: ·)
  | _ :: _ => none
theorem boolsD_some : ∀ {ds : List PyData} {ns : List Bool}, boolsD ds = some ns → ds = ns.map PyData.bool
  | [], _, h => by cases h; rfl
  | .bool i :: r, ns, h => by
    simp only [boolsD] at h
    obtain ⟨m, e, rfl⟩ := Option.map_eq_some_iff.mp h
    rw [boolsD_some e]; rfl
  | .none :: _, _, h => by cases h
  | .int _ :: _, _, h => by cases h
  | .str _ :: _, _, h => by cases h
  | .list _ :: _, _, h => by cases h
  | .tuple _ :: _, _, h => by cases h
  | .dict _ :: _, _, h => by cases h
theorem boolsD_map : ∀ ns : List Bool, boolsD (ns.map PyData.bool) = some ns
  | [] => rfl
  | n :: ns => by show (boolsD (ns.map PyData.bool)).map (n :: ·) = _; rw [boolsD_map ns]; rfl
theorem bools_vs {H : Hp} {O : Addr → Prop} : ∀ {ns : List Bool} {vs : List V}, DqAll K H O vs (ns.map PyData.bool) → vs = ns.map V.bl
  | [], _, .nil => rfl
  | n :: ns, _, .cons q qs => by
    cases q
    rw [bools_vs qs]; rfl
def boolsLD (f : List Bool → Bool) : PyData → Option PyData
  | .list ds => (boolsD ds).map fun bs => .bool (f bs)
  | _ => none
abbrev allD := boolsLD fun bs => bs.all id
abbrev anyD := boolsLD fun bs => bs.any id
theorem allD_ok : CaB K (rAll K) allD := by
  intro x d z H O Q l q e k
  cases d with
  | list ds =>
    obtain ⟨ns, en, rfl⟩ := Option.map_eq_some_iff.mp e
    obtain rfl := boolsD_some en
    obtain ⟨a, vs, rfl, r, qa⟩ := q.rd
    obtain rfl := bools_vs qa
    exact ⟨a, ns, rfl, .inl r, k _ _ More.refl (.bl _)⟩
  | _ => cases e
theorem anyD_ok : CaB K (rAny K) anyD := by
  intro x d z H O Q l q e k
  cases d with
  | list ds =>
    obtain ⟨ns, en, rfl⟩ := Option.map_eq_some_iff.mp e
    obtain rfl := boolsD_some en
    obtain ⟨a, vs, rfl, r, qa⟩ := q.rd
    obtain rfl := bools_vs qa
    exact ⟨a, ns, rfl, .inl r, k _ _ More.refl (.bl _)⟩
  | _ => cases e
def tupD : PyData → Option PyData
  | .list ds => some (.tuple ds)
  | .tuple ds => some (.tuple ds)
  | _ => none
theorem tupD_ok : CaB K (fun xs H Q => ∃ p ys, xs = [.ref p] ∧ ((SqL K H p ys ∧ ∀ l, H l = none → Q (.ref l) (upd H l (.tup ys))) ∨ (SqT K H p ys ∧ Q (.ref p) H))) tupD := by
  intro x d z H O Q l q e k
  cases d with
  | list ds =>
    obtain ⟨a, vs, rfl, r, qa⟩ := q.rd
    cases e
    exact ⟨a, vs, rfl, .inl ⟨.inl r, fun p hp => k _ _ (More.upd hp) (.tup (.inl (.inl upd_same)) (qa.more l (More.upd hp)))⟩⟩
  | tuple ds =>
    have q2 := q.dq fun _ z => by cases z
    cases e
    cases q2 with
    | @tup a vs _ r qa => exact ⟨a, vs, rfl, .inr ⟨r, k _ _ More.refl (.tup r qa)⟩⟩
  | _ => cases e
def lstD : PyData → Option (List PyData)
  | .list ds => some ds
  | .tuple ds => some ds
  | _ => none
theorem lstD_ok : CaBL K (fun xs H Q => ∃ p ys, xs = [.ref p] ∧ (SqL K H p ys ∨ SqT K H p ys) ∧ ∀ l, H l = none → Q (.ref l) (upd H l (.lst ys))) lstD := by
  intro x d z H O Q l q e k
  cases d with
  | list ds =>
    obtain ⟨a, vs, rfl, r, qa⟩ := q.rd
    cases e
    exact ⟨a, vs, rfl, .inl (.inl r), fun p hp => k _ _ hp qa⟩
  | tuple ds =>
    have q2 := q.dq fun _ z => by cases z
    cases e
    cases q2 with
    | @tup a vs _ r qa => exact ⟨a, vs, rfl, .inr r, fun p hp => k _ _ hp qa⟩
  | _ => cases e
/-- sorted(xs), ints -/
def sortI (ns : List Int) : List Int := ns.mergeSort fun a b => decide (a ≤ b)
theorem sortI_perm (ns : List Int) : (sortI ns).Perm ns := List.mergeSort_perm ns _
theorem sortI_le (ns : List Int) : (sortI ns).Pairwise (· ≤ ·) := by
  have h := List.pairwise_mergeSort (le := fun a b : Int => decide (a ≤ b)) (fun a b c h1 h2 => by simp only [decide_eq_true_eq] at *; omega) (fun a b => by simp only [Bool.or_eq_true, decide_eq_true_eq]; omega) ns
  exact h.imp fun h => by simpa using h
theorem sortI_eq {ns ms : List Int} (h : ms.Perm ns) (h2 : ms.Pairwise (· ≤ ·)) : ms = sortI ns :=
  List.Perm.eq_of_pairwise (le := (· ≤ ·)) (fun a b _ _ h1 h2 => by omega) h2 (sortI_le ns) (h.trans (sortI_perm ns).symm)
def sortedD : PyData → Option (List PyData)
  | .list ds => (intsD ds).map fun ns => (sortI ns).map .int
  | .tuple ds => (intsD ds).map fun ns => (sortI ns).map .int
  | _ => none
def rSortedA (K : Fg) : List V → Hp → VK → Prop := fun vs H Q => ∃ (a : Addr) (ns : List Int), vs = [V.ref a] ∧ (SqL K H a (ns.map V.int) ∨ SqT K H a (ns.map V.int)) ∧
  ∀ (ns' : List Int) (p : Addr), ns'.Perm ns → ns'.Pairwise (· ≤ ·) → H p = none → Q (.ref p) (upd H p (.lst (ns'.map V.int)))
theorem cr_sortedA {X : Cx} : CallR X (.builtin "sorted") (rSortedA X.K) := by
  intro pins s σ H vs us Q I r h
  obtain ⟨a, ns, rfl, hs, q⟩ := h
  rcases hs with hs | hs
  · exact cr_sortedI pins s σ H [.ref a] us Q I r ⟨a, ns, rfl, hs, q⟩
  · obtain ⟨its, rv, hl, hz⟩ := I.tuple hs
    rw [Vals.ref1 r]
    have hi := rv.ints
    refine SrtO.sorted_ordT SrtO.swo_int hl (by rw [← rv.length]; exact hz) (fun h2 h₁ a' _ _ => SrtO.ints_sortable hi h2) fun out h1 h2 => ?_
    obtain ⟨k1, k2, k3⟩ := SrtO.ints_out hi h1 h2
    obtain ⟨ep, he'⟩ := PyProof.Rows.sortedAll_at s.heap its out.toArray
    have hlen : ((out.map SrtO.iv).map V.int).length ≤ sizeLine := by
      rw [List.length_map, k2.length_eq]
      rw [List.length_map] at hz
      exact hz
    exact ⟨.ref _, upd H (s.heap.objs.size + 1) (.lst ((out.map SrtO.iv).map V.int)), I.laid (t' := s.toks) (fun _ _ => PyProof.Rows.sortedAll_old) (Nat.le_succ _) ⟨hlen, out, ep, vals_of_ints k1, he'⟩, rfl, q _ _ k2 k3 (I.hok.fresh (Nat.le_succ _))⟩
theorem sortedD_ok : CaBL K (rSortedA K) sortedD := by
  intro x d z H O Q l q e k
  cases d with
  | list ds =>
    obtain ⟨ns, en, rfl⟩ := Option.map_eq_some_iff.mp e
    obtain rfl := intsD_some en
    obtain ⟨a, vs, rfl, r, qa⟩ := q.rd
    obtain rfl := ints_vs qa
    refine ⟨a, ns, rfl, .inl (.inl r), fun ns' p h1 h2 hp => ?_⟩
    obtain rfl := sortI_eq h1 h2
    exact k p _ hp (ints_dq _)
  | tuple ds =>
    obtain ⟨ns, en, rfl⟩ := Option.map_eq_some_iff.mp e
    obtain rfl := intsD_some en
    have q2 := q.dq fun _ z => by cases z
    cases q2 with
    | @tup a vs _ r qa =>
      obtain rfl := ints_vs qa
      refine ⟨a, ns, rfl, .inr r, fun ns' p h1 h2 hp => ?_⟩
      obtain rfl := sortI_eq h1 h2
      exact k p _ hp (ints_dq _)
  | _ => cases e
end

/-! ### isinstance of a built-in type -/
def tyN : PyData → String
  | .none => "NoneType"
  | .bool _ => "bool"
  | .int _ => "int"
  | .str _ => "str"
  | .list _ => "list"
  | .tuple _ => "tuple"
  | .dict _ => "dict"
/-- of a type among int, bool, str, list, tuple, dict -/
def isiB (T : String) (d : PyData) : Bool := tyN d == T || (T == "int" && tyN d == "bool")
theorem kitB_all : ∀ T ∈ ["int", "bool", "str", "list", "tuple", "dict"], ∀ t ∈ ["NoneType", "bool", "int", "str", "list", "tuple"], kitB t T = some (t == T || (T == "int" && t == "bool")) := by decide +kernel
section
variable {X : Cx} {W : WX} {a b : Expr} {ma mb : MX PyData} {pos p p2 : Pos} {x : Str} {T : String}
def isiD (T : String) (d : PyData) : Option PyData := match d with
  | .dict _ => none
  | _ => some (.bool (isiB T d))
theorem tyX_of {K : Fg} {H : Hp} {O : Addr → Prop} {v : V} {d : PyData} (q : Bq K H O v d) (nd : ∀ kvs, d ≠ .dict kvs) : TyX K H v (.type (tyN d)) := by
  cases d with
  | none => have q2 := q.dq (fun _ z => by cases z); cases q2; exact .base .non
  | bool b => have q2 := q.dq (fun _ z => by cases z); cases q2; exact .base (.bl _)
  | int b => have q2 := q.dq (fun _ z => by cases z); cases q2; exact .base (.int _)
  | str b => have q2 := q.dq (fun _ z => by cases z); cases q2; exact .base (.str _)
  | list ds =>
    obtain ⟨a, vs, rfl, r, qa⟩ := q.rd
    rcases r with r | ⟨o, r⟩
    · exact .base (.lst r)
    · exact .base (.frz r)
  | tuple ds =>
    have q2 := q.dq (fun _ z => by cases z)
    cases q2 with
    | @tup a vs _ r qa =>
      rcases r with (r | ⟨o, r⟩) | r
      · exact .base (.tup r)
      · exact .fTuple r
      · obtain ⟨o, _, _, e, c, _⟩ := r
        exact .kTuple e c
  | dict kvs => exact absurd rfl (nd kvs)
end
end L2.DL
end
section
set_option Elab.async false
set_option linter.all false
set_option maxRecDepth 100000
namespace L2.DL
open PySem PySem.Spec PyProof.Rows
set_option autoImplicit false

theorem tyN_mem {d : PyData} (nd : ∀ kvs, d ≠ .dict kvs) : tyN d ∈ ["NoneType", "bool", "int", "str", "list", "tuple"] := by
  cases d with
  | dict k => exact absurd rfl (nd k)
  | _ => simp [tyN]
section
variable {X : Cx} {W : WX} {a b e : Expr} {ma mb me mi : MX PyData} {ml : MX (List PyData)} {pos p p2 : Pos} {x : Str} {T id : String} {es : List Expr} {i : Nat}
/-- isinstance(a, T) -/
theorem de_isi (hm : X.mg "isinstance" = none) (hm2 : X.mg x = none) (hv2 : bootBuiltins x = some (.type T)) (hT : T ∈ ["int", "bool", "str", "list", "tuple", "dict"]) (ha : DB X W a ma) (gl : Gl X "isinstance" := by rfl) (gl2 : Gl X x := by rfl) (hn2 : x ≠ "__name__" := by decide) (hd2 : (x == ("__debug__" : Str)) = false := by decide)
    (hv : bootBuiltins "isinstance" = some (.builtin "isinstance") := by rfl) (hs2 : starEach [.Name x p2] X.env = (false, eval (.Name x p2) X.env) :: starEach [] X.env := by rfl)
    (hs : starEach [a, .Name x p2] X.env = (false, eval a X.env) :: starEach [.Name x p2] X.env := by rfl) (hpl : (backTo pos (starEach [.Name x p2] X.env)).any (·.1) = false := by rfl) : DE X W (.Call (.Name "isinstance" p) [a, .Name x p2] [] pos) (mUn (isiD T) ma) := by
  have hx : PE X (.Name x p2) (tC (.ty T)) := pe_bltn gl2 hm2 hv2 rfl hn2 hd2
  refine PE.imp (pe_callB call_isi gl hm hv (pa_cons ha (pa_cons hx pa_nil hs2) hs) (by decide) (by decide) hs hpl) fun σ H Q ⟨η, T', r0, n0⟩ => ⟨η, T', r0, n0.bind fun x η1 e1 n1 v H1 s1 r1 q1 => ?_⟩
  obtain ⟨z, ez, pz⟩ := n1.lift
  have nd : ∀ kvs, x ≠ .dict kvs := fun kvs z => by rw [z] at ez; cases ez
  have hz : z = .bool (isiB T x) := by
    cases x <;> first | (cases ez; done) | (cases ez; rfl)
  subst hz
  have hk : kitB (tyN x) T = some (isiB T x) := kitB_all T hT (tyN x) (tyN_mem nd)
  exact ⟨v, .ty T, .type (tyN x), .type T, isiB T x, rfl, .ty T, tyX_of q1 nd, kit_ty hk, pz.meet s1 r1 _ _ More.refl (.bl _)⟩

/-! ### methods of own lists -/
def MeG (K : Fg) (r : V → List V → Hp → VK → Prop) (f : List PyData → List PyData → Option (PyData × List PyData)) : Prop :=
  ∀ (a : Addr) (vs us : List V) (xs ds : List PyData) (z : PyData) (ys : List PyData) (H : Hp) (O : Addr → Prop) (Q : VK), H a = some (.lst vs) → DqAll K H O vs xs → DqAll K H O us ds → f xs ds = some (z, ys) →
    (∀ v ws, DqAll K H O ws ys → Dq K H O v z → Q v (upd H a (.lst ws))) → r (.ref a) us H Q
def mMeth (f : List PyData → List PyData → Option (PyData × List PyData)) (i : Nat) (ml : MX (List PyData)) : MX PyData := fun η => match η[i]? with
  | some (some (.own _ _)) => mBind ml (fun ds η1 => match η1[i]? with
    | some (some (.own b xs)) => match f xs ds with
      | some (z, ys) => some (.ok z, η1.set i (some (.own b ys)))
      | none => none
    | _ => none) η
  | _ => none
/-- an own list's items are changed -/
theorem Rp.change {K : Fg} {mg : Str → Option Value} {σ : St} {H : Hp} {η : EnvD} {T : Addr → Prop} {b : Bool} {xs ys : List PyData} {a : Addr} {ws : List V} (r : Rp K mg σ H η T) (h : η[i]? = some (some (.own b xs))) (ha : σ[i]? = some (some (.ref a))) (q : DqAll K H (Avd σ η T) ws ys) :
    Rp K mg σ (upd H a (.lst ws)) (η.set i (some (.own b ys))) T ∧ StepS σ H η σ (upd H a (.lst ws)) (η.set i (some (.own b ys))) ∧ ∀ v d, Dq K H (Avd σ η T) v d → Dq K (upd H a (.lst ws)) (Avd σ (η.set i (some (.own b ys))) T) v d := by
  have oa : Avd σ η T a := .inr ⟨i, b, xs, h, ha⟩
  have kp : Kp (Avd σ η T) (Avd σ η T) H (upd H a (.lst ws)) := ⟨fun q o h n => by rw [upd_ne (fun z => n (by rw [z]; exact oa))]; exact h, r.avd, fun q z => .inl z⟩
  obtain ⟨A, B⟩ := r.turn h ha (H' := upd H a (.lst ws)) (fun q e => by
    by_cases z : q = a
    · subst z; rw [upd_same] at e; cases e
    · rw [upd_ne z] at e; exact e) (fun q o e z => by rw [upd_ne z]; exact e) upd_same (DqAll.keep kp ys ws q)
  exact ⟨A, B, fun v d qd => Dq.less (fun z w => w.imp id (own_same h).mp) d v (Dq.keep kp d v qd)⟩
theorem meth_gen {r : V → List V → Hp → VK → Prop} {f : List PyData → List PyData → Option (PyData × List PyData)} (hf : MeG X.K r f) (h : PE X e (fun σ H Q => ∃ v, σ[i]? = some (some v) ∧ tyV X.K "list" v H ∧ tAr X.K X.mg W ml σ H fun us H2 => r v us H2 Q)) : DE X W e (mMeth f i ml) := by
  refine PE.imp h fun σ H Q ⟨η, T, r0, n0⟩ => ?_
  unfold mMeth at n0
  split at n0
  · rename_i b0 x0 h0
    obtain ⟨a, w0, ea, el, _⟩ := r0.own i b0 x0 h0
    refine ⟨.ref a, ea, .inl ⟨rfl, _, .inl (.inl el)⟩, η, T, r0, n0.bind fun ds η1 e1 n1 us H1 s1 r1 q1 => ?_⟩
    obtain ⟨o, η', eo, pz⟩ := n1
    split at eo
    · rename_i b xs hx
      obtain ⟨a', ws, ea', e2, q2, na⟩ := r1.own i b xs hx
      rw [ea] at ea'; cases ea'
      split at eo
      · rename_i z ys hz
        cases eo
        refine hf a ws us xs ds z ys H1 (Avd σ η1 T) Q e2 q2 q1 hz fun v ws' qw qv => ?_
        obtain ⟨A, B, C⟩ := r1.change hx ea qw
        exact pz v _ (s1.trans B) A (C v z qv)
      · cases eo
    · cases eo
  · obtain ⟨_, _, z, _⟩ := n0; cases z
variable {name y : Str} {apos cpos py : Pos} {r : V → List V → Hp → VK → Prop} {f : List PyData → List PyData → Option (PyData × List PyData)}
/-- x.name(e, ..) -/
theorem de_meth (slot : PySem.Slot "list" name id) (hty : typeOf (.builtin id) = pure (.type "method_descriptor")) (hm : MtR X id r) (hf : MeG X.K r f) (hv : PE X (.Name y py) (tVar i)) (ha : DA X W (a :: es) ml)
    (hbase : attributeBase (.Name y py) name X.env (eval (.Name y py) X.env) = eval (.Name y py) X.env := by rfl)
    (hfew : ((backTo cpos (starEach (a :: es) X.env)).all (fun x => !x.1) && (backToKw cpos (keywordEach [] X.env)).all (fun x => x.1.isSome)
      && decide ((a :: es).length + ([] : List Keyword).length + (if ([] : List Keyword).isEmpty then 0 else 1) < 30)) = true := by rfl)
    (hline : (apos.endLine == cpos.line) = true := by rfl) (hs : starEach (a :: es) X.env = (false, eval a X.env) :: starEach es X.env := by rfl) (hplain : (backTo cpos (starEach es X.env)).any (·.1) = false := by rfl) :
    DE X W (.Call (.Attribute (.Name y py) name apos) (a :: es) [] cpos) (mMeth f i ml) :=
  meth_gen hf (pe_bm PySem.F.plainAttrs_list slot hty hm hv ha hbase hfew hline hs hplain)
theorem de_meth0 (slot : PySem.Slot "list" name id) (hty : typeOf (.builtin id) = pure (.type "method_descriptor")) (hm : MtR X id r) (hf : MeG X.K r f) (hv : PE X (.Name y py) (tVar i))
    (hbase : attributeBase (.Name y py) name X.env (eval (.Name y py) X.env) = eval (.Name y py) X.env := by rfl) (hline : (apos.endLine == cpos.line) = true := by rfl) :
    DE X W (.Call (.Attribute (.Name y py) name apos) [] [] cpos) (mMeth f i mNil) := by
  refine meth_gen hf (PE.imp (pe_bm0 PySem.F.plainAttrs_list slot hty hm hv hbase hline) fun σ H Q ⟨v, e1, t1, η, T, r0, n0⟩ => ⟨v, e1, t1, ?_⟩)
  obtain ⟨o, η', eo, pz⟩ := n0
  unfold mNil mPure at eo
  cases eo
  exact pz [] H StepS.refl r0 .nil
end
def appendD : List PyData → List PyData → Option (PyData × List PyData) := fun xs ds => match ds with
  | [d] => if xs.length < sizeLine then some (.none, xs ++ [d]) else none
  | _ => none
theorem appendD_ok {K : Fg} : MeG K rAppend appendD := by
  intro a vs us xs ds z ys H O Q ea qa qu e k
  cases qu with
  | nil => cases e
  | cons q1 q =>
    cases q with
    | nil =>
      simp only [appendD] at e
      split at e
      · rename_i hl
        cases e
        exact ⟨a, vs, _, rfl, rfl, ea, by rw [qa.length]; exact hl, k _ _ (qa.append (.cons q1 .nil)) .non⟩
      · cases e
    | cons q2 q => cases e
def popD : List PyData → List PyData → Option (PyData × List PyData) := fun xs ds => match ds with
  | [] => (xs[xs.length - 1]?).map fun z => (z, xs.dropLast)
  | [.int i] => if -(2 ^ 63) ≤ i ∧ i < 2 ^ 63 then (seqIndex? i xs.length).bind fun k => (xs[k]?).map fun z => (z, xs.eraseIdx k) else none
  | _ => none
theorem DqAll.dropLast {K : Fg} {H : Hp} {O : Addr → Prop} : ∀ {ds : List PyData} {vs : List V}, DqAll K H O vs ds → DqAll K H O vs.dropLast ds.dropLast
  | [], _, .nil => .nil
  | [d], _, .cons q .nil => .nil
  | d :: e :: r, _, .cons q (.cons q2 qs) => .cons q (DqAll.dropLast (.cons q2 qs))
theorem DqAll.eraseIdx {K : Fg} {H : Hp} {O : Addr → Prop} : ∀ {ds : List PyData} {vs : List V} (i : Nat), DqAll K H O vs ds → DqAll K H O (vs.eraseIdx i) (ds.eraseIdx i)
  | [], _, _, .nil => .nil
  | d :: r, _, 0, .cons q qs => qs
  | d :: r, _, i + 1, .cons q qs => .cons q (DqAll.eraseIdx i qs)
theorem popD_ok0 {K : Fg} : MeG K rPop (fun xs ds => match ds with | [] => (xs[xs.length - 1]?).map fun z => (z, xs.dropLast) | _ => none) := by
  intro a vs us xs ds z ys H O Q ea qa qu e k
  cases qu with
  | nil =>
    obtain ⟨w, ew, e2⟩ := Option.map_eq_some_iff.mp e
    cases e2
    obtain ⟨v, ev, qv⟩ := qa.get ew
    exact ⟨a, vs, v, rfl, rfl, ea, by rw [qa.length]; exact ev, k _ _ qa.dropLast qv⟩
  | cons q1 q => cases e
theorem popD_ok1 {K : Fg} : MeG K rPopAt (fun xs ds => match ds with
  | [.int i] => if -(2 ^ 63) ≤ i ∧ i < 2 ^ 63 then (seqIndex? i xs.length).bind fun k => (xs[k]?).map fun z => (z, xs.eraseIdx k) else none
  | _ => none) := by
  intro a vs us xs ds z ys H O Q ea qa qu e k
  cases qu with
  | nil => cases e
  | cons q1 q =>
    cases q with
    | nil =>
      cases q1 with
      | int i =>
        simp only at e
        split at e
        · rename_i hi
          obtain ⟨j, ej, e2⟩ := Option.bind_eq_some_iff.mp e
          obtain ⟨w, ew, e3⟩ := Option.map_eq_some_iff.mp e2
          cases e3
          obtain ⟨v, ev, qv⟩ := qa.get ew
          exact ⟨a, vs, i, j, v, rfl, rfl, ea, hi.1, hi.2, by rw [qa.length]; exact ej, ev, k _ _ (qa.eraseIdx j) qv⟩
        · cases e
      | _ => cases e
    | cons q2 q => cases q1 <;> cases e
/-! ### xs[i] = e -/
def mSetIx (i : Nat) (me mi : MX PyData) : MX Fl := mBind me fun d => fun η => match η[i]? with
  | some (some (.own _ _)) => mBind mi (fun j η1 => match η1[i]?, j with
    | some (some (.own b xs)), .int k => match ixN xs.length k with
      | some n => some (.ok .nx, η1.set i (some (.own b (xs.set n d))))
      | none => none
    | _, _ => none) η
  | _ => none
section
variable {X : Cx} {W : WX} {e ei : Expr} {me mi : MX PyData} {i : Nat} {y : Str} {py tpos pos : Pos}
theorem ds_setIx (hv : PE X (.Name y py) (tVar i)) (hi : DE X W ei mi) (he : DE X W e me) (hs : swapsWithSole [.Subscript (.Name y py) ei tpos] e pos.line X.env = pure false := by rfl) (hw : swappedStores [.Subscript (.Name y py) ei tpos] e X.env = pure none := by rfl)
    (h1 : (assignEach [.Subscript (.Name y py) ei tpos] X.env).map (·.2) = [assign (.Subscript (.Name y py) ei tpos) X.env] := by rfl)
    (ha : ∀ v, assign (.Subscript (.Name y py) ei tpos) X.env v = (do
      let ov ← holding [v] (eval (.Name y py) X.env)
      let iv ← holding [v, ov] (eval ei X.env)
      standAt tpos
      holding [v, ov, iv] (setItem ov iv v)
      release [v, ov, iv] []) := by intro _; rfl) : DS X W (.Assign [.Subscript (.Name y py) ei tpos] e pos) (mSetIx i me mi) := by
  refine PS.imp (ps_asg he (pg_sub hv hi set_list ha) hs hw h1) fun D σ H ⟨η, T, r0, n0⟩ => ⟨η, T, r0, n0.bind fun d η1 e1 n1 v H1 s1 r1 q1 => ?_⟩
  cases h0 : η1[i]? with
  | none => rw [h0] at n1; obtain ⟨_, _, z, _⟩ := n1; cases z
  | some s0 =>
    rw [h0] at n1
    cases s0 with
    | none => obtain ⟨_, _, z, _⟩ := n1; cases z
    | some s0 =>
      cases s0 with
      | own b0 x0 =>
        obtain ⟨a, w0, ea, el, _⟩ := r1.own i b0 x0 h0
        refine ⟨.ref a, ea, η1, T, r1, (Nx.laterS s1 n1).bind fun j η2 e2 n2 w H2 s2 r2 q2 => ?_⟩
        obtain ⟨o, η', eo, pz⟩ := n2
        split at eo
        · rename_i b xs k hx
          split at eo
          · rename_i n hn
            cases eo
            cases q2
            obtain ⟨a', ws, ea', e3, q3, na⟩ := r2.own i b xs hx
            rw [ea] at ea'; cases ea'
            refine ⟨a, ws, k, n, rfl, rfl, e3, by rw [q3.length]; exact hn, ?_⟩
            obtain ⟨A, B, C⟩ := r2.change hx ea (q3.set n (r1.old s2 q1))
            exact pz σ _ (s2.trans B) A
          · cases eo
        · cases eo
      | val _ => obtain ⟨_, _, z, _⟩ := n1; cases z
      | exc _ _ => obtain ⟨_, _, z, _⟩ := n1; cases z
/-! ### x += e, ints -/
def mAug (f : Int → Int → Int) (i : Nat) (me : MX PyData) : MX Fl := fun η => match η[i]? with
  | some (some (.val (.int x))) => mBind me (fun d η1 => match d with
    | .int y => match stO i (.val (.int (f x y))) η1 with
      | some η2 => some (.ok .nx, η2)
      | none => none
    | _ => none) η
  | _ => none
theorem ds_aug {f : Int → Int → Int} {op : Operator} {pos' : Pos} (hN : X.N.Nodup) (hi : X.N[i]? = some y) (hx : Loc X.env.scope y) (he : DE X W e me) (ho : PIp X op (ipI f)) (hf : X.fn y = true ∨ X.env.scope.names.lookup y = some .local := by first | exact .inl rfl | exact .inr rfl | assumption) :
    DS X W (.AugAssign (.Name y pos') op e pos) (mAug f i me) := by
  refine PS.imp (ps_aug hN hi hx he ho hf) fun D σ H ⟨η, T, r0, n0⟩ => ?_
  unfold mAug at n0
  split at n0
  · rename_i x hx
    obtain ⟨v, ev, qv⟩ := r0.val i _ hx
    cases qv
    refine ⟨.int x, ev, η, T, r0, n0.bind fun d η1 e1 n1 w H1 s1 r1 q1 => ?_⟩
    obtain ⟨o, η', eo, pz⟩ := n1
    split at eo
    · rename_i yy
      cases q1
      split at eo
      · rename_i η2 hη
        cases eo
        obtain ⟨rfl, ni⟩ := stO_some hη
        obtain ⟨r2, s2⟩ := r1.store (i := i) (v := V.int (f x yy)) (d := .int (f x yy)) (.int _)
        exact ⟨x, yy, rfl, rfl, pz _ H1 (s1.trans (s2 ni)) r2⟩
      · cases eo
    · cases eo
  · obtain ⟨_, _, z, _⟩ := n0; cases z
end
/-! ### a, b = x, y -/
def mPar (i j : Nat) (ml : MX (List PyData)) : MX Fl := mBind ml fun ds => fun η => match ds with
  | [d, e] => match (stO i (.val d) η).bind (stO j (.val e)) with
    | some η' => some (.ok .nx, η')
    | none => none
  | _ => none
section
variable {X : Cx} {W : WX} {a b : Expr} {ml : MX (List PyData)} {i j : Nat} {x y : Str} {px py pt pos pt2 : Pos} {kt k2 : Nat}
theorem ds_par (hc : X.calm = true) (hN : X.N.Nodup) (hi : X.N[i]? = some x) (hj : X.N[j]? = some y) (hij : i ≠ j)
    (hx : X.env.scope.names.lookup x = some .local) (hy : X.env.scope.names.lookup y = some .local) (ha : DA X W [a, b] ml)
    (hw : swappedStores [.Tuple [.Name x px, .Name y py] kt pt] (.Tuple [a, b] k2 pt2) X.env = pure (some [x, y]))
    (hs : swapsWithSole [.Tuple [.Name x px, .Name y py] kt pt] (.Tuple [a, b] k2 pt2) pos.line X.env = pure false := by rfl) :
    DS X W (.Assign [.Tuple [.Name x px, .Name y py] kt pt] (.Tuple [a, b] k2 pt2) pos) (mPar i j ml) := by
  refine PS.imp (ps_par hc hN hi hj hij hx hy ha hw hs) fun D σ H ⟨η, T, r0, n0⟩ => ⟨η, T, r0, n0.bind fun ds η1 e1 n1 vs H1 s1 r1 q1 => ?_⟩
  obtain ⟨o, η', eo, pz⟩ := n1
  cases q1 with
  | nil => cases eo
  | cons q1 q =>
    cases q with
    | nil => cases eo
    | cons q2 q =>
      cases q with
      | nil =>
        simp only at eo
        split at eo
        · rename_i η2 hη
          cases eo
          obtain ⟨η3, e3, e4⟩ := Option.bind_eq_some_iff.mp hη
          obtain ⟨rfl, ni⟩ := stO_some e3
          obtain ⟨rfl, nj⟩ := stO_some e4
          obtain ⟨r2, s2⟩ := r1.store (i := i) q1
          obtain ⟨r3, s3⟩ := r2.store (i := j) (r1.old (s2 ni) q2)
          exact ⟨_, _, rfl, pz _ H1 ((s1.trans (s2 ni)).trans (s3 nj)) r3⟩
        · cases eo
      | cons _ _ => cases eo
end
/-! ### while -/
def whileN (mc : MX Bool) (mb : MX Fl) (fg : List Nat) : Nat → MX Fl
  | 0 => fun _ => none
  | n + 1 => fun η => match mc η with
    | some (.ok true, η1) => match mb η1 with
      | some (.ok .nx, η2) => whileN mc mb fg n (forget fg η2)
      | some (.ok .ct, η2) => whileN mc mb fg n (forget fg η2)
      | some (.ok .bk, η2) => some (.ok .nx, η2)
      | some (.ok (.rt r), η2) => some (.ok (.rt r), η2)
      | some (.exc nm d, η2) => some (.exc nm d, η2)
      | none => none
    | some (.ok false, η1) => some (.ok .nx, η1)
    | some (.exc nm d, η1) => some (.exc nm d, η1)
    | none => none
theorem whileN_up {mc : MX Bool} {mb : MX Fl} {fg : List Nat} : ∀ {n : Nat} {η : EnvD} {o : R Fl × EnvD}, whileN mc mb fg n η = some o → ∀ m, n ≤ m → whileN mc mb fg m η = some o
  | 0, _, _, h, _, _ => by cases h
  | n + 1, η, o, h, m, hm => by
    obtain ⟨m, rfl⟩ : ∃ k, m = k + 1 := ⟨m - 1, by omega⟩
    unfold whileN at h ⊢
    split at h
    · rename_i η1 e1
      split at h
      · exact whileN_up h m (by omega)
      · exact whileN_up h m (by omega)
      · exact h
      · exact h
      · exact h
      · cases h
    · exact h
    · exact h
    · cases h
open Classical in
noncomputable def mWhile (mc : MX Bool) (mb : MX Fl) (fg : List Nat) : MX Fl := fun η => if h : ∃ n o, whileN mc mb fg n η = some o then some (Classical.choose (Classical.choose_spec h)) else none
theorem mWhile_eq {mc : MX Bool} {mb : MX Fl} {fg : List Nat} {n : Nat} {η : EnvD} {o : R Fl × EnvD} (h : whileN mc mb fg n η = some o) : mWhile mc mb fg η = some o := by
  have hx : ∃ n o, whileN mc mb fg n η = some o := ⟨n, o, h⟩
  unfold mWhile
  rw [dif_pos hx]
  have h2 := Classical.choose_spec (Classical.choose_spec hx)
  have a := whileN_up h2 (max n (Classical.choose hx)) (Nat.le_max_right _ _)
  have b := whileN_up h (max n (Classical.choose hx)) (Nat.le_max_left _ _)
  rw [a] at b
  exact b
section
variable {X : Cx} {W : WX} {c : Expr} {mc : MX Bool} {mb : MX Fl} {body : List Stmt} {pos : Pos}
theorem ds_while (fg : List Nat) (hp : PassesOwn (model X.prog X.w) X.A X.env X.xe) (hc : DT X W c mc) (hb : DSs X W body mb) : DS X W (.While c body [] pos) (mWhile mc mb fg) := by
  refine PS.imp (ps_while hp hc hb) fun D σ H ⟨η, T, r0, o, η', eo, p⟩ => ?_
  unfold mWhile at eo
  split at eo
  · rename_i hx
    obtain ⟨o2, e2⟩ := Classical.choose_spec hx
    have eo' := Option.some.inj eo
    have h2 := Classical.choose_spec (Classical.choose_spec hx)
    rw [eo'] at h2
    refine ⟨fun m σ2 H2 => ∃ η2, StepS σ H η σ2 H2 η2 ∧ Rp X.K X.mg σ2 H2 η2 T ∧ whileN mc mb fg m η2 = some (o, η'), ⟨_, η, StepS.refl, r0, h2⟩, ?_⟩
    rintro m σ2 H2 ⟨η2, s2, r2, w⟩
    cases m with
    | zero => cases w
    | succ n =>
      unfold whileN at w
      split at w
      · rename_i η3 e3
        refine ⟨η2, T, r2, .ok true, η3, e3, fun H3 s3 r3 => ?_⟩
        refine iteT ?_
        have s4 := s2.trans s3
        refine ⟨fun σ' H' => ∃ η5, StepS σ H η σ' H' η5 ∧ Rp X.K X.mg σ' H' η5 T ∧ whileN mc mb fg n η5 = some (o, η'), fun σ' H' h => ⟨n, Nat.lt_succ_self n, h⟩, ?_⟩
        have again : ∀ {η4 : EnvD} {σ5 : St} {H5 : Hp}, whileN mc mb fg n (forget fg η4) = some (o, η') → StepS σ2 H3 η3 σ5 H5 η4 → Rp X.K X.mg σ5 H5 η4 T → ∃ η5, StepS σ H η σ5 H5 η5 ∧ Rp X.K X.mg σ5 H5 η5 T ∧ whileN mc mb fg n η5 = some (o, η') := fun {η4 σ5 H5} e s r => by
          obtain ⟨r6, s6⟩ := Rp.forget fg r
          exact ⟨_, (s4.trans s).trans s6, r6, e⟩
        split at w
        · rename_i η4 e4
          exact ⟨η3, T, r3, .ok .nx, η4, e4, fun σ' H' s r => again w s r⟩
        · rename_i η4 e4
          exact ⟨η3, T, r3, .ok .ct, η4, e4, fun σ' H' s r => again w s r⟩
        · rename_i η4 e4
          cases w
          exact ⟨η3, T, r3, .ok .bk, η', e4, fun σ' H' s r => p σ' H' (s4.trans s) r⟩
        · rename_i rv η4 e4
          cases w
          refine ⟨η3, T, r3, .ok (.rt rv), η', e4, ?_⟩
          cases rv with
          | d y => exact fun v σ' H' s r q => p v σ' H' (s4.trans s) r q
          | l ys => exact fun a ws σ' H' s f => p a ws σ' H' (s4.trans s) (f.elim (s4.leF a) fun z => .inr (s4.tr a z))
        · rename_i nm d η4 e4
          cases w
          exact ⟨η3, T, r3, .exc nm d, η', e4, fun cls dd σ' H' s r q => p cls dd σ' H' (s4.trans s) r q⟩
        · cases w
      · rename_i η3 e3
        cases w
        refine ⟨η2, T, r2, .ok false, η', e3, fun H3 s3 r3 => ?_⟩
        exact iteF (p σ2 H3 (s2.trans s3) r3)
      · rename_i nm d η3 e3
        cases w
        exact ⟨η2, T, r2, .exc nm d, η', e3, fun cls dd σ' H' s r q => p cls dd σ' H' (s2.trans s) r q⟩
      · cases w
  · cases eo
end
end L2.DL
end
section
set_option Elab.async false
set_option linter.all false
set_option maxRecDepth 100000
set_option maxHeartbeats 2000000
/-! an own error: super().__init__('..'); self.value = value -/
namespace PySem
namespace CutX
open PySem.W PySem.Calls PyProof.Rows PySem.HandSPX
def iA : Arguments := { posonlyargs := [], args := [{ arg := "self", annotation := none, pos := ⟨4, 17, 4, 21⟩ }, { arg := "value", annotation := none, pos := ⟨4, 23, 4, 28⟩ }], vararg := none, kwonlyargs := [], kw_defaults := [], kwarg := none, defaults := [] }
def iB : List Stmt :=
  [.Expr (.Call (.Attribute (.Call (.Name "super" ⟨5, 8, 5, 13⟩) [] [] ⟨5, 8, 5, 15⟩) "__init__" ⟨5, 8, 5, 24⟩) [.Constant (.str "cutswhole") 0 ⟨5, 25, 5, 36⟩] [] ⟨5, 8, 5, 37⟩) ⟨5, 8, 5, 37⟩,
   .Assign [.Attribute (.Name "self" ⟨6, 8, 6, 12⟩) "value" ⟨6, 8, 6, 18⟩] (.Name "value" ⟨6, 21, 6, 26⟩) ⟨6, 8, 6, 26⟩]
def iA5 : Arguments := { posonlyargs := [], args := [{ arg := "self", annotation := none, pos := ⟨5, 17, 5, 21⟩ }, { arg := "value", annotation := none, pos := ⟨5, 23, 5, 28⟩ }], vararg := none, kwonlyargs := [], kw_defaults := [], kwarg := none, defaults := [] }
def iB5 : List Stmt :=
  [.Expr (.Call (.Attribute (.Call (.Name "super" ⟨6, 8, 6, 13⟩) [] [] ⟨6, 8, 6, 15⟩) "__init__" ⟨6, 8, 6, 24⟩) [.Constant (.str "cutswhole") 0 ⟨6, 25, 6, 36⟩] [] ⟨6, 8, 6, 37⟩) ⟨6, 8, 6, 37⟩,
   .Assign [.Attribute (.Name "self" ⟨7, 8, 7, 12⟩) "value" ⟨7, 8, 7, 18⟩] (.Name "value" ⟨7, 21, 7, 26⟩) ⟨7, 8, 7, 26⟩]
def iS : Scope := { kind := .function, names := [(PySem.Str.ofString "self", .local), (PySem.Str.ofString "value", .local), (PySem.Str.ofString "__class__", .free), (PySem.Str.ofString "super", .globalImplicit)], isGenerator := false, isCoroutine := false, more := [] }
/-- what the written part says of an error class at C, under CutError at D, whose __init__ stands at fI -/
structure CutTxt (P : Program) (K : Frag) (C D fI : Addr) : Prop where
  cls : ∃ nm q N bs bm sn sub ab col dd k0 k1 k2 k3 k5, K.lookup C = some (excClassObj nm q C N bs bm true sn sub ab col dd k0 k1 k2 k3 k5 "ValueError.__new__") ∧ refsVE bm = true
  sa : findIn K (.ref C) "__setattr__" = some (some (.builtin "object.__setattr__"))
  noN : findIn K (.ref C) "value" = some none
  iC : findIn K (.ref C) "__init__" = some (some (.ref fI))
  tC : typeIn K (.ref fI) = some (.type "function")
  kC : keepIn K (.ref C) = true
  exC : subIn K (.ref C) (.type "BaseException") = some true
  tyC : typeIn K (.ref C) = some (.type "type")
  veC : subIn K (.ref C) (.type "ValueError") = some true
  mD : mroIn K C (.ref D) = some true
  sp : ks_superIn K C D "__init__" = some (some (.builtin "ValueError.__init__"))
  tp : nsIn K cStatics "thirdparty.any" = some none
  cD : (clsIn K D).isSome = true
  nS : nsIn K mainGlobals "super" = some none
  top : (P.main.scope.names.lookup ("super" : Str)).isSome = false
  fn : (∃ (oc : Value) (od : Option Addr) (doc pm : Value) (an : Option Addr) (cda cc : Addr) (ct : Value) (osl : Array (Option Value)) (ccl : Value) (cdd : Option Addr) (vs : Array Value) (ccs : Array (Option Value)) (file : Str) (tf : Tok) (cl : Value) (cld : Option Addr) (csl : Array (Option Value)),
    K.lookup fI = some ⟨oc, od, .func (ksFn "__init__" "CutError.__init__" iA iB iS .none .none doc pm an (.ref cda) ct cc), osl⟩ ∧ codeIn K (.ref cda) "CutError.__init__" = true ∧
    K.lookup cda = some ⟨ccl, cdd, .fields vs, ccs⟩ ∧ vs[2]? = some (.str file tf) ∧ ((P.main.file : Str) == file) = true ∧ K.lookup cc = some ⟨cl, cld, .cell (some (.ref D)), csl⟩) ∨ (∃ (oc : Value) (od : Option Addr) (doc pm : Value) (an : Option Addr) (cda cc : Addr) (ct : Value) (osl : Array (Option Value)) (ccl : Value) (cdd : Option Addr) (vs : Array Value) (ccs : Array (Option Value)) (file : Str) (tf : Tok) (cl : Value) (cld : Option Addr) (csl : Array (Option Value)),
    K.lookup fI = some ⟨oc, od, .func (ksFn "__init__" "CutError.__init__" iA5 iB5 iS .none .none doc pm an (.ref cda) ct cc), osl⟩ ∧ codeIn K (.ref cda) "CutError.__init__" = true ∧
    K.lookup cda = some ⟨ccl, cdd, .fields vs, ccs⟩ ∧ vs[2]? = some (.str file tf) ∧ ((P.main.file : Str) == file) = true ∧ K.lookup cc = some ⟨cl, cld, .cell (some (.ref D)), csl⟩)
theorem one_size (v : Value) : [v].length ≤ sizeLine := by
  rw [sizeLine_eq]
  exact (by decide : 1 ≤ 16777216)
theorem in_but {K : Frag} {h h' : Heap} {x : Addr} (X : K.In h) (hx : K.lookup x = none) (k : ∀ b o, b ≠ x → h.get? b = some o → h'.get? b = some o) : K.In h' := fun a o e =>
  k a o (fun z => by rw [z, hx] at e; cases e) (X a o e)
/-- what __init__ leaves of a fresh exception at x -/
structure InitEnd (h h' : Heap) (x C dx t1 : Addr) (v : Value) : Prop where
  keep : ∀ b o, b ≠ x → h.get? b = some o → h'.get? b = some o
  obj : h'.get? x = some { cls := .ref C, dict := some dx, data := .fields #[.ref t1, .none, .none, .none, .bool false, .none] }
  dbig : h.objs.size ≤ dx
  dne : dx ≠ x
  ns : h'.Ns1 dx (fun y => if y = "value" then some v else none)
/-- a made error -/
structure OwnMade (h h' : Heap) (e C d : Addr) (v : Value) : Prop where
  keep : ∀ b o, h.get? b = some o → h'.get? b = some o
  new : h.objs.size ≤ e
  obj : ∃ oe vs, h'.get? e = some oe ∧ oe.cls = .ref C ∧ oe.dict = some d ∧ oe.data = .fields vs ∧ vs[1]? = some .none
  dbig : h.objs.size ≤ d
  dne : d ≠ e
  ns : h'.Ns1 d (fun y => if y = "value" then some v else none)
section
variable {prog : Program} {w : World} {A : Around} {E : Value → Shared → Prop} {h : Heap} {g : Array GenState} {d : Drawn} {t : Nat} {os : OsState}
variable {nm q : Str} {C N : Addr} {bs bm : List Value} {hdct : Bool} {sn : List Str} {sub : List Value} {ab : Bool} {col : Option Bool} {dd : Option Addr} {k0 k1 k2 k3 k5 : Option Value}
/-- ValueError.__init__ bound to an instance, called -/
theorem call_mw {u e t0 : Addr} {rest : List Value} {Q : Value → Shared → Prop}
    (hC : h.get? C = some (excClassObj nm q C N bs bm hdct sn sub ab col dd k0 k1 k2 k3 k5 "ValueError.__new__")) (he : h.get? e = some (HandSPX.excO C t0)) (hu : h.get? u = some (kxs_mw "ValueError.__init__" e)) (hrest : rest.length ≤ sizeLine)
    (hq : ∀ h' t1, (∀ b o, b ≠ e → h.get? b = some o → h'.get? b = some o) → h'.get? e = some (HandSPX.excO C t1) → Q .none ⟨h', g, d, t, os⟩) :
    wpAny (model prog w) A (call (.ref u) rest) Q E ⟨h, g, d, t, os⟩ := by
  refine wpAny_call (codeAny_of_tree ?_)
  show wpAny _ A.in1 (callAny (.ref u) ⟨rest, []⟩) _ _ _
  simp only [callAny]
  refine wpAny_bind (wpAny_load hu ?_)
  simp only [kxs_mw, show (Value.type "method-wrapper" == Value.type "method" || Value.type "method-wrapper" == Value.type "builtin_function_or_method" || Value.type "method-wrapper" == Value.type "method-wrapper") = true by decide, if_true]
  refine W.KFB.if_so (by decide) ?_
  refine wpAny_bind (PySem.ESX.check_bound F.excBase_ValueError hC he rfl ?_)
  refine wpAny_bind (wpAny_pure (wpAny_pure ?_))
  refine ⟨Code.quiet_builtin _ (by decide +kernel), codeAny_builtin F.excBase_ValueError.initEntry ?_⟩
  rw [Around.under_plainId F.excBase_ValueError.init.plain _]
  wp_walk
  refine hq _ h.objs.size (fun b o hb ho => ?_) ?_
  · rw [Heap.get?_update_other _ _ (Ne.symm hb)]
    exact Heap.get?_push_of_some _ ho
  · rw [Heap.get?_update_self _ (Heap.get?_push_of_some _ he) rfl]
    rfl
end
section
variable {prog : Program} {w : World} {A : Around} {E : Value → Shared → Prop} {R : Result → Shared → Prop} {s : Shared} {K : Frag} {mg mb : Str → Option Value} {C D fI : Addr}
theorem cut_init4 (T : CutTxt prog K C D fI) (hfn : ∃ (oc : Value) (od : Option Addr) (doc pm : Value) (an : Option Addr) (cda cc : Addr) (ct : Value) (osl : Array (Option Value)) (ccl : Value) (cdd : Option Addr) (vs : Array Value) (ccs : Array (Option Value)) (file : Str) (tf : Tok) (cl : Value) (cld : Option Addr) (csl : Array (Option Value)),
    K.lookup fI = some ⟨oc, od, .func (ksFn "__init__" "CutError.__init__" iA iB iS .none .none doc pm an (.ref cda) ct cc), osl⟩ ∧ codeIn K (.ref cda) "CutError.__init__" = true ∧
    K.lookup cda = some ⟨ccl, cdd, .fields vs, ccs⟩ ∧ vs[2]? = some (.str file tf) ∧ ((prog.main.file : Str) == file) = true ∧ K.lookup cc = some ⟨cl, cld, .cell (some (.ref D)), csl⟩) {x t0 : Addr} {v : Value} (X : K.In s.heap) (hlim : s.heap.NoLimit) (hg : s.heap.Ns mainGlobals mg) (hb : s.heap.Ns builtinsNs mb) (hbb : ∀ x : Str, x ≠ "__name__" → mb x = bootBuiltins x)
    (hx : s.heap.get? x = some (excO C t0)) (hnx : K.lookup x = none) (hroom : A.depth < recursionLimit)
    (hq : ∀ h' tk dx t1, InitEnd s.heap h' x C dx t1 v → R (.ok (.ret .none)) { s with heap := h', toks := tk }) :
    codeAny (model prog w) A (.call (.ref fI) ⟨[.ref x, v], []⟩) R s := by
  obtain ⟨oc, od, doc, pm, an, cda, cc, ct, osl, ccl, cdd, vs, ccs, file, tf, cl, cld, csl, ho, hcd, hcda, hvs, hfile, hcc⟩ := hfn
  obtain ⟨nm, q, N, bs, bm, sn, sub, ab, col, dd, k0, k1, k2, k3, k5, hC, hbm⟩ := T.cls
  have hcl : clsIn K C = some { name := nm, bases := bs, mro := .ref C :: bm, ns := N, qualname := q, hasDict := true, slotNames := sn, subclasses := sub, abstract := ab, collection := col, hasDel := false } := by unfold clsIn; rw [hC] <;> rfl
  obtain ⟨cdD, hD⟩ := Option.isSome_iff_exists.mp T.cD
  refine ks_codeAny_call_defAt (fd := ksFn "__init__" "CutError.__init__" iA iB iS .none .none doc pm an (.ref cda) ct cc) (body := iB) (binds := [("self", .ref x), ("value", v)])
    hroom (X _ _ ho) rfl hlim (codeRec_of X hcd) rfl (BindsTo.of_eq (by first | rfl | with_unfolding_all rfl)) (by first | decide | (show ∀ x ∈ iS.names, x.2 ≠ .cell; decide)) (by intro y hy; simp only [List.mem_cons, List.not_mem_nil, or_false] at hy; rcases hy with e | e <;> subst e <;> rfl) (fun h₁ hn k => ?_)
  have hxL : s.heap.objs.size ≠ x := Nat.ne_of_gt (Heap.lt_size hx)
  have X₁ : K.In h₁ := X.keeps k
  have hx₁ := k _ _ hx
  obtain ⟨sh, sg, sd, st, so⟩ := s
  -- super().__init__('..')
  refine ks_wpAt_execs_cons (ks_wpAt_Expr_any (ks_wpAt_MethodCall ?_))
  obtain ⟨oD, hD1, hD2⟩ : ∃ oD, h₁.get? D = some oD ∧ oD.data = .cls cdD := by
    unfold clsIn at hD
    split at hD
    · rename_i c d cd' sl ho
      cases hD
      exact ⟨_, X₁ _ _ ho, rfl⟩
    · cases hD
  refine ks_wpAt_super_base (of := _) (fd := ksFn "__init__" "CutError.__init__" iA iB iS .none .none doc pm an (.ref cda) ct cc) (ar := { arg := "self", annotation := none, pos := ⟨4, 17, 4, 21⟩ }) (f := fI) (cc := cda)
    (by rfl) (by rfl) (by decide) rfl (X₁ _ _ ho) rfl rfl rfl (X₁ _ _ hcda) rfl hvs hfile T.top ?_
  refine ks_loadName_global rfl (by rfl) (loadGlobal_builtin (hg.keeps k) (mg_none_of X hg T.nS) (hb.keeps k) ((hbb _ (by decide +kernel)).trans (by first | rfl | kernel_rfl)) ⟨rfl, ?_⟩)
  refine wpAny_loadName_free rfl (by rfl) rfl ⟨_, X₁ _ _ hcc, rfl⟩ ?_
  refine wpAny_loadName_local rfl (by rfl) hn (v := .ref x) (by first | rfl | with_unfolding_all rfl | kernel_rfl) ?_
  refine ks_wpAny_isType_cls hD1 hD2 ⟨rfl, ?_⟩
  refine ks_wpAny_call_super hD1 hD2 hx₁ rfl (fun c e => by cases e) (looks_mroIn X₁ T.mD) (fun h₂ e₂ k₂ => ?_)
  have X₂ : K.In h₂ := X₁.keeps k₂
  have hx₂ := k₂ _ _ hx₁
  -- the method
  have hsp : alongIn K "__init__" (((Value.ref C :: bm).dropWhile (· != .ref D)).drop 1) = some (some (.builtin "ValueError.__init__")) := by
    have z := T.sp
    unfold ks_superIn at z
    rw [hcl] at z
    exact z
  have I₂ : InstAt h₂ x (excO C t0) C none := ⟨hx₂, rfl, rfl, trivial⟩
  refine kxs_getMethod kxs_ValueError e₂ (looks_opaque X₂ T.tp) (l₀ := .ref C :: bm) (fun A Q E s k q => wpAny_bind ((looks_clsIn X₂ hcl) A _ E s k (wpAny_pure q))) rfl X₂ hsp (I₂.type.andThen (looks_subIn X₂ T.veC)) (fun z => by
    have a := X₂ _ _ hC
    rw [← z, hx₂] at a
    cases a) (by decide) ?_
  show wpAny _ _ (callWith ⟨5, 8, 5, 37⟩ (.ref h₂.objs.size) [] (backTo ⟨5, 8, 5, 37⟩ (starEach [.Constant (.str "cutswhole") 0 ⟨5, 25, 5, 36⟩] _)) []) _ _ _
  refine kxs_callWith (i := "ValueError.__init__") (x := x) rfl (evalArgs_plain (PyProof.Rows.args_cons (wpAny_Constant_str (PyProof.Rows.args_nil ?_)) rfl))
  have hu : (h₂.push (kxs_mw "ValueError.__init__" x)).get? h₂.objs.size = some (kxs_mw "ValueError.__init__" x) := Heap.get?_push_size _ rfl
  have k₃ : ∀ b o, h₂.get? b = some o → (h₂.push (kxs_mw "ValueError.__init__" x)).get? b = some o := fun b o e => Heap.get?_push_of_some _ e
  refine ⟨hu, ?_⟩
  have X₃ : K.In (h₂.push (kxs_mw "ValueError.__init__" x)) := X₂.keeps k₃
  refine call_mw (X₃ _ _ hC) (k₃ _ _ hx₂) hu (one_size _) fun h₄ t1 k₄ hx₄ => ?_
  have kA : ∀ b o, b ≠ x → sh.get? b = some o → h₄.get? b = some o := fun b o nb e => k₄ b o nb (k₃ b o (k₂ b o (k b o e)))
  have X₄ : K.In h₄ := in_but X₃ hnx k₄
  have hn₄ : h₄.Ns sh.objs.size (fun y => [(("self" : Str), Value.ref x), (("value" : Str), v)].reverse.lookup y) := by
    obtain ⟨o, es, ep, e, d2, r⟩ := hn
    exact ⟨o, es, ep, k₄ _ o hxL (k₃ _ o (k₂ _ o e)), d2, r⟩
  -- self.value = value
  refine wpAt_of_wpAny ?_
  show wpAny _ _ (execs _ _) _ _ _
  refine wpAny_execs_cons (plainObj_wpAny_Assign_Attribute ?_)
  refine wpAny_Name (wpAny_loadName_local rfl (by rfl) hn₄ (v := v) (by first | rfl | with_unfolding_all rfl | kernel_rfl) ?_)
  refine wpAny_Name (wpAny_loadName_local rfl (by rfl) hn₄ (v := .ref x) (by first | rfl | with_unfolding_all rfl | kernel_rfl) ?_)
  refine set_plain X₄ (ox := excO C t1) (od := none) ⟨hx₄, rfl, rfl, trivial⟩ T.sa ?_
  refine exc_osa X₄ hx₄ hcl (show refsVE (.ref C :: bm) = true from hbm) rfl T.noN (fun h₅ tk₅ dx k₅ dn dne hx₅ hn₅ => ?_)
  show wpAny _ _ (execs _ _) _ _ _
  have sz : sh.objs.size < h₄.objs.size := hn₄.lt
  exact wpAny_execs_nil (hq h₅ tk₅ dx t1 ⟨fun b o hb e => k₅ b o hb (kA b o hb e), hx₅, Nat.le_trans (Nat.le_of_lt sz) dn, dne, hn₅⟩)
theorem cut_init5 (T : CutTxt prog K C D fI) (hfn : ∃ (oc : Value) (od : Option Addr) (doc pm : Value) (an : Option Addr) (cda cc : Addr) (ct : Value) (osl : Array (Option Value)) (ccl : Value) (cdd : Option Addr) (vs : Array Value) (ccs : Array (Option Value)) (file : Str) (tf : Tok) (cl : Value) (cld : Option Addr) (csl : Array (Option Value)),
    K.lookup fI = some ⟨oc, od, .func (ksFn "__init__" "CutError.__init__" iA5 iB5 iS .none .none doc pm an (.ref cda) ct cc), osl⟩ ∧ codeIn K (.ref cda) "CutError.__init__" = true ∧
    K.lookup cda = some ⟨ccl, cdd, .fields vs, ccs⟩ ∧ vs[2]? = some (.str file tf) ∧ ((prog.main.file : Str) == file) = true ∧ K.lookup cc = some ⟨cl, cld, .cell (some (.ref D)), csl⟩) {x t0 : Addr} {v : Value} (X : K.In s.heap) (hlim : s.heap.NoLimit) (hg : s.heap.Ns mainGlobals mg) (hb : s.heap.Ns builtinsNs mb) (hbb : ∀ x : Str, x ≠ "__name__" → mb x = bootBuiltins x)
    (hx : s.heap.get? x = some (excO C t0)) (hnx : K.lookup x = none) (hroom : A.depth < recursionLimit)
    (hq : ∀ h' tk dx t1, InitEnd s.heap h' x C dx t1 v → R (.ok (.ret .none)) { s with heap := h', toks := tk }) :
    codeAny (model prog w) A (.call (.ref fI) ⟨[.ref x, v], []⟩) R s := by
  obtain ⟨oc, od, doc, pm, an, cda, cc, ct, osl, ccl, cdd, vs, ccs, file, tf, cl, cld, csl, ho, hcd, hcda, hvs, hfile, hcc⟩ := hfn
  obtain ⟨nm, q, N, bs, bm, sn, sub, ab, col, dd, k0, k1, k2, k3, k5, hC, hbm⟩ := T.cls
  have hcl : clsIn K C = some { name := nm, bases := bs, mro := .ref C :: bm, ns := N, qualname := q, hasDict := true, slotNames := sn, subclasses := sub, abstract := ab, collection := col, hasDel := false } := by unfold clsIn; rw [hC] <;> rfl
  obtain ⟨cdD, hD⟩ := Option.isSome_iff_exists.mp T.cD
  refine ks_codeAny_call_defAt (fd := ksFn "__init__" "CutError.__init__" iA5 iB5 iS .none .none doc pm an (.ref cda) ct cc) (body := iB5) (binds := [("self", .ref x), ("value", v)])
    hroom (X _ _ ho) rfl hlim (codeRec_of X hcd) rfl (BindsTo.of_eq (by first | rfl | with_unfolding_all rfl)) (by first | decide | (show ∀ x ∈ iS.names, x.2 ≠ .cell; decide)) (by intro y hy; simp only [List.mem_cons, List.not_mem_nil, or_false] at hy; rcases hy with e | e <;> subst e <;> rfl) (fun h₁ hn k => ?_)
  have hxL : s.heap.objs.size ≠ x := Nat.ne_of_gt (Heap.lt_size hx)
  have X₁ : K.In h₁ := X.keeps k
  have hx₁ := k _ _ hx
  obtain ⟨sh, sg, sd, st, so⟩ := s
  -- super().__init__('..')
  refine ks_wpAt_execs_cons (ks_wpAt_Expr_any (ks_wpAt_MethodCall ?_))
  obtain ⟨oD, hD1, hD2⟩ : ∃ oD, h₁.get? D = some oD ∧ oD.data = .cls cdD := by
    unfold clsIn at hD
    split at hD
    · rename_i c d cd' sl ho
      cases hD
      exact ⟨_, X₁ _ _ ho, rfl⟩
    · cases hD
  refine ks_wpAt_super_base (of := _) (fd := ksFn "__init__" "CutError.__init__" iA5 iB5 iS .none .none doc pm an (.ref cda) ct cc) (ar := { arg := "self", annotation := none, pos := ⟨5, 17, 5, 21⟩ }) (f := fI) (cc := cda)
    (by rfl) (by rfl) (by decide) rfl (X₁ _ _ ho) rfl rfl rfl (X₁ _ _ hcda) rfl hvs hfile T.top ?_
  refine ks_loadName_global rfl (by rfl) (loadGlobal_builtin (hg.keeps k) (mg_none_of X hg T.nS) (hb.keeps k) ((hbb _ (by decide +kernel)).trans (by first | rfl | kernel_rfl)) ⟨rfl, ?_⟩)
  refine wpAny_loadName_free rfl (by rfl) rfl ⟨_, X₁ _ _ hcc, rfl⟩ ?_
  refine wpAny_loadName_local rfl (by rfl) hn (v := .ref x) (by first | rfl | with_unfolding_all rfl | kernel_rfl) ?_
  refine ks_wpAny_isType_cls hD1 hD2 ⟨rfl, ?_⟩
  refine ks_wpAny_call_super hD1 hD2 hx₁ rfl (fun c e => by cases e) (looks_mroIn X₁ T.mD) (fun h₂ e₂ k₂ => ?_)
  have X₂ : K.In h₂ := X₁.keeps k₂
  have hx₂ := k₂ _ _ hx₁
  -- the method
  have hsp : alongIn K "__init__" (((Value.ref C :: bm).dropWhile (· != .ref D)).drop 1) = some (some (.builtin "ValueError.__init__")) := by
    have z := T.sp
    unfold ks_superIn at z
    rw [hcl] at z
    exact z
  have I₂ : InstAt h₂ x (excO C t0) C none := ⟨hx₂, rfl, rfl, trivial⟩
  refine kxs_getMethod kxs_ValueError e₂ (looks_opaque X₂ T.tp) (l₀ := .ref C :: bm) (fun A Q E s k q => wpAny_bind ((looks_clsIn X₂ hcl) A _ E s k (wpAny_pure q))) rfl X₂ hsp (I₂.type.andThen (looks_subIn X₂ T.veC)) (fun z => by
    have a := X₂ _ _ hC
    rw [← z, hx₂] at a
    cases a) (by decide) ?_
  show wpAny _ _ (callWith ⟨6, 8, 6, 37⟩ (.ref h₂.objs.size) [] (backTo ⟨6, 8, 6, 37⟩ (starEach [.Constant (.str "cutswhole") 0 ⟨6, 25, 6, 36⟩] _)) []) _ _ _
  refine kxs_callWith (i := "ValueError.__init__") (x := x) rfl (evalArgs_plain (PyProof.Rows.args_cons (wpAny_Constant_str (PyProof.Rows.args_nil ?_)) rfl))
  have hu : (h₂.push (kxs_mw "ValueError.__init__" x)).get? h₂.objs.size = some (kxs_mw "ValueError.__init__" x) := Heap.get?_push_size _ rfl
  have k₃ : ∀ b o, h₂.get? b = some o → (h₂.push (kxs_mw "ValueError.__init__" x)).get? b = some o := fun b o e => Heap.get?_push_of_some _ e
  refine ⟨hu, ?_⟩
  have X₃ : K.In (h₂.push (kxs_mw "ValueError.__init__" x)) := X₂.keeps k₃
  refine call_mw (X₃ _ _ hC) (k₃ _ _ hx₂) hu (one_size _) fun h₄ t1 k₄ hx₄ => ?_
  have kA : ∀ b o, b ≠ x → sh.get? b = some o → h₄.get? b = some o := fun b o nb e => k₄ b o nb (k₃ b o (k₂ b o (k b o e)))
  have X₄ : K.In h₄ := in_but X₃ hnx k₄
  have hn₄ : h₄.Ns sh.objs.size (fun y => [(("self" : Str), Value.ref x), (("value" : Str), v)].reverse.lookup y) := by
    obtain ⟨o, es, ep, e, d2, r⟩ := hn
    exact ⟨o, es, ep, k₄ _ o hxL (k₃ _ o (k₂ _ o e)), d2, r⟩
  -- self.value = value
  refine wpAt_of_wpAny ?_
  show wpAny _ _ (execs _ _) _ _ _
  refine wpAny_execs_cons (plainObj_wpAny_Assign_Attribute ?_)
  refine wpAny_Name (wpAny_loadName_local rfl (by rfl) hn₄ (v := v) (by first | rfl | with_unfolding_all rfl | kernel_rfl) ?_)
  refine wpAny_Name (wpAny_loadName_local rfl (by rfl) hn₄ (v := .ref x) (by first | rfl | with_unfolding_all rfl | kernel_rfl) ?_)
  refine set_plain X₄ (ox := excO C t1) (od := none) ⟨hx₄, rfl, rfl, trivial⟩ T.sa ?_
  refine exc_osa X₄ hx₄ hcl (show refsVE (.ref C :: bm) = true from hbm) rfl T.noN (fun h₅ tk₅ dx k₅ dn dne hx₅ hn₅ => ?_)
  show wpAny _ _ (execs _ _) _ _ _
  have sz : sh.objs.size < h₄.objs.size := hn₄.lt
  exact wpAny_execs_nil (hq h₅ tk₅ dx t1 ⟨fun b o hb e => k₅ b o hb (kA b o hb e), hx₅, Nat.le_trans (Nat.le_of_lt sz) dn, dne, hn₅⟩)
theorem cut_init (T : CutTxt prog K C D fI) {x t0 : Addr} {v : Value} (X : K.In s.heap) (hlim : s.heap.NoLimit) (hg : s.heap.Ns mainGlobals mg) (hb : s.heap.Ns builtinsNs mb) (hbb : ∀ x : Str, x ≠ "__name__" → mb x = bootBuiltins x)
    (hx : s.heap.get? x = some (excO C t0)) (hnx : K.lookup x = none) (hroom : A.depth < recursionLimit)
    (hq : ∀ h' tk dx t1, InitEnd s.heap h' x C dx t1 v → R (.ok (.ret .none)) { s with heap := h', toks := tk }) :
    codeAny (model prog w) A (.call (.ref fI) ⟨[.ref x, v], []⟩) R s := by
  rcases T.fn with hfn | hfn
  · exact cut_init4 T hfn X hlim hg hb hbb hx hnx hroom hq
  · exact cut_init5 T hfn X hlim hg hb hbb hx hnx hroom hq
theorem cut_made (T : CutTxt prog K C D fI) {v : Value} (X : K.In s.heap) (hlim : s.heap.NoLimit) (hg : s.heap.Ns mainGlobals mg) (hb : s.heap.Ns builtinsNs mb) (hbb : ∀ x : Str, x ≠ "__name__" → mb x = bootBuiltins x) (hroom : A.depth + 1 < recursionLimit)
    (hq : ∀ h' tk e d, OwnMade s.heap h' e C d v → R (.ok (.ret (.ref e))) { s with heap := h', toks := tk }) :
    codeAny (model prog w) A (.call (.ref C) ⟨[v], []⟩) R s := by
  obtain ⟨nm, q, N, bs, bm, sn, sub, ab, col, dd, k0, k1, k2, k3, k5, hC, hbm⟩ := T.cls
  obtain ⟨hp, g, dr, tk, os⟩ := s
  have k : ∀ b o, hp.get? b = some o → ((hp.push (kdv_tup [v])).push (excO C hp.objs.size)).get? b = some o := fun b o e => Heap.get?_push_of_some _ (Heap.get?_push_of_some _ e)
  have hget : ((hp.push (kdv_tup [v])).push (excO C hp.objs.size)).get? (hp.objs.size + 1) = some (excO C hp.objs.size) := by heap_get
  have hnx : K.lookup (hp.objs.size + 1) = none := by
    cases e : K.lookup (hp.objs.size + 1) with
    | none => rfl
    | some o =>
      have z : hp.get? (hp.objs.size + 1) = some o := X _ _ e
      exact absurd (Nat.lt_of_succ_lt (Heap.lt_size z)) (Nat.lt_irrefl _)
  refine call_own F.excBase_ValueError (fun X => refsVE_contains X bm hbm) (X _ _ hC) (looks_findIn X T.iC) (fun self => bind_fn X self T.tC) (one_size v) ?_
  refine cut_init (s := ⟨(hp.push (kdv_tup [v])).push (excO C hp.objs.size), g, dr, tk, os⟩) T (X.keeps k) (hlim.keeps k) (hg.keeps k) (hb.keeps k) hbb hget hnx ?_ fun h' tk' dx t1 ⟨k', hx, dn, dne, hns⟩ => ?_
  · show A.depth + 1 < recursionLimit
    exact hroom
  · have old : ∀ b o, hp.get? b = some o → h'.get? b = some o := fun b o e => k' b o (Nat.ne_of_lt (Nat.lt_succ_of_lt (Heap.lt_size e))) (k b o e)
    have z : hp.objs.size + 1 + 1 ≤ dx := by
      first
        | (simpa only [Heap.size_push] using dn)
        | exact dn
        | (have q := dn; rw [Heap.size_push, Heap.size_push] at q; exact q)
    exact ⟨rfl, hq h' tk' (hp.objs.size + 1) dx ⟨old, Nat.le_succ _, ⟨_, _, hx, rfl, rfl, rfl, rfl⟩, Nat.le_trans (Nat.le_trans (Nat.le_succ _) (Nat.le_succ _)) z, dne, hns⟩⟩
end
end CutX
end PySem

namespace L2.DL
open PySem PySem.Spec PyProof.Rows
set_option autoImplicit false
theorem relO_val {v : V} {v' : Value} (r : RelV v v') (f : Str) : RelO (List.lookup f [(("value" : Str), v)]) (if f = "value" then some v' else none) := by
  by_cases hw : f = "value"
  · subst hw
    rw [if_pos rfl]
    have q : List.lookup ("value" : Str) [(("value" : Str), v)] = some v := by simp [List.lookup]
    rw [q]
    exact r
  · rw [if_neg hw]
    have qw : (f == ("value" : Str)) = false := by simpa using hw
    have q2 : List.lookup f [(("value" : Str), v)] = none := by simp [List.lookup, qw]
    rw [q2]
    trivial
section
variable {X : Cx} {W : WX} {C D fI : Addr} {k : Nat} {a : Expr} {ma : MX PyData} {x : Str} {p pos pos2 : Pos}
def mRaise (nm : Str) (m : MX PyData) : MX Fl := mBind m fun d => fun η => some (.exc nm d, η)
theorem pmk_cut {ta : TA} (T : PySem.CutX.CutTxt X.prog X.K C D fI) (gC : X.mg x = some (.ref C)) (hr : Room k X.A) (ha : PA X [a] ta) (hg : Gl X x) (hdb : (x == ("__debug__" : Str)) = false := by decide)
    (he : starEach (a :: []) X.env = (false, eval a X.env) :: starEach [] X.env := by rfl) (hpl : (backTo pos (starEach [] X.env)).any (·.1) = false := by rfl) :
    PMk X (.Call (.Name x p) [a] [] pos) (fun σ H Q => ta σ H fun vs H1 => ∃ v, vs = [v] ∧ ∀ d, H1 d = none → Q (.ref C) (some d) (upd H1 d (.xd [(("value" : Str), v)]))) := by
  intro pins s σ H Q I h
  refine wpAny_Call_Name_kw (ld_glob I hg gC ?_ hdb)
  refine PySem.W.callWith_K (h₀ := X.base) I.ok.mod.kin T.kC (thn (ha.run pos pins s σ H _ I h) fun us s1 hh => ?_) he hpl
  obtain ⟨vs, H1, I1, r1, v, ev, q1⟩ := hh
  subst ev
  refine ⟨I1.kIn, ?_⟩
  cases r1 with
  | cons rv rn =>
    rename_i v' us'
    cases rn
    show wpAny _ _ (call (.ref C) [v']) _ _ _
    have hlim := I1.nolimit
    have hgl := I1.ok.mod.glob.keeps I1.bk
    obtain ⟨mb, hbl, hbb⟩ := I1.ok.mod.blt
    have hbl' := hbl.keeps I1.bk
    obtain ⟨hp, g, dr, tk, os⟩ := s1
    refine wpAny_call (PySem.CutX.cut_made T I1.kIn hlim hgl hbl' hbb (by have := hr.dp; omega) fun h' tk' e d M => ?_)
    show MkP X pins σ Q (.ref e) ⟨h', g, dr, tk', os⟩
    obtain ⟨oe, fv, hoe, hc, hd, hdat, h1⟩ := M.obj
    have hns := M.ns
    obtain ⟨G', g1, g2⟩ := restrict h' fun b => decide (b ≠ e)
    have gk : ∀ b, b ≠ e → G'.get? b = h'.get? b := fun b hb => g1 b (decide_eq_true hb)
    have ge : G'.get? e = none := g2 e (by simp)
    have old : ∀ b o, hp.get? b = some o → G'.get? b = some o := fun b o q => (gk b (Nat.ne_of_lt (Nat.lt_of_lt_of_le (Heap.lt_size q) M.new))).trans (M.keep b o q)
    have ob : ObjOk X.prog X.w (upd H1 d (.xd [(("value" : Str), v)])) G' d (.xd [(("value" : Str), v)]) :=
      ⟨_, hns.at (fun o q => (gk d M.dne).trans q), fun f => relO_val rv f⟩
    have J : Inv X pins σ (upd H1 d (.xd [(("value" : Str), v)])) ⟨G', g, dr, tk', os⟩ := I1.laid (t' := tk') old M.dbig ob
    refine ⟨e, oe, fv, ⟨G', g, dr, tk', os⟩, _, .ref C, some d, rfl, J, fun b o q => ?_, ge, hoe, ⟨hc, hd⟩, hdat, h1, ?_, rfl, I1.bare, raises_own T.exC T.tyC, q1 d (I1.hok.fresh M.dbig)⟩
    · by_cases hb : b = e
      · have q' : G'.get? b = some o := q
        rw [hb, ge] at q'; cases q'
      · exact (gk b hb).symm.trans q
    · rw [upd_ne (Ne.symm M.dne)]
      exact I1.hok.fresh M.new
/-- raise X(e) -/
theorem ds_raise (hc : X.calm = true) (T : PySem.CutX.CutTxt X.prog X.K C D fI) (gC : X.mg x = some (.ref C)) (gd : Gd X k) (tk : Takes X W) (ha : DE X W a ma) (hg : Gl X x) (hdb : (x == ("__debug__" : Str)) = false := by decide)
    (he : starEach (a :: []) X.env = (false, eval a X.env) :: starEach [] X.env := by rfl) (hpl : (backTo pos (starEach [] X.env)).any (·.1) = false := by rfl) :
    DS X W (.Raise (some (.Call (.Name x p) [a] [] pos)) none pos2) (mRaise x ma) := by
  refine PS.imp (ps_raise hc tk (pmk_cut T gC gd.room (pa_cons ha pa_nil he) hg hdb he hpl)) fun Ds σ H ⟨η, T', r0, n0⟩ => ⟨η, T', r0, n0.bind fun d η1 e1 n1 v H1 s1 r1 q1 => ?_⟩
  obtain ⟨o, η', eo, pz⟩ := n1
  cases eo
  refine ⟨v, rfl, fun dd hd => ?_⟩
  have k : More H1 (upd H1 dd (.xd [(("value" : Str), v)])) := More.upd hd
  exact pz (.ref C) (some dd) σ _ (s1.trans (StepS.more k)) (r1.more k) ⟨C, dd, v, gC, rfl, rfl, upd_same, q1.more r1.lists k⟩
end
end L2.DL
end
section
set_option Elab.async false
set_option linter.all false
set_option maxRecDepth 100000
set_option maxHeartbeats 4000000
namespace PySem.W
open PySem PySem.Spec PySem.Calls PyProof.Rows
section
variable {prog : Program} {w : World} {A : Around} {E : Value → Shared → Prop} {s : Shared} {K : Frag} {x D : Addr} {ox : Obj}
theorem findObj_dataO {C : Addr} {name : Str} {a g : Value} {od : Option Obj} (hc : (clsIn K C).isSome = true) (ha : findIn K (.ref C) name = some (some a)) (hg : specialIn K a "__get__" = some (some g)) (ht : takesIn K a = some true) : findObj K C od name = some (.bind g a) := by
  obtain ⟨cd, hc⟩ := Option.isSome_iff_exists.mp hc
  unfold findObj
  rw [hc, Option.bind_some, ha, Option.bind_some]
  simp [hg, ht]
theorem kin_classO {Q : Option Value → Shared → Prop} {od : Option Obj} (hga : findIn K (.ref D) "__getattribute__" = some (some (.builtin "BaseException.__getattribute__"))) (hgt : findIn K (.ref D) "__getattr__" = some none) (hsub : subIn K (.ref D) (.type "BaseException") = some true)
    (hdct : hasDictIn K D = true) (ha : findIn K (.ref D) "__class__" = some (some (.builtin "object.__class__")))
    (hn : specialIn K (.builtin "object.__class__") "__get__" = some (some (.builtin "getset_descriptor.__get__"))) (htk : takesIn K (.builtin "object.__class__") = some true) (hm : mroIn K D (.type "object") = some true)
    (X : K.In s.heap) (I : InstAt s.heap x ox D od) (h : Q (some (.ref D)) { s with toks := s.toks + 1 }) : wpAny (model prog w) A (getAttr? (.ref x) "__class__") Q E s := by
  have hf : findObj K D od "__class__" = some (.bind (.builtin "getset_descriptor.__get__") (.builtin "object.__class__")) := findObj_dataO (by obtain ⟨cd, hc, _⟩ := any_some hdct; rw [hc]; rfl) ha hn htk
  obtain ⟨hp, g, d, t, os⟩ := s
  have L0 := I.type (M := model prog w)
  have L1 := looks_findIn (M := model prog w) X hga
  have L2 := looks_findIn (M := model prog w) X hgt
  have L3 := looks_find (M := model prog w) X I hf
  have sub : Looks (model prog w) hp (isInstance (.ref x) (.type "BaseException")) true := L0.andThen (looks_subIn X hsub)
  have hx0 : (false && onTheHeap (Value.builtin "BaseException.__getattribute__")) = false := rfl
  have hx2 : (Value.builtin "BaseException.__getattribute__" == Value.builtin "object.__getattribute__") = false := by decide +kernel
  have hx1 : (onTheHeap (Value.ref D) && Value.builtin "BaseException.__getattribute__" == Value.builtin "object.__getattribute__") = false := by rw [hx2]; rfl
  unfold getAttr? getAttrBy? getAttrBy
  refine wpAny_bind (wpAny_mkText (wpAny_bind (wpAny_attempt (wpAny_holding (wpAny_bind (L0.at (wpAny_bind (L1.at ?_))))))))
  show wpAny _ _ (if (onTheHeap (Value.ref D) && Value.builtin "BaseException.__getattribute__" == Value.builtin "object.__getattribute__") = true then _ else _) _ _ _
  rw [hx1, if_neg Bool.false_ne_true]
  unfold getAttrByItsOwn hookBefore
  refine wpAny_bind ?_
  rw [if_pos (show onTheHeap (Value.ref D) = true from rfl)]
  refine L2.at ?_
  refine wpAny_bind (wpAny_attempt (wpAny_holding ?_))
  unfold callGetattribute
  rw [hx0, if_neg Bool.false_ne_true]
  unfold boundAndCalled
  rw [PySem.F.excAttr_ValueError.ga.bind (.ref x)]
  refine wpAny_bind (wpAny_pure ?_)
  show wpAny _ _ (call (.builtin "BaseException.__getattribute__") [.ref x, .str "__class__" t]) _ _ _
  refine wpAny_call (codeAny_call_builtin PySem.F.excAttr_ValueError.ga.plain PySem.F.entry_bexc_ga ?_)
  refine @check_slot (model prog w) _ _ ⟨hp, g, d, t + 1, os⟩ "BaseException.__getattribute__" "BaseException" "__getattribute__" (.ref x) [.str "__class__" t] [] _ (by decide +kernel) (by decide +kernel) sub (PySem.F.args_bexc_ga (.ref x) (.str "__class__" t)) ?_
  unfold Builtin.«object.__getattribute__»
  refine wpAny_bind (wpAny_of_eq (a := ((Value.ref x : Value), [Value.str "__class__" t])) (by first | rfl | (simp only [slotArgs]; rfl)) ?_)
  refine wpAny_bind (wpAny_pure (wpAny_bind (L0.at (wpAny_bind (L3.at ?_)))))
  show wpAny _ _ (holding [Value.builtin "object.__class__"] (call (.builtin "getset_descriptor.__get__") [.builtin "object.__class__", .ref x, .ref D]) >>= ret) _ _ _
  refine wpAny_bind (wpAny_holding (wpAny_call (class_get (s := ⟨hp, g, d, t + 1, os⟩) (ox := ox) (od := od) X I hm ?_)))
  refine wpAny_pure ?_
  show wpAny _ _ (handedOut (.ref D)) _ _ _
  rw [handedOut_of (v := .ref D) rfl]
  first
    | exact wpAny_pure (wpAny_pure h)
    | exact wpAny_pure h
    | exact wpAny_pure (wpAny_bind (wpAny_pure (wpAny_pure h)))
theorem kitx_excO {od : Option Obj} (hga : findIn K (.ref D) "__getattribute__" = some (some (.builtin "BaseException.__getattribute__"))) (hgt : findIn K (.ref D) "__getattr__" = some none) (hsub : subIn K (.ref D) (.type "BaseException") = some true) (hdct : hasDictIn K D = true) (ha : findIn K (.ref D) "__class__" = some (some (.builtin "object.__class__")))
    (hn : specialIn K (.builtin "object.__class__") "__get__" = some (some (.builtin "getset_descriptor.__get__"))) (htk : takesIn K (.builtin "object.__class__") = some true) (hm : mroIn K D (.type "object") = some true) :
    KitX K (.ref x) (.ref D) (fun h => InstAt h x ox D od) where
  ty := fun _ _ _ I => I.type
  it := fun _ _ X _ => by
    obtain ⟨cdD, hcD, _⟩ := any_some hdct
    unfold clsIn at hcD
    split at hcD
    · rename_i c' d' cd' sl' ho
      intro A' Q' E' s' k q
      unfold isType loadHead
      exact wpAny_bind (wpAny_loadPart (k _ _ (X _ _ ho)) (wpAny_pure q))
    · cases hcD
  ne := fun h tp dd its n sl X htp => by
    obtain ⟨cdD, hcD, _⟩ := any_some hdct
    refine Bool.eq_false_iff.mpr fun q => ?_
    have e : D = tp := Value.ref.inj (beq_iff_eq.mp q)
    subst e
    unfold clsIn at hcD
    split at hcD
    · rename_i c' d' cd' sl' ho
      have z := (X _ _ ho).symm.trans htp
      cases z
    · cases hcD
  ca := fun X I k => kin_classO hga hgt hsub hdct ha hn htk hm X I k
end
end PySem.W
namespace L2
open PySem PySem.Spec PyProof.Rows
section
variable {X : Cx} {pins : List (Addr × Obj)} {σ : St} {H : Hp} {s : Shared}
/-- an object that came since the entry is told of -/
theorem Inv.track {a : Addr} {o : HO} {oa : Obj} (I : Inv X pins σ H s) (h0 : X.s_0.heap.get? a = none) (hn : H a = none) (nL : a ≠ X.env.locals) (ha : s.heap.get? a = some oa) (nc : ∀ v, oa.data ≠ .cell v) (np : ∀ p ∈ X.pn ++ pins, p.1 ≠ a) (new : ObjOk X.prog X.w (upd H a o) s.heap a o) :
    Inv X pins σ (upd H a o) s := by
  refine ⟨I.ok, I.os, I.bare, ⟨I.base.keep, I.base.slot, fun b u q n hx => ?_, I.base.there, fun b xs q => ?_, fun b u xs q => ?_, fun b ps q => ?_⟩, I.loc, I.cell, ?_, fun x c e => ?_, fun p hp => ?_, I.hok.laidN (fun _ _ q => q) hn new, I.len⟩
  · rw [upd_ne (fun z => by rw [z, h0] at q; cases q)]
    exact I.base.free b u q n hx
  · have z := I.base.tups b xs q
    rw [upd_ne (ne_of_none z hn)]; exact z
  · have z := I.base.frzs b u xs q
    rw [upd_ne (ne_of_none z hn)]; exact z
  · obtain ⟨more, z⟩ := I.base.tbls b ps q
    exact ⟨more, by rw [upd_ne (ne_of_none z hn)]; exact z⟩
  · rw [upd_ne (Ne.symm nL)]; exact I.free
  · obtain ⟨v, oc, e1, e2⟩ := I.cell x c e
    rw [upd_ne (fun z => by rw [z, ha] at e1; cases e1; exact nc _ e2)]
    exact I.freeC x c e
  · obtain ⟨e1, e2, e3⟩ := I.pin p hp
    exact ⟨e1, by rw [upd_ne (np p hp)]; exact e2, e3⟩
end
def φE (cls : Value) (d : Option Addr) (a : Addr) : Heap → Prop := fun h => ∃ (oe : Obj) (vs : Array Value), h.get? a = some oe ∧ Zc cls d oe ∧ oe.data = .fields vs
/-- what the clause 'except x as n' wishes, where the suite ends and the error is kept -/
def wKeep (K : PySem.W.Frag) (c : Value) (i : Nat) (ts : Addr → Value → Option Addr → TS) (Wout : WX) (D : Ends) : WX := fun cls d σ H =>
  ∃ b, PySem.W.exmOne K cls c = some b ∧ (b = true → ∀ a, H a = none → ts a cls d { nx := fun σ' H' => D.nx (σ'.set i none) (upd H' a (.ext (φE cls d a))), rt := fun _ _ => False, bk := fun _ _ => False, ct := fun _ _ => False } (σ.set i (some (.ref a))) H) ∧
    (b = false → Wout cls d σ H)
section
variable {X : Cx} {x n : Str} {c : Value} {i : Nat} {body suite : List Stmt} {b₀ : Stmt} {np pos pos' : Pos} {tb : WX → TS} {ts : Addr → Value → Option Addr → TS} {Wout : WX}
theorem ps_try_keep (hex : X.ex = []) (hs : X.stack = X.env :: X.outer) (hf : X.env.frame = some X.env.locals) (hN : X.N.Nodup) (hi : X.N[i]? = some n) (hln : X.env.kindOf n = some .local) (hc : Names X x c) (tk : Takes X Wout)
    (hb : ∀ (W : WX) (pn : List (Addr × Obj)) (xe : Value → Shared → Prop), Takes (X.tr pn xe) W → PassesOwn (model X.prog X.w) X.A X.env xe → PSs (X.tr pn xe) body (tb W))
    (hsu : ∀ (a : Addr) (oe : Obj) (cls : Value) (d : Option Addr) (pn : List (Addr × Obj)), Zc cls d oe → (∃ vs, oe.data = .fields vs) → PSs (X.suite a ((a, oe) :: pn)) (b₀ :: suite) (ts a cls d)) :
    PS X (.Try body [.ExceptHandler (some (.Name x np)) (some n) (b₀ :: suite) pos'] [] [] pos) (fun D σ H => tb (wKeep X.K c i ts Wout D) D σ H) := by
  refine ⟨fun pins s σ H D I h => ?_⟩
  have ok := I.ok
  have hfr : X.A.frames = some (X.env :: X.outer) := by rw [ok.frames, hs]
  have hloc : Loc X.env.scope n := .inl hln
  refine wpAny_Try_except ?_
  refine wpAny_mono ((hb (wKeep X.K c i ts Wout D) (X.pn ++ pins) (fun e s₁ => wpAny (model X.prog X.w) X.A (noteFrame e X.env) (fun _ s₂ => wpAny (model X.prog X.w) X.A (setFlight e none) (fun _ s₃ =>
    wpAny (model X.prog X.w) X.A (handleBy e X.env [.ExceptHandler (some (.Name x np)) (some n) (b₀ :: suite) pos']) (SP X pins D) X.xe s₃) X.xe s₂) X.xe s₁) (fun u s' xx => ?_) PassesOwn.looking).run [] s σ H D (I.toTry _) h) (fun f s1 hsp => ?_) (fun e s1 he => he)
  · -- the catch
    obtain ⟨a, B, sI, pins', σ', H', cls, d, rfl, J', nb, up, sky, na, os, ag, b, hb1, hyes, hno⟩ := xx
    have J : Inv X pins σ' H' sI := J'.ofTry ok
    have sky' : Sky B (X.env :: X.outer) a (Zc cls d) X.env.locals s'.heap := by rw [← hs]; exact sky
    show wpAny (model X.prog X.w) X.A (noteFrame (.ref a) X.env) _ _ _
    refine Sky.land Zc.steady hfr hf sky' fun h3 fl3 up3 => ?_
    have J3 : Inv X pins σ' H' { s' with heap := h3 } := J.landed nb fl3.1 (up.trans up3) os ag
    obtain ⟨oe3, vs3, he3, hz3, hd3⟩ := fl3.there
    have notFr : ∀ {h : Heap} {o : Obj} {vs : Array Value}, h.FunFrames B (X.env :: X.outer) → h.get? a = some o → o.data = .fields vs → a ∉ frs (X.env :: X.outer) := fun {h o vs} ff e dd hm => by
      obtain ⟨_, o', e', hnf⟩ := ff.mem hm
      rw [e] at e'; cases e'
      exact hnf _ dd
    have nfr := notFr fl3.2.2.1 he3 hd3
    have nL : a ≠ X.env.locals := fun z => nfr (List.mem_filterMap.mpr ⟨X.env, List.mem_cons_self, by rw [hf, z]⟩)
    have nF : a ∉ X.fs := fun hm => by
      obtain ⟨e, he, q⟩ := List.mem_filterMap.mp hm
      exact nfr (List.mem_filterMap.mpr ⟨e, List.mem_cons_of_mem _ he, q⟩)
    have S3 := J3.suite he3 hd3 na nL nF
    refine wpAny_handleBy_cons (codeAny_handlers_test ?_) (by intro q; cases q)
    have LT : PySem.W.Looks (model X.prog X.w) h3 (typeOf (.ref a)) cls := fun A Q E s k q => wpAny_typeOf_ref (k _ _ he3) (by rw [hz3.1]; exact q)
    have LM := PySem.W.exm_one (M := model X.prog X.w) (J3.kIn) LT hb1
    have test : ∀ {Q : Value → Shared → Prop} {E : Value → Shared → Prop}, Q c { s' with heap := h3 } → wpAny (model X.prog X.w) (X.A.mark (some (.ref a))) (eval (.Name x np) X.env) Q E { s' with heap := h3 } := fun {Q E} q => by
      obtain ⟨hg, hdbg, hm | ⟨hm, hv, hnn⟩⟩ := hc
      · exact ld_glob (X := X.suite a ((a, oe3) :: (X.pn ++ pins))) S3 hg hm q hdbg
      · exact ld_blt (X := X.suite a ((a, oe3) :: (X.pn ++ pins))) S3 hg hm hv q hnn hdbg
    refine test (LM.here ?_)
    cases b with
    | true =>
      refine codeAny_handlers_suite_as ?_
      refine HandSPX.lands_againZ fl3 fun h4 fl4 up4 => ?_
      have J4 : Inv X pins σ' H' { s' with heap := h4 } := J.landed nb fl4.1 ((up.trans up3).trans up4) os ag
      obtain ⟨oe4, vs4, he4, hz4, hd4⟩ := fl4.there
      have S4 := J4.suite he4 hd4 na nL nF
      refine store_ok (X := X.suite a ((a, oe4) :: (X.pn ++ pins))) (v := .ref a) S4 hN hi hloc rfl (fun s5 S5 => ?_) (.inr hln)
      refine wpAny_mono ((hsu a oe4 cls d (X.pn ++ pins) hz4 ⟨_, hd4⟩).run [] s5 _ H' _ S5 (hyes rfl a na)) (fun f s6 hsp => ?_) (fun _ _ z => False.elim z)
      have hB : B.get? a = none := fl4.2.1
      have hsI : sI.heap.get? a = none := by
        cases e : sI.heap.get? a with
        | none => rfl
        | some o =>
          have z := nb a o e (by rw [hs]; exact nfr)
          rw [hB] at z; cases z
      have hs0 : X.s_0.heap.get? a = none := by
        cases e : X.s_0.heap.get? a with
        | none => rfl
        | some o =>
          obtain ⟨o', z⟩ := J.base.there a o e (by rw [hex]; exact fun z => nomatch z)
          rw [hsI] at z; cases z
      have hpn : ∀ p ∈ X.pn ++ pins, p.1 ≠ a := fun p hp z => by
        have e := (J.pin p hp).1
        rw [z, hsI] at e; cases e
      cases f with
      | next =>
        obtain ⟨σ6, H6, S6, q6⟩ := hsp
        have p6 := S6.pin (a, oe4) (List.mem_append_left _ List.mem_cons_self)
        have P6 : Inv X ((a, oe4) :: pins) σ6 H6 s6 := (S6.unsuite ok).pins_of fun p hp => by
          rcases List.mem_cons.mp hp with e | hp
          · subst e; exact p6
          · exact (S6.unsuite ok).pin p (List.mem_append_right _ hp)
        refine gone_ok P6 hN hi hln fun s7 J7 => ?_
        have p7 := J7.pin (a, oe4) (List.mem_append_right _ List.mem_cons_self)
        have J8 : Inv X pins (σ6.set i none) H6 s7 := J7.pins_of fun p hp => J7.pin p (List.mem_append_right _ (List.mem_cons_of_mem _ hp))
        exact ⟨_, _, J8.track (o := .ext (φE cls d a)) hs0 p7.2.1 p7.2.2.1 p7.1 (fun v => p7.2.2.2.2 v) hpn ⟨⟨oe4, vs4, p7.1, hz4, hd4⟩, ⟨_, p7.1⟩, fun h1 h2 ⟨o, w, e1, e2, e3⟩ k => ⟨o, w, k _ e1, e2, e3⟩⟩, q6⟩
      | brk =>
        obtain ⟨σ6, H6, S6, q6⟩ := hsp
        exact q6.elim
      | cont =>
        obtain ⟨σ6, H6, S6, q6⟩ := hsp
        exact q6.elim
      | ret u =>
        obtain ⟨v6, σ6, H6, S6, r6, q6⟩ := hsp
        exact q6.elim
    | false =>
      show wpAny _ X.A (handleBy (.ref a) X.env []) _ _ _
      refine wpAny_handleBy_nil ?_
      obtain ⟨k1, k2, k3, oe, vs, T, oT, ts', he, hz, hd, h1, hr⟩ := id fl3
      unfold PySem.passOn
      refine wpAny_bind (wpAny_field he hd h1 ?_)
      rw [if_neg (show ¬ ((Value.ref T == Value.none) = true) from by simp)]
      have fin : wpAny (model X.prog X.w) X.A (setFlight (.ref a) X.env.frame) (fun _ s4 => wpAny (model X.prog X.w) X.A (throw (.ref a) : Sem Flow) (SP X pins D) X.xe s4) X.xe { s' with heap := h3 } := by
        rw [hf]
        refine HandSPX.setFlight_upZ fl3 fun h4 hh4 up4 => wpAny_throw (tk _ _ ?_)
        exact ⟨a, B, sI, pins, σ', H', cls, d, rfl, J, nb, (up.trans up3).trans up4, .inr (.inr (by rw [hs]; exact hh4)), na, os, ag, hno rfl⟩
      first
        | exact wpAny_bind (wpAny_pure (wpAny_bind fin))
        | exact wpAny_bind fin
  · cases f with
    | next =>
      obtain ⟨σ', H', J', q⟩ := hsp
      exact wpAny_execs_nil ⟨σ', H', J'.ofTry ok, q⟩
    | brk =>
      obtain ⟨σ', H', J', q⟩ := hsp
      exact ⟨σ', H', J'.ofTry ok, q⟩
    | cont =>
      obtain ⟨σ', H', J', q⟩ := hsp
      exact ⟨σ', H', J'.ofTry ok, q⟩
    | ret u =>
      obtain ⟨v, σ', H', J', r, q⟩ := hsp
      exact ⟨v, σ', H', J'.ofTry ok, r, q⟩
end
end L2
end
section
set_option Elab.async false
set_option linter.all false
set_option maxRecDepth 100000
namespace L2.DL
open PySem PySem.Spec PyProof.Rows
set_option autoImplicit false
section
variable {K : Fg} {mg : Str → Option Value} {σ : St} {H : Hp} {η : EnvD} {T : Addr → Prop}
/-- a name is stored: an error that is kept -/
theorem Rp.storeX {i : Nat} {a : Addr} {nm : Str} {d : PyData} (r : Rp K mg σ H η T) (hx : ExAt K mg H (Avd σ η T) a nm d) : Rp K mg (σ.set i (some (.ref a))) H (η.set i (some (.exc nm d))) T ∧ StepS σ H η (σ.set i (some (.ref a))) H (η.set i (some (.exc nm d))) := by
  have own : ∀ q, OwnAt (σ.set i (some (.ref a))) (η.set i (some (.exc nm d))) q → OwnAt σ η q := fun q ⟨j, b, ds, e1, e2⟩ => by
    rcases set_get e1 with ⟨_, e⟩ | ⟨ne, e⟩
    · cases e
    · rcases set_get e2 with ⟨e', _⟩ | ⟨_, e'⟩
      · exact absurd e' ne
      · exact ⟨j, b, ds, e, e'⟩
  have free : ∀ q, FreeAt (σ.set i (some (.ref a))) (η.set i (some (.exc nm d))) q → FreeAt σ η q := fun q ⟨j, ds, e1, e2⟩ => by
    rcases set_get e1 with ⟨_, e⟩ | ⟨ne, e⟩
    · cases e
    · rcases set_get e2 with ⟨e', _⟩ | ⟨_, e'⟩
      · exact absurd e' ne
      · exact ⟨j, ds, e, e'⟩
  have kA : ∀ q, Avd (σ.set i (some (.ref a))) (η.set i (some (.exc nm d))) T q → Avd σ η T q := fun q z => z.imp id (own q)
  refine ⟨⟨fun j d' h' => ?_, fun j b' ds' h' => ?_, fun j nm' d' h' => ?_, fun j k b1 b2 d1 d2 a' h1 h2 h3 h4 => ?_, r.tl, by simpa using r.len⟩, ⟨fun _ h => h, fun _ _ h _ => h, fun q z => .inl (own q z), fun q z => .inl (free q z), fun j ds z => ?_⟩⟩
  · rcases set_get h' with ⟨e, e'⟩ | ⟨ne, e⟩
    · cases e'
    · obtain ⟨v', e1, q1⟩ := r.val j d' e
      exact ⟨v', by rw [List.getElem?_set_ne ne]; exact e1, Dq.less kA d' v' q1⟩
  · rcases set_get h' with ⟨e, e'⟩ | ⟨ne, e⟩
    · cases e'
    · obtain ⟨a2, vs2, e1, e2, q1, n1⟩ := r.own j b' ds' e
      exact ⟨a2, vs2, by rw [List.getElem?_set_ne ne]; exact e1, e2, DqAll.less kA ds' vs2 q1, n1⟩
  · rcases set_get h' with ⟨e, e'⟩ | ⟨ne, e⟩
    · cases e'
      subst e
      have hl : i < σ.length := by
        have z := (List.getElem?_eq_some_iff.mp h').1
        have := r.len
        simp at z
        omega
      exact ⟨a, List.getElem?_set_self hl, hx.less kA⟩
    · obtain ⟨a2, e1, q1⟩ := r.exc j nm' d' e
      exact ⟨a2, by rw [List.getElem?_set_ne ne]; exact e1, q1.less kA⟩
  · rcases set_get h1 with ⟨_, e⟩ | ⟨ne, e⟩
    · cases e
    · rcases set_get h2 with ⟨_, e'⟩ | ⟨ne', e'⟩
      · cases e'
      · rw [List.getElem?_set_ne ne] at h3
        rw [List.getElem?_set_ne ne'] at h4
        exact r.inj j k b1 b2 d1 d2 a' e e' h3 h4
  · rcases set_get z with ⟨_, e⟩ | ⟨ne, e⟩
    · cases e
    · exact ⟨⟨ds, e⟩, List.getElem?_set_ne ne⟩
theorem StepS.wipe1 {i : Nat} : StepS σ H η (σ.set i none) H (η.set i none) := by
  have own : ∀ q, OwnAt (σ.set i none) (η.set i none) q → OwnAt σ η q := fun q ⟨j, b, ds, e1, e2⟩ => by
    rcases set_get e1 with ⟨_, e⟩ | ⟨_, e⟩
    · cases e
    · rcases set_get e2 with ⟨_, e'⟩ | ⟨_, e'⟩
      · cases e'
      · exact ⟨j, b, ds, e, e'⟩
  refine ⟨fun _ h => h, fun _ _ h _ => h, fun q z => .inl (own q z), fun q ⟨j, ds, e1, e2⟩ => .inl ?_, fun j ds z => ?_⟩
  · rcases set_get e1 with ⟨_, e⟩ | ⟨_, e⟩
    · cases e
    · rcases set_get e2 with ⟨_, e'⟩ | ⟨_, e'⟩
      · cases e'
      · exact ⟨j, ds, e, e'⟩
  · rcases set_get z with ⟨_, e⟩ | ⟨ne, e⟩
    · cases e
    · exact ⟨⟨ds, e⟩, List.getElem?_set_ne ne⟩
end
/-- try: .. except c as n: y = n; i the slot of n, j of y -/
def mTry (names : List Str) (i j : Nat) (mb : MX Fl) : MX Fl := fun η => match mb η with
  | some (.ok fl, η1) => some (.ok fl, η1)
  | some (.exc nm d, η1) => if names.contains nm = true ∧ i < η1.length then some (.ok .nx, (η1.set j (some (.exc nm d))).set i none) else none
  | none => none
theorem set_two {α : Type} {l : List α} {i j : Nat} {u v w : α} (h : i ≠ j) : ((l.set i u).set j v).set i w = (l.set j v).set i w := by
  rw [List.set_comm _ _ h, List.set_set]
section
variable {X : Cx} {Wout : WX} {x n y : Str} {c : Value} {i j : Nat} {body : List Stmt} {np py pn pos pos' pos2 : Pos} {mb : MX Fl}
theorem ds_try (hex : X.ex = []) (hs : X.stack = X.env :: X.outer) (hf : X.env.frame = some X.env.locals) (hN : X.N.Nodup) (hi : X.N[i]? = some n) (hln : X.env.kindOf n = some .local) (hc : Names X x c) (tk : Takes X Wout)
    (hj : X.N[j]? = some y) (hy : X.env.scope.names.lookup y = some .local) (hij : i ≠ j) (names : List Str) (hnm : ∀ nm ∈ names, ∀ C, X.mg nm = some (.ref C) → PySem.W.exmOne X.K (.ref C) c = some true)
    (hb : ∀ (W : WX) (pn : List (Addr × Obj)) (xe : Value → Shared → Prop), Takes (X.tr pn xe) W → PassesOwn (model X.prog X.w) X.A X.env xe → DSs (X.tr pn xe) W body mb)
    (pv : ∀ (a : Addr) (l : List (Addr × Obj)), PE (X.suite a l) (.Name n pn) (tVar i))
    (hsw : ∀ (a : Addr) (l : List (Addr × Obj)), swapsWith (.Name n pn) (some (.Name y py)) pos2.line (X.suite a l).env = pure false := by intro _ _; rfl) :
    DS X Wout (.Try body [.ExceptHandler (some (.Name x np)) (some n) [.Assign [.Name y py] (.Name n pn) pos2] pos'] [] [] pos) (mTry names i j mb) := by
  refine PS.imp (ps_try_keep (tb := fun W => tSt X.K X.mg W mb) (ts := fun _ _ _ => tAsg (tVar i) (gName j)) (Wout := Wout) hex hs hf hN hi hln hc tk (fun W pn xe t p => hb W pn xe t p)
    (fun a oe cls d l hz hd => pss_one (ps_set (X := X.suite a ((a, oe) :: l)) hN hj (.inl hy) (pv a _) (hsw a _) (.inr hy)))) fun D σ H ⟨η, T, r0, o, η', eo, p⟩ => ?_
  unfold mTry at eo
  split at eo
  · rename_i fl η1 e1
    cases eo
    exact ⟨η, T, r0, .ok fl, η', e1, p⟩
  · rename_i nm d η1 e1
    split at eo
    · rename_i hin
      cases eo
      refine ⟨η, T, r0, .exc nm d, η1, e1, fun cls dd σ' H' s r q => ?_⟩
      obtain ⟨C, dd', v, h1, h2, h3, h4, h5⟩ := q
      subst h2 h3
      refine ⟨true, hnm nm (by simpa using hin.1) C h1, fun _ a ha => ?_, fun z => by cases z⟩
      have kM : More H' (upd H' a (.ext (φE (.ref C) (some dd') a))) := More.upd ha
      have r1 := r.more kM
      have xA : ExAt X.K X.mg (upd H' a (.ext (φE (.ref C) (some dd') a))) (Avd σ' η1 T) a nm d :=
        ⟨C, dd', v, h1, ⟨_, fun h z => z, upd_same⟩, by rw [upd_ne (fun z => by rw [z, ha] at h4; cases h4)]; exact h4, h5.more r.lists kM⟩
      obtain ⟨r2, s2⟩ := r1.storeX (i := j) xA
      have r3 := r2.wipe1 (i := i)
      have fin := p _ _ (((s.trans (StepS.more kM)).trans s2).trans (StepS.wipe1 (i := i))) r3
      have hl : i < σ'.length := Nat.lt_of_lt_of_le hin.2 r.len
      refine ⟨.ref a, by rw [List.getElem?_set_self hl], ?_⟩
      show D.nx (((σ'.set i (some (.ref a))).set j (some (.ref a))).set i none) _
      rw [set_two hij]
      exact fin
    · cases eo
  · cases eo
end
/-- what is told of an error that is kept -/
def rIsX (K : Fg) : List V → Hp → VK → Prop := fun xs H Q => ∃ (a D dd C : Addr) (fs : List (Str × V)) (φ : Heap → Prop) (b : Bool), xs = [.ref a, .ref C] ∧ H a = some (.ext φ) ∧ (∀ h, φ h → ∃ oe vs, h.get? a = some oe ∧ Zc (.ref D) (some dd) oe ∧ oe.data = .fields vs) ∧ H dd = some (.xd fs) ∧ ExcC K D ∧ PySem.W.kitOne K (.ref D) (.ref C) = some b ∧ Q (.bl b) H
theorem call_isX {X : Cx} : CallR X (.builtin "isinstance") (rIsX X.K) := by
  intro pins s σ H xs us Q I r h
  obtain ⟨a, D, dd, C, fs, φ, b, rfl, ea, hφ, ed, EC, e, q⟩ := h
  cases r with
  | cons rx rr =>
    cases rr with
    | cons rt rr =>
      cases rr
      cases rx
      cases rt
      obtain ⟨p1, _, _⟩ := I.hok a _ ea
      obtain ⟨oe, vs, he, hz, hd⟩ := hφ _ p1
      obtain ⟨mA, hns, hr⟩ := (show ObjOk X.prog X.w H s.heap dd (.xd fs) from I.hok dd _ ed)
      obtain ⟨od, ho, hl⟩ := lookIn_ns hns
      have J : PySem.W.InstAt s.heap a oe D (some od) := ⟨he, hz.1, by unfold PySem.W.notCls; rw [hd] <;> rfl, by rw [hz.2]; exact ho⟩
      exact PySem.W.kia_one (PySem.W.kitx_excO EC.hg EC.hk EC.hs EC.hd EC.ha EC.hn EC.ht EC.hm) I.kIn J e (fun z => nomatch z) fun tk => ⟨.bl b, H, I.kept (t' := tk) fun _ _ z => z, rfl, q⟩
def mIsX (x : Str) (j : Nat) : MX PyData := fun η => match η[j]? with
  | some (some (.exc nm _)) => if nm = x then some (.ok (.bool true), η) else none
  | some (some (.val .none)) => some (.ok (.bool false), η)
  | _ => none
def mValX (names : List Str) (j : Nat) : MX PyData := fun η => match η[j]? with
  | some (some (.exc nm d)) => if names.contains nm = true then some (.ok d, η) else none
  | _ => none
section
variable {X : Cx} {W : WX} {x y : Str} {j : Nat} {p p1 p2 pos : Pos} {C : Addr} {e : Expr}
theorem de_isX (hm : X.mg "isinstance" = none) (gC : X.mg x = some (.ref C)) (EC : ExcC X.K C) (hn : PySem.W.kitOne X.K (.type "NoneType") (.ref C) = some false) (hv : PE X (.Name y p1) (tVar j)) (gl : Gl X "isinstance" := by rfl) (gl2 : Gl X x := by rfl) (hd2 : (x == ("__debug__" : Str)) = false := by decide)
    (hvb : bootBuiltins "isinstance" = some (.builtin "isinstance") := by rfl) (hs2 : starEach [.Name x p2] X.env = (false, eval (.Name x p2) X.env) :: starEach [] X.env := by rfl)
    (hs : starEach [.Name y p1, .Name x p2] X.env = (false, eval (.Name y p1) X.env) :: starEach [.Name x p2] X.env := by rfl) (hpl : (backTo pos (starEach [.Name x p2] X.env)).any (·.1) = false := by rfl) : DE X W (.Call (.Name "isinstance" p) [.Name y p1, .Name x p2] [] pos) (mIsX x j) := by
  have hx : PE X (.Name x p2) (tC (.ref C)) := pe_glob gl2 gC rfl hd2
  refine PE.imp (pe_callB (CallR.or call_isi call_isX) gl hm hvb (pa_cons hv (pa_cons hx pa_nil hs2) hs) (by decide) (by decide) hs hpl) fun σ H Q ⟨η, T', r0, o, η', eo, pz⟩ => ?_
  unfold mIsX at eo
  split at eo
  · rename_i nm d hη
    split at eo
    · rename_i hnx
      cases eo
      subst hnx
      obtain ⟨a, ea, C', dd, v, h1, ⟨φ, hφ, h2⟩, h3, h4⟩ := r0.exc j nm d hη
      rw [gC] at h1; cases h1
      exact ⟨.ref a, ea, .inr ⟨a, C, dd, C, _, φ, true, rfl, h2, hφ, h3, EC, if_pos (beq_self_eq_true _), pz _ H StepS.refl r0 (.bl true)⟩⟩
    · cases eo
  · rename_i hη
    cases eo
    obtain ⟨v, ev, qv⟩ := r0.val j _ hη
    cases qv
    exact ⟨.non, ev, .inl ⟨.non, .ref C, .type "NoneType", .ref C, false, rfl, .own C, .base .non, hn, pz _ H StepS.refl r0 (.bl false)⟩⟩
  · cases eo
theorem de_valX (names : List Str) (hX : ∀ nm ∈ names, ∀ C, X.mg nm = some (.ref C) → XfC X.K C ∧ PySem.W.findIn X.K (.ref C) "value" = some none) (hv : PE X e (tVar j)) (hb : attributeBase e "value" X.env (eval e X.env) = eval e X.env := by rfl) : DE X W (.Attribute e "value" pos) (mValX names j) := by
  refine ⟨fun pins s σ H Q I h => ?_⟩
  obtain ⟨η, T', r0, o, η', eo, pz⟩ := h
  unfold mValX at eo
  split at eo
  · rename_i nm d hη
    split at eo
    · rename_i hin
      cases eo
      obtain ⟨a, ea, C, dd, v, h1, ⟨φ, hφ, h2⟩, h3, h4⟩ := r0.exc j nm d hη
      obtain ⟨T, hno⟩ := hX nm (by simpa using hin) C h1
      refine attr_of hb (thn (hv.run pins s σ H (fun x H1 => x = .ref a ∧ H1 = H) I ⟨.ref a, ea, rfl, rfl⟩) fun u s1 ⟨x, H1, I1, rx, ex, eH⟩ => ?_)
      subst ex eH
      obtain rfl : u = Value.ref a := rx
      obtain ⟨p1, _, _⟩ := I1.hok a _ h2
      obtain ⟨oe, vs, he, hz, hd⟩ := hφ _ p1
      obtain ⟨mA, hns, hr⟩ := (show ObjOk X.prog X.w H1 s1.heap dd (.xd [(("value" : Str), v)]) from I1.hok dd _ h3)
      obtain ⟨od, ho, hl⟩ := lookIn_ns hns
      have l : List.lookup ("value" : Str) [(("value" : Str), v)] = some v := by simp [List.lookup]
      obtain ⟨u, hu, ru⟩ := RelO.some_of (v := v) (o := mA "value") (by rw [← l]; exact hr "value")
      have J : PySem.W.InstAt s1.heap a oe C (some od) := ⟨he, hz.1, by unfold PySem.W.notCls; rw [hd] <;> rfl, by rw [hz.2]; exact ho⟩
      exact HandSPX.exc_get I1.kIn J T.ga T.gg T.exC (PySem.W.findObj_own T.hdC hno rfl (by rw [hl, hu])) (handed_of ru) ⟨v, H1, I1.tok _, ru, pz v H1 StepS.refl r0 h4⟩
    · cases eo
  · cases eo
end
end L2.DL
end
section
set_option Elab.async false
set_option linter.all false
set_option maxRecDepth 100000
namespace L2.DL
open PySem PySem.Spec PyProof.Rows
set_option autoImplicit false
section
variable {K : Fg}
theorem OpG.toB {r : R2} {g : PyData → PyData → Option PyData} (h : OpG K r g) (n1 : ∀ ds e, g (.list ds) e = none) (n2 : ∀ d ds, g d (.list ds) = none) : OpB K r g := by
  intro x y d e z H O Q l qx qy hg k
  exact h x y d e z H O Q l (qx.dq fun ds z => by rw [z, n1] at hg; cases hg) (qy.dq fun ds z => by rw [z, n2] at hg; cases hg) hg k
theorem ii1 {f : Int → Int → Option PyData} : ∀ ds e, iiD f (.list ds) e = none := fun ds e => by cases e <;> rfl
theorem ii2 {f : Int → Int → Option PyData} : ∀ d ds, iiD f d (.list ds) = none := fun d ds => by cases d <;> rfl
theorem ltB_ok : OpB K (rI0 fun i j => .bl (decide (i < j))) ltD := ltD_ok.toB ii1 ii2
theorem leB_ok : OpB K (rI0 fun i j => .bl (decide (i ≤ j))) leD := leD_ok.toB ii1 ii2
theorem gtB_ok : OpB K (rI0 fun i j => .bl (decide (j < i))) gtD := gtD_ok.toB ii1 ii2
theorem geB_ok : OpB K (rI0 fun i j => .bl (decide (j ≤ i))) geD := geD_ok.toB ii1 ii2
theorem isB_of {H : Hp} {O : Addr → Prop} {v : V} {d : PyData} (q : Bq K H O v d) : decide (v = .non) = isNoneD d := by
  rcases q with q | ⟨a, vs, ds, rfl, rfl, _, _⟩
  · exact isN_of q
  · exact decide_eq_false (fun z => by cases z)
theorem isB_ok : OpB K (fun x y H Q => y = .non ∧ Q (.bl (decide (x = .non))) H) isD := by
  intro x y d e z H O Q l qx qy hg k
  cases e <;> simp only [isD] at hg <;> cases hg
  have q2 := qy.dq (fun _ z => by cases z)
  cases q2
  exact ⟨rfl, by rw [isB_of qx]; exact k _ _ More.refl (.bl _)⟩
theorem isnB_ok : OpB K (fun x y H Q => y = .non ∧ Q (.bl (!decide (x = .non))) H) isnD := by
  intro x y d e z H O Q l qx qy hg k
  cases e <;> simp only [isnD] at hg <;> cases hg
  have q2 := qy.dq (fun _ z => by cases z)
  cases q2
  exact ⟨rfl, by rw [isB_of qx]; exact k _ _ More.refl (.bl _)⟩
end
section
variable {X : Cx} {W : WX} {a b c e : Expr} {ma mb mc m : MX PyData} {pos p : Pos} {i : Nat}
theorem opB_imp {r : R2} {g : PyData → PyData → Option PyData} (hg : OpB X.K r g) : ∀ σ H Q, tD X.K X.mg W (mOp g ma mb) σ H Q → tOp r (tD X.K X.mg W ma) (tBo X.K X.mg W mb) σ H Q := fun σ H Q ⟨η, T, r0, n0⟩ => ⟨η, T, r0, n0.bind fun x η1 e1 n1 v H1 s1 r1 q1 => by
  refine ⟨η1, T, r1, (n1.later PD.later s1).bind fun y η2 e2 n2 w H2 s2 r2 q2 => ?_⟩
  obtain ⟨z, ez, p⟩ := n2.lift
  exact hg v w x y z H2 (Avd σ η2 T) Q r2.lists (.inl (r1.old s2 q1)) q2 ez (p.meet s2 r2)⟩
theorem opV_imp {r : R2} {g : PyData → PyData → Option PyData} (hg : OpB X.K r g) : ∀ σ H Q, tD X.K X.mg W (mOpV g i mb) σ H Q → tOp r (tVar i) (tBo X.K X.mg W mb) σ H Q := fun σ H Q ⟨η, T, r0, n0⟩ => by
  obtain ⟨v, d, ev, q, n1⟩ := n0.again r0
  refine ⟨v, ev, η, T, r0, n1.bind fun y η2 e2 n2 w H2 s2 r2 q2 => ?_⟩
  obtain ⟨v', d', ev', q', n3⟩ := n2.again r2
  rw [ev] at ev'; cases ev'
  obtain ⟨z, ez, p⟩ := n3.lift
  exact hg v w d' y z H2 (Avd σ η2 T) Q r2.lists q' q2 ez (p.meet s2 r2)
theorem chain_imp {r r' : R2} {g g' : PyData → PyData → Option PyData} (hg : OpG X.K r g) (hg' : OpG X.K r' g') : ∀ σ H Q, tD X.K X.mg W (mChain g g' ma mb mc) σ H Q → tChain r r' (tD X.K X.mg W ma) (tD X.K X.mg W mb) (tD X.K X.mg W mc) σ H Q := fun σ H Q ⟨η, T, r0, n0⟩ => by
  refine ⟨η, T, r0, n0.bind fun x η1 e1 n1 v H1 s1 r1 q1 => ?_⟩
  refine ⟨η1, T, r1, (n1.later PD.later s1).bind fun y η2 e2 n2 w H2 s2 r2 q2 => ?_⟩
  have n3 := n2.later PD.later s2
  have q1' := r1.old s2 q1
  cases ez : g x y with
  | none =>
    obtain ⟨_, _, eo, _⟩ := n3
    unfold mBind mLift at eo
    rw [ez] at eo; cases eo
  | some z =>
    refine hg v w x y z H2 (Avd σ η2 T) _ r2.lists q1' q2 ez fun u H3 k3 qz => ?_
    have n4 : Nx X.K X.mg W (PD X.K X.mg) σ H2 η2 T Q ((fun z => match z with
      | .bool true => mBind mc fun w => mLift (g' y w)
      | .bool false => mPure (.bool false)
      | _ => fun _ => none : PyData → MX PyData) z η2) := by
      unfold mBind at n3
      unfold mLift at n3
      rw [ez] at n3
      exact n3
    have s3 : StepS σ H2 η2 σ H3 η2 := StepS.more k3
    cases qz with
    | bl kb =>
      refine ⟨kb, rfl, ?_⟩
      cases kb with
      | true =>
        rw [if_pos rfl]
        refine ⟨η2, T, r2.more k3, (Nx.later PD.later s3 n4).bind fun u' η4 e4 n5 w' H4 s4 r4 q4 => ?_⟩
        obtain ⟨z', ez', p⟩ := n5.lift
        have rm := r2.more k3
        exact hg' w w' y u' z' H4 (Avd σ η4 T) Q r4.lists (rm.old s4 (r2.old s3 q2)) q4 ez' (p.meet s4 r4)
      | false =>
        rw [if_neg Bool.false_ne_true]
        exact n4.pure (.bl false) H3 s3 (r2.more k3) (.bl false)
    | _ => obtain ⟨_, _, z, _⟩ := n4; cases z
theorem dt_cmpB {op : CmpOp} {r : R2} {g : PyData → PyData → Option PyData} (ho : OpR X (compareOp op) r) (hg : OpB X.K r g) (ha : DE X W a ma) (hb : DB X W b mb) (hm : behindInMarks op b = false) : DT X W (.Compare a [op] [b] pos) (mTru boolD (mOp g ma mb)) :=
  dt_of_op (r := r) (PT.imp (pt_cmpR ho ha hb hm) (tTest_imp (opB_imp hg)))
theorem dt_cmpV {op : CmpOp} {r : R2} {g : PyData → PyData → Option PyData} (ho : OpR X (compareOp op) r) (hg : OpB X.K r g) (ha : PE X a (tVar i)) (hb : DB X W b mb) (hm : behindInMarks op b = false) : DT X W (.Compare a [op] [b] pos) (mTru boolD (mOpV g i mb)) :=
  dt_of_op (r := r) (PT.imp (pt_cmpR ho ha hb hm) (tTest_imp (opV_imp hg)))
theorem dt_chain {op op' : CmpOp} {r r' : R2} {g g' : PyData → PyData → Option PyData} (ho : OpR X (compareOp op) r) (hg : OpG X.K r g) (ho' : OpR X (compareOp op') r') (hg' : OpG X.K r' g') (ha : DE X W a ma) (hb : DE X W b mb) (hc : DE X W c mc)
    (hm : lastMarks [op, op'] [b, c] = false := by with_unfolding_all rfl) : DT X W (.Compare a [op, op'] [b, c] pos) (mTru boolD (mChain g g' ma mb mc)) :=
  dt_of_op (r := r) (PT.imp (pt_chain ho ho' ha hb hc hm) (tTest_imp (chain_imp hg hg')))
end
section
variable {X : Cx}
theorem op_eqK {k : Nat} (gd : Gd X k) : OpR X (compareOp .Eq) (rEqD X.K) := op_eqD (by have := gd.room.un; omega)
theorem op_neK {k : Nat} (gd : Gd X k) : OpR X (compareOp .NotEq) (rNeD X.K) := op_neD (by have := gd.room.un; omega)
theorem op_inK {k : Nat} (gd : Gd X k) : OpR X (compareOp .In) (fun x y H Q => rInD X.K x y H Q ∨ rIn X.K false x y H Q) := OpR.or (op_inD (by have := gd.room.un; omega)) op_in_seq
theorem op_ninK {k : Nat} (gd : Gd X k) : OpR X (compareOp .NotIn) (fun x y H Q => rNotInD X.K x y H Q ∨ rIn X.K true x y H Q) := OpR.or (op_notInD (by have := gd.room.un; omega)) op_notIn_seq
theorem Gd.mono {j k : Nat} (g : Gd X k) (h : j ≤ k) : Gd X j := ⟨g.room.mono h, g.gd⟩
theorem Gd.tr {k : Nat} (g : Gd X k) (pn : List (Addr × Obj)) (xe : Value → Shared → Prop) : Gd (X.tr pn xe) k := ⟨g.room, g.gd⟩
theorem Gd.blk {k : Nat} (g : Gd X k) (s : Shared) (H : Hp) (sc : Scope) (ce : Env) (fp : List Addr) : Gd (X.blk s H sc ce fp) k := ⟨g.room, g.gd⟩
end
end L2.DL
end
section
set_option Elab.async false
set_option linter.all false
set_option maxRecDepth 100000
namespace L2.DL
open PySem PySem.Spec PyProof.Rows
set_option autoImplicit false
/-- a def's promise and how it is called -/
structure CalT (P : Program) (w : World) (K : PySem.W.Frag) (mg : Str → Option Value) (base : Heap) (k : Nat) (x : Str) (n : Nat) (F : FS) : Prop where
  ex : ∃ (f : Addr) (fd : FuncData) (ps : List Str), ps.length = n ∧ FnG P w K mg base (L2.CX P w) k f fd ps (spG K mg n F) ∧ mg x = some (.ref f) ∧ PySem.W.keepIn K (.ref f) = true ∧ Binds K fd ps []
structure CalKT (P : Program) (w : World) (K : PySem.W.Frag) (mg : Str → Option Value) (base : Heap) (k : Nat) (x : Str) (n : Nat) (F : FS) (nu : Nat) (ks : List Str) (pick : List Nat) : Prop where
  ex : ∃ (f : Addr) (fd : FuncData) (ps : List Str), ps.length = n ∧ FnG P w K mg base (L2.CX P w) k f fd ps (spG K mg n F) ∧ mg x = some (.ref f) ∧ PySem.W.keepIn K (.ref f) = true ∧ KwB fd ps nu ks pick
theorem FnG.never {P : Program} {w : World} {K : PySem.W.Frag} {mg : Str → Option Value} {base : Heap} {k : Nat} {f : Addr} {fd : FuncData} {ps : List Str} : FnG P w K mg base (L2.CX P w) k f fd ps (spG K mg ps.length (fun _ => none)) :=
  ⟨fun vs H Q E h => h.1, fun A outer s H args us vs Q E hr hg e0 hb r h => by
    obtain ⟨_, _, _, _, _, _, z, _⟩ := h
    cases z⟩
theorem pick_len {α : Type} {z : α} {pick : List Nat} {l : List α} : (pickL z pick l).length = pick.length := by simp [pickL]
theorem lenK {pick : List Nat} {ml mk : MX (List PyData)} {η : EnvD} {xs : List PyData} {η1 : EnvD} (h : mArgsK pick ml mk η = some (.ok xs, η1)) : xs.length = pick.length := by
  unfold mArgsK mBind at h
  split at h
  · rename_i x η2 e2
    simp only at h
    split at h
    · cases h
      exact pick_len
    · cases h
    · cases h
  · cases h
  · cases h
end L2.DL
namespace L2.DL
open PySem PySem.Spec PyProof.Rows
set_option autoImplicit false
/-- the law's own promise -/
def spLawTop : Sp := fun vs H Q _ => ∃ (a : Addr) (ns : List Int), vs = [V.ref a] ∧ Rd H a (.lst (ns.map V.int)) ∧ ns.length ≤ 63 ∧ ∀ H', Q (.bl true) H'
theorem top_imp {K : Fg} {mg : Str → Option Value} {F : FS} (hm : ∀ ns : List Int, ns.length ≤ 63 → fnV F [.list (ns.map .int)] = some (.ok (.d (.bool true)))) : ∀ vs H Q E, spLawTop vs H Q E → spG K mg 1 F vs H Q E := by
  rintro vs H Q E ⟨a, ns, rfl, hS, hl, q⟩
  have e := hm ns hl
  unfold fnV at e
  obtain ⟨o, eo, e2⟩ := Option.map_eq_some_iff.mp e
  obtain ⟨r, η⟩ := o
  cases e2
  have l : Lists H (fun _ => False) := fun _ z => z.elim
  refine ⟨rfl, valsE [.list (ns.map .int)], fun _ => False, Rp.args l (.cons (.lst (fun z => z) hS (ints_dq ns)) .nil), .ok (.d (.bool true)), η, eo, fun v H' s r q' => ?_⟩
  cases q'
  exact q H'
theorem cx_no {P : Program} {w : World} {outer : List Env} {H : Hp} {s : Shared} {e : Value} {s' : Shared} (h : L2.CX P w outer H s (fun _ _ _ => False) e s') : False := by
  obtain ⟨_, _, _, _, _, _, _, _, _, _, _, _, z⟩ := h
  exact z
end L2.DL
end
section
set_option Elab.async false
set_option linter.all false
set_option maxRecDepth 100000
namespace L2.DL
open PySem
set_option autoImplicit false
/-! ### running a plain program, big step by big step -/
section
variable {α β : Type} {η η1 η2 η3 : EnvD} {x y z d : PyData} {xs ys ds : List PyData} {b c : Bool} {i j : Nat} {ma mb mc m : MX PyData} {ml mk : MX (List PyData)} {mt mu : MX Bool} {r : R β}
theorem e_pure {a : α} : mPure a η = some (.ok a, η) := rfl
theorem e_bind {m : MX α} {k : α → MX β} {a : α} {o : Option (R β × EnvD)} (h : m η = some (.ok a, η1)) (h2 : k a η1 = o) : mBind m k η = o := by unfold mBind; rw [h]; exact h2
theorem e_lift {o : Option α} {a : α} (h : o = some a) : mLift o η = some (.ok a, η) := by unfold mLift; rw [h]
theorem e_op {g : PyData → PyData → Option PyData} (ha : ma η = some (.ok x, η1)) (hb : mb η1 = some (.ok y, η2)) (hg : g x y = some z) : mOp g ma mb η = some (.ok z, η2) := e_bind ha (e_bind hb (e_lift hg))
theorem e_opL {g : PyData → PyData → Option (List PyData)} (ha : ma η = some (.ok x, η1)) (hb : mb η1 = some (.ok y, η2)) (hg : g x y = some ds) : mOpL g ma mb η = some (.ok ds, η2) := e_bind ha (e_bind hb (e_lift hg))
theorem e_un {g : PyData → Option PyData} (ha : ma η = some (.ok x, η1)) (hg : g x = some z) : mUn g ma η = some (.ok z, η1) := e_bind ha (e_lift hg)
theorem e_unL {g : PyData → Option (List PyData)} (ha : ma η = some (.ok x, η1)) (hg : g x = some ds) : mUnL g ma η = some (.ok ds, η1) := e_bind ha (e_lift hg)
theorem e_tru {g : PyData → Option Bool} (ha : ma η = some (.ok x, η1)) (hg : g x = some b) : mTru g ma η = some (.ok b, η1) := e_bind ha (e_lift hg)
theorem e_fz (h : ml η = some (.ok ds, η1)) : mFz ml η = some (.ok (.list ds), η1) := e_bind h e_pure
theorem e_var (h : η[i]? = some (some (.val d))) : mVar i η = some (.ok d, η) := by unfold mVar; rw [h]
theorem e_varO (h : η[i]? = some (some (.own false ds))) : mVar i η = some (.ok (.list ds), η.set i (some (.val (.list ds)))) := by unfold mVar; rw [h]
theorem e_bor (h : η[i]? = some (some (.val d))) : mBor i η = some (.ok d, η) := by unfold mBor; rw [h]
theorem e_borO {o : Bool} (h : η[i]? = some (some (.own o ds))) : mBor i η = some (.ok (.list ds), η) := by unfold mBor; rw [h]
theorem e_again {k : PyData → MX α} {o : Option (R α × EnvD)} (h : mBor i η = some (.ok d, η)) (h2 : k d η = o) : mAgain i k η = o := by unfold mAgain; rw [h]; exact h2
theorem e_opV {g : PyData → PyData → Option PyData} (h1 : mBor i η = some (.ok d, η)) (hb : mb η = some (.ok y, η1)) (h2 : mBor i η1 = some (.ok x, η1)) (hg : g x y = some z) : mOpV g i mb η = some (.ok z, η1) := e_again h1 (e_bind hb (e_again h2 (e_lift hg)))
theorem e_nil : mNil η = some (.ok [], η) := rfl
theorem e_cons (h : m η = some (.ok x, η1)) (h2 : ml η1 = some (.ok xs, η2)) : mCons m ml η = some (.ok (x :: xs), η2) := e_bind h (e_bind h2 e_pure)
theorem e_ca {g : List PyData → Option PyData} (h : ml η = some (.ok xs, η1)) (hg : g xs = some z) : mCa g ml η = some (.ok z, η1) := e_bind h (e_lift hg)
theorem e_caL {g : List PyData → Option (List PyData)} (h : ml η = some (.ok xs, η1)) (hg : g xs = some ds) : mCaL g ml η = some (.ok ds, η1) := e_bind h (e_lift hg)
theorem e_gIt {g : List PyData → Option (List PyData)} (h : ml η = some (.ok xs, η1)) (hg : g xs = some ds) : gIt g ml η = some (.ok ds, η1) := e_bind h (e_lift hg)
theorem e_iter (h : m η = some (.ok x, η1)) (hg : itemsD x = some ds) : mIter m η = some (.ok ds, η1) := e_bind h (e_lift hg)
theorem e_call {f : List PyData → Option (R RV)} {rv : RV} (h : ml η = some (.ok xs, η1)) (hf : f xs = some (.ok rv)) : mCall f ml η = some (.ok rv.val, η1) := e_bind h (by rw [hf])
theorem e_callL {f : List PyData → Option (R RV)} (h : ml η = some (.ok xs, η1)) (hf : f xs = some (.ok (.l ds))) : mCallL f ml η = some (.ok ds, η1) := e_bind h (by rw [hf])
theorem e_callX {f : List PyData → Option (R RV)} {nm : Str} (h : ml η = some (.ok xs, η1)) (hf : f xs = some (.exc nm d)) : mCall f ml η = some (.exc nm d, η1) := e_bind h (by rw [hf])
theorem e_callI' {F : FS} {o o' : Bool} {rv : RV} (h0 : η[i]? = some (some (.own o ds))) (h : ml η = some (.ok xs, η1)) (h1 : η1[i]? = some (some (.own o' ys))) {zs : List PyData} (hf : fnI F ys xs = some (.ok (rv, zs))) : mCallI' F i ml η = some (.ok rv, η1.set i (some (.own o' zs))) := by
  unfold mCallI'
  rw [h0]
  refine e_bind h ?_
  simp only [h1, hf]
theorem e_callI {F : FS} {o o' : Bool} {rv : RV} (h0 : η[i]? = some (some (.own o ds))) (h : ml η = some (.ok xs, η1)) (h1 : η1[i]? = some (some (.own o' ys))) {zs : List PyData} (hf : fnI F ys xs = some (.ok (rv, zs))) : mCallI F i ml η = some (.ok rv.val, η1.set i (some (.own o' zs))) := e_bind (e_callI' h0 h h1 hf) e_pure
theorem e_argsK {pick : List Nat} (h : ml η = some (.ok xs, η1)) (h2 : mk η1 = some (.ok ys, η2)) : mArgsK pick ml mk η = some (.ok (pickL .none pick (xs ++ ys)), η2) := e_bind h (e_bind h2 e_pure)
theorem e_partN : (mPure none : MX (Option Int)) η = some (.ok none, η) := rfl
theorem e_part {k : Int} (h : m η = some (.ok (.int k), η1)) : mPart m η = some (.ok (some k), η1) := e_bind h e_pure
theorem e_sl {g : PyData → Option Int → Option Int → Option α} {l u : Option Int} {mlo mhi : MX (Option Int)} {a : α} (h : m η = some (.ok x, η1)) (h1 : mlo η1 = some (.ok l, η2)) (h2 : mhi η2 = some (.ok u, η3)) (hg : g x l u = some a) : mSl g m mlo mhi η = some (.ok a, η3) := e_bind h (e_bind h1 (e_bind h2 (e_lift hg)))
theorem e_slV {g : PyData → Option Int → Option Int → Option α} {l u : Option Int} {mlo mhi : MX (Option Int)} {a : α} (h : mBor i η = some (.ok x, η)) (h1 : mlo η = some (.ok l, η1)) (h2 : mhi η1 = some (.ok u, η2)) (h3 : mBor i η2 = some (.ok y, η2)) (hg : g y l u = some a) : mSlV g i mlo mhi η = some (.ok a, η2) := e_again h (e_bind h1 (e_bind h2 (e_again h3 (e_lift hg))))
/-! tests -/
theorem e_notT (h : mt η = some (.ok b, η1)) : mNot mt η = some (.ok (!b), η1) := e_bind h e_pure
theorem e_andT (h : mt η = some (.ok b, η1)) (hb : b = true) {o : Option (R Bool × EnvD)} (h2 : mu η1 = o) : mAnd mt mu η = o := e_bind h (by rw [if_pos hb]; exact h2)
theorem e_andF (h : mt η = some (.ok b, η1)) (hb : b = false) : mAnd mt mu η = some (.ok false, η1) := e_bind h (by rw [hb, if_neg Bool.false_ne_true]; rfl)
theorem e_orT (h : mt η = some (.ok b, η1)) (hb : b = true) : mOr mt mu η = some (.ok true, η1) := e_bind h (by rw [if_pos hb]; rfl)
theorem e_orF (h : mt η = some (.ok b, η1)) (hb : b = false) {o : Option (R Bool × EnvD)} (h2 : mu η1 = o) : mOr mt mu η = o := e_bind h (by rw [hb, if_neg Bool.false_ne_true]; exact h2)
/-- both parts may be asked: the slots stand -/
theorem e_andB (h : mt η = some (.ok b, η)) (h2 : mu η = some (.ok c, η)) : mAnd mt mu η = some (.ok (b && c), η) := e_bind h (by cases b <;> simp [h2, mPure])
theorem e_orB (h : mt η = some (.ok b, η)) (h2 : mu η = some (.ok c, η)) : mOr mt mu η = some (.ok (b || c), η) := e_bind h (by cases b <;> simp [h2, mPure])
theorem e_ifT {mx my : MX α} {o : Option (R α × EnvD)} (h : mt η = some (.ok b, η1)) (hb : b = true) (h2 : mx η1 = o) : mIf mt mx my η = o := e_bind h (by rw [if_pos hb]; exact h2)
theorem e_ifF {mx my : MX α} {o : Option (R α × EnvD)} (h : mt η = some (.ok b, η1)) (hb : b = false) (h2 : my η1 = o) : mIf mt mx my η = o := e_bind h (by rw [hb, if_neg Bool.false_ne_true]; exact h2)
theorem e_ifB {mx my : MX α} {a a' : α} (h : mt η = some (.ok b, η1)) (h2 : mx η1 = some (.ok a, η2)) (h3 : my η1 = some (.ok a', η2)) : mIf mt mx my η = some (.ok (if b = true then a else a'), η2) := e_bind h (by cases b <;> simp [h2, h3])
theorem e_andVT (h : ma η = some (.ok (.bool b), η1)) (hb : b = true) {o : Option (R PyData × EnvD)} (h2 : mb η1 = o) : mAndV ma mb η = o := e_bind h (by rw [hb]; exact h2)
theorem e_andVF (h : ma η = some (.ok (.bool b), η1)) (hb : b = false) : mAndV ma mb η = some (.ok (.bool false), η1) := e_bind h (by rw [hb]; rfl)
theorem e_andVB (h : ma η = some (.ok (.bool b), η)) (h2 : mb η = some (.ok (.bool c), η)) : mAndV ma mb η = some (.ok (.bool (b && c)), η) := e_bind h (by cases b <;> simp [h2, mPure])
theorem e_orVT (h : ma η = some (.ok (.bool b), η1)) (hb : b = true) : mOrV ma mb η = some (.ok (.bool true), η1) := e_bind h (by rw [hb]; rfl)
theorem e_orVF (h : ma η = some (.ok (.bool b), η1)) (hb : b = false) {o : Option (R PyData × EnvD)} (h2 : mb η1 = o) : mOrV ma mb η = o := e_bind h (by rw [hb]; exact h2)
theorem e_notV (h : ma η = some (.ok (.bool b), η1)) : mNotV ma η = some (.ok (.bool (!b)), η1) := e_bind h rfl
theorem e_chainT {g g' : PyData → PyData → Option PyData} (h1 : ma η = some (.ok x, η1)) (h2 : mb η1 = some (.ok y, η2)) (hg : g x y = some (.bool b)) (hb : b = true) (h3 : mc η2 = some (.ok z, η3)) (hg' : g' y z = some d) : mChain g g' ma mb mc η = some (.ok d, η3) :=
  e_bind h1 (e_bind h2 (e_bind (e_lift hg) (by subst hb; exact e_bind h3 (e_lift hg'))))
theorem e_chainF {g g' : PyData → PyData → Option PyData} (h1 : ma η = some (.ok x, η1)) (h2 : mb η1 = some (.ok y, η2)) (hg : g x y = some (.bool b)) (hb : b = false) : mChain g g' ma mb mc η = some (.ok (.bool false), η2) :=
  e_bind h1 (e_bind h2 (e_bind (e_lift hg) (by subst hb; rfl)))
theorem e_chainB {g g' : PyData → PyData → Option PyData} (h1 : ma η = some (.ok x, η1)) (h2 : mb η1 = some (.ok y, η2)) (hg : g x y = some (.bool b)) (h3 : mc η2 = some (.ok z, η2)) (hg' : g' y z = some (.bool c)) : mChain g g' ma mb mc η = some (.ok (.bool (b && c)), η2) :=
  e_bind h1 (e_bind h2 (e_bind (e_lift hg) (by cases b; rfl; exact e_bind h3 (e_lift (by rw [hg']; rfl)))))
/-! statements -/
variable {fl fl2 : Fl} {ms mr : MX Fl} {gm : PyData → EnvD → Option EnvD}
theorem s_seq {o : Option (R Fl × EnvD)} (h : ms η = some (.ok .nx, η1)) (h2 : mr η1 = o) : mSeq ms mr η = o := e_bind h h2
theorem s_seqR {rv : RV} (h : ms η = some (.ok (.rt rv), η1)) : mSeq ms mr η = some (.ok (.rt rv), η1) := e_bind h rfl
theorem s_seqB (h : ms η = some (.ok .bk, η1)) : mSeq ms mr η = some (.ok .bk, η1) := e_bind h rfl
theorem s_seqC (h : ms η = some (.ok .ct, η1)) : mSeq ms mr η = some (.ok .ct, η1) := e_bind h rfl
theorem s_seqX {nm : Str} (h : ms η = some (.exc nm d, η1)) : mSeq ms mr η = some (.exc nm d, η1) := by unfold mSeq mBind; rw [h]
theorem s_asg (h : m η = some (.ok x, η1)) (h2 : gm x η1 = some η2) : mAsg m gm η = some (.ok .nx, η2) := e_bind h (by rw [h2])
theorem s_asgL (h : ml η = some (.ok xs, η1)) (h2 : stO i (.own false xs) η1 = some η2) : mAsgL ml i η = some (.ok .nx, η2) := e_bind h (by rw [h2])
theorem s_drop (h : m η = some (.ok x, η1)) : mDrop m η = some (.ok .nx, η1) := e_bind h rfl
theorem s_dropX {nm : Str} (h : m η = some (.exc nm d, η1)) : mDrop m η = some (.exc nm d, η1) := by unfold mDrop mBind; rw [h]
theorem s_ret (h : m η = some (.ok x, η1)) : mRet m η = some (.ok (.rt (.d x)), η1) := e_bind h rfl
theorem s_retX {nm : Str} (h : m η = some (.exc nm d, η1)) : mRet m η = some (.exc nm d, η1) := by unfold mRet mBind; rw [h]
theorem s_retL (h : ml η = some (.ok xs, η1)) : mRetL ml η = some (.ok (.rt (.l xs)), η1) := e_bind h rfl
theorem s_retV (h : η[i]? = some (some (.val d))) : mRetV i η = some (.ok (.rt (.d d)), η) := by unfold mRetV; rw [h]
theorem s_retVO (h : η[i]? = some (some (.own false ds))) : mRetV i η = some (.ok (.rt (.l ds)), η.set i none) := by unfold mRetV; rw [h]
theorem s_ifT {o : Option (R Fl × EnvD)} (h : mt η = some (.ok b, η1)) (hb : b = true) (h2 : ms η1 = o) : mIfS mt ms mr η = o := e_bind h (by rw [if_pos hb]; exact h2)
theorem s_ifF {o : Option (R Fl × EnvD)} (h : mt η = some (.ok b, η1)) (hb : b = false) (h2 : mr η1 = o) : mIfS mt ms mr η = o := e_bind h (by rw [hb, if_neg Bool.false_ne_true]; exact h2)
theorem s_raise {nm : Str} (h : m η = some (.ok x, η1)) : mRaise nm m η = some (.exc nm x, η1) := e_bind h rfl
theorem s_for {mi : MX (List PyData)} {fg : List Nat} {o : Option (R Fl × EnvD)} (h : mi η = some (.ok xs, η1)) (h2 : loopM gm ms fg xs η1 = o) : mFor mi gm ms fg η = o := e_bind h h2
theorem s_setIx {o o' : Bool} {k : Int} {n : Nat} {mi : MX PyData} (h : m η = some (.ok d, η1)) (h0 : η1[i]? = some (some (.own o ds))) (hi : mi η1 = some (.ok (.int k), η2)) (h1 : η2[i]? = some (some (.own o' ys))) (hn : ixN ys.length k = some n) : mSetIx i m mi η = some (.ok .nx, η2.set i (some (.own o' (ys.set n d)))) := by
  refine e_bind h ?_
  rw [h0]
  refine e_bind hi ?_
  simp only [h1, hn]
theorem s_aug {f : Int → Int → Int} {u v : Int} (h0 : η[i]? = some (some (.val (.int u)))) (h : m η = some (.ok (.int v), η1)) (h2 : stO i (.val (.int (f u v))) η1 = some η2) : mAug f i m η = some (.ok .nx, η2) := by
  unfold mAug
  rw [h0]
  exact e_bind h (by simp only [h2])
theorem s_par (h : ml η = some (.ok [x, y], η1)) (h2 : (stO i (.val x) η1).bind (stO j (.val y)) = some η2) : mPar i j ml η = some (.ok .nx, η2) := e_bind h (by simp only [h2])
theorem e_meth {f : List PyData → List PyData → Option (PyData × List PyData)} {o o' : Bool} {zs : List PyData} (h0 : η[i]? = some (some (.own o ds))) (h : ml η = some (.ok xs, η1)) (h1 : η1[i]? = some (some (.own o' ys))) (hf : f ys xs = some (z, zs)) : mMeth f i ml η = some (.ok z, η1.set i (some (.own o' zs))) := by
  unfold mMeth
  rw [h0]
  refine e_bind h ?_
  simp only [h1, hf]
theorem f_runR {N n : Nat} {args : EnvD} {rv : RV} (hl : args.length = n) (ha : args.all okA = true) (hn : n ≤ N) (h : ms (args ++ List.replicate (N - n) none) = some (.ok (.rt rv), η1)) : runF N n ms args = some (.ok rv, maskE n η1) := by
  unfold runF; rw [if_pos ⟨hl, ha, hn⟩, h]
theorem f_runN {N n : Nat} {args : EnvD} (hl : args.length = n) (ha : args.all okA = true) (hn : n ≤ N) (h : ms (args ++ List.replicate (N - n) none) = some (.ok .nx, η1)) : runF N n ms args = some (.ok (.d .none), maskE n η1) := by
  unfold runF; rw [if_pos ⟨hl, ha, hn⟩, h]
theorem f_runX {N n : Nat} {args : EnvD} {nm : Str} (hl : args.length = n) (ha : args.all okA = true) (hn : n ≤ N) (h : ms (args ++ List.replicate (N - n) none) = some (.exc nm d, η1)) : runF N n ms args = some (.exc nm d, maskE n η1) := by
  unfold runF; rw [if_pos ⟨hl, ha, hn⟩, h]
theorem fnV_of {F : FS} {o : R RV} (h : F (valsE ds) = some (o, η1)) : fnV F ds = some o := by unfold fnV; rw [h]; rfl
theorem fnI_of {F : FS} {rv : RV} {tl : EnvD} (h : F (some (.own true xs) :: valsE ds) = some (.ok rv, some (.own true ys) :: tl)) : fnI F xs ds = some (.ok (rv, ys)) := by unfold fnI; rw [h]
/-! loops -/
theorem loop_nil {fg : List Nat} : loopM gm ms fg [] η = some (.ok .nx, η) := rfl
theorem loop_cons {fg : List Nat} {o : Option (R Fl × EnvD)} (h : gm x η = some η1) (h2 : ms η1 = some (.ok .nx, η2)) (h3 : loopM gm ms fg xs (forget fg η2) = o) : loopM gm ms fg (x :: xs) η = o := by simp only [loopM, h, h2]; exact h3
theorem loop_consR {fg : List Nat} {rv : RV} (h : gm x η = some η1) (h2 : ms η1 = some (.ok (.rt rv), η2)) : loopM gm ms fg (x :: xs) η = some (.ok (.rt rv), η2) := by simp only [loopM, h, h2]
/-- an invariant: behind i turns -/
theorem loop_inv (I : Nat → EnvD → Prop) (step : ∀ k x η, xs[k]? = some x → I k η → ∃ η1 η2, gm x η = some η1 ∧ ms η1 = some (.ok .nx, η2) ∧ I (k + 1) η2) : ∀ {η : EnvD}, I 0 η → ∃ η', loopM gm ms [] xs η = some (.ok .nx, η') ∧ I xs.length η' := by
  suffices h : ∀ (n k : Nat) (η : EnvD), xs.length - k = n → k ≤ xs.length → I k η → ∃ η', loopM gm ms [] (xs.drop k) η = some (.ok .nx, η') ∧ I xs.length η' by
    intro η h0
    have := h xs.length 0 η (by omega) (by omega) h0
    simpa using this
  intro n
  induction n with
  | zero =>
    intro k η hn hk hI
    have e : k = xs.length := by omega
    subst e
    exact ⟨η, by rw [List.drop_length]; rfl, hI⟩
  | succ n ih =>
    intro k η hn hk hI
    have hlt : k < xs.length := by omega
    obtain ⟨η1, η2, e1, e2, e3⟩ := step k _ η (List.getElem?_eq_getElem hlt) hI
    obtain ⟨η', e4, e5⟩ := ih (k + 1) η2 (by omega) (by omega) e3
    refine ⟨η', ?_, e5⟩
    rw [List.drop_eq_getElem_cons hlt]
    exact loop_cons e1 e2 e4
/-- a comprehension over items, each kept or not, the slots alike behind each turn -/
theorem comp_map {vs : List Nat} {f : PyData → Option PyData} (hη : wipeE vs η = η) : ∀ (items acc : List PyData), acc.length + items.length ≤ sizeLine → (∀ x ∈ items, ∃ η1, gm x η = some η1 ∧ ((∃ η2 y, f x = some y ∧ mt η1 = some (.ok true, η2) ∧ ∃ η3, m η2 = some (.ok y, η3) ∧ wipeE vs η3 = η) ∨ (f x = none ∧ ∃ η2, mt η1 = some (.ok false, η2) ∧ wipeE vs η2 = η))) →
    compM gm mt m vs items acc η = some (.ok (acc ++ items.filterMap f), η)
  | [], acc, _, _ => by simp [compM, mPure]
  | x :: xs, acc, hl, h => by
    rw [List.length_cons] at hl
    obtain ⟨η1, e1, h1⟩ := h x List.mem_cons_self
    have ih := fun acc hl => comp_map (vs := vs) (f := f) hη xs acc hl fun y hy => h y (List.mem_cons_of_mem _ hy)
    simp only [compM, e1]
    rcases h1 with ⟨η2, y, ef, e2, η3, e3, e4⟩ | ⟨ef, η2, e2, e3⟩
    · simp only [e2, e3, e4]
      rw [if_pos (by omega), ih _ (by simp; omega)]
      simp [List.filterMap_cons, ef]
    · simp only [e2, e3]
      rw [ih _ (by omega)]
      simp [List.filterMap_cons, ef]
theorem e_comp {mi : MX (List PyData)} {vs : List Nat} {o : Option (R (List PyData) × EnvD)} (h : mi η = some (.ok xs, η1)) (h2 : compM gm mt m vs xs [] (wipeE vs η1) = o) : mComp mi gm mt m vs η = o := e_bind h h2
end
/-! ### the operators on ints -/
theorem addD_e {i j : Int} : addD (.int i) (.int j) = some (.int (i + j)) := rfl
theorem subD_e {i j : Int} : subD (.int i) (.int j) = some (.int (i - j)) := rfl
theorem negD_e {i : Int} : negD (.int i) = some (.int (-i)) := rfl
theorem mulD_r {i j : Int} (h : -18446744073709551616 < j ∧ j < 18446744073709551616) : mulD (.int i) (.int j) = some (.int (i * j)) := if_pos (.inl (.inr (by simpa using h)))
theorem mulD_l {i j : Int} (h : -18446744073709551616 < i ∧ i < 18446744073709551616) : mulD (.int i) (.int j) = some (.int (i * j)) := if_pos (.inl (.inl (by simpa using h)))
theorem log_lt {n k : Nat} (h : n < 2 ^ k) (hk : 0 < k) : n.log2 < k := by
  by_cases h0 : n = 0
  · subst h0; simpa using hk
  · exact (Nat.log2_lt h0).mpr h
theorem mulD_w {i j : Int} (h1 : i.natAbs < 2 ^ 400) (h2 : j.natAbs < 2 ^ 400) : mulD (.int i) (.int j) = some (.int (i * j)) := if_pos (.inr (by
  have a := log_lt h1 (by decide)
  have b := log_lt h2 (by decide)
  unfold CMulW
  omega))
theorem modD_e {i j : Int} (h : 0 < j) : modD (.int i) (.int j) = some (.int (i % j)) := by
  have e : i.fmod j = i % j := Int.fmod_eq_emod_of_nonneg i (by omega)
  rw [← e]
  exact if_pos (by omega)
theorem fdivD_e {i j : Int} (h : 0 < j) (h2 : j < 2 ^ 400) : fdivD (.int i) (.int j) = some (.int (i / j)) := by
  have e : i.fdiv j = i / j := Int.fdiv_eq_ediv_of_nonneg i (by omega)
  rw [← e]
  have l := log_lt (n := j.natAbs) (k := 400) (by omega) (by decide)
  exact if_pos (.inr ⟨h, by omega⟩)
theorem ltD_e {i j : Int} : ltD (.int i) (.int j) = some (.bool (decide (i < j))) := rfl
theorem leD_e {i j : Int} : leD (.int i) (.int j) = some (.bool (decide (i ≤ j))) := rfl
theorem gtD_e {i j : Int} : gtD (.int i) (.int j) = some (.bool (decide (j < i))) := rfl
theorem geD_e {i j : Int} : geD (.int i) (.int j) = some (.bool (decide (j ≤ i))) := rfl
theorem boolD_e {b : Bool} : boolD (.bool b) = some b := rfl
theorem pow2D_e {i : Int} (h : i.natAbs < 2 ^ 64) : powD (.int i) (.int 2) = some (.int (i * i)) := by
  have e : i ^ (2 : Int).toNat = i * i := by show i ^ 2 = _; rw [Int.pow_succ, Int.pow_succ, Int.pow_zero, Int.one_mul]
  rw [← e]
  exact if_pos ⟨by decide, by decide, h⟩
theorem powD_k {i j k : Int} (h : CPow i j) (e : i ^ j.toNat = k) : powD (.int i) (.int j) = some (.int k) := by rw [← e]; exact if_pos h
theorem p10_12 : powD (.int 10) (.int 12) = some (.int 1000000000000) := powD_k (by decide) (by decide)
theorem p10_18 : powD (.int 10) (.int 18) = some (.int 1000000000000000000) := powD_k (by decide) (by decide)
theorem p10_19 : powD (.int 10) (.int 19) = some (.int 10000000000000000000) := powD_k (by decide) (by decide)
theorem p10_25 : powD (.int 10) (.int 25) = some (.int 10000000000000000000000000) := powD_k (by decide) (by decide)
theorem p10_28 : powD (.int 10) (.int 28) = some (.int 10000000000000000000000000000) := powD_k (by decide) (by decide)
theorem p10_29 : powD (.int 10) (.int 29) = some (.int 100000000000000000000000000000) := powD_k (by decide) (by decide)
theorem p10_31 : powD (.int 10) (.int 31) = some (.int 10000000000000000000000000000000) := powD_k (by decide) (by decide)
theorem p10_33 : powD (.int 10) (.int 33) = some (.int 1000000000000000000000000000000000) := powD_k (by decide) (by decide)
theorem ixD_l {ds : List PyData} {k : Nat} {z : PyData} (h : ds[k]? = some z) : ixD (.list ds) (.int (k : Nat)) = some z := by
  have hl := (List.getElem?_eq_some_iff.mp h).1
  show atI ds (k : Int) = some z
  unfold atI ixN
  rw [if_pos (by omega), if_pos (by omega)]
  simpa using h
theorem ixD_t {ds : List PyData} {k : Nat} {z : PyData} (h : ds[k]? = some z) : ixD (.tuple ds) (.int (k : Nat)) = some z := by
  have hl := (List.getElem?_eq_some_iff.mp h).1
  show atI ds (k : Int) = some z
  unfold atI ixN
  rw [if_pos (by omega), if_pos (by omega)]
  simpa using h
/-- what stands at an int's place -/
theorem ixD_i {ds : List PyData} {k : Int} {z : PyData} (h0 : 0 ≤ k) (h : ds[k.toNat]? = some z) : ixD (.list ds) (.int k) = some z := by
  have := ixD_l (ds := ds) (k := k.toNat) h
  rwa [Int.toNat_of_nonneg h0] at this
end L2.DL
end
section
set_option Elab.async false
set_option linter.all false
set_option maxRecDepth 100000
namespace L2.DL
open PySem
set_option autoImplicit false
section
variable {η1 : EnvD} {d : PyData} {ms : MX Fl}
theorem runR {N n : Nat} {args : EnvD} {rv : RV} {o : Option (R RV × EnvD)} (hl : args.length = n) (ha : args.all okA = true) (hn : n ≤ N) (h : ms (args ++ List.replicate (N - n) none) = some (.ok (.rt rv), η1)) (he : some (R.ok rv, maskE n η1) = o) : runF N n ms args = o := (f_runR hl ha hn h).trans he
theorem runN {N n : Nat} {args : EnvD} {o : Option (R RV × EnvD)} (hl : args.length = n) (ha : args.all okA = true) (hn : n ≤ N) (h : ms (args ++ List.replicate (N - n) none) = some (.ok .nx, η1)) (he : some (R.ok (.d .none), maskE n η1) = o) : runF N n ms args = o := (f_runN hl ha hn h).trans he
theorem runX {N n : Nat} {args : EnvD} {nm : Str} {o : Option (R RV × EnvD)} (hl : args.length = n) (ha : args.all okA = true) (hn : n ≤ N) (h : ms (args ++ List.replicate (N - n) none) = some (.exc nm d, η1)) (he : some (R.exc nm d, maskE n η1) = o) : runF N n ms args = o := (f_runX hl ha hn h).trans he
end
end L2.DL
end
local macro_rules | `(tactic| walk_at "dl evd") => `(tactic| first
    | exact L2.DL.addD_e | exact L2.DL.subD_e | exact L2.DL.negD_e | exact L2.DL.ltD_e | exact L2.DL.leD_e | exact L2.DL.gtD_e | exact L2.DL.geD_e | exact L2.DL.boolD_e
    | exact L2.DL.modD_e (by omega) | exact L2.DL.fdivD_e (by omega) (by omega) | exact L2.DL.mulD_r (by omega) | exact L2.DL.mulD_l (by omega)
    | exact L2.DL.p10_12 | exact L2.DL.p10_18 | exact L2.DL.p10_19 | exact L2.DL.p10_25 | exact L2.DL.p10_28 | exact L2.DL.p10_29 | exact L2.DL.p10_31 | exact L2.DL.p10_33
    | rfl | assumption
    | exact L2.DL.mulD_w (by omega) (by omega) | exact L2.DL.pow2D_e (by omega))
local macro_rules | `(tactic| walk_at "dl evs") => `(tactic| first | rfl | assumption)
local macro_rules | `(tactic| walk_at "dl ev") => `(tactic| first
    | assumption
    | (with_reducible exact L2.DL.e_pure)
    | (with_reducible exact L2.DL.e_nil)
    | ((with_reducible apply L2.DL.e_op); (focus (walk_at "dl ev")); (focus (walk_at "dl ev")); (focus (walk_at "dl evd")))
    | ((with_reducible apply L2.DL.e_un); (focus (walk_at "dl ev")); (focus (walk_at "dl evd")))
    | ((with_reducible apply L2.DL.e_var); (walk_at "dl evs")) | ((with_reducible apply L2.DL.e_varO); (walk_at "dl evs")) | ((with_reducible apply L2.DL.e_bor); (walk_at "dl evs")) | ((with_reducible apply L2.DL.e_borO); (walk_at "dl evs"))
    | ((with_reducible apply L2.DL.e_opV); (focus (walk_at "dl ev")); (focus (walk_at "dl ev")); (focus (walk_at "dl ev")); (focus (walk_at "dl evd")))
    | ((with_reducible apply L2.DL.e_cons); (focus (walk_at "dl ev")); (focus (walk_at "dl ev")))
    | ((with_reducible apply L2.DL.e_ca); (focus (walk_at "dl ev")); (focus (walk_at "dl evd")))
    | ((with_reducible apply L2.DL.e_caL); (focus (walk_at "dl ev")); (focus (walk_at "dl evd")))
    | ((with_reducible apply L2.DL.e_tru); (focus (walk_at "dl ev")); (focus (walk_at "dl evd")))
    | ((with_reducible apply L2.DL.e_fz); (walk_at "dl ev"))
    | ((with_reducible apply L2.DL.e_gIt); (focus (walk_at "dl ev")); (focus (walk_at "dl evd")))
    | ((with_reducible apply L2.DL.e_iter); (focus (walk_at "dl ev")); (focus (walk_at "dl evd")))
    | ((with_reducible apply L2.DL.e_unL); (focus (walk_at "dl ev")); (focus (walk_at "dl evd")))
    | ((with_reducible apply L2.DL.e_opL); (focus (walk_at "dl ev")); (focus (walk_at "dl ev")); (focus (walk_at "dl evd")))
    | ((with_reducible apply L2.DL.e_part); (walk_at "dl ev"))
    | ((with_reducible apply L2.DL.e_sl); (focus (walk_at "dl ev")); (focus (walk_at "dl ev")); (focus (walk_at "dl ev")); (focus (walk_at "dl evd")))
    | ((with_reducible apply L2.DL.e_slV); (focus (walk_at "dl ev")); (focus (walk_at "dl ev")); (focus (walk_at "dl ev")); (focus (walk_at "dl ev")); (focus (walk_at "dl evd")))
    | ((with_reducible apply L2.DL.e_notT); (walk_at "dl ev")) | ((with_reducible apply L2.DL.e_notV); (walk_at "dl ev"))
    | ((with_reducible apply L2.DL.s_asg); (focus (walk_at "dl ev")); (focus rfl))
    | ((with_reducible apply L2.DL.s_asgL); (focus (walk_at "dl ev")); (focus rfl))
    | ((with_reducible apply L2.DL.s_ret); (walk_at "dl ev"))
    | ((with_reducible apply L2.DL.s_retL); (walk_at "dl ev"))
    | ((with_reducible apply L2.DL.s_retV); (walk_at "dl evs")) | ((with_reducible apply L2.DL.s_retVO); (walk_at "dl evs"))
    | ((with_reducible apply L2.DL.s_drop); (walk_at "dl ev"))
    | ((with_reducible apply L2.DL.s_setIx); (focus (walk_at "dl ev")); (focus (walk_at "dl evs")); (focus (walk_at "dl ev")); (focus (walk_at "dl evs")); (focus (walk_at "dl evd")))
    | ((with_reducible apply L2.DL.e_meth); (focus (walk_at "dl evs")); (focus (walk_at "dl ev")); (focus (walk_at "dl evs")); (focus (walk_at "dl evd")))
    | ((with_reducible apply L2.DL.s_par); (focus (walk_at "dl ev")); (focus rfl)))
local macro_rules | `(tactic| walk_at "dl frun") => `(tactic| (apply L2.DL.runR; (focus rfl); (focus rfl); (focus decide)))
local macro_rules | `(tactic| walk_at "dl frunN") => `(tactic| (apply L2.DL.runN; (focus rfl); (focus rfl); (focus decide)))
local macro_rules | `(tactic| walk_at "dl frunX") => `(tactic| (apply L2.DL.runX; (focus rfl); (focus rfl); (focus decide)))
local macro_rules | `(tactic| walk_at "dl st") => `(tactic| ((with_reducible apply L2.DL.s_seq); (focus (walk_at "dl ev"))))
section
set_option Elab.async false
set_option linter.all false
set_option maxRecDepth 100000
namespace L2.DL
open PySem
set_option autoImplicit false
/-! ### plain data: what repr and == say -/
mutual
def numOk (L : Nat) : PyData → Bool
  | .none => true
  | .bool _ => true
  | .int i => decide (i.natAbs < 10 ^ L)
  | .list xs => numAll L xs
  | .tuple xs => numAll L xs
  | .str _ => false
  | .dict _ => false
def numAll (L : Nat) : List PyData → Bool
  | [] => true
  | x :: xs => numOk L x && numAll L xs
end
mutual
def bulk (L : Nat) : PyData → Nat
  | .list xs => bulkAll L xs + 4
  | .tuple xs => bulkAll L xs + 4
  | .none => L + 8
  | .bool _ => L + 8
  | .int _ => L + 8
  | .str _ => 0
  | .dict _ => 0
def bulkAll (L : Nat) : List PyData → Nat
  | [] => 0
  | x :: xs => bulk L x + 2 + bulkAll L xs
end
theorem strOk_app {x y : Str} (h : PyData.strOk x = true) (h2 : PyData.strOk y = true) : PyData.strOk (x ++ y) = true := by
  unfold PyData.strOk at *
  show (x.cps ++ y.cps).all _ = true
  rw [Array.all_append, h, h2]; rfl
theorem strOk_of (s : String) : PyData.strOk (Str.ofString s) = true := by
  unfold PyData.strOk
  rw [Str.ofString_eq_toList]
  simp only [List.all_toArray, List.all_map, List.all_eq_true, Function.comp_apply, decide_eq_true_eq]
  intro c _
  have h : c.toNat.isValidChar := c.valid
  unfold Nat.isValidChar at h
  omega
theorem strOk_join : ∀ ts : List Str, (∀ t ∈ ts, PyData.strOk t = true) → PyData.strOk (Str.join ", " ts) = true
  | [], _ => by show PyData.strOk (Str.ofString "") = true; exact strOk_of ""
  | [x], h => h x List.mem_cons_self
  | x :: y :: r, h => by
    have ih := strOk_join (y :: r) fun t ht => h t (List.mem_cons_of_mem _ ht)
    show PyData.strOk (x ++ ", " ++ Str.join ", " (y :: r)) = true
    exact strOk_app (strOk_app (h x List.mem_cons_self) (strOk_of ", ")) ih
theorem strOk_from : ∀ (ts : List Str) (k : Nat) (acc : Str), (∀ t ∈ ts, PyData.strOk t = true) → PyData.strOk acc = true → PyData.strOk (textFrom k acc ts) = true
  | [], _, acc, _, ha => ha
  | t :: r, k, acc, h, ha => by
    refine strOk_from r (k + 1) _ (fun t ht => h t (List.mem_cons_of_mem _ ht)) ?_
    exact strOk_app (strOk_app ha (strOk_of _)) (h t List.mem_cons_self)
theorem list_len : ∀ ts : List Str, (listText ts).length ≤ piled ts + 2
  | [] => by show 2 ≤ _; omega
  | t :: r => by
    have e : (listText (t :: r)).length = (textFrom 1 ("[" ++ "" ++ t) r).length + 1 := by
      show (textFrom 0 "[" (t :: r) ++ "]").length = _
      rw [strLen_append]; rfl
    rw [e, textFrom_length_pos r 1 _ (by decide), piled_cons, strLen_append]
    have : ((("[" : String) : Str) ++ (("" : String) : Str)).length = 1 := rfl
    omega
theorem tup_len (ts : List Str) : (tupleText ts).length ≤ piled ts + 4 := by
  unfold tupleText
  rw [strLen_append, strLen_append]
  have e1 : ((("(" : String) : Str)).length = 1 := rfl
  have e3 : (((if ts.length == 1 then ",)" else ")" : String) : Str)).length ≤ 2 := by split <;> decide
  have e4 : (Str.join ", " ts).length ≤ piled ts := by
    by_cases h : ts = []
    · subst h; decide
    · have := join_length_add ts h
      omega
  rw [e1]
  omega
mutual
theorem num_shown {L : Nat} (hL : 0 < L) : ∀ d : PyData, numOk L d = true → d.shown.length ≤ bulk L d ∧ PyData.strOk d.shown = true
  | .none, _ => ⟨by show 4 ≤ L + 8; omega, strOk_of "None"⟩
  | .bool true, _ => ⟨by show 4 ≤ L + 8; omega, strOk_of "True"⟩
  | .bool false, _ => ⟨by show 5 ≤ L + 8; omega, strOk_of "False"⟩
  | .int i, h => by
    have h : i.natAbs < 10 ^ L := of_decide_eq_true h
    refine ⟨?_, strOk_of (toString i)⟩
    show (Str.ofString (toString i)).length ≤ L + 8
    rw [ofString_length]
    have := int_text_length_le10 hL h
    omega
  | .list xs, h => by
    obtain ⟨a, b⟩ := num_shownAll hL xs h
    refine ⟨?_, strOk_app (strOk_from _ _ _ b (strOk_of "[")) (strOk_of "]")⟩
    show (listText (PyData.shownAll xs)).length ≤ bulkAll L xs + 4
    have := list_len (PyData.shownAll xs)
    omega
  | .tuple xs, h => by
    obtain ⟨a, b⟩ := num_shownAll hL xs h
    refine ⟨?_, strOk_app (strOk_app (strOk_of "(") (strOk_join _ b)) (strOk_of _)⟩
    show (tupleText (PyData.shownAll xs)).length ≤ bulkAll L xs + 4
    have := tup_len (PyData.shownAll xs)
    omega
  | .str _, h => by cases h
  | .dict _, h => by cases h
theorem num_shownAll {L : Nat} (hL : 0 < L) : ∀ ds : List PyData, numAll L ds = true → piled (PyData.shownAll ds) ≤ bulkAll L ds ∧ ∀ t ∈ PyData.shownAll ds, PyData.strOk t = true
  | [], _ => ⟨Nat.le_refl _, fun t h => by cases h⟩
  | x :: xs, h => by
    have h : (numOk L x && numAll L xs) = true := h
    rw [Bool.and_eq_true] at h
    obtain ⟨a, b⟩ := num_shown hL x h.1
    obtain ⟨c, d⟩ := num_shownAll hL xs h.2
    refine ⟨?_, fun t ht => ?_⟩
    · show piled (x.shown :: PyData.shownAll xs) ≤ bulk L x + 2 + bulkAll L xs
      rw [piled_cons]; omega
    · have ht : t ∈ x.shown :: PyData.shownAll xs := ht
      rcases List.mem_cons.mp ht with e | e
      · subst e; exact b
      · exact d t e
end
mutual
theorem num_flags {L : Nat} (hL : L ≤ 500) : ∀ d : PyData, numOk L d = true → d.showable = true ∧ d.hasDict = false ∧ d.canLay0 = true
  | .none, _ => ⟨rfl, rfl, rfl⟩
  | .bool b, _ => ⟨rfl, rfl, rfl⟩
  | .int i, h => by
    have h : i.natAbs < 10 ^ L := of_decide_eq_true h
    refine ⟨decide_eq_true (log_lt (Nat.lt_of_lt_of_le h ?_) (by decide)), rfl, rfl⟩
    exact Nat.le_trans (Nat.pow_le_pow_right (by decide) hL) (by decide +kernel)
  | .list xs, h => num_flagsAll hL xs h
  | .tuple xs, h => num_flagsAll hL xs h
  | .str _, h => by cases h
  | .dict _, h => by cases h
theorem num_flagsAll {L : Nat} (hL : L ≤ 500) : ∀ ds : List PyData, numAll L ds = true → PyData.showableAll ds = true ∧ PyData.hasDictAll ds = false ∧ PyData.canLayAll0 ds = true
  | [], _ => ⟨rfl, rfl, rfl⟩
  | x :: xs, h => by
    have h : (numOk L x && numAll L xs) = true := h
    rw [Bool.and_eq_true] at h
    obtain ⟨a, b, c⟩ := num_flags hL x h.1
    obtain ⟨a', b', c'⟩ := num_flagsAll hL xs h.2
    exact ⟨by show (x.showable && PyData.showableAll xs) = true; rw [a, a']; rfl, by show (x.hasDict || PyData.hasDictAll xs) = false; rw [b, b']; rfl, by show (x.canLay0 && PyData.canLayAll0 xs) = true; rw [c, c']; rfl⟩
end
/-- repr of plain data; the same text twice -/
theorem rep_ok {L : Nat} {d : PyData} (h0 : 0 < L) (hL : L ≤ 500) (h : numOk L d = true) (hd : d.depth ≤ 64) (hb : bulk L d ≤ 16777216) : reprD d = some (.str d.shown) := by
  obtain ⟨a, b, _⟩ := num_flags hL d h
  obtain ⟨c, _⟩ := num_shown h0 d h
  unfold reprD
  rw [if_pos ⟨a, b, hd, by rw [sizeLine_eq]; omega⟩]
theorem ne_str {x : Str} (h : PyData.strOk x = true) : neD (.str x) (.str x) = some (.bool false) := by
  have hs : SeqAt.shaped (.str x) = true := by
    unfold SeqAt.shaped
    show (PyData.strOk x && decide (0 ≤ 64)) = true
    rw [h]; rfl
  unfold neD
  rw [if_pos ⟨hs, hs⟩]
  simp [PyData.eqv]
theorem eq_str {x : Str} (h : PyData.strOk x = true) : eqD (.str x) (.str x) = some (.bool true) := by
  have hs : SeqAt.shaped (.str x) = true := by
    unfold SeqAt.shaped
    show (PyData.strOk x && decide (0 ≤ 64)) = true
    rw [h]; rfl
  unfold eqD
  rw [if_pos ⟨hs, hs⟩]
  simp [PyData.eqv]
theorem shaped_num {L : Nat} {d : PyData} (hL : L ≤ 500) (h : numOk L d = true) (hd : d.depth ≤ 64) : SeqAt.shaped d = true := by
  unfold SeqAt.shaped
  rw [(num_flags hL d h).2.2, decide_eq_true hd]; rfl
theorem shaped_int {i : Int} : SeqAt.shaped (.int i) = true := rfl
theorem shaped_none : SeqAt.shaped .none = true := rfl
theorem eqD_ii {i j : Int} : eqD (.int i) (.int j) = some (.bool (i == j)) := rfl
theorem neD_ii {i j : Int} : neD (.int i) (.int j) = some (.bool (!(i == j))) := rfl
theorem neD_same {d : PyData} (h : SeqAt.shaped d = true) : neD d d = some (.bool false) := by
  unfold neD
  rw [if_pos ⟨h, h⟩, SeqAt.eqv_refl d (SeqAt.canLay_of_shaped h)]; rfl
theorem eqD_same {d : PyData} (h : SeqAt.shaped d = true) : eqD d d = some (.bool true) := by
  unfold eqD
  rw [if_pos ⟨h, h⟩, SeqAt.eqv_refl d (SeqAt.canLay_of_shaped h)]
theorem neD_nil {ds : List PyData} (h : SeqAt.shaped (.list ds) = true) : neD (.list ds) (.list []) = some (.bool (!ds.isEmpty)) := by
  unfold neD
  rw [if_pos ⟨h, rfl⟩]
  cases ds <;> rfl
theorem depth_ints : ∀ ns : List Int, PyData.depthAll (ns.map PyData.int) = 0
  | [] => rfl
  | n :: ns => by show max 0 (PyData.depthAll (ns.map PyData.int)) = 0; rw [depth_ints ns]; rfl
theorem canLay_ints : ∀ ns : List Int, PyData.canLayAll0 (ns.map PyData.int) = true
  | [] => rfl
  | n :: ns => by show (true && PyData.canLayAll0 (ns.map PyData.int)) = true; rw [canLay_ints ns]; rfl
theorem shaped_ints (ns : List Int) : SeqAt.shaped (.list (ns.map .int)) = true := by
  unfold SeqAt.shaped
  show (PyData.canLayAll0 _ && decide (PyData.depthAll _ + 1 ≤ 64)) = true
  rw [canLay_ints, depth_ints]; rfl
theorem shaped_tints (ns : List Int) : SeqAt.shaped (.tuple (ns.map .int)) = true := by
  unfold SeqAt.shaped
  show (PyData.canLayAll0 _ && decide (PyData.depthAll _ + 1 ≤ 64)) = true
  rw [canLay_ints, depth_ints]; rfl
theorem numAll_ints {L : Nat} : ∀ ns : List Int, (∀ n ∈ ns, n.natAbs < 10 ^ L) → numAll L (ns.map .int) = true
  | [], _ => rfl
  | n :: ns, h => by
    show (decide (n.natAbs < 10 ^ L) && numAll L (ns.map .int)) = true
    rw [decide_eq_true (h n List.mem_cons_self), numAll_ints ns fun m hm => h m (List.mem_cons_of_mem _ hm)]; rfl
theorem bulk_ints {L : Nat} : ∀ ns : List Int, bulkAll L (ns.map .int) = ns.length * (L + 10)
  | [] => by simp [bulkAll]
  | n :: ns => by
    show L + 8 + 2 + bulkAll L (ns.map .int) = _
    rw [bulk_ints ns, List.length_cons, Nat.add_mul]; omega
end L2.DL
end
section
set_option Elab.async false
set_option linter.all false
set_option maxRecDepth 100000
set_option maxHeartbeats 2000000
/-! the walk over all choices out of a range, at the library's level -/
namespace PySem
namespace F
theorem cmb_mro : mroOf (.type "itertools.combinations") = pure [.type "itertools.combinations", .type "object"] := by rw [mroOf_type]; kernel_rfl
theorem cmb_new : typeLookup (.type "itertools.combinations") "__new__" = pure (some (.builtin "itertools.combinations.__new__")) := by rw [typeLookup_type, builtinLookup_eq_fast]; kernel_rfl
theorem cmb_sub : isSubtype (.type "itertools.combinations") (.type "itertools.combinations") = pure true := by rw [isSubtype_type]; kernel_rfl
theorem cmb_slot_init : Slot "itertools.combinations" "__init__" "object.__init__" :=
  .of (owner := "object") (n := "__init__") (by rw [typeLookup_type, builtinLookup_eq_fast]; kernel_rfl) (by decide +kernel) (by decide +kernel) (by decide +kernel)
    (by first | exact .inl (by decide +kernel) | exact .inr (by decide +kernel)) (by rw [isSubtype_type]; kernel_rfl)
theorem cmb_slot_next : Slot "itertools.combinations" "__next__" "itertools.combinations.__next__" :=
  .of (owner := "itertools.combinations") (n := "__next__") (by rw [typeLookup_type, builtinLookup_eq_fast]; kernel_rfl) (by decide +kernel) (by decide +kernel) (by decide +kernel)
    (by first | exact .inl (by decide +kernel) | exact .inr (by decide +kernel)) (by rw [isSubtype_type]; kernel_rfl)
theorem cmb_called : TypeCalled "itertools.combinations" "itertools.combinations.__new__" "object.__init__" :=
  ⟨by decide +kernel, by decide +kernel, ⟨_, _, cmb_mro⟩, madeBy_type cmb_mro cmb_new (by decide +kernel), by decide +kernel, cmb_sub, cmb_slot_init⟩
theorem cmb_typeCall (a b : Value) : checkTypeCall "itertools.combinations" ⟨[a, b], []⟩ = pure () := by kernel_rfl
theorem cmb_newCall (a b : Value) : checkBuiltinCall "itertools.combinations.__new__" ⟨[.type "itertools.combinations", a, b], []⟩ = pure () := by kernel_rfl
theorem cmb_entry_new : entryFor table "itertools.combinations.__new__" = some Builtin.«itertools.combinations.__new__» := entryFor_of_tree (by kernel_rfl)
theorem cmb_entry_next : entryFor table "itertools.combinations.__next__" = some Builtin.«itertools.combinations.__next__» := entryFor_of_tree (by kernel_rfl)
theorem cmb_args_next (a : Value) : argsOk "itertools.combinations.__next__" ⟨[a], []⟩ := by unfold argsOk; kernel_rfl
theorem cmb_noDict : typeHasDict (.type "itertools.combinations") = false := by kernel_rfl
end F
end PySem
end
section
set_option Elab.async false
set_option linter.all false
set_option maxRecDepth 100000
set_option maxHeartbeats 2000000
/-! all choices out of a range: made, walked -/
namespace CM
open PySem PySem.Spec PyProof.Rows L2
/-- the choice behind l, of n -/
def after (n : Nat) (l : List Nat) : Option (List Nat) :=
  match (List.range l.length).reverse.find? (fun j => l.getD j 0 != j + n - l.length) with
  | none => none
  | some j => some (l.take j ++ (List.range (l.length - j)).map fun k => l.getD j 0 + 1 + k)
/-- the walker's object -/
def obj (pool : Addr) (mode : Int) (last : Value) (l : List Nat) : Obj :=
  { cls := .type "itertools.combinations", dict := none, data := .fields ([.ref pool, rawInt mode, last] ++ l.map fun (k : Nat) => rawInt k).toArray, slots := #[] }
section
variable {prog : Program} {w : World} {A : Around} {E : Value → Shared → Prop} {s : Shared}
theorem bound (a b : Value) : Builtin.Itertools.itBindNamed "combinations" ["iterable", "r"] 2 2 [a, b] [] = pure [some a, some b] := by
  first | rfl | kernel_rfl
theorem new_code {r : Addr} {a b c : Int} {t u v : Tok} {n : Nat} {k : Nat} {tk : Tok} {Q₁ : Value → Shared → Prop} (hh : A.handled = none) (hr : IsRange s.heap r a b c t u v) (hsmall : Builtin.Range.small a b c = true) (hn : Builtin.Range.rangeSize a b c = n) (hlen : n ≤ 2 ^ 20) (hk : k ≤ 2 ^ 20)
    (h : ∀ (h' : Heap) (tk : Nat) (acc : Array Value), (∀ b o, s.heap.get? b = some o → h'.get? b = some o) → ItemsOf (fun i v => ∃ t, v = .int (a + i * c) t) acc n →
      Q₁ (.ref (h'.objs.size + 1)) { s with heap := (h'.push { cls := .type "tuple", data := .seq acc }).push (obj h'.objs.size (if k > n then 2 else 0) .none (List.range k)), toks := tk }) :
    codeAny (model prog w) A (.call (.builtin "itertools.combinations.__new__") ⟨[.type "itertools.combinations", .ref r, .int (k : Int) tk], []⟩) (wants Q₁ E) s := by
  refine codeAny_call_builtin (by decide +kernel) F.cmb_entry_new (wpAny_of_eq (F.cmb_newCall _ _) ?_)
  unfold Builtin.«itertools.combinations.__new__»
  refine wpAny_bind ?_
  show wpAny _ _ (Builtin.Itertools.itClassAndRest "combinations" _ >>= _) _ _ _
  refine wpAny_bind ?_
  unfold Builtin.Itertools.itClassAndRest
  refine wpAny_bind (wpAny_of_eq (a := true) rfl ?_)
  refine PySem.W.KFB.if_not rfl ?_
  refine wpAny_bind (wpAny_of_eq (a := true) F.cmb_sub ?_)
  refine PySem.W.KFB.if_not rfl ?_
  refine wpAny_pure ?_
  refine wpAny_bind (wpAny_of_eq (bound _ _) ?_)
  show wpAny _ _ (Builtin.Itertools.itSsizeArg (.int (k : Int) tk) >>= _) _ _ _
  refine wpAny_bind (wpAny_of_eq (a := (k : Int)) ?_ ?_)
  · show (if (decide ((k : Int) < -(2 ^ 63 : Int)) || decide ((k : Int) ≥ 2 ^ 63)) = true then _ else _) = _
    rw [decide_eq_false (by omega), decide_eq_false (by omega), if_neg (by decide)]
  refine wpAny_bind (collect_range hh hr hsmall hn (by omega) fun h' tk' acc keep items => ?_)
  have hsz : acc.toList.length = n := by rw [Array.length_toList]; exact items.1
  show wpAny _ _ (if (k : Int) < 0 then _ else _) _ _ _
  rw [if_neg (by omega)]
  show wpAny _ _ (if Builtin.Itertools.itTooMany (k : Int) = true then _ else _) _ _ _
  rw [if_neg (by unfold Builtin.Itertools.itTooMany; rw [decide_eq_true_eq]; omega)]
  refine wpAny_bind (wpAny_newTuple ?_)
  refine wpAny_pure ?_
  show wpAny _ _ (Builtin.Itertools.itNewRecord _ _ >>= _) _ _ _
  refine wpAny_bind ?_
  unfold Builtin.Itertools.itNewRecord
  rw [F.cmb_noDict]
  rw [if_pos (by rfl : (!false) = true)]
  rw [hsz, Int.toNat_natCast]
  refine wpAny_newObj_type (wpAny_pure ?_) ?_
  · have := h h' tk' acc keep items
    rw [Array.toArray_toList]
    rw [Heap.size_push]
    exact this
  · show List.length _ ≤ sizeLine + 2
    rw [List.length_append, List.length_map, List.length_range, sizeLine_eq]
    show 3 + k ≤ _
    omega
theorem call_new {r : Addr} {a b c : Int} {t u v : Tok} {n : Nat} {k : Nat} {tk : Tok} {Q : Value → Shared → Prop} (hh : A.handled = none) (hr : IsRange s.heap r a b c t u v) (hsmall : Builtin.Range.small a b c = true) (hn : Builtin.Range.rangeSize a b c = n) (hlen : n ≤ 2 ^ 20) (hk : k ≤ 2 ^ 20)
    (h : ∀ (h' : Heap) (tk : Nat) (acc : Array Value), (∀ b o, s.heap.get? b = some o → h'.get? b = some o) → ItemsOf (fun i v => ∃ t, v = .int (a + i * c) t) acc n →
      Q (.ref (h'.objs.size + 1)) { s with heap := (h'.push { cls := .type "tuple", data := .seq acc }).push (obj h'.objs.size (if k > n then 2 else 0) .none (List.range k)), toks := tk }) :
    wpAny (model prog w) A (call (.type "itertools.combinations") [.ref r, .int (k : Int) tk]) Q E s := by
  refine callType_codes (Q₁ := fun o s1 => s1.TypeIs o "itertools.combinations" ∧ Q o s1) F.cmb_called (F.cmb_typeCall _ _) F.entry_object_init (new_code hh hr hsmall hn hlen hk fun h' tk' acc keep items => ⟨?_, h h' tk' acc keep items⟩) ?_
  · refine ⟨obj h'.objs.size (if k > n then 2 else 0) .none (List.range k), ?_, rfl⟩
    have e : h'.objs.size + 1 = (h'.push { cls := .type "tuple", data := .seq acc }).objs.size := (Heap.size_push ..).symm
    rw [e]
    exact Heap.get?_push_size _ rfl
  · rintro o s1 ⟨hT, hq⟩
    exact ⟨hT, F.args_object_init_3 o _ _, object_init_meets F.cmb_called.init.lookup F.cmb_called.made (by decide +kernel) prog w A.in1 _ s1 ⟨hT, rfl, hq⟩⟩
theorem fld_set1 {p x y : Value} {L : List Value} {z : Value} : ([p, x, y] ++ L).toArray.setIfInBounds 1 z = ([p, z, y] ++ L).toArray := by simp
theorem fld_set2 {p x y : Value} {L : List Value} {z : Value} : ([p, x, y] ++ L).toArray.setIfInBounds 2 z = ([p, x, z] ++ L).toArray := by simp
theorem drop3 {f : Value → Nat} {a b c : Value} {l : List Nat} (hf : ∀ k : Nat, f (rawInt k) = k) : List.map f (List.drop 3 ([a, b, c] ++ List.map (fun (k : Nat) => rawInt k) l).toArray.toList) = l := by
  simp only [List.cons_append, List.nil_append, List.drop_succ_cons, List.drop_zero, List.map_map]
  conv => rhs; rw [← List.map_id l]
  exact List.map_congr_left fun k _ => hf k
/-- what is handed out: the tuple of the chosen -/
theorem hand_out {z pool : Addr} {x last : Value} {l : List Nat} {items : Array Value} {Q : Value → Shared → Prop} {s : Shared} (hz : s.heap.get? z = some { cls := .type "itertools.combinations", dict := none, data := .fields ([.ref pool, x, last] ++ l.map fun (k : Nat) => rawInt k).toArray, slots := #[] }) (hp : s.heap.IsTuple pool items) (hl : l.length ≤ 2 ^ 20)
    (hQ : ∀ h', h'.get? z = some { cls := .type "itertools.combinations", dict := none, data := .fields ([.ref pool, x, .ref s.heap.objs.size] ++ l.map fun (k : Nat) => rawInt k).toArray, slots := #[] } → h'.get? s.heap.objs.size = some { cls := .type "tuple", data := .seq (l.map fun i => items.getD i .none).toArray } → h'.objs.size = s.heap.objs.size + 1 →
      (∀ c o, c ≠ z → s.heap.get? c = some o → h'.get? c = some o) → Q (.ref s.heap.objs.size) { s with heap := h' }) :
    wpAny (model prog w) A (do
      let result ← (do
        let its ← Builtin.Itertools.itPoolItems (.ref pool)
        newTuple (l.map fun i => its.getD i .none))
      let before ← field (.ref z) 2
      setField (.ref z) 2 result
      letGo [before] [result]
      ret result) (fun fin s' => ∃ v, fin = .done (.ret v) ∧ Q v s') E s := by
  obtain ⟨op, hop, _, nn, hdp⟩ := hp
  refine wpAny_bind ?_
  refine wpAny_bind ?_
  unfold Builtin.Itertools.itPoolItems
  refine wpAny_bind (wpAny_seqItems hop hdp ?_)
  refine wpAny_pure ?_
  refine wpAny_newTuple ?_ (by rw [List.length_map, sizeLine_eq]; omega)
  have hlt : z < s.heap.objs.size := Heap.lt_size hz
  refine wpAny_bind (wpAny_field (Heap.get?_push_of_some _ hz) rfl (x := last) (by simp) ?_)
  refine wpAny_bind (wpAny_setField_rec (Heap.get?_push_of_some _ hz) (by simp) fun h2 hz2 hs2 => ?_)
  rw [fld_set2] at hz2
  refine wpAny_bind (wpAny_letGo (wpAny_pure ⟨_, rfl, ?_⟩))
  refine hQ h2 hz2 ?_ ?_ fun c o hc e => hs2.extBut _ _ hc (Heap.get?_push_of_some _ e)
  · exact hs2.extBut _ _ (Nat.ne_of_gt hlt) (Heap.get?_push_size _ rfl)
  · rw [hs2.1]; exact Heap.size_push ..
theorem next_head {z pool : Addr} {m : Int} {last : Value} {l : List Nat} {items : Array Value} {Q : Fin → Shared → Prop} (hz : s.heap.get? z = some (obj pool m last l)) 
    (h : wpAny (model prog w) A (match m with
      | 0 => do
        setField (.ref z) 1 (rawInt 1)
        (do
          let result ← (do
            let its ← Builtin.Itertools.itPoolItems (.ref pool)
            newTuple (l.map fun i => its.getD i .none))
          let before ← field (.ref z) 2
          setField (.ref z) 2 result
          letGo [before] [result]
          ret result)
      | 1 => do
        let its ← Builtin.Itertools.itPoolItems (.ref pool)
        match after its.size l with
        | some nx => do
          Builtin.Itertools.itSetNumbersFrom (.ref z) 3 nx
          (do
            let result ← (do
              let its ← Builtin.Itertools.itPoolItems (.ref pool)
              newTuple (nx.map fun i => its.getD i .none))
            let before ← field (.ref z) 2
            setField (.ref z) 2 result
            letGo [before] [result]
            ret result)
        | none => do
          setField (.ref z) 1 (rawInt 2)
          Builtin.Itertools.itStop
      | _ => do
        rule "itertools.combinations.ended"
        Builtin.Itertools.itStop) Q E s) :
    wpAny (model prog w) A (Builtin.«itertools.combinations.__next__» ⟨[.ref z], []⟩) Q E s := by
  show wpAny _ _ (field (.ref z) 0 >>= _) _ _ _
  refine wpAny_bind (wpAny_field hz rfl (x := .ref pool) rfl ?_)
  show wpAny _ _ (Builtin.Itertools.itNumbersFrom (.ref z) 3 >>= _) _ _ _
  refine wpAny_bind ?_
  unfold Builtin.Itertools.itNumbersFrom
  show wpAny _ _ (load z >>= _) _ _ _
  refine wpAny_bind (wpAny_load hz ?_)
  refine wpAny_pure ?_
  show wpAny _ _ (Builtin.Itertools.itIntField (.ref z) 1 >>= _) _ _ _
  refine wpAny_bind ?_
  unfold Builtin.Itertools.itIntField
  refine wpAny_bind (wpAny_field hz rfl (x := rawInt m) (by simp [obj]) ?_)
  refine wpAny_pure ?_
  rw [drop3 fun k => Int.toNat_natCast k]
  exact h
theorem up1 {z : Addr} {h h' : Heap} (sb : Heap.SameBut z h h') {p : Addr} {items : Array Value} (hne : p ≠ z) (hp : h.IsTuple p items) : h'.IsTuple p items := by
  obtain ⟨o, ho, r⟩ := hp
  exact ⟨o, sb.extBut _ _ hne ho, r⟩
theorem pool_ne {z pool : Addr} {m : Int} {last : Value} {l : List Nat} {items : Array Value} {h : Heap} (hz : h.get? z = some (obj pool m last l)) (hp : h.IsTuple pool items) : pool ≠ z := by
  rintro rfl
  obtain ⟨o, ho, _, n, hd⟩ := hp
  rw [hz] at ho; cases ho; cases hd
theorem next_first {z pool : Addr} {last : Value} {l : List Nat} {items : Array Value} {Q : Value → Shared → Prop} (hz : s.heap.get? z = some (obj pool 0 last l)) (hp : s.heap.IsTuple pool items) (hl : l.length ≤ 2 ^ 20)
    (hQ : ∀ h', h'.get? z = some (obj pool 1 (.ref s.heap.objs.size) l) → h'.get? s.heap.objs.size = some { cls := .type "tuple", data := .seq (l.map fun i => items.getD i .none).toArray } → h'.objs.size = s.heap.objs.size + 1 →
      (∀ c o, c ≠ z → s.heap.get? c = some o → h'.get? c = some o) → Q (.ref s.heap.objs.size) { s with heap := h' }) :
    wpAny (model prog w) A (Builtin.«itertools.combinations.__next__» ⟨[.ref z], []⟩) (fun fin s' => ∃ v, fin = .done (.ret v) ∧ Q v s') E s := by
  refine next_head (items := items) hz ?_
  refine wpAny_bind (wpAny_setField_rec hz (by simp) fun h1 hz1 hs1 => ?_)
  rw [fld_set1] at hz1
  refine hand_out (s := { s with heap := h1 }) hz1 (up1 hs1 (pool_ne hz hp) hp) hl fun h' a b c d => ?_
  have e : h1.objs.size = s.heap.objs.size := hs1.1
  have a : h'.get? z = some (obj pool 1 (.ref h1.objs.size) l) := a
  have b : h'.get? h1.objs.size = _ := b
  have c : h'.objs.size = h1.objs.size + 1 := c
  show Q (.ref h1.objs.size) _
  rw [e] at a b c ⊢
  exact hQ h' a b c fun x o hx hg => d x o hx (hs1.extBut _ _ hx hg)
theorem next_more {z pool : Addr} {last : Value} {l nx : List Nat} {items : Array Value} {Q : Value → Shared → Prop} (hz : s.heap.get? z = some (obj pool 1 last l)) (hp : s.heap.IsTuple pool items) (hx : after items.size l = some nx) (hl : nx.length ≤ 2 ^ 20)
    (hQ : ∀ h', h'.get? z = some (obj pool 1 (.ref s.heap.objs.size) nx) → h'.get? s.heap.objs.size = some { cls := .type "tuple", data := .seq (nx.map fun i => items.getD i .none).toArray } → h'.objs.size = s.heap.objs.size + 1 →
      (∀ c o, c ≠ z → s.heap.get? c = some o → h'.get? c = some o) → Q (.ref s.heap.objs.size) { s with heap := h' }) :
    wpAny (model prog w) A (Builtin.«itertools.combinations.__next__» ⟨[.ref z], []⟩) (fun fin s' => ∃ v, fin = .done (.ret v) ∧ Q v s') E s := by
  refine next_head (items := items) hz ?_
  have hp' := hp
  obtain ⟨op, hop, _, nn, hdp⟩ := hp
  show wpAny _ _ (Builtin.Itertools.itPoolItems (.ref pool) >>= _) _ _ _
  refine wpAny_bind ?_
  unfold Builtin.Itertools.itPoolItems
  refine wpAny_bind (wpAny_seqItems hop hdp (wpAny_pure ?_))
  rw [hx]
  show wpAny _ _ (Builtin.Itertools.itSetNumbersFrom (.ref z) 3 nx >>= _) _ _ _
  refine wpAny_bind ?_
  unfold Builtin.Itertools.itSetNumbersFrom
  have hset : (([.ref pool, rawInt 1, last] ++ l.map fun (k : Nat) => rawInt k).toArray.extract 0 3 ++ (nx.map fun (n : Nat) => rawInt n).toArray) = ([.ref pool, rawInt 1, last] ++ nx.map fun (k : Nat) => rawInt k).toArray := by simp
  refine wpAny_updateFields hz rfl ?_ (by rw [hset, List.size_toArray, List.length_append, List.length_map, sizeLine_eq]; show 3 + _ ≤ _; omega)
  have hz1 := Heap.get?_update_self (Obj.mapFields fun fs => fs.extract 0 3 ++ (nx.map fun (n : Nat) => rawInt n).toArray) hz rfl
  have hs1 : Heap.SameBut z s.heap (s.heap.update z (Obj.mapFields fun fs => fs.extract 0 3 ++ (nx.map fun (n : Nat) => rawInt n).toArray)) := Heap.SameBut.update ..
  generalize s.heap.update z (Obj.mapFields fun fs => fs.extract 0 3 ++ (nx.map fun (n : Nat) => rawInt n).toArray) = h1 at hz1 hs1
  have hz1 : h1.get? z = some { cls := .type "itertools.combinations", dict := none, data := .fields (([.ref pool, rawInt 1, last] ++ l.map fun (k : Nat) => rawInt k).toArray.extract 0 3 ++ (nx.map fun (n : Nat) => rawInt n).toArray), slots := #[] } := hz1
  rw [hset] at hz1
  refine hand_out (s := { s with heap := h1 }) hz1 (up1 hs1 (pool_ne hz hp') hp') hl fun h' a b c d => ?_
  have e : h1.objs.size = s.heap.objs.size := hs1.1
  have a : h'.get? z = some (obj pool 1 (.ref h1.objs.size) nx) := a
  have b : h'.get? h1.objs.size = _ := b
  have c : h'.objs.size = h1.objs.size + 1 := c
  show Q (.ref h1.objs.size) _
  rw [e] at a b c ⊢
  exact hQ h' a b c fun x o hx hg => d x o hx (hs1.extBut _ _ hx hg)
theorem stops {Q : Fin → Shared → Prop} (hh : A.handled = none) (hE : ∀ h' e, (∀ c o, s.heap.get? c = some o → h'.get? c = some o) → (∃ o, h'.get? e = some o ∧ o.cls = .type "StopIteration") → E (.ref e) { s with heap := h' }) :
    wpAny (model prog w) A (Builtin.Itertools.itStop : Sem Fin) Q E s := by
  unfold Builtin.Itertools.itStop
  refine wpAny_bind ?_
  simp only [newExc, newTuple]
  refine wpAny_bind (wpAny_newObj_type ?_ (by size_fits))
  refine wpAny_bind (m := firstArgMember _ _) (wpAny_of_eq (a := Value.none) (by first | rfl | (simp only [firstArgMember]; rfl)) ?_)
  refine wpAny_newObj_type ?_ (by size_fits)
  simp only [raiseNew]
  refine wpAny_bind (wpAny_handled ?_)
  first | rw [show A.in1.handled = none from hh] | rw [hh]
  refine wpAny_bind (wpAny_pure (wpAny_throw ?_))
  exact hE _ _ (fun c o x => Heap.get?_push_of_some _ (Heap.get?_push_of_some _ x)) ⟨_, Heap.get?_push_size _ rfl, rfl⟩
theorem stop_at {z pool : Addr} {m : Int} {last : Value} {l : List Nat} {items : Array Value} {Q : Fin → Shared → Prop} (hh : A.handled = none) (hz : s.heap.get? z = some (obj pool m last l)) (hp : s.heap.IsTuple pool items) (hm : (m = 1 ∧ after items.size l = none) ∨ m = 2)
    (hE : ∀ h' e, h'.get? z = some (obj pool 2 last l) → (∀ c o, c ≠ z → s.heap.get? c = some o → h'.get? c = some o) → (∃ o, h'.get? e = some o ∧ o.cls = .type "StopIteration") → E (.ref e) { s with heap := h' }) :
    wpAny (model prog w) A (Builtin.«itertools.combinations.__next__» ⟨[.ref z], []⟩) Q E s := by
  have hp' := hp
  obtain ⟨op, hop, _, nn, hdp⟩ := hp
  refine next_head (items := items) hz ?_
  rcases hm with ⟨rfl, ha⟩ | rfl
  · show wpAny _ _ (Builtin.Itertools.itPoolItems (.ref pool) >>= _) _ _ _
    refine wpAny_bind ?_
    unfold Builtin.Itertools.itPoolItems
    refine wpAny_bind (wpAny_seqItems hop hdp (wpAny_pure ?_))
    rw [ha]
    show wpAny _ _ (setField (.ref z) 1 (rawInt 2) >>= _) _ _ _
    refine wpAny_bind (wpAny_setField_rec hz (by simp) fun h1 hz1 hs1 => ?_)
    rw [fld_set1] at hz1
    refine stops (s := { s with heap := h1 }) hh fun h' e k x => ?_
    exact hE h' e (k _ _ hz1) (fun c o hc g => k _ _ (hs1.extBut _ _ hc g)) x
  · show wpAny _ _ (rule "itertools.combinations.ended" >>= _) _ _ _
    refine wpAny_bind (wpAny_rule ?_)
    exact stops hh fun h' e k x => hE h' e (k _ _ hz) (fun c o _ g => k _ _ g) x
/-! ### the step of a loop -/
theorem step_first {z pool : Addr} {last : Value} {l : List Nat} {items : Array Value} {Q : Option Value → Shared → Prop} (hz : s.heap.get? z = some (obj pool 0 last l)) (hp : s.heap.IsTuple pool items) (hl : l.length ≤ 2 ^ 20)
    (hQ : ∀ h', h'.get? z = some (obj pool 1 (.ref s.heap.objs.size) l) → h'.get? s.heap.objs.size = some { cls := .type "tuple", data := .seq (l.map fun i => items.getD i .none).toArray } → h'.objs.size = s.heap.objs.size + 1 →
      (∀ c o, c ≠ z → s.heap.get? c = some o → h'.get? c = some o) → Q (some (.ref s.heap.objs.size)) { s with heap := h' }) : wpAny (model prog w) A (pyNext (.ref z)) Q E s := by
  have hT : s.TypeIs (.ref z) "itertools.combinations" := ⟨_, hz, rfl⟩
  unfold pyNext
  exact wpAny_bind (wpAny_attempt (wpAny_callSpecial?_slot (name := Str.ofString "__next__") hT F.cmb_slot_next
    (wpAny_call_entry F.cmb_slot_next hT F.cmb_entry_next (next_first hz hp hl fun h' a b c d => wpAny_pure (hQ h' a b c d)) (F.cmb_args_next _))))
theorem step_more {z pool : Addr} {last : Value} {l nx : List Nat} {items : Array Value} {Q : Option Value → Shared → Prop} (hz : s.heap.get? z = some (obj pool 1 last l)) (hp : s.heap.IsTuple pool items) (hx : after items.size l = some nx) (hl : nx.length ≤ 2 ^ 20)
    (hQ : ∀ h', h'.get? z = some (obj pool 1 (.ref s.heap.objs.size) nx) → h'.get? s.heap.objs.size = some { cls := .type "tuple", data := .seq (nx.map fun i => items.getD i .none).toArray } → h'.objs.size = s.heap.objs.size + 1 →
      (∀ c o, c ≠ z → s.heap.get? c = some o → h'.get? c = some o) → Q (some (.ref s.heap.objs.size)) { s with heap := h' }) : wpAny (model prog w) A (pyNext (.ref z)) Q E s := by
  have hT : s.TypeIs (.ref z) "itertools.combinations" := ⟨_, hz, rfl⟩
  unfold pyNext
  exact wpAny_bind (wpAny_attempt (wpAny_callSpecial?_slot (name := Str.ofString "__next__") hT F.cmb_slot_next
    (wpAny_call_entry F.cmb_slot_next hT F.cmb_entry_next (next_more hz hp hx hl fun h' a b c d => wpAny_pure (hQ h' a b c d)) (F.cmb_args_next _))))
theorem step_end {z pool : Addr} {m : Int} {last : Value} {l : List Nat} {items : Array Value} {Q : Option Value → Shared → Prop} (hh : A.handled = none) (hz : s.heap.get? z = some (obj pool m last l)) (hp : s.heap.IsTuple pool items) (hm : (m = 1 ∧ after items.size l = none) ∨ m = 2)
    (hQ : ∀ h', (∀ c o, c ≠ z → s.heap.get? c = some o → h'.get? c = some o) → Q none { s with heap := h' }) : wpAny (model prog w) A (pyNext (.ref z)) Q E s := by
  have hT : s.TypeIs (.ref z) "itertools.combinations" := ⟨_, hz, rfl⟩
  unfold pyNext
  refine wpAny_bind (wpAny_attempt (wpAny_callSpecial?_slot (name := Str.ofString "__next__") hT F.cmb_slot_next
    (wpAny_call_entry F.cmb_slot_next hT F.cmb_entry_next (stop_at hh hz hp hm fun h' e _ hk he => ?_) (F.cmb_args_next _))))
  obtain ⟨o, ho, hc⟩ := he
  refine wpAny_bind (wpAny_isInstance (T := "StopIteration") (b := true) ⟨o, ho, hc⟩ isSubtype_stop ?_)
  exact wpAny_pure (hQ _ hk)
end
end CM
end
section
set_option Elab.async false
set_option linter.all false
set_option maxRecDepth 100000
set_option maxHeartbeats 2000000
namespace PySem
namespace F
theorem cmb_slot_iter : Slot "itertools.combinations" "__iter__" "itertools.combinations.__iter__" :=
  .of (owner := "itertools.combinations") (n := "__iter__") (by rw [typeLookup_type, builtinLookup_eq_fast]; kernel_rfl) (by decide +kernel) (by decide +kernel) (by decide +kernel)
    (by first | exact .inl (by decide +kernel) | exact .inr (by decide +kernel)) (by rw [isSubtype_type]; kernel_rfl)
theorem cmb_entry_iter : entryFor table "itertools.combinations.__iter__" = some Builtin.«dict_keyiterator.__iter__» :=
  entryFor_alias (id' := "dict_keyiterator.__iter__") (by kernel_rfl) (by first | rfl | decide +kernel | (unfold String.splitOn; simp +decide [String.splitOnAux])) (by decide +kernel) (by kernel_rfl)
theorem cmb_args_iter (a : Value) : argsOk "itertools.combinations.__iter__" ⟨[a], []⟩ := by unfold argsOk; kernel_rfl
end F
end PySem
namespace CM
open PySem PySem.Spec PyProof.Rows L2
/-- the choices, one behind the other -/
structure Good (n k : Nat) (cs : List (List Nat)) : Prop where
  few : ∀ l ∈ cs, l.length ≤ 2 ^ 20 ∧ ∀ j ∈ l, j < n
  run : (k ≤ n ∧ cs[0]? = some (List.range k) ∧ ∀ i l, cs[i]? = some l → after n l = cs[i + 1]?) ∨ (n < k ∧ cs = [])
def Itc (cs : List (List Nat)) : It :=
  ⟨fun i _ => i < cs.length, fun i H v H' => ∃ T l, cs[i]? = some l ∧ v = .ref T ∧ H T = none ∧ H' = upd H T (.tup (l.map fun (j : Nat) => V.int (j : Int))), fun i _ => cs.length ≤ i⟩
theorem self_iter {prog : Program} {w : World} {A : Around} {E : Value → Shared → Prop} {s : Shared} {z pool : Addr} {m : Int} {last : Value} {l : List Nat} {Q : Value → Shared → Prop} (hz : s.heap.get? z = some (obj pool m last l)) (h : Q (.ref z) s) : wpAny (model prog w) A (pyIter (.ref z)) Q E s := by
  have hT : s.TypeIs (.ref z) "itertools.combinations" := ⟨_, hz, rfl⟩
  refine wpAny_pyIter_slot hT F.cmb_slot_iter (wpAny_call_entry F.cmb_slot_iter hT F.cmb_entry_iter ?_ (F.cmb_args_iter _))
  show wpAny _ _ (ret (.ref z)) _ _ s
  exact wpAny_pure ⟨_, rfl, "itertools.combinations", _, hT, F.cmb_slot_next.lookup, h⟩
/-- the state ahead of turn i -/
def At (n k : Nat) (cs : List (List Nat)) (z pool : Addr) (items : Array Value) (i : Nat) (h : Heap) : Prop :=
  (∃ o, h.get? pool = some o ∧ o.cls = .type "tuple" ∧ ∃ c, o.data = .seq items c) ∧ ∃ last, (i = 0 ∧ k ≤ n ∧ h.get? z = some (obj pool 0 last (List.range k))) ∨ (∃ j l, i = j + 1 ∧ k ≤ n ∧ cs[j]? = some l ∧ h.get? z = some (obj pool 1 last l)) ∨ (n < k ∧ h.get? z = some (obj pool 2 last (List.range k)))
theorem chosen {n : Nat} {items : Array Value} (hi : ItemsOf (fun i v => ∃ t, v = .int (0 + (i : Int) * 1) t) items n) : ∀ {l : List Nat}, (∀ j ∈ l, j < n) → Vals (l.map fun (j : Nat) => V.int (j : Int)) (l.map fun j => items.getD j .none)
  | [], _ => .nil
  | j :: l, h => by
    refine .cons ?_ (chosen hi fun x hx => h x (List.mem_cons_of_mem _ hx))
    have hj := h j List.mem_cons_self
    have hlt : j < items.size := by rw [hi.1]; exact hj
    obtain ⟨t, e⟩ := hi.2 j items[j] (Array.getElem?_eq_getElem hlt)
    refine ⟨t, ?_⟩
    show items.getD j .none = _
    rw [Array.getD_eq_getD_getElem?, Array.getElem?_eq_getElem hlt]
    show items[j] = _
    rw [e]
    have : (0 : Int) + (j : Int) * 1 = (j : Int) := by omega
    rw [this]
theorem turn {P : Program} {w : World} {K : PySem.W.Frag} {tg : Expr} {n k : Nat} {cs : List (List Nat)} {z pool : Addr} {items : Array Value} (g : Good n k cs) (hi : ItemsOf (fun i v => ∃ t, v = .int (0 + (i : Int) * 1) t) items n) (hne : pool ≠ z) (hk : k ≤ 2 ^ 20) :
    Turn P w K tg (Itc cs) [z, pool] z (At n k cs z pool items) where
  mem := by simp
  obj := fun i h st c hc => by
    obtain ⟨⟨o, ho, _, cc, hd⟩, last, st⟩ := st
    have e' : c = z ∨ c = pool := by simpa using hc
    rcases e' with q | q
    · rw [q]
      rcases st with ⟨_, _, e⟩ | ⟨_, _, _, _, _, e⟩ | ⟨_, e⟩ <;> exact ⟨_, e, fun v q => nomatch q⟩
    · rw [q]; exact ⟨o, ho, fun v q => by rw [hd] at q; cases q⟩
  keep := fun i h h' st kp => by
    obtain ⟨⟨o, ho, r⟩, last, st⟩ := st
    refine ⟨⟨o, kp pool (by simp) _ ho, r⟩, last, ?_⟩
    rcases st with ⟨a, b, e⟩ | ⟨j, l, a, b, c, e⟩ | ⟨a, e⟩
    · exact .inl ⟨a, b, kp z (by simp) _ e⟩
    · exact .inr (.inl ⟨j, l, a, b, c, kp z (by simp) _ e⟩)
    · exact .inr (.inr ⟨a, kp z (by simp) _ e⟩)
  item := by
    intro X hP hw hK hc i pins s σ H E I hf st hg
    subst hP hw hK
    obtain ⟨hp, last, st⟩ := st
    have hp' : s.heap.IsTuple pool items := by obtain ⟨o, ho, hc, c, hd⟩ := hp; exact ⟨o, ho, hc, c, hd⟩
    have hg : i < cs.length := hg
    have fin : ∀ (l : List Nat) (h' : Heap), cs[i]? = some l → (i = i ∧ k ≤ n) → h'.get? z = some (obj pool 1 (.ref s.heap.objs.size) l) → h'.get? s.heap.objs.size = some { cls := .type "tuple", data := .seq (l.map fun i => items.getD i .none).toArray } → h'.objs.size = s.heap.objs.size + 1 →
        (∀ c o, c ≠ z → s.heap.get? c = some o → h'.get? c = some o) →
        wpAny (model X.prog X.w) X.A (letOwnedTupleGo tg (.ref z) (.ref s.heap.objs.size)) (fun _ s2 => ∃ x H', Inv X pins σ H' s2 ∧ RelV x (.ref s.heap.objs.size) ∧ (Itc cs).yld i H x H' ∧ At n k cs z pool items (i + 1) s2.heap ∧ ∀ b ∈ [z, pool], H' b = none) E { s with heap := h' } := fun l h' hl hkn hz' hT hsz hkp => by
      refine go_of hz' rfl rfl (by decide) ?_
      have hfew := g.few l (List.mem_of_getElem? hl)
      have new : ObjOk X.prog X.w (upd H s.heap.objs.size (.tup (l.map fun (j : Nat) => V.int (j : Int)))) h' s.heap.objs.size (.tup (l.map fun (j : Nat) => V.int (j : Int))) := by
        refine ⟨?_, l.map fun j => items.getD j .none, chosen hi hfew.2, ⟨_, hT, rfl, _, rfl⟩⟩
        rw [List.length_map, sizeLine_eq]; have := hfew.1; omega
      refine ⟨.ref s.heap.objs.size, _, I.turnedNew (t' := s.toks) (ch := [z, pool]) (fun c o hb q => hkp c o (fun q' => hb (by simp [q'])) q) hf (Nat.le_refl _) new, rfl, ⟨_, l, hl, rfl, I.hok.fresh (Nat.le_refl _), rfl⟩, ⟨?_, _, .inr (.inl ⟨i, l, rfl, hkn.2, hl, hz'⟩)⟩, fun c hcm => ?_⟩
      · obtain ⟨o, ho, r⟩ := hp
        exact ⟨o, hkp pool o hne ho, r⟩
      · have hlt : c < s.heap.objs.size := by
          have e' : c = z ∨ c = pool := by simpa using hcm
          rcases e' with q | q
          · rw [q]
            rcases st with ⟨_, _, e⟩ | ⟨_, _, _, _, _, e⟩ | ⟨_, e⟩ <;> exact Heap.lt_size e
          · rw [q]; obtain ⟨o, ho, _⟩ := hp; exact Heap.lt_size ho
        rw [upd_ne (Nat.ne_of_lt hlt)]
        exact (hf c hcm).1
    rcases st with ⟨rfl, hkn, hz⟩ | ⟨j, l, rfl, hkn, hl, hz⟩ | ⟨hkn, hz⟩
    · have h0 : cs[0]? = some (List.range k) := by
        rcases g.run with ⟨_, h0, _⟩ | ⟨h, _⟩
        · exact h0
        · omega
      exact step_first hz hp' (by rw [List.length_range]; exact hk) fun h' a b c d => ⟨_, rfl, fin _ h' h0 ⟨rfl, hkn⟩ a b c d⟩
    · have ha : after n l = cs[j + 1]? := by
        rcases g.run with ⟨_, _, h⟩ | ⟨h, _⟩
        · exact h j l hl
        · omega
      have hx : cs[j + 1]? = some cs[j + 1] := List.getElem?_eq_getElem hg
      have hsz : items.size = n := hi.1
      exact step_more hz hp' (by rw [hsz, ha, hx]) (g.few _ (List.mem_of_getElem? hx)).1 fun h' a b c d => ⟨_, rfl, fin _ h' hx ⟨rfl, hkn⟩ a b c d⟩
    · rcases g.run with ⟨h, _⟩ | ⟨_, rfl⟩
      · omega
      · exact absurd hg (by simp)
  done := by
    intro X hP hw hK hc i pins s σ H E I hf st hg
    subst hP hw hK
    obtain ⟨hp, last, st⟩ := st
    have hp' : s.heap.IsTuple pool items := by obtain ⟨o, ho, hc, c, hd⟩ := hp; exact ⟨o, ho, hc, c, hd⟩
    have hg : cs.length ≤ i := hg
    have hsz : items.size = n := hi.1
    have go : ∀ (m : Int) (l : List Nat), s.heap.get? z = some (obj pool m last l) → (m = 1 ∧ after items.size l = none) ∨ m = 2 → wpAny (model X.prog X.w) X.A (pyNext (.ref z)) (fun r s1 => r = none ∧ Inv X pins σ H s1) E s := fun m l hz hm =>
      step_end (I.ok.hd hc) hz hp' hm fun h' hk => ⟨rfl, I.turnedL (t' := s.toks) (ch := [z, pool]) (fun c o hb q => hk c o (fun q' => hb (by simp [q'])) q) hf⟩
    rcases st with ⟨rfl, hkn, hz⟩ | ⟨j, l, rfl, hkn, hl, hz⟩ | ⟨hkn, hz⟩
    · rcases g.run with ⟨_, h0, _⟩ | ⟨h, _⟩
      · obtain ⟨h, _⟩ := List.getElem?_eq_some_iff.mp h0
        omega
      · omega
    · refine go _ _ hz (.inl ⟨rfl, ?_⟩)
      rcases g.run with ⟨_, _, h⟩ | ⟨h, _⟩
      · rw [hsz, h j l hl, List.getElem?_eq_none hg]
      · omega
    · exact go _ _ hz (.inr rfl)
  self := fun A i s Q E st h => by
    obtain ⟨_, last, st⟩ := st
    rcases st with ⟨_, _, e⟩ | ⟨_, _, _, _, _, e⟩ | ⟨_, e⟩ <;> exact self_iter e h
end CM
end
section
set_option Elab.async false
set_option linter.all false
set_option maxRecDepth 100000
set_option maxHeartbeats 2000000
namespace CM
open PySem PySem.Spec PyProof.Rows L2 L2.DL
set_option autoImplicit false
section
variable {X : Cx} {tg e1 e2 : Expr} {ta : TA} {p pos : Pos}
theorem cr_rng1 : CallR X (.type "range") (fun vs H Q => ∃ j, vs = [V.int j] ∧ ∀ p, H p = none → Q (.ref p) (upd H p (.rng 0 j))) := by
  intro pins s σ H vs us Q I r h
  obtain ⟨j, rfl, q⟩ := h
  obtain ⟨u1, rfl, ri⟩ := vals1 r
  obtain ⟨t, rfl⟩ := ri
  refine call_range_1 ⟨.ref s.heap.objs.size, upd H s.heap.objs.size (.rng 0 j), I.laid (t' := s.toks + 1 + 1) (fun b o e => Heap.get?_push_of_some _ e) (Nat.le_refl _) ?_, rfl, q _ (I.hok.fresh (Nat.le_refl _))⟩
  exact ⟨_, _, _, Heap.get?_push_size _ rfl⟩
def iCmb (ta : TA) : TI := fun σ H R => ta σ H fun vs H1 => ∃ (a : Addr) (n k : Nat) (cs : List (List Nat)), vs = [.ref a, .int (k : Int)] ∧ H1 a = some (.rng 0 (n : Int)) ∧ n ≤ 2 ^ 20 ∧ k ≤ 2 ^ 20 ∧ Good n k cs ∧ R (Itc cs) H1
theorem pi_cmb (hg : Gl X "combinations") (hm : X.mg "combinations" = some (.type "itertools.combinations")) (ha : PA X [e1, e2] ta) (hc : X.calm = true)
    (hs : starEach [e1, e2] X.env = (false, eval e1 X.env) :: starEach [e2] X.env := by rfl) (hpl : (backTo pos (starEach [e2] X.env)).any (·.1) = false := by rfl) :
    PI X tg (.Call (.Name "combinations" p) [e1, e2] [] pos) (iCmb ta) := by
  refine ⟨fun pins s σ H R I h => ?_⟩
  unfold iCmb at h
  refine wpAny_Call_Name_kw (ld_glob I hg hm ?_ (by decide))
  refine PyProof.Rows.callWith_type1 (thn (ha.run pos pins s σ H _ I h) fun us s1 ⟨vs, H1, I1, r1, q1⟩ => ?_) hs hpl
  obtain ⟨a, n, k, cs, rfl, hr, hn, hk, g, q⟩ := q1
  obtain ⟨u1, u2, rfl, ra, rk⟩ := vals2 r1
  cases ra
  obtain ⟨tk, rfl⟩ := rk
  obtain ⟨t, u, v, hro⟩ := I1.hok a _ hr
  refine call_new (I1.ok.hd hc) (show IsRange s1.heap a 0 (n : Int) 1 t u v from hro) (small_one (by omega) (by omega) (by omega) (by omega)) (by rw [rangeSize_one]; split <;> omega) hn hk fun h' tk' acc keep items => ?_
  have I2 : Inv X pins σ H1 { s1 with heap := h', toks := tk' } := I1.kept keep
  have hz : ((h'.push { cls := .type "tuple", data := .seq acc }).push (obj h'.objs.size (if k > n then 2 else 0) .none (List.range k))).get? (h'.objs.size + 1) = some (obj h'.objs.size (if k > n then 2 else 0) .none (List.range k)) := by
    have e : h'.objs.size + 1 = (h'.push { cls := .type "tuple", data := .seq acc }).objs.size := (Heap.size_push ..).symm
    rw [e]
    exact Heap.get?_push_size _ rfl
  have I3 : Inv X pins σ H1 { s1 with heap := (h'.push { cls := .type "tuple", data := .seq acc }).push (obj h'.objs.size (if k > n then 2 else 0) .none (List.range k)), toks := tk' } :=
    I2.kept fun b o e => Heap.get?_push_of_some _ (Heap.get?_push_of_some _ e)
  refine self_iter hz ?_
  refine ⟨h'.objs.size + 1, [h'.objs.size + 1, h'.objs.size], _, _, H1, rfl, I3, turn (items := acc) g items (Nat.ne_of_lt (Nat.lt_succ_self _)) hk, ⟨⟨_, Heap.get?_push_of_some _ (Heap.get?_push_size _ rfl), rfl, _, rfl⟩, .none, ?_⟩, fun b hb => ?_, q⟩
  · by_cases h : k > n
    · rw [if_pos h] at hz
      exact .inr (.inr ⟨h, by rw [if_pos h]; exact hz⟩)
    · rw [if_neg h] at hz
      exact .inl ⟨rfl, by omega, by rw [if_neg h]; exact hz⟩
  · have e' : b = h'.objs.size + 1 ∨ b = h'.objs.size := by simpa using hb
    have hle : h'.objs.size ≤ b := by
      rcases e' with q | q
      · rw [q]; exact Nat.le_succ _
      · rw [q]; exact Nat.le_refl _
    exact I2.fpOk hle (I2.hok.fresh hle)
end
/-! ### by data -/
def walkC (n : Nat) : Nat → List Nat → List (List Nat)
  | 0, l => [l]
  | f + 1, l => l :: match after n l with
    | none => []
    | some nx => walkC n f nx
def allC (n k : Nat) : List (List Nat) := if k ≤ n then walkC n (2 ^ n) (List.range k) else []
def stepOk (n : Nat) : List (List Nat) → Bool
  | [] => true
  | [l] => after n l == none
  | l :: l' :: r => (after n l == some l') && stepOk n (l' :: r)
def goodC (n k : Nat) : Bool := (allC n k).all (fun l => decide (l.length ≤ 2 ^ 20) && l.all fun j => decide (j < n)) && stepOk n (allC n k) && (decide (n < k) || (allC n k).head? == some (List.range k))
theorem stepOk_at {n : Nat} : ∀ {cs : List (List Nat)}, stepOk n cs = true → ∀ i l, cs[i]? = some l → after n l = cs[i + 1]?
  | [], _, i, l, h => by cases h
  | [x], h, i, l, e => by
    cases i with
    | zero => cases e; exact eq_of_beq h
    | succ i => cases e
  | x :: y :: r, h, i, l, e => by
    have h : ((after n x == some y) && stepOk n (y :: r)) = true := h
    rw [Bool.and_eq_true] at h
    cases i with
    | zero => cases e; exact eq_of_beq h.1
    | succ i => exact stepOk_at h.2 i l e
theorem good_of {n k : Nat} (h : goodC n k = true) : Good n k (allC n k) := by
  unfold goodC at h
  rw [Bool.and_eq_true, Bool.and_eq_true] at h
  obtain ⟨⟨h1, h2⟩, h3⟩ := h
  refine ⟨fun l hl => ?_, ?_⟩
  · have := List.all_eq_true.mp h1 l hl
    rw [Bool.and_eq_true] at this
    exact ⟨of_decide_eq_true this.1, fun j hj => of_decide_eq_true (List.all_eq_true.mp this.2 j hj)⟩
  · by_cases hk : k ≤ n
    · refine .inl ⟨hk, ?_, stepOk_at h2⟩
      rw [Bool.or_eq_true] at h3
      rcases h3 with h3 | h3
      · have := of_decide_eq_true h3; omega
      · rw [← List.head?_eq_getElem?]; exact eq_of_beq h3
    · refine .inr ⟨by omega, ?_⟩
      unfold allC
      rw [if_neg hk]
def cmbD : List PyData → Option (List PyData)
  | [.int n, .int k] => if 0 ≤ n ∧ n ≤ 2 ^ 20 ∧ 0 ≤ k ∧ k ≤ 2 ^ 20 ∧ goodC n.toNat k.toNat = true then some ((allC n.toNat k.toNat).map fun l => .tuple (l.map fun (j : Nat) => .int (j : Int))) else none
  | _ => none
theorem ints_all {K : Fg} {H : Hp} {O : Addr → Prop} : ∀ l : List Nat, DqAll K H O (l.map fun (j : Nat) => V.int (j : Int)) (l.map fun (j : Nat) => PyData.int (j : Int))
  | [] => .nil
  | j :: l => .cons (.int _) (ints_all l)
theorem it_cmb {K : Fg} {H : Hp} {O : Addr → Prop} {cs : List (List Nat)} : ItOk K (Itc cs) (cs.map fun l => .tuple (l.map fun (j : Nat) => .int (j : Int))) O H := fun H1 O1 k l1 => by
  rw [List.length_map]
  refine ⟨fun i hi => hi, fun i hi => hi, fun i x H2 hi y => ?_⟩
  obtain ⟨T, l, hl, rfl, hn, rfl⟩ := y
  refine ⟨More.upd hn, .tuple (l.map fun (j : Nat) => .int (j : Int)), ?_, .tup (.inl (.inl upd_same)) ?_⟩
  · rw [List.getElem?_map, hl]; rfl
  · exact ints_all l
def intOf : PyData → Option Int
  | .int n => some n
  | _ => none
def mCmb (ma mb : MX PyData) : MX (List PyData) := mBind ma fun x => mBind (mLift (intOf x)) fun n => mBind mb fun y => mLift (cmbD [.int n, y])
section
variable {X : Cx} {W : WX} {tg a b : Expr} {ma mb : MX PyData} {p pos p2 pos2 : Pos}
/-- over all choices of b out of range(a) -/
theorem di_cmb (hc : X.calm = true) (hg : Gl X "combinations") (hm : X.mg "combinations" = some (.type "itertools.combinations")) (hg2 : Gl X "range") (hm2 : X.mg "range" = none) (ha : DE X W a ma) (hb : DE X W b mb)
    (hs : starEach [.Call (.Name "range" p2) [a] [] pos2, b] X.env = (false, eval (.Call (.Name "range" p2) [a] [] pos2) X.env) :: starEach [b] X.env := by rfl) (hpl : (backTo pos (starEach [b] X.env)).any (·.1) = false := by rfl)
    (hs2 : starEach [b] X.env = (false, eval b X.env) :: starEach [] X.env := by rfl) (hs3 : starEach [a] X.env = (false, eval a X.env) :: starEach [] X.env := by rfl) (hpl3 : (backTo pos2 (starEach [] X.env)).any (·.1) = false := by rfl) :
    DI X W tg (.Call (.Name "combinations" p) [.Call (.Name "range" p2) [a] [] pos2, b] [] pos) (mCmb ma mb) := by
  refine PI.imp (pi_cmb hg hm (pa_cons (pe_callTy cr_rng1 hg2 hm2 PyProof.Rows.boot_range (pa_cons ha pa_nil hs3) (by decide) (by decide) hs3 hpl3) (pa_cons hb pa_nil hs2) hs) hc hs hpl) fun σ H R ⟨η, T, r0, n0⟩ => ⟨η, T, r0, n0.bind fun x η1 e1 n1 v H1 s1 r1 q1 => ?_⟩
  cases hx : intOf x with
  | none =>
    obtain ⟨o, η', eo, _⟩ := n1
    unfold mBind mLift at eo
    rw [hx] at eo
    cases eo
  | some n =>
    have n2 : Nx X.K X.mg W (PIt X.K X.mg) σ H η T R ((mBind mb fun y => mLift (cmbD [.int n, y])) η1) := by
      have : (mBind (mLift (intOf x)) fun n => mBind mb fun y => mLift (cmbD [.int n, y])) η1 = (mBind mb fun y => mLift (cmbD [.int n, y])) η1 := by
        rw [hx]; rfl
      rw [this] at n1
      exact n1
    cases x with
    | int m =>
      cases hx
      cases q1
      refine ⟨n, rfl, fun p hp => ?_⟩
      have mo : More H1 (upd H1 p (.rng 0 n)) := More.upd hp
      have r2 := r1.more mo
      have s2 : StepS σ H1 η1 σ (upd H1 p (.rng 0 n)) η1 := StepS.more mo
      refine ⟨η1, T, r2, (n2.later PIt.later (s1.trans s2)).bind fun y η2 e2 n3 w H2 s3 r3 q3 => ?_⟩
      obtain ⟨z, ez, pz⟩ := n3.lift
      cases y with
      | int k =>
        cases q3
        simp only [cmbD] at ez
        split at ez
        · rename_i hh
          obtain ⟨h1, h2, h3, h4, h5⟩ := hh
          cases ez
          refine ⟨p, n.toNat, k.toNat, _, ?_, ?_, by omega, by omega, good_of h5, pz _ H2 s3 r3 it_cmb⟩
          · rw [Int.toNat_of_nonneg h3]
          · rw [Int.toNat_of_nonneg h1]
            refine s3.keep p _ upd_same fun ho => ?_
            obtain ⟨xs, e⟩ := r2.lists p (.inr ho)
            rw [upd_same] at e
            cases e
        · cases ez
      | _ => cases ez
    | _ => cases hx
end
end CM
end
section
set_option Elab.async false
set_option linter.all false
set_option maxRecDepth 100000
namespace L2.DL
open PySem PySem.Spec PyProof.Rows
set_option autoImplicit false
/-! ### xs.extend(ys) -/
def rExtD : V → List V → Hp → VK → Prop := fun x vs H Q => ∃ l b xs zs, x = .ref l ∧ vs = [.ref b] ∧ H l = some (.lst xs) ∧ Rd H b (.lst zs) ∧ xs.length + zs.length ≤ sizeLine ∧ Q .non (upd H l (.lst (xs ++ zs)))
theorem mt_extD {X : Cx} : MtM X "list.extend" rExtD := by
  intro pins s σ H x vs v us Q I rx rv h
  obtain ⟨l, b, xs, zs, rfl, rfl, hH, hB, hz, q⟩ := h
  cases rx
  obtain ⟨u, rfl, ru⟩ := rv.one
  cases ru
  obtain ⟨z, its, n, r, hl, e⟩ := I.lstM hH
  obtain ⟨z2, its2, n2, r2, e2⟩ := hB.ok I.hok
  have hl2 := r2.length
  have hsz : its.toArray.size + its2.toArray.size ≤ sizeLine := by rw [List.size_toArray, List.size_toArray]; omega
  have hlong : ¬ (!its.toArray.isEmpty && Builtin.List.listTooLong (its.toArray.size + its2.toArray.size)) = true := by
    rw [notLongL hsz, Bool.and_false]
    exact Bool.false_ne_true
  refine call_meets F.slot_list_extend ⟨_, e, rfl⟩ F.entry_list_extend (F.args_list_extend_2 _ _)
    (AutoSeq1.list_extend_list_list_0 l its.toArray n b its2.toArray n2 hlong (by rw [List.size_toArray]; omega) (by omega)) ⟨e, e2, ?_⟩
  refine ⟨.non, _, I.lset (its' := its ++ its2) hH e (by simp) (r.append r2) ?_, rfl, q⟩
  rw [List.length_append]
  omega
theorem DqAll.app {K : Fg} {H : Hp} {O : Addr → Prop} : ∀ {ds es : List PyData} {vs us : List V}, DqAll K H O vs ds → DqAll K H O us es → DqAll K H O (vs ++ us) (ds ++ es)
  | _, _, _, _, .nil, q => q
  | _, _, _, _, .cons q qs, q2 => .cons q (DqAll.app qs q2)
def extendD : List PyData → List PyData → Option (PyData × List PyData) := fun xs ds => match ds with
  | [.list es] => if xs.length + es.length ≤ sizeLine then some (.none, xs ++ es) else none
  | _ => none
theorem extendD_ok {K : Fg} : MeG K rExtD extendD := by
  intro a vs us xs ds z ys H O Q ea qa qu e k
  cases qu with
  | nil => cases e
  | cons q1 q =>
    cases q with
    | nil =>
      cases q1 with
      | @lst b ws es no r all =>
        simp only [extendD] at e
        split at e
        · rename_i hl
          cases e
          exact ⟨a, b, vs, ws, rfl, rfl, ea, r, by rw [qa.length, all.length]; exact hl, k _ _ (qa.app all) .non⟩
        · cases e
      | _ => cases e
    | cons q2 q => cases q1 <;> cases e
/-! ### xs[::-1] -/
def revD : PyData → Option (List PyData)
  | .list ds => some ds.reverse
  | _ => none
theorem DqAll.rev {K : Fg} {H : Hp} {O : Addr → Prop} : ∀ {ds : List PyData} {vs : List V}, DqAll K H O vs ds → DqAll K H O vs.reverse ds.reverse
  | _, _, .nil => .nil
  | _, _, .cons q qs => by
    rw [List.reverse_cons, List.reverse_cons]
    exact (DqAll.rev qs).app (.cons q .nil)
section
variable {X : Cx} {W : WX} {e : Expr} {m : MX PyData} {p1 p2 p3 pos : Pos} {k : Nat}
theorem df_rev (he : DB X W e m) : DF X W (.Subscript e (.Slice none none (some (.UnaryOp .USub (.Constant (.int 1) k p1) p2)) p3) pos) (mUnL revD m) := by
  refine PE.imp (pe_revL he) fun σ H Q ⟨η, T, r0, n0⟩ => ⟨η, T, r0, n0.bind fun x η1 e1 n1 v H1 s1 r1 q1 => ?_⟩
  obtain ⟨z, ez, p⟩ := n1.lift
  cases x with
  | list ds =>
    cases ez
    obtain ⟨a, vs, rfl, r, qa⟩ := q1.rd
    exact ⟨a, vs, rfl, .inl r, fun q hq => p.meet s1 r1 hq qa.rev⟩
  | _ => cases ez
/-! ### gcd -/
def gcdD : List PyData → Option PyData
  | [.int i, .int j] => some (.int ((Nat.gcd i.natAbs j.natAbs : Nat) : Int))
  | _ => none
theorem gcdD_ok {K : Fg} : CaG K rGcd gcdD := by
  intro xs ds z H O Q l q e k
  cases q with
  | nil => cases e
  | cons q1 q =>
    cases q with
    | nil => cases q1 <;> cases e
    | cons q2 q =>
      cases q with
      | nil =>
        cases q1 <;> cases q2 <;> simp only [gcdD] at e <;> first | (cases e; done) | skip
        cases e
        exact ⟨_, _, rfl, k _ _ More.refl (.int _)⟩
      | cons q3 q => cases q1 <;> cases q2 <;> cases e
variable {a : Expr} {es : List Expr} {ml : MX (List PyData)} {x : Str} {p : Pos} {id : String}
theorem de_gfn {r : List V → Hp → VK → Prop} {g : List PyData → Option PyData} (hc : CallR X (.builtin id) r) (hg : CaG X.K r g) (hm : X.mg x = some (.builtin id)) (ha : DA X W (a :: es) ml) (gl : Gl X x := by rfl) (hd : (x == ("__debug__" : Str)) = false := by decide)
    (he : starEach (a :: es) X.env = (false, eval a X.env) :: starEach es X.env := by rfl) (hpl : (backTo pos (starEach es X.env)).any (·.1) = false := by rfl) : DE X W (.Call (.Name x p) (a :: es) [] pos) (mCa g ml) :=
  de_ca_gen hg (pe_callBfun hc gl hm ha hd he hpl)
end
/-! ### x |= e -/
theorem ip_or {X : Cx} : PIp X .BitOr (ipI Builtin.bitOr) := by
  intro pins s σ H x y v u Q I r1 r2 h
  obtain ⟨i, j, e1, e2, q⟩ := h
  subst e1; subst e2
  obtain ⟨t, rfl⟩ := r1
  obtain ⟨t', rfl⟩ := r2
  exact PyProof.Rows.ior_int ⟨.int _, H, I.tok _, ⟨_, rfl⟩, q⟩
end L2.DL
end
section
set_option Elab.async false
set_option linter.all false
set_option maxRecDepth 100000
namespace L2.DL
open PySem PySem.Spec PyProof.Rows
set_option autoImplicit false
/-! ### comprehensions of two clauses -/
/-- the heap without what stands at D -/
def del (D : Addr) (H : Hp) : Hp := fun q => if q = D then none else H q
theorem del_ne {D q : Addr} {H : Hp} (h : q ≠ D) : del D H q = H q := if_neg h
theorem del_at {D : Addr} {H : Hp} : del D H D = none := if_pos rfl
theorem del_some {D q : Addr} {H : Hp} {o : HO} (h : del D H q = some o) : q ≠ D ∧ H q = some o := by
  by_cases e : q = D
  · rw [e, del_at] at h; cases h
  · rw [del_ne e] at h; exact ⟨e, h⟩
theorem del_upd {D : Addr} {H : Hp} {o : HO} : del D (upd H D o) = del D H := by
  funext q
  by_cases e : q = D
  · rw [e, del_at, del_at]
  · rw [del_ne e, del_ne e, upd_ne e]
theorem del_none {D : Addr} {H : Hp} (h : H D = none) : del D H = H := by
  funext q
  by_cases e : q = D
  · rw [e, del_at, h]
  · rw [del_ne e]
/-- a step that may write D -/
abbrev StepX (D : Addr) (σ : St) (H : Hp) (η : EnvD) (σ' : St) (H' : Hp) (η' : EnvD) : Prop := StepS σ (del D H) η σ' (del D H') η'
section
variable {K : Fg} {mg : Str → Option Value} {σ σ1 : St} {H H1 : Hp} {η η1 : EnvD} {T : Addr → Prop} {D : Addr}
theorem StepS.del (s : StepS σ H η σ1 H1 η1) : StepX D σ H η σ1 H1 η1 where
  tr := fun q h => by
    by_cases e : q = D
    · rw [e, del_at]
    · rw [del_ne e] at h ⊢; exact s.tr q h
  keep := fun q o h n => by
    obtain ⟨e, h⟩ := del_some h
    rw [del_ne e]; exact s.keep q o h n
  le := fun q z => (s.le q z).imp id fun h => by
    by_cases e : q = D
    · rw [e, del_at]
    · rw [del_ne e]; exact h
  leF := fun q z => (s.leF q z).imp id fun h => by
    by_cases e : q = D
    · rw [e, del_at]
    · rw [del_ne e]; exact h
  inn := s.inn
theorem Rp.kpX (r : Rp K mg σ H η T) (hD : T D) (s : StepX D σ H η σ1 H1 η1) : Kp (Avd σ η T) (Avd σ1 η1 T) H H1 where
  keep := fun q o h n => by
    have e : q ≠ D := fun e => n (.inl (by rw [e]; exact hD))
    exact (del_some (s.keep q o (by rw [del_ne e]; exact h) fun z => n (.inr z))).2
  lsts := r.avd
  less := fun q z => by
    rcases z with z | z
    · exact .inl (.inl z)
    · rcases s.le q z with z | z
      · exact .inl (.inr z)
      · by_cases e : q = D
        · exact .inl (.inl (by rw [e]; exact hD))
        · rw [del_ne e] at z; exact .inr z
/-- one loop of a comprehension, the list D under way -/
theorem loop_lc {mt : MX Bool} {me : MX PyData} {gm : PyData → EnvD → Option EnvD} {vs vs' : List Nat} {g : TG} (hsub : ∀ j ∈ vs', j ∈ vs) (hg : TGok K mg g vs' gm)
    {ws0 : List V} {acc0 acc' : List PyData} {J : It} {items : List PyData} {η' : EnvD} (hD : T D) (r1 : Rp K mg σ H1 η1 T) (eD0 : H1 D = some (.lst ws0)) (qA0 : DqAll K H1 (Avd σ η1 T) ws0 acc0) (it : ItOk K J items (Avd σ η1 T) H1)
    (run : compM gm mt me vs items acc0 (DL.wipeE vs η1) = some (.ok acc', η')) {Fin : Hp → Prop} (fin : ∀ H (ws' : List V), StepX D σ H1 η1 σ H η' → Rp K mg σ H η' T → H D = some (.lst ws') → DqAll K H (Avd σ η' T) ws' acc' → Fin H) :
    ∃ W1 : Nat → Nat → Hp → Prop, (∃ m, W1 0 m H1) ∧ ∀ j k H, W1 j k H →
      (J.stop j H ∧ Fin H) ∨ (J.go j H ∧ ∃ Nx1 : Hp → Prop, (∀ H', Nx1 H' → ∃ k', k' < k ∧ W1 (j + 1) k' H') ∧ ∀ x H', J.yld j H x H' → g x (L2.wipe σ vs) H' fun σ3 H5 => L2.wipe σ3 vs = L2.wipe σ vs ∧ tTs K mg W0 mt σ3 H5 fun b H6 =>
        if b = true then tD K mg W0 me σ3 H6 fun y H7 => ∃ acc, H7 D = some (.lst acc) ∧ acc.length < sizeLine ∧ Nx1 (upd H7 D (.lst (acc ++ [y]))) else Nx1 H6) := by
  have rw1 : Rp K mg (L2.wipe σ vs) H1 (DL.wipeE vs η1) T := r1.wipe vs
  have s0 : StepX D σ H1 η1 σ H1 (DL.wipeE vs η1) := (StepS.wipeE vs).del
  have qA1 : DqAll K H1 (Avd σ (DL.wipeE vs η1) T) ws0 acc0 := DqAll.keep (r1.kpX hD s0) acc0 ws0 qA0
  refine ⟨fun i m H2 => m = items.length - i ∧ i ≤ items.length ∧ ∃ η2 acc ws, StepX D σ H1 η1 σ H2 η2 ∧ Rp K mg (L2.wipe σ vs) H2 η2 T ∧ H2 D = some (.lst ws) ∧ DqAll K H2 (Avd σ η2 T) ws acc ∧ compM gm mt me vs (items.drop i) acc η2 = some (.ok acc', η'),
    ⟨items.length, by simp, Nat.zero_le _, _, acc0, ws0, s0, rw1, eD0, qA1, run⟩, ?_⟩
  rintro i m H2 ⟨rfl, hi2, η2, acc, ws, s3, r3, eD, qA, n3⟩
  have r3' := r3.unwipe
  obtain ⟨go, stop, yld⟩ := it H2 (Avd σ η2 T) (r1.kpX hD s3) r3'.lists
  by_cases hlt : i < items.length
  · refine .inr ⟨go i hlt, fun H3 => ∃ η2 acc ws, StepX D σ H1 η1 σ H3 η2 ∧ Rp K mg (L2.wipe σ vs) H3 η2 T ∧ H3 D = some (.lst ws) ∧ DqAll K H3 (Avd σ η2 T) ws acc ∧ compM gm mt me vs (items.drop (i + 1)) acc η2 = some (.ok acc', η'),
      fun H' h => ⟨items.length - (i + 1), by omega, rfl, hlt, h⟩, fun x H3 y => ?_⟩
    obtain ⟨mo, d, ed, qd⟩ := yld i x H3 hlt y
    have ecs : items.drop i = d :: items.drop (i + 1) := by
      rw [List.drop_eq_getElem_cons hlt]
      have := (List.getElem?_eq_some_iff.mp ed).2
      rw [this]
    rw [ecs] at n3
    simp only [compM] at n3
    split at n3
    · cases n3
    · rename_i η3 e3
      have r4 : Rp K mg (L2.wipe σ vs) H3 η2 T := r3.more mo
      have qd' : Dq K H3 (Avd (L2.wipe σ vs) η2 T) x d := Dq.less (fun q z => z.imp id (own_wipe r3).mp) d x qd
      refine hg x d (L2.wipe σ vs) H3 η2 _ η3 _ r4 qd' e3 fun σ4 s4 r5 l4 k4 => ?_
      have hw : L2.wipe σ4 vs = L2.wipe σ vs := wipe_eq l4 fun j hj => k4 j fun z => hj (hsub j z)
      refine ⟨hw, ?_⟩
      have back : ∀ {η5 : EnvD} {H5 : Hp}, StepS σ4 H3 η3 σ4 H5 η5 → Rp K mg σ4 H5 η5 T →
          StepX D σ H1 η1 σ H5 (DL.wipeE vs η5) ∧ Rp K mg (L2.wipe σ vs) H5 (DL.wipeE vs η5) T ∧ H5 D = some (.lst ws) ∧ (∀ q, Avd σ (DL.wipeE vs η5) T q → Avd σ4 η5 T q) ∧ DqAll K H5 (Avd σ (DL.wipeE vs η5) T) ws acc := fun {η5 H5} s r => by
        have rw5 : Rp K mg (L2.wipe σ vs) H5 (DL.wipeE vs η5) T := by rw [← hw]; exact r.wipe vs
        have sA : StepS (L2.wipe σ vs) H3 η2 σ4 H5 (DL.wipeE vs η5) := (s4.trans s).trans (StepS.wipeE vs)
        have own5 : ∀ q, OwnAt σ (DL.wipeE vs η5) q → OwnAt σ4 (DL.wipeE vs η5) q := fun q z => by
          obtain ⟨j, b, ds, z1, z2⟩ := (own_wipe rw5).mpr z
          rw [← hw] at z2
          exact ⟨j, b, ds, z1, (wipe_some z2).1⟩
        have free5 : ∀ q, FreeAt σ (DL.wipeE vs η5) q → FreeAt σ4 (DL.wipeE vs η5) q := fun q z => by
          obtain ⟨j, ds, z1, z2⟩ := (free_wipe rw5).mpr z
          rw [← hw] at z2
          exact ⟨j, ds, z1, (wipe_some z2).1⟩
        have sB : StepS σ H3 η2 σ H5 (DL.wipeE vs η5) := by
          refine ⟨sA.tr, fun q o h n => sA.keep q o h fun z => n ((own_wipe r4).mp z), fun q z => ?_, fun q z => ?_, fun j ds z => ?_⟩
          · exact (sA.le q (own5 q z)).imp (own_wipe r4).mp id
          · exact (sA.leF q (free5 q z)).imp (free_wipe r4).mp id
          · exact ⟨(sA.inn j ds z).1, rfl⟩
        have hA : ∀ q, Avd σ (DL.wipeE vs η5) T q → Avd σ4 η5 T q := fun q z => z.imp id fun z => by
          obtain ⟨j, b, ds, z1, z2⟩ := own5 q z
          exact ⟨j, b, ds, wipeE_get z1, z2⟩
        have eD5 : H5 D = some (.lst ws) := by
          refine s.keep D _ (mo D _ eD) fun z => ?_
          obtain ⟨j, b, ds, z1, z2⟩ := z
          obtain ⟨a, us, z3, _, _, z4⟩ := r5.own j b ds z1
          rw [z2] at z3; cases z3
          exact z4 hD
        refine ⟨(s3.trans ((StepS.more mo : StepS σ H2 η2 σ H3 η2).del)).trans sB.del, rw5, eD5, hA, ?_⟩
        have qA3 : DqAll K H3 (Avd σ η2 T) ws acc := qA.more r3'.lists mo
        exact DqAll.keep ((r4.unwipe).kp sB) acc ws qA3
      split at n3
      · rename_i η5 e5
        refine ⟨η3, _, r5, .ok false, η5, e5, fun H5 s5 r6 => ?_⟩
        obtain ⟨A, B, C, _, E⟩ := back s5 r6
        exact iteF ⟨_, acc, ws, A, B, C, E, n3⟩
      · rename_i η5 e5
        refine ⟨η3, _, r5, .ok true, η5, e5, fun H5 s5 r6 => ?_⟩
        refine iteT ?_
        split at n3
        · rename_i yv η6 e6
          split at n3
          · rename_i hsz
            refine ⟨η5, _, r6, .ok yv, η6, e6, fun v H6 s6 r7 q7 => ?_⟩
            obtain ⟨A, B, C, hA, E⟩ := back (s5.trans s6) r7
            have Bu := B.unwipe
            refine ⟨ws, C, by rw [E.length]; exact hsz, _, acc ++ [yv], ws ++ [v], ?_, B.grow hD, upd_same, ?_, n3⟩
            · show StepS σ (del D H1) η1 σ (del D (upd H6 D (.lst (ws ++ [v])))) _
              rw [del_upd]; exact A
            · exact Bu.growAll hD (E.append (.cons (Dq.less hA yv v q7) .nil))
          · cases n3
        · cases n3
      · cases n3
  · refine .inl ⟨stop i (by omega), ?_⟩
    have e : items.drop i = [] := List.drop_eq_nil_of_le (by omega)
    rw [e] at n3
    cases n3
    exact fin H2 ws s3 r3' eD qA
end
def comp2M (gm : PyData → EnvD → Option EnvD) (mt : MX Bool) (mi1 : MX (List PyData)) (gm1 : PyData → EnvD → Option EnvD) (mt1 : MX Bool) (me : MX PyData) (vs vs1 : List Nat) : List PyData → List PyData → MX (List PyData)
  | [], acc => mPure acc
  | x :: xs, acc => fun η => match gm x η with
    | none => none
    | some η1 => match mt η1 with
      | some (.ok false, η2) => comp2M gm mt mi1 gm1 mt1 me vs vs1 xs acc (wipeE vs η2)
      | some (.ok true, η2) => match mi1 η2 with
        | some (.ok its, η3) => match compM gm1 mt1 me vs1 its acc (wipeE vs1 η3) with
          | some (.ok acc2, η4) => comp2M gm mt mi1 gm1 mt1 me vs vs1 xs acc2 (wipeE vs η4)
          | _ => none
        | _ => none
      | _ => none
def mComp2 (mi : MX (List PyData)) (gm : PyData → EnvD → Option EnvD) (mt : MX Bool) (mi1 : MX (List PyData)) (gm1 : PyData → EnvD → Option EnvD) (mt1 : MX Bool) (me : MX PyData) (vs vs1 : List Nat) : MX (List PyData) := mBind mi fun xs => fun η => comp2M gm mt mi1 gm1 mt1 me vs vs1 xs [] (wipeE vs η)
section
variable {K : Fg} {mg : Str → Option Value}
theorem lc2_imp {W : WX} {mi mi1 : MX (List PyData)} {gm gm1 : PyData → EnvD → Option EnvD} {mt mt1 : MX Bool} {me : MX PyData} {vs vs' vs1 vs1' : List Nat} {g g1 : TG} (hsub : ∀ j ∈ vs', j ∈ vs)
    (hg : TGok K mg g vs' gm) (hsub1 : ∀ j ∈ vs1', j ∈ vs1) (hg1 : TGok K mg g1 vs1' gm1) :
    ∀ σ H Q, tF K mg W (mComp2 mi gm mt mi1 gm1 mt1 me vs vs1) σ H Q → tLc2 (fun σ H R => tG K mg W (PIt K mg) mi σ H R) g (tTs K mg W0 mt) (fun σ H R => tG K mg W0 (PIt K mg) mi1 σ H R) g1 (tTs K mg W0 mt1) (tD K mg W0 me) vs vs1 σ H Q := by
  rintro σ H Q ⟨η, T, r0, n0⟩
  refine ⟨η, T, r0, n0.bind fun items η1 e1 n1 J H1 s1 r1 it D hD => ?_⟩
  have n1' := n1.later PL.later s1
  have r2 : Rp K mg (wipe σ vs) (upd H1 D (.lst [])) (wipeE vs η1) (fun q => T q ∨ q = D) := (r1.new hD).wipe vs
  have s2 : StepS σ H1 η1 σ (upd H1 D (.lst [])) (wipeE vs η1) := (StepS.more (More.upd hD)).trans (StepS.wipeE vs)
  have hD' : (fun q => T q ∨ q = D) D := .inr rfl
  refine ⟨fun i m H2 => m = items.length - i ∧ i ≤ items.length ∧ ∃ η2 acc ws, StepS σ H1 η1 σ H2 η2 ∧ Rp K mg (wipe σ vs) H2 η2 (fun q => T q ∨ q = D) ∧ H2 D = some (.lst ws) ∧ DqAll K H2 (Avd σ η2 fun q => T q ∨ q = D) ws acc ∧ Nx K mg W (PL K mg) σ H1 η1 T Q (comp2M gm mt mi1 gm1 mt1 me vs vs1 (items.drop i) acc η2),
    ⟨items.length, by simp, Nat.zero_le _, wipeE vs η1, [], [], s2, r2, upd_same, .nil, n1'⟩, ?_⟩
  rintro i m H2 ⟨rfl, hi2, η2, acc, ws, s3, r3, eD, qA, n3⟩
  have r3' := r3.unwipe
  obtain ⟨go, stop, yld⟩ := it H2 (Avd σ η2 fun q => T q ∨ q = D) ⟨fun q o h n => s3.keep q o h fun z => n (.inr z), r1.avd, fun q z => by
    rcases z with (z | z) | z
    · exact .inl (.inl z)
    · subst z; exact .inr hD
    · rcases s3.le q z with z | z
      · exact .inl (.inr z)
      · exact .inr z⟩ r3'.lists
  by_cases hlt : i < items.length
  · refine .inr ⟨go i hlt, fun H3 => ∃ η2 acc ws, StepS σ H1 η1 σ H3 η2 ∧ Rp K mg (wipe σ vs) H3 η2 (fun q => T q ∨ q = D) ∧ H3 D = some (.lst ws) ∧ DqAll K H3 (Avd σ η2 fun q => T q ∨ q = D) ws acc ∧ Nx K mg W (PL K mg) σ H1 η1 T Q (comp2M gm mt mi1 gm1 mt1 me vs vs1 (items.drop (i + 1)) acc η2),
      fun H' h => ⟨items.length - (i + 1), by omega, rfl, hlt, h⟩, fun x H3 y => ?_⟩
    obtain ⟨mo, d, ed, qd⟩ := yld i x H3 hlt y
    have ecs : items.drop i = d :: items.drop (i + 1) := by
      rw [List.drop_eq_getElem_cons hlt]
      have := (List.getElem?_eq_some_iff.mp ed).2
      rw [this]
    rw [ecs] at n3
    obtain ⟨o, η', eo, p⟩ := n3
    simp only [comp2M] at eo
    split at eo
    · cases eo
    · rename_i η3 e3
      have r4 : Rp K mg (wipe σ vs) H3 η2 (fun q => T q ∨ q = D) := r3.more mo
      have qd' : Dq K H3 (Avd (wipe σ vs) η2 fun q => T q ∨ q = D) x d := Dq.less (fun q z => z.imp id (own_wipe r3).mp) d x qd
      have qA3 : DqAll K H3 (Avd σ η2 fun q => T q ∨ q = D) ws acc := qA.more r3'.lists mo
      refine hg x d (wipe σ vs) H3 η2 _ η3 _ r4 qd' e3 fun σ4 s4 r5 l4 k4 => ?_
      have hw : wipe σ4 vs = wipe σ vs := wipe_eq l4 fun j hj => k4 j fun z => hj (hsub j z)
      refine ⟨hw, ?_⟩
      -- what stands at D, untouched
      have keepD : ∀ {η5 : EnvD} {H5 : Hp}, StepS σ4 H3 η3 σ4 H5 η5 → H5 D = some (.lst ws) ∧ DqAll K H5 (Avd σ4 η5 fun q => T q ∨ q = D) ws acc := fun {η5 H5} s => by
        refine ⟨?_, DqAll.keep (r4.kp (s4.trans s)) acc ws (DqAll.less (fun q z => z.imp id (own_wipe r3).mp) acc ws qA3)⟩
        refine s.keep D _ (mo D _ eD) fun z => ?_
        obtain ⟨j, b, ds, z1, z2⟩ := z
        obtain ⟨a, us, z3, _, _, z4⟩ := r5.own j b ds z1
        rw [z2] at z3; cases z3
        exact z4 (.inr rfl)
      -- at a turn's end, back to the def's slots
      have back : ∀ {η5 : EnvD} {H5 : Hp} {acc5 : List PyData} {ws5 : List V}, StepX D σ4 H3 η3 σ4 H5 η5 → Rp K mg σ4 H5 η5 (fun q => T q ∨ q = D) → DqAll K H5 (Avd σ4 η5 fun q => T q ∨ q = D) ws5 acc5 →
          StepS σ H1 η1 σ H5 (wipeE vs η5) ∧ Rp K mg (wipe σ vs) H5 (wipeE vs η5) (fun q => T q ∨ q = D) ∧ DqAll K H5 (Avd σ (wipeE vs η5) fun q => T q ∨ q = D) ws5 acc5 := fun {η5 H5 acc5 ws5} s r q5 => by
        have rw5 : Rp K mg (wipe σ vs) H5 (wipeE vs η5) (fun q => T q ∨ q = D) := by rw [← hw]; exact r.wipe vs
        have sA : StepX D (wipe σ vs) H3 η2 σ4 H5 (wipeE vs η5) := (s4.del.trans s).trans ((StepS.wipeE vs : StepS σ4 H5 η5 σ4 H5 (wipeE vs η5)).del)
        have own5 : ∀ q, OwnAt σ (wipeE vs η5) q → OwnAt σ4 (wipeE vs η5) q := fun q z => by
          obtain ⟨j, b, ds, z1, z2⟩ := (own_wipe rw5).mpr z
          rw [← hw] at z2
          exact ⟨j, b, ds, z1, (wipe_some z2).1⟩
        have free5 : ∀ q, FreeAt σ (wipeE vs η5) q → FreeAt σ4 (wipeE vs η5) q := fun q z => by
          obtain ⟨j, ds, z1, z2⟩ := (free_wipe rw5).mpr z
          rw [← hw] at z2
          exact ⟨j, ds, z1, (wipe_some z2).1⟩
        have sB : StepX D σ H3 η2 σ H5 (wipeE vs η5) := by
          refine ⟨sA.tr, fun q o h n => sA.keep q o h fun z => n ((own_wipe r4).mp z), fun q z => ?_, fun q z => ?_, fun j ds z => ?_⟩
          · exact (sA.le q (own5 q z)).imp (own_wipe r4).mp id
          · exact (sA.leF q (free5 q z)).imp (free_wipe r4).mp id
          · exact ⟨(sA.inn j ds z).1, rfl⟩
        have hA : ∀ q, Avd σ (wipeE vs η5) (fun q => T q ∨ q = D) q → Avd σ4 η5 (fun q => T q ∨ q = D) q := fun q z => z.imp id fun z => by
          obtain ⟨j, b, ds, z1, z2⟩ := own5 q z
          exact ⟨j, b, ds, wipeE_get z1, z2⟩
        have sC : StepX D σ H1 η1 σ H5 (wipeE vs η5) := ((s3.trans (StepS.more mo)).del).trans sB
        have sD : StepS σ H1 η1 σ (del D H5) (wipeE vs η5) := by
          have e := del_none hD
          have sC' : StepS σ (del D H1) η1 σ (del D H5) (wipeE vs η5) := sC
          rwa [e] at sC'
        exact ⟨sD.trans (StepS.more fun q o h => (del_some h).2), rw5, DqAll.less hA acc5 ws5 q5⟩
      split at eo
      · rename_i η5 e5
        refine ⟨η3, _, r5, .ok false, η5, e5, fun H5 s5 r6 => ?_⟩
        obtain ⟨hd5, q5⟩ := keepD s5
        obtain ⟨A, B, E⟩ := back s5.del r6 q5
        exact iteF ⟨_, acc, ws, A, B, hd5, E, o, η', eo, p⟩
      · rename_i η5 e5
        refine ⟨η3, _, r5, .ok true, η5, e5, fun H5 s5 r6 => ?_⟩
        refine iteT ?_
        split at eo
        · rename_i its η6 e6
          split at eo
          · rename_i acc2 η7 e7
            refine ⟨η5, _, r6, .ok its, η6, e6, fun J1 H6 s6 r7 it1 => ?_⟩
            obtain ⟨hd6, q6⟩ := keepD (s5.trans s6)
            refine loop_lc hsub1 hg1 hD' r7 hd6 q6 it1 e7 fun H7 ws7 sx rx hd7 q7 => ?_
            obtain ⟨A, B, E⟩ := back (((s5.trans s6).del).trans sx) rx q7
            exact ⟨_, acc2, ws7, A, B, hd7, E, o, η', eo, p⟩
          · cases eo
        · cases eo
      · cases eo
  · refine .inl ⟨stop i (by omega), ?_⟩
    have e : items.drop i = [] := List.drop_eq_nil_of_le (by omega)
    rw [e] at n3
    refine n3.pure D ws H2 s3 hD eD r3' qA fun z => ?_
    rcases z with z | ⟨j, b, ds, z1, z2⟩
    · obtain ⟨us, w⟩ := r1.tl D z
      rw [hD] at w; cases w
    · obtain ⟨a, us, z3, _, _, z4⟩ := r3'.own j b ds z1
      rw [z2] at z3; cases z3
      exact z4 (.inr rfl)
end
end L2.DL
end
section
set_option Elab.async false
set_option linter.all false
set_option maxRecDepth 100000
namespace L2.DL
open PySem PySem.Spec PyProof.Rows
set_option autoImplicit false
section
variable {X : Cx} {W : WX} {elt tg iter tg1 iter1 : Expr} {ifs ifs1 : List Expr} {scope : Scope} {own : List (Str × Nat)} {pos : Pos} {mi mi1 : MX (List PyData)} {gm gm1 : PyData → EnvD → Option EnvD} {mt mt1 : MX Bool} {me : MX PyData} {vs' vs1 vs1' : List Nat}
/-- [elt for tg in iter if .. for tg1 in iter1 if ..] -/
theorem df_lc2 {g g1 : TG} (hc : X.calm = true) (hN : X.N.Nodup) (hi : DI X W tg iter mi) (ok : BlkOk X.N X.env.scope scope own) (hv : ∀ i ∈ vs1, i ∈ own.map (·.2))
    (hg : ∀ (s : Shared) (H : Hp) (C : Addr) (cl : List (Str × Addr)) (fp : List Addr), PG (X.blk s H scope (compEnvC scope cl C X.env) fp) tg g) (gok : TGok X.K X.mg g vs' gm) (hsub : ∀ j ∈ vs', j ∈ own.map (·.2))
    (ht : ∀ (s : Shared) (H : Hp) (C : Addr) (cl : List (Str × Addr)) (fp : List Addr), DTs (X.blk s H scope (compEnvC scope cl C X.env) fp) W0 ifs mt)
    (hi1 : ∀ (s : Shared) (H : Hp) (C : Addr) (cl : List (Str × Addr)) (fp : List Addr), DI (X.blk s H scope (compEnvC scope cl C X.env) fp) W0 tg1 iter1 mi1)
    (hg1 : ∀ (s : Shared) (H : Hp) (C : Addr) (cl : List (Str × Addr)) (fp : List Addr), PG (X.blk s H scope (compEnvC scope cl C X.env) fp) tg1 g1) (gok1 : TGok X.K X.mg g1 vs1' gm1) (hsub1 : ∀ j ∈ vs1', j ∈ vs1)
    (ht1 : ∀ (s : Shared) (H : Hp) (C : Addr) (cl : List (Str × Addr)) (fp : List Addr), DTs (X.blk s H scope (compEnvC scope cl C X.env) fp) W0 ifs1 mt1)
    (he : ∀ (s : Shared) (H : Hp) (C : Addr) (cl : List (Str × Addr)) (fp : List Addr), DE (X.blk s H scope (compEnvC scope cl C X.env) fp) W0 elt me)
    (hs : ∀ x, foldedSetIterable iter X.env x = pure x := by intro _; rfl) (hs1 : ∀ env x, foldedSetIterable iter1 env x = pure x := by intro _ _; rfl) :
    DF X W (.ListComp elt [⟨tg, iter, ifs, 0⟩, ⟨tg1, iter1, ifs1, 0⟩] scope pos) (mComp2 mi gm mt mi1 gm1 mt1 me (own.map (·.2)) vs1) :=
  PE.imp (pe_lc2 (wi1 := fun σ H R => tG X.K X.mg W0 (PIt X.K X.mg) mi1 σ H R) (tt := tTs X.K X.mg W0 mt) (tt1 := tTs X.K X.mg W0 mt1) (te := tD X.K X.mg W0 me) hc hN hi ok hv hg ht hi1 hg1 ht1 he hs hs1) (lc2_imp hsub gok hsub1 gok1)
/-- name = [.. for .. for ..] on one line, the name a local -/
theorem ds_setLc2 {g g1 : TG} {i : Nat} {y : Str} {py spos : Pos} (hc : X.calm = true) (hN : X.N.Nodup) (hy : X.N[i]? = some y) (hyl : X.env.scope.names.lookup y = some .local)
    (hsw : swapsWith (.ListComp elt [⟨tg, iter, ifs, 0⟩, ⟨tg1, iter1, ifs1, 0⟩] scope pos) (some (.Name y py)) spos.line X.env = pure true) (hi : DI X W tg iter mi) (ok : BlkOk X.N X.env.scope scope own) (hv : ∀ i ∈ vs1, i ∈ own.map (·.2))
    (hg : ∀ (s : Shared) (H : Hp) (C : Addr) (cl : List (Str × Addr)) (fp : List Addr), PG (X.blk s H scope (compEnvC scope cl C X.env) fp) tg g) (gok : TGok X.K X.mg g vs' gm) (hsub : ∀ j ∈ vs', j ∈ own.map (·.2))
    (ht : ∀ (s : Shared) (H : Hp) (C : Addr) (cl : List (Str × Addr)) (fp : List Addr), DTs (X.blk s H scope (compEnvC scope cl C X.env) fp) W0 ifs mt)
    (hi1 : ∀ (s : Shared) (H : Hp) (C : Addr) (cl : List (Str × Addr)) (fp : List Addr), DI (X.blk s H scope (compEnvC scope cl C X.env) fp) W0 tg1 iter1 mi1)
    (hg1 : ∀ (s : Shared) (H : Hp) (C : Addr) (cl : List (Str × Addr)) (fp : List Addr), PG (X.blk s H scope (compEnvC scope cl C X.env) fp) tg1 g1) (gok1 : TGok X.K X.mg g1 vs1' gm1) (hsub1 : ∀ j ∈ vs1', j ∈ vs1)
    (ht1 : ∀ (s : Shared) (H : Hp) (C : Addr) (cl : List (Str × Addr)) (fp : List Addr), DTs (X.blk s H scope (compEnvC scope cl C X.env) fp) W0 ifs1 mt1)
    (he : ∀ (s : Shared) (H : Hp) (C : Addr) (cl : List (Str × Addr)) (fp : List Addr), DE (X.blk s H scope (compEnvC scope cl C X.env) fp) W0 elt me)
    (hs : ∀ x, foldedSetIterable iter X.env x = pure x := by intro _; rfl) (hs1 : ∀ env x, foldedSetIterable iter1 env x = pure x := by intro _ _; rfl) :
    DS X W (.Assign [.Name y py] (.ListComp elt [⟨tg, iter, ifs, 0⟩, ⟨tg1, iter1, ifs1, 0⟩] scope pos) spos) (mAsgL (mComp2 mi gm mt mi1 gm1 mt1 me (own.map (·.2)) vs1) i) :=
  PS.imp (L2.ps_setLc2 (wi1 := fun σ H R => tG X.K X.mg W0 (PIt X.K X.mg) mi1 σ H R) (tt := tTs X.K X.mg W0 mt) (tt1 := tTs X.K X.mg W0 mt1) (te := tD X.K X.mg W0 me) hc hN hy hyl hsw hi ok hv hg ht hi1 hg1 ht1 he hs hs1) (asgL_imp (lc2_imp hsub gok hsub1 gok1))
end
/-! ### list(range(..)) -/
theorem rg_all {K : Fg} {H : Hp} {O : Addr → Prop} (a b : Int) : DqAll K H O (rgV a b) (rngL a (b - a).toNat) := by
  unfold rgV rngL
  generalize List.range (b - a).toNat = l
  induction l with
  | nil => exact .nil
  | cons x xs ih => exact .cons (.int _) ih
def rg1D : PyData → Option (List PyData)
  | .int j => if -(2 ^ 62) ≤ j ∧ j ≤ 16777216 then some (rngL 0 (j - 0).toNat) else none
  | _ => none
def rg2D : PyData → PyData → Option (List PyData)
  | .int i, .int j => if -(2 ^ 62) ≤ i ∧ i < 2 ^ 62 ∧ -(2 ^ 62) ≤ j ∧ j < 2 ^ 62 ∧ (j - i).toNat ≤ 2 ^ 24 then some (rngL i (j - i).toNat) else none
  | _, _ => none
section
variable {X : Cx} {W : WX} {a b : Expr} {ma mb : MX PyData} {p p2 pos pos2 : Pos}
theorem df_listRg1 (hc : X.calm = true) (hg : Gl X "list") (hm : X.mg "list" = none) (hg2 : Gl X "range") (hm2 : X.mg "range" = none) (ha : DE X W a ma)
    (na : starEach [.Call (.Name "range" p2) [a] [] pos2] X.env = (false, eval (.Call (.Name "range" p2) [a] [] pos2) X.env) :: starEach [] X.env := by rfl) (na2 : starEach [a] X.env = (false, eval a X.env) :: starEach [] X.env := by rfl) :
    DF X W (.Call (.Name "list" p) [.Call (.Name "range" p2) [a] [] pos2] [] pos) (mUnL rg1D ma) := by
  refine PE.imp (pe_listRg hc hg hm (prg_1 hg2 hm2 ha na2) na) fun σ H Q ⟨η, T, r0, n0⟩ => ⟨η, T, r0, n0.bind fun x η1 e1 n1 v H1 s1 r1 q1 => ?_⟩
  obtain ⟨z, ez, pz⟩ := n1.lift
  cases x with
  | int j =>
    cases q1
    simp only [rg1D] at ez
    split at ez
    · rename_i h
      cases ez
      exact ⟨j, rfl, ⟨by omega, by omega, by omega, by omega, by omega⟩, fun q hq => pz.meet s1 r1 hq (rg_all 0 j)⟩
    · cases ez
  | _ => cases ez
theorem df_listRg2 (hc : X.calm = true) (hg : Gl X "list") (hm : X.mg "list" = none) (hg2 : Gl X "range") (hm2 : X.mg "range" = none) (ha : DE X W a ma) (hb : DE X W b mb)
    (na : starEach [.Call (.Name "range" p2) [a, b] [] pos2] X.env = (false, eval (.Call (.Name "range" p2) [a, b] [] pos2) X.env) :: starEach [] X.env := by rfl) (na2 : starEach [a, b] X.env = (false, eval a X.env) :: starEach [b] X.env := by rfl)
    (nb : starEach [b] X.env = (false, eval b X.env) :: starEach [] X.env := by rfl) (hp : (backTo pos2 (starEach [b] X.env)).any (·.1) = false := by rfl) :
    DF X W (.Call (.Name "list" p) [.Call (.Name "range" p2) [a, b] [] pos2] [] pos) (mOpL rg2D ma mb) := by
  refine PE.imp (pe_listRg hc hg hm (prg_2 hg2 hm2 ha hb na2 nb hp) na) fun σ H Q ⟨η, T, r0, n0⟩ => ⟨η, T, r0, n0.bind fun x η1 e1 n1 v H1 s1 r1 q1 => ?_⟩
  refine ⟨η1, T, r1, (n1.later PL.later s1).bind fun y η2 e2 n2 w H2 s2 r2 q2 => ?_⟩
  obtain ⟨z, ez, pz⟩ := n2.lift
  cases x with
  | int i =>
    cases y with
    | int j =>
      cases q1
      cases q2
      simp only [rg2D] at ez
      split at ez
      · rename_i h
        cases ez
        exact ⟨i, j, rfl, rfl, h, fun q hq => pz.meet s2 r2 hq (rg_all i j)⟩
      · cases ez
    | _ => cases ez
  | _ => cases ez
end
/-- xs.pop() -/
def popD0 : List PyData → List PyData → Option (PyData × List PyData) := fun xs ds => match ds with | [] => (xs[xs.length - 1]?).map fun z => (z, xs.dropLast) | _ => none
theorem popD0_ok {K : Fg} : MeG K rPop popD0 := popD_ok0
end L2.DL
end
section
set_option Elab.async false
set_option linter.all false
set_option maxRecDepth 100000
set_option maxHeartbeats 4000000
namespace L2.DL
open PySem PySem.Spec PyProof.Rows
set_option autoImplicit false
/-! ### a tuple times 1: itself; is of bools -/
theorem tuple_mul1 (l : Addr) (items : Array Value) (n : Nat) (dd : Option Addr) (sl : Array (Option Value)) (u : Tok) :
    Meets (Builtin.«tuple.__mul__» ⟨[.ref l, .int 1 u], []⟩) (fun _ R s => s.heap.get? l = some { cls := .type "tuple", dict := dd, data := .seq items n, slots := sl } ∧ R (.ok (.ret (Value.ref l))) s) :=
  .of_wp fun prog w A R s h => by
    obtain ⟨hp, g, d, tk, os⟩ := s
    obtain ⟨hl, h⟩ := h
    have f1 := AutoSeq1.idx_int
    wp_walk using wpAny_loadPart' hl
    repeat (first
      | (refine wpAny_ite_false (decide_eq_false (by decide)) ?_; wp_walk using wpAny_loadPart' hl)
      | (refine wpAny_ite_true (decide_eq_true (by simp)) ?_; wp_walk using wpAny_loadPart' hl))
    exact ⟨_, rfl, h⟩
def rRepT1 (K : PySem.W.Frag) : R2 := fun x y H Q => ∃ l xs, x = .ref l ∧ y = .int 1 ∧ SqT K H l xs ∧ Q (.ref l) H
theorem op_repT1 {X : Cx} : OpR X (binaryOp .Mult) (rRepT1 X.K) := by
  intro pins s σ H x y v u Q I rx ry h
  obtain ⟨l, xs, rfl, rfl, hT, q⟩ := h
  cases rx
  obtain ⟨t, rfl⟩ := ry
  obtain ⟨its, r, ⟨⟨cls, dd, data, sl⟩, ho, hc, n, hd⟩, hs⟩ := I.tuple hT
  simp only at hc hd
  subst hc hd
  refine wpAny_binaryOp_repeat_ref (T := "tuple") (U := "int") (by decide) ⟨_, ho, rfl⟩ (fun s' => typeIs_int s' 1 t) noFill_tuple_mul F.fills_int_mul F.slot_int_rmul repeat_tuple F.slot_int_index.lookup
    (call_meets F.slot_int_rmul (typeIs_int s 1 t) F.entry_int_rmul (F.args_int_rmul_2 _ _) (int_rmul_tuple 1 t l its.toArray n dd sl)
      ⟨ho, rfl, ⟨_, ho, rfl⟩, call_meets F.slot_tuple_mul ⟨_, ho, rfl⟩ F.entry_tuple_mul (F.args_tuple_mul_2 _ _) (tuple_mul1 l its.toArray n dd sl t) ⟨ho, ?_⟩⟩)
  exact ⟨.ref l, H, I, rfl, q⟩
def mulD2 : PyData → PyData → Option PyData
  | .tuple xs, .int k => if k = 1 then some (.tuple xs) else mulD (.tuple xs) (.int k)
  | d, e => mulD d e
def rMulB (K : Fg) : R2 := fun x y H Q => rMulA K x y H Q ∨ rRepT1 K x y H Q
theorem op_mulB {X : Cx} : OpR X (binaryOp .Mult) (rMulB X.K) := OpR.or op_mulA op_repT1
section
variable {K : Fg}
theorem mulD2_ok : OpG K (rMulB K) mulD2 := by
  intro x y d e z H O Q l qx qy hg k
  unfold mulD2 at hg
  split at hg
  · rename_i xs j
    split at hg
    · rename_i hj
      subst hj
      cases hg
      have qx2 := qx
      cases qx with
      | tup ha qa =>
        cases qy
        exact .inr ⟨_, _, rfl, rfl, ha, k _ _ More.refl qx2⟩
    · exact .inl (mulD_ok _ _ _ _ _ _ _ _ l qx qy hg k)
  · exact .inl (mulD_ok _ _ _ _ _ _ _ _ l qx qy hg k)
def isbD (d e : PyData) : Option PyData := match d, e with
  | .bool a, .bool b => some (.bool (decide (a = b)))
  | _, _ => none
def isnbD (d e : PyData) : Option PyData := match d, e with
  | .bool a, .bool b => some (.bool (!decide (a = b)))
  | _, _ => none
theorem isbD_ok : OpG K rIsB isbD := by
  intro x y d e z H O Q l qx qy hg k
  cases qx <;> cases qy <;> simp only [isbD] at hg <;> try (cases hg)
  exact ⟨_, _, rfl, rfl, k _ _ More.refl (.bl _)⟩
theorem isnbD_ok : OpG K rNotB isnbD := by
  intro x y d e z H O Q l qx qy hg k
  cases qx <;> cases qy <;> simp only [isnbD] at hg <;> try (cases hg)
  exact ⟨_, _, rfl, rfl, k _ _ More.refl (.bl _)⟩
theorem isbB_ok : OpB K rIsB isbD := isbD_ok.toB (fun _ e => by cases e <;> rfl) (fun d _ => by cases d <;> rfl)
theorem isnbB_ok : OpB K rNotB isnbD := isnbD_ok.toB (fun _ e => by cases e <;> rfl) (fun d _ => by cases d <;> rfl)
end
end L2.DL
end
section
set_option Elab.async false
set_option linter.all false
set_option maxRecDepth 100000
set_option maxHeartbeats 4000000
namespace HT
open PySem PySem.Spec PyProof.Rows
section
variable {prog : Program} {w : World} {A : Around} {E : Value → Shared → Prop} {s : Shared}
theorem fm_map {α β : Type} {f : α → Option β} {g : α → β} : ∀ l : List α, (∀ m ∈ l, f m = some (g m)) → l.filterMap f = l.map g
  | [], _ => rfl
  | a :: l, h => by
    rw [List.filterMap_cons, h a List.mem_cons_self, List.map_cons, fm_map l fun m hm => h m (List.mem_cons_of_mem _ hm)]
theorem pick_rev (xs : Array Value) : ((List.range xs.size).filterMap fun (m : Nat) => xs[(((xs.size : Int) - 1) + (m : Int) * (-1)).toNat]?) = xs.toList.reverse := by
  have e : ((List.range xs.size).filterMap fun (m : Nat) => xs[(((xs.size : Int) - 1) + (m : Int) * (-1)).toNat]?) = (List.range xs.size).map fun m => xs.toList.reverse.getD m .none := by
    refine fm_map _ fun m hm => ?_
    have hm := List.mem_range.mp hm
    have e1 : (((xs.size : Int) - 1) + (m : Int) * (-1)).toNat = xs.size - 1 - m := by omega
    rw [e1]
    have hr : m < xs.toList.reverse.length := by simpa using hm
    rw [List.getD, List.getElem?_eq_getElem hr, List.getElem_reverse]
    simp [show xs.size - 1 - m < xs.size by omega]
  rw [e]
  refine List.ext_getElem (by simp) fun i h1 h2 => ?_
  rw [List.getElem_map, List.getElem_range, List.getD, List.getElem?_eq_getElem h2]
  rfl
theorem sliceApplied_rev {sl : Addr} {vl vu vs : Value} {n : Nat} {Q : Int × Int × Nat → Shared → Prop} (hs : s.heap.IsSliceOf sl vl vu vs) (pl : IsPart vl none) (pu : IsPart vu none) (ps : IsPart vs (some (-1)))
    (h : Q (((n : Nat) : Int) - 1, -1, n) s) : wpAny (model prog w) A (Builtin.Slice.sliceApplied (.ref sl) (pure (n : Int))) Q E s := by
  obtain ⟨os, hos, hcs, hds⟩ := id hs
  unfold Builtin.Slice.sliceApplied Builtin.Slice.sliceFields
  refine wpAny_bind (wpAny_bind (wpAny_field hos hds (x := vl) rfl (wpAny_bind (wpAny_field hos hds (x := vu) rfl (wpAny_bind (wpAny_field hos hds (x := vs) rfl (wpAny_pure ?_)))))))
  refine wpAny_bind (slicePart_ ps ?_)
  show wpAny _ _ (if ((-1 : Int) == 0) = true then _ else _) _ _ s
  rw [if_neg (by decide)]
  refine wpAny_bind (slicePart_ pl (wpAny_bind (slicePart_ pu (wpAny_bind (wpAny_pure ?_)))))
  show wpAny _ _ (pure (((n : Int) - 1), (-1 : Int), Builtin.Slice.slicePlaces ((n : Int) - 1) (-1) (-1))) _ _ s
  have e : Builtin.Slice.slicePlaces ((n : Int) - 1) (-1) (-1) = n := by
    unfold Builtin.Slice.slicePlaces
    rw [if_neg (by decide)]
    split
    · have : -(-1 : Int) = 1 := rfl
      rw [this, Int.ediv_one]; omega
    · omega
  rw [e]
  exact wpAny_pure h
theorem getItem_tuple_rev {t sl : Addr} {items : Array Value} {vl vu vs : Value} {Q : Value → Shared → Prop} (ht : IsTup s.heap t items) (hs : s.heap.IsSliceOf sl vl vu vs) (pl : IsPart vl none) (pu : IsPart vu none) (ps : IsPart vs (some (-1)))
    (h : Q (.ref s.heap.objs.size) { s with heap := s.heap.push { cls := .type "tuple", data := .seq items.toList.reverse.toArray } })
    (hsz : items.size ≤ sizeLine) : wpAny (model prog w) A (getItem (.ref t) (.ref sl)) Q E s := by
  have htake : sizeOk (.seq items.toList.reverse.toArray) := by
    show items.toList.reverse.toArray.size ≤ sizeLine
    rw [List.size_toArray, List.length_reverse, Array.length_toList]
    exact hsz
  obtain ⟨os, hos, hcs, hds⟩ := id hs
  have hTs : s.TypeIs (.ref sl) "slice" := ⟨os, hos, hcs⟩
  unfold getItem
  try with_reducible refine wpAny_holding ?_
  first | refine wpAny_bind (wpAny_pure ?_) | skip
  refine wpAny_bind (wpAny_sequenceKey ht.typeIs (by decide) ?_)
  refine wpAny_bind (wpAny_callSpecial?_slot (name := Str.ofString "__getitem__") ht.typeIs PyProof.Rows.slot_tuple_getitem
    (wpAny_call_entry PyProof.Rows.slot_tuple_getitem ht.typeIs entry_tuple_getitem ?_ (args_tuple_getitem _ _)))
  show wpAny _ _ (Builtin.Tuple.tupleItemsOf (.ref t) >>= _) _ _ s
  refine wpAny_bind (tupleItemsOf_ ht ?_)
  refine wpAny_bind (wpAny_typeOf hTs ?_)
  rw [if_pos (by decide)]
  refine wpAny_bind (sliceApplied_rev hs pl pu ps ?_)
  have hno : ¬ ((((items.size : Int) - 1) == 0 && (-1 : Int) == 1 && items.size == items.size) = true) := by
    intro q
    rw [Bool.and_eq_true, Bool.and_eq_true] at q
    exact absurd q.1.2 (by decide)
  show wpAny _ _ (if (((items.size : Int) - 1) == 0 && (-1 : Int) == 1 && items.size == items.size) = true then _ else _) _ _ s
  rw [if_neg hno, pick_rev]
  first
    | exact wpAny_bind (m := Builtin.Tuple.tupleExact _) (wpAny_newObj_type (wpAny_pure ⟨_, rfl, wpAny_pure h⟩) htake)
    | exact wpAny_bind (m := Builtin.Tuple.tupleExact _) (wpAny_newObj_type (wpAny_bind (wpAny_pure (wpAny_pure ⟨_, rfl, wpAny_pure h⟩))) htake)
    | exact wpAny_bind (wpAny_bind (m := Builtin.Tuple.tupleExact _) (wpAny_newObj_type (wpAny_pure (wpAny_pure ⟨_, rfl, wpAny_pure h⟩)) htake))
    | exact wpAny_bind (wpAny_bind (m := Builtin.Tuple.tupleExact _) (wpAny_newObj_type (wpAny_pure ⟨_, rfl, wpAny_pure h⟩) htake))
end
end HT
namespace L2
open PySem PySem.Spec PyProof.Rows
section
variable {X : Cx}
def tRevT (K : PySem.W.Frag) (te : TE) : TE := fun σ H Q => te σ H fun x H1 => ∃ a xs, x = .ref a ∧ SqT K H1 a xs ∧ ∀ p, H1 p = none → Q (.ref p) (upd H1 p (.tup xs.reverse))
theorem pe_revT {e : Expr} {te : TE} {k : Nat} {p1 p2 p3 pos : Pos} (he : PE X e te) : PE X (.Subscript e (.Slice none none (some (.UnaryOp .USub (.Constant (.int 1) k p1) p2)) p3) pos) (tRevT X.K te) := by
  refine ⟨fun pins s σ H Q I h => ?_⟩
  refine Subscript_ (thn (he.run pins s σ H _ I h) fun v s1 ⟨x, H1, I1, r1, q1⟩ => ?_)
  obtain ⟨a, xs, ex, hx, q⟩ := q1
  subst ex
  cases r1
  have hst : PO X (some (.UnaryOp .USub (.Constant (.int 1) k p1) p2)) (tPart (tUn (rU fun i => .int (-i)) (tC (.int 1)))) := po_some (pe_un un_neg pe_int)
  refine wpAny_Slice (thn (po_none.run pins s1 σ H1 (fun o H2 => o = none ∧ H2 = H1) I1 ⟨rfl, rfl⟩) fun vl s2 ⟨l, H2, I2, pl, el, e2⟩ => ?_)
  subst el e2
  refine thn (po_none.run pins s2 σ H2 (fun o H3 => o = none ∧ H3 = H2) I2 ⟨rfl, rfl⟩) fun vu s3 ⟨u, H3, I3, pu, eu, e3⟩ => ?_
  subst eu e3
  refine thn (hst.run pins s3 σ H3 (fun o H4 => o = some (-1) ∧ H4 = H3) I3 ⟨1, rfl, -1, rfl, rfl, rfl⟩) fun vs s4 ⟨o, H4, I4, ps, eo, e4⟩ => ?_
  subst eo e4
  have I5 : Inv X pins σ H4 { s4 with heap := s4.heap.push { cls := .type "slice", data := .fields #[vl, vu, vs] } } := I4.kept (t' := s4.toks) fun b ob q => Heap.get?_push_of_some _ q
  obtain ⟨its, r, ht, hz⟩ := I5.tuple hx
  have hlen := r.length
  show wpAny (model X.prog X.w) X.A (subscriptTail e (.Slice none none (some (.UnaryOp .USub (.Constant (.int 1) k p1) p2)) p3) (.ref a) (.ref s4.heap.objs.size)) (EP X pins σ Q) X.xe { s4 with heap := s4.heap.push { cls := .type "slice", data := .fields #[vl, vu, vs] } }
  refine tail_any (ops := [.ref a, .ref s4.heap.objs.size]) ht.typeIs (PyProof.Rows.slot_tuple_getitem.lookup) ?_ (by with_unfolding_all rfl)
  refine HT.getItem_tuple_rev ht (Heap.IsSliceOf.new _ vl vu vs) pl pu ps ?_ (by rw [List.size_toArray]; omega)
  refine ⟨.ref _, _, I5.laid (t' := s4.toks) (o := .tup xs.reverse) (fun b ob q => Heap.get?_push_of_some _ q) (Nat.le_refl _) ?_, rfl, q _ (I5.hok.fresh (Nat.le_refl _))⟩
  refine ⟨by rw [List.length_reverse]; omega, _, r.reverse, ?_⟩
  exact IsTup.new _ _
end
end L2
namespace L2.DL
open PySem PySem.Spec PyProof.Rows
set_option autoImplicit false
section
variable {X : Cx} {W : WX} {a e : Expr} {m ma : MX PyData} {p1 p2 p3 p pos pos2 : Pos} {k : Nat} {K : Fg}
/-- t[::-1] of a tuple -/
def revTD : PyData → Option PyData
  | .tuple ds => some (.tuple ds.reverse)
  | _ => none
theorem revTD_ok : CaB K (fun xs H Q => ∀ x, xs = [x] → ∃ a xs, x = .ref a ∧ SqT K H a xs ∧ ∀ p, H p = none → Q (.ref p) (upd H p (.tup xs.reverse))) revTD := by
  intro x d z H O Q l q e kk x2 e2
  cases e2
  cases d with
  | tuple ds =>
    cases e
    have q2 := q.dq (fun _ z => by cases z)
    cases q2 with
    | tup ha qa => exact ⟨_, _, rfl, ha, fun p hp => kk _ _ (More.upd hp) (.tup (.inl (.inl upd_same)) (qa.rev.more l (More.upd hp)))⟩
  | _ => cases e
theorem de_revT (he : DB X W e m) : DE X W (.Subscript e (.Slice none none (some (.UnaryOp .USub (.Constant (.int 1) k p1) p2)) p3) pos) (mUn revTD m) :=
  de_un_gen revTD_ok (pe_revT he)
/-- tuple(range(n)) -/
def rgTD : PyData → Option PyData
  | .int j => if -(2 ^ 62) ≤ j ∧ j ≤ 16777216 then some (.tuple (rngL 0 (j - 0).toNat)) else none
  | _ => none
theorem rgTD_ok : CaB K (fun xs H Q => ∀ x, xs = [x] → ∃ n, x = .int n ∧ RgOk 0 n ∧ ∀ q, H q = none → Q (.ref q) (upd H q (.tup (rgV 0 n)))) rgTD := by
  intro x d z H O Q l q e kk x2 e2
  cases e2
  cases d with
  | int j =>
    have q2 := q.dq (fun _ z => by cases z)
    cases q2
    simp only [rgTD] at e
    split at e
    · rename_i h
      cases e
      exact ⟨j, rfl, ⟨by omega, by omega, by omega, by omega, by omega⟩, fun p hp => kk _ _ (More.upd hp) (.tup (.inl (.inl upd_same)) (rg_all 0 j))⟩
    · cases e
  | _ => cases e
theorem de_tupRg1 (hc : X.calm = true) (hg : Gl X "tuple") (hm : X.mg "tuple" = none) (hg2 : Gl X "range") (hm2 : X.mg "range" = none) (ha : DB X W a ma)
    (na : starEach [.Call (.Name "range" p2) [a] [] pos2] X.env = (false, eval (.Call (.Name "range" p2) [a] [] pos2) X.env) :: starEach [] X.env := by rfl) (na2 : starEach [a] X.env = (false, eval a X.env) :: starEach [] X.env := by rfl) :
    DE X W (.Call (.Name "tuple" p) [.Call (.Name "range" p2) [a] [] pos2] [] pos) (mUn rgTD ma) :=
  de_un_gen rgTD_ok (PE.imp (pe_tupRg hc hg hm (prg_1 hg2 hm2 ha na2) na) fun σ H Q h => h)
end
end L2.DL
end
section
set_option Elab.async false
set_option linter.all false
set_option maxRecDepth 100000
set_option maxHeartbeats 4000000
namespace L2.DL
open PySem PySem.Spec PyProof.Rows
set_option autoImplicit false
/-! ### isinstance of a kept error, several classes -/
def mIsX2 (names : List Str) (x : Str) (j : Nat) : MX PyData := fun η => match η[j]? with
  | some (some (.exc nm _)) => if names.contains nm = true then some (.ok (.bool (decide (nm = x))), η) else none
  | some (some (.val .none)) => some (.ok (.bool false), η)
  | _ => none
section
variable {X : Cx} {W : WX} {x y : Str} {j : Nat} {p p1 p2 pos : Pos} {C : Addr} {e : Expr}
theorem de_isX2 (names : List Str) (hE : ∀ nm ∈ names, ∀ D, X.mg nm = some (.ref D) → ExcC X.K D ∧ (nm ≠ x → PySem.W.kitOne X.K (.ref D) (.ref C) = some false)) (hm : X.mg "isinstance" = none) (gC : X.mg x = some (.ref C)) (hn : PySem.W.kitOne X.K (.type "NoneType") (.ref C) = some false) (hv : PE X (.Name y p1) (tVar j)) (gl : Gl X "isinstance" := by rfl) (gl2 : Gl X x := by rfl) (hd2 : (x == ("__debug__" : Str)) = false := by decide)
    (hvb : bootBuiltins "isinstance" = some (.builtin "isinstance") := by rfl) (hs2 : starEach [.Name x p2] X.env = (false, eval (.Name x p2) X.env) :: starEach [] X.env := by rfl)
    (hs : starEach [.Name y p1, .Name x p2] X.env = (false, eval (.Name y p1) X.env) :: starEach [.Name x p2] X.env := by rfl) (hpl : (backTo pos (starEach [.Name x p2] X.env)).any (·.1) = false := by rfl) : DE X W (.Call (.Name "isinstance" p) [.Name y p1, .Name x p2] [] pos) (mIsX2 names x j) := by
  have hx : PE X (.Name x p2) (tC (.ref C)) := pe_glob gl2 gC rfl hd2
  refine PE.imp (pe_callB (CallR.or call_isi call_isX) gl hm hvb (pa_cons hv (pa_cons hx pa_nil hs2) hs) (by decide) (by decide) hs hpl) fun σ H Q ⟨η, T', r0, o, η', eo, pz⟩ => ?_
  unfold mIsX2 at eo
  split at eo
  · rename_i nm d hη
    split at eo
    · rename_i hin
      cases eo
      obtain ⟨a, ea, C', dd, v, h1, ⟨φ, hφ, h2⟩, h3, h4⟩ := r0.exc j nm d hη
      obtain ⟨EC, hno⟩ := hE nm (by simpa using hin) C' h1
      by_cases hnx : nm = x
      · have e2 : C' = C := by
          rw [hnx] at h1
          rw [h1] at gC
          cases gC; rfl
        subst e2
        rw [decide_eq_true hnx] at pz
        exact ⟨.ref a, ea, .inr ⟨a, C', dd, C', _, φ, true, rfl, h2, hφ, h3, EC, if_pos (beq_self_eq_true _), pz _ H StepS.refl r0 (.bl true)⟩⟩
      · rw [decide_eq_false hnx] at pz
        exact ⟨.ref a, ea, .inr ⟨a, C', dd, C, _, φ, false, rfl, h2, hφ, h3, EC, hno hnx, pz _ H StepS.refl r0 (.bl false)⟩⟩
    · cases eo
  · rename_i hη
    cases eo
    obtain ⟨v, ev, qv⟩ := r0.val j _ hη
    cases qv
    exact ⟨.non, ev, .inl ⟨.non, .ref C, .type "NoneType", .ref C, false, rfl, .own C, .base .non, hn, pz _ H StepS.refl r0 (.bl false)⟩⟩
  · cases eo
/-- is a kept error None? -/
def mIsN (j : Nat) : MX PyData := fun η => match η[j]? with
  | some (some (.exc _ _)) => some (.ok (.bool false), η)
  | some (some (.val d)) => some (.ok (.bool (isNoneD d)), η)
  | _ => none
theorem dt_isnX {kk : Nat} (hv : PE X (.Name y p1) (tVar j)) (hm : behindInMarks .Is (.Constant .none kk p2) = false := by rfl) : DT X W (.Compare (.Name y p1) [.Is] [.Constant .none kk p2] pos) (mTru boolD (mIsN j)) :=
  dt_of_op (r := fun x y H Q => y = .non ∧ Q (.bl (decide (x = .non))) H) (PT.imp (pt_cmpR op_isN hv pe_non hm) (tTest_imp fun σ H Q ⟨η, T', r0, o, η', eo, pz⟩ => by
    unfold mIsN at eo
    split at eo
    · rename_i nm d hη
      cases eo
      obtain ⟨a, ea, C', dd, v, h1, ⟨φ, hφ, h2⟩, h3, h4⟩ := r0.exc j nm d hη
      refine ⟨.ref a, ea, rfl, ?_⟩
      rw [decide_eq_false (fun z => by cases z)]
      exact pz _ H StepS.refl r0 (.bl false)
    · rename_i d hη
      cases eo
      obtain ⟨v, ev, qv⟩ := r0.val j _ hη
      refine ⟨v, ev, rfl, ?_⟩
      rw [isN_of qv]
      exact pz _ H StepS.refl r0 (.bl _)
    · cases eo))
end
end L2.DL
end
section
set_option Elab.async false
set_option linter.all false
set_option maxRecDepth 100000
set_option maxHeartbeats 4000000
namespace L2.DL
open PySem PySem.Spec PyProof.Rows
set_option autoImplicit false
/-! ### x, y = a, []; x, y = [], []; x, y, z = a, b, c; a module's tuple of ints -/
section
variable {K : Fg} {mg : Str → Option Value} {σ0 σ : St} {H0 H : Hp} {η0 η η' : EnvD} {T : Addr → Prop}
theorem stepL {j : Nat} {a : Addr} {vs : List V} {ds : List PyData} (s1 : StepS σ0 H0 η0 σ H η) (na : H0 a = none) (r1 : Rp K mg σ H η (fun q => T q ∨ q = a)) (ea : H a = some (.lst vs)) (q1 : DqAll K H (Avd σ η fun q => T q ∨ q = a) vs ds) (no : ¬ Avd σ η T a)
    (hη : stO j (.own false ds) η = some η') : StepS σ0 H0 η0 (σ.set j (some (.ref a))) H η' ∧ Rp K mg (σ.set j (some (.ref a))) H η' T := by
  obtain ⟨rfl, ni⟩ := stO_some hη
  obtain ⟨r2, own, free, inn⟩ := r1.storeL (i := j) ea q1 no
  refine ⟨⟨s1.tr, s1.keep, fun q z => ?_, fun q z => ?_, fun j ds z => ?_⟩, r2⟩
  · rcases own q z with z | z
    · exact s1.le q z
    · subst z; exact .inr na
  · rcases free q z with z | z
    · exact s1.leF q z
    · subst z; exact .inr na
  · obtain ⟨⟨d1, z1⟩, e1⟩ := inn ni j ds z
    obtain ⟨z2, e2⟩ := s1.inn j d1 z1
    exact ⟨z2, e1.trans e2⟩
end
def mParVL (i j : Nat) (ma : MX PyData) : MX Fl := mBind ma fun d => fun η => match (stO i (.val d) η).bind (stO j (.own false [])) with
  | some η' => some (.ok .nx, η')
  | none => none
def mParLL (i j : Nat) : MX Fl := fun η => match (stO i (.own false []) η).bind (stO j (.own false [])) with
  | some η' => some (.ok .nx, η')
  | none => none
def mPar3 (i j k : Nat) (ml : MX (List PyData)) : MX Fl := mBind ml fun ds => fun η => match ds with
  | [d, e, f] => match ((stO i (.val d) η).bind (stO j (.val e))).bind (stO k (.val f)) with
    | some η' => some (.ok .nx, η')
    | none => none
  | _ => none
section
variable {X : Cx} {W : WX} {a b c : Expr} {ma : MX PyData} {ml : MX (List PyData)} {i j k : Nat} {x y z : Str} {px py pz pt pos pt2 pl pl2 : Pos} {kt k2 kl kl2 : Nat}
theorem ds_par3 (hc : X.calm = true) (hN : X.N.Nodup) (hi : X.N[i]? = some x) (hj : X.N[j]? = some y) (hk : X.N[k]? = some z) (hij : i ≠ j) (hik : i ≠ k) (hjk : j ≠ k)
    (hx : X.env.scope.names.lookup x = some .local) (hy : X.env.scope.names.lookup y = some .local) (hz : X.env.scope.names.lookup z = some .local) (ha : DA X W [a, b, c] ml)
    (hw : swappedStores [.Tuple [.Name x px, .Name y py, .Name z pz] kt pt] (.Tuple [a, b, c] k2 pt2) X.env = pure (some [x, y, z]))
    (hs : swapsWithSole [.Tuple [.Name x px, .Name y py, .Name z pz] kt pt] (.Tuple [a, b, c] k2 pt2) pos.line X.env = pure false := by rfl) :
    DS X W (.Assign [.Tuple [.Name x px, .Name y py, .Name z pz] kt pt] (.Tuple [a, b, c] k2 pt2) pos) (mPar3 i j k ml) := by
  refine PS.imp (ps_par3 hc hN hi hj hk hij hik hjk hx hy hz ha hw hs) fun D σ H ⟨η, T, r0, n0⟩ => ⟨η, T, r0, n0.bind fun ds η1 e1 n1 vs H1 s1 r1 q1 => ?_⟩
  obtain ⟨o, η', eo, pz⟩ := n1
  cases q1 with
  | nil => cases eo
  | cons q1 q =>
    cases q with
    | nil => cases eo
    | cons q2 q =>
      cases q with
      | nil => cases eo
      | cons q3 q =>
        cases q with
        | nil =>
          simp only at eo
          split at eo
          · rename_i η2 hη
            cases eo
            obtain ⟨η4, e34, e5⟩ := Option.bind_eq_some_iff.mp hη
            obtain ⟨η3, e3, e4⟩ := Option.bind_eq_some_iff.mp e34
            obtain ⟨rfl, ni⟩ := stO_some e3
            obtain ⟨rfl, nj⟩ := stO_some e4
            obtain ⟨rfl, nk⟩ := stO_some e5
            obtain ⟨r2, s2⟩ := r1.store (i := i) q1
            obtain ⟨r3, s3⟩ := r2.store (i := j) (r1.old (s2 ni) q2)
            obtain ⟨r4, s4⟩ := r3.store (i := k) (r2.old (s3 nj) (r1.old (s2 ni) q3))
            exact ⟨_, _, _, rfl, pz _ H1 (((s1.trans (s2 ni)).trans (s3 nj)).trans (s4 nk)) r4⟩
          · cases eo
        | cons _ _ => cases eo
theorem ds_parVL (hc : X.calm = true) (hN : X.N.Nodup) (hi : X.N[i]? = some x) (hj : X.N[j]? = some y) (hij : i ≠ j)
    (hx : X.env.scope.names.lookup x = some .local) (hy : X.env.scope.names.lookup y = some .local) (ha : DE X W a ma)
    (hw : swappedStores [.Tuple [.Name x px, .Name y py] kt pt] (.Tuple [a, .List [] pl] k2 pt2) X.env = pure (some [x, y]))
    (hs : swapsWithSole [.Tuple [.Name x px, .Name y py] kt pt] (.Tuple [a, .List [] pl] k2 pt2) pos.line X.env = pure false := by rfl)
    (hsa : starEach [a, .List [] pl] X.env = (false, eval a X.env) :: starEach [.List [] pl] X.env := by rfl) (hsb : starEach [.List [] pl] X.env = (false, eval (.List [] pl) X.env) :: starEach [] X.env := by rfl) (hpl : (backTo pt2 (starEach [.List [] pl] X.env)).any (·.1) = false := by rfl) :
    DS X W (.Assign [.Tuple [.Name x px, .Name y py] kt pt] (.Tuple [a, .List [] pl] k2 pt2) pos) (mParVL i j ma) := by
  refine PS.imp (ps_par hc hN hi hj hij hx hy (pa_cons ha (pa_cons (pe_lst pa_nil) pa_nil hsb) hsa) hw hs) fun D σ H ⟨η, T, r0, n0⟩ => ⟨η, T, r0, n0.bind fun d η1 e1 n1 v H1 s1 r1 q1 => ?_⟩
  obtain ⟨o, η', eo, pz⟩ := n1
  split at eo
  · rename_i η2 hη
    cases eo
    obtain ⟨η3, e3, e4⟩ := Option.bind_eq_some_iff.mp hη
    obtain ⟨rfl, ni⟩ := stO_some e3
    obtain ⟨r2, s2⟩ := r1.store (i := i) q1
    refine ⟨Nat.zero_le _, fun p hp => ⟨_, _, rfl, ?_⟩⟩
    have sM := (s1.trans (s2 ni)).trans (StepS.more (More.upd (o := .lst []) hp))
    obtain ⟨s3, r3⟩ := stepL sM (s1.tr p hp) (r2.new (vs := []) hp) upd_same .nil (r2.lists.no hp) e4
    exact pz _ _ s3 r3
  · cases eo
theorem ds_parLL (hc : X.calm = true) (hN : X.N.Nodup) (hi : X.N[i]? = some x) (hj : X.N[j]? = some y) (hij : i ≠ j)
    (hx : X.env.scope.names.lookup x = some .local) (hy : X.env.scope.names.lookup y = some .local)
    (hw : swappedStores [.Tuple [.Name x px, .Name y py] kt pt] (.Tuple [.List [] pl, .List [] pl2] k2 pt2) X.env = pure (some [x, y]))
    (hs : swapsWithSole [.Tuple [.Name x px, .Name y py] kt pt] (.Tuple [.List [] pl, .List [] pl2] k2 pt2) pos.line X.env = pure false := by rfl)
    (hsa : starEach [.List [] pl, .List [] pl2] X.env = (false, eval (.List [] pl) X.env) :: starEach [.List [] pl2] X.env := by rfl) (hsb : starEach [.List [] pl2] X.env = (false, eval (.List [] pl2) X.env) :: starEach [] X.env := by rfl) (hpl : (backTo pt2 (starEach [.List [] pl2] X.env)).any (·.1) = false := by rfl) :
    DS X W (.Assign [.Tuple [.Name x px, .Name y py] kt pt] (.Tuple [.List [] pl, .List [] pl2] k2 pt2) pos) (mParLL i j) := by
  refine PS.imp (ps_par hc hN hi hj hij hx hy (pa_cons (pe_lst pa_nil) (pa_cons (pe_lst pa_nil) pa_nil hsb) hsa) hw hs) fun D σ H ⟨η, T, r0, n0⟩ => ?_
  obtain ⟨o, η', eo, pz⟩ := n0
  unfold mParLL at eo
  split at eo
  · rename_i η2 hη
    cases eo
    obtain ⟨η3, e3, e4⟩ := Option.bind_eq_some_iff.mp hη
    refine ⟨Nat.zero_le _, fun p hp => ⟨Nat.zero_le _, fun p2 hp2 => ⟨_, _, rfl, ?_⟩⟩⟩
    obtain ⟨s2, r2⟩ := stepL (StepS.more (More.upd (o := .lst []) hp)) hp (r0.new (vs := []) hp) upd_same .nil (r0.lists.no hp) e3
    have sM := s2.trans (StepS.more (More.upd (o := .lst []) hp2))
    obtain ⟨s3, r3⟩ := stepL sM (s2.tr p2 hp2) (r2.new (vs := []) hp2) upd_same .nil (r2.lists.no hp2) e4
    exact pz _ _ s3 r3
  · cases eo
/-- a module's tuple of two ints -/
theorem de_globT {x : Str} {p : Addr} {o : Obj} {its : Array Value} {n : Nat} {u v : Int} {pos : Pos} (hm : X.mg x = some (.ref p)) (hl : X.K.lookup p = some o) (hc : o.cls = .type "tuple") (hd : o.data = .seq its n) (hz : its.size ≤ sizeLine) (hv : Vals [V.int u, V.int v] its.toList)
    (hg : Gl X x := by rfl) (hdb : (x == ("__debug__" : Str)) = false := by decide) : DE X W (.Name x pos) (mPure (.tuple [.int u, .int v])) :=
  de_glob (v := .ref p) hm rfl (fun _ _ => .tup (.inr ⟨o, its, n, hl, hc, hd, hz, hv⟩) (.cons (.int _) (.cons (.int _) .nil))) hg hdb
end
end L2.DL
end
section
set_option Elab.async false
set_option linter.all false
set_option maxRecDepth 100000
set_option maxHeartbeats 4000000
namespace L2.DL
open PySem PySem.Spec PyProof.Rows
set_option autoImplicit false
/-! ### zip of a tuple and a list, in any order -/
def CurAt : Bool → Heap → Addr → Addr → Nat → Prop
  | true, h, c, l, k => h.IsTupleIter c l k
  | false, h, c, l, k => h.IsListIter c l k
def SeqIs : Bool → Heap → Addr → Array Value → Prop
  | true, h, l, xs => h.IsTuple l xs
  | false, h, l, xs => h.IsList l xs
def SqX (K : PySem.W.Frag) : Bool → Hp → Addr → List V → Prop
  | true, H, a, xs => SqT K H a xs
  | false, H, a, xs => SqL K H a xs
theorem CurAt.moved {t : Bool} {h h' : Heap} {c d l : Addr} {k : Nat} (x : CurAt t h c l k) (e : Heap.ExtBut d h h') (n : c ≠ d) : CurAt t h' c l k := by
  cases t with
  | true => exact Heap.IsTupleIter.extBut x e n
  | false => exact Heap.IsListIter.extBut x e n
theorem CurAt.goes {t : Bool} {h h' : Heap} {c l : Addr} {k : Nat} (x : CurAt t h c l k) (e : ∀ o, h.get? c = some o → h'.get? c = some o) : CurAt t h' c l k := by
  cases t with
  | true => exact Heap.IsTupleIter.at x e
  | false => exact Heap.IsListIter.at x e
theorem CurAt.obj {t : Bool} {h : Heap} {c l : Addr} {k : Nat} (x : CurAt t h c l k) : ∃ o, h.get? c = some o ∧ o.data = .fields #[.ref l, .int k 0] := by
  cases t with
  | true => exact let ⟨o, a, _, b⟩ := x; ⟨o, a, b⟩
  | false => exact let ⟨o, a, _, b⟩ := x; ⟨o, a, b⟩
theorem CurAt.lt {t : Bool} {h : Heap} {c l : Addr} {k : Nat} (x : CurAt t h c l k) : c < h.objs.size := by
  obtain ⟨_, e, _⟩ := x.obj
  exact Heap.lt_size e
theorem SeqIs.moved {t : Bool} {h h' : Heap} {d l : Addr} {xs : Array Value} (x : SeqIs t h l xs) (e : Heap.ExtBut d h h') (n : l ≠ d) : SeqIs t h' l xs := by
  cases t with
  | true => exact Heap.IsTuple.extBut x e n
  | false => exact Heap.IsList.extBut x e n
theorem SeqIs.lt {t : Bool} {h : Heap} {l : Addr} {xs : Array Value} (x : SeqIs t h l xs) : l < h.objs.size := by
  cases t with
  | true => exact let ⟨_, e, _⟩ := x; Heap.lt_size e
  | false => exact let ⟨_, e, _⟩ := x; Heap.lt_size e
/-- all that a zip stands on -/
structure ZAt (t u : Bool) (h : Heap) (z T O c d l m : Addr) (k j : Nat) (v0 f g : Value) : Prop where
  zp : IsZip h z T O v0
  pr : IsPair h T (.ref c) (.ref d)
  ot : IsPair h O f g
  one : CurAt t h c l k
  two : CurAt u h d m j
section
variable {prog : Program} {w : World} {A : Around} {E : Value → Shared → Prop} {s : Shared}
theorem nextX_item {t : Bool} {c l : Addr} {k : Nat} {xs : Array Value} {x : Value} {Q : Value → Shared → Prop} (a : CurAt t s.heap c l k) (b : SeqIs t s.heap l xs) (e : xs[k]? = some x)
    (q : ∀ g, CurAt t g c l (k + 1) → Heap.SameBut c s.heap g → Q x { s with heap := g }) : wpAny (model prog w) A (Builtin.SmallTypes.nextOf (.ref c)) Q E s := by
  cases t with
  | true => exact RZ.nextOf_tuple_item a b e q
  | false => exact wpAny_nextOf_list_item a b e q
theorem nextX_end {t : Bool} {c l : Addr} {k : Nat} {xs : Array Value} {Q : Value → Shared → Prop} (i : A.handled = none) (a : CurAt t s.heap c l k) (b : SeqIs t s.heap l xs) (e : xs[k]? = none)
    (q : ∀ g r, Heap.ExtBut c s.heap g → (∃ o, g.get? r = some o ∧ o.cls = .type "StopIteration") → E (.ref r) { s with heap := g }) : wpAny (model prog w) A (Builtin.SmallTypes.nextOf (.ref c)) Q E s := by
  cases t with
  | true => exact RZ.nextOf_tuple_end i a b e q
  | false => exact wpAny_nextOf_list_end i a b e q
theorem zipX_item {t u : Bool} {z T O c d l m : Addr} {k j : Nat} {xs ys : Array Value} {x y f g : Value} {Q : Value → Shared → Prop} (D : ZipApart z T O c d l m) (S : ZAt t u s.heap z T O c d l m k j .none f g) (L : SeqIs t s.heap l xs) (M : SeqIs u s.heap m ys) (ex : xs[k]? = some x) (ey : ys[j]? = some y)
    (q : ∀ h', ZAt t u h' z T O c d l m (k + 1) (j + 1) (rawInt s.heap.objs.size) x y → IsPair h' s.heap.objs.size x y → h'.objs.size = s.heap.objs.size + 1 →
      (∀ b o, b ≠ z → b ≠ O → b ≠ c → b ≠ d → s.heap.get? b = some o → h'.get? b = some o) → Q (.ref s.heap.objs.size) { s with heap := h' }) :
    wpAny (model prog w) A (Builtin.«zip.__next__» ⟨[.ref z], []⟩) (fun r s' => ∃ v, r = .done (.ret v) ∧ Q v s') E s := by
  obtain ⟨Z, TP, OP, C1, C2⟩ := S
  show wpAny _ _ (field (.ref z) 2 >>= _) _ _ _
  refine wpAny_bind (wpAny_field Z rfl (x := .bool false) rfl ?_); show wpAny _ _ (field (.ref z) 3 >>= _) _ _ _
  refine wpAny_bind (wpAny_field Z rfl (x := .ref T) rfl ?_)
  refine wpAny_bind (wpAny_seqItems TP rfl ?_); show wpAny _ _ (Builtin.SmallTypes.ownedTupleIsFree (.ref z) >>= _) _ _ _
  refine wpAny_bind ?_
  unfold Builtin.SmallTypes.ownedTupleIsFree
  refine wpAny_bind (wpAny_field Z rfl (x := .none) rfl (wpAny_pure ?_))
  simp only [if_true]
  refine wpAny_bind (wpAny_rule ?_); refine wpAny_bind (wpAny_field Z rfl (x := .ref O) rfl ?_)
  refine wpAny_bind (wpAny_setField_rec Z (by simp) fun g1 Z1 S1 => ?_)
  replace Z1 : IsZip g1 z T O .ellipsis := Z1
  refine wpAny_bind ?_; simp only [List.zipIdx_cons, List.zipIdx_nil, List.forIn_cons, List.forIn_nil]
  refine wpAny_bind (wpAny_bind (wpAny_onRaise ?_)); show wpAny _ _ (Builtin.SmallTypes.nextOf (.ref c) >>= _) _ _ _
  refine wpAny_bind (nextX_item (C1.moved S1.extBut D.i1z) (L.moved S1.extBut D.l1z) ex fun g2 K1 S2 => wpAny_pure ?_)
  have O2 : IsPair g2 O f g := S2.extBut _ _ D.TOi1 (S1.extBut _ _ D.TOz OP)
  refine wpAny_bind (wpAny_seqItems O2 rfl ?_); refine wpAny_bind (wpAny_updateSeq_pair O2 fun g3 O3 S3 => ?_)
  replace O3 : IsPair g3 O x g := O3
  refine wpAny_bind (wpAny_letGo (wpAny_pure ?_)); refine wpAny_bind (wpAny_bind (wpAny_onRaise ?_))
  show wpAny _ _ (Builtin.SmallTypes.nextOf (.ref d) >>= _) _ _ _
  refine wpAny_bind (nextX_item (((C2.moved S1.extBut D.i2z).moved S2.extBut D.i12.symm).moved S3.extBut D.TOi2.symm) (((M.moved S1.extBut D.l2z).moved S2.extBut D.l2i1).moved S3.extBut D.l2TO) ey fun g4 K2 S4 => wpAny_pure ?_)
  have O4 : IsPair g4 O x g := S4.extBut _ _ D.TOi2 O3
  refine wpAny_bind (wpAny_seqItems O4 rfl ?_); refine wpAny_bind (wpAny_updateSeq_pair O4 fun g5 O5 S5 => ?_)
  replace O5 : IsPair g5 O x y := O5
  refine wpAny_bind (wpAny_letGo (wpAny_pure (wpAny_pure ?_))); refine wpAny_bind (wpAny_seqItems O5 rfl ?_)
  refine wpAny_bind (wpAny_newTuple ?_)
  have n5 : g5.objs.size = s.heap.objs.size := by rw [S5.1, S4.1, S3.1, S2.1, S1.1]
  have Z5 : IsZip g5 z T O .ellipsis := S5.extBut _ _ D.TOz.symm (S4.extBut _ _ D.i2z.symm (S3.extBut _ _ D.TOz.symm (S2.extBut _ _ D.i1z.symm Z1)))
  have keep : ∀ b o, b ≠ z → b ≠ O → b ≠ c → b ≠ d → s.heap.get? b = some o → g5.get? b = some o := fun b o n1 n2 n3 n4 e =>
    S5.extBut _ _ n2 (S4.extBut _ _ n4 (S3.extBut _ _ n2 (S2.extBut _ _ n3 (S1.extBut _ _ n1 e))))
  have P1 : CurAt t g5 c l (k + 1) := ((K1.moved S3.extBut D.TOi1.symm).moved S4.extBut D.i12).moved S5.extBut D.TOi1.symm
  have P2 : CurAt u g5 d m (j + 1) := K2.moved S5.extBut D.TOi2.symm
  have zl : z < g5.objs.size := Heap.lt_size Z5
  show wpAny _ _ (Builtin.SmallTypes.ownedTupleHandOut (.ref z) (.ref g5.objs.size) >>= _) _ _ _
  refine wpAny_bind ?_
  unfold Builtin.SmallTypes.ownedTupleHandOut
  have Z6 : IsZip (g5.push { cls := .type "tuple", data := .seq #[x, y] }) z T O .ellipsis := Heap.get?_push_of_some _ Z5
  refine wpAny_bind (wpAny_setField_rec Z6 (by simp) fun g7 Z7 S7 => ?_)
  replace Z7 : IsZip g7 z T O (rawInt g5.objs.size) := Z7
  refine wpAny_setField_rec Z7 (by simp) fun g8 Z8 S8 => ?_
  replace Z8 : IsZip g8 z T O (rawInt g5.objs.size) := Z8
  have up : ∀ b o, b ≠ z → g5.get? b = some o → g8.get? b = some o := fun b o n e => S8.extBut _ _ n (S7.extBut _ _ n (Heap.get?_push_of_some _ e))
  have T8 : IsPair g8 g5.objs.size x y := S8.extBut _ _ (Nat.ne_of_gt zl) (S7.extBut _ _ (Nat.ne_of_gt zl) (Heap.get?_push_size _ rfl))
  have n8 : g8.objs.size = g5.objs.size + 1 := by rw [S8.1, S7.1, Heap.size_push]
  rw [n5] at Z8 T8 n8
  refine wpAny_pure ⟨_, rfl, ?_⟩
  show Q (.ref g5.objs.size) _
  rw [n5]
  refine q g8 ⟨Z8, up _ _ D.TIz ?_, up _ _ D.TOz O5, P1.goes fun o e => up _ o D.i1z e, P2.goes fun o e => up _ o D.i2z e⟩ T8 n8 fun b o n1 n2 n3 n4 e => up b o n1 (keep b o n1 n2 n3 n4 e)
  exact keep _ _ D.TIz D.TITO D.TIi1 D.TIi2 TP
theorem zipX_end {t u : Bool} {z T O c d l m : Addr} {k j : Nat} {xs ys : Array Value} {f g : Value} {Q : Fin → Shared → Prop} (i : A.handled = none) (D : ZipApart z T O c d l m) (S : ZAt t u s.heap z T O c d l m k j .none f g) (L : SeqIs t s.heap l xs) (M : SeqIs u s.heap m ys) (stop : xs[k]? = none ∨ ys[j]? = none)
    (q : ∀ h' r, (∀ b o, b ≠ z → b ≠ O → b ≠ c → b ≠ d → s.heap.get? b = some o → h'.get? b = some o) → (∃ o, h'.get? r = some o ∧ o.cls = .type "StopIteration") → E (.ref r) { s with heap := h' }) :
    wpAny (model prog w) A (Builtin.«zip.__next__» ⟨[.ref z], []⟩) Q E s := by
  obtain ⟨Z, TP, OP, C1, C2⟩ := S
  show wpAny _ _ (field (.ref z) 2 >>= _) _ _ _
  refine wpAny_bind (wpAny_field Z rfl (x := .bool false) rfl ?_); show wpAny _ _ (field (.ref z) 3 >>= _) _ _ _
  refine wpAny_bind (wpAny_field Z rfl (x := .ref T) rfl ?_)
  refine wpAny_bind (wpAny_seqItems TP rfl ?_); show wpAny _ _ (Builtin.SmallTypes.ownedTupleIsFree (.ref z) >>= _) _ _ _
  refine wpAny_bind ?_
  unfold Builtin.SmallTypes.ownedTupleIsFree
  refine wpAny_bind (wpAny_field Z rfl (x := .none) rfl (wpAny_pure ?_))
  simp only [if_true]
  refine wpAny_bind (wpAny_rule ?_); refine wpAny_bind (wpAny_field Z rfl (x := .ref O) rfl ?_)
  refine wpAny_bind (wpAny_setField_rec Z (by simp) fun g1 Z1 S1 => ?_)
  replace Z1 : IsZip g1 z T O .ellipsis := Z1
  refine wpAny_bind ?_; simp only [List.zipIdx_cons, List.zipIdx_nil, List.forIn_cons, List.forIn_nil]
  refine wpAny_bind (wpAny_bind (wpAny_onRaise ?_)); show wpAny _ _ (Builtin.SmallTypes.nextOf (.ref c) >>= _) _ _ _
  cases ex : xs[k]? with
  | none =>
    refine wpAny_bind (nextX_end i (C1.moved S1.extBut D.i1z) (L.moved S1.extBut D.l1z) ex fun g2 r S2 R => ?_)
    obtain ⟨ob, eo, ec⟩ := R
    have Z2 : IsZip g2 z T O .ellipsis := S2 _ _ D.i1z.symm Z1
    have rz : r ≠ z := fun e => by subst e; rw [Z2] at eo; cases eo; simp at ec
    exact wpAny_setField_rec Z2 (by simp) fun g3 _ S3 => q g3 r (fun b o n1 _ n3 _ e => S3.extBut _ _ n1 (S2 _ _ n3 (S1.extBut _ _ n1 e))) ⟨ob, S3.extBut _ _ rz eo, ec⟩
  | some x =>
    have ey : ys[j]? = none := stop.resolve_left (by rw [ex]; exact fun e => nomatch e)
    refine wpAny_bind (nextX_item (C1.moved S1.extBut D.i1z) (L.moved S1.extBut D.l1z) ex fun g2 K1 S2 => wpAny_pure ?_)
    have O2 : IsPair g2 O f g := S2.extBut _ _ D.TOi1 (S1.extBut _ _ D.TOz OP)
    refine wpAny_bind (wpAny_seqItems O2 rfl ?_); refine wpAny_bind (wpAny_updateSeq_pair O2 fun g3 O3 S3 => ?_)
    refine wpAny_bind (wpAny_letGo (wpAny_pure ?_)); refine wpAny_bind (wpAny_bind (wpAny_onRaise ?_))
    show wpAny _ _ (Builtin.SmallTypes.nextOf (.ref d) >>= _) _ _ _
    refine wpAny_bind (nextX_end i (((C2.moved S1.extBut D.i2z).moved S2.extBut D.i12.symm).moved S3.extBut D.TOi2.symm) (((M.moved S1.extBut D.l2z).moved S2.extBut D.l2i1).moved S3.extBut D.l2TO) ey fun g4 r S4 R => ?_)
    obtain ⟨ob, eo, ec⟩ := R
    have Z4 : IsZip g4 z T O .ellipsis := S4 _ _ D.i2z.symm (S3.extBut _ _ D.TOz.symm (S2.extBut _ _ D.i1z.symm Z1))
    have rz : r ≠ z := fun e => by subst e; rw [Z4] at eo; cases eo; simp at ec
    exact wpAny_setField_rec Z4 (by simp) fun g5 _ S5 => q g5 r (fun b o n1 n2 n3 n4 e => S5.extBut _ _ n1 (S4 _ _ n4 (S3.extBut _ _ n2 (S2.extBut _ _ n3 (S1.extBut _ _ n1 e))))) ⟨ob, S5.extBut _ _ rz eo, ec⟩
theorem pyNextX_item {t u : Bool} {z T O c d l m : Addr} {k j : Nat} {xs ys : Array Value} {x y f g : Value} {Q : Option Value → Shared → Prop} (D : ZipApart z T O c d l m) (S : ZAt t u s.heap z T O c d l m k j .none f g) (L : SeqIs t s.heap l xs) (M : SeqIs u s.heap m ys) (ex : xs[k]? = some x) (ey : ys[j]? = some y)
    (q : ∀ h', ZAt t u h' z T O c d l m (k + 1) (j + 1) (rawInt s.heap.objs.size) x y → IsPair h' s.heap.objs.size x y → h'.objs.size = s.heap.objs.size + 1 →
      (∀ b o, b ≠ z → b ≠ O → b ≠ c → b ≠ d → s.heap.get? b = some o → h'.get? b = some o) → Q (some (.ref s.heap.objs.size)) { s with heap := h' }) : wpAny (model prog w) A (pyNext (.ref z)) Q E s := by
  have ty : s.TypeIs (.ref z) "zip" := ⟨_, S.zp, rfl⟩
  unfold pyNext
  exact wpAny_bind (wpAny_attempt (wpAny_callSpecial?_slot (name := Str.ofString "__next__") ty F.slot_zip_next (wpAny_call_entry F.slot_zip_next ty F.entry_zip_next
    (zipX_item D S L M ex ey fun h' a1 a2 a3 a4 => wpAny_pure (q h' a1 a2 a3 a4)) (F.args_zip_next_1 _))))
theorem pyNextX_end {t u : Bool} {z T O c d l m : Addr} {k j : Nat} {xs ys : Array Value} {f g : Value} {Q : Option Value → Shared → Prop} (i : A.handled = none) (D : ZipApart z T O c d l m) (S : ZAt t u s.heap z T O c d l m k j .none f g) (L : SeqIs t s.heap l xs) (M : SeqIs u s.heap m ys) (stop : xs[k]? = none ∨ ys[j]? = none)
    (q : ∀ h', (∀ b o, b ≠ z → b ≠ O → b ≠ c → b ≠ d → s.heap.get? b = some o → h'.get? b = some o) → Q none { s with heap := h' }) : wpAny (model prog w) A (pyNext (.ref z)) Q E s := by
  have ty : s.TypeIs (.ref z) "zip" := ⟨_, S.zp, rfl⟩
  unfold pyNext
  refine wpAny_bind (wpAny_attempt (wpAny_callSpecial?_slot (name := Str.ofString "__next__") ty F.slot_zip_next (wpAny_call_entry F.slot_zip_next ty F.entry_zip_next
    (zipX_end i D S L M stop fun h' r a R => ?_) (F.args_zip_next_1 _))))
  obtain ⟨o, eo, ec⟩ := R
  exact wpAny_bind (wpAny_isInstance (T := "StopIteration") (b := true) ⟨o, eo, ec⟩ isSubtype_stop (wpAny_pure (q _ a)))
end
def curN (t : Bool) : String := bif t then "tuple_iterator" else "list_iterator"
abbrev zh1 (t : Bool) (h : Heap) (l : Addr) : Heap := h.push { cls := .type (curN t), data := .fields #[.ref l, .int 0 0] }
abbrev zh2 (t u : Bool) (h : Heap) (l m : Addr) : Heap := (zh1 t h l).push { cls := .type (curN u), data := .fields #[.ref m, .int 0 0] }
abbrev zh3 (t u : Bool) (h : Heap) (l m : Addr) : Heap := (zh2 t u h l m).push { cls := .type "tuple", data := .seq #[.ref h.objs.size, .ref (zh1 t h l).objs.size] }
abbrev zh4 (t u : Bool) (h : Heap) (l m : Addr) : Heap := (zh3 t u h l m).push { cls := .type "tuple", data := .seq #[.none, .none] }
abbrev zh5 (t u : Bool) (h : Heap) (l m : Addr) : Heap := (zh4 t u h l m).push { cls := .type "zip", data := .fields #[.none, .bool false, .bool false, .ref (zh2 t u h l m).objs.size, .ref (zh3 t u h l m).objs.size] }
theorem SeqIs.push {t : Bool} {h : Heap} {l : Addr} {xs : Array Value} (x : SeqIs t h l xs) (o : Obj) : SeqIs t (h.push o) l xs := by
  cases t with
  | true => exact Heap.IsTuple.push x o
  | false => exact Heap.IsList.push x o
theorem zipX_tl (l m : Addr) (xs ys : Array Value) : Meets (Builtin.«zip.__new__» ⟨[.type "zip", .ref l, .ref m], []⟩) (fun _ R s => s.heap.IsTuple l xs ∧ s.heap.IsList m ys ∧ R (.ok (.ret (.ref (zh4 true false s.heap l m).objs.size))) { s with heap := zh5 true false s.heap l m }) :=
  .of_wp fun prog w A R s h => by
    obtain ⟨hp, gl, dd, tk, os⟩ := s
    obtain ⟨b1, b2, h⟩ := h
    have hsub := sub_zip
    have L1 : Heap.IsTuple (Shared.heap ⟨hp, gl, dd, tk, os⟩) l xs := b1
    have L2 : Heap.IsList (Shared.heap ⟨hp.push { cls := .type "tuple_iterator", data := .fields #[.ref l, .int 0 0] }, gl, dd, tk, os⟩) m ys := Heap.IsList.push b2 _
    wp_walk using wpAny_pyIter_tuple L1, wpAny_pyIter_list L2
    exact ⟨_, rfl, h⟩
theorem zipX_lt (l m : Addr) (xs ys : Array Value) : Meets (Builtin.«zip.__new__» ⟨[.type "zip", .ref l, .ref m], []⟩) (fun _ R s => s.heap.IsList l xs ∧ s.heap.IsTuple m ys ∧ R (.ok (.ret (.ref (zh4 false true s.heap l m).objs.size))) { s with heap := zh5 false true s.heap l m }) :=
  .of_wp fun prog w A R s h => by
    obtain ⟨hp, gl, dd, tk, os⟩ := s
    obtain ⟨b1, b2, h⟩ := h
    have hsub := sub_zip
    have L1 : Heap.IsList (Shared.heap ⟨hp, gl, dd, tk, os⟩) l xs := b1
    have L2 : Heap.IsTuple (Shared.heap ⟨hp.push { cls := .type "list_iterator", data := .fields #[.ref l, .int 0 0] }, gl, dd, tk, os⟩) m ys := Heap.IsTuple.push b2 _
    wp_walk using wpAny_pyIter_list L1, wpAny_pyIter_tuple L2
    exact ⟨_, rfl, h⟩
theorem zipX_new (t u : Bool) (l m : Addr) (xs ys : Array Value) :
    Meets (Builtin.«zip.__new__» ⟨[.type "zip", .ref l, .ref m], []⟩) (fun _ R s => SeqIs t s.heap l xs ∧ SeqIs u s.heap m ys ∧ R (.ok (.ret (.ref (zh4 t u s.heap l m).objs.size))) { s with heap := zh5 t u s.heap l m }) := by
  cases t <;> cases u
  · exact meets_zip_new l m xs ys
  · exact zipX_lt l m xs ys
  · exact zipX_tl l m xs ys
  · exact RZ.meets_zipT_new l m xs ys
theorem CurAt.new {t : Bool} {h : Heap} {c l : Addr} (e : h.get? c = some { cls := .type (curN t), data := .fields #[.ref l, .int 0 0] }) : CurAt t h c l 0 := by
  cases t with
  | true => exact ⟨_, e, rfl, rfl⟩
  | false => exact ⟨_, e, rfl, rfl⟩
section
variable {prog : Program} {w : World} {A : Around} {E : Value → Shared → Prop} {s : Shared}
theorem call_zipX {t u : Bool} {l m : Addr} {xs ys : Array Value} {Q : Value → Shared → Prop} (b1 : SeqIs t s.heap l xs) (b2 : SeqIs u s.heap m ys)
    (q : ∀ h', ZAt t u h' (s.heap.objs.size + 4) (s.heap.objs.size + 2) (s.heap.objs.size + 3) s.heap.objs.size (s.heap.objs.size + 1) l m 0 0 .none .none .none → h'.objs.size = s.heap.objs.size + 5 →
      (∀ b o, s.heap.get? b = some o → h'.get? b = some o) → Q (.ref (s.heap.objs.size + 4)) { s with heap := h' }) :
    wpAny (model prog w) A (call (.type "zip") [.ref l, .ref m]) Q E s := by
  refine callType_new F.called_zip (by decide) (F.typeCall_zip_2 _ _) (F.newCall_zip_2 _ _) (fun o => F.args_object_init_3 o _ _) F.entry_zip_new (zipX_new t u l m xs ys) ⟨b1, b2, ?_⟩
  have n1 : (zh1 t s.heap l).objs.size = s.heap.objs.size + 1 := Heap.size_push ..
  have n2 : (zh2 t u s.heap l m).objs.size = s.heap.objs.size + 2 := by rw [Heap.size_push, n1]
  have n3 : (zh3 t u s.heap l m).objs.size = s.heap.objs.size + 3 := by rw [Heap.size_push, n2]
  have n4 : (zh4 t u s.heap l m).objs.size = s.heap.objs.size + 4 := by rw [Heap.size_push, n3]
  have n5 : (zh5 t u s.heap l m).objs.size = s.heap.objs.size + 5 := by rw [Heap.size_push, n4]
  have up : ∀ {h : Heap} {o o' : Obj} {b : Addr}, h.get? b = some o → (h.push o').get? b = some o := fun e => Heap.get?_push_of_some _ e
  have e5 : (zh5 t u s.heap l m).get? (zh4 t u s.heap l m).objs.size = some _ := Heap.get?_push_size _ rfl
  have e4 : (zh5 t u s.heap l m).get? (zh3 t u s.heap l m).objs.size = some _ := up (Heap.get?_push_size _ rfl)
  have e3 : (zh5 t u s.heap l m).get? (zh2 t u s.heap l m).objs.size = some _ := up (up (Heap.get?_push_size _ rfl))
  have e2 : (zh5 t u s.heap l m).get? (zh1 t s.heap l).objs.size = some _ := up (up (up (Heap.get?_push_size _ rfl)))
  have e1 : (zh5 t u s.heap l m).get? s.heap.objs.size = some _ := up (up (up (up (Heap.get?_push_size _ rfl))))
  show _ ∧ _
  rw [n2, n3, n4] at e5
  rw [n1, n2] at e3
  rw [n3] at e4
  rw [n1] at e2
  rw [n4]
  exact ⟨⟨_, e5, rfl⟩, q _ ⟨e5, e3, e4, CurAt.new e1, CurAt.new e2⟩ n5 fun b o e => up (up (up (up (up e))))⟩
end
end L2.DL
end
section
set_option Elab.async false
set_option linter.all false
set_option maxRecDepth 100000
set_option maxHeartbeats 4000000
namespace L2.DL
open PySem PySem.Spec PyProof.Rows
set_option autoImplicit false
/-! ### zip of a tuple and a list: the turns, the rule -/
section
variable {X : Cx} {pins : List (Addr × Obj)} {σ : L2.St} {H : Hp} {s : Shared}
theorem inv_sqX {t : Bool} {a : Addr} {xs : List V} (I : Inv X pins σ H s) (h : SqX X.K t H a xs) : ∃ its : List Value, Vals xs its ∧ SeqIs t s.heap a its.toArray := by
  cases t with
  | true =>
    obtain ⟨its, r, p, _⟩ := I.tuple h
    exact ⟨its, r, p⟩
  | false =>
    obtain ⟨its, r, p, _⟩ := I.list h
    exact ⟨its, r, p.isList⟩
theorem inv_injX {t : Bool} {a : Addr} {xs ys : List V} (I : Inv X pins σ H s) (h : SqX X.K t H a xs) (h' : SqX X.K t H a ys) : xs = ys := by
  cases t with
  | true => exact I.tuple_inj h h'
  | false => exact I.list_inj h h'
end
/-- the two as they stand at each turn, the items in new pairs -/
def ItX (K : PySem.W.Frag) (t u : Bool) (a b : Addr) : It where
  go := fun i H => ∃ (xs ys : List V) (x y : V), SqX K t H a xs ∧ SqX K u H b ys ∧ xs[i]? = some x ∧ ys[i]? = some y
  yld := fun i H v H' => ∃ T x y, v = .ref T ∧ H T = none ∧ H' = upd H T (.tup [x, y]) ∧ (∀ xs, SqX K t H a xs → xs[i]? = some x) ∧ ∀ ys, SqX K u H b ys → ys[i]? = some y
  stop := fun i H => ∃ xs ys : List V, SqX K t H a xs ∧ SqX K u H b ys ∧ (xs.length ≤ i ∨ ys.length ≤ i)
theorem turn_zipX {P : Program} {w : World} {K : PySem.W.Frag} {elts : List Expr} {kk : Nat} {tpos : Pos} {t u : Bool} {a b z T O c d : Addr} (D : ZipApart z T O c d a b) :
    Turn P w K (.Tuple elts kk tpos) (ItX K t u a b) [z, T, O, c, d] z (fun i h => ∃ f g, ZAt t u h z T O c d a b i i .none f g) where
  mem := by simp
  obj := fun i h st r hr => by
    obtain ⟨f, g, S⟩ := st
    have e' : r = z ∨ r = T ∨ r = O ∨ r = c ∨ r = d := by simpa using hr
    obtain ⟨o1, e1, d1⟩ := S.one.obj
    obtain ⟨o2, e2, d2⟩ := S.two.obj
    rcases e' with rfl | rfl | rfl | rfl | rfl
    · exact ⟨_, S.zp, fun v q => nomatch q⟩
    · exact ⟨_, S.pr, fun v q => nomatch q⟩
    · exact ⟨_, S.ot, fun v q => nomatch q⟩
    · exact ⟨o1, e1, fun v q => by rw [d1] at q; cases q⟩
    · exact ⟨o2, e2, fun v q => by rw [d2] at q; cases q⟩
  keep := fun i h h' st k => by
    obtain ⟨f, g, S⟩ := st
    exact ⟨f, g, k z (by simp) _ S.zp, k T (by simp) _ S.pr, k O (by simp) _ S.ot, S.one.goes fun o q => k c (by simp) o q, S.two.goes fun o q => k d (by simp) o q⟩
  item := by
    intro X hP hw hK hc i pins s σ H E I hf st hg
    subst hP hw hK
    obtain ⟨f, g, S⟩ := st
    obtain ⟨xs, ys, x, y, qa, qb, ex, ey⟩ := hg
    obtain ⟨its, rv, p⟩ := inv_sqX I qa
    obtain ⟨its2, rv2, p2⟩ := inv_sqX I qb
    obtain ⟨v1, ev1, r1⟩ := rv.get ex
    obtain ⟨v2, ev2, r2⟩ := rv2.get ey
    have zl : z < s.heap.objs.size := Heap.lt_size S.zp
    have S0 := S
    refine pyNextX_item D S p p2 (x := v1) (y := v2) (by simpa using ev1) (by simpa using ev2) fun h' S' pT sz kp => ?_
    refine ⟨_, rfl, wpAny_letOwnedTupleGo_zip (s := { s with heap := h' }) S'.zp fun h2 z2 sb => ?_⟩
    have pT2 : h2.get? s.heap.objs.size = some { cls := .type "tuple", data := .seq #[v1, v2] } := (sb.2 _ (Nat.ne_of_gt zl)).trans pT
    have new : ObjOk X.prog X.w (upd H s.heap.objs.size (.tup [x, y])) h2 s.heap.objs.size (.tup [x, y]) := ⟨by show 2 ≤ sizeLine; decide, [v1, v2], .cons r1 (.cons r2 .nil), ⟨_, pT2, rfl, _, rfl⟩⟩
    have I1 : Inv X pins σ (upd H s.heap.objs.size (.tup [x, y])) { s with heap := h2 } := I.turnedNew (t' := s.toks) (ch := [z, T, O, c, d])
      (fun b o nb q => (sb.2 b fun e => nb (by simp [e])).trans (kp b o (fun e => nb (by simp [e])) (fun e => nb (by simp [e])) (fun e => nb (by simp [e])) (fun e => nb (by simp [e])) q)) hf (Nat.le_refl _) new
    refine ⟨.ref s.heap.objs.size, _, I1, rfl, ⟨_, x, y, rfl, I.hok.fresh (Nat.le_refl _), rfl, fun l hl => by rw [inv_injX I hl qa]; exact ex, fun l hl => by rw [inv_injX I hl qb]; exact ey⟩, ⟨v1, v2, z2, ?_, ?_, ?_, ?_⟩, fun r hr => ?_⟩
    · exact (sb.2 _ D.TIz).trans S'.pr
    · exact (sb.2 _ D.TOz).trans S'.ot
    · exact S'.one.goes fun o q => (sb.2 _ D.i1z).trans q
    · exact S'.two.goes fun o q => (sb.2 _ D.i2z).trans q
    · have lt : r < s.heap.objs.size := by
        have e' : r = z ∨ r = T ∨ r = O ∨ r = c ∨ r = d := by simpa using hr
        rcases e' with rfl | rfl | rfl | rfl | rfl
        · exact zl
        · exact Heap.lt_size S0.pr
        · exact Heap.lt_size S0.ot
        · exact S0.one.lt
        · exact S0.two.lt
      rw [upd_ne (Nat.ne_of_lt lt)]
      exact (hf r hr).1
  done := by
    intro X hP hw hK hc i pins s σ H E I hf st hg
    subst hP hw hK
    obtain ⟨f, g, S⟩ := st
    obtain ⟨xs, ys, qa, qb, stop⟩ := hg
    obtain ⟨its, rv, p⟩ := inv_sqX I qa
    obtain ⟨its2, rv2, p2⟩ := inv_sqX I qb
    have n1 := rv.length
    have n2 := rv2.length
    have he : its.toArray[i]? = none ∨ its2.toArray[i]? = none := by
      rcases stop with q | q
      · exact .inl (by simp; omega)
      · exact .inr (by simp; omega)
    exact pyNextX_end (I.ok.hd hc) D S p p2 he fun h' kp => ⟨rfl, I.turnedL (t' := s.toks) (ch := [z, T, O, c, d]) (fun b o nb q => kp b o (fun e => nb (by simp [e])) (fun e => nb (by simp [e])) (fun e => nb (by simp [e])) (fun e => nb (by simp [e])) q) hf⟩
  self := fun A i s Q E st h => by
    obtain ⟨f, g, S⟩ := st
    exact wpAny_pyIter_zip S.zp h
def iZipX (K : PySem.W.Frag) (ta : TA) : TI := fun σ H R => ta σ H fun vs H1 => ∃ t u a b xs ys, vs = [.ref a, .ref b] ∧ SqX K t H1 a xs ∧ SqX K u H1 b ys ∧ R (ItX K t u a b) H1
theorem pi_zipX {X : Cx} {e e2 : Expr} {ta : TA} {p pos tpos : Pos} {elts : List Expr} {kk : Nat} (hg : Gl X "zip") (hm : X.mg "zip" = none) (ha : PA X [e, e2] ta)
    (hs : starEach [e, e2] X.env = (false, eval e X.env) :: starEach [e2] X.env := by rfl) (hpl : (backTo pos (starEach [e2] X.env)).any (·.1) = false := by rfl) : PI X (.Tuple elts kk tpos) (.Call (.Name "zip" p) [e, e2] [] pos) (iZipX X.K ta) := by
  refine ⟨fun pins s σ H R I h => Call_ (ld_blt I hg hm PyProof.Rows.boot_zip (PyProof.Rows.callWith_type1 (thn (ha.run pos pins s σ H _ I h) fun us s1 ⟨vs, H1, I1, r1, q1⟩ => ?_) hs hpl))⟩
  obtain ⟨t, u, a, b, xs, ys, rfl, qa, qb, q⟩ := q1
  cases r1 with
  | cons r rr =>
    cases rr with
    | cons r' rr =>
      cases rr
      cases r
      cases r'
      obtain ⟨its, rv, p1⟩ := inv_sqX I1 qa
      obtain ⟨its2, rv2, p2⟩ := inv_sqX I1 qb
      refine call_zipX p1 p2 fun h' S sz kp => wpAny_pyIter_zip S.zp ?_
      have I2 : Inv X pins σ H1 { s1 with heap := h' } := I1.kept (t' := s1.toks) kp
      refine ⟨s1.heap.objs.size + 4, [s1.heap.objs.size + 4, s1.heap.objs.size + 2, s1.heap.objs.size + 3, s1.heap.objs.size, s1.heap.objs.size + 1], _, _, H1, rfl, I2, turn_zipX (PySem.W.ktu_apart s1.heap.objs.size a b p1.lt p2.lt), ⟨.none, .none, S⟩, fun r hr => ?_, q⟩
      have e' : r = s1.heap.objs.size + 4 ∨ r = s1.heap.objs.size + 2 ∨ r = s1.heap.objs.size + 3 ∨ r = s1.heap.objs.size ∨ r = s1.heap.objs.size + 1 := by simpa using hr
      have le : s1.heap.objs.size ≤ r := by rcases e' with e | e | e | e | e <;> (subst e; first | exact Nat.le_refl _ | exact Nat.le_add_right _ _)
      exact I1.fpOk le (I1.hok.fresh le)
/-! ### the data of zip: lists, tuples -/
def zipXD : List PyData → Option (List PyData)
  | [d, e] => match itemsD d, itemsD e with
    | some ds, some es => some ((ds.zip es).map fun p => .tuple [p.1, p.2])
    | _, _ => none
  | _ => none
theorem bq_seq {K : Fg} {H : Hp} {O : Addr → Prop} {v : V} {d : PyData} {ds : List PyData} (q : Dq K H O v d) (e : itemsD d = some ds) : ∃ t a vs, v = .ref a ∧ Src K H O a t vs ds := by
  cases q with
  | @lst a ws es no r all =>
    obtain rfl : es = ds := Option.some.inj e
    exact ⟨false, a, ws, rfl, ⟨no, r⟩, all⟩
  | @tup a ws es r all =>
    obtain rfl : es = ds := Option.some.inj e
    exact ⟨true, a, ws, rfl, r, all⟩
  | _ => exact nomatch (show none = some ds from e)
theorem Src.sq {K : Fg} {H : Hp} {O : Addr → Prop} {a : Addr} {t : Bool} {vs : List V} {ds : List PyData} (s : Src K H O a t vs ds) : SqX K t H a vs := by
  have h := s.1
  cases t with
  | true => exact h
  | false => exact .inl h.2
section
variable {X : Cx} {W : WX} {a b : Expr} {ml : MX (List PyData)} {p pos tpos : Pos} {elts : List Expr} {kk : Nat}
theorem di_zipX (hm : X.mg "zip" = none) (ha : DA X W [a, b] ml) (hl : ∀ η xs η1, ml η = some (.ok xs, η1) → xs.length = 2) (hg : Gl X "zip" := by rfl) (hs : starEach [a, b] X.env = (false, eval a X.env) :: starEach [b] X.env := by rfl) (hpl : (backTo pos (starEach [b] X.env)).any (·.1) = false := by rfl) : DI X W (.Tuple elts kk tpos) (.Call (.Name "zip" p) [a, b] [] pos) (gIt zipXD ml) := by
  refine PI.imp (pi_zipX hg hm ha hs hpl) fun σ H R ⟨η, T, r0, n0⟩ => ⟨η, T, r0, n0.bind fun x η1 e1 n1 vs H1 s1 r1 q1 => ?_⟩
  obtain ⟨z, ez, p⟩ := n1.lift
  have l1 := hl η x η1 e1
  match x, l1, q1, ez with
  | [d, d2], _, .cons q (.cons q2 .nil), ez =>
    simp only [zipXD] at ez
    split at ez
    · rename_i ds es ed ee
      cases ez
      obtain ⟨t, c, ws, rfl, s⟩ := bq_seq q ed
      obtain ⟨u, c2, us, rfl, s2⟩ := bq_seq q2 ee
      refine ⟨t, u, c, c2, ws, us, rfl, s.sq, s2.sq, p _ H1 s1 r1 fun H2 O1 k l2 => ?_⟩
      have h := s.keep k
      have h2 := s2.keep k
      have m := h.2
      have m2 := h2.2
      have hlen : ((ds.zip es).map fun p => PyData.tuple [p.1, p.2]).length = min ds.length es.length := by simp
      rw [hlen]
      refine ⟨fun i hi => ?_, fun i hi => ⟨ws, us, h.sq, h2.sq, by rw [m.length, m2.length]; omega⟩, fun i x H3 hi y => ?_⟩
      · obtain ⟨v, e⟩ := m.lt (i := i) (by omega)
        obtain ⟨v2, e2⟩ := m2.lt (i := i) (by omega)
        exact ⟨ws, us, v, v2, h.sq, h2.sq, e, e2⟩
      · obtain ⟨T', y1, y2, rfl, hn, rfl, hy1, hy2⟩ := y
        obtain ⟨d', e', qd⟩ := m.get' (hy1 ws h.sq)
        obtain ⟨d2', e2', qd2⟩ := m2.get' (hy2 us h2.sq)
        have mo : More H2 (upd H2 T' (.tup [y1, y2])) := More.upd hn
        refine ⟨mo, .tuple [d', d2'], ?_, .tup (.inl (.inl upd_same)) (.cons (qd.more l2 mo) (.cons (qd2.more l2 mo) .nil))⟩
        rw [List.getElem?_map, List.getElem?_zip_eq_some (z := (d', d2')) |>.mpr ⟨e', e2'⟩]
        rfl
    · cases ez
end
end L2.DL
end
section
set_option Elab.async false
set_option linter.all false
set_option maxRecDepth 100000
set_option maxHeartbeats 4000000
namespace L2.DL
open PySem PySem.Spec PyProof.Rows
set_option autoImplicit false
/-! ### range(i, j, c), c > 0 -/
def rgN (i j c : Int) : Nat := (Builtin.Range.rangeSize i j c).toNat
def rgCL (i c : Int) (n : Nat) : List PyData := (List.range n).map fun (k : Nat) => .int (i + (k : Int) * c)
def rg3ok (i j c : Int) : Bool := decide (0 < c) && decide (c.natAbs < 1073741824) && Builtin.Range.small i j c && decide (rgN i j c ≤ 2 ^ 24)
theorem rg3_of {i j c : Int} (h : rg3ok i j c = true) : RgC i j c (rgN i j c) ∧ rgN i j c ≤ 2 ^ 24 := by
  unfold rg3ok at h
  rw [Bool.and_eq_true, Bool.and_eq_true, Bool.and_eq_true, decide_eq_true_eq, decide_eq_true_eq, decide_eq_true_eq] at h
  obtain ⟨⟨⟨h1, h2⟩, h3⟩, h4⟩ := h
  refine ⟨⟨by omega, h2, h3, ?_⟩, h4⟩
  have : 0 ≤ Builtin.Range.rangeSize i j c := by
    unfold Builtin.Range.rangeSize
    rw [if_pos h1]
    split
    · have := Int.ediv_nonneg (a := j - i - 1) (b := c) (by omega) (by omega)
      omega
    · omega
  unfold rgN
  omega
theorem it_rngC {K : Fg} {H : Hp} {O : Addr → Prop} {lo c : Int} {n : Nat} : ItOk K (Itc lo c n) (rgCL lo c n) O H := fun H1 O1 k l1 => by
  have hl : (rgCL lo c n).length = n := by unfold rgCL; simp
  refine ⟨fun i hi => by rw [hl] at hi; exact hi, fun i hi => by rw [hl] at hi; exact hi, fun i x H2 hi y => ?_⟩
  obtain ⟨rfl, rfl⟩ := y
  rw [hl] at hi
  refine ⟨More.refl, .int (lo + (i : Int) * c), ?_, .int _⟩
  unfold rgCL
  rw [List.getElem?_map, List.getElem?_range hi]
  rfl
def rangeD3 : List PyData → Option (List PyData)
  | [.int i, .int j, .int c] => if rg3ok i j c = true then some (rgCL i c (rgN i j c)) else none
  | _ => none
section
variable {X : Cx} {W : WX} {tg a b c : Expr} {ml : MX (List PyData)} {p pos : Pos}
theorem di_range3 (hm : X.mg "range" = none) (ha : DA X W [a, b, c] ml) (hl : ∀ η xs η1, ml η = some (.ok xs, η1) → xs.length = 3) (hg : Gl X "range" := by rfl) (hs : starEach [a, b, c] X.env = (false, eval a X.env) :: starEach [b, c] X.env := by rfl) (hpl : (backTo pos (starEach [b, c] X.env)).any (·.1) = false := by rfl) : DI X W tg (.Call (.Name "range" p) [a, b, c] [] pos) (gIt rangeD3 ml) := by
  refine PI.imp (pi_range3 hg hm ha hs hpl) fun σ H R ⟨η, T, r0, n0⟩ => ⟨η, T, r0, n0.bind fun x η1 e1 n1 vs H1 s1 r1 q1 => ?_⟩
  obtain ⟨z, ez, p⟩ := n1.lift
  have l1 := hl η x η1 e1
  match x, l1, q1, ez with
  | [d1, d2, d3], _, .cons q1 (.cons q2 (.cons q3 .nil)), ez =>
    cases q1 with
    | int i =>
      cases q2 with
      | int j =>
        cases q3 with
        | int k =>
          simp only [rangeD3] at ez
          split at ez
          · rename_i h
            cases ez
            exact ⟨i, j, k, _, rfl, (rg3_of h).1, p _ H1 s1 r1 it_rngC⟩
          · cases ez
        | _ => cases ez
      | _ => cases ez
    | _ => cases ez
end
/-- list(range(i, j, c)) -/
def rgVC (i c : Int) (n : Nat) : List V := (List.range n).map fun k => V.int (i + (k : Nat) * c)
theorem vals_rgC {i c : Int} {n : Nat} {acc : Array Value} (h : ItemsOf (fun k v => ∃ t, v = .int (i + k * c) t) acc n) : Vals (rgVC i c n) acc.toList := by
  have e : acc.toList.length = n := by rw [Array.length_toList]; exact h.1
  unfold rgVC
  rw [← e]
  refine vals_of_get acc.toList _ fun j u hj => ?_
  obtain ⟨t, rfl⟩ := h.2 j u (by rw [← hj, Array.getElem?_toList])
  exact ⟨t, rfl⟩
theorem rgC_all {K : Fg} {H : Hp} {O : Addr → Prop} (i c : Int) (n : Nat) : DqAll K H O (rgVC i c n) (rgCL i c n) := by
  unfold rgVC rgCL
  generalize List.range n = l
  induction l with
  | nil => exact .nil
  | cons x xs ih => exact .cons (.int _) ih
def tLstRg3 (ta : TA) : TE := fun σ H Q => ta σ H fun vs H1 => ∃ i j c : Int, vs = [.int i, .int j, .int c] ∧ rg3ok i j c = true ∧ ∀ q, H1 q = none → Q (.ref q) (upd H1 q (.lst (rgVC i c (rgN i j c))))
section
variable {X : Cx} {W : WX} {a b c : Expr} {ml : MX (List PyData)} {p p2 pos pos2 : Pos}
theorem pe_listRg3 {ta : TA} (hc : X.calm = true) (hg : Gl X "list") (hm : X.mg "list" = none) (hg2 : Gl X "range") (hm2 : X.mg "range" = none) (ha : PA X [a, b, c] ta)
    (na : starEach [.Call (.Name "range" p2) [a, b, c] [] pos2] X.env = (false, eval (.Call (.Name "range" p2) [a, b, c] [] pos2) X.env) :: starEach [] X.env := by rfl) (hs : starEach [a, b, c] X.env = (false, eval a X.env) :: starEach [b, c] X.env := by rfl) (hpl : (backTo pos2 (starEach [b, c] X.env)).any (·.1) = false := by rfl) :
    PE X (.Call (.Name "list" p) [.Call (.Name "range" p2) [a, b, c] [] pos2] [] pos) (tLstRg3 ta) := by
  refine ⟨fun pins s σ H Q I h => Call_ (ld_blt I hg hm boot_list (PyProof.Rows.callWith_type1 (args_cons (Call_ (ld_blt I hg2 hm2 boot_range (PyProof.Rows.callWith_type1 (thn (ha.run pos2 pins s σ H _ I h) fun us s1 ⟨vs, H1, I1, r1, q1⟩ => ?_) hs hpl))) na) na))⟩
  obtain ⟨i, j, k, rfl, ok, q⟩ := q1
  obtain ⟨⟨c0, c1, c2, c3⟩, c4⟩ := rg3_of ok
  cases r1 with
  | cons r rr =>
    cases rr with
    | cons r' rr =>
      cases rr with
      | cons r'' rr =>
        cases rr
        obtain ⟨t, rfl⟩ := r
        obtain ⟨t', rfl⟩ := r'
        obtain ⟨t'', rfl⟩ := r''
        refine call_range_3 c0 ?_ (.inl (PyProof.noPylong_small c1))
        have I2 : Inv X pins σ H1 { s1 with heap := s1.heap.push { cls := .type "range", data := .fields #[.int i t, .int j t', .int k t''] } } := I1.kept (t' := s1.toks) fun b o e => Heap.get?_push_of_some _ e
        refine args_nil (call_list_range (n := rgN i j k) (I2.ok.hd hc) (IsRange.new ..) c2 c3 c4 fun h' tk acc cc hk e' hi => ?_)
        refine ⟨.ref _, upd H1 _ (.lst (rgVC i k (rgN i j k))), I2.laid hk (Nat.le_refl _) (show ObjOk X.prog X.w _ _ _ (.lst (rgVC i k (rgN i j k))) from ⟨?_, acc.toList, cc, vals_rgC hi, ?_⟩), rfl, q _ (I2.hok.fresh (Nat.le_refl _))⟩
        · unfold rgVC
          rw [List.length_map, List.length_range, sizeLine_eq]; omega
        · rw [Array.toArray_toList]; exact e'
def rg3L : List PyData → Option (List PyData) := rangeD3
theorem df_listRg3 (hc : X.calm = true) (hg : Gl X "list") (hm : X.mg "list" = none) (hg2 : Gl X "range") (hm2 : X.mg "range" = none) (ha : DA X W [a, b, c] ml) (hl : ∀ η xs η1, ml η = some (.ok xs, η1) → xs.length = 3)
    (na : starEach [.Call (.Name "range" p2) [a, b, c] [] pos2] X.env = (false, eval (.Call (.Name "range" p2) [a, b, c] [] pos2) X.env) :: starEach [] X.env := by rfl) (hs : starEach [a, b, c] X.env = (false, eval a X.env) :: starEach [b, c] X.env := by rfl) (hpl : (backTo pos2 (starEach [b, c] X.env)).any (·.1) = false := by rfl) :
    DF X W (.Call (.Name "list" p) [.Call (.Name "range" p2) [a, b, c] [] pos2] [] pos) (mCaL rg3L ml) := by
  refine PE.imp (pe_listRg3 hc hg hm hg2 hm2 ha na hs hpl) fun σ H Q ⟨η, T, r0, n0⟩ => ⟨η, T, r0, n0.bind fun x η1 e1 n1 vs H1 s1 r1 q1 => ?_⟩
  obtain ⟨z, ez, p⟩ := n1.lift
  have l1 := hl η x η1 e1
  match x, l1, q1, ez with
  | [d1, d2, d3], _, .cons q1 (.cons q2 (.cons q3 .nil)), ez =>
    cases q1 with
    | int i =>
      cases q2 with
      | int j =>
        cases q3 with
        | int k =>
          simp only [rg3L, rangeD3] at ez
          split at ez
          · rename_i h
            cases ez
            exact ⟨i, j, k, rfl, h, fun q hq => p.meet s1 r1 hq (rgC_all _ _ _)⟩
          · cases ez
        | _ => cases ez
      | _ => cases ez
    | _ => cases ez
end
end L2.DL
end
section
set_option Elab.async false
set_option linter.all false
set_option maxRecDepth 100000
set_option maxHeartbeats 4000000
namespace L2.DL
open PySem PySem.Spec PyProof.Rows
open PySem.W (AlikeAll minD readsAll_len cmpIn_lt iter_listW moved_old argBest_fold)
set_option autoImplicit false
/-! ### min of pairs of ints, xs.remove(x) -/
section
variable {prog : Program} {w : World} {A : Around} {E : Value → Shared → Prop} {s : Shared}
/-- the place of the least -/
theorem min_list_place {l : Addr} {vs : Array Value} {x : PyData} {xs : List PyData} {as : List Addr} {Q : Value → Shared → Prop} (hh : A.handled = none) (hl : s.heap.IsList l vs) (rd : ReadsAll s.heap vs.toList (x :: xs) as) (ha : AlikeAll (x :: xs)) (hu : A.units + 1 + PyData.depthAll (x :: xs) < cLine)
    (q : ∀ (i : Nat) v h' tk, vs[i]? = some v → (x :: xs).getD i .none = minD x xs → (∀ b o, s.heap.get? b = some o → h'.get? b = some o) → Q v { s with heap := h', toks := tk }) :
    wpAny (model prog w) A (call (.builtin "min") [.ref l]) Q E s := by
  have n := readsAll_len rd
  rw [List.length_cons] at n
  have m1 : vs.size - 1 = xs.length := by omega
  have best := (argBest_fold PySem.W.dataLt PyData.none x xs xs.length (Nat.le_refl _)).2
  rw [List.take_length] at best
  refine call_min_walkH (iter_listW (A := A.in1) hh hl fun s2 e W st hfp hw hk => ⟨_, _, _, _, _, _, _, s.heap, _, rfl, W, st, hfp, by omega, hw, hk, cmpIn_lt (A := A.in1) rd ha (by show A.units + 1 + _ < _; exact hu), fun v s' hP m => ?_⟩)
  obtain ⟨h', tk, rfl, keep⟩ := moved_old e rfl m
  exact q _ v h' tk hP (by rw [m1]; exact best) keep
end
def isPr : PyData → Bool
  | .tuple [.int _, .int _] => true
  | _ => false
theorem isPr_of {d : PyData} (h : isPr d = true) : ∃ i j, d = .tuple [.int i, .int j] := by
  cases d with
  | tuple ds =>
    match ds, h with
    | [], h => exact nomatch h
    | [x], h => cases x <;> exact nomatch h
    | [x, y], h =>
      cases x with
      | int i =>
        cases y with
        | int j => exact ⟨i, j, rfl⟩
        | _ => exact nomatch h
      | _ => cases y <;> exact nomatch h
    | x :: y :: z :: t, h => cases x <;> cases y <;> exact nomatch h
  | _ => exact nomatch h
theorem prs_alike {ds : List PyData} (h : ds.all isPr = true) : AlikeAll ds := by
  rw [List.all_eq_true] at h
  refine ⟨fun x hx y hy => ?_, fun x hx => ?_⟩
  · obtain ⟨i, j, rfl⟩ := isPr_of (h x hx)
    obtain ⟨k, l, rfl⟩ := isPr_of (h y hy)
    rfl
  · obtain ⟨i, j, rfl⟩ := isPr_of (h x hx)
    exact fun z => nomatch z
theorem prs_depth : ∀ {ds : List PyData}, ds.all isPr = true → PyData.depthAll ds ≤ 1
  | [], _ => Nat.zero_le _
  | d :: ds, h => by
    rw [List.all_cons, Bool.and_eq_true] at h
    obtain ⟨i, j, rfl⟩ := isPr_of h.1
    have ih := prs_depth h.2
    show max _ (PyData.depthAll ds) ≤ 1
    have : (PyData.tuple [.int i, .int j]).depth = 1 := rfl
    rw [this]
    omega
theorem prs_plain : ∀ {ds : List PyData}, ds.all isPr = true → PyData.plainAll ds = true
  | [], _ => rfl
  | d :: ds, h => by
    rw [List.all_cons, Bool.and_eq_true] at h
    obtain ⟨i, j, rfl⟩ := isPr_of h.1
    show (PyData.plain _ && PyData.plainAll ds) = true
    rw [prs_plain h.2]; rfl
def rMinPr (K : PySem.W.Frag) : List V → Hp → VK → Prop := fun us H Q => ∃ (a : Addr) (vs : List V) (x : PyData) (ds : List PyData), us = [V.ref a] ∧ SqL K H a vs ∧ DpAll K H vs (x :: ds) ∧ (x :: ds).all isPr = true ∧ ∀ i v, vs[i]? = some v → (x :: ds).getD i .none = minD x ds → Q v H
theorem cr_minPr {X : Cx} (hc : X.calm = true) (hu : X.A.units + 65 < cLine) : CallR X (.builtin "min") (rMinPr X.K) := by
  intro pins s σ H us ws Q I r h
  obtain ⟨a, vs, x, ds, rfl, hs, dp, pr, q⟩ := h
  obtain ⟨its, rv, hl, _⟩ := I.list hs
  rw [Vals.ref1 r]
  obtain ⟨as, rd⟩ := Dp.readsAll I (x :: ds) vs its dp rv
  have d1 := prs_depth pr
  refine min_list_place (I.ok.hd hc) hl.isList (as := as) (by simpa using rd) (prs_alike pr) (by omega) fun i u h' tk hi hm keep => ?_
  have hi2 : its[i]? = some u := by simpa using hi
  have hlt : i < vs.length := by
    rw [rv.length]
    exact (List.getElem?_eq_some_iff.mp hi2).1
  obtain ⟨u', eu, rvu⟩ := rv.get (List.getElem?_eq_getElem hlt)
  rw [hi2] at eu
  cases eu
  exact ⟨_, H, I.kept keep, rvu, q i _ (List.getElem?_eq_getElem hlt) hm⟩
def minPD : PyData → Option PyData
  | .list (x :: ds) => if (x :: ds).all isPr = true then some (minD x ds) else none
  | _ => none
theorem DqAll.dp' {K : Fg} {H : Hp} {O : Addr → Prop} : ∀ {ds : List PyData} {vs : List V}, DqAll K H O vs ds → DpAll K H vs ds
  | _, _, .nil => .nil
  | _, _, .cons q qs => .cons (Dq.dp _ _ q) (DqAll.dp' qs)
theorem minPD_ok {K : Fg} : CaB K (rMinPr K) minPD := by
  intro x d z H O Q l q e k
  cases d with
  | list es =>
    cases es with
    | nil => cases e
    | cons y ds =>
      simp only [minPD] at e
      split at e
      · rename_i pr
        cases e
        obtain ⟨a, vs, rfl, r, qa⟩ := q.rd
        refine ⟨a, vs, y, ds, rfl, .inl r, qa.dp', pr, fun i v hv hm => ?_⟩
        obtain ⟨d', ed, qd⟩ := qa.get' hv
        rw [List.getD_eq_getElem?_getD, ed] at hm
        have hm : d' = minD y ds := hm
        subst hm
        exact k _ _ More.refl qd
      · cases e
  | _ => cases e
/-- min(xs): ints, or pairs of ints -/
def minAD (d : PyData) : Option PyData := match minLD d with
  | some z => some z
  | none => minPD d
theorem minAD_ok {K : Fg} : CaB K (fun xs H Q => rMin K xs H Q ∨ rMinPr K xs H Q) minAD := by
  intro x d z H O Q l q e k
  unfold minAD at e
  split at e
  · rename_i w hw
    cases e
    exact .inl (minLD_ok x d _ H O Q l q hw k)
  · exact .inr (minPD_ok x d _ H O Q l q e k)
theorem cr_minA {X : Cx} (hc : X.calm = true) (hu : X.A.units + 65 < cLine) : CallR X (.builtin "min") (fun xs H Q => rMin X.K xs H Q ∨ rMinPr X.K xs H Q) := by
  intro pins s σ H xs us Q I r h
  rcases h with h | h
  · exact cr_min hc pins s σ H xs us Q I r h
  · exact cr_minPr hc hu pins s σ H xs us Q I r h
/-! ### xs.remove(x) -/
def rRemD (K : PySem.W.Frag) : V → List V → Hp → VK → Prop := fun x us H Q => ∃ (a : Addr) (y : V) (vs : List V) (d : PyData) (ds : List PyData) (j : Nat), x = V.ref a ∧ us = [y] ∧ H a = some (.lst vs) ∧ DpAll K H vs ds ∧ Dp K H y d ∧
  PyData.plainAll ds = true ∧ d.plain = true ∧ d.depth ≤ 60 ∧ SeqAt.dataPlace ds d = some j ∧ Q .non (upd H a (.lst (vs.eraseIdx j)))
theorem mt_remD {X : Cx} (hu : X.A.units + 65 < cLine) : MtR X "list.remove" (rRemD X.K) := by
  intro pins s σ H x us v ws Q I rx rv h
  obtain ⟨a, y, vs, d, ds, j, rfl, rfl, hH, dp, dy, pl, pd, dd, hp, q⟩ := h
  cases rx
  obtain ⟨u, rfl, ru⟩ := rv.one
  obtain ⟨z, its, n, r, hl, e⟩ := I.lstM hH
  obtain ⟨as, rd⟩ := Dp.readsAll I ds vs its dp r
  obtain ⟨bs, ry⟩ := Dp.reads I d y u dy ru
  refine SeqAt.remove_list_data (vs := its.toArray) ⟨_, e, rfl, _, rfl⟩ (by simpa using rd) ry pl pd (by have := Nat.min_le_right (PyData.depthAll ds) d.depth; omega) hp (by rw [List.size_toArray]; omega) ?_
  refine ⟨.non, _, I.lset (its' := its.eraseIdx j) hH e ?_ (r.eraseIdx j) ?_, rfl, q⟩
  · show its.toArray.eraseIdxIfInBounds j = (its.eraseIdx j).toArray
    rw [List.eraseIdxIfInBounds_toArray]
  · have := List.length_eraseIdx_le vs j
    omega
def remD : List PyData → List PyData → Option (PyData × List PyData) := fun xs ds => match ds with
  | [d] => if PyData.plainAll xs = true ∧ d.plain = true ∧ d.depth ≤ 60 then (SeqAt.dataPlace xs d).map fun j => (.none, xs.eraseIdx j) else none
  | _ => none
theorem remD_ok {K : Fg} : MeG K (rRemD K) remD := by
  intro a vs us xs ds z ys H O Q ea qa qu e k
  cases qu with
  | nil => cases e
  | cons q1 q =>
    cases q with
    | nil =>
      simp only [remD] at e
      split at e
      · rename_i h
        obtain ⟨j, ej, e2⟩ := Option.map_eq_some_iff.mp e
        cases e2
        exact ⟨a, _, vs, _, xs, j, rfl, rfl, ea, qa.dp', Dq.dp _ _ q1, h.1, h.2.1, h.2.2, ej, k _ _ (qa.eraseIdx j) .non⟩
      · cases e
    | cons q2 q => cases e
section
variable {X : Cx}
theorem cr_minK {k : Nat} (gd : Gd X k) (hc : X.calm = true) : CallR X (.builtin "min") (fun xs H Q => rMin X.K xs H Q ∨ rMinPr X.K xs H Q) := cr_minA hc (by have := gd.room.un; omega)
theorem mt_remK {k : Nat} (gd : Gd X k) : MtR X "list.remove" (rRemD X.K) := mt_remD (by have := gd.room.un; omega)
end
end L2.DL
end
section
set_option Elab.async false
set_option linter.all false
set_option maxRecDepth 100000
set_option maxHeartbeats 4000000
namespace L2.DL
open PySem PySem.Spec PyProof.Rows
set_option autoImplicit false
/-! ### x, y = a, l; x, y = l, m: new own lists of any items -/
def mParVF (i j : Nat) (ma : MX PyData) (ml : MX (List PyData)) : MX Fl := mBind ma fun d => mBind ml fun xs => fun η => match (stO i (.val d) η).bind (stO j (.own false xs)) with
  | some η' => some (.ok .nx, η')
  | none => none
def mParFF (i j : Nat) (ml mm : MX (List PyData)) : MX Fl := mBind ml fun xs => mBind mm fun ys => fun η => match (stO i (.own false xs) η).bind (stO j (.own false ys)) with
  | some η' => some (.ok .nx, η')
  | none => none
section
variable {K : Fg} {mg : Str → Option Value} {σ σ1 σ2 : St} {H H1 H2 : Hp} {η η1 η2 : EnvD} {T T' : Addr → Prop}
/-- as Rp.kp, with a list laid meanwhile -/
theorem Rp.kpA {a : Addr} (r : Rp K mg σ H η T) (s : StepS σ H η σ1 H1 η1) (na : H a = none) : Kp (Avd σ η T) (Avd σ1 η1 fun q => T q ∨ q = a) H H1 where
  keep := fun q o h n => s.keep q o h fun z => n (.inr z)
  lsts := r.avd
  less := fun q z => by
    rcases z with (z | z) | z
    · exact .inl (.inl z)
    · subst z; exact .inr na
    · rcases s.le q z with z | z
      · exact .inl (.inr z)
      · exact .inr z
theorem swapT {T : Addr → Prop} {a b : Addr} : (fun q => (T q ∨ q = a) ∨ q = b) = fun q => (T q ∨ q = b) ∨ q = a := by
  funext q
  refine propext ⟨fun z => ?_, fun z => ?_⟩
  · rcases z with (z | z) | z
    · exact .inl (.inl z)
    · exact .inr z
    · exact .inl (.inr z)
  · rcases z with (z | z) | z
    · exact .inl (.inl z)
    · exact .inr z
    · exact .inl (.inr z)
end
section
variable {X : Cx} {W : WX} {a b : Expr} {ma : MX PyData} {ml mm : MX (List PyData)} {i j : Nat} {x y : Str} {px py pt pos pt2 : Pos} {kt k2 : Nat}
theorem ds_parVF (hc : X.calm = true) (hN : X.N.Nodup) (hi : X.N[i]? = some x) (hj : X.N[j]? = some y) (hij : i ≠ j)
    (hx : X.env.scope.names.lookup x = some .local) (hy : X.env.scope.names.lookup y = some .local) (ha : DE X W a ma) (hb : DF X W b ml)
    (hw : swappedStores [.Tuple [.Name x px, .Name y py] kt pt] (.Tuple [a, b] k2 pt2) X.env = pure (some [x, y]))
    (hs : swapsWithSole [.Tuple [.Name x px, .Name y py] kt pt] (.Tuple [a, b] k2 pt2) pos.line X.env = pure false := by rfl)
    (hsa : starEach [a, b] X.env = (false, eval a X.env) :: starEach [b] X.env := by rfl) (hsb : starEach [b] X.env = (false, eval b X.env) :: starEach [] X.env := by rfl) :
    DS X W (.Assign [.Tuple [.Name x px, .Name y py] kt pt] (.Tuple [a, b] k2 pt2) pos) (mParVF i j ma ml) := by
  refine PS.imp (ps_par hc hN hi hj hij hx hy (pa_cons ha (pa_cons hb pa_nil hsb) hsa) hw hs) fun D σ H ⟨η, T, r0, n0⟩ => ⟨η, T, r0, n0.bind fun d η1 e1 n1 v H1 s1 r1 q1 => ?_⟩
  refine ⟨η1, T, r1, (Nx.laterS s1 n1).bind fun xs η2 e2 n2 a vs H2 s2 na ea r2 q2 no => ?_⟩
  obtain ⟨o, η', eo, pz⟩ := n2
  split at eo
  · rename_i η4 hη
    cases eo
    obtain ⟨η3, e3, e4⟩ := Option.bind_eq_some_iff.mp hη
    obtain ⟨rfl, ni⟩ := stO_some e3
    have qv : Dq X.K H2 (Avd σ η2 fun q => T q ∨ q = a) v d := Dq.keep (r1.kpA s2 na) d v q1
    obtain ⟨r3, s3⟩ := r2.store (i := i) qv
    have s3 := s3 ni
    have qL := r2.olds s3 q2
    have no3 : ¬ Avd (σ.set i (some v)) (η2.set i (some (.val d))) T a := fun z => by
      rcases z with z | z
      · exact no (.inl z)
      · rcases s3.le a z with z | z
        · exact no (.inr z)
        · rw [ea] at z; cases z
    obtain ⟨s4, r4⟩ := stepL (s2.trans s3) na r3 ea qL no3 e4
    exact ⟨_, _, rfl, pz _ _ s4 r4⟩
  · cases eo
theorem ds_parFF (hc : X.calm = true) (hN : X.N.Nodup) (hi : X.N[i]? = some x) (hj : X.N[j]? = some y) (hij : i ≠ j)
    (hx : X.env.scope.names.lookup x = some .local) (hy : X.env.scope.names.lookup y = some .local) (ha : DF X W a ml) (hb : DF X W b mm)
    (hw : swappedStores [.Tuple [.Name x px, .Name y py] kt pt] (.Tuple [a, b] k2 pt2) X.env = pure (some [x, y]))
    (hs : swapsWithSole [.Tuple [.Name x px, .Name y py] kt pt] (.Tuple [a, b] k2 pt2) pos.line X.env = pure false := by rfl)
    (hsa : starEach [a, b] X.env = (false, eval a X.env) :: starEach [b] X.env := by rfl) (hsb : starEach [b] X.env = (false, eval b X.env) :: starEach [] X.env := by rfl) :
    DS X W (.Assign [.Tuple [.Name x px, .Name y py] kt pt] (.Tuple [a, b] k2 pt2) pos) (mParFF i j ml mm) := by
  refine PS.imp (ps_par hc hN hi hj hij hx hy (pa_cons ha (pa_cons hb pa_nil hsb) hsa) hw hs) fun D σ H ⟨η, T, r0, n0⟩ => ⟨η, T, r0, n0.bind fun xs η1 e1 n1 a1 vs H1 s1 na1 ea1 r1 q1 no1 => ?_⟩
  refine ⟨η1, fun q => T q ∨ q = a1, r1, ?_⟩
  obtain ⟨o, η', eo, pz⟩ := n1
  unfold mBind at eo
  split at eo
  · rename_i ys η2 e2
    refine ⟨.ok ys, η2, e2, fun a2 ws H2 s2 na2 ea2 r2 q2 no2 => ?_⟩
    have ea1' : H2 a1 = some (.lst vs) := s2.keep _ _ ea1 fun z => no1 (.inr z)
    dsimp only at eo
    split at eo
    · rename_i η4 hη
      cases eo
      obtain ⟨η3, e3, e4⟩ := Option.bind_eq_some_iff.mp hη
      have q1' : DqAll X.K H2 (Avd σ η2 fun q => (T q ∨ q = a1) ∨ q = a2) vs xs := DqAll.keep (r1.kpA s2 na2) xs vs q1
      have ne : a1 ≠ a2 := fun z => by rw [← z, ea1] at na2; cases na2
      have no1' : ¬ Avd σ η2 (fun q => T q ∨ q = a2) a1 := fun z => by
        rcases z with (z | z) | z
        · exact no1 (.inl z)
        · exact ne z
        · rcases s2.le _ z with z | z
          · exact no1 (.inr z)
          · rw [ea1] at z; cases z
      rw [swapT] at r2 q1' q2
      obtain ⟨rfl, ni⟩ := stO_some e3
      obtain ⟨r3, own3, free3, inn3⟩ := r2.storeL (i := i) ea1' q1' no1'
      have q2' : DqAll X.K H2 (Avd (σ.set i (some (.ref a1))) (η2.set i (some (.own false xs))) fun q => T q ∨ q = a2) ws ys := by
        refine DqAll.less (fun q z => ?_) ys ws q2
        rcases z with (z | z) | z
        · exact .inl (.inl (.inl z))
        · exact .inl (.inl (.inr z))
        · rcases own3 q z with z | z
          · exact .inr z
          · exact .inl (.inr z)
      have no2' : ¬ Avd (σ.set i (some (.ref a1))) (η2.set i (some (.own false xs))) T a2 := fun z => by
        rcases z with z | z
        · exact no2 (.inl (.inl z))
        · rcases own3 _ z with z | z
          · exact no2 (.inr z)
          · exact ne z.symm
      have sA : StepS σ H η (σ.set i (some (.ref a1))) H2 (η2.set i (some (.own false xs))) := by
        have s12 := s1.trans s2
        refine ⟨s12.tr, s12.keep, fun q z => ?_, fun q z => ?_, fun k ds z => ?_⟩
        · rcases own3 q z with z | z
          · exact s12.le q z
          · subst z; exact .inr na1
        · rcases free3 q z with z | z
          · exact s12.leF q z
          · subst z; exact .inr na1
        · obtain ⟨⟨d1, z1⟩, e5⟩ := inn3 ni k ds z
          obtain ⟨z2, e6⟩ := s12.inn k d1 z1
          exact ⟨z2, e5.trans e6⟩
      obtain ⟨s4, r4⟩ := stepL sA (s1.tr _ na2) r3 ea2 q2' no2' e4
      exact ⟨_, _, rfl, pz _ _ s4 r4⟩
    · cases eo
  · rename_i nm d η2 e2
    cases eo
    exact ⟨_, _, e2, fun cls dd σ' H' s' r q => pz cls dd σ' H' (s1.trans s') (r.lessT fun q z => .inl z) (by
      obtain ⟨C, a, v, x1, x2, x3, x4, x5⟩ := q
      exact ⟨C, a, v, x1, x2, x3, x4, Dq.less (fun q z => z.imp .inl id) d v x5⟩)⟩
  · cases eo
end
end L2.DL
end
section
set_option Elab.async false
set_option linter.all false
set_option maxRecDepth 100000
set_option maxHeartbeats 4000000
namespace L2.DL
open PySem PySem.Spec PyProof.Rows
open PySem.W (AlikeAll minD maxD minD_ints maxD_ints)
set_option autoImplicit false
/-! ### max, min of a tuple of ints -/
def rMaxT (K : PySem.W.Frag) : List V → Hp → VK → Prop := fun us H Q => ∃ (a : Addr) (vs : List V) (n : Int) (ns : List Int), us = [V.ref a] ∧ SqT K H a vs ∧ DpAll K H vs ((n :: ns).map .int) ∧ Q (.int (ns.foldl max n)) H
def rMinT (K : PySem.W.Frag) : List V → Hp → VK → Prop := fun us H Q => ∃ (a : Addr) (vs : List V) (n : Int) (ns : List Int), us = [V.ref a] ∧ SqT K H a vs ∧ DpAll K H vs ((n :: ns).map .int) ∧ Q (.int (ns.foldl min n)) H
theorem ints_alike (ns : List Int) : AlikeAll (ns.map PyData.int) := by
  refine ⟨fun x hx y hy => ?_, fun x hx => ?_⟩
  · obtain ⟨i, _, rfl⟩ := List.mem_map.mp hx
    obtain ⟨j, _, rfl⟩ := List.mem_map.mp hy
    rfl
  · obtain ⟨i, _, rfl⟩ := List.mem_map.mp hx
    exact fun z => nomatch z
theorem ints_depth : ∀ ns : List Int, PyData.depthAll (ns.map PyData.int) = 0
  | [] => rfl
  | n :: ns => by
    show max 0 (PyData.depthAll (ns.map PyData.int)) = 0
    rw [ints_depth ns]; rfl
theorem cr_maxT {X : Cx} (hc : X.calm = true) (hu : X.A.units + 65 < cLine) : CallR X (.builtin "max") (rMaxT X.K) := by
  intro pins s σ H us ws Q I r h
  obtain ⟨a, vs, n, ns, rfl, hs, dp, q⟩ := h
  obtain ⟨its, rv, hl, hz⟩ := I.tuple hs
  rw [Vals.ref1 r]
  obtain ⟨as, rd⟩ := Dp.readsAll I ((n :: ns).map .int) vs its dp rv
  have d0 := ints_depth (n :: ns)
  refine PySem.W.max_tuple_data (as := as) (I.ok.hd hc) hl (by simpa using rd) (ints_alike (n :: ns)) (by rw [List.map_cons] at d0; omega) fun i u h' tk bs hi hm keep => ?_
  rw [maxD_ints] at hm
  cases hm
  exact ⟨.int _, H, I.kept keep, ⟨_, rfl⟩, q⟩
theorem cr_minT {X : Cx} (hc : X.calm = true) (hu : X.A.units + 65 < cLine) : CallR X (.builtin "min") (rMinT X.K) := by
  intro pins s σ H us ws Q I r h
  obtain ⟨a, vs, n, ns, rfl, hs, dp, q⟩ := h
  obtain ⟨its, rv, hl, hz⟩ := I.tuple hs
  rw [Vals.ref1 r]
  obtain ⟨as, rd⟩ := Dp.readsAll I ((n :: ns).map .int) vs its dp rv
  have d0 := ints_depth (n :: ns)
  refine PySem.W.min_tuple_data (as := as) (I.ok.hd hc) hl (by simpa using rd) (ints_alike (n :: ns)) (by rw [List.map_cons] at d0; omega) fun i u h' tk bs hi hm keep => ?_
  rw [minD_ints] at hm
  cases hm
  exact ⟨.int _, H, I.kept keep, ⟨_, rfl⟩, q⟩
theorem fold_max : ∀ (l : List Int) (x : Int), l.foldl max x = maxI (x :: l)
  | [], x => rfl
  | y :: r, x => by
    rw [List.foldl_cons, fold_max r]
    cases r with
    | nil => rfl
    | cons z r => show max (max x y) (maxI (z :: r)) = max x (max y (maxI (z :: r))); omega
theorem fold_min : ∀ (l : List Int) (x : Int), l.foldl min x = minI (x :: l)
  | [], x => rfl
  | y :: r, x => by
    rw [List.foldl_cons, fold_min r]
    cases r with
    | nil => rfl
    | cons z r => show min (min x y) (minI (z :: r)) = min x (min y (minI (z :: r))); omega
def intsTD (f : List Int → PyData) : PyData → Option PyData
  | .tuple (d :: ds) => (intsD (d :: ds)).map f
  | _ => none
theorem intsT_ok {K : Fg} {r : List V → Hp → VK → Prop} {f : List Int → PyData} (h : ∀ (a : Addr) (vs : List V) (n : Int) (ns : List Int) (H : Hp) (Q : VK), SqT K H a vs → DpAll K H vs ((n :: ns).map .int) → (∀ v, (∀ O, Dq K H O v (f (n :: ns))) → Q v H) → r [.ref a] H Q) : CaB K r (intsTD f) := by
  intro x d z H O Q l q e k
  cases d with
  | tuple es =>
    cases es with
    | nil => cases e
    | cons y ds =>
      obtain ⟨ns, en, rfl⟩ := Option.map_eq_some_iff.mp e
      have e2 := intsD_some en
      cases ns with
      | nil => cases e2
      | cons n ns =>
        have q2 := q.dq fun _ z => by cases z
        cases q2 with
        | @tup a vs _ r qa =>
          rw [e2] at qa
          exact h a vs n ns H Q r qa.dp' fun v q => k _ _ More.refl (q O)
  | _ => cases e
theorem maxTD_ok {K : Fg} : CaB K (rMaxT K) (intsTD fun ns => .int (maxI ns)) := intsT_ok fun a vs n ns H Q s dp k => by
  refine ⟨a, vs, n, ns, rfl, s, dp, ?_⟩
  rw [fold_max]
  exact k _ fun O => .int _
theorem minTD_ok {K : Fg} : CaB K (rMinT K) (intsTD fun ns => .int (minI ns)) := intsT_ok fun a vs n ns H Q s dp k => by
  refine ⟨a, vs, n, ns, rfl, s, dp, ?_⟩
  rw [fold_min]
  exact k _ fun O => .int _
/-- max(xs): a list or a tuple of ints -/
def maxBD (d : PyData) : Option PyData := match maxLD d with
  | some z => some z
  | none => intsTD (fun ns => .int (maxI ns)) d
def minBD (d : PyData) : Option PyData := match minLD d with
  | some z => some z
  | none => intsTD (fun ns => .int (minI ns)) d
theorem maxBD_ok {K : Fg} : CaB K (fun xs H Q => rMax K xs H Q ∨ rMaxT K xs H Q) maxBD := by
  intro x d z H O Q l q e k
  unfold maxBD at e
  split at e
  · rename_i w hw
    cases e
    exact .inl (maxLD_ok x d _ H O Q l q hw k)
  · exact .inr (maxTD_ok x d _ H O Q l q e k)
theorem minBD_ok {K : Fg} : CaB K (fun xs H Q => rMin K xs H Q ∨ rMinT K xs H Q) minBD := by
  intro x d z H O Q l q e k
  unfold minBD at e
  split at e
  · rename_i w hw
    cases e
    exact .inl (minLD_ok x d _ H O Q l q hw k)
  · exact .inr (minTD_ok x d _ H O Q l q e k)
theorem cr_maxB {X : Cx} {k : Nat} (gd : Gd X k) (hc : X.calm = true) : CallR X (.builtin "max") (fun xs H Q => rMax X.K xs H Q ∨ rMaxT X.K xs H Q) := by
  intro pins s σ H xs us Q I r h
  have hu := gd.room.un
  rcases h with h | h
  · exact cr_max hc pins s σ H xs us Q I r h
  · exact cr_maxT hc (by omega) pins s σ H xs us Q I r h
theorem cr_minB {X : Cx} {k : Nat} (gd : Gd X k) (hc : X.calm = true) : CallR X (.builtin "min") (fun xs H Q => rMin X.K xs H Q ∨ rMinT X.K xs H Q) := by
  intro pins s σ H xs us Q I r h
  have hu := gd.room.un
  rcases h with h | h
  · exact cr_min hc pins s σ H xs us Q I r h
  · exact cr_minT hc (by omega) pins s σ H xs us Q I r h
theorem maxT_e {n : Int} {ns : List Int} : maxBD (.tuple ((n :: ns).map .int)) = some (.int (maxI (n :: ns))) := by
  show (intsD ((n :: ns).map .int)).map _ = _
  rw [intsD_map]; rfl
theorem minT_e {n : Int} {ns : List Int} : minBD (.tuple ((n :: ns).map .int)) = some (.int (minI (n :: ns))) := by
  show (intsD ((n :: ns).map .int)).map _ = _
  rw [intsD_map]; rfl
end L2.DL
end
section
set_option Elab.async false
set_option linter.all false
set_option maxRecDepth 100000
set_option maxHeartbeats 4000000
namespace L2.DL
open PySem PySem.Spec PyProof.Rows
set_option autoImplicit false
/-! ### enumerate of a tuple -/
theorem meets_enum_newT (l : Addr) (items : Array Value) :
    Meets (Builtin.«enumerate.__new__» ⟨[.type "enumerate", .ref l], []⟩) (fun _ R s => s.heap.IsTuple l items ∧
      R (.ok (.ret (.ref (s.heap.push { cls := .type "tuple_iterator", data := .fields #[.ref l, .int 0 0] }).objs.size)))
        { s with heap := (s.heap.push { cls := .type "tuple_iterator", data := .fields #[.ref l, .int 0 0] }).push { cls := .type "enumerate", data := .fields #[.none, .bool false, .ref s.heap.objs.size, rawInt 0, .none, .none] } }) :=
  .of_wp fun prog w A R s h => by
    obtain ⟨hp, g, d, tk, os⟩ := s; obtain ⟨hL, h⟩ := h
    have hsub := sub_enumerate
    have hL : Heap.IsTuple (Shared.heap ⟨hp, g, d, tk, os⟩) l items := hL
    wp_walk using wpAny_pyIter_tuple hL
    refine wpAny_stack_any fun st => wpAny_pure ?_
    split
    · rename_i c _ _ _ _ _
      cases (c == Value.type "enumerate")
      · wp_walk using wpAny_pyIter_tuple hL
        exact ⟨_, rfl, h⟩
      · wp_walk using wpAny_pyIter_tuple hL
        exact ⟨_, rfl, h⟩
    · wp_walk using wpAny_pyIter_tuple hL
      exact ⟨_, rfl, h⟩
section
variable {prog : Program} {w : World} {A : Around} {E : Value → Shared → Prop} {s : Shared}
theorem call_enum_tuple {l : Addr} {items : Array Value} {Q : Value → Shared → Prop} (hL : s.heap.IsTuple l items)
    (h : ∀ h', IsEnum h' (s.heap.objs.size + 1) s.heap.objs.size 0 .none → h'.IsTupleIter s.heap.objs.size l 0 → h'.objs.size = s.heap.objs.size + 2 →
      (∀ b o, s.heap.get? b = some o → h'.get? b = some o) → Q (.ref (s.heap.objs.size + 1)) { s with heap := h' }) :
    wpAny (model prog w) A (call (.type "enumerate") [.ref l]) Q E s := by
  refine callType_new F.called_enumerate (by decide) (F.typeCall_enumerate_1 _) (F.newCall_enumerate_1 _) (fun obj => F.args_object_init_2 obj _) F.entry_enumerate_new
    (meets_enum_newT l items) ⟨hL, ?_⟩
  have hz : (s.heap.push { cls := .type "tuple_iterator", data := .fields #[.ref l, .int 0 0] }).objs.size = s.heap.objs.size + 1 := Heap.size_push ..
  show _ ∧ _
  rw [hz]
  have he : IsEnum ((s.heap.push { cls := .type "tuple_iterator", data := .fields #[.ref l, .int 0 0] }).push
      { cls := .type "enumerate", data := .fields #[.none, .bool false, .ref s.heap.objs.size, rawInt 0, .none, .none] }) (s.heap.objs.size + 1) s.heap.objs.size 0 .none := by
    have := Heap.get?_push_size (s.heap.push { cls := .type "tuple_iterator", data := .fields #[.ref l, .int 0 0] })
      (o := { cls := .type "enumerate", data := .fields #[.none, .bool false, .ref s.heap.objs.size, rawInt 0, .none, .none] }) rfl
    rw [hz] at this; exact this
  refine ⟨⟨_, he, rfl⟩, h _ he ⟨_, Heap.get?_push_of_some _ (Heap.get?_push_size _ rfl), rfl, rfl⟩ (by rw [Heap.size_push, hz]) fun b o x => Heap.get?_push_of_some _ (Heap.get?_push_of_some _ x)⟩
end
section
variable {prog : Program} {w : World} {A : Around} {E : Value → Shared → Prop} {s : Shared}
theorem pyNext_enumT_end {e it l : Addr} {i : Nat} {items : Array Value} {old : Value} {Q : Option Value → Shared → Prop} (hh : A.handled = none)
    (he : IsEnum s.heap e it i old) (hit : s.heap.IsTupleIter it l i) (hl : s.heap.IsTuple l items) (hx : items[i]? = none)
    (hQ : ∀ h', Heap.ExtBut it s.heap h' → Q none { s with heap := h' }) : wpAny (model prog w) A (pyNext (.ref e)) Q E s := by
  have hT : s.TypeIs (.ref e) "enumerate" := ⟨_, he, rfl⟩
  unfold pyNext
  refine wpAny_bind (wpAny_attempt (wpAny_callSpecial?_slot (name := Str.ofString "__next__") hT F.slot_enumerate_next
    (wpAny_call_entry F.slot_enumerate_next hT F.entry_enumerate_next ?_ (F.args_enumerate_next_1 _))))
  show wpAny _ _ (field (.ref e) 2 >>= _) _ _ _
  refine wpAny_bind (wpAny_field he rfl (x := .ref it) rfl ?_)
  refine wpAny_bind (RZ.nextOf_tuple_end hh hit hl hx fun h' x he' hx' => ?_)
  obtain ⟨o, ho, hc⟩ := hx'
  refine wpAny_bind (wpAny_isInstance (T := "StopIteration") (b := true) ⟨o, ho, hc⟩ isSubtype_stop ?_)
  exact wpAny_pure (hQ _ he')
end
def IteT (K : PySem.W.Frag) (a : Addr) : It :=
  ⟨fun i H => ∃ (xs : List V) (x : V), SqT K H a xs ∧ xs[i]? = some x, fun i H v H' => ∃ T x, v = .ref T ∧ H T = none ∧ H' = upd H T (.tup [.int (i : Nat), x]) ∧ ∀ xs, SqT K H a xs → xs[i]? = some x, fun i H => ∃ xs : List V, SqT K H a xs ∧ xs.length ≤ i⟩
theorem tup_ne_iter {h : Heap} {a it : Addr} {i : Nat} {xs : Array Value} (h1 : h.IsTuple a xs) (h2 : h.IsTupleIter it a i) : a ≠ it := fun e => by
  subst e
  obtain ⟨o, e1, c1, _⟩ := h1
  obtain ⟨o2, e2, c2, _⟩ := h2
  rw [e1] at e2
  cases e2
  rw [c1] at c2
  injection c2 with c2
  exact absurd c2 (by decide)
theorem turn_enumT {P : Program} {w : World} {K : PySem.W.Frag} {elts : List Expr} {kk : Nat} {tpos : Pos} (a e it : Addr) :
    Turn P w K (.Tuple elts kk tpos) (IteT K a) [e, it] e (fun i h => (∃ old, IsEnum h e it ((i : Nat) : Int) old) ∧ h.IsTupleIter it a i ∧ e ≠ it ∧ e ≠ a) where
  mem := by simp
  obj := fun i h st b hb => by
    obtain ⟨⟨old, he⟩, ⟨o, ho, hc, hd⟩, _⟩ := st
    have e' : b = e ∨ b = it := by simpa using hb
    rcases e' with z | z
    · rw [z]; exact ⟨_, he, fun v q => nomatch q⟩
    · rw [z]; exact ⟨o, ho, fun v q => by rw [hd] at q; cases q⟩
  keep := fun i h h' st k => let ⟨⟨old, he⟩, hi, hne⟩ := st; ⟨⟨old, k e (by simp) _ he⟩, hi.at fun o q => k it (by simp) o q, hne⟩
  item := by
    intro X hP hw hK hc i pins s σ H E I hf st hg
    subst hP hw hK
    obtain ⟨⟨old, he⟩, hit, hne, hea⟩ := st
    obtain ⟨xs, x, hq, hx⟩ := hg
    obtain ⟨its, rv, p, hz⟩ := I.tuple hq
    obtain ⟨u, hu, ru⟩ := rv.get hx
    have hel : e < s.heap.objs.size := Heap.lt_size he
    have hil : it < s.heap.objs.size := by obtain ⟨_, q, _⟩ := hit; exact Heap.lt_size q
    have D := Draws.tuple (prog := X.prog) (w := X.w) (A := X.A.in1) (I.ok.hd hc) it a (tup_ne_iter p hit) its.toArray
    have hlt : i < its.toArray.size := by
      have := (List.getElem?_eq_some_iff.mp hu).1
      simpa using this
    refine wpAny_pyNext_enum_itemC D he ⟨hit, p⟩ hlt hne (by
      intro hm
      rcases List.mem_cons.mp hm with hm | hm
      · exact hne hm
      · exact hea (List.mem_singleton.mp hm)) fun v h' tk hP ho hs' hT hsz hk => ?_
    have ev : v = u := by
      have : its[i]? = some v := by simpa using hP
      rw [hu] at this
      exact (Option.some.inj this).symm
    subst ev
    obtain ⟨hit', p'⟩ := hs'
    refine ⟨_, rfl, wpAny_letOwnedTupleGo_enum (s := { s with heap := h', toks := tk + 1 }) ho fun h'' he' sb => ?_⟩
    have hT2 : h''.get? s.heap.objs.size = some { cls := .type "tuple", data := .seq #[.int i tk, v] } := (sb.2 _ (Nat.ne_of_gt hel)).trans hT
    have new : ObjOk X.prog X.w (upd H s.heap.objs.size (.tup [.int (i : Nat), x])) h'' s.heap.objs.size (.tup [.int (i : Nat), x]) :=
      ⟨by show 2 ≤ sizeLine; decide, [.int i tk, v], .cons ⟨_, rfl⟩ (.cons ru .nil), ⟨_, hT2, rfl, _, rfl⟩⟩
    have I1 : Inv X pins σ (upd H s.heap.objs.size (.tup [.int (i : Nat), x])) { s with heap := h'', toks := tk + 1 } :=
      I.turnedNew (ch := [e, it]) (fun b ob hb q => (sb.2 b (fun z => hb (by simp [z]))).trans (hk b ob (fun z => hb (by simp [z])) (fun z => hb (by simp [z])) q)) hf (Nat.le_refl _) new
    refine ⟨.ref s.heap.objs.size, _, I1, rfl, ⟨_, x, rfl, I.hok.fresh (Nat.le_refl _), rfl, fun ys hy => by rw [I.tuple_inj hy hq]; exact hx⟩, ⟨⟨v, ?_⟩, hit'.at fun o q => (sb.2 it (Ne.symm hne)).trans q, hne, hea⟩, fun b hb => ?_⟩
    · have e1 : ((i + 1 : Nat) : Int) = (i : Int) + 1 := by omega
      rw [e1]; exact he'
    · have hb' : b < s.heap.objs.size := by
        have e' : b = e ∨ b = it := by simpa using hb
        rcases e' with z | z
        · rw [z]; exact hel
        · rw [z]; exact hil
      rw [upd_ne (Nat.ne_of_lt hb')]
      exact (hf b hb).1
  done := by
    intro X hP hw hK hc i pins s σ H E I hf st hg
    subst hP hw hK
    obtain ⟨⟨old, he⟩, hit, hne⟩ := st
    obtain ⟨xs, hq, hx⟩ := hg
    obtain ⟨its, rv, p, hz⟩ := I.tuple hq
    obtain ⟨f0, f1, f2, f3, f4, f5⟩ := hf it (by simp)
    have hl := rv.length
    exact pyNext_enumT_end (I.ok.hd hc) he hit p (by simp; omega) fun h' eb => ⟨rfl, I.turned (t' := s.toks) (fun b o hb q => eb b o hb q) f0 f1 f3 f4 f5⟩
  self := fun A i s Q E st h => let ⟨⟨_, he⟩, _⟩ := st; wpAny_pyIter_enum he h
def iEnumX (K : PySem.W.Frag) (ta : TA) : TI := fun σ H R => ta σ H fun vs H1 => ∃ a xs, vs = [.ref a] ∧ ((SqL K H1 a xs ∧ R (Ite K a) H1) ∨ (SqT K H1 a xs ∧ R (IteT K a) H1))
theorem pi_enumX {X : Cx} {e : Expr} {ta : TA} {p pos tpos : Pos} {elts : List Expr} {kk : Nat} (hg : Gl X "enumerate") (hm : X.mg "enumerate" = none) (ha : PA X [e] ta) (hs : starEach [e] X.env = [(false, eval e X.env)] := by rfl) :
    PI X (.Tuple elts kk tpos) (.Call (.Name "enumerate" p) [e] [] pos) (iEnumX X.K ta) := by
  refine ⟨fun pins s σ H R I h => ?_⟩
  refine Call_ (ld_blt I hg hm boot_enumerate (PyProof.Rows.callWith_type1 (thn (ha.run pos pins s σ H _ I h) fun us s1 ⟨vs, H1, I1, r1, q1⟩ => ?_) hs rfl))
  obtain ⟨a, xs, ex, hq⟩ := q1
  subst ex
  cases r1 with
  | cons r rr =>
    cases rr
    cases r
    have fp : ∀ b, b ∈ [s1.heap.objs.size + 1, s1.heap.objs.size] → s1.heap.objs.size ≤ b := fun b hb => by
      have e' : b = s1.heap.objs.size + 1 ∨ b = s1.heap.objs.size := by simpa using hb
      rcases e' with z | z
      · rw [z]; exact Nat.le_add_right _ _
      · rw [z]; exact Nat.le_refl _
    rcases hq with ⟨hq, q⟩ | ⟨hq, q⟩
    · obtain ⟨its, rv, p', hz⟩ := I1.list hq
      refine call_enumerate_list p'.isList fun h' he hit hsz hk => wpAny_pyIter_enum he ?_
      have I2 : Inv X pins σ H1 { s1 with heap := h' } := I1.kept (t' := s1.toks) hk
      exact ⟨s1.heap.objs.size + 1, [s1.heap.objs.size + 1, s1.heap.objs.size], _, _, H1, rfl, I2, turn_enum a (s1.heap.objs.size + 1) s1.heap.objs.size, ⟨⟨.none, he⟩, hit, Nat.succ_ne_self _⟩, fun b hb => I1.fpOk (fp b hb) (I1.hok.fresh (fp b hb)), q⟩
    · obtain ⟨its, rv, p', hz⟩ := I1.tuple hq
      refine call_enum_tuple p' fun h' he hit hsz hk => wpAny_pyIter_enum he ?_
      have I2 : Inv X pins σ H1 { s1 with heap := h' } := I1.kept (t' := s1.toks) hk
      have al : a < s1.heap.objs.size := by obtain ⟨_, q, _⟩ := p'; exact Heap.lt_size q
      exact ⟨s1.heap.objs.size + 1, [s1.heap.objs.size + 1, s1.heap.objs.size], _, _, H1, rfl, I2, turn_enumT a (s1.heap.objs.size + 1) s1.heap.objs.size, ⟨⟨.none, he⟩, hit, Nat.succ_ne_self _, Nat.ne_of_gt (Nat.lt_succ_of_lt al)⟩, fun b hb => I1.fpOk (fp b hb) (I1.hok.fresh (fp b hb)), q⟩
def pairsD (ds : List PyData) : List PyData := (List.range ds.length).map fun (i : Nat) => .tuple [.int (i : Nat), ds.getD i .none]
def enumXD : List PyData → Option (List PyData)
  | [.list ds] => some (pairsD ds)
  | [.tuple ds] => some (pairsD ds)
  | _ => none
section
variable {X : Cx} {W : WX} {ml : MX (List PyData)} {p pos tpos : Pos} {elts : List Expr} {kk : Nat}
theorem di_enumX {a : Expr} (hm : X.mg "enumerate" = none) (ha : DA X W [a] ml) (hl : ∀ η xs η1, ml η = some (.ok xs, η1) → xs.length = 1) (hg : Gl X "enumerate" := by rfl) (hs : starEach [a] X.env = [(false, eval a X.env)] := by rfl) : DI X W (.Tuple elts kk tpos) (.Call (.Name "enumerate" p) [a] [] pos) (gIt enumXD ml) := by
  refine PI.imp (pi_enumX hg hm ha hs) fun σ H R ⟨η, T, r0, n0⟩ => ⟨η, T, r0, n0.bind fun x η1 e1 n1 vs H1 s1 r1 q1 => ?_⟩
  obtain ⟨z, ez, p⟩ := n1.lift
  have l1 := hl η x η1 e1
  match x, l1, q1, ez with
  | [d], _, .cons q .nil, ez =>
    cases q with
    | @lst a ws ds no r all =>
      simp only [enumXD] at ez
      cases ez
      refine ⟨a, ws, rfl, .inl ⟨.inl r, p _ H1 s1 r1 fun H2 O1 k l2 => ?_⟩⟩
      obtain ⟨h, q⟩ := Src.keep (t := false) k ⟨⟨no, r⟩, all⟩
      have h : ¬ O1 a ∧ Rd H2 a (.lst ws) := h
      have hlen : (pairsD ds).length = ds.length := by simp [pairsD]
      rw [hlen]
      refine ⟨fun i hi => ?_, fun i hi => ⟨ws, .inl h.2, by rw [q.length]; exact hi⟩, fun i x H3 hi y => ?_⟩
      · obtain ⟨v, e⟩ := q.lt hi
        exact ⟨ws, v, .inl h.2, e⟩
      · obtain ⟨T', y', rfl, hn, rfl, hy⟩ := y
        obtain ⟨d', e', qd⟩ := q.get' (hy ws (.inl h.2))
        have mo : More H2 (upd H2 T' (.tup [.int (i : Nat), y'])) := More.upd hn
        refine ⟨mo, .tuple [.int (i : Nat), d'], ?_, .tup (.inl (.inl upd_same)) (.cons (.int _) (.cons (qd.more l2 mo) .nil))⟩
        unfold pairsD
        rw [List.getElem?_map, List.getElem?_range hi, Option.map_some, List.getD_eq_getElem?_getD, e']
        rfl
    | @tup a ws ds r all =>
      simp only [enumXD] at ez
      cases ez
      refine ⟨a, ws, rfl, .inr ⟨r, p _ H1 s1 r1 fun H2 O1 k l2 => ?_⟩⟩
      obtain ⟨h, q⟩ := Src.keep (t := true) k ⟨r, all⟩
      have h : SqT X.K H2 a ws := h
      have hlen : (pairsD ds).length = ds.length := by simp [pairsD]
      rw [hlen]
      refine ⟨fun i hi => ?_, fun i hi => ⟨ws, h, by rw [q.length]; exact hi⟩, fun i x H3 hi y => ?_⟩
      · obtain ⟨v, e⟩ := q.lt hi
        exact ⟨ws, v, h, e⟩
      · obtain ⟨T', y', rfl, hn, rfl, hy⟩ := y
        obtain ⟨d', e', qd⟩ := q.get' (hy ws h)
        have mo : More H2 (upd H2 T' (.tup [.int (i : Nat), y'])) := More.upd hn
        refine ⟨mo, .tuple [.int (i : Nat), d'], ?_, .tup (.inl (.inl upd_same)) (.cons (.int _) (.cons (qd.more l2 mo) .nil))⟩
        unfold pairsD
        rw [List.getElem?_map, List.getElem?_range hi, Option.map_some, List.getD_eq_getElem?_getD, e']
        rfl
    | _ => cases ez
end
end L2.DL
end
section
set_option Elab.async false
set_option linter.all false
set_option maxRecDepth 100000
set_option maxHeartbeats 4000000
namespace G45
open PySem PySem.Spec PyProof.Rows L2 L2.DL
set_option autoImplicit false
def top (i : Nat) : Stmt := PySem.Challenge.pw_cutswhole_k45_great_unpaid_numbers.main.body.getD i (.Pass ⟨0, 0, 0, 0⟩)
abbrev NM : List Str := []
abbrev st__law_well : Stmt := top 29
abbrev N__law_well : List Str := ["script", "k", "cell", "whole", "part", "mixed"]
theorem sc__law_well : FnScope N__law_well ["script", "k"] (defScope st__law_well) := ⟨rfl, rfl, rfl, by decide +kernel, rfl, by decide +kernel, by decide +kernel⟩
noncomputable def m__law_well : MX Fl :=
    (mSeq (mAsg (mIf (mTru boolD (mOp ltD (mVar 1) (mUn lenD (mVar 0)))) (mUn intD (mOp ixD (mVar 0) (mVar 1))) (mOp addD (mOp mulD (mPure (.int 83)) (mVar 1)) (mPure (.int 41)))) (gV 2))
    (mSeq (mAsg (mOp addD (mPure (.int 47)) (mUn lenD (mVar 0))) (gV 3))
    (mSeq (mFor (mIter (mSl slD (mVar 0) (mPure none) (mPart (mPure (.int 63))))) (gV 4) (mAsg (mOp modD (mUn intD (mOp addD (mOp mulD (mVar 3) (mPure (.int 4871))) (mOp modD (mUn intD (mVar 4)) (mOp addD (mOp powD (mPure (.int 10)) (mPure (.int 19))) (mPure (.int 51)))))) (mOp addD (mOp powD (mPure (.int 10)) (mPure (.int 25))) (mPure (.int 13)))) (gV 3)) [])
    (mSeq (mAsg (mOp modD (mUn intD (mOp addD (mOp addD (mOp addD (mOp mulD (mUn absD (mVar 2)) (mPure (.int 6599))) (mOp mulD (mVar 3) (mPure (.int 37)))) (mOp mulD (mPure (.int 5)) (mUn intD (mOp ltD (mVar 2) (mPure (.int 0)))))) (mOp mulD (mPure (.int 71)) (mVar 1)))) (mOp addD (mOp powD (mPure (.int 10)) (mPure (.int 28))) (mPure (.int 331)))) (gV 5))
    (mRetL (mCaL (fun xs => if xs.length ≤ sizeLine then some xs else none) (mCons (mCa max2D (mCons (mPure (.int 0)) (mCons (mOp subD (mUn absD (mVar 2)) (mOp powD (mPure (.int 10)) (mPure (.int 18)))) mNil))) (mCons (mVar 5) (mCons (mPure (.int 0)) mNil)))))))))
noncomputable def F__law_well : FS := runF 6 2 m__law_well
abbrev st__law_draw : Stmt := top 30
abbrev N__law_draw : List Str := ["well", "many", "step", "mixed", "found"]
theorem sc__law_draw : FnScope N__law_draw ["well", "many"] (defScope st__law_draw) := ⟨rfl, rfl, rfl, by decide +kernel, rfl, by decide +kernel, by decide +kernel⟩
noncomputable def m__law_draw : MX Fl :=
    (mSeq (mIfS (mTru boolD (mOp gtD (mOpV ixD 0 (mPure (.int 0))) (mPure (.int 0)))) (mSeq (mAsg (mOp modD (mUn intD (mOpV ixD 0 (mPure (.int 0)))) (mVar 1)) (gV 4))
    (mSeq (mSetIx 0 (mOp fdivD (mOpV ixD 0 (mPure (.int 0))) (mVar 1)) (mPure (.int 0)))
    (mRetV 4))) (mPure .nx))
    (mSeq (mSetIx 0 (mOp addD (mOpV ixD 0 (mPure (.int 2))) (mPure (.int 1))) (mPure (.int 2)))
    (mSeq (mAsg (mOpV ixD 0 (mPure (.int 2))) (gV 2))
    (mSeq (mAsg (mOp modD (mUn intD (mOp addD (mOp addD (mOp mulD (mOp mulD (mOp addD (mOpV ixD 0 (mPure (.int 1))) (mPure (.int 37))) (mOp addD (mVar 2) (mPure (.int 7)))) (mPure (.int 998244353))) (mOp mulD (mOp mulD (mOp mulD (mVar 2) (mVar 2)) (mVar 2)) (mPure (.int 424242427)))) (mPure (.int 91)))) (mOp addD (mOp powD (mPure (.int 10)) (mPure (.int 29))) (mPure (.int 319)))) (gV 3))
    (mSeq (mAsg (mOp modD (mUn intD (mOp addD (mOp addD (mOp mulD (mVar 3) (mVar 3)) (mOp mulD (mOpV ixD 0 (mPure (.int 1))) (mPure (.int 5)))) (mVar 2))) (mOp addD (mOp powD (mPure (.int 10)) (mPure (.int 31))) (mPure (.int 33)))) (gV 3))
    (mSeq (mAsg (mOp modD (mUn intD (mOp addD (mOp mulD (mOp mulD (mVar 3) (mVar 3)) (mPure (.int 3))) (mOp mulD (mVar 3) (mPure (.int 13))))) (mOp addD (mOp powD (mPure (.int 10)) (mPure (.int 33))) (mPure (.int 603)))) (gV 3))
    (mRet (mOp modD (mUn intD (mOp fdivD (mVar 3) (mPure (.int 50021)))) (mVar 1)))))))))
noncomputable def F__law_draw : FS := runF 5 2 m__law_draw
abbrev st__law_coins : Stmt := top 32
abbrev N__law_coins : List Str := ["well", "most", "turn"]
theorem sc__law_coins : FnScope N__law_coins ["well"] (defScope st__law_coins) := ⟨rfl, rfl, rfl, by decide +kernel, rfl, by decide +kernel, by decide +kernel⟩
noncomputable def m__law_coins : MX Fl :=
    (mSeq (mAsg (mOp ixD (mFz (mCaL (fun xs => if xs.length ≤ sizeLine then some xs else none) (mCons (mPure (.int 9)) (mCons (mPure (.int 20)) (mCons (mPure (.int 60)) mNil))))) (mCallI F__law_draw 0 (mCons (mPure (.int 3)) mNil))) (gV 1))
    (mRet (mUn tupD (mFz (mUnL sortedSetD (mFz (mComp (gIt rangeD (mCons (mOp addD (mPure (.int 1)) (mCallI F__law_draw 0 (mCons (mPure (.int 5)) mNil))) mNil)) (gV 2) (mPure true) (mOp addD (mPure (.int 1)) (mCallI F__law_draw 0 (mCons (mVar 1) mNil))) [2])))))))
noncomputable def F__law_coins : FS := runF 3 1 m__law_coins
abbrev st_is_integer : Stmt := top 5
abbrev N_is_integer : List Str := ["value"]
theorem sc_is_integer : FnScope N_is_integer ["value"] (defScope st_is_integer) := ⟨rfl, rfl, rfl, by decide +kernel, rfl, by decide +kernel, by decide +kernel⟩
noncomputable def m_is_integer : MX Fl :=
    (mRet (mAndV (mUn (isiD "int") (mVar 0)) (mNotV (mUn (isiD "bool") (mVar 0)))))
noncomputable def F_is_integer : FS := runF 1 1 m_is_integer
abbrev st_is_between : Stmt := top 6
abbrev N_is_between : List Str := ["value", "low", "high"]
theorem sc_is_between : FnScope N_is_between ["value", "low", "high"] (defScope st_is_between) := ⟨rfl, rfl, rfl, by decide +kernel, rfl, by decide +kernel, by decide +kernel⟩
noncomputable def m_is_between : MX Fl :=
    (mRet (mAndV (mCall (fnV F_is_integer) (mCons (mVar 0) mNil)) (mChain leD leD (mVar 1) (mVar 0) (mVar 2))))
noncomputable def F_is_between : FS := runF 3 3 m_is_between
abbrev st_are_coins : Stmt := top 19
abbrev N_are_coins : List Str := ["value", "coin", "one", "other"]
theorem sc_are_coins : FnScope N_are_coins ["value"] (defScope st_are_coins) := ⟨rfl, rfl, rfl, by decide +kernel, rfl, by decide +kernel, by decide +kernel⟩
noncomputable def m_are_coins : MX Fl :=
    (mSeq (mIfS (mOr (mNot (mTru truD (mUn (isiD "tuple") (mVar 0)))) (mNot (mTru boolD (mChain leD leD (mPure (.int 1)) (mUn lenD (mVar 0)) (mPure (.int 5)))))) (mRet (mPure (.bool false))) (mPure .nx))
    (mSeq (mIfS (mNot (mTru truD (mUn allD (mFz (mComp (mIter (mVar 0)) (gV 1) (mPure true) (mCall (fnV F_is_between) (mCons (mVar 1) (mCons (mPure (.int 1)) (mCons (mPure (.int 60)) mNil)))) [1]))))) (mRet (mPure (.bool false))) (mPure .nx))
    (mRet (mUn allD (mFz (mComp (gIt zipXD (mCons (mVar 0) (mCons (mSl slD (mVar 0) (mPart (mPure (.int 1))) (mPure none)) mNil))) (gTupD 2 (gConsD (gV 2) (gConsD (gV 3) gNilD))) (mPure true) (mOp ltD (mVar 2) (mVar 3)) [2, 3]))))))
noncomputable def F_are_coins : FS := runF 4 1 m_are_coins
abbrev st_anew : Stmt := top 7
abbrev N_anew : List Str := ["value", "part"]
theorem sc_anew : FnScope N_anew ["value"] (defScope st_anew) := ⟨rfl, rfl, rfl, by decide +kernel, rfl, by decide +kernel, by decide +kernel⟩
noncomputable def m_anew (F_anew_n : FS) : MX Fl :=
    (mSeq (mIfS (mTru truD (mUn (isiD "list") (mVar 0))) (mRetL (mComp (mIter (mVar 0)) (gV 1) (mPure true) (mCall (fnV F_anew_n) (mCons (mVar 1) mNil)) [1])) (mPure .nx))
    (mSeq (mIfS (mTru truD (mUn (isiD "tuple") (mVar 0))) (mRet (mUn tupD (mFz (mComp (mIter (mVar 0)) (gV 1) (mPure true) (mCall (fnV F_anew_n) (mCons (mVar 1) mNil)) [1])))) (mPure .nx))
    (mRetV 0)))
noncomputable def F_anew : Nat → FS
  | 0 => fun _ => none
  | k + 1 => runF 2 1 (m_anew (F_anew k))
abbrev LV : Nat := 3
abbrev st_need_coins : Stmt := top 20
abbrev N_need_coins : List Str := ["coins"]
theorem sc_need_coins : FnScope N_need_coins ["coins"] (defScope st_need_coins) := ⟨rfl, rfl, rfl, by decide +kernel, rfl, by decide +kernel, by decide +kernel⟩
noncomputable def m_need_coins : MX Fl :=
    (mIfS (mNot (mTru truD (mCall (fnV F_are_coins) (mCons (mVar 0) mNil)))) (fun _ => none) (mPure .nx))
noncomputable def F_need_coins : FS := runF 1 1 m_need_coins
abbrev st_least_table : Stmt := top 10
abbrev N_least_table : List Str := ["coins", "a", "found", "pile", "least", "number", "r", "coin", "after"]
theorem sc_least_table : FnScope N_least_table ["coins", "a"] (defScope st_least_table) := ⟨rfl, rfl, rfl, by decide +kernel, rfl, by decide +kernel, by decide +kernel⟩
noncomputable def m_least_table : MX Fl :=
    (mSeq (mParFF 2 3 (mOpL repD (mFz (mCaL (fun xs => if xs.length ≤ sizeLine then some xs else none) (mCons (mPure .none) mNil))) (mVar 1)) (mCaL (fun xs => if xs.length ≤ sizeLine then some xs else none) (mCons (mCa (fun xs => if xs.length ≤ sizeLine then some (.tuple xs) else none) (mCons (mPure (.int 0)) (mCons (mPure (.int 0)) mNil))) mNil)))
    (mSeq (mWhile (mTru boolD (mOpV neD 3 (mFz (mCaL (fun xs => if xs.length ≤ sizeLine then some xs else none) mNil)))) (mSeq (mAsg (mUn minAD (mBor 3)) (gV 4))
    (mSeq (mDrop (mMeth remD 3 (mCons (mVar 4) mNil)))
    (mSeq (mAsg (mVar 4) (gTupD 2 (gConsD (gV 5) (gConsD (gV 6) gNilD))))
    (mIfS (mTru boolD (mOp isD (mOpV ixD 2 (mVar 6)) (mPure .none))) (mSeq (mSetIx 2 (mVar 5) (mVar 6))
    (mFor (mIter (mVar 0)) (gV 7) (mSeq (mAsg (mCa (fun xs => if xs.length ≤ sizeLine then some (.tuple xs) else none) (mCons (mOp addD (mVar 5) (mVar 7)) (mCons (mOp modD (mOp addD (mVar 6) (mVar 7)) (mVar 1)) mNil))) (gV 8))
    (mIfS (mAnd (mTru boolD (mOp isD (mOpV ixD 2 (mOp ixD (mVar 8) (mPure (.int 1)))) (mPure .none))) (mTru boolD (mOp notInD (mVar 8) (mBor 3)))) (mDrop (mMeth appendD 3 (mCons (mVar 8) mNil))) (mPure .nx))) [])) (mPure .nx))))) [])
    (mRetV 2)))
noncomputable def F_least_table : FS := runF 9 2 m_least_table
abbrev st_gaps : Stmt := top 25
abbrev N_gaps : List Str := ["coins", "found", "r", "least"]
theorem sc_gaps : FnScope N_gaps ["coins"] (defScope st_gaps) := ⟨rfl, rfl, rfl, by decide +kernel, rfl, by decide +kernel, by decide +kernel⟩
noncomputable def m_gaps : MX Fl :=
    (mSeq (mDrop (mCall (fnV F_need_coins) (mCons (mVar 0) mNil)))
    (mSeq (mAsgL (mCaL (fun xs => if xs.length ≤ sizeLine then some xs else none) mNil) 1)
    (mSeq (mFor (gIt enumD (mCons (mCall (fnV F_least_table) (mCons (mVar 0) (mCons (mOp ixD (mVar 0) (mPure (.int 0))) mNil))) mNil)) (gTupD 2 (gConsD (gV 2) (gConsD (gV 3) gNilD))) (mDrop (mMeth extendD 1 (mCons (mFz (mCaL rg3L (mCons (mVar 2) (mCons (mVar 3) (mCons (mOp ixD (mVar 0) (mPure (.int 0))) mNil))))) mNil))) [])
    (mRetL (mUnL sortedD (mBor 1))))))
noncomputable def F_gaps : FS := runF 4 1 m_gaps
abbrev st__law_common : Stmt := top 31
abbrev N__law_common : List Str := ["numbers", "found", "number", "other"]
theorem sc__law_common : FnScope N__law_common ["numbers"] (defScope st__law_common) := ⟨rfl, rfl, rfl, by decide +kernel, rfl, by decide +kernel, by decide +kernel⟩
noncomputable def m__law_common : MX Fl :=
    (mSeq (mAsg (mPure (.int 0)) (gV 1))
    (mSeq (mFor (mIter (mVar 0)) (gV 2) (mSeq (mAsg (mUn absD (mVar 2)) (gV 3))
    (mWhile (mTru boolD (mOp gtD (mVar 3) (mPure (.int 0)))) (mPar 1 3 (mCons (mVar 3) (mCons (mOp modD (mUn intD (mVar 1)) (mVar 3)) mNil))) [])) [])
    (mRetV 1)))
noncomputable def F__law_common : FS := runF 4 1 m__law_common
abbrev st_divisor_of : Stmt := top 9
abbrev N_divisor_of : List Str := ["coins", "found", "coin"]
theorem sc_divisor_of : FnScope N_divisor_of ["coins"] (defScope st_divisor_of) := ⟨rfl, rfl, rfl, by decide +kernel, rfl, by decide +kernel, by decide +kernel⟩
noncomputable def m_divisor_of : MX Fl :=
    (mSeq (mAsg (mPure (.int 0)) (gV 1))
    (mSeq (mFor (mIter (mVar 0)) (gV 2) (mAsg (mCa gcdD (mCons (mVar 1) (mCons (mVar 2) mNil))) (gV 1)) [])
    (mRetV 1)))
noncomputable def F_divisor_of : FS := runF 3 1 m_divisor_of
abbrev st_greatest_unpaid : Stmt := top 23
abbrev N_greatest_unpaid : List Str := ["coins"]
theorem sc_greatest_unpaid : FnScope N_greatest_unpaid ["coins"] (defScope st_greatest_unpaid) := ⟨rfl, rfl, rfl, by decide +kernel, rfl, by decide +kernel, by decide +kernel⟩
noncomputable def m_greatest_unpaid : MX Fl :=
    (mSeq (mDrop (mCall (fnV F_need_coins) (mCons (mVar 0) mNil)))
    (mSeq (mIfS (mTru boolD (mOp gtD (mCall (fnV F_divisor_of) (mCons (mVar 0) mNil)) (mPure (.int 1)))) (mRet (mPure .none)) (mPure .nx))
    (mRet (mOp subD (mUn maxLD (mCall (fnV F_least_table) (mCons (mVar 0) (mCons (mOp ixD (mVar 0) (mPure (.int 0))) mNil)))) (mOp ixD (mVar 0) (mPure (.int 0)))))))
noncomputable def F_greatest_unpaid : FS := runF 1 1 m_greatest_unpaid
abbrev st_count_unpaid : Stmt := top 24
abbrev N_count_unpaid : List Str := ["coins", "least"]
theorem sc_count_unpaid : FnScope N_count_unpaid ["coins"] (defScope st_count_unpaid) := ⟨rfl, rfl, rfl, by decide +kernel, rfl, by decide +kernel, by decide +kernel⟩
noncomputable def m_count_unpaid : MX Fl :=
    (mSeq (mDrop (mCall (fnV F_need_coins) (mCons (mVar 0) mNil)))
    (mSeq (mIfS (mTru boolD (mOp gtD (mCall (fnV F_divisor_of) (mCons (mVar 0) mNil)) (mPure (.int 1)))) (mRet (mPure .none)) (mPure .nx))
    (mRet (mUn sumLD (mFz (mComp (mIter (mCall (fnV F_least_table) (mCons (mVar 0) (mCons (mOp ixD (mVar 0) (mPure (.int 0))) mNil)))) (gV 1) (mPure true) (mOp fdivD (mVar 1) (mOp ixD (mVar 0) (mPure (.int 0)))) [1]))))))
noncomputable def F_count_unpaid : FS := runF 2 1 m_count_unpaid
abbrev st_can_pay : Stmt := top 11
abbrev N_can_pay : List Str := ["coins", "n", "least"]
theorem sc_can_pay : FnScope N_can_pay ["coins", "n"] (defScope st_can_pay) := ⟨rfl, rfl, rfl, by decide +kernel, rfl, by decide +kernel, by decide +kernel⟩
noncomputable def m_can_pay : MX Fl :=
    (mSeq (mAsg (mOp ixD (mCall (fnV F_least_table) (mCons (mVar 0) (mCons (mOp ixD (mVar 0) (mPure (.int 0))) mNil))) (mOp modD (mVar 1) (mOp ixD (mVar 0) (mPure (.int 0))))) (gV 2))
    (mRet (mAndV (mOp isnD (mVar 2) (mPure .none)) (mChain leD leD (mPure (.int 0)) (mVar 2) (mVar 1)))))
noncomputable def F_can_pay : FS := runF 3 2 m_can_pay
abbrev st_payable : Stmt := top 21
abbrev N_payable : List Str := ["coins", "n"]
theorem sc_payable : FnScope N_payable ["coins", "n"] (defScope st_payable) := ⟨rfl, rfl, rfl, by decide +kernel, rfl, by decide +kernel, by decide +kernel⟩
noncomputable def m_payable : MX Fl :=
    (mSeq (mDrop (mCall (fnV F_need_coins) (mCons (mVar 0) mNil)))
    (mRet (mCall (fnV F_can_pay) (mCons (mVar 0) (mCons (mVar 1) mNil)))))
noncomputable def F_payable : FS := runF 2 2 m_payable
abbrev st_payable_to : Stmt := top 12
abbrev N_payable_to : List Str := ["coins", "n", "found", "number", "coin"]
theorem sc_payable_to : FnScope N_payable_to ["coins", "n"] (defScope st_payable_to) := ⟨rfl, rfl, rfl, by decide +kernel, rfl, by decide +kernel, by decide +kernel⟩
noncomputable def m_payable_to : MX Fl :=
    (mSeq (mAsgL (mOpL catD (mFz (mCaL (fun xs => if xs.length ≤ sizeLine then some xs else none) (mCons (mPure (.bool true)) mNil))) (mOp mulD (mFz (mCaL (fun xs => if xs.length ≤ sizeLine then some xs else none) (mCons (mPure (.bool false)) mNil))) (mVar 1))) 2)
    (mSeq (mFor (gIt rangeD (mCons (mPure (.int 1)) (mCons (mOp addD (mVar 1) (mPure (.int 1))) mNil))) (gV 3) (mSetIx 2 (mUn anyD (mFz (mComp (mIter (mVar 0)) (gV 4) (mPure true) (mAndV (mOp leD (mVar 4) (mVar 3)) (mOpV ixD 2 (mOp subD (mVar 3) (mVar 4)))) [4]))) (mVar 3)) [])
    (mRetV 2)))
noncomputable def F_payable_to : FS := runF 5 2 m_payable_to
abbrev st_first_for : Stmt := top 13
abbrev N_first_for : List Str := ["coins", "n", "tables", "found", "at", "coin", "times"]
theorem sc_first_for : FnScope N_first_for ["coins", "n"] (defScope st_first_for) := ⟨rfl, rfl, rfl, by decide +kernel, rfl, by decide +kernel, by decide +kernel⟩
noncomputable def m_first_for : MX Fl :=
    (mSeq (mAsg (mOp addD (mFz (mComp (gIt rangeD (mCons (mUn lenD (mVar 0)) mNil)) (gV 4) (mPure true) (mCall (fnV F_payable_to) (mCons (mSl slD (mVar 0) (mPart (mVar 4)) (mPure none)) (mCons (mVar 1) mNil))) [4])) (mFz (mCaL (fun xs => if xs.length ≤ sizeLine then some xs else none) (mCons (mOp addD (mFz (mCaL (fun xs => if xs.length ≤ sizeLine then some xs else none) (mCons (mPure (.bool true)) mNil))) (mOp mulD (mFz (mCaL (fun xs => if xs.length ≤ sizeLine then some xs else none) (mCons (mPure (.bool false)) mNil))) (mVar 1))) mNil)))) (gV 2))
    (mSeq (mIfS (mNot (mTru truD (mOp ixD (mOp ixD (mVar 2) (mPure (.int 0))) (mVar 1)))) (mRet (mPure .none)) (mPure .nx))
    (mSeq (mAsg (mCa (fun xs => if xs.length ≤ sizeLine then some (.tuple xs) else none) mNil) (gV 3))
    (mSeq (mFor (gIt enumXD (mCons (mVar 0) mNil)) (gTupD 2 (gConsD (gV 4) (gConsD (gV 5) gNilD))) (mSeq (mAsg (mPure (.int 0)) (gV 6))
    (mSeq (mWhile (mNot (mTru truD (mOp ixD (mOp ixD (mVar 2) (mOp addD (mVar 4) (mPure (.int 1)))) (mVar 1)))) (mAsg (mCa (fun xs => if xs.length ≤ sizeLine then some (.tuple xs) else none) (mCons (mOp addD (mVar 6) (mPure (.int 1))) (mCons (mOp subD (mVar 1) (mVar 5)) mNil))) (gTupD 2 (gConsD (gV 6) (gConsD (gV 1) gNilD)))) [])
    (mAsg (mOp addD (mVar 3) (mCa (fun xs => if xs.length ≤ sizeLine then some (.tuple xs) else none) (mCons (mVar 6) mNil))) (gV 3)))) [])
    (mRetV 3)))))
noncomputable def F_first_for : FS := runF 7 2 m_first_for
abbrev st_payment_paper : Stmt := top 26
abbrev N_payment_paper : List Str := ["coins", "n"]
theorem sc_payment_paper : FnScope N_payment_paper ["coins", "n"] (defScope st_payment_paper) := ⟨rfl, rfl, rfl, by decide +kernel, rfl, by decide +kernel, by decide +kernel⟩
noncomputable def m_payment_paper : MX Fl :=
    (mSeq (mDrop (mCall (fnV F_need_coins) (mCons (mVar 0) mNil)))
    (mSeq (mIfS (mTru truD (mCall (fnV F_can_pay) (mCons (mVar 0) (mCons (mVar 1) mNil)))) (mRet (mCa (fun xs => if xs.length ≤ sizeLine then some (.tuple xs) else none) (mCons (mPure (.str "paid")) (mCons (mCall (fnV F_first_for) (mCons (mVar 0) (mCons (mVar 1) mNil))) mNil)))) (mPure .nx))
    (mRet (mCa (fun xs => if xs.length ≤ sizeLine then some (.tuple xs) else none) (mCons (mPure (.str "not")) (mCons (mOp ixD (mVar 0) (mPure (.int 0))) (mCons (mUn tupD (mCall (fnV F_least_table) (mCons (mVar 0) (mCons (mOp ixD (mVar 0) (mPure (.int 0))) mNil)))) mNil)))))))
noncomputable def F_payment_paper : FS := runF 2 2 m_payment_paper
abbrev st__law_two_right : Stmt := top 34
abbrev N__law_two_right : List Str := ["well", "coins", "far", "rest", "turn", "a", "b", "n"]
theorem sc__law_two_right : FnScope N__law_two_right ["well"] (defScope st__law_two_right) := ⟨rfl, rfl, rfl, by decide +kernel, rfl, by decide +kernel, by decide +kernel⟩
noncomputable def m__law_two_right : MX Fl :=
    (mSeq (mPar 5 6 (mCons (mOp addD (mPure (.int 1)) (mCallI F__law_draw 0 (mCons (mPure (.int 59)) mNil))) (mCons (mOp addD (mPure (.int 1)) (mCallI F__law_draw 0 (mCons (mPure (.int 60)) mNil))) mNil)))
    (mSeq (mIfS (mOr (mTru boolD (mOp eqD (mVar 5) (mVar 6))) (mTru boolD (mOp gtD (mCall (fnV F__law_common) (mCons (mCa (fun xs => if xs.length ≤ sizeLine then some (.tuple xs) else none) (mCons (mVar 5) (mCons (mVar 6) mNil))) mNil)) (mPure (.int 1))))) (mAsg (mCa (fun xs => if xs.length ≤ sizeLine then some (.tuple xs) else none) (mCons (mPure (.int 7)) (mCons (mPure (.int 11)) mNil))) (gTupD 2 (gConsD (gV 5) (gConsD (gV 6) gNilD)))) (mPure .nx))
    (mSeq (mAsg (mCa (fun xs => if xs.length ≤ sizeLine then some (.tuple xs) else none) (mCons (mCa min2D (mCons (mVar 5) (mCons (mVar 6) mNil))) (mCons (mCa max2D (mCons (mVar 5) (mCons (mVar 6) mNil))) mNil))) (gV 1))
    (mSeq (mAsg (mOp subD (mOp subD (mOp mulD (mVar 5) (mVar 6)) (mVar 5)) (mVar 6)) (gV 2))
    (mSeq (mAsg (mCall (fnV F_gaps) (mCons (mVar 1) mNil)) (gV 3))
    (mSeq (mIfS (mOr (mTru boolD (mOp neD (mCall (fnV F_greatest_unpaid) (mCons (mVar 1) mNil)) (mVar 2))) (mOr (mTru boolD (mOp neD (mOp mulD (mCall (fnV F_count_unpaid) (mCons (mVar 1) mNil)) (mPure (.int 2))) (mOp mulD (mOp subD (mVar 5) (mPure (.int 1))) (mOp subD (mVar 6) (mPure (.int 1)))))) (mTru boolD (mOp neD (mOp mulD (mUn lenD (mVar 3)) (mPure (.int 2))) (mOp addD (mVar 2) (mPure (.int 1))))))) (mRet (mPure (.bool false))) (mPure .nx))
    (mSeq (mFor (gIt rangeD (mCons (mPure (.int 12)) mNil)) (gV 4) (mSeq (mAsg (mIf (mTru boolD (mOp gtD (mVar 2) (mPure (.int 0)))) (mCallI F__law_draw 0 (mCons (mOp addD (mVar 2) (mPure (.int 1))) mNil)) (mPure (.int 0))) (gV 7))
    (mSeq (mIfS (mAnd (mTru boolD (mOp geD (mVar 2) (mPure (.int 0)))) (mTru boolD (mOp eqD (mCall (fnV F_payable) (mCons (mVar 1) (mCons (mVar 7) mNil))) (mCall (fnV F_payable) (mCons (mVar 1) (mCons (mOp subD (mVar 2) (mVar 7)) mNil)))))) (mRet (mPure (.bool false))) (mPure .nx))
    (mIfS (mAnd (mTru boolD (mChain leD leD (mPure (.int 0)) (mVar 7) (mPure (.int 2000)))) (mAnd (mTru boolD (mOp geD (mVar 2) (mPure (.int 0)))) (mTru boolD (mOp neD (mOp inD (mVar 7) (mVar 3)) (mOp eqD (mOp ixD (mCall (fnV F_payment_paper) (mCons (mVar 1) (mCons (mVar 7) mNil))) (mPure (.int 0))) (mPure (.str "not"))))))) (mRet (mPure (.bool false))) (mPure .nx)))) [])
    (mRet (mPure (.bool true))))))))))
noncomputable def F__law_two_right : FS := runF 8 1 m__law_two_right
abbrev st__law_three_right : Stmt := top 35
abbrev N__law_three_right : List Str := ["well", "less", "coins", "d", "a", "b", "c"]
theorem sc__law_three_right : FnScope N__law_three_right ["well"] (defScope st__law_three_right) := ⟨rfl, rfl, rfl, by decide +kernel, rfl, by decide +kernel, by decide +kernel⟩
noncomputable def m__law_three_right : MX Fl :=
    (mSeq (mAsg (mCa (fun xs => if xs.length ≤ sizeLine then some (.tuple xs) else none) (mCons (mOp addD (mPure (.int 2)) (mCallI F__law_draw 0 (mCons (mPure (.int 4)) mNil))) (mCons (mOp addD (mPure (.int 1)) (mCallI F__law_draw 0 (mCons (mPure (.int 11)) mNil))) (mCons (mOp addD (mPure (.int 1)) (mCallI F__law_draw 0 (mCons (mPure (.int 11)) mNil))) (mCons (mOp addD (mPure (.int 1)) (mCallI F__law_draw 0 (mCons (mPure (.int 60)) mNil))) mNil))))) (gTupD 4 (gConsD (gV 3) (gConsD (gV 4) (gConsD (gV 5) (gConsD (gV 6) gNilD))))))
    (mSeq (mIfS (mOr (mTru boolD (mOp eqD (mVar 4) (mVar 5))) (mOr (mTru boolD (mOp gtD (mCall (fnV F__law_common) (mCons (mCa (fun xs => if xs.length ≤ sizeLine then some (.tuple xs) else none) (mCons (mVar 3) (mCons (mVar 6) mNil))) mNil)) (mPure (.int 1)))) (mOr (mTru boolD (mOp gtD (mCall (fnV F__law_common) (mCons (mCa (fun xs => if xs.length ≤ sizeLine then some (.tuple xs) else none) (mCons (mVar 4) (mCons (mVar 5) (mCons (mVar 6) mNil)))) mNil)) (mPure (.int 1)))) (mTru boolD (mOp inD (mVar 6) (mCa (fun xs => if xs.length ≤ sizeLine then some (.tuple xs) else none) (mCons (mOp mulD (mVar 3) (mVar 4)) (mCons (mOp mulD (mVar 3) (mVar 5)) mNil)))))))) (mRet (mPure (.bool true))) (mPure .nx))
    (mSeq (mAsg (mUn tupD (mFz (mUnL sortedSetD (mFz (mCaL (fun xs => if xs.length ≤ sizeLine then some xs else none) (mCons (mVar 4) (mCons (mVar 5) (mCons (mVar 6) mNil)))))))) (gV 1))
    (mSeq (mAsg (mUn tupD (mFz (mUnL sortedD (mFz (mCaL (fun xs => if xs.length ≤ sizeLine then some xs else none) (mCons (mOp mulD (mVar 3) (mVar 4)) (mCons (mOp mulD (mVar 3) (mVar 5)) (mCons (mVar 6) mNil)))))))) (gV 2))
    (mRet (mOp eqD (mCall (fnV F_greatest_unpaid) (mCons (mVar 2) mNil)) (mOp addD (mOp mulD (mVar 3) (mCall (fnV F_greatest_unpaid) (mCons (mVar 1) mNil))) (mOp mulD (mVar 6) (mOp subD (mVar 3) (mPure (.int 1)))))))))))
noncomputable def F__law_three_right : FS := runF 7 1 m__law_three_right
abbrev st_first_payment : Stmt := top 22
abbrev N_first_payment : List Str := ["coins", "n"]
theorem sc_first_payment : FnScope N_first_payment ["coins", "n"] (defScope st_first_payment) := ⟨rfl, rfl, rfl, by decide +kernel, rfl, by decide +kernel, by decide +kernel⟩
noncomputable def m_first_payment : MX Fl :=
    (mSeq (mDrop (mCall (fnV F_need_coins) (mCons (mVar 0) mNil)))
    (mRet (mIf (mTru boolD (mOp geD (mVar 1) (mPure (.int 0)))) (mCall (fnV F_first_for) (mCons (mVar 0) (mCons (mVar 1) mNil))) (mPure .none))))
noncomputable def F_first_payment : FS := runF 2 2 m_first_payment
abbrev st_fewest_to : Stmt := top 14
abbrev N_fewest_to : List Str := ["coins", "n", "found", "number", "ways", "coin"]
theorem sc_fewest_to : FnScope N_fewest_to ["coins", "n"] (defScope st_fewest_to) := ⟨rfl, rfl, rfl, by decide +kernel, rfl, by decide +kernel, by decide +kernel⟩
noncomputable def m_fewest_to : MX Fl :=
    (mSeq (mAsgL (mOpL catD (mFz (mCaL (fun xs => if xs.length ≤ sizeLine then some xs else none) (mCons (mPure (.int 0)) mNil))) (mOp mulD (mFz (mCaL (fun xs => if xs.length ≤ sizeLine then some xs else none) (mCons (mPure .none) mNil))) (mVar 1))) 2)
    (mSeq (mFor (gIt rangeD (mCons (mPure (.int 1)) (mCons (mOp addD (mVar 1) (mPure (.int 1))) mNil))) (gV 3) (mSeq (mAsgL (mComp (mIter (mVar 0)) (gV 5) (mAnd (mTru boolD (mOp leD (mVar 5) (mVar 3))) (mTru boolD (mOp isnD (mOpV ixD 2 (mOp subD (mVar 3) (mVar 5))) (mPure .none)))) (mOpV ixD 2 (mOp subD (mVar 3) (mVar 5))) [5]) 4)
    (mIfS (mTru boolD (mOpV neD 4 (mFz (mCaL (fun xs => if xs.length ≤ sizeLine then some xs else none) mNil)))) (mSetIx 2 (mOp addD (mPure (.int 1)) (mUn minAD (mBor 4))) (mVar 3)) (mPure .nx))) [])
    (mRetV 2)))
noncomputable def F_fewest_to : FS := runF 6 2 m_fewest_to
abbrev st_least_count : Stmt := top 15
abbrev N_least_count : List Str := ["coins", "n", "greatest", "bound", "times", "rest"]
theorem sc_least_count : FnScope N_least_count ["coins", "n"] (defScope st_least_count) := ⟨rfl, rfl, rfl, by decide +kernel, rfl, by decide +kernel, by decide +kernel⟩
noncomputable def m_least_count : MX Fl :=
    (mSeq (mIfS (mTru boolD (mOp ltD (mVar 1) (mPure (.int 0)))) (mRet (mPure .none)) (mPure .nx))
    (mSeq (mAsg (mOp ixD (mVar 0) (mUn negD (mPure (.int 1)))) (gV 2))
    (mSeq (mAsg (mOp powD (mOp subD (mVar 2) (mPure (.int 1))) (mPure (.int 2))) (gV 3))
    (mSeq (mAsg (mCa max2D (mCons (mPure (.int 0)) (mCons (mUn negD (mOp fdivD (mOp subD (mVar 3) (mVar 1)) (mVar 2))) mNil))) (gV 4))
    (mSeq (mAsg (mOp ixD (mCall (fnV F_fewest_to) (mCons (mVar 0) (mCons (mOp subD (mVar 1) (mOp mulD (mVar 4) (mVar 2))) mNil))) (mUn negD (mPure (.int 1)))) (gV 5))
    (mRet (mIf (mTru boolD (mOp isD (mVar 5) (mPure .none))) (mPure .none) (mOp addD (mVar 5) (mVar 4)))))))))
noncomputable def F_least_count : FS := runF 6 2 m_least_count
abbrev st_fewest : Stmt := top 27
abbrev N_fewest : List Str := ["coins", "n"]
theorem sc_fewest : FnScope N_fewest ["coins", "n"] (defScope st_fewest) := ⟨rfl, rfl, rfl, by decide +kernel, rfl, by decide +kernel, by decide +kernel⟩
noncomputable def m_fewest : MX Fl :=
    (mSeq (mDrop (mCall (fnV F_need_coins) (mCons (mVar 0) mNil)))
    (mRet (mCall (fnV F_least_count) (mCons (mVar 0) (mCons (mVar 1) mNil)))))
noncomputable def F_fewest : FS := runF 2 2 m_fewest
abbrev st__law_times_right : Stmt := top 36
abbrev N__law_times_right : List Str := ["well", "d", "coins", "great", "turn", "n", "coin"]
theorem sc__law_times_right : FnScope N__law_times_right ["well"] (defScope st__law_times_right) := ⟨rfl, rfl, rfl, by decide +kernel, rfl, by decide +kernel, by decide +kernel⟩
noncomputable def m__law_times_right : MX Fl :=
    (mSeq (mAsg (mOp addD (mPure (.int 1)) (mCallI F__law_draw 0 (mCons (mPure (.int 6)) mNil))) (gV 1))
    (mSeq (mAsg (mUn tupD (mFz (mComp (mIter (mCallI F__law_coins 0 mNil)) (gV 6) (mTru boolD (mOp leD (mOp mulD (mVar 6) (mVar 1)) (mPure (.int 60)))) (mVar 6) [6]))) (gV 2))
    (mSeq (mAsg (mIf (mTru boolD (mOp neD (mVar 2) (mCa (fun xs => if xs.length ≤ sizeLine then some (.tuple xs) else none) mNil))) (mVar 2) (mCa (fun xs => if xs.length ≤ sizeLine then some (.tuple xs) else none) (mCons (mPure (.int 2)) (mCons (mPure (.int 5)) mNil)))) (gV 2))
    (mSeq (mAsg (mUn tupD (mFz (mComp (mIter (mVar 2)) (gV 6) (mPure true) (mOp mulD (mVar 1) (mVar 6)) [6]))) (gV 3))
    (mSeq (mFor (gIt rangeD (mCons (mPure (.int 8)) mNil)) (gV 4) (mSeq (mAsg (mCallI F__law_draw 0 (mCons (mPure (.int 200)) mNil)) (gV 5))
    (mSeq (mIfS (mOr (mTru boolD (mOp neD (mCall (fnV F_payable) (mCons (mVar 3) (mCons (mOp mulD (mVar 1) (mVar 5)) mNil))) (mCall (fnV F_payable) (mCons (mVar 2) (mCons (mVar 5) mNil))))) (mTru boolD (mOp neD (mCall (fnV F_first_payment) (mCons (mVar 3) (mCons (mOp mulD (mVar 1) (mVar 5)) mNil))) (mCall (fnV F_first_payment) (mCons (mVar 2) (mCons (mVar 5) mNil)))))) (mRet (mPure (.bool false))) (mPure .nx))
    (mIfS (mOr (mTru boolD (mOp neD (mCall (fnV F_fewest) (mCons (mVar 3) (mCons (mOp mulD (mVar 1) (mVar 5)) mNil))) (mCall (fnV F_fewest) (mCons (mVar 2) (mCons (mVar 5) mNil))))) (mAnd (mTru boolD (mOp neD (mOp modD (mUn intD (mVar 5)) (mVar 1)) (mPure (.int 0)))) (mTru truD (mCall (fnV F_payable) (mCons (mVar 3) (mCons (mVar 5) mNil)))))) (mRet (mPure (.bool false))) (mPure .nx)))) [])
    (mRet (mPure (.bool true))))))))
noncomputable def F__law_times_right : FS := runF 7 1 m__law_times_right
abbrev st_law : Stmt := top 37
abbrev N_law : List Str := ["script", "k", "well", "coins", "more", "turn", "n"]
theorem sc_law : FnScope N_law ["script"] (defScope st_law) := ⟨rfl, rfl, rfl, by decide +kernel, rfl, by decide +kernel, by decide +kernel⟩
noncomputable def m_law : MX Fl :=
    (mSeq (mFor (gIt rangeD (mCons (mCa max2D (mCons (mPure (.int 1)) (mCons (mCa min2D (mCons (mPure (.int 4)) (mCons (mUn lenD (mVar 0)) mNil))) mNil))) mNil)) (gV 1) (mSeq (mAsgL (mCallL (fnV F__law_well) (mCons (mVar 0) (mCons (mVar 1) mNil))) 2)
    (mSeq (mIfS (mOr (mNot (mTru truD (mCallI F__law_two_right 2 mNil))) (mOr (mNot (mTru truD (mCallI F__law_three_right 2 mNil))) (mNot (mTru truD (mCallI F__law_times_right 2 mNil))))) (mRet (mPure (.bool false))) (mPure .nx))
    (mSeq (mAsg (mSl slD (mCallI F__law_coins 2 mNil) (mPure none) (mPart (mPure (.int 4)))) (gV 3))
    (mSeq (mAsg (mUn tupD (mFz (mUnL sortedSetD (mOp addD (mVar 3) (mCa (fun xs => if xs.length ≤ sizeLine then some (.tuple xs) else none) (mCons (mOp addD (mPure (.int 1)) (mCallI F__law_draw 2 (mCons (mPure (.int 60)) mNil))) mNil)))))) (gV 4))
    (mFor (gIt rangeD (mCons (mPure (.int 6)) mNil)) (gV 5) (mSeq (mAsg (mCallI F__law_draw 2 (mCons (mPure (.int 400)) mNil)) (gV 6))
    (mSeq (mIfS (mAnd (mTru truD (mCall (fnV F_payable) (mCons (mVar 3) (mCons (mVar 6) mNil)))) (mNot (mTru truD (mCall (fnV F_payable) (mCons (mVar 4) (mCons (mVar 6) mNil)))))) (mRet (mPure (.bool false))) (mPure .nx))
    (mIfS (mAnd (mTru truD (mCall (fnV F_payable) (mCons (mVar 3) (mCons (mVar 6) mNil)))) (mTru boolD (mOp gtD (mCall (fnV F_fewest) (mCons (mVar 4) (mCons (mVar 6) mNil))) (mCall (fnV F_fewest) (mCons (mVar 3) (mCons (mVar 6) mNil)))))) (mRet (mPure (.bool false))) (mPure .nx)))) []))))) [])
    (mRet (mPure (.bool true))))
noncomputable def F_law : FS := runF 7 1 m_law
structure Txt (P : Program) (K : PySem.W.Frag) (mg : Str → Option Value) : Prop where
  n_abs : mg "abs" = none
  n_all : mg "all" = none
  n_any : mg "any" = none
  n_bool : mg "bool" = none
  n_enumerate : mg "enumerate" = none
  n_int : mg "int" = none
  n_isinstance : mg "isinstance" = none
  n_len : mg "len" = none
  n_list : mg "list" = none
  n_max : mg "max" = none
  n_min : mg "min" = none
  n_range : mg "range" = none
  n_set : mg "set" = none
  n_sorted : mg "sorted" = none
  n_sum : mg "sum" = none
  n_tuple : mg "tuple" = none
  n_zip : mg "zip" = none
  v_MOST_COIN : ∃ t, mg "MOST_COIN" = some (.int 60 t)
  v_MOST_COINS : ∃ t, mg "MOST_COINS" = some (.int 5 t)
  b_gcd : mg "gcd" = some (.builtin "math.gcd")
section
variable {P : Program} {w : World} {K : PySem.W.Frag} {mg : Str → Option Value} {base : Heap} {f : Addr} {fd : FuncData}
theorem ok__law_well (T : Txt P K mg) (F : Fun K "_law_well" "_law_well" st__law_well f fd) : FnG P w K mg base (L2.CX P w) 2 f fd ["script", "k"] (spG K mg 2 F__law_well) := by
  refine fn_okG (m := m__law_well) F sc__law_well fun cdv A outer s H E gd => ?_
  have nd := sc__law_well.nd
  have tk : Takes (cxOf (L2.CX P w) P w K mg base N__law_well "_law_well" (defScope st__law_well) f cdv A outer s H E) (fun cls d _ H => E cls d H) := takes_of rfl rfl rfl rfl
  unfold m__law_well
  exact (dss_cons (ds_set (i := 2) nd rfl (by first | exact Or.inl rfl | exact Or.inr rfl) (de_if (dt_cmpB op_lt ltB_ok (de_var (pv 1)) (de_bf1 call_len lenD_ok T.n_len (by rfl) (de_var (pv 0)).toB).toB (nomark _)) (de_ty1 call_int1 intD_ok T.n_int (by rfl) (de_ix ix_seq ixD_ok (de_var (pv 0)) (de_var (pv 1)) (fun _ _ => rfl)).toB) (de_op op_addA addD_ok (de_op op_mulA mulD_ok de_int (de_var (pv 1))) de_int)))
    (dss_cons (ds_set (i := 3) nd rfl (by first | exact Or.inl rfl | exact Or.inr rfl) (de_op op_addA addD_ok de_int (de_bf1 call_len lenD_ok T.n_len (by rfl) (de_var (pv 0)).toB)))
    (dss_cons (ds_for [] (passes_of rfl) rfl (di_val (de_sl (de_var (pv 0)) do_none (do_some de_int))) (pg_name (i := 4) nd rfl (by first | exact Or.inl rfl | exact Or.inr rfl)) gok_name (dss_one (ds_set (i := 3) nd rfl (by first | exact Or.inl rfl | exact Or.inr rfl) (de_op op_modN modD_ok (de_ty1 call_int1 intD_ok T.n_int (by rfl) (de_op op_addA addD_ok (de_op op_mulA mulD_ok (de_var (pv 3)) de_int) (de_op op_modN modD_ok (de_ty1 call_int1 intD_ok T.n_int (by rfl) (de_var (pv 4)).toB) (de_op op_addA addD_ok (de_op op_pow powD_ok de_int de_int) de_int))).toB) (de_op op_addA addD_ok (de_op op_pow powD_ok de_int de_int) de_int)))))
    (dss_cons (ds_set (i := 5) nd rfl (by first | exact Or.inl rfl | exact Or.inr rfl) (de_op op_modN modD_ok (de_ty1 call_int1 intD_ok T.n_int (by rfl) (de_op op_addA addD_ok (de_op op_addA addD_ok (de_op op_addA addD_ok (de_op op_mulA mulD_ok (de_bf1 call_abs absD_ok T.n_abs (by rfl) (de_var (pv 2)).toB) de_int) (de_op op_mulA mulD_ok (de_var (pv 3)) de_int)) (de_op op_mulA mulD_ok de_int (de_ty1 call_int1 intD_ok T.n_int (by rfl) (de_cmpB op_lt ltB_ok (de_var (pv 2)) de_int.toB (nomark _)).toB))) (de_op op_mulA mulD_ok de_int (de_var (pv 1)))).toB) (de_op op_addA addD_ok (de_op op_pow powD_ok de_int de_int) de_int)))
    (dss_one (ds_retL (df_lst (da_cons (de_bfn (call_max2 rfl) max2D_ok T.n_max (by rfl) (da_cons de_int (da_cons (de_op op_sub subD_ok (de_bf1 call_abs absD_ok T.n_abs (by rfl) (de_var (pv 2)).toB) (de_op op_pow powD_ok de_int de_int)) da_nil))) (da_cons (de_var (pv 5)) (da_cons de_int da_nil))))))))))
theorem ok__law_draw (T : Txt P K mg) (F : Fun K "_law_draw" "_law_draw" st__law_draw f fd) : FnG P w K mg base (L2.CX P w) 2 f fd ["well", "many"] (spG K mg 2 F__law_draw) := by
  refine fn_okG (m := m__law_draw) F sc__law_draw fun cdv A outer s H E gd => ?_
  have nd := sc__law_draw.nd
  have tk : Takes (cxOf (L2.CX P w) P w K mg base N__law_draw "_law_draw" (defScope st__law_draw) f cdv A outer s H E) (fun cls d _ H => E cls d H) := takes_of rfl rfl rfl rfl
  unfold m__law_draw
  exact (dss_cons (ds_if (dt_cmpB op_gt gtB_ok (de_ixV ix_seq ixB_ok (pv 0) de_int (fun _ _ => rfl)) de_int.toB (nomark _)) (dss_cons (ds_set (i := 4) nd rfl (by first | exact Or.inl rfl | exact Or.inr rfl) (de_op op_modN modD_ok (de_ty1 call_int1 intD_ok T.n_int (by rfl) (de_ixV ix_seq ixB_ok (pv 0) de_int (fun _ _ => rfl)).toB) (de_var (pv 1))))
    (dss_cons (ds_setIx (pv 0) de_int (de_op op_fdivA fdivD_ok (de_ixV ix_seq ixB_ok (pv 0) de_int (fun _ _ => rfl)) (de_var (pv 1))))
    (dss_one (ds_retV (pv 4))))) dss_nil)
    (dss_cons (ds_setIx (pv 0) de_int (de_op op_addA addD_ok (de_ixV ix_seq ixB_ok (pv 0) de_int (fun _ _ => rfl)) de_int))
    (dss_cons (ds_set (i := 2) nd rfl (by first | exact Or.inl rfl | exact Or.inr rfl) (de_ixV ix_seq ixB_ok (pv 0) de_int (fun _ _ => rfl)))
    (dss_cons (ds_set (i := 3) nd rfl (by first | exact Or.inl rfl | exact Or.inr rfl) (de_op op_modN modD_ok (de_ty1 call_int1 intD_ok T.n_int (by rfl) (de_op op_addA addD_ok (de_op op_addA addD_ok (de_op op_mulA mulD_ok (de_op op_mulA mulD_ok (de_op op_addA addD_ok (de_ixV ix_seq ixB_ok (pv 0) de_int (fun _ _ => rfl)) de_int) (de_op op_addA addD_ok (de_var (pv 2)) de_int)) de_int) (de_op op_mulA mulD_ok (de_op op_mulA mulD_ok (de_op op_mulA mulD_ok (de_var (pv 2)) (de_var (pv 2))) (de_var (pv 2))) de_int)) de_int).toB) (de_op op_addA addD_ok (de_op op_pow powD_ok de_int de_int) de_int)))
    (dss_cons (ds_set (i := 3) nd rfl (by first | exact Or.inl rfl | exact Or.inr rfl) (de_op op_modN modD_ok (de_ty1 call_int1 intD_ok T.n_int (by rfl) (de_op op_addA addD_ok (de_op op_addA addD_ok (de_op op_mulA mulD_ok (de_var (pv 3)) (de_var (pv 3))) (de_op op_mulA mulD_ok (de_ixV ix_seq ixB_ok (pv 0) de_int (fun _ _ => rfl)) de_int)) (de_var (pv 2))).toB) (de_op op_addA addD_ok (de_op op_pow powD_ok de_int de_int) de_int)))
    (dss_cons (ds_set (i := 3) nd rfl (by first | exact Or.inl rfl | exact Or.inr rfl) (de_op op_modN modD_ok (de_ty1 call_int1 intD_ok T.n_int (by rfl) (de_op op_addA addD_ok (de_op op_mulA mulD_ok (de_op op_mulA mulD_ok (de_var (pv 3)) (de_var (pv 3))) de_int) (de_op op_mulA mulD_ok (de_var (pv 3)) de_int)).toB) (de_op op_addA addD_ok (de_op op_pow powD_ok de_int de_int) de_int)))
    (dss_one (ds_ret (de_op op_modN modD_ok (de_ty1 call_int1 intD_ok T.n_int (by rfl) (de_op op_fdivA fdivD_ok (de_var (pv 3)) de_int).toB) (de_var (pv 1)))))))))))
theorem ok__law_coins (T : Txt P K mg) (c__law_draw : CalT P w K mg base 2 "_law_draw" 2 F__law_draw) (F : Fun K "_law_coins" "_law_coins" st__law_coins f fd) : FnG P w K mg base (L2.CX P w) 3 f fd ["well"] (spG K mg 1 F__law_coins) := by
  refine fn_okG (m := m__law_coins) F sc__law_coins fun cdv A outer s H E gd => ?_
  have nd := sc__law_coins.nd
  have tk : Takes (cxOf (L2.CX P w) P w K mg base N__law_coins "_law_coins" (defScope st__law_coins) f cdv A outer s H E) (fun cls d _ H => E cls d H) := takes_of rfl rfl rfl rfl
  unfold m__law_coins
  exact (dss_cons (ds_set (i := 1) nd rfl (by first | exact Or.inl rfl | exact Or.inr rfl) (de_ix ix_seq ixD_ok (df_lst (da_cons de_int (da_cons de_int (da_cons de_int da_nil)))).toE (de_callI ⟨c__law_draw.ex⟩ (gd.mono (by decide)) tk (by rfl) (pv 0) (da_cons de_int da_nil) (LenM.cons LenM.nil) rfl) (fun _ _ => rfl)))
    (dss_one (ds_ret (de_ty1 call_tuple_of tupD_ok T.n_tuple (by rfl) (df_sortedSet rfl (by rfl) T.n_sorted (by rfl) T.n_set (df_lc (own := [("turn", 2)]) rfl nd (di_range1 T.n_range (da_cons (de_op op_addA addD_ok de_int (de_callI ⟨c__law_draw.ex⟩ (gd.mono (by decide)) tk (by rfl) (pv 0) (da_cons de_int da_nil) (LenM.cons LenM.nil) rfl)) da_nil) (LenM.cons LenM.nil)) (blkOk_by (own := [("turn", 2)]) (N := N__law_coins) (sc := defScope st__law_coins) (by first | decide +kernel | rfl)) (fun _ _ _ _ _ => (pg_name (i := 2) nd rfl (by first | exact Or.inl rfl | exact Or.inr rfl))) gok_name (by decide) (fun _ _ _ _ _ => dts_nil) (fun _ _ _ _ _ => (de_op op_addA addD_ok de_int (de_callI ⟨c__law_draw.ex⟩ ((gd.blk _ _ _ _ _).mono (by decide)) takes0 (by rfl) (pv 0) (da_cons (de_var (pv 1)) da_nil) (LenM.cons LenM.nil) rfl)))).toE.toB).toE.toB))))
theorem ok_is_integer (T : Txt P K mg) (F : Fun K "is_integer" "is_integer" st_is_integer f fd) : FnG P w K mg base (L2.CX P w) 2 f fd ["value"] (spG K mg 1 F_is_integer) := by
  refine fn_okG (m := m_is_integer) F sc_is_integer fun cdv A outer s H E gd => ?_
  have nd := sc_is_integer.nd
  have tk : Takes (cxOf (L2.CX P w) P w K mg base N_is_integer "is_integer" (defScope st_is_integer) f cdv A outer s H E) (fun cls d _ H => E cls d H) := takes_of rfl rfl rfl rfl
  unfold m_is_integer
  exact (dss_one (ds_ret (de_and (de_isi T.n_isinstance T.n_int (by rfl) (by decide) (de_var (pv 0)).toB) (de_one (de_not (de_isi T.n_isinstance T.n_bool (by rfl) (by decide) (de_var (pv 0)).toB))))))
theorem ok_is_between (T : Txt P K mg) (c_is_integer : CalT P w K mg base 2 "is_integer" 1 F_is_integer) (F : Fun K "is_between" "is_between" st_is_between f fd) : FnG P w K mg base (L2.CX P w) 3 f fd ["value", "low", "high"] (spG K mg 3 F_is_between) := by
  refine fn_okG (m := m_is_between) F sc_is_between fun cdv A outer s H E gd => ?_
  have nd := sc_is_between.nd
  have tk : Takes (cxOf (L2.CX P w) P w K mg base N_is_between "is_between" (defScope st_is_between) f cdv A outer s H E) (fun cls d _ H => E cls d H) := takes_of rfl rfl rfl rfl
  unfold m_is_between
  exact (dss_one (ds_ret (de_and (de_call ⟨c_is_integer.ex⟩ (gd.mono (by decide)) tk (by rfl) (da_cons (de_var (pv 0)) da_nil) (LenM.cons LenM.nil)) (de_one (de_chain op_le leD_ok op_le leD_ok (de_var (pv 1)) (de_var (pv 0)) (de_var (pv 2)))))))
theorem ok_are_coins (T : Txt P K mg) (c_is_between : CalT P w K mg base 3 "is_between" 3 F_is_between) (F : Fun K "are_coins" "are_coins" st_are_coins f fd) : FnG P w K mg base (L2.CX P w) 4 f fd ["value"] (spG K mg 1 F_are_coins) := by
  refine fn_okG (m := m_are_coins) F sc_are_coins fun cdv A outer s H E gd => ?_
  have nd := sc_are_coins.nd
  have tk : Takes (cxOf (L2.CX P w) P w K mg base N_are_coins "are_coins" (defScope st_are_coins) f cdv A outer s H E) (fun cls d _ H => E cls d H) := takes_of rfl rfl rfl rfl
  unfold m_are_coins
  exact (dss_cons (ds_if (dw_or (dt_not (dt_val (de_isi T.n_isinstance T.n_tuple (by rfl) (by decide) (de_var (pv 0)).toB).toB)) (dw_or1 (dt_not (dt_chain op_le leD_ok op_le leD_ok de_int (de_bf1 call_len lenD_ok T.n_len (by rfl) (de_var (pv 0)).toB) (by obtain ⟨tk_, h_⟩ := T.v_MOST_COINS; exact de_glob (v := V.int 5) h_ ⟨tk_, rfl⟩ (fun _ _ => .int _)))))).toT (dss_one (ds_ret de_bl)) dss_nil)
    (dss_cons (ds_if (dt_not (dt_val (de_bf1 (cr_all rfl) allD_ok T.n_all (by rfl) (df_lc (own := [("coin", 1)]) rfl nd (di_val (de_var (pv 0))) (blkOk_by (own := [("coin", 1)]) (N := N_are_coins) (sc := defScope st_are_coins) (by first | decide +kernel | rfl)) (fun _ _ _ _ _ => (pg_name (i := 1) nd rfl (by first | exact Or.inl rfl | exact Or.inr rfl))) gok_name (by decide) (fun _ _ _ _ _ => dts_nil) (fun _ _ _ _ _ => (de_call ⟨c_is_between.ex⟩ ((gd.blk _ _ _ _ _).mono (by decide)) takes0 (by rfl) (da_cons (de_var (pv 1)) (da_cons de_int (da_cons (by obtain ⟨tk_, h_⟩ := T.v_MOST_COIN; exact de_glob (v := V.int 60) h_ ⟨tk_, rfl⟩ (fun _ _ => .int _)) da_nil))) (LenM.cons (LenM.cons (LenM.cons LenM.nil)))))).toE.toB).toB)) (dss_one (ds_ret de_bl)) dss_nil)
    (dss_one (ds_ret (de_bf1 (cr_all rfl) allD_ok T.n_all (by rfl) (df_lc (own := [("one", 2), ("other", 3)]) rfl nd (di_zipX T.n_zip (da_cons (de_var (pv 0)) (da_cons (de_sl (de_var (pv 0)) (do_some de_int) do_none) da_nil)) (LenM.cons (LenM.cons LenM.nil))) (blkOk_by (own := [("one", 2), ("other", 3)]) (N := N_are_coins) (sc := defScope st_are_coins) (by first | decide +kernel | rfl)) (fun _ _ _ _ _ => (pg_tup (n := 2) rfl (pgs_cons (pg_name (i := 2) nd rfl (by first | exact Or.inl rfl | exact Or.inr rfl)) (pgs_cons (pg_name (i := 3) nd rfl (by first | exact Or.inl rfl | exact Or.inr rfl)) pgs_nil)))) (gok_tup (gok_cons gok_name (gok_cons gok_name gok_nil))) (by decide) (fun _ _ _ _ _ => dts_nil) (fun _ _ _ _ _ => (de_cmpB op_lt ltB_ok (de_var (pv 2)) (de_var (pv 3)).toB (nomark _)))).toE.toB)))))
theorem ok_anew (T : Txt P K mg) (F : Fun K "anew" "anew" st_anew f fd) (g_ : mg "anew" = some (.ref f)) (b_ : Binds K fd ["value"] []) : ∀ n : Nat, FnG P w K mg base (L2.CX P w) (1 + n) f fd ["value"] (spG K mg 1 (F_anew n))
  | 0 => FnG.never
  | n + 1 => by
    have c_self : CalT P w K mg base (1 + n) "anew" 1 (F_anew n) := ⟨f, fd, ["value"], rfl, ok_anew T F g_ b_ n, g_, F.kp, b_⟩
    refine fn_okG (m := m_anew (F_anew n)) F sc_anew fun cdv A outer s H E gd => ?_
    have nd := sc_anew.nd
    have tk : Takes (cxOf (L2.CX P w) P w K mg base N_anew "anew" (defScope st_anew) f cdv A outer s H E) (fun cls d _ H => E cls d H) := takes_of rfl rfl rfl rfl
    unfold m_anew
    exact (dss_cons (ds_if (dt_val (de_isi T.n_isinstance T.n_list (by rfl) (by decide) (de_var (pv 0)).toB).toB) (dss_one (ds_retL (df_lc (own := [("part", 1)]) rfl nd (di_val (de_var (pv 0))) (blkOk_by (own := [("part", 1)]) (N := N_anew) (sc := defScope st_anew) (by first | decide +kernel | rfl)) (fun _ _ _ _ _ => (pg_name (i := 1) nd rfl (by first | exact Or.inl rfl | exact Or.inr rfl))) gok_name (by decide) (fun _ _ _ _ _ => dts_nil) (fun _ _ _ _ _ => (de_call ⟨c_self.ex⟩ (gd.blk _ _ _ _ _) takes0 (by rfl) (da_cons (de_var (pv 1)) da_nil) (LenM.cons LenM.nil)))))) dss_nil)
    (dss_cons (ds_if (dt_val (de_isi T.n_isinstance T.n_tuple (by rfl) (by decide) (de_var (pv 0)).toB).toB) (dss_one (ds_ret (de_ty1 call_tuple_of tupD_ok T.n_tuple (by rfl) (df_lc (own := [("part", 1)]) rfl nd (di_val (de_var (pv 0))) (blkOk_by (own := [("part", 1)]) (N := N_anew) (sc := defScope st_anew) (by first | decide +kernel | rfl)) (fun _ _ _ _ _ => (pg_name (i := 1) nd rfl (by first | exact Or.inl rfl | exact Or.inr rfl))) gok_name (by decide) (fun _ _ _ _ _ => dts_nil) (fun _ _ _ _ _ => (de_call ⟨c_self.ex⟩ (gd.blk _ _ _ _ _) takes0 (by rfl) (da_cons (de_var (pv 1)) da_nil) (LenM.cons LenM.nil)))).toE.toB))) dss_nil)
    (dss_one (ds_retV (pv 0)))))
theorem ok_need_coins (T : Txt P K mg) (c_are_coins : CalT P w K mg base 4 "are_coins" 1 F_are_coins) (F : Fun K "need_coins" "need_coins" st_need_coins f fd) : FnG P w K mg base (L2.CX P w) 5 f fd ["coins"] (spG K mg 1 F_need_coins) := by
  refine fn_okG (m := m_need_coins) F sc_need_coins fun cdv A outer s H E gd => ?_
  have nd := sc_need_coins.nd
  have tk : Takes (cxOf (L2.CX P w) P w K mg base N_need_coins "need_coins" (defScope st_need_coins) f cdv A outer s H E) (fun cls d _ H => E cls d H) := takes_of rfl rfl rfl rfl
  unfold m_need_coins
  exact (dss_one (ds_if (dt_not (dt_val (de_call ⟨c_are_coins.ex⟩ (gd.mono (by decide)) tk (by rfl) (da_cons (de_var (pv 0)) da_nil) (LenM.cons LenM.nil)).toB)) (dss_one ds_never) dss_nil))
theorem ok_least_table (T : Txt P K mg) (F : Fun K "least_table" "least_table" st_least_table f fd) : FnG P w K mg base (L2.CX P w) 2 f fd ["coins", "a"] (spG K mg 2 F_least_table) := by
  refine fn_okG (m := m_least_table) F sc_least_table fun cdv A outer s H E gd => ?_
  have nd := sc_least_table.nd
  have tk : Takes (cxOf (L2.CX P w) P w K mg base N_least_table "least_table" (defScope st_least_table) f cdv A outer s H E) (fun cls d _ H => E cls d H) := takes_of rfl rfl rfl rfl
  unfold m_least_table
  exact (dss_cons (ds_parFF (i := 2) (j := 3) rfl nd rfl rfl (by decide) rfl rfl (df_op op_repL repD_ok (df_lst (da_cons de_non da_nil)).toE (de_var (pv 1))) (df_lst (da_cons (de_tup trivial (da_cons de_int (da_cons de_int da_nil))) da_nil)) (by rfl))
    (dss_cons (ds_while [] (passes_of rfl) (dt_cmpV (op_neK gd) neB_ok (pv 3) (df_lst da_nil).toE.toB (nomark _)) (dss_cons (ds_set (i := 4) nd rfl (by first | exact Or.inl rfl | exact Or.inr rfl) (de_bf1 (cr_minK gd rfl) minAD_ok T.n_min (by rfl) (db_var (pv 3))))
    (dss_cons (ds_expr (de_meth PySem.F.slot_list_remove PySem.F.type_list_remove (mt_remK gd) remD_ok (pv 3) (da_cons (de_var (pv 4)) da_nil)))
    (dss_cons (ds_asg (pg_tup (n := 2) rfl (pgs_cons (pg_name (i := 5) nd rfl (by first | exact Or.inl rfl | exact Or.inr rfl)) (pgs_cons (pg_name (i := 6) nd rfl (by first | exact Or.inl rfl | exact Or.inr rfl)) pgs_nil))) (gok_tup (gok_cons gok_name (gok_cons gok_name gok_nil))) (de_var (pv 4)))
    (dss_one (ds_if (dt_cmpB op_isN isB_ok (de_ixV ix_seq ixB_ok (pv 2) (de_var (pv 6)) (fun _ _ => rfl)) de_non.toB (nomark _)) (dss_cons (ds_setIx (pv 2) (de_var (pv 6)) (de_var (pv 5)))
    (dss_one (ds_for [] (passes_of rfl) rfl (di_val (de_var (pv 0))) (pg_name (i := 7) nd rfl (by first | exact Or.inl rfl | exact Or.inr rfl)) gok_name (dss_cons (ds_set (i := 8) nd rfl (by first | exact Or.inl rfl | exact Or.inr rfl) (de_tup trivial (da_cons (de_op op_addA addD_ok (de_var (pv 5)) (de_var (pv 7))) (da_cons (de_op op_modN modD_ok (de_op op_addA addD_ok (de_var (pv 6)) (de_var (pv 7))) (de_var (pv 1))) da_nil))))
    (dss_one (ds_if (dw_and (dt_cmpB op_isN isB_ok (de_ixV ix_seq ixB_ok (pv 2) (de_ix ix_seq ixD_ok (de_var (pv 8)) de_int (fun _ _ => rfl)) (fun _ _ => rfl)) de_non.toB (nomark _)) (dw_and1 (dt_cmpB (op_ninK gd) notInB_ok (de_var (pv 8)) (db_var (pv 3)) (by rfl)))).toT (dss_one (ds_expr (de_meth PySem.F.slot_list_append PySem.F.type_list_append mt_append appendD_ok (pv 3) (da_cons (de_var (pv 8)) da_nil)))) dss_nil)))))) dss_nil))))))
    (dss_one (ds_retV (pv 2)))))
theorem ok_gaps (T : Txt P K mg) (c_least_table : CalT P w K mg base 2 "least_table" 2 F_least_table) (c_need_coins : CalT P w K mg base 5 "need_coins" 1 F_need_coins) (F : Fun K "gaps" "gaps" st_gaps f fd) : FnG P w K mg base (L2.CX P w) 6 f fd ["coins"] (spG K mg 1 F_gaps) := by
  refine fn_okG (m := m_gaps) F sc_gaps fun cdv A outer s H E gd => ?_
  have nd := sc_gaps.nd
  have tk : Takes (cxOf (L2.CX P w) P w K mg base N_gaps "gaps" (defScope st_gaps) f cdv A outer s H E) (fun cls d _ H => E cls d H) := takes_of rfl rfl rfl rfl
  unfold m_gaps
  exact (dss_cons (ds_expr (de_call ⟨c_need_coins.ex⟩ (gd.mono (by decide)) tk (by rfl) (da_cons (de_var (pv 0)) da_nil) (LenM.cons LenM.nil)))
    (dss_cons (ds_setL (i := 1) nd rfl (by first | exact Or.inl rfl | exact Or.inr rfl) (df_lst da_nil))
    (dss_cons (ds_for [] (passes_of rfl) rfl (di_enum T.n_enumerate (da_cons (de_call ⟨c_least_table.ex⟩ (gd.mono (by decide)) tk (by rfl) (da_cons (de_var (pv 0)) (da_cons (de_ix ix_seq ixD_ok (de_var (pv 0)) de_int (fun _ _ => rfl)) da_nil)) (LenM.cons (LenM.cons LenM.nil))) da_nil) (LenM.cons LenM.nil)) (pg_tup (n := 2) rfl (pgs_cons (pg_name (i := 2) nd rfl (by first | exact Or.inl rfl | exact Or.inr rfl)) (pgs_cons (pg_name (i := 3) nd rfl (by first | exact Or.inl rfl | exact Or.inr rfl)) pgs_nil))) (gok_tup (gok_cons gok_name (gok_cons gok_name gok_nil))) (dss_one (ds_expr (de_meth PySem.F.slot_list_extend PySem.F.type_list_extend mt_extD extendD_ok (pv 1) (da_cons (df_listRg3 rfl (by rfl) T.n_list (by rfl) T.n_range (da_cons (de_var (pv 2)) (da_cons (de_var (pv 3)) (da_cons (de_ix ix_seq ixD_ok (de_var (pv 0)) de_int (fun _ _ => rfl)) da_nil))) (LenM.cons (LenM.cons (LenM.cons LenM.nil)))).toE da_nil)))))
    (dss_one (ds_retL (df_bf1 cr_sortedA sortedD_ok T.n_sorted (by rfl) (db_var (pv 1))))))))
theorem ok__law_common (T : Txt P K mg) (F : Fun K "_law_common" "_law_common" st__law_common f fd) : FnG P w K mg base (L2.CX P w) 2 f fd ["numbers"] (spG K mg 1 F__law_common) := by
  refine fn_okG (m := m__law_common) F sc__law_common fun cdv A outer s H E gd => ?_
  have nd := sc__law_common.nd
  have tk : Takes (cxOf (L2.CX P w) P w K mg base N__law_common "_law_common" (defScope st__law_common) f cdv A outer s H E) (fun cls d _ H => E cls d H) := takes_of rfl rfl rfl rfl
  unfold m__law_common
  exact (dss_cons (ds_set (i := 1) nd rfl (by first | exact Or.inl rfl | exact Or.inr rfl) de_int)
    (dss_cons (ds_for [] (passes_of rfl) rfl (di_val (de_var (pv 0))) (pg_name (i := 2) nd rfl (by first | exact Or.inl rfl | exact Or.inr rfl)) gok_name (dss_cons (ds_set (i := 3) nd rfl (by first | exact Or.inl rfl | exact Or.inr rfl) (de_bf1 call_abs absD_ok T.n_abs (by rfl) (de_var (pv 2)).toB))
    (dss_one (ds_while [] (passes_of rfl) (dt_cmpB op_gt gtB_ok (de_var (pv 3)) de_int.toB (nomark _)) (dss_one (ds_par (i := 1) (j := 3) rfl nd rfl rfl (by decide) rfl rfl (da_cons (de_var (pv 3)) (da_cons (de_op op_modN modD_ok (de_ty1 call_int1 intD_ok T.n_int (by rfl) (de_var (pv 1)).toB) (de_var (pv 3))) da_nil)) (by rfl)))))))
    (dss_one (ds_retV (pv 1)))))
theorem ok_divisor_of (T : Txt P K mg) (F : Fun K "divisor_of" "divisor_of" st_divisor_of f fd) : FnG P w K mg base (L2.CX P w) 2 f fd ["coins"] (spG K mg 1 F_divisor_of) := by
  refine fn_okG (m := m_divisor_of) F sc_divisor_of fun cdv A outer s H E gd => ?_
  have nd := sc_divisor_of.nd
  have tk : Takes (cxOf (L2.CX P w) P w K mg base N_divisor_of "divisor_of" (defScope st_divisor_of) f cdv A outer s H E) (fun cls d _ H => E cls d H) := takes_of rfl rfl rfl rfl
  unfold m_divisor_of
  exact (dss_cons (ds_set (i := 1) nd rfl (by first | exact Or.inl rfl | exact Or.inr rfl) de_int)
    (dss_cons (ds_for [] (passes_of rfl) rfl (di_val (de_var (pv 0))) (pg_name (i := 2) nd rfl (by first | exact Or.inl rfl | exact Or.inr rfl)) gok_name (dss_one (ds_set (i := 1) nd rfl (by first | exact Or.inl rfl | exact Or.inr rfl) (de_gfn cr_gcd gcdD_ok T.b_gcd (da_cons (de_var (pv 1)) (da_cons (de_var (pv 2)) da_nil))))))
    (dss_one (ds_retV (pv 1)))))
theorem ok_greatest_unpaid (T : Txt P K mg) (c_divisor_of : CalT P w K mg base 2 "divisor_of" 1 F_divisor_of) (c_least_table : CalT P w K mg base 2 "least_table" 2 F_least_table) (c_need_coins : CalT P w K mg base 5 "need_coins" 1 F_need_coins) (F : Fun K "greatest_unpaid" "greatest_unpaid" st_greatest_unpaid f fd) : FnG P w K mg base (L2.CX P w) 6 f fd ["coins"] (spG K mg 1 F_greatest_unpaid) := by
  refine fn_okG (m := m_greatest_unpaid) F sc_greatest_unpaid fun cdv A outer s H E gd => ?_
  have nd := sc_greatest_unpaid.nd
  have tk : Takes (cxOf (L2.CX P w) P w K mg base N_greatest_unpaid "greatest_unpaid" (defScope st_greatest_unpaid) f cdv A outer s H E) (fun cls d _ H => E cls d H) := takes_of rfl rfl rfl rfl
  unfold m_greatest_unpaid
  exact (dss_cons (ds_expr (de_call ⟨c_need_coins.ex⟩ (gd.mono (by decide)) tk (by rfl) (da_cons (de_var (pv 0)) da_nil) (LenM.cons LenM.nil)))
    (dss_cons (ds_if (dt_cmpB op_gt gtB_ok (de_call ⟨c_divisor_of.ex⟩ (gd.mono (by decide)) tk (by rfl) (da_cons (de_var (pv 0)) da_nil) (LenM.cons LenM.nil)) de_int.toB (nomark _)) (dss_one (ds_ret de_non)) dss_nil)
    (dss_one (ds_ret (de_op op_sub subD_ok (de_bf1 (cr_max rfl) maxLD_ok T.n_max (by rfl) (de_call ⟨c_least_table.ex⟩ (gd.mono (by decide)) tk (by rfl) (da_cons (de_var (pv 0)) (da_cons (de_ix ix_seq ixD_ok (de_var (pv 0)) de_int (fun _ _ => rfl)) da_nil)) (LenM.cons (LenM.cons LenM.nil))).toB) (de_ix ix_seq ixD_ok (de_var (pv 0)) de_int (fun _ _ => rfl)))))))
theorem ok_count_unpaid (T : Txt P K mg) (c_divisor_of : CalT P w K mg base 2 "divisor_of" 1 F_divisor_of) (c_least_table : CalT P w K mg base 2 "least_table" 2 F_least_table) (c_need_coins : CalT P w K mg base 5 "need_coins" 1 F_need_coins) (F : Fun K "count_unpaid" "count_unpaid" st_count_unpaid f fd) : FnG P w K mg base (L2.CX P w) 6 f fd ["coins"] (spG K mg 1 F_count_unpaid) := by
  refine fn_okG (m := m_count_unpaid) F sc_count_unpaid fun cdv A outer s H E gd => ?_
  have nd := sc_count_unpaid.nd
  have tk : Takes (cxOf (L2.CX P w) P w K mg base N_count_unpaid "count_unpaid" (defScope st_count_unpaid) f cdv A outer s H E) (fun cls d _ H => E cls d H) := takes_of rfl rfl rfl rfl
  unfold m_count_unpaid
  exact (dss_cons (ds_expr (de_call ⟨c_need_coins.ex⟩ (gd.mono (by decide)) tk (by rfl) (da_cons (de_var (pv 0)) da_nil) (LenM.cons LenM.nil)))
    (dss_cons (ds_if (dt_cmpB op_gt gtB_ok (de_call ⟨c_divisor_of.ex⟩ (gd.mono (by decide)) tk (by rfl) (da_cons (de_var (pv 0)) da_nil) (LenM.cons LenM.nil)) de_int.toB (nomark _)) (dss_one (ds_ret de_non)) dss_nil)
    (dss_one (ds_ret (de_bf1 (cr_sum rfl) sumLD_ok T.n_sum (by rfl) (df_lc (own := [("least", 1)]) rfl nd (di_val (de_call ⟨c_least_table.ex⟩ (gd.mono (by decide)) tk (by rfl) (da_cons (de_var (pv 0)) (da_cons (de_ix ix_seq ixD_ok (de_var (pv 0)) de_int (fun _ _ => rfl)) da_nil)) (LenM.cons (LenM.cons LenM.nil)))) (blkOk_by (own := [("least", 1)]) (N := N_count_unpaid) (sc := defScope st_count_unpaid) (by first | decide +kernel | rfl)) (fun _ _ _ _ _ => (pg_name (i := 1) nd rfl (by first | exact Or.inl rfl | exact Or.inr rfl))) gok_name (by decide) (fun _ _ _ _ _ => dts_nil) (fun _ _ _ _ _ => (de_op op_fdivA fdivD_ok (de_var (pv 1)) (de_ix ix_seq ixD_ok (de_var (pv 0)) de_int (fun _ _ => rfl))))).toE.toB)))))
theorem ok_can_pay (T : Txt P K mg) (c_least_table : CalT P w K mg base 2 "least_table" 2 F_least_table) (F : Fun K "can_pay" "can_pay" st_can_pay f fd) : FnG P w K mg base (L2.CX P w) 3 f fd ["coins", "n"] (spG K mg 2 F_can_pay) := by
  refine fn_okG (m := m_can_pay) F sc_can_pay fun cdv A outer s H E gd => ?_
  have nd := sc_can_pay.nd
  have tk : Takes (cxOf (L2.CX P w) P w K mg base N_can_pay "can_pay" (defScope st_can_pay) f cdv A outer s H E) (fun cls d _ H => E cls d H) := takes_of rfl rfl rfl rfl
  unfold m_can_pay
  exact (dss_cons (ds_set (i := 2) nd rfl (by first | exact Or.inl rfl | exact Or.inr rfl) (de_ix ix_seq ixD_ok (de_call ⟨c_least_table.ex⟩ (gd.mono (by decide)) tk (by rfl) (da_cons (de_var (pv 0)) (da_cons (de_ix ix_seq ixD_ok (de_var (pv 0)) de_int (fun _ _ => rfl)) da_nil)) (LenM.cons (LenM.cons LenM.nil))) (de_op op_modN modD_ok (de_var (pv 1)) (de_ix ix_seq ixD_ok (de_var (pv 0)) de_int (fun _ _ => rfl))) (fun _ _ => rfl)))
    (dss_one (ds_ret (de_and (de_cmpB op_notN isnB_ok (de_var (pv 2)) de_non.toB (nomark _)) (de_one (de_chain op_le leD_ok op_le leD_ok de_int (de_var (pv 2)) (de_var (pv 1))))))))
theorem ok_payable (T : Txt P K mg) (c_can_pay : CalT P w K mg base 3 "can_pay" 2 F_can_pay) (c_need_coins : CalT P w K mg base 5 "need_coins" 1 F_need_coins) (F : Fun K "payable" "payable" st_payable f fd) : FnG P w K mg base (L2.CX P w) 6 f fd ["coins", "n"] (spG K mg 2 F_payable) := by
  refine fn_okG (m := m_payable) F sc_payable fun cdv A outer s H E gd => ?_
  have nd := sc_payable.nd
  have tk : Takes (cxOf (L2.CX P w) P w K mg base N_payable "payable" (defScope st_payable) f cdv A outer s H E) (fun cls d _ H => E cls d H) := takes_of rfl rfl rfl rfl
  unfold m_payable
  exact (dss_cons (ds_expr (de_call ⟨c_need_coins.ex⟩ (gd.mono (by decide)) tk (by rfl) (da_cons (de_var (pv 0)) da_nil) (LenM.cons LenM.nil)))
    (dss_one (ds_ret (de_call ⟨c_can_pay.ex⟩ (gd.mono (by decide)) tk (by rfl) (da_cons (de_var (pv 0)) (da_cons (de_var (pv 1)) da_nil)) (LenM.cons (LenM.cons LenM.nil))))))
theorem ok_payable_to (T : Txt P K mg) (F : Fun K "payable_to" "payable_to" st_payable_to f fd) : FnG P w K mg base (L2.CX P w) 2 f fd ["coins", "n"] (spG K mg 2 F_payable_to) := by
  refine fn_okG (m := m_payable_to) F sc_payable_to fun cdv A outer s H E gd => ?_
  have nd := sc_payable_to.nd
  have tk : Takes (cxOf (L2.CX P w) P w K mg base N_payable_to "payable_to" (defScope st_payable_to) f cdv A outer s H E) (fun cls d _ H => E cls d H) := takes_of rfl rfl rfl rfl
  unfold m_payable_to
  exact (dss_cons (ds_setL (i := 2) nd rfl (by first | exact Or.inl rfl | exact Or.inr rfl) (df_op op_catL catD_ok (df_lst (da_cons de_bl da_nil)).toE (de_op op_mulA mulD_ok (df_lst (da_cons de_bl da_nil)).toE (de_var (pv 1)))))
    (dss_cons (ds_for [] (passes_of rfl) rfl (di_range2 T.n_range (da_cons de_int (da_cons (de_op op_addA addD_ok (de_var (pv 1)) de_int) da_nil)) (LenM.cons (LenM.cons LenM.nil))) (pg_name (i := 3) nd rfl (by first | exact Or.inl rfl | exact Or.inr rfl)) gok_name (dss_one (ds_setIx (pv 2) (de_var (pv 3)) (de_bf1 (cr_any rfl) anyD_ok T.n_any (by rfl) (df_lc (own := [("coin", 4)]) rfl nd (di_val (de_var (pv 0))) (blkOk_by (own := [("coin", 4)]) (N := N_payable_to) (sc := defScope st_payable_to) (by first | decide +kernel | rfl)) (fun _ _ _ _ _ => (pg_name (i := 4) nd rfl (by first | exact Or.inl rfl | exact Or.inr rfl))) gok_name (by decide) (fun _ _ _ _ _ => dts_nil) (fun _ _ _ _ _ => (de_and (de_cmpB op_le leB_ok (de_var (pv 4)) (de_var (pv 3)).toB (nomark _)) (de_one (de_ixV ix_seq ixB_ok (pv 2) (de_op op_sub subD_ok (de_var (pv 3)) (de_var (pv 4))) (fun _ _ => rfl)))))).toE.toB))))
    (dss_one (ds_retV (pv 2)))))
theorem ok_first_for (T : Txt P K mg) (c_payable_to : CalT P w K mg base 2 "payable_to" 2 F_payable_to) (F : Fun K "first_for" "first_for" st_first_for f fd) : FnG P w K mg base (L2.CX P w) 3 f fd ["coins", "n"] (spG K mg 2 F_first_for) := by
  refine fn_okG (m := m_first_for) F sc_first_for fun cdv A outer s H E gd => ?_
  have nd := sc_first_for.nd
  have tk : Takes (cxOf (L2.CX P w) P w K mg base N_first_for "first_for" (defScope st_first_for) f cdv A outer s H E) (fun cls d _ H => E cls d H) := takes_of rfl rfl rfl rfl
  unfold m_first_for
  exact (dss_cons (ds_set (i := 2) nd rfl (by first | exact Or.inl rfl | exact Or.inr rfl) (de_op op_addA addD_ok (df_lc (own := [("at", 4)]) rfl nd (di_range1 T.n_range (da_cons (de_bf1 call_len lenD_ok T.n_len (by rfl) (de_var (pv 0)).toB) da_nil) (LenM.cons LenM.nil)) (blkOk_by (own := [("at", 4)]) (N := N_first_for) (sc := defScope st_first_for) (by first | decide +kernel | rfl)) (fun _ _ _ _ _ => (pg_name (i := 4) nd rfl (by first | exact Or.inl rfl | exact Or.inr rfl))) gok_name (by decide) (fun _ _ _ _ _ => dts_nil) (fun _ _ _ _ _ => (de_call ⟨c_payable_to.ex⟩ ((gd.blk _ _ _ _ _).mono (by decide)) takes0 (by rfl) (da_cons (de_sl (de_var (pv 0)) (do_some (de_var (pv 4))) do_none) (da_cons (de_var (pv 1)) da_nil)) (LenM.cons (LenM.cons LenM.nil))))).toE (df_lst (da_cons (de_op op_addA addD_ok (df_lst (da_cons de_bl da_nil)).toE (de_op op_mulA mulD_ok (df_lst (da_cons de_bl da_nil)).toE (de_var (pv 1)))) da_nil)).toE))
    (dss_cons (ds_if (dt_not (dt_val (de_ix ix_seq ixD_ok (de_ix ix_seq ixD_ok (de_var (pv 2)) de_int (fun _ _ => rfl)) (de_var (pv 1)) (fun _ _ => rfl)).toB)) (dss_one (ds_ret de_non)) dss_nil)
    (dss_cons (ds_set (i := 3) nd rfl (by first | exact Or.inl rfl | exact Or.inr rfl) (de_tup trivial da_nil))
    (dss_cons (ds_for [] (passes_of rfl) rfl (di_enumX T.n_enumerate (da_cons (de_var (pv 0)) da_nil) (LenM.cons LenM.nil)) (pg_tup (n := 2) rfl (pgs_cons (pg_name (i := 4) nd rfl (by first | exact Or.inl rfl | exact Or.inr rfl)) (pgs_cons (pg_name (i := 5) nd rfl (by first | exact Or.inl rfl | exact Or.inr rfl)) pgs_nil))) (gok_tup (gok_cons gok_name (gok_cons gok_name gok_nil))) (dss_cons (ds_set (i := 6) nd rfl (by first | exact Or.inl rfl | exact Or.inr rfl) de_int)
    (dss_cons (ds_while [] (passes_of rfl) (dt_not (dt_val (de_ix ix_seq ixD_ok (de_ix ix_seq ixD_ok (de_var (pv 2)) (de_op op_addA addD_ok (de_var (pv 4)) de_int) (fun _ _ => rfl)) (de_var (pv 1)) (fun _ _ => rfl)).toB)) (dss_one (ds_asg (pg_tup (n := 2) rfl (pgs_cons (pg_name (i := 6) nd rfl (by first | exact Or.inl rfl | exact Or.inr rfl)) (pgs_cons (pg_name (i := 1) nd rfl (by first | exact Or.inl rfl | exact Or.inr rfl)) pgs_nil))) (gok_tup (gok_cons gok_name (gok_cons gok_name gok_nil))) (de_tup trivial (da_cons (de_op op_addA addD_ok (de_var (pv 6)) de_int) (da_cons (de_op op_sub subD_ok (de_var (pv 1)) (de_var (pv 5))) da_nil))))))
    (dss_one (ds_set (i := 3) nd rfl (by first | exact Or.inl rfl | exact Or.inr rfl) (de_op op_addA addD_ok (de_var (pv 3)) (de_tup trivial (da_cons (de_var (pv 6)) da_nil))))))))
    (dss_one (ds_retV (pv 3)))))))
theorem ok_payment_paper (T : Txt P K mg) (c_can_pay : CalT P w K mg base 3 "can_pay" 2 F_can_pay) (c_first_for : CalT P w K mg base 3 "first_for" 2 F_first_for) (c_least_table : CalT P w K mg base 2 "least_table" 2 F_least_table) (c_need_coins : CalT P w K mg base 5 "need_coins" 1 F_need_coins) (F : Fun K "payment_paper" "payment_paper" st_payment_paper f fd) : FnG P w K mg base (L2.CX P w) 6 f fd ["coins", "n"] (spG K mg 2 F_payment_paper) := by
  refine fn_okG (m := m_payment_paper) F sc_payment_paper fun cdv A outer s H E gd => ?_
  have nd := sc_payment_paper.nd
  have tk : Takes (cxOf (L2.CX P w) P w K mg base N_payment_paper "payment_paper" (defScope st_payment_paper) f cdv A outer s H E) (fun cls d _ H => E cls d H) := takes_of rfl rfl rfl rfl
  unfold m_payment_paper
  exact (dss_cons (ds_expr (de_call ⟨c_need_coins.ex⟩ (gd.mono (by decide)) tk (by rfl) (da_cons (de_var (pv 0)) da_nil) (LenM.cons LenM.nil)))
    (dss_cons (ds_if (dt_val (de_call ⟨c_can_pay.ex⟩ (gd.mono (by decide)) tk (by rfl) (da_cons (de_var (pv 0)) (da_cons (de_var (pv 1)) da_nil)) (LenM.cons (LenM.cons LenM.nil))).toB) (dss_one (ds_ret (de_tup trivial (da_cons de_str (da_cons (de_call ⟨c_first_for.ex⟩ (gd.mono (by decide)) tk (by rfl) (da_cons (de_var (pv 0)) (da_cons (de_var (pv 1)) da_nil)) (LenM.cons (LenM.cons LenM.nil))) da_nil))))) dss_nil)
    (dss_one (ds_ret (de_tup trivial (da_cons de_str (da_cons (de_ix ix_seq ixD_ok (de_var (pv 0)) de_int (fun _ _ => rfl)) (da_cons (de_ty1 call_tuple_of tupD_ok T.n_tuple (by rfl) (de_call ⟨c_least_table.ex⟩ (gd.mono (by decide)) tk (by rfl) (da_cons (de_var (pv 0)) (da_cons (de_ix ix_seq ixD_ok (de_var (pv 0)) de_int (fun _ _ => rfl)) da_nil)) (LenM.cons (LenM.cons LenM.nil))).toB) da_nil))))))))
theorem ok__law_two_right (T : Txt P K mg) (c__law_common : CalT P w K mg base 2 "_law_common" 1 F__law_common) (c__law_draw : CalT P w K mg base 2 "_law_draw" 2 F__law_draw) (c_count_unpaid : CalT P w K mg base 6 "count_unpaid" 1 F_count_unpaid) (c_gaps : CalT P w K mg base 6 "gaps" 1 F_gaps) (c_greatest_unpaid : CalT P w K mg base 6 "greatest_unpaid" 1 F_greatest_unpaid) (c_payable : CalT P w K mg base 6 "payable" 2 F_payable) (c_payment_paper : CalT P w K mg base 6 "payment_paper" 2 F_payment_paper) (F : Fun K "_law_two_right" "_law_two_right" st__law_two_right f fd) : FnG P w K mg base (L2.CX P w) 7 f fd ["well"] (spG K mg 1 F__law_two_right) := by
  refine fn_okG (m := m__law_two_right) F sc__law_two_right fun cdv A outer s H E gd => ?_
  have nd := sc__law_two_right.nd
  have tk : Takes (cxOf (L2.CX P w) P w K mg base N__law_two_right "_law_two_right" (defScope st__law_two_right) f cdv A outer s H E) (fun cls d _ H => E cls d H) := takes_of rfl rfl rfl rfl
  unfold m__law_two_right
  exact (dss_cons (ds_par (i := 5) (j := 6) rfl nd rfl rfl (by decide) rfl rfl (da_cons (de_op op_addA addD_ok de_int (de_callI ⟨c__law_draw.ex⟩ (gd.mono (by decide)) tk (by rfl) (pv 0) (da_cons de_int da_nil) (LenM.cons LenM.nil) rfl)) (da_cons (de_op op_addA addD_ok de_int (de_callI ⟨c__law_draw.ex⟩ (gd.mono (by decide)) tk (by rfl) (pv 0) (da_cons de_int da_nil) (LenM.cons LenM.nil) rfl)) da_nil)) (by rfl))
    (dss_cons (ds_if (dw_or (dt_cmpB (op_eqK gd) eqB_ok (de_var (pv 5)) (de_var (pv 6)).toB (nomark _)) (dw_or1 (dt_cmpB op_gt gtB_ok (de_call ⟨c__law_common.ex⟩ (gd.mono (by decide)) tk (by rfl) (da_cons (de_tup trivial (da_cons (de_var (pv 5)) (da_cons (de_var (pv 6)) da_nil))) da_nil) (LenM.cons LenM.nil)) de_int.toB (nomark _)))).toT (dss_one (ds_asg (pg_tup (n := 2) rfl (pgs_cons (pg_name (i := 5) nd rfl (by first | exact Or.inl rfl | exact Or.inr rfl)) (pgs_cons (pg_name (i := 6) nd rfl (by first | exact Or.inl rfl | exact Or.inr rfl)) pgs_nil))) (gok_tup (gok_cons gok_name (gok_cons gok_name gok_nil))) (de_tup trivial (da_cons de_int (da_cons de_int da_nil))))) dss_nil)
    (dss_cons (ds_set (i := 1) nd rfl (by first | exact Or.inl rfl | exact Or.inr rfl) (de_tup trivial (da_cons (de_bfn (call_min2 rfl) min2D_ok T.n_min (by rfl) (da_cons (de_var (pv 5)) (da_cons (de_var (pv 6)) da_nil))) (da_cons (de_bfn (call_max2 rfl) max2D_ok T.n_max (by rfl) (da_cons (de_var (pv 5)) (da_cons (de_var (pv 6)) da_nil))) da_nil))))
    (dss_cons (ds_set (i := 2) nd rfl (by first | exact Or.inl rfl | exact Or.inr rfl) (de_op op_sub subD_ok (de_op op_sub subD_ok (de_op op_mulA mulD_ok (de_var (pv 5)) (de_var (pv 6))) (de_var (pv 5))) (de_var (pv 6))))
    (dss_cons (ds_set (i := 3) nd rfl (by first | exact Or.inl rfl | exact Or.inr rfl) (de_call ⟨c_gaps.ex⟩ (gd.mono (by decide)) tk (by rfl) (da_cons (de_var (pv 1)) da_nil) (LenM.cons LenM.nil)))
    (dss_cons (ds_if (dw_or (dt_cmpB (op_neK gd) neB_ok (de_call ⟨c_greatest_unpaid.ex⟩ (gd.mono (by decide)) tk (by rfl) (da_cons (de_var (pv 1)) da_nil) (LenM.cons LenM.nil)) (de_var (pv 2)).toB (nomark _)) (dw_or (dt_cmpB (op_neK gd) neB_ok (de_op op_mulA mulD_ok (de_call ⟨c_count_unpaid.ex⟩ (gd.mono (by decide)) tk (by rfl) (da_cons (de_var (pv 1)) da_nil) (LenM.cons LenM.nil)) de_int) (de_op op_mulA mulD_ok (de_op op_sub subD_ok (de_var (pv 5)) de_int) (de_op op_sub subD_ok (de_var (pv 6)) de_int)).toB (nomark _)) (dw_or1 (dt_cmpB (op_neK gd) neB_ok (de_op op_mulA mulD_ok (de_bf1 call_len lenD_ok T.n_len (by rfl) (de_var (pv 3)).toB) de_int) (de_op op_addA addD_ok (de_var (pv 2)) de_int).toB (nomark _))))).toT (dss_one (ds_ret de_bl)) dss_nil)
    (dss_cons (ds_for [] (passes_of rfl) rfl (di_range1 T.n_range (da_cons de_int da_nil) (LenM.cons LenM.nil)) (pg_name (i := 4) nd rfl (by first | exact Or.inl rfl | exact Or.inr rfl)) gok_name (dss_cons (ds_set (i := 7) nd rfl (by first | exact Or.inl rfl | exact Or.inr rfl) (de_if (dt_cmpB op_gt gtB_ok (de_var (pv 2)) de_int.toB (nomark _)) (de_callI ⟨c__law_draw.ex⟩ (gd.mono (by decide)) tk (by rfl) (pv 0) (da_cons (de_op op_addA addD_ok (de_var (pv 2)) de_int) da_nil) (LenM.cons LenM.nil) rfl) de_int))
    (dss_cons (ds_if (dw_and (dt_cmpB op_ge geB_ok (de_var (pv 2)) de_int.toB (nomark _)) (dw_and1 (dt_cmpB (op_eqK gd) eqB_ok (de_call ⟨c_payable.ex⟩ (gd.mono (by decide)) tk (by rfl) (da_cons (de_var (pv 1)) (da_cons (de_var (pv 7)) da_nil)) (LenM.cons (LenM.cons LenM.nil))) (de_call ⟨c_payable.ex⟩ (gd.mono (by decide)) tk (by rfl) (da_cons (de_var (pv 1)) (da_cons (de_op op_sub subD_ok (de_var (pv 2)) (de_var (pv 7))) da_nil)) (LenM.cons (LenM.cons LenM.nil))).toB (nomark _)))).toT (dss_one (ds_ret de_bl)) dss_nil)
    (dss_one (ds_if (dw_and (dt_chain op_le leD_ok op_le leD_ok de_int (de_var (pv 7)) de_int) (dw_and (dt_cmpB op_ge geB_ok (de_var (pv 2)) de_int.toB (nomark _)) (dw_and1 (dt_cmpB (op_neK gd) neB_ok (de_cmpB (op_inK gd) inB_ok (de_var (pv 7)) (de_var (pv 3)).toB (by rfl)) (de_cmpB (op_eqK gd) eqB_ok (de_ix ix_seq ixD_ok (de_call ⟨c_payment_paper.ex⟩ (gd.mono (by decide)) tk (by rfl) (da_cons (de_var (pv 1)) (da_cons (de_var (pv 7)) da_nil)) (LenM.cons (LenM.cons LenM.nil))) de_int (fun _ _ => rfl)) de_str.toB (nomark _)).toB (nomark _))))).toT (dss_one (ds_ret de_bl)) dss_nil)))))
    (dss_one (ds_ret de_bl)))))))))
theorem ok__law_three_right (T : Txt P K mg) (c__law_common : CalT P w K mg base 2 "_law_common" 1 F__law_common) (c__law_draw : CalT P w K mg base 2 "_law_draw" 2 F__law_draw) (c_greatest_unpaid : CalT P w K mg base 6 "greatest_unpaid" 1 F_greatest_unpaid) (F : Fun K "_law_three_right" "_law_three_right" st__law_three_right f fd) : FnG P w K mg base (L2.CX P w) 7 f fd ["well"] (spG K mg 1 F__law_three_right) := by
  refine fn_okG (m := m__law_three_right) F sc__law_three_right fun cdv A outer s H E gd => ?_
  have nd := sc__law_three_right.nd
  have tk : Takes (cxOf (L2.CX P w) P w K mg base N__law_three_right "_law_three_right" (defScope st__law_three_right) f cdv A outer s H E) (fun cls d _ H => E cls d H) := takes_of rfl rfl rfl rfl
  unfold m__law_three_right
  exact (dss_cons (ds_asg (pg_tup (n := 4) rfl (pgs_cons (pg_name (i := 3) nd rfl (by first | exact Or.inl rfl | exact Or.inr rfl)) (pgs_cons (pg_name (i := 4) nd rfl (by first | exact Or.inl rfl | exact Or.inr rfl)) (pgs_cons (pg_name (i := 5) nd rfl (by first | exact Or.inl rfl | exact Or.inr rfl)) (pgs_cons (pg_name (i := 6) nd rfl (by first | exact Or.inl rfl | exact Or.inr rfl)) pgs_nil))))) (gok_tup (gok_cons gok_name (gok_cons gok_name (gok_cons gok_name (gok_cons gok_name gok_nil))))) (de_tup trivial (da_cons (de_op op_addA addD_ok de_int (de_callI ⟨c__law_draw.ex⟩ (gd.mono (by decide)) tk (by rfl) (pv 0) (da_cons de_int da_nil) (LenM.cons LenM.nil) rfl)) (da_cons (de_op op_addA addD_ok de_int (de_callI ⟨c__law_draw.ex⟩ (gd.mono (by decide)) tk (by rfl) (pv 0) (da_cons de_int da_nil) (LenM.cons LenM.nil) rfl)) (da_cons (de_op op_addA addD_ok de_int (de_callI ⟨c__law_draw.ex⟩ (gd.mono (by decide)) tk (by rfl) (pv 0) (da_cons de_int da_nil) (LenM.cons LenM.nil) rfl)) (da_cons (de_op op_addA addD_ok de_int (de_callI ⟨c__law_draw.ex⟩ (gd.mono (by decide)) tk (by rfl) (pv 0) (da_cons de_int da_nil) (LenM.cons LenM.nil) rfl)) da_nil))))))
    (dss_cons (ds_if (dw_or (dt_cmpB (op_eqK gd) eqB_ok (de_var (pv 4)) (de_var (pv 5)).toB (nomark _)) (dw_or (dt_cmpB op_gt gtB_ok (de_call ⟨c__law_common.ex⟩ (gd.mono (by decide)) tk (by rfl) (da_cons (de_tup trivial (da_cons (de_var (pv 3)) (da_cons (de_var (pv 6)) da_nil))) da_nil) (LenM.cons LenM.nil)) de_int.toB (nomark _)) (dw_or (dt_cmpB op_gt gtB_ok (de_call ⟨c__law_common.ex⟩ (gd.mono (by decide)) tk (by rfl) (da_cons (de_tup trivial (da_cons (de_var (pv 4)) (da_cons (de_var (pv 5)) (da_cons (de_var (pv 6)) da_nil)))) da_nil) (LenM.cons LenM.nil)) de_int.toB (nomark _)) (dw_or1 (dt_cmpB (op_inK gd) inB_ok (de_var (pv 6)) (de_tup trivial (da_cons (de_op op_mulA mulD_ok (de_var (pv 3)) (de_var (pv 4))) (da_cons (de_op op_mulA mulD_ok (de_var (pv 3)) (de_var (pv 5))) da_nil))).toB (by rfl)))))).toT (dss_one (ds_ret de_bl)) dss_nil)
    (dss_cons (ds_set (i := 1) nd rfl (by first | exact Or.inl rfl | exact Or.inr rfl) (de_ty1 call_tuple_of tupD_ok T.n_tuple (by rfl) (df_sortedSet rfl (by rfl) T.n_sorted (by rfl) T.n_set (df_lst (da_cons (de_var (pv 4)) (da_cons (de_var (pv 5)) (da_cons (de_var (pv 6)) da_nil)))).toE.toB).toE.toB))
    (dss_cons (ds_set (i := 2) nd rfl (by first | exact Or.inl rfl | exact Or.inr rfl) (de_ty1 call_tuple_of tupD_ok T.n_tuple (by rfl) (df_bf1 cr_sortedA sortedD_ok T.n_sorted (by rfl) (df_lst (da_cons (de_op op_mulA mulD_ok (de_var (pv 3)) (de_var (pv 4))) (da_cons (de_op op_mulA mulD_ok (de_var (pv 3)) (de_var (pv 5))) (da_cons (de_var (pv 6)) da_nil)))).toE.toB).toE.toB))
    (dss_one (ds_ret (de_cmpB (op_eqK gd) eqB_ok (de_call ⟨c_greatest_unpaid.ex⟩ (gd.mono (by decide)) tk (by rfl) (da_cons (de_var (pv 2)) da_nil) (LenM.cons LenM.nil)) (de_op op_addA addD_ok (de_op op_mulA mulD_ok (de_var (pv 3)) (de_call ⟨c_greatest_unpaid.ex⟩ (gd.mono (by decide)) tk (by rfl) (da_cons (de_var (pv 1)) da_nil) (LenM.cons LenM.nil))) (de_op op_mulA mulD_ok (de_var (pv 6)) (de_op op_sub subD_ok (de_var (pv 3)) de_int))).toB (nomark _))))))))
theorem ok_first_payment (T : Txt P K mg) (c_first_for : CalT P w K mg base 3 "first_for" 2 F_first_for) (c_need_coins : CalT P w K mg base 5 "need_coins" 1 F_need_coins) (F : Fun K "first_payment" "first_payment" st_first_payment f fd) : FnG P w K mg base (L2.CX P w) 6 f fd ["coins", "n"] (spG K mg 2 F_first_payment) := by
  refine fn_okG (m := m_first_payment) F sc_first_payment fun cdv A outer s H E gd => ?_
  have nd := sc_first_payment.nd
  have tk : Takes (cxOf (L2.CX P w) P w K mg base N_first_payment "first_payment" (defScope st_first_payment) f cdv A outer s H E) (fun cls d _ H => E cls d H) := takes_of rfl rfl rfl rfl
  unfold m_first_payment
  exact (dss_cons (ds_expr (de_call ⟨c_need_coins.ex⟩ (gd.mono (by decide)) tk (by rfl) (da_cons (de_var (pv 0)) da_nil) (LenM.cons LenM.nil)))
    (dss_one (ds_ret (de_if (dt_cmpB op_ge geB_ok (de_var (pv 1)) de_int.toB (nomark _)) (de_call ⟨c_first_for.ex⟩ (gd.mono (by decide)) tk (by rfl) (da_cons (de_var (pv 0)) (da_cons (de_var (pv 1)) da_nil)) (LenM.cons (LenM.cons LenM.nil))) de_non))))
theorem ok_fewest_to (T : Txt P K mg) (F : Fun K "fewest_to" "fewest_to" st_fewest_to f fd) : FnG P w K mg base (L2.CX P w) 2 f fd ["coins", "n"] (spG K mg 2 F_fewest_to) := by
  refine fn_okG (m := m_fewest_to) F sc_fewest_to fun cdv A outer s H E gd => ?_
  have nd := sc_fewest_to.nd
  have tk : Takes (cxOf (L2.CX P w) P w K mg base N_fewest_to "fewest_to" (defScope st_fewest_to) f cdv A outer s H E) (fun cls d _ H => E cls d H) := takes_of rfl rfl rfl rfl
  unfold m_fewest_to
  exact (dss_cons (ds_setL (i := 2) nd rfl (by first | exact Or.inl rfl | exact Or.inr rfl) (df_op op_catL catD_ok (df_lst (da_cons de_int da_nil)).toE (de_op op_mulA mulD_ok (df_lst (da_cons de_non da_nil)).toE (de_var (pv 1)))))
    (dss_cons (ds_for [] (passes_of rfl) rfl (di_range2 T.n_range (da_cons de_int (da_cons (de_op op_addA addD_ok (de_var (pv 1)) de_int) da_nil)) (LenM.cons (LenM.cons LenM.nil))) (pg_name (i := 3) nd rfl (by first | exact Or.inl rfl | exact Or.inr rfl)) gok_name (dss_cons (by exact (ds_setLc (own := [("coin", 5)])  (i := 4) rfl nd rfl rfl (by exact sw_true rfl rfl rfl (by decide +kernel)) (di_val (de_var (pv 0))) (blkOk_by (own := [("coin", 5)]) (N := N_fewest_to) (sc := defScope st_fewest_to) (by first | decide +kernel | rfl)) (fun _ _ _ _ _ => (pg_name (i := 5) nd rfl (by first | exact Or.inl rfl | exact Or.inr rfl))) gok_name (by decide) (fun _ _ _ _ _ => (dts_one (dw_and (dt_cmpB op_le leB_ok (de_var (pv 5)) (de_var (pv 3)).toB (nomark _)) (dw_and1 (dt_cmpB op_notN isnB_ok (de_ixV ix_seq ixB_ok (pv 2) (de_op op_sub subD_ok (de_var (pv 3)) (de_var (pv 5))) (fun _ _ => rfl)) de_non.toB (nomark _)))).toT)) (fun _ _ _ _ _ => (de_ixV ix_seq ixB_ok (pv 2) (de_op op_sub subD_ok (de_var (pv 3)) (de_var (pv 5))) (fun _ _ => rfl)))))
    (dss_one (ds_if (dt_cmpV (op_neK gd) neB_ok (pv 4) (df_lst da_nil).toE.toB (nomark _)) (dss_one (ds_setIx (pv 2) (de_var (pv 3)) (de_op op_addA addD_ok de_int (de_bf1 (cr_minK gd rfl) minAD_ok T.n_min (by rfl) (db_var (pv 4)))))) dss_nil))))
    (dss_one (ds_retV (pv 2)))))
theorem ok_least_count (T : Txt P K mg) (c_fewest_to : CalT P w K mg base 2 "fewest_to" 2 F_fewest_to) (F : Fun K "least_count" "least_count" st_least_count f fd) : FnG P w K mg base (L2.CX P w) 3 f fd ["coins", "n"] (spG K mg 2 F_least_count) := by
  refine fn_okG (m := m_least_count) F sc_least_count fun cdv A outer s H E gd => ?_
  have nd := sc_least_count.nd
  have tk : Takes (cxOf (L2.CX P w) P w K mg base N_least_count "least_count" (defScope st_least_count) f cdv A outer s H E) (fun cls d _ H => E cls d H) := takes_of rfl rfl rfl rfl
  unfold m_least_count
  exact (dss_cons (ds_if (dt_cmpB op_lt ltB_ok (de_var (pv 1)) de_int.toB (nomark _)) (dss_one (ds_ret de_non)) dss_nil)
    (dss_cons (ds_set (i := 2) nd rfl (by first | exact Or.inl rfl | exact Or.inr rfl) (de_ix ix_seq ixD_ok (de_var (pv 0)) (de_neg de_int) (fun _ _ => rfl)))
    (dss_cons (ds_set (i := 3) nd rfl (by first | exact Or.inl rfl | exact Or.inr rfl) (de_op op_pow powD_ok (de_op op_sub subD_ok (de_var (pv 2)) de_int) de_int))
    (dss_cons (ds_set (i := 4) nd rfl (by first | exact Or.inl rfl | exact Or.inr rfl) (de_bfn (call_max2 rfl) max2D_ok T.n_max (by rfl) (da_cons de_int (da_cons (de_neg (de_op op_fdivA fdivD_ok (de_op op_sub subD_ok (de_var (pv 3)) (de_var (pv 1))) (de_var (pv 2)))) da_nil))))
    (dss_cons (ds_set (i := 5) nd rfl (by first | exact Or.inl rfl | exact Or.inr rfl) (de_ix ix_seq ixD_ok (de_call ⟨c_fewest_to.ex⟩ (gd.mono (by decide)) tk (by rfl) (da_cons (de_var (pv 0)) (da_cons (de_op op_sub subD_ok (de_var (pv 1)) (de_op op_mulA mulD_ok (de_var (pv 4)) (de_var (pv 2)))) da_nil)) (LenM.cons (LenM.cons LenM.nil))) (de_neg de_int) (fun _ _ => rfl)))
    (dss_one (ds_ret (de_if (dt_cmpB op_isN isB_ok (de_var (pv 5)) de_non.toB (nomark _)) de_non (de_op op_addA addD_ok (de_var (pv 5)) (de_var (pv 4)))))))))))
theorem ok_fewest (T : Txt P K mg) (c_least_count : CalT P w K mg base 3 "least_count" 2 F_least_count) (c_need_coins : CalT P w K mg base 5 "need_coins" 1 F_need_coins) (F : Fun K "fewest" "fewest" st_fewest f fd) : FnG P w K mg base (L2.CX P w) 6 f fd ["coins", "n"] (spG K mg 2 F_fewest) := by
  refine fn_okG (m := m_fewest) F sc_fewest fun cdv A outer s H E gd => ?_
  have nd := sc_fewest.nd
  have tk : Takes (cxOf (L2.CX P w) P w K mg base N_fewest "fewest" (defScope st_fewest) f cdv A outer s H E) (fun cls d _ H => E cls d H) := takes_of rfl rfl rfl rfl
  unfold m_fewest
  exact (dss_cons (ds_expr (de_call ⟨c_need_coins.ex⟩ (gd.mono (by decide)) tk (by rfl) (da_cons (de_var (pv 0)) da_nil) (LenM.cons LenM.nil)))
    (dss_one (ds_ret (de_call ⟨c_least_count.ex⟩ (gd.mono (by decide)) tk (by rfl) (da_cons (de_var (pv 0)) (da_cons (de_var (pv 1)) da_nil)) (LenM.cons (LenM.cons LenM.nil))))))
theorem ok__law_times_right (T : Txt P K mg) (c__law_coins : CalT P w K mg base 3 "_law_coins" 1 F__law_coins) (c__law_draw : CalT P w K mg base 2 "_law_draw" 2 F__law_draw) (c_fewest : CalT P w K mg base 6 "fewest" 2 F_fewest) (c_first_payment : CalT P w K mg base 6 "first_payment" 2 F_first_payment) (c_payable : CalT P w K mg base 6 "payable" 2 F_payable) (F : Fun K "_law_times_right" "_law_times_right" st__law_times_right f fd) : FnG P w K mg base (L2.CX P w) 7 f fd ["well"] (spG K mg 1 F__law_times_right) := by
  refine fn_okG (m := m__law_times_right) F sc__law_times_right fun cdv A outer s H E gd => ?_
  have nd := sc__law_times_right.nd
  have tk : Takes (cxOf (L2.CX P w) P w K mg base N__law_times_right "_law_times_right" (defScope st__law_times_right) f cdv A outer s H E) (fun cls d _ H => E cls d H) := takes_of rfl rfl rfl rfl
  unfold m__law_times_right
  exact (dss_cons (ds_set (i := 1) nd rfl (by first | exact Or.inl rfl | exact Or.inr rfl) (de_op op_addA addD_ok de_int (de_callI ⟨c__law_draw.ex⟩ (gd.mono (by decide)) tk (by rfl) (pv 0) (da_cons de_int da_nil) (LenM.cons LenM.nil) rfl)))
    (dss_cons (ds_set (i := 2) nd rfl (by first | exact Or.inl rfl | exact Or.inr rfl) (de_ty1 call_tuple_of tupD_ok T.n_tuple (by rfl) (df_lc (own := [("coin", 6)]) rfl nd (di_val (de_callI ⟨c__law_coins.ex⟩ (gd.mono (by decide)) tk (by rfl) (pv 0) da_nil LenM.nil rfl)) (blkOk_by (own := [("coin", 6)]) (N := N__law_times_right) (sc := defScope st__law_times_right) (by first | decide +kernel | rfl)) (fun _ _ _ _ _ => (pg_name (i := 6) nd rfl (by first | exact Or.inl rfl | exact Or.inr rfl))) gok_name (by decide) (fun _ _ _ _ _ => (dts_one (dt_cmpB op_le leB_ok (de_op op_mulA mulD_ok (de_var (pv 6)) (de_var (pv 1))) de_int.toB (nomark _)))) (fun _ _ _ _ _ => (de_var (pv 6)))).toE.toB))
    (dss_cons (ds_set (i := 2) nd rfl (by first | exact Or.inl rfl | exact Or.inr rfl) (de_if (dt_cmpB (op_neK gd) neB_ok (de_var (pv 2)) (de_tup trivial da_nil).toB (nomark _)) (de_var (pv 2)) (de_tup trivial (da_cons de_int (da_cons de_int da_nil)))))
    (dss_cons (ds_set (i := 3) nd rfl (by first | exact Or.inl rfl | exact Or.inr rfl) (de_ty1 call_tuple_of tupD_ok T.n_tuple (by rfl) (df_lc (own := [("coin", 6)]) rfl nd (di_val (de_var (pv 2))) (blkOk_by (own := [("coin", 6)]) (N := N__law_times_right) (sc := defScope st__law_times_right) (by first | decide +kernel | rfl)) (fun _ _ _ _ _ => (pg_name (i := 6) nd rfl (by first | exact Or.inl rfl | exact Or.inr rfl))) gok_name (by decide) (fun _ _ _ _ _ => dts_nil) (fun _ _ _ _ _ => (de_op op_mulA mulD_ok (de_var (pv 1)) (de_var (pv 6))))).toE.toB))
    (dss_cons (ds_for [] (passes_of rfl) rfl (di_range1 T.n_range (da_cons de_int da_nil) (LenM.cons LenM.nil)) (pg_name (i := 4) nd rfl (by first | exact Or.inl rfl | exact Or.inr rfl)) gok_name (dss_cons (ds_set (i := 5) nd rfl (by first | exact Or.inl rfl | exact Or.inr rfl) (de_callI ⟨c__law_draw.ex⟩ (gd.mono (by decide)) tk (by rfl) (pv 0) (da_cons de_int da_nil) (LenM.cons LenM.nil) rfl))
    (dss_cons (ds_if (dw_or (dt_cmpB (op_neK gd) neB_ok (de_call ⟨c_payable.ex⟩ (gd.mono (by decide)) tk (by rfl) (da_cons (de_var (pv 3)) (da_cons (de_op op_mulA mulD_ok (de_var (pv 1)) (de_var (pv 5))) da_nil)) (LenM.cons (LenM.cons LenM.nil))) (de_call ⟨c_payable.ex⟩ (gd.mono (by decide)) tk (by rfl) (da_cons (de_var (pv 2)) (da_cons (de_var (pv 5)) da_nil)) (LenM.cons (LenM.cons LenM.nil))).toB (nomark _)) (dw_or1 (dt_cmpB (op_neK gd) neB_ok (de_call ⟨c_first_payment.ex⟩ (gd.mono (by decide)) tk (by rfl) (da_cons (de_var (pv 3)) (da_cons (de_op op_mulA mulD_ok (de_var (pv 1)) (de_var (pv 5))) da_nil)) (LenM.cons (LenM.cons LenM.nil))) (de_call ⟨c_first_payment.ex⟩ (gd.mono (by decide)) tk (by rfl) (da_cons (de_var (pv 2)) (da_cons (de_var (pv 5)) da_nil)) (LenM.cons (LenM.cons LenM.nil))).toB (nomark _)))).toT (dss_one (ds_ret de_bl)) dss_nil)
    (dss_one (ds_if (dw_or (dt_cmpB (op_neK gd) neB_ok (de_call ⟨c_fewest.ex⟩ (gd.mono (by decide)) tk (by rfl) (da_cons (de_var (pv 3)) (da_cons (de_op op_mulA mulD_ok (de_var (pv 1)) (de_var (pv 5))) da_nil)) (LenM.cons (LenM.cons LenM.nil))) (de_call ⟨c_fewest.ex⟩ (gd.mono (by decide)) tk (by rfl) (da_cons (de_var (pv 2)) (da_cons (de_var (pv 5)) da_nil)) (LenM.cons (LenM.cons LenM.nil))).toB (nomark _)) (dw_or1 (dw_and (dt_cmpB (op_neK gd) neB_ok (de_op op_modN modD_ok (de_ty1 call_int1 intD_ok T.n_int (by rfl) (de_var (pv 5)).toB) (de_var (pv 1))) de_int.toB (nomark _)) (dw_and1 (dt_val (de_call ⟨c_payable.ex⟩ (gd.mono (by decide)) tk (by rfl) (da_cons (de_var (pv 3)) (da_cons (de_var (pv 5)) da_nil)) (LenM.cons (LenM.cons LenM.nil))).toB))).toT)).toT (dss_one (ds_ret de_bl)) dss_nil)))))
    (dss_one (ds_ret de_bl)))))))
theorem ok_law (T : Txt P K mg) (c__law_coins : CalT P w K mg base 3 "_law_coins" 1 F__law_coins) (c__law_draw : CalT P w K mg base 2 "_law_draw" 2 F__law_draw) (c__law_three_right : CalT P w K mg base 7 "_law_three_right" 1 F__law_three_right) (c__law_times_right : CalT P w K mg base 7 "_law_times_right" 1 F__law_times_right) (c__law_two_right : CalT P w K mg base 7 "_law_two_right" 1 F__law_two_right) (c__law_well : CalT P w K mg base 2 "_law_well" 2 F__law_well) (c_fewest : CalT P w K mg base 6 "fewest" 2 F_fewest) (c_payable : CalT P w K mg base 6 "payable" 2 F_payable) (F : Fun K "law" "law" st_law f fd) : FnG P w K mg base (L2.CX P w) 8 f fd ["script"] (spG K mg 1 F_law) := by
  refine fn_okG (m := m_law) F sc_law fun cdv A outer s H E gd => ?_
  have nd := sc_law.nd
  have tk : Takes (cxOf (L2.CX P w) P w K mg base N_law "law" (defScope st_law) f cdv A outer s H E) (fun cls d _ H => E cls d H) := takes_of rfl rfl rfl rfl
  unfold m_law
  exact (dss_cons (ds_for [] (passes_of rfl) rfl (di_range1 T.n_range (da_cons (de_bfn (call_max2 rfl) max2D_ok T.n_max (by rfl) (da_cons de_int (da_cons (de_bfn (call_min2 rfl) min2D_ok T.n_min (by rfl) (da_cons de_int (da_cons (de_bf1 call_len lenD_ok T.n_len (by rfl) (de_var (pv 0)).toB) da_nil))) da_nil))) da_nil) (LenM.cons LenM.nil)) (pg_name (i := 1) nd rfl (by first | exact Or.inl rfl | exact Or.inr rfl)) gok_name (dss_cons (ds_setL (i := 2) nd rfl (by first | exact Or.inl rfl | exact Or.inr rfl) (df_call ⟨c__law_well.ex⟩ (gd.mono (by decide)) tk (by rfl) (da_cons (de_var (pv 0)) (da_cons (de_var (pv 1)) da_nil)) (LenM.cons (LenM.cons LenM.nil))))
    (dss_cons (ds_if (dw_or (dt_not (dt_val (de_callI ⟨c__law_two_right.ex⟩ (gd.mono (by decide)) tk (by rfl) (pv 2) da_nil LenM.nil rfl).toB)) (dw_or (dt_not (dt_val (de_callI ⟨c__law_three_right.ex⟩ (gd.mono (by decide)) tk (by rfl) (pv 2) da_nil LenM.nil rfl).toB)) (dw_or1 (dt_not (dt_val (de_callI ⟨c__law_times_right.ex⟩ (gd.mono (by decide)) tk (by rfl) (pv 2) da_nil LenM.nil rfl).toB))))).toT (dss_one (ds_ret de_bl)) dss_nil)
    (dss_cons (ds_set (i := 3) nd rfl (by first | exact Or.inl rfl | exact Or.inr rfl) (de_sl (de_callI ⟨c__law_coins.ex⟩ (gd.mono (by decide)) tk (by rfl) (pv 2) da_nil LenM.nil rfl) do_none (do_some de_int)))
    (dss_cons (ds_set (i := 4) nd rfl (by first | exact Or.inl rfl | exact Or.inr rfl) (de_ty1 call_tuple_of tupD_ok T.n_tuple (by rfl) (df_sortedSet rfl (by rfl) T.n_sorted (by rfl) T.n_set (de_op op_addA addD_ok (de_var (pv 3)) (de_tup trivial (da_cons (de_op op_addA addD_ok de_int (de_callI ⟨c__law_draw.ex⟩ (gd.mono (by decide)) tk (by rfl) (pv 2) (da_cons de_int da_nil) (LenM.cons LenM.nil) rfl)) da_nil))).toB).toE.toB))
    (dss_one (ds_for [] (passes_of rfl) rfl (di_range1 T.n_range (da_cons de_int da_nil) (LenM.cons LenM.nil)) (pg_name (i := 5) nd rfl (by first | exact Or.inl rfl | exact Or.inr rfl)) gok_name (dss_cons (ds_set (i := 6) nd rfl (by first | exact Or.inl rfl | exact Or.inr rfl) (de_callI ⟨c__law_draw.ex⟩ (gd.mono (by decide)) tk (by rfl) (pv 2) (da_cons de_int da_nil) (LenM.cons LenM.nil) rfl))
    (dss_cons (ds_if (dw_and (dt_val (de_call ⟨c_payable.ex⟩ (gd.mono (by decide)) tk (by rfl) (da_cons (de_var (pv 3)) (da_cons (de_var (pv 6)) da_nil)) (LenM.cons (LenM.cons LenM.nil))).toB) (dw_and1 (dt_not (dt_val (de_call ⟨c_payable.ex⟩ (gd.mono (by decide)) tk (by rfl) (da_cons (de_var (pv 4)) (da_cons (de_var (pv 6)) da_nil)) (LenM.cons (LenM.cons LenM.nil))).toB)))).toT (dss_one (ds_ret de_bl)) dss_nil)
    (dss_one (ds_if (dw_and (dt_val (de_call ⟨c_payable.ex⟩ (gd.mono (by decide)) tk (by rfl) (da_cons (de_var (pv 3)) (da_cons (de_var (pv 6)) da_nil)) (LenM.cons (LenM.cons LenM.nil))).toB) (dw_and1 (dt_cmpB op_gt gtB_ok (de_call ⟨c_fewest.ex⟩ (gd.mono (by decide)) tk (by rfl) (da_cons (de_var (pv 4)) (da_cons (de_var (pv 6)) da_nil)) (LenM.cons (LenM.cons LenM.nil))) (de_call ⟨c_fewest.ex⟩ (gd.mono (by decide)) tk (by rfl) (da_cons (de_var (pv 3)) (da_cons (de_var (pv 6)) da_nil)) (LenM.cons (LenM.cons LenM.nil))).toB (nomark _)))).toT (dss_one (ds_ret de_bl)) dss_nil)))))))))))
    (dss_one (ds_ret de_bl)))
end
end G45
end
section
set_option Elab.async false
set_option linter.all false
set_option maxRecDepth 100000
namespace L2.DL
open PySem
set_option autoImplicit false
/-! ### comprehensions and loops over lists of any kind, told in data -/
section
variable {α σ : Type} {η : EnvD} {gm : PyData → EnvD → Option EnvD} {mt : MX Bool} {me : MX PyData} {vs : List Nat} {ms : MX Fl}
theorem cF' {enc out : α → PyData} {p : α → Bool} {e : α → EnvD} (h1 : ∀ a, gm (enc a) η = some (e a)) (h4 : ∀ a, wipeE vs (e a) = η) : ∀ (L : List α) (acc : List PyData), acc.length + L.length ≤ sizeLine →
    (∀ a ∈ L, mt (e a) = some (.ok (p a), e a)) → (∀ a ∈ L, p a = true → me (e a) = some (.ok (out a), e a)) → compM gm mt me vs (L.map enc) acc η = some (.ok (acc ++ (L.filter p).map out), η) := by
  intro L
  induction L with
  | nil => intro acc _ _ _; simp [compM, mPure]
  | cons a L ih =>
    intro acc hl h2 h3
    rw [List.length_cons] at hl
    have i2 := fun b hb => h2 b (List.mem_cons_of_mem _ hb)
    have i3 := fun b hb => h3 b (List.mem_cons_of_mem _ hb)
    simp only [List.map_cons, compM, h1 a, h2 a List.mem_cons_self]
    cases hp : p a with
    | false =>
      simp only [h4 a]
      rw [ih acc (by omega) i2 i3, List.filter_cons, hp]
      simp
    | true =>
      simp only [h3 a List.mem_cons_self hp, h4 a]
      rw [if_pos (by omega), ih _ (by simp; omega) i2 i3, List.filter_cons, hp]
      simp
theorem cF {L : List α} {enc out : α → PyData} {p : α → Bool} {e : α → EnvD} (h1 : ∀ a, gm (enc a) η = some (e a)) (h4 : ∀ a, wipeE vs (e a) = η) (hl : L.length ≤ sizeLine)
    (h2 : ∀ a ∈ L, mt (e a) = some (.ok (p a), e a)) (h3 : ∀ a ∈ L, p a = true → me (e a) = some (.ok (out a), e a)) :
    compM gm mt me vs (L.map enc) [] η = some (.ok ((L.filter p).map out), η) := by
  have := cF' (mt := mt) (me := me) h1 h4 L [] (by simpa using hl) h2 h3
  simpa using this
theorem cA' {enc out : α → PyData} {e : α → EnvD} (h1 : ∀ a, gm (enc a) η = some (e a)) (h4 : ∀ a, wipeE vs (e a) = η) (L : List α) (acc : List PyData) (hl : acc.length + L.length ≤ sizeLine)
    (h3 : ∀ a ∈ L, me (e a) = some (.ok (out a), e a)) : compM gm (mPure true) me vs (L.map enc) acc η = some (.ok (acc ++ L.map out), η) := by
  have := cF' (mt := mPure true) (p := fun _ => true) h1 h4 L acc hl (fun a _ => rfl) (fun a ha _ => h3 a ha)
  rw [List.filter_eq_self.mpr (by simp)] at this
  exact this
theorem cA {L : List α} {enc out : α → PyData} {e : α → EnvD} (h1 : ∀ a, gm (enc a) η = some (e a)) (h4 : ∀ a, wipeE vs (e a) = η) (hl : L.length ≤ sizeLine)
    (h3 : ∀ a ∈ L, me (e a) = some (.ok (out a), e a)) : compM gm (mPure true) me vs (L.map enc) [] η = some (.ok (L.map out), η) := by
  have := cF (mt := mPure true) (p := fun _ => true) h1 h4 hl (fun a _ => rfl) (fun a ha _ => h3 a ha)
  rw [List.filter_eq_self.mpr (by simp)] at this
  exact this
/-- a whole comprehension -/
theorem compA {L : List α} {enc out : α → PyData} {e : α → EnvD} {mi : MX (List PyData)} {η0 η1 : EnvD} (hi : mi η0 = some (.ok (L.map enc), η1)) (hw : wipeE vs η1 = η) (h1 : ∀ a, gm (enc a) η = some (e a)) (h4 : ∀ a, wipeE vs (e a) = η) (hl : L.length ≤ sizeLine)
    (h3 : ∀ a ∈ L, me (e a) = some (.ok (out a), e a)) : mComp mi gm (mPure true) me vs η0 = some (.ok (L.map out), η) := e_comp hi (by rw [hw]; exact cA h1 h4 hl h3)
theorem compF {L : List α} {enc out : α → PyData} {p : α → Bool} {e : α → EnvD} {mi : MX (List PyData)} {η0 η1 : EnvD} (hi : mi η0 = some (.ok (L.map enc), η1)) (hw : wipeE vs η1 = η) (h1 : ∀ a, gm (enc a) η = some (e a)) (h4 : ∀ a, wipeE vs (e a) = η) (hl : L.length ≤ sizeLine)
    (h2 : ∀ a ∈ L, mt (e a) = some (.ok (p a), e a)) (h3 : ∀ a ∈ L, p a = true → me (e a) = some (.ok (out a), e a)) : mComp mi gm mt me vs η0 = some (.ok ((L.filter p).map out), η) := e_comp hi (by rw [hw]; exact cF h1 h4 hl h2 h3)
/-- two clauses, all kept -/
theorem c2A {β : Type} {gm1 : PyData → EnvD → Option EnvD} {vs1 : List Nat} {mi1 : MX (List PyData)} {enc : α → PyData} {M : α → List β} {enc2 : β → PyData} {out : α → β → PyData} {e : α → EnvD} {f : α → β → EnvD}
    (h1 : ∀ a, gm (enc a) η = some (e a)) (h4 : ∀ a, wipeE vs (e a) = η) (h5 : ∀ a, wipeE vs1 (e a) = e a) (h6 : ∀ a b, gm1 (enc2 b) (e a) = some (f a b)) (h7 : ∀ a b, wipeE vs1 (f a b) = e a) : ∀ (L : List α) (acc : List PyData),
    (acc.length + (L.flatMap M).length ≤ sizeLine) → (∀ a ∈ L, mi1 (e a) = some (.ok ((M a).map enc2), e a)) → (∀ a ∈ L, ∀ b ∈ M a, me (f a b) = some (.ok (out a b), f a b)) →
    comp2M gm (mPure true) mi1 gm1 (mPure true) me vs vs1 (L.map enc) acc η = some (.ok (acc ++ L.flatMap fun a => (M a).map (out a)), η) := by
  intro L
  induction L with
  | nil => intro acc _ _ _; simp [comp2M, mPure]
  | cons a L ih =>
    intro acc hl h2 h3
    rw [List.flatMap_cons, List.length_append] at hl
    have i2 := fun b hb => h2 b (List.mem_cons_of_mem _ hb)
    have i3 := fun b hb => h3 b (List.mem_cons_of_mem _ hb)
    have c := cA' (gm := gm1) (me := me) (vs := vs1) (enc := enc2) (out := out a) (e := f a) (η := e a) (fun b => h6 a b) (fun b => h7 a b) (M a) acc (by omega) (h3 a List.mem_cons_self)
    simp only [List.map_cons, comp2M, h1 a, show (mPure true : MX Bool) (e a) = some (.ok true, e a) from rfl, h2 a List.mem_cons_self, h5 a, c, h4 a]
    rw [ih (acc ++ (M a).map (out a)) (by rw [List.length_append, List.length_map]; omega) i2 i3]
    simp
/-- a loop: what holds of the items done -/
theorem loopP {L : List α} {enc : α → PyData} (I : List α → EnvD → Prop) (step : ∀ pre a post η, L = pre ++ a :: post → I pre η → ∃ η1 η2, gm (enc a) η = some η1 ∧ ms η1 = some (.ok .nx, η2) ∧ I (pre ++ [a]) η2) {η : EnvD} (h0 : I [] η) :
    ∃ η', loopM gm ms [] (L.map enc) η = some (.ok .nx, η') ∧ I L η' := by
  suffices h : ∀ (post pre : List α) (η : EnvD), L = pre ++ post → I pre η → ∃ η', loopM gm ms [] (post.map enc) η = some (.ok .nx, η') ∧ I L η' from h L [] η rfl h0
  intro post
  induction post with
  | nil => intro pre η e hI; exact ⟨η, rfl, by rw [e, List.append_nil]; exact hI⟩
  | cons a post ih =>
    intro pre η e hI
    obtain ⟨η1, η2, e1, e2, e3⟩ := step pre a post η e hI
    obtain ⟨η', e4, e5⟩ := ih (pre ++ [a]) η2 (by rw [e]; simp) e3
    exact ⟨η', loop_cons e1 e2 e4, e5⟩
/-- a loop that ends with the first item of a kind -/
theorem loopS {L : List α} {enc : α → PyData} (p : α → Bool) (r : α → RV) (I : EnvD → Prop)
    (step : ∀ a ∈ L, ∀ η, I η → ∃ η1, gm (enc a) η = some η1 ∧ (p a = false → ∃ η2, ms η1 = some (.ok .nx, η2) ∧ I η2) ∧ (p a = true → ∃ η2, ms η1 = some (.ok (.rt (r a)), η2))) : ∀ {η : EnvD}, I η →
    (∀ a, L.find? p = some a → ∃ η', loopM gm ms [] (L.map enc) η = some (.ok (.rt (r a)), η')) ∧ (L.find? p = none → ∃ η', loopM gm ms [] (L.map enc) η = some (.ok .nx, η') ∧ I η') := by
  induction L with
  | nil => intro η h; exact ⟨fun a e => by simp at e, fun _ => ⟨η, rfl, h⟩⟩
  | cons a L ih =>
    intro η h
    obtain ⟨η1, e1, hf, ht⟩ := step a List.mem_cons_self η h
    cases hp : p a with
    | true =>
      obtain ⟨η2, e2⟩ := ht hp
      refine ⟨fun b e => ?_, fun e => by simp [List.find?_cons, hp] at e⟩
      rw [List.find?_cons, hp] at e
      cases e
      exact ⟨η2, loop_consR e1 e2⟩
    | false =>
      obtain ⟨η2, e2, i2⟩ := hf hp
      obtain ⟨i3, i4⟩ := ih (fun b hb => step b (List.mem_cons_of_mem _ hb)) i2
      rw [List.find?_cons, hp]
      exact ⟨fun b e => by obtain ⟨η', e3⟩ := i3 b e; exact ⟨η', loop_cons e1 e2 e3⟩, fun e => by obtain ⟨η', e3, e4⟩ := i4 e; exact ⟨η', loop_cons e1 e2 e3, e4⟩⟩
/-- a comprehension whose turns change the slots: what holds behind each -/
theorem compI {L : List α} {enc : α → PyData} (I : List α → List PyData → EnvD → Prop) (hl : L.length ≤ sizeLine)
    (step : ∀ pre a post acc η, L = pre ++ a :: post → I pre acc η → ∃ η1 η2 y, gm (enc a) η = some η1 ∧ me η1 = some (.ok y, η2) ∧ I (pre ++ [a]) (acc ++ [y]) (wipeE vs η2)) {η : EnvD} (h0 : I [] [] η) :
    ∃ acc η', compM gm (mPure true) me vs (L.map enc) [] η = some (.ok acc, η') ∧ I L acc η' ∧ acc.length = L.length := by
  suffices h : ∀ (post pre : List α) (acc : List PyData) (η : EnvD), L = pre ++ post → acc.length = pre.length → I pre acc η → ∃ acc' η', compM gm (mPure true) me vs (post.map enc) acc η = some (.ok acc', η') ∧ I L acc' η' ∧ acc'.length = L.length from h L [] [] η rfl rfl h0
  intro post
  induction post with
  | nil => intro pre acc η e hk hI; exact ⟨acc, η, rfl, by rw [e, List.append_nil]; exact hI, by rw [e, List.append_nil]; exact hk⟩
  | cons a post ih =>
    intro pre acc η e hk hI
    obtain ⟨η1, η2, y, e1, e2, e3⟩ := step pre a post acc η e hI
    obtain ⟨acc', η', e4, e5⟩ := ih (pre ++ [a]) (acc ++ [y]) (wipeE vs η2) (by rw [e]; simp) (by simp [hk]) e3
    refine ⟨acc', η', ?_, e5⟩
    have hlt : acc.length < sizeLine := by
      have : L.length = pre.length + (post.length + 1) := by rw [e]; simp
      omega
    simp only [List.map_cons, compM, e1, mPure, e2]
    rw [if_pos hlt]
    exact e4
end
/-! ### slots -/
def NT (v : Option Slot) : Prop := ∀ ds, v ≠ some (.own true ds)
theorem nt_v {d : PyData} : NT (some (.val d)) := fun ds e => by cases e
theorem nt_o {ds : List PyData} : NT (some (.own false ds)) := fun ds e => by cases e
theorem nt_n : NT none := fun ds e => by cases e
theorem sto {i : Nat} {s : Slot} {η : EnvD} {v : Option Slot} (h : η[i]? = some v) (hv : NT v) : stO i s η = some (η.set i (some s)) := by
  unfold stO
  split
  · rename_i ds e; rw [h] at e; exact absurd (Option.some.inj e) (hv ds)
  · rfl
theorem gtup2 {i j : Nat} {x y : PyData} {η : EnvD} {v w : Option Slot} (h : η[i]? = some v) (hv : NT v) (h2 : η[j]? = some w) (hw : NT w) (hij : i ≠ j) :
    gTupD 2 (gConsD (gV i) (gConsD (gV j) gNilD)) (.tuple [x, y]) η = some ((η.set i (some (.val x))).set j (some (.val y))) := by
  show ((stO i (.val x) η).bind fun η1 => (stO j (.val y) η1).bind (gNilD [])) = _
  rw [sto h hv]
  show (stO j (.val y) (η.set i (some (.val x)))).bind (gNilD []) = _
  rw [sto (v := w) (by rw [List.getElem?_set_ne hij]; exact h2) hw]
  rfl
/-! ### data of ints -/
abbrev tI (x : List Int) : PyData := .tuple (x.map .int)
theorem ints_app (ps : List Int) (x : Int) : ps.map PyData.int ++ [PyData.int x] = (ps ++ [x]).map .int := by rw [List.map_append]; rfl
theorem sum_e (ns : List Int) : sumLD (.list (ns.map .int)) = some (.int ns.sum) := by
  show (intsD (ns.map .int)).bind _ = _; rw [intsD_map]; rfl
theorem max_e {ns : List Int} (h : ns ≠ []) : maxLD (.list (ns.map .int)) = some (.int (maxI ns)) := by
  show (intsD (ns.map .int)).bind _ = _; rw [intsD_map]; exact if_pos h
theorem all_e (bs : List Bool) : allD (.list (bs.map .bool)) = some (.bool (bs.all id)) := by
  show (boolsD (bs.map .bool)).map _ = _; rw [boolsD_map]; rfl
theorem allL_e {α : Type} (L : List α) (f : α → Bool) : allD (.list (L.map fun a => .bool (f a))) = some (.bool (L.all f)) := by
  have := all_e (L.map f)
  rw [List.map_map, List.all_map] at this
  exact this
theorem any_e (bs : List Bool) : anyD (.list (bs.map .bool)) = some (.bool (bs.any id)) := by
  show (boolsD (bs.map .bool)).map _ = _; rw [boolsD_map]; rfl
theorem anyL_e {α : Type} (L : List α) (f : α → Bool) : anyD (.list (L.map fun a => .bool (f a))) = some (.bool (L.any f)) := by
  have := any_e (L.map f)
  rw [List.map_map, List.any_map] at this
  exact this
theorem app_any {ds : List PyData} {x : PyData} (h : ds.length < 100000) : appendD ds [x] = some (.none, ds ++ [x]) := by
  unfold appendD
  simp only
  rw [if_pos (by rw [sizeLine_eq]; omega)]
theorem app_ok {ps : List Int} {x : Int} (h : ps.length < 100000) : appendD (ps.map .int) [.int x] = some (.none, (ps ++ [x]).map .int) := by
  rw [app_any (by simpa using h), ints_app]
theorem small {n : Nat} (h : n ≤ 100000) : n ≤ sizeLine := by rw [sizeLine_eq]; omega
theorem range2 {i j : Int} (h1 : -1000000000 < i) (h2 : i < 1000000000) (h3 : -1000000000 < j) (h4 : j < 1000000000) : rangeD [.int i, .int j] = some (rngL i (j - i).toNat) := if_pos ⟨⟨by omega, by omega⟩, ⟨by omega, by omega⟩⟩
theorem range1 {j : Int} (h3 : -1000000000 < j) (h4 : j < 1000000000) : rangeD [.int j] = some (rngL 0 j.toNat) := if_pos ⟨by omega, by omega⟩
theorem eqD_nil {ds : List PyData} (h : SeqAt.shaped (.list ds) = true) : eqD (.list ds) (.list []) = some (.bool ds.isEmpty) := by
  unfold eqD
  rw [if_pos ⟨h, rfl⟩]
  cases ds <;> simp [PyData.eqv, PyData.eqvAll]
def Flat (k : Nat) (d : PyData) : Prop := d.depth ≤ k ∧ d.canLay0 = true
theorem flat_int {i : Int} : Flat 0 (.int i) := ⟨Nat.le_refl _, rfl⟩
theorem flat_none : Flat 0 .none := ⟨Nat.le_refl _, rfl⟩
theorem flat_bool {b : Bool} : Flat 0 (.bool b) := ⟨Nat.le_refl _, rfl⟩
theorem Flat.le {k k' : Nat} {d : PyData} (h : Flat k d) (hk : k ≤ k') : Flat k' d := ⟨Nat.le_trans h.1 hk, h.2⟩
theorem flat_all {k : Nat} : ∀ {ds : List PyData}, (∀ d ∈ ds, Flat k d) → PyData.depthAll ds ≤ k ∧ PyData.canLayAll0 ds = true
  | [], _ => ⟨Nat.zero_le _, rfl⟩
  | d :: ds, h => by
    have h1 := h d List.mem_cons_self
    have h2 := flat_all fun e he => h e (List.mem_cons_of_mem _ he)
    refine ⟨?_, ?_⟩
    · show max d.depth (PyData.depthAll ds) ≤ k
      have := h1.1
      have := h2.1
      omega
    · show (d.canLay0 && PyData.canLayAll0 ds) = true
      rw [h1.2, h2.2]; rfl
theorem flat_tup {k : Nat} {ds : List PyData} (h : ∀ d ∈ ds, Flat k d) : Flat (k + 1) (.tuple ds) := by
  obtain ⟨h1, h2⟩ := flat_all h
  exact ⟨by show PyData.depthAll ds + 1 ≤ k + 1; omega, h2⟩
theorem flat_list {k : Nat} {ds : List PyData} (h : ∀ d ∈ ds, Flat k d) : Flat (k + 1) (.list ds) := by
  obtain ⟨h1, h2⟩ := flat_all h
  exact ⟨by show PyData.depthAll ds + 1 ≤ k + 1; omega, h2⟩
theorem flat_tI (x : List Int) : Flat 1 (tI x) := flat_tup fun d hd => by
  obtain ⟨i, _, rfl⟩ := List.mem_map.mp hd
  exact flat_int
theorem Flat.shaped {k : Nat} {d : PyData} (h : Flat k d) (hk : k ≤ 64) : SeqAt.shaped d = true := by
  unfold SeqAt.shaped
  rw [h.2, decide_eq_true (Nat.le_trans h.1 hk)]; rfl
/-! ### plain data that repr shows -/
section
variable {L : Nat}
def Pl (L k w : Nat) (d : PyData) : Prop := d.depth ≤ k ∧ numOk L d = true ∧ bulk L d ≤ w
theorem pl_int {i : Int} (h : i.natAbs < 10 ^ L) : Pl L 0 (L + 8) (.int i) := ⟨Nat.le_refl _, decide_eq_true h, Nat.le_refl _⟩
theorem pl_none : Pl L 0 (L + 8) .none := ⟨Nat.le_refl _, rfl, Nat.le_refl _⟩
theorem pl_bool {b : Bool} : Pl L 0 (L + 8) (.bool b) := ⟨Nat.le_refl _, rfl, Nat.le_refl _⟩
theorem Pl.le {k w k' w' : Nat} {d : PyData} (h : Pl L k w d) (hk : k ≤ k') (hw : w ≤ w') : Pl L k' w' d := ⟨Nat.le_trans h.1 hk, h.2.1, Nat.le_trans h.2.2 hw⟩
theorem pl_all {k w : Nat} : ∀ {ds : List PyData}, (∀ d ∈ ds, Pl L k w d) → PyData.depthAll ds ≤ k ∧ numAll L ds = true ∧ bulkAll L ds ≤ ds.length * (w + 2)
  | [], _ => ⟨Nat.zero_le _, rfl, Nat.zero_le _⟩
  | d :: ds, h => by
    have h1 := h d List.mem_cons_self
    have h2 := pl_all fun e he => h e (List.mem_cons_of_mem _ he)
    refine ⟨?_, ?_, ?_⟩
    · show max d.depth (PyData.depthAll ds) ≤ k
      have := h1.1
      have := h2.1
      omega
    · show (numOk L d && numAll L ds) = true
      rw [h1.2.1, h2.2.1]; rfl
    · show bulk L d + 2 + bulkAll L ds ≤ (ds.length + 1) * (w + 2)
      have := h1.2.2
      have := h2.2.2
      rw [Nat.add_mul]
      omega
theorem pl_tup {k w n : Nat} {ds : List PyData} (h : ∀ d ∈ ds, Pl L k w d) (hn : ds.length ≤ n) : Pl L (k + 1) (n * (w + 2) + 4) (.tuple ds) := by
  obtain ⟨h1, h2, h3⟩ := pl_all h
  have := Nat.mul_le_mul_right (w + 2) hn
  exact ⟨by show PyData.depthAll ds + 1 ≤ k + 1; omega, h2, by show bulkAll L ds + 4 ≤ _; omega⟩
theorem pl_list {k w n : Nat} {ds : List PyData} (h : ∀ d ∈ ds, Pl L k w d) (hn : ds.length ≤ n) : Pl L (k + 1) (n * (w + 2) + 4) (.list ds) := by
  obtain ⟨h1, h2, h3⟩ := pl_all h
  have := Nat.mul_le_mul_right (w + 2) hn
  exact ⟨by show PyData.depthAll ds + 1 ≤ k + 1; omega, h2, by show bulkAll L ds + 4 ≤ _; omega⟩
theorem pl_tI {x : List Int} {n : Nat} (h : ∀ v ∈ x, v.natAbs < 10 ^ L) (hn : x.length ≤ n) : Pl L 1 (n * (L + 10) + 4) (tI x) := pl_tup (w := L + 8) (fun d hd => by
  obtain ⟨i, hi, rfl⟩ := List.mem_map.mp hd
  exact pl_int (h i hi)) (by simpa using hn)
theorem Pl.rep {k w : Nat} {d : PyData} (h : Pl L k w d) (hk : k ≤ 64) (hw : w ≤ 16777216) (h0 : 0 < L) (hL : L ≤ 500) : reprD d = some (.str d.shown) ∧ PyData.strOk d.shown = true :=
  ⟨rep_ok h0 hL h.2.1 (Nat.le_trans h.1 hk) (Nat.le_trans h.2.2 hw), (num_shown h0 d h.2.1).2⟩
theorem Pl.flat {k w : Nat} {d : PyData} (h : Pl L k w d) (hL : L ≤ 500) : Flat k d := ⟨h.1, (num_flags hL d h.2.1).2.2⟩
end
/-! ### calls -/
theorem vals_ok : ∀ ds : List PyData, (valsE ds).all okA = true
  | [] => rfl
  | d :: ds => by show (true && (valsE ds).all okA) = true; rw [vals_ok ds]; rfl
theorem fnV_run {N n : Nat} {ms : MX Fl} {ds : List PyData} {rv : RV} (hl : ds.length = n) (hn : n ≤ N) (h : ∃ η1, ms (valsE ds ++ List.replicate (N - n) none) = some (.ok (.rt rv), η1)) : fnV (runF N n ms) ds = some (.ok rv) := by
  obtain ⟨η1, h⟩ := h
  exact fnV_of (f_runR (by unfold valsE; simpa using hl) (vals_ok ds) hn h)
theorem fnV_runN {N n : Nat} {ms : MX Fl} {ds : List PyData} (hl : ds.length = n) (hn : n ≤ N) (h : ∃ η1, ms (valsE ds ++ List.replicate (N - n) none) = some (.ok .nx, η1)) : fnV (runF N n ms) ds = some (.ok (.d .none)) := by
  obtain ⟨η1, h⟩ := h
  exact fnV_of (f_runN (by unfold valsE; simpa using hl) (vals_ok ds) hn h)
theorem sumL_e {α : Type} (L : List α) (f : α → Int) : sumLD (.list (L.map fun a => .int (f a))) = some (.int (L.map f).sum) := by
  have := sum_e (L.map f)
  rw [List.map_map] at this
  exact this
theorem maxL_e {α : Type} (L : List α) (f : α → Int) (h : L ≠ []) : maxLD (.list (L.map fun a => .int (f a))) = some (.int (maxI (L.map f))) := by
  have := max_e (ns := L.map f) (by simpa using h)
  rw [List.map_map] at this
  exact this
theorem allT_e {α : Type} (L : List α) : allD (.list (L.map fun _ => .bool true)) = some (.bool true) := by
  have := allL_e L (fun _ => true)
  rw [show (L.all fun _ => true) = true by simp] at this
  exact this
theorem tup_e {xs : List PyData} (h : xs.length ≤ 100000) : (if xs.length ≤ sizeLine then some (PyData.tuple xs) else none) = some (.tuple xs) := if_pos (small h)
theorem lst_e {xs : List PyData} (h : xs.length ≤ 100000) : (if xs.length ≤ sizeLine then some xs else none) = some xs := if_pos (small h)
theorem isi_tup {ds : List PyData} : isiD "tuple" (.tuple ds) = some (.bool true) := rfl
theorem isi_int {i : Int} : isiD "int" (.int i) = some (.bool true) := rfl
theorem isi_ib {i : Int} : isiD "bool" (.int i) = some (.bool false) := rfl
theorem len_t {ds : List PyData} : lenD (.tuple ds) = some (.int (ds.length : Nat)) := rfl
theorem len_l {ds : List PyData} : lenD (.list ds) = some (.int (ds.length : Nat)) := rfl
theorem tru_b {b : Bool} : truD (.bool b) = some b := rfl
theorem it_t {ds : List PyData} : itemsD (.tuple ds) = some ds := rfl
theorem it_l {ds : List PyData} : itemsD (.list ds) = some ds := rfl
theorem tupD_l {ds : List PyData} : tupD (.list ds) = some (.tuple ds) := rfl
/-- the first turn may change the slots, the others not -/
theorem cF1 {α : Type} {η0 η ε1 ε2 : EnvD} {gm : PyData → EnvD → Option EnvD} {mt : MX Bool} {me : MX PyData} {vs : List Nat} {a : α} {L : List α} {enc out : α → PyData} {p : α → Bool} {e : α → EnvD} (g1 : gm (enc a) η0 = some ε1) (g2 : mt ε1 = some (.ok (p a), ε2)) (g3 : wipeE vs ε2 = η) (g4 : p a = true → me ε2 = some (.ok (out a), ε2))
    (h1 : ∀ a, gm (enc a) η = some (e a)) (h4 : ∀ a, wipeE vs (e a) = η) (hl : (a :: L).length ≤ sizeLine)
    (h2 : ∀ b ∈ L, mt (e b) = some (.ok (p b), e b)) (h3 : ∀ b ∈ L, p b = true → me (e b) = some (.ok (out b), e b)) :
    compM gm mt me vs ((a :: L).map enc) [] η0 = some (.ok (((a :: L).filter p).map out), η) := by
  rw [List.length_cons] at hl
  simp only [List.map_cons, compM, g1, g2]
  cases hp : p a with
  | false =>
    simp only [g3]
    have := cF' (mt := mt) (me := me) h1 h4 L [] (by simp; omega) h2 h3
    rw [this, List.filter_cons, hp]
    simp
  | true =>
    simp only [g4 hp, g3]
    rw [if_pos (by simp; omega)]
    have := cF' (mt := mt) (me := me) h1 h4 L [out a] (by simp; omega) h2 h3
    rw [List.nil_append, this, List.filter_cons, hp]
    simp
theorem maxI_mem : ∀ {ns : List Int}, ns ≠ [] → maxI ns ∈ ns
  | [], h => absurd rfl h
  | [x], _ => by simp [maxI]
  | x :: y :: r, _ => by
    have := maxI_mem (ns := y :: r) (by simp)
    show max x (maxI (y :: r)) ∈ _
    rcases Int.le_total x (maxI (y :: r)) with h | h
    · rw [Int.max_eq_right h]; exact List.mem_cons_of_mem _ this
    · rw [Int.max_eq_left h]; exact List.mem_cons_self
theorem maxI_ge : ∀ {ns : List Int} {v : Int}, v ∈ ns → v ≤ maxI ns
  | [x], v, h => by rw [List.mem_singleton] at h; subst h; exact Int.le_refl _
  | x :: y :: r, v, h => by
    show v ≤ max x (maxI (y :: r))
    rcases List.mem_cons.mp h with rfl | h
    · exact Int.le_max_left _ _
    · exact Int.le_trans (maxI_ge h) (Int.le_max_right _ _)
theorem eqD_tnil {ds : List PyData} (h : SeqAt.shaped (.tuple ds) = true) : eqD (.tuple ds) (.tuple []) = some (.bool ds.isEmpty) := by
  unfold eqD
  rw [if_pos ⟨h, rfl⟩]
  cases ds <;> rfl
end L2.DL
end
section
set_option Elab.async false
set_option linter.all false
set_option maxRecDepth 100000
namespace L2.DL
open PySem
set_option autoImplicit false
/-! ### data that repr shows, texts among them -/
def Sh (k w : Nat) (d : PyData) : Prop := d.depth ≤ k ∧ d.showable = true ∧ d.hasDict = false ∧ d.canLay0 = true ∧ d.shown.length ≤ w ∧ PyData.strOk d.shown = true
theorem Pl.sh {L k w : Nat} {d : PyData} (h : Pl L k w d) (h0 : 0 < L) (hL : L ≤ 500) : Sh k w d := by
  obtain ⟨h1, h2, h3⟩ := num_flags hL d h.2.1
  obtain ⟨h4, h5⟩ := num_shown h0 d h.2.1
  exact ⟨h.1, h1, h2, h3, Nat.le_trans h4 h.2.2, h5⟩
theorem Sh.le {k w k' w' : Nat} {d : PyData} (h : Sh k w d) (hk : k ≤ k') (hw : w ≤ w') : Sh k' w' d := ⟨Nat.le_trans h.1 hk, h.2.1, h.2.2.1, h.2.2.2.1, Nat.le_trans h.2.2.2.2.1 hw, h.2.2.2.2.2⟩
theorem sh_all {k w : Nat} : ∀ {ds : List PyData}, (∀ d ∈ ds, Sh k w d) → PyData.depthAll ds ≤ k ∧ PyData.showableAll ds = true ∧ PyData.hasDictAll ds = false ∧ PyData.canLayAll0 ds = true ∧ piled (PyData.shownAll ds) ≤ ds.length * (w + 2) ∧ ∀ t ∈ PyData.shownAll ds, PyData.strOk t = true
  | [], _ => ⟨Nat.zero_le _, rfl, rfl, rfl, (show 0 ≤ 0 * (w + 2) from Nat.zero_le _), fun t h => by cases h⟩
  | d :: ds, h => by
    obtain ⟨a1, a2, a3, a4, a5, a6⟩ := h d List.mem_cons_self
    obtain ⟨b1, b2, b3, b4, b5, b6⟩ := sh_all fun e he => h e (List.mem_cons_of_mem _ he)
    refine ⟨?_, ?_, ?_, ?_, ?_, fun t ht => ?_⟩
    · show max d.depth (PyData.depthAll ds) ≤ k; omega
    · show (d.showable && PyData.showableAll ds) = true; rw [a2, b2]; rfl
    · show (d.hasDict || PyData.hasDictAll ds) = false; rw [a3, b3]; rfl
    · show (d.canLay0 && PyData.canLayAll0 ds) = true; rw [a4, b4]; rfl
    · show piled (d.shown :: PyData.shownAll ds) ≤ (ds.length + 1) * (w + 2)
      rw [piled_cons, Nat.add_mul]; omega
    · have ht : t ∈ d.shown :: PyData.shownAll ds := ht
      rcases List.mem_cons.mp ht with e | e
      · subst e; exact a6
      · exact b6 t e
theorem sh_tup {k w n : Nat} {ds : List PyData} (h : ∀ d ∈ ds, Sh k w d) (hn : ds.length ≤ n) : Sh (k + 1) (n * (w + 2) + 4) (.tuple ds) := by
  obtain ⟨b1, b2, b3, b4, b5, b6⟩ := sh_all h
  have := Nat.mul_le_mul_right (w + 2) hn
  refine ⟨by show PyData.depthAll ds + 1 ≤ k + 1; omega, b2, b3, b4, ?_, strOk_app (strOk_app (strOk_of "(") (strOk_join _ b6)) (strOk_of _)⟩
  show (tupleText (PyData.shownAll ds)).length ≤ _
  have := tup_len (PyData.shownAll ds)
  omega
theorem sh_list {k w n : Nat} {ds : List PyData} (h : ∀ d ∈ ds, Sh k w d) (hn : ds.length ≤ n) : Sh (k + 1) (n * (w + 2) + 4) (.list ds) := by
  obtain ⟨b1, b2, b3, b4, b5, b6⟩ := sh_all h
  have := Nat.mul_le_mul_right (w + 2) hn
  refine ⟨by show PyData.depthAll ds + 1 ≤ k + 1; omega, b2, b3, b4, ?_, strOk_app (strOk_from _ 0 _ b6 (strOk_of "[")) (strOk_of "]")⟩
  show (listText (PyData.shownAll ds)).length ≤ _
  have := list_len (PyData.shownAll ds)
  omega
theorem Sh.rep {k w : Nat} {d : PyData} (h : Sh k w d) (hk : k ≤ 64) (hw : w ≤ 16777216) : reprD d = some (.str d.shown) := by
  unfold reprD
  rw [if_pos ⟨h.2.1, h.2.2.1, Nat.le_trans h.1 hk, by rw [sizeLine_eq]; exact Nat.le_trans h.2.2.2.2.1 hw⟩]
theorem Sh.ok {k w : Nat} {d : PyData} (h : Sh k w d) : PyData.strOk d.shown = true := h.2.2.2.2.2
theorem Sh.flat {k w : Nat} {d : PyData} (h : Sh k w d) : Flat k d := ⟨h.1, h.2.2.2.1⟩
theorem sh_point : Sh 0 7 (.str "point") := ⟨by decide +kernel, by decide +kernel, by decide +kernel, by decide +kernel, by decide +kernel, by decide +kernel⟩
theorem sh_rows : Sh 0 6 (.str "rows") := ⟨by decide +kernel, by decide +kernel, by decide +kernel, by decide +kernel, by decide +kernel, by decide +kernel⟩
theorem cut_to {α : Type} (xs : List α) (k : Nat) : cutD xs none (some (k : Int)) = xs.take k := by
  unfold cutD
  rw [HT.sIx_nat, HT.sIx_none]
  simp
theorem cut_from {α : Type} (xs : List α) (k : Nat) : cutD xs (some (k : Int)) none = xs.drop k := by
  unfold cutD
  rw [HT.sIx_nat, HT.sIx_none]
  rcases Nat.le_total k xs.length with h | h
  · rw [Nat.min_eq_left h, List.take_of_length_le (by simp)]
  · rw [Nat.min_eq_right h, List.drop_of_length_le (Nat.le_refl _), List.drop_of_length_le h]
    simp
/-- all kept; the first turn may change the slots -/
theorem cA1 {α : Type} {η0 η ε1 ε2 : EnvD} {gm : PyData → EnvD → Option EnvD} {me : MX PyData} {vs : List Nat} {a : α} {L : List α} {enc out : α → PyData} {e : α → EnvD} (g1 : gm (enc a) η0 = some ε1) (g2 : me ε1 = some (.ok (out a), ε2)) (g3 : wipeE vs ε2 = η)
    (h1 : ∀ a, gm (enc a) η = some (e a)) (h4 : ∀ a, wipeE vs (e a) = η) (hl : (a :: L).length ≤ sizeLine) (h3 : ∀ b ∈ L, me (e b) = some (.ok (out b), e b)) :
    compM gm (mPure true) me vs ((a :: L).map enc) [] η0 = some (.ok ((a :: L).map out), η) := by
  rw [List.length_cons] at hl
  have c := cA' (me := me) h1 h4 L [out a] (by simp; omega) h3
  simp only [List.map_cons, compM, g1, show (mPure true : MX Bool) ε1 = some (.ok true, ε1) from rfl, g2, g3]
  rw [if_pos (by simp; omega), List.nil_append, c]
  simp
end L2.DL
namespace L2.DL
open PySem
set_option autoImplicit false
/-- a comprehension whose turns and tests change the slots -/
theorem compIF {α : Type} {gm : PyData → EnvD → Option EnvD} {mt : MX Bool} {me : MX PyData} {vs : List Nat} {L : List α} {enc : α → PyData} (I : List α → List PyData → EnvD → Prop) (hl : L.length ≤ sizeLine)
    (step : ∀ pre a post acc η, L = pre ++ a :: post → I pre acc η → ∃ η1 b η2, gm (enc a) η = some η1 ∧ mt η1 = some (.ok b, η2) ∧ (b = true → ∃ y η3, me η2 = some (.ok y, η3) ∧ I (pre ++ [a]) (acc ++ [y]) (wipeE vs η3)) ∧ (b = false → I (pre ++ [a]) acc (wipeE vs η2))) {η : EnvD} (h0 : I [] [] η) :
    ∃ acc η', compM gm mt me vs (L.map enc) [] η = some (.ok acc, η') ∧ I L acc η' := by
  suffices h : ∀ (post pre : List α) (acc : List PyData) (η : EnvD), L = pre ++ post → acc.length ≤ pre.length → I pre acc η → ∃ acc' η', compM gm mt me vs (post.map enc) acc η = some (.ok acc', η') ∧ I L acc' η' from h L [] [] η rfl (Nat.le_refl _) h0
  intro post
  induction post with
  | nil => intro pre acc η e hk hI; exact ⟨acc, η, rfl, by rw [e, List.append_nil]; exact hI⟩
  | cons a post ih =>
    intro pre acc η e hk hI
    obtain ⟨η1, b, η2, e1, e2, ht, hf⟩ := step pre a post acc η e hI
    have hlt : acc.length < sizeLine := by
      have : L.length = pre.length + (post.length + 1) := by rw [e]; simp
      omega
    cases b with
    | true =>
      obtain ⟨y, η3, e3, i3⟩ := ht rfl
      obtain ⟨acc', η', e4, e5⟩ := ih (pre ++ [a]) (acc ++ [y]) (wipeE vs η3) (by rw [e]; simp) (by simp; omega) i3
      refine ⟨acc', η', ?_, e5⟩
      simp only [List.map_cons, compM, e1, e2, e3]
      rw [if_pos hlt]
      exact e4
    | false =>
      obtain ⟨acc', η', e4, e5⟩ := ih (pre ++ [a]) acc (wipeE vs η2) (by rw [e]; simp) (by simp; omega) (hf rfl)
      refine ⟨acc', η', ?_, e5⟩
      simp only [List.map_cons, compM, e1, e2]
      exact e4
/-- a loop over data -/
theorem loopD {gm : PyData → EnvD → Option EnvD} {ms : MX Fl} {L : List PyData} (I : EnvD → Prop) (step : ∀ d ∈ L, ∀ η, I η → ∃ η1 η2, gm d η = some η1 ∧ ms η1 = some (.ok .nx, η2) ∧ I η2) {η : EnvD} (h0 : I η) :
    ∃ η', loopM gm ms [] L η = some (.ok .nx, η') ∧ I η' := by
  have := loopP (L := L) (enc := fun d => d) (gm := gm) (ms := ms) (fun _ => I) (fun pre a post η e h => step a (by rw [e]; simp) η h) h0
  rwa [show L.map (fun d => d) = L by simp] at this
theorem eqvAll_ints : ∀ x y : List Int, PyData.eqvAll (x.map .int) (y.map .int) = decide (x = y)
  | [], [] => rfl
  | [], _ :: _ => rfl
  | _ :: _, [] => rfl
  | a :: x, b :: y => by
    show ((a == b) && PyData.eqvAll (x.map .int) (y.map .int)) = _
    rw [eqvAll_ints x y, Bool.eq_iff_iff]
    simp
end L2.DL
namespace L2.DL
open PySem
set_option autoImplicit false
theorem fnV_runX {N n : Nat} {ms : MX Fl} {ds : List PyData} {nm : Str} {d : PyData} (hl : ds.length = n) (hn : n ≤ N) (h : ∃ η1, ms (valsE ds ++ List.replicate (N - n) none) = some (.exc nm d, η1)) : fnV (runF N n ms) ds = some (.exc nm d) := by
  obtain ⟨η1, h⟩ := h
  exact fnV_of (f_runX (by unfold valsE; simpa using hl) (vals_ok ds) hn h)
end L2.DL
end
section
set_option Elab.async false
set_option linter.all false
set_option maxRecDepth 100000
namespace P41
set_option autoImplicit false
/-! ### what coins pay -/
inductive Pay (C : List Nat) : Nat → Prop
  | zero : Pay C 0
  | add {n c : Nat} (h : Pay C n) (hc : c ∈ C) : Pay C (n + c)
section
variable {C : List Nat}
theorem pay_plus {m n : Nat} (h : Pay C m) (h2 : Pay C n) : Pay C (m + n) := by
  induction h2 with
  | zero => exact h
  | add _ hc ih => rw [← Nat.add_assoc]; exact .add ih hc
theorem pay_times {c : Nat} (h : c ∈ C) : ∀ t : Nat, Pay C (t * c)
  | 0 => by rw [Nat.zero_mul]; exact .zero
  | t + 1 => by rw [Nat.succ_mul]; exact .add (pay_times h t) h
theorem pay_div {g n : Nat} (hg : ∀ c ∈ C, g ∣ c) (h : Pay C n) : g ∣ n := by
  induction h with
  | zero => exact Nat.dvd_zero _
  | add _ hc ih => exact Nat.dvd_add ih (hg _ hc)
/-! ### the table of what is paid -/
variable (C) in
def ptab : Nat → List Bool
  | 0 => [true]
  | n + 1 => ptab n ++ [C.any fun c => decide (c ≤ n + 1) && (ptab n).getD (n + 1 - c) false]
variable (C) in
def pb (n : Nat) : Bool := (ptab C n).getD n false
theorem ptab_len : ∀ n, (ptab C n).length = n + 1
  | 0 => rfl
  | n + 1 => by show (ptab C n ++ [_]).length = _; rw [List.length_append, ptab_len n]; rfl
theorem ptab_get : ∀ {n i : Nat}, i ≤ n → (ptab C n)[i]? = some (pb C i)
  | 0, i, h => by
    have : i = 0 := by omega
    subst this; rfl
  | n + 1, i, h => by
    have e : ∀ j, j ≤ n + 1 → (ptab C (n + 1))[j]? = if j ≤ n then (ptab C n)[j]? else (ptab C (n + 1))[j]? := fun j hj => by
      by_cases h2 : j ≤ n
      · rw [if_pos h2]
        show (ptab C n ++ [_])[j]? = _
        rw [List.getElem?_append_left (by rw [ptab_len]; omega)]
      · rw [if_neg h2]
    by_cases h2 : i ≤ n
    · rw [e i h, if_pos h2]; exact ptab_get h2
    · have : i = n + 1 := by omega
      subst this
      unfold pb
      rw [List.getD_eq_getElem?_getD, List.getElem?_eq_getElem (by rw [ptab_len]; omega)]
      rfl
theorem pb_zero : pb C 0 = true := rfl
theorem pb_succ (hp : ∀ c ∈ C, 1 ≤ c) (n : Nat) : pb C (n + 1) = C.any fun c => decide (c ≤ n + 1) && pb C (n + 1 - c) := by
  unfold pb
  rw [List.getD_eq_getElem?_getD]
  show ((ptab C n ++ [_])[n + 1]?).getD false = _
  rw [List.getElem?_append_right (by rw [ptab_len]; omega), ptab_len, Nat.sub_self]
  show (C.any _) = _
  rw [Bool.eq_iff_iff, List.any_eq_true, List.any_eq_true]
  constructor
  · rintro ⟨c, hc, h⟩
    refine ⟨c, hc, ?_⟩
    rw [Bool.and_eq_true, decide_eq_true_eq] at h ⊢
    refine ⟨h.1, ?_⟩
    have := hp c hc
    rw [List.getD_eq_getElem?_getD, ptab_get (by omega)] at h
    exact h.2
  · rintro ⟨c, hc, h⟩
    refine ⟨c, hc, ?_⟩
    rw [Bool.and_eq_true, decide_eq_true_eq] at h ⊢
    refine ⟨h.1, ?_⟩
    have := hp c hc
    rw [List.getD_eq_getElem?_getD, ptab_get (by omega)]
    exact h.2
theorem pb_iff (hp : ∀ c ∈ C, 1 ≤ c) : ∀ n, pb C n = true ↔ Pay C n := by
  intro n
  induction n using Nat.strongRecOn with
  | ind n ih =>
    cases n with
    | zero => exact ⟨fun _ => .zero, fun _ => rfl⟩
    | succ n =>
      rw [pb_succ hp, List.any_eq_true]
      constructor
      · rintro ⟨c, hc, h⟩
        rw [Bool.and_eq_true, decide_eq_true_eq] at h
        have h1 := hp c hc
        have := (ih (n + 1 - c) (by omega)).mp h.2
        have e : n + 1 - c + c = n + 1 := by omega
        rw [← e]
        exact .add this hc
      · intro h
        obtain ⟨m, hm⟩ : ∃ m, m = n + 1 := ⟨_, rfl⟩
        rw [← hm] at h
        cases h with
        | zero => omega
        | @add k c h hc =>
          have h1 := hp c hc
          refine ⟨c, hc, ?_⟩
          rw [Bool.and_eq_true, decide_eq_true_eq]
          refine ⟨by omega, ?_⟩
          have e : n + 1 - c = k := by omega
          rw [e]
          exact (ih k (by omega)).mpr h
/-! ### the least by remainders -/
variable (C) in
def IsL (a r : Nat) : Option Nat → Prop
  | none => ∀ m, Pay C m → m % a ≠ r
  | some n => Pay C n ∧ n % a = r ∧ ∀ m, Pay C m → m % a = r → n ≤ m
theorem isL_one {a r : Nat} : ∀ {o o' : Option Nat}, IsL C a r o → IsL C a r o' → o = o'
  | none, none, _, _ => rfl
  | none, some n, h, h' => absurd h'.2.1 (h n h'.1)
  | some n, none, h, h' => absurd h.2.1 (h' n h.1)
  | some n, some m, h, h' => by
    have := h.2.2 m h'.1 h'.2.1
    have := h'.2.2 n h.1 h.2.1
    congr 1
    omega
variable (C) in
def LT (a : Nat) (f : List (Option Nat)) : Prop := f.length = a ∧ ∀ r, r < a → IsL C a r (f.getD r none)
theorem lt_one {a : Nat} {f g : List (Option Nat)} (h : LT C a f) (h' : LT C a g) : f = g := by
  refine List.ext_getElem (h.1.trans h'.1.symm) fun r h1 h2 => ?_
  have e := isL_one (h.2 r (by have := h.1; omega)) (h'.2 r (by have := h.1; omega))
  rw [List.getD_eq_getElem?_getD, List.getD_eq_getElem?_getD, List.getElem?_eq_getElem h1, List.getElem?_eq_getElem h2] at e
  exact e
/-- paid: at least the least of the class -/
theorem pay_iff {a n : Nat} {o : Option Nat} (ha : a ∈ C) (h : IsL C a (n % a) o) : Pay C n ↔ ∃ k, o = some k ∧ k ≤ n := by
  cases o with
  | none => exact ⟨fun p => absurd rfl (h n p), fun ⟨k, e, _⟩ => by cases e⟩
  | some k =>
    refine ⟨fun p => ⟨k, rfl, h.2.2 n p rfl⟩, fun ⟨k', e, le⟩ => ?_⟩
    cases e
    have d := Nat.div_add_mod n a
    have d2 := Nat.div_add_mod k a
    have hm := h.2.1
    have : n = k + (n / a - k / a) * a := by
      have h3 : k / a ≤ n / a := Nat.div_le_div_right le
      have h4 : (n / a - k / a) * a = n / a * a - k / a * a := Nat.sub_mul ..
      have h5 : k / a * a ≤ n / a * a := Nat.mul_le_mul_right a h3
      rw [h4]
      have c1 := Nat.mul_comm a (n / a)
      have c2 := Nat.mul_comm a (k / a)
      omega
    rw [this]
    exact pay_plus h.1 (pay_times ha _)
end
end P41
end
section
set_option Elab.async false
set_option linter.all false
set_option maxRecDepth 100000
namespace P41
set_option autoImplicit false
/-! ### the pile and the numbers found -/
section
variable {C : List Nat} {a M : Nat}
def setl (f : List (Option Nat)) : Nat := (f.filter Option.isSome).length
structure Dj (C : List Nat) (a M : Nat) (f : List (Option Nat)) (pile : List (Nat × Nat)) : Prop where
  len : f.length = a
  fp : ∀ (r n : Nat), f[r]? = some (some n) → Pay C n ∧ n % a = r ∧ ∀ m, Pay C m → m % a = r → n ≤ m
  pp : ∀ p ∈ pile, Pay C p.1 ∧ p.1 % a = p.2
  zero : (∃ n, f[0]? = some (some n)) ∨ (0, 0) ∈ pile
  step : ∀ (r n c : Nat), f[r]? = some (some n) → c ∈ C → (∃ k, f[(n + c) % a]? = some (some k)) ∨ (n + c, (n + c) % a) ∈ pile
  bp : ∀ p ∈ pile, p.1 ≤ setl f * M
  bf : ∀ (r n : Nat), f[r]? = some (some n) → n + M ≤ setl f * M
theorem Dj.near {f : List (Option Nat)} {pile : List (Nat × Nat)} (I : Dj C a M f pile) {m : Nat} (h : Pay C m) : (∃ k, f[m % a]? = some (some k) ∧ k ≤ m) ∨ ∃ p ∈ pile, p.1 ≤ m := by
  induction h with
  | zero =>
    rw [Nat.zero_mod]
    rcases I.zero with ⟨n, h⟩ | h
    · exact .inl ⟨n, h, (I.fp 0 n h).2.2 0 .zero (Nat.zero_mod a)⟩
    · exact .inr ⟨_, h, Nat.le_refl _⟩
  | @add n c h hc ih =>
    rcases ih with ⟨k, e, le⟩ | ⟨p, hp, le⟩
    · have hk := (I.fp _ k e).2.1
      have em : (k + c) % a = (n + c) % a := by rw [Nat.add_mod, hk, ← Nat.add_mod]
      rcases I.step _ k c e hc with ⟨k', e'⟩ | h'
      · rw [em] at e'
        exact .inl ⟨k', e', (I.fp _ k' e').2.2 _ (.add h hc) rfl⟩
      · exact .inr ⟨_, h', by show k + c ≤ n + c; omega⟩
    · exact .inr ⟨p, hp, by omega⟩
/-- all done: the table -/
theorem Dj.done {f : List (Option Nat)} (I : Dj C a M f []) : LT C a f := by
  refine ⟨I.len, fun r hr => ?_⟩
  have hl := I.len
  rw [List.getD_eq_getElem?_getD, List.getElem?_eq_getElem (by omega)]
  show IsL C a r f[r]
  cases hf : f[r] with
  | none =>
    intro m hm e
    rcases I.near hm with ⟨k, e', _⟩ | ⟨p, hp, _⟩
    · rw [e, List.getElem?_eq_getElem (by omega), hf] at e'
      cases e'
    · cases hp
  | some n => exact I.fp r n (by rw [List.getElem?_eq_getElem (by omega), hf])
theorem Dj.bound {f : List (Option Nat)} (I : Dj C a M f []) {r n : Nat} (h : f.getD r none = some n) : n + M ≤ a * M := by
  have e : f[r]? = some (some n) := by
    rw [List.getD_eq_getElem?_getD] at h
    cases hx : f[r]? with
    | none => rw [hx] at h; cases h
    | some o => rw [hx] at h; rw [← h]; rfl
  have b := I.bf r n e
  have s : setl f ≤ a := by
    rw [← I.len]
    exact List.length_filter_le _ _
  have := Nat.mul_le_mul_right M s
  omega
theorem mem_erase {α : Type} : ∀ {l : List α} {j : Nat} {p q : α}, l[j]? = some p → q ∈ l → q = p ∨ q ∈ l.eraseIdx j
  | [], _, _, _, _, h => by cases h
  | x :: l, 0, p, q, e, h => by
    cases e
    rcases List.mem_cons.mp h with h | h
    · exact .inl h
    · exact .inr h
  | x :: l, j + 1, p, q, e, h => by
    rcases List.mem_cons.mp h with h | h
    · exact .inr (by rw [h]; exact List.mem_cons_self)
    · rcases mem_erase (l := l) e h with h | h
      · exact .inl h
      · exact .inr (List.mem_cons_of_mem _ h)
theorem len_erase {α : Type} : ∀ {l : List α} {j : Nat} {p : α}, l[j]? = some p → (l.eraseIdx j).length + 1 = l.length
  | [], _, _, e => by cases e
  | x :: l, 0, p, e => rfl
  | x :: l, j + 1, p, e => by
    show (x :: l.eraseIdx j).length + 1 = (x :: l).length
    rw [List.length_cons, List.length_cons, len_erase (l := l) e]
/-- the least of the pile is found already -/
theorem Dj.old {f : List (Option Nat)} {pile : List (Nat × Nat)} (I : Dj C a M f pile) {j : Nat} {p : Nat × Nat} (e : pile[j]? = some p) {n : Nat} (h : f[p.2]? = some (some n)) : Dj C a M f (pile.eraseIdx j) where
  len := I.len
  fp := I.fp
  pp := fun q hq => I.pp q (List.mem_of_mem_eraseIdx hq)
  zero := by
    rcases I.zero with h0 | h0
    · exact .inl h0
    · rcases mem_erase e h0 with h1 | h1
      · rw [← h1] at h
        exact .inl ⟨n, h⟩
      · exact .inr h1
  step := fun r m c hr hc => by
    rcases I.step r m c hr hc with h0 | h0
    · exact .inl h0
    · rcases mem_erase e h0 with h1 | h1
      · rw [← h1] at h
        exact .inl ⟨n, h⟩
      · exact .inr h1
  bp := fun q hq => I.bp q (List.mem_of_mem_eraseIdx hq)
  bf := I.bf
/-- what is put on the pile -/
def push (a : Nat) (f : List (Option Nat)) (n r : Nat) : List Nat → List (Nat × Nat) → List (Nat × Nat)
  | [], pile => pile
  | c :: cs, pile => push a f n r cs (if f[(r + c) % a]? = some none ∧ (n + c, (r + c) % a) ∉ pile then pile ++ [(n + c, (r + c) % a)] else pile)
theorem push_old {f : List (Option Nat)} {n r : Nat} {p : Nat × Nat} : ∀ {cs : List Nat} {pile : List (Nat × Nat)}, p ∈ pile → p ∈ push a f n r cs pile
  | [], _, h => h
  | c :: cs, pile, h => push_old (cs := cs) (by
    split
    · exact List.mem_append_left _ h
    · exact h)
theorem push_new {f : List (Option Nat)} {n r c : Nat} : ∀ {cs : List Nat} {pile : List (Nat × Nat)}, c ∈ cs → f[(r + c) % a]? = some none → (n + c, (r + c) % a) ∈ push a f n r cs pile
  | [], _, h, _ => by cases h
  | d :: cs, pile, h, e => by
    rcases List.mem_cons.mp h with h | h
    · subst h
      refine push_old (cs := cs) ?_
      split
      · simp
      · rename_i hn
        exact Classical.byContradiction fun z => hn ⟨e, z⟩
    · exact push_new (cs := cs) h e
theorem push_mem {f : List (Option Nat)} {n r : Nat} {p : Nat × Nat} : ∀ {cs : List Nat} {pile : List (Nat × Nat)}, p ∈ push a f n r cs pile → p ∈ pile ∨ ∃ c ∈ cs, p = (n + c, (r + c) % a)
  | [], _, h => .inl h
  | d :: cs, pile, h => by
    rcases push_mem (cs := cs) h with h | ⟨c, hc, e⟩
    · split at h
      · rcases List.mem_append.mp h with h | h
        · exact .inl h
        · exact .inr ⟨d, List.mem_cons_self, List.mem_singleton.mp h⟩
      · exact .inl h
    · exact .inr ⟨c, List.mem_cons_of_mem _ hc, e⟩
theorem push_len {f : List (Option Nat)} {n r : Nat} : ∀ (cs : List Nat) (pile : List (Nat × Nat)), (push a f n r cs pile).length ≤ pile.length + cs.length
  | [], _ => Nat.le_refl _
  | d :: cs, pile => by
    have := push_len (f := f) (n := n) (r := r) cs (if f[(r + d) % a]? = some none ∧ (n + d, (r + d) % a) ∉ pile then pile ++ [(n + d, (r + d) % a)] else pile)
    show (push a f n r cs _).length ≤ _
    rw [List.length_cons]
    split at this
    · rename_i h
      rw [if_pos h]
      rw [List.length_append, List.length_singleton] at this
      omega
    · rename_i h
      rw [if_neg h]
      omega
theorem setl_set : ∀ {f : List (Option Nat)} {r n : Nat}, f[r]? = some none → setl (f.set r (some n)) = setl f + 1
  | [], _, _, h => by cases h
  | o :: f, 0, n, h => by
    cases h
    rfl
  | o :: f, r + 1, n, h => by
    have ih := setl_set (f := f) (r := r) (n := n) h
    unfold setl at ih ⊢
    show ((o :: f.set r (some n)).filter _).length = _
    cases o with
    | none => simpa using ih
    | some k => simpa using ih
/-- the least of the pile is new -/
theorem Dj.new {f : List (Option Nat)} {pile : List (Nat × Nat)} (I : Dj C a M f pile) (hM : ∀ c ∈ C, c ≤ M) {j : Nat} {p : Nat × Nat} (e : pile[j]? = some p) (low : ∀ q ∈ pile, p.1 ≤ q.1) (h : f[p.2]? = some none) :
    Dj C a M (f.set p.2 (some p.1)) (push a (f.set p.2 (some p.1)) p.1 p.2 C (pile.eraseIdx j)) := by
  have pm := List.mem_of_getElem? e
  obtain ⟨pp, pr⟩ := I.pp p pm
  have lt : p.2 < f.length := (List.getElem?_eq_some_iff.mp h).1
  have self : (f.set p.2 (some p.1))[p.2]? = some (some p.1) := List.getElem?_set_self lt
  have st := setl_set (n := p.1) h
  have other : ∀ {r n : Nat}, (f.set p.2 (some p.1))[r]? = some (some n) → (r = p.2 ∧ n = p.1) ∨ f[r]? = some (some n) := fun {r n} hr => by
    by_cases hh : r = p.2
    · subst hh
      rw [self] at hr
      exact .inl ⟨rfl, ((Option.some.inj (Option.some.inj hr))).symm⟩
    · rw [List.getElem?_set_ne (fun z => hh z.symm)] at hr
      exact .inr hr
  have stay : ∀ {r n : Nat}, f[r]? = some (some n) → (f.set p.2 (some p.1))[r]? = some (some n) := fun {r n} hr => by
    by_cases hh : r = p.2
    · subst hh; rw [h] at hr; cases hr
    · rw [List.getElem?_set_ne (fun z => hh z.symm)]; exact hr
  have em : ∀ c, (p.2 + c) % a = (p.1 + c) % a := fun c => by rw [← pr, Nat.mod_add_mod]
  have low2 : ∀ m, Pay C m → m % a = p.2 → p.1 ≤ m := fun m hm hr => by
    rcases I.near hm with ⟨k, e', _⟩ | ⟨q, hq, le⟩
    · rw [hr, h] at e'; cases e'
    · exact Nat.le_trans (low q hq) le
  have fp : ∀ (r n : Nat), (f.set p.2 (some p.1))[r]? = some (some n) → Pay C n ∧ n % a = r ∧ ∀ m, Pay C m → m % a = r → n ≤ m := fun r n hr => by
    rcases other hr with ⟨rfl, rfl⟩ | hr
    · exact ⟨pp, pr, low2⟩
    · exact I.fp r n hr
  refine ⟨by rw [List.length_set]; exact I.len, fp, fun q hq => ?_, ?_, fun r n c hr hc => ?_, fun q hq => ?_, fun r n hr => ?_⟩
  · rcases push_mem hq with hq | ⟨c, hc, rfl⟩
    · exact I.pp q (List.mem_of_mem_eraseIdx hq)
    · exact ⟨.add pp hc, (em c).symm⟩
  · rcases I.zero with ⟨n, h0⟩ | h0
    · exact .inl ⟨n, stay h0⟩
    · rcases mem_erase e h0 with h1 | h1
      · refine .inl ⟨p.1, ?_⟩
        rw [← h1] at self
        rw [← h1]
        exact self
      · exact .inr (push_old h1)
  · rcases other hr with ⟨rfl, rfl⟩ | hr0
    · have ll : (p.1 + c) % a < (f.set p.2 (some p.1)).length := by
        rw [List.length_set, I.len]
        have := I.len
        exact Nat.mod_lt _ (by omega)
      cases hx : (f.set p.2 (some p.1))[(p.1 + c) % a]'ll with
      | none =>
        have := push_new (pile := pile.eraseIdx j) (n := p.1) (r := p.2) (a := a) hc (f := f.set p.2 (some p.1)) (by rw [em, List.getElem?_eq_getElem ll, hx])
        rw [em] at this
        exact .inr this
      | some k => exact .inl ⟨k, by rw [List.getElem?_eq_getElem ll, hx]⟩
    · rcases I.step r n c hr0 hc with ⟨k, h0⟩ | h0
      · exact .inl ⟨k, stay h0⟩
      · rcases mem_erase e h0 with h1 | h1
        · refine .inl ⟨p.1, ?_⟩
          rw [← h1] at self
          rw [← h1]
          exact self
        · exact .inr (push_old h1)
  · rw [st, Nat.succ_mul]
    rcases push_mem hq with hq | ⟨c, hc, rfl⟩
    · have := I.bp q (List.mem_of_mem_eraseIdx hq)
      omega
    · have := I.bp p pm
      have := hM c hc
      show p.1 + c ≤ _
      omega
  · rw [st, Nat.succ_mul]
    rcases other hr with ⟨rfl, rfl⟩ | hr
    · have := I.bp p pm
      omega
    · have := I.bf r n hr
      omega
theorem Dj.start (ha : 0 < a) : Dj C a M (List.replicate a none) [(0, 0)] where
  len := List.length_replicate
  fp := fun r n h => by
    have := List.mem_of_getElem? h
    rw [List.mem_replicate] at this
    cases this.2
  pp := fun p hp => by
    rw [List.mem_singleton] at hp
    subst hp
    exact ⟨.zero, Nat.zero_mod a⟩
  zero := .inr (List.mem_singleton.mpr rfl)
  step := fun r n c h => by
    have := List.mem_of_getElem? h
    rw [List.mem_replicate] at this
    cases this.2
  bp := fun p hp => by
    rw [List.mem_singleton] at hp
    subst hp
    exact Nat.zero_le _
  bf := fun r n h => by
    have := List.mem_of_getElem? h
    rw [List.mem_replicate] at this
    cases this.2
/-- what is left to do -/
def left (C : List Nat) (f : List (Option Nat)) (pile : List (Nat × Nat)) : Nat := (f.length - setl f) * (C.length + 1) + pile.length
theorem setl_le (f : List (Option Nat)) : setl f ≤ f.length := List.length_filter_le _ _
theorem left_old {f : List (Option Nat)} {pile : List (Nat × Nat)} {j : Nat} {p : Nat × Nat} (e : pile[j]? = some p) : left C f (pile.eraseIdx j) < left C f pile := by
  have := len_erase e
  unfold left
  omega
theorem left_new {f : List (Option Nat)} {pile : List (Nat × Nat)} {j : Nat} {p : Nat × Nat} {n r : Nat} (e : pile[j]? = some p) (h : f[r]? = some none) (k : Nat) : left C (f.set r (some n)) (push a (f.set r (some n)) n k C (pile.eraseIdx j)) < left C f pile := by
  have l1 := len_erase e
  have l2 := push_len (a := a) (f := f.set r (some n)) (n := n) (r := k) C (pile.eraseIdx j)
  have s1 := setl_set (n := n) h
  have s2 := setl_le (f.set r (some n))
  rw [List.length_set] at s2
  unfold left
  rw [List.length_set, s1]
  have : f.length - setl f = (f.length - (setl f + 1)) + 1 := by omega
  rw [this, Nat.succ_mul]
  omega
end
end P41
end
section
set_option Elab.async false
set_option linter.all false
set_option maxRecDepth 100000
namespace P41
set_option autoImplicit false
/-! ### the common divisor -/
def gcdL (C : List Nat) : Nat := C.foldl Nat.gcd 0
theorem fold_dvd : ∀ (l : List Nat) (g : Nat), (l.foldl Nat.gcd g ∣ g) ∧ ∀ c ∈ l, l.foldl Nat.gcd g ∣ c
  | [], g => ⟨Nat.dvd_refl _, fun c h => by cases h⟩
  | x :: l, g => by
    obtain ⟨h1, h2⟩ := fold_dvd l (Nat.gcd g x)
    refine ⟨Nat.dvd_trans h1 (Nat.gcd_dvd_left _ _), fun c hc => ?_⟩
    rcases List.mem_cons.mp hc with rfl | hc
    · exact Nat.dvd_trans h1 (Nat.gcd_dvd_right _ _)
    · exact h2 c hc
theorem gcdL_dvd {C : List Nat} : ∀ c ∈ C, gcdL C ∣ c := (fold_dvd C 0).2
section
variable {C : List Nat} {b : Nat}
def Re (C : List Nat) (b y : Nat) : Prop := ∃ p, Pay C p ∧ p % b = y % b
theorem Re.add {x y : Nat} (h : Re C b x) (h2 : Re C b y) : Re C b (x + y) := by
  obtain ⟨p, hp, e⟩ := h
  obtain ⟨q, hq, e2⟩ := h2
  exact ⟨p + q, pay_plus hp hq, by rw [Nat.add_mod, e, e2, ← Nat.add_mod]⟩
theorem Re.zero : Re C b 0 := ⟨0, .zero, rfl⟩
theorem Re.mul {x : Nat} (h : Re C b x) : ∀ k : Nat, Re C b (k * x)
  | 0 => by rw [Nat.zero_mul]; exact .zero
  | k + 1 => by rw [Nat.succ_mul]; exact (Re.mul h k).add h
theorem Re.cong {x y : Nat} (h : Re C b x) (e : x % b = y % b) : Re C b y := by
  obtain ⟨p, hp, e1⟩ := h
  exact ⟨p, hp, e1.trans e⟩
theorem Re.mod (hb : 0 < b) {x y : Nat} (hx : Re C b x) (hy : Re C b y) : Re C b (y % x) := by
  have h := hy.add (hx.mul ((b - 1) * (y / x)))
  refine h.cong ?_
  have d := Nat.div_add_mod y x
  have e : y + (b - 1) * (y / x) * x = y % x + b * (x * (y / x)) := by
    have e1 : (b - 1) * (y / x) * x + x * (y / x) = b * (x * (y / x)) := by
      obtain ⟨b', rfl⟩ : ∃ b', b = b' + 1 := ⟨b - 1, by omega⟩
      rw [Nat.add_sub_cancel]
      grind
    omega
  rw [e, Nat.add_mul_mod_self_left]
theorem Re.gcd (hb : 0 < b) (x y : Nat) : Re C b x → Re C b y → Re C b (Nat.gcd x y) := by
  induction x, y using Nat.gcd.induction with
  | H0 n => intro _ h; rw [Nat.gcd_zero_left]; exact h
  | H1 m n hm ih =>
    intro h1 h2
    rw [Nat.gcd_rec]
    exact ih (Re.mod hb h1 h2) h1
theorem Re.fold (hb : 0 < b) : ∀ (l : List Nat) (g : Nat), (∀ c ∈ l, c ∈ C) → Re C b g → Re C b (l.foldl Nat.gcd g)
  | [], g, _, h => h
  | x :: l, g, hl, h => by
    refine Re.fold hb l (Nat.gcd g x) (fun c hc => hl c (List.mem_cons_of_mem _ hc)) (Re.gcd hb g x h ⟨x, ?_, rfl⟩)
    have := pay_times (hl x List.mem_cons_self) 1
    rwa [Nat.one_mul] at this
theorem re_of (hb : 0 < b) {n : Nat} (h : gcdL C ∣ n) : Re C b n := by
  obtain ⟨k, rfl⟩ := h
  rw [Nat.mul_comm]
  exact (Re.fold hb C 0 (fun c h => h) .zero).mul k
variable {M : Nat} {f : List (Option Nat)}
/-- all great numbers that the divisor divides are paid -/
theorem far_pay (hb : b ∈ C) (hb0 : 0 < b) (L : LT C b f) (hf : ∀ r n, f.getD r none = some n → n + M ≤ b * M) {n : Nat} (hn : b * M ≤ n + M) (g : gcdL C ∣ n) : Pay C n := by
  obtain ⟨p, hp, e⟩ := re_of hb0 g
  have il := L.2 (n % b) (Nat.mod_lt _ hb0)
  rw [pay_iff hb il]
  cases ho : f.getD (n % b) none with
  | none =>
    rw [ho] at il
    exact absurd e (il p hp)
  | some k =>
    have := hf _ _ ho
    exact ⟨k, rfl, by omega⟩
/-- the least of any remainders is not great -/
theorem least_small (hb : b ∈ C) (hb0 : 0 < b) (L : LT C b f) (hf : ∀ r n, f.getD r none = some n → n + M ≤ b * M) {a : Nat} (ha : a ∈ C) (ha0 : 0 < a) (hM : ∀ c ∈ C, c ≤ M) {r n : Nat} (h : IsL C a r (some n)) : n < b * M := by
  refine Classical.byContradiction fun hn => ?_
  have aM := hM a ha
  have bM : M ≤ b * M := Nat.le_mul_of_pos_left M hb0
  have p := far_pay hb hb0 L hf (n := n - a) (by omega) (Nat.dvd_sub (pay_div gcdL_dvd h.1) (gcdL_dvd a ha))
  have := h.2.2 (n - a) p (by
    have e : (n - a + a) % a = (n - a) % a := Nat.add_mod_right ..
    rw [Nat.sub_add_cancel (by omega)] at e
    rw [← e]; exact h.2.1)
  omega
end
/-! ### the unpaid numbers -/
theorem last_range {p : Nat → Bool} (M : Nat) : ((List.range M).filter p = [] ∧ ∀ n, n < M → p n = false) ∨ ∃ s, s < M ∧ ((List.range M).filter p)[((List.range M).filter p).length - 1]? = some s ∧ p s = true ∧ (List.range M).filter p ≠ [] ∧ ∀ n, s < n → n < M → p n = false := by
  induction M with
  | zero => exact .inl ⟨rfl, fun n h => by omega⟩
  | succ M ih =>
    rw [List.range_succ, List.filter_append]
    cases hp : p M with
    | true =>
      have e : List.filter p [M] = [M] := by simp [hp]
      rw [e]
      refine .inr ⟨M, by omega, ?_, hp, by simp, fun n h1 h2 => by omega⟩
      rw [List.length_append, List.length_singleton, Nat.add_sub_cancel, List.getElem?_append_right (Nat.le_refl _), Nat.sub_self]; rfl
    | false =>
      have e : List.filter p [M] = [] := by simp [hp]
      rw [e, List.append_nil]
      rcases ih with ⟨a, b⟩ | ⟨s, a, b, c, d, f⟩
      · refine .inl ⟨a, fun n h => ?_⟩
        by_cases z : n = M
        · subst z; exact hp
        · exact b n (by omega)
      · refine .inr ⟨s, by omega, b, c, d, fun n h1 h2 => ?_⟩
        by_cases z : n = M
        · subst z; exact hp
        · exact f n h1 (by omega)
section
variable {C : List Nat} {a N : Nat} {L : Nat → Nat}
/-- numbers r, r + a, .. below l -/
def steps (r l a : Nat) : List Nat := (List.range (if r < l then (l - r - 1) / a + 1 else 0)).map fun k => r + k * a
theorem steps_mem (ha : 0 < a) {r l n : Nat} : n ∈ steps r l a ↔ r ≤ n ∧ n < l ∧ (n - r) % a = 0 := by
  unfold steps
  rw [List.mem_map]
  constructor
  · rintro ⟨k, hk, rfl⟩
    rw [List.mem_range] at hk
    split at hk
    · refine ⟨by omega, ?_, by rw [Nat.add_sub_cancel_left]; exact Nat.mul_mod_left k a⟩
      have : k * a ≤ (l - r - 1) / a * a := Nat.mul_le_mul_right a (by omega)
      have := Nat.div_mul_le_self (l - r - 1) a
      omega
    · omega
  · rintro ⟨h1, h2, h3⟩
    refine ⟨(n - r) / a, ?_, ?_⟩
    · rw [List.mem_range, if_pos (by omega)]
      have : (n - r) / a ≤ (l - r - 1) / a := Nat.div_le_div_right (by omega)
      omega
    · have := Nat.div_add_mod (n - r) a
      rw [h3, Nat.mul_comm] at this
      omega
theorem steps_nodup (ha : 0 < a) {r l : Nat} : (steps r l a).Pairwise (· < ·) := by
  unfold steps
  rw [List.pairwise_map]
  refine List.pairwise_lt_range.imp fun {x y} h => ?_
  have : x * a < y * a := Nat.mul_lt_mul_of_pos_right h ha
  omega
theorem cls {n r a : Nat} (hr : r < a) (h : r ≤ n) : (n - r) % a = 0 ↔ n % a = r := by
  constructor
  · intro e
    have := Nat.div_add_mod (n - r) a
    rw [e] at this
    have h2 : n = r + a * ((n - r) / a) := by omega
    rw [h2, Nat.add_mul_mod_self_left, Nat.mod_eq_of_lt hr]
  · intro e
    have := Nat.div_add_mod n a
    rw [e] at this
    have h2 : n - r = a * (n / a) := by omega
    rw [h2, Nat.mul_mod_right]
theorem mod_le' {n a : Nat} : n % a ≤ n := Nat.mod_le n a
variable (C a N L) in
structure All : Prop where
  ha : a ∈ C
  a0 : 0 < a
  hp : ∀ c ∈ C, 1 ≤ c
  l : ∀ r, r < a → IsL C a r (some (L r))
  n : ∀ r, r < a → L r ≤ N
theorem All.paid (A : All C a N L) (n : Nat) : pb C n = true ↔ L (n % a) ≤ n := by
  rw [pb_iff A.hp, pay_iff A.ha (A.l _ (Nat.mod_lt n A.a0))]
  exact ⟨fun ⟨k, e, h⟩ => by cases e; exact h, fun h => ⟨_, rfl, h⟩⟩
theorem All.unpaid (A : All C a N L) (n : Nat) : (!pb C n) = true ↔ n < L (n % a) := by
  have := A.paid n
  cases h : pb C n with
  | true => rw [h] at this; have := this.mp rfl; simp; omega
  | false => rw [h] at this; simp at this ⊢; omega
variable (C N) in
def rest : List Nat := (List.range (N + 1)).filter fun n => !pb C n
theorem rest_mem (A : All C a N L) {n : Nat} : n ∈ rest C N ↔ n < L (n % a) := by
  unfold rest
  rw [List.mem_filter, List.mem_range, A.unpaid]
  refine ⟨fun h => h.2, fun h => ⟨?_, h⟩⟩
  have := A.n (n % a) (Nat.mod_lt n A.a0)
  omega
theorem rest_up : (rest C N).Pairwise (· < ·) := List.Pairwise.filter _ List.pairwise_lt_range
def gapL (a : Nat) (L : Nat → Nat) : List Nat := (List.range a).flatMap fun r => steps r (L r) a
theorem gap_mem (A : All C a N L) {n : Nat} : n ∈ gapL a L ↔ n < L (n % a) := by
  unfold gapL
  rw [List.mem_flatMap]
  constructor
  · rintro ⟨r, hr, h⟩
    rw [List.mem_range] at hr
    rw [steps_mem A.a0] at h
    obtain ⟨h1, h2, h3⟩ := h
    rw [cls hr h1] at h3
    rw [h3]; exact h2
  · intro h
    refine ⟨n % a, List.mem_range.mpr (Nat.mod_lt n A.a0), ?_⟩
    rw [steps_mem A.a0]
    exact ⟨mod_le', h, (cls (Nat.mod_lt n A.a0) mod_le').mpr rfl⟩
theorem lt_nodup {l : List Nat} (h : l.Pairwise (· < ·)) : l.Nodup := h.imp fun h => Nat.ne_of_lt h
theorem gap_nodup (A : All C a N L) : (gapL a L).Nodup := by
  unfold gapL List.Nodup
  rw [List.pairwise_flatMap]
  refine ⟨fun r _ => lt_nodup (steps_nodup A.a0), ?_⟩
  refine List.pairwise_lt_range.imp_of_mem fun {r s} hr hs h x hx y hy => ?_
  rw [List.mem_range] at hr hs
  rw [steps_mem A.a0] at hx hy
  intro e
  subst e
  have e1 := (cls hr hx.1).mp hx.2.2
  have e2 := (cls hs hy.1).mp hy.2.2
  omega
theorem gap_perm (A : All C a N L) : (gapL a L).Perm (rest C N) :=
  (List.perm_ext_iff_of_nodup (gap_nodup A) (lt_nodup rest_up)).mpr fun n => (gap_mem A).trans (rest_mem A).symm
theorem step_len {r l a : Nat} (hr : r < a) (h : l % a = r) : (steps r l a).length = l / a := by
  unfold steps
  rw [List.length_map, List.length_range]
  have d := Nat.div_add_mod l a
  rw [h] at d
  split
  · rename_i hl
    have e : l - r - 1 = (a * (l / a)) - 1 := by omega
    have q : 1 ≤ l / a := by
      refine Classical.byContradiction fun z => ?_
      have : l / a = 0 := Nat.lt_one_iff.mp (Nat.not_le.mp z)
      rw [this] at d
      omega
    obtain ⟨q', hq⟩ : ∃ q', l / a = q' + 1 := ⟨l / a - 1, by omega⟩
    rw [e, hq]
    have : a * (q' + 1) - 1 = (a - 1) + a * q' := by
      rw [Nat.mul_succ]; omega
    rw [this, Nat.add_mul_div_left _ _ (by omega), Nat.div_eq_of_lt (by omega)]
    omega
  · rename_i hl
    have : a * (l / a) = 0 := by omega
    rcases Nat.mul_eq_zero.mp this with z | z
    · omega
    · rw [z]
/-- how many are unpaid -/
theorem count_rest (A : All C a N L) : (rest C N).length = ((List.range a).map fun r => L r / a).sum := by
  rw [← (gap_perm A).length_eq]
  unfold gapL
  rw [List.length_flatMap]
  congr 1
  refine List.map_congr_left fun r hr => ?_
  rw [List.mem_range] at hr
  exact step_len hr (A.l r hr).2.1
/-- the greatest of the least ones -/
theorem top_rest (A : All C a N L) {m : Nat} (hm : ∃ r, r < a ∧ L r = m) (top : ∀ r, r < a → L r ≤ m) :
    (rest C N = [] ∧ m + 1 = a) ∨ ∃ s, (rest C N)[(rest C N).length - 1]? = some s ∧ rest C N ≠ [] ∧ m = s + a := by
  obtain ⟨r0, h0, e0⟩ := hm
  rcases last_range (p := fun n => !pb C n) (N + 1) with ⟨h1, h2⟩ | ⟨s, h1, h2, h3, h4, h5⟩
  · refine .inl ⟨h1, ?_⟩
    have small : ∀ r, r < a → L r = r := fun r hr => by
      have e := (A.l r hr).2.1
      have lr := A.n r hr
      have le : r ≤ L r := by have := Nat.mod_le (L r) a; omega
      have := h2 r (by omega)
      have p : pb C r = true := by simpa using this
      rw [A.paid, Nat.mod_eq_of_lt hr] at p
      omega
    have t := top (a - 1) (by have := A.a0; omega)
    rw [small (a - 1) (by have := A.a0; omega)] at t
    rw [small r0 h0] at e0
    omega
  · refine .inr ⟨s, h2, h4, ?_⟩
    have us := (A.unpaid s).mp h3
    have hs := Nat.mod_lt s A.a0
    have ls := A.l _ hs
    have le1 : s + a ≤ L (s % a) := by
      have d1 := Nat.div_add_mod s a
      have d2 := Nat.div_add_mod (L (s % a)) a
      rw [ls.2.1] at d2
      have : s / a < L (s % a) / a := by
        refine Classical.byContradiction fun z => ?_
        have := Nat.mul_le_mul_left a (show L (s % a) / a ≤ s / a by omega)
        omega
      have := Nat.mul_le_mul_left a (show s / a + 1 ≤ L (s % a) / a by omega)
      rw [Nat.mul_succ] at this
      omega
    have le2 := top _ hs
    have mr := (A.l r0 h0).2.1
    rw [e0] at mr
    have un : (!pb C (m - a)) = true := by
      rw [A.unpaid]
      have e : (m - a) % a = r0 := by
        have e : (m - a + a) % a = (m - a) % a := Nat.add_mod_right ..
        rw [Nat.sub_add_cancel (by omega)] at e
        rw [← e]; exact mr
      rw [e, e0]
      have := A.a0
      omega
    have mN := A.n r0 h0
    rw [e0] at mN
    have : ¬ s < m - a := fun z => by
      have := h5 (m - a) z (by omega)
      rw [un] at this
      cases this
    omega
end
end P41
end
section
set_option Elab.async false
set_option linter.all false
set_option maxRecDepth 100000
set_option maxHeartbeats 4000000
namespace G45
open PySem L2 L2.DL
set_option autoImplicit false
/-! ### the law's own well and draws -/
def Well (c : Int) (xs : List PyData) : Prop := ∃ a b s : Int, xs = [.int a, .int b, .int s] ∧ 0 ≤ a ∧ 0 ≤ b ∧ b < 20000000000000000000000000000 ∧ 0 ≤ s ∧ s ≤ c
theorem Well.mono {c c' : Int} {xs : List PyData} (h : Well c xs) (e : c ≤ c') : Well c' xs := by
  obtain ⟨a, b, s, h1, h2, h3, h4, h5, h6⟩ := h
  exact ⟨a, b, s, h1, h2, h3, h4, h5, by omega⟩
theorem draw_a (a b s many : Int) (ha : 0 < a) (hm : 0 < many) (hm2 : many < 2 ^ 100) : F__law_draw [some (.own true [.int a, .int b, .int s]), some (.val (.int many))] = some (.ok (.d (.int (a % many))), [some (.own true [.int (a / many), .int b, .int s]), none]) := by
  unfold F__law_draw m__law_draw
  walk_at "dl frun"
  · apply s_seqR
    apply s_ifT
    · walk_at "dl ev"
    · simpa using ha
    walk_at "dl st"
    walk_at "dl st"
    walk_at "dl ev"
  · rfl
theorem draw_b (b s many : Int) (hb0 : 0 ≤ b) (hb : b < 20000000000000000000000000000) (hs0 : 0 ≤ s) (hs : s < 1000000) (hm : 0 < many) (hm2 : many < 2 ^ 100) : ∃ r, F__law_draw [some (.own true [.int 0, .int b, .int s]), some (.val (.int many))] = some (.ok (.d (.int (r % many))), [some (.own true [.int 0, .int b, .int (s + 1)]), none]) := by
  unfold F__law_draw m__law_draw
  refine' ⟨?_, ?_⟩
  rotate_left 1
  walk_at "dl frun"
  · apply s_seq
    · apply s_ifF
      · walk_at "dl ev"
      · simp
      · walk_at "dl ev"
    walk_at "dl st"
    walk_at "dl st"
    walk_at "dl st"
    walk_at "dl st"
    walk_at "dl st"
    walk_at "dl ev"
  · rfl
theorem draw_ok {c many : Int} {xs : List PyData} (w : Well c xs) (hc : c < 900000) (hm : 0 < many) (hm2 : many < 2 ^ 100) : ∃ r xs', fnI F__law_draw xs [.int many] = some (.ok (.d (.int r), xs')) ∧ 0 ≤ r ∧ r < many ∧ Well (c + 1) xs' := by
  obtain ⟨a, b, s, rfl, h2, h3, h4, h5, h6⟩ := w
  by_cases ha : 0 < a
  · exact ⟨_, _, fnI_of (draw_a a b s many ha hm hm2), Int.emod_nonneg _ (by omega), Int.emod_lt_of_pos _ hm, _, _, _, rfl, Int.ediv_nonneg h2 (by omega), h3, h4, h5, by omega⟩
  · have : a = 0 := by omega
    subst this
    obtain ⟨r, hr⟩ := draw_b b s many h3 h4 h5 (by omega) hm hm2
    exact ⟨_, _, fnI_of hr, Int.emod_nonneg _ (by omega), Int.emod_lt_of_pos _ hm, _, _, _, rfl, by omega, h3, h4, by omega, by omega⟩
theorem mem_cut {α : Type} {xs : List α} {lo hi : Option Int} {x : α} (h : x ∈ cutD xs lo hi) : x ∈ xs := List.mem_of_mem_drop (List.mem_of_mem_take h)
theorem well_ok (ns : List Int) (k : Int) (hk0 : 0 ≤ k) (hk : k < 1000) : ∃ xs, fnV F__law_well [.list (ns.map .int), .int k] = some (.ok (.l xs)) ∧ Well 0 xs := by
  -- the cell
  obtain ⟨cell, hc⟩ : ∃ cell : Int, mIf (mTru boolD (mOp ltD (mVar 1) (mUn lenD (mVar 0)))) (mUn intD (mOp ixD (mVar 0) (mVar 1))) (mOp addD (mOp mulD (mPure (.int 83)) (mVar 1)) (mPure (.int 41)))
      [some (.val (.list (ns.map .int))), some (.val (.int k)), none, none, none, none] = some (.ok (.int cell), [some (.val (.list (ns.map .int))), some (.val (.int k)), none, none, none, none]) := by
    by_cases h : k < (ns.map PyData.int).length
    · have hl : k.toNat < ns.length := by rw [List.length_map] at h; omega
      refine ⟨ns[k.toNat], ?_⟩
      apply e_ifT (b := decide (k < (ns.map PyData.int).length)) (η1 := [some (.val (.list (ns.map .int))), some (.val (.int k)), none, none, none, none])
      · walk_at "dl ev"
      · exact decide_eq_true h
      · refine e_un (x := .int ns[k.toNat]) (e_op (e_var rfl) (e_var rfl) (ixD_i hk0 ?_)) rfl
        rw [List.getElem?_map, List.getElem?_eq_getElem hl]
        rfl
    · refine ⟨83 * k + 41, ?_⟩
      apply e_ifF (b := decide (k < (ns.map PyData.int).length)) (η1 := [some (.val (.list (ns.map .int))), some (.val (.int k)), none, none, none, none])
      · walk_at "dl ev"
      · exact decide_eq_false h
      · walk_at "dl ev"
  have hloop := fun (w : Int) => loop_inv (gm := gV 4) (xs := cutD (ns.map PyData.int) none (some 63)) (ms := mAsg (mOp modD (mUn intD (mOp addD (mOp mulD (mVar 3) (mPure (.int 4871))) (mOp modD (mUn intD (mVar 4)) (mOp addD (mOp powD (mPure (.int 10)) (mPure (.int 19))) (mPure (.int 51)))))) (mOp addD (mOp powD (mPure (.int 10)) (mPure (.int 25))) (mPure (.int 13)))) (gV 3))
    (fun _ η => ∃ (w : Int) (v : Option Slot), η = [some (.val (.list (ns.map .int))), some (.val (.int k)), some (.val (.int cell)), some (.val (.int w)), v, none] ∧ (∀ ds, v ≠ some (.own true ds)))
    (fun i x η hx ⟨w, v, hη, hv⟩ => by
      subst hη
      obtain ⟨z, _, rfl⟩ := List.mem_map.mp (mem_cut (List.mem_of_getElem? hx))
      refine ⟨[some (.val (.list (ns.map .int))), some (.val (.int k)), some (.val (.int cell)), some (.val (.int w)), some (.val (.int z)), none], ?_⟩
      refine' ⟨?_, ?_, ?_, ?_⟩
      rotate_left 2
      · walk_at "dl ev"
      · exact ⟨_, _, rfl, fun ds e => by cases e⟩
      · unfold gV stO
        split
        · rename_i d e
          exact absurd (Option.some.inj e) (hv d)
        · rfl)
    (η := [some (.val (.list (ns.map .int))), some (.val (.int k)), some (.val (.int cell)), some (.val (.int w)), none, none]) ⟨w, none, rfl, fun ds e => by cases e⟩
  obtain ⟨η', hl1, w', v', rfl, hv'⟩ := hloop (47 + ((ns.map PyData.int).length : Int))
  refine' ⟨?_, fnV_of (η1 := ?_) ?_, ?_⟩
  rotate_left 2
  · unfold F__law_well m__law_well
    walk_at "dl frun"
    · with_reducible apply s_seq
      · with_reducible apply s_asg
        · exact hc
        · rfl
      walk_at "dl st"
      with_reducible apply s_seq
      · with_reducible apply s_for
        · walk_at "dl ev"
        · exact hl1
      walk_at "dl st"
      walk_at "dl ev"
    · rfl
  · refine ⟨_, _, _, rfl, ?_, ?_, ?_, by omega, by omega⟩
    · split <;> omega
    · exact Int.emod_nonneg _ (by omega)
    · have := Int.emod_lt_of_pos ((if cell < 0 then -cell else cell) * 6599 + w' * 37 + 5 * (if decide (cell < 0) = true then 1 else 0) + 71 * k) (show (0 : Int) < 10000000000000000000000000000 + 331 by omega)
      omega
end G45
end
section
set_option Elab.async false
set_option linter.all false
set_option maxRecDepth 100000
set_option maxHeartbeats 4000000
namespace G45
open PySem L2 L2.DL
set_option autoImplicit false
open P41
/-! ### coins -/
def enC (cs : List Nat) : List PyData := cs.map fun (c : Nat) => PyData.int (c : Int)
theorem enC_len (cs : List Nat) : (enC cs).length = cs.length := List.length_map _
def enO : Option Nat → PyData
  | none => .none
  | some k => .int (k : Int)
def enT (t : List (Option Nat)) : List PyData := t.map enO
structure Coins (cs : List Nat) : Prop where
  ne : cs ≠ []
  five : cs.length ≤ 5
  le : ∀ c ∈ cs, 1 ≤ c ∧ c ≤ 60
  up : cs.Pairwise (· < ·)
theorem Coins.pos {cs : List Nat} (h : Coins cs) : ∀ c ∈ cs, 1 ≤ c := fun c hc => (h.le c hc).1
theorem int_t {v : Int} : fnV F_is_integer [.int v] = some (.ok (.d (.bool true))) := by
  unfold F_is_integer m_is_integer
  exact fnV_run rfl (by decide) ⟨_, s_ret (e_andVT (b := true) (e_un (e_var rfl) isi_int) rfl (e_notV (b := false) (e_un (e_var rfl) isi_ib)))⟩
theorem betw_ok {v lo hi : Int} : fnV F_is_between [.int v, .int lo, .int hi] = some (.ok (.d (.bool (decide (lo ≤ v) && decide (v ≤ hi))))) := by
  unfold F_is_between m_is_between
  exact fnV_run rfl (by decide) ⟨_, s_ret (e_andVT (b := true) (e_call (e_cons (e_var rfl) e_nil) int_t) rfl (e_chainB (e_var rfl) (e_var rfl) leD_e (e_var rfl) leD_e))⟩
theorem betw_t {v lo hi : Int} (h1 : lo ≤ v) (h2 : v ≤ hi) : fnV F_is_between [.int v, .int lo, .int hi] = some (.ok (.d (.bool true))) := by
  rw [betw_ok, decide_eq_true h1, decide_eq_true h2]; rfl
theorem zip_up : ∀ {cs : List Nat}, cs.Pairwise (· < ·) → ∀ p ∈ cs.zip (cs.drop 1), p.1 < p.2
  | [], _, p, h => by cases h
  | [c], _, p, h => by simp at h
  | c :: d :: cs, hp, p, h => by
    have h1 := List.pairwise_cons.mp hp
    rcases List.mem_cons.mp (show p ∈ (c, d) :: (d :: cs).zip ((d :: cs).drop 1) from h) with z | z
    · rw [z]; exact h1.1 d List.mem_cons_self
    · exact zip_up h1.2 p z
theorem are_coins {cs : List Nat} (hc : Coins cs) : fnV F_are_coins [.tuple (enC cs)] = some (.ok (.d (.bool true))) := by
  have h5 := hc.five
  have h0 : 1 ≤ cs.length := List.length_pos_iff.mpr hc.ne
  have len : lenD (.tuple (enC cs)) = some (.int (cs.length : Int)) := by rw [len_t, enC_len]
  unfold F_are_coins m_are_coins
  have c1 := compA (L := cs) (enc := fun (c : Nat) => .int (c : Int)) (out := fun _ => .bool true) (gm := gV 1) (vs := [1]) (mi := mIter (mVar 0)) (me := (mCall (fnV F_is_between) (mCons (mVar 1) (mCons (mPure (.int 1)) (mCons (mPure (.int 60)) mNil))))) (η := [some (.val (.tuple (enC cs))), none, none, none]) (e := fun c => [some (.val (.tuple (enC cs))), some (.val (.int (c : Int))), none, none])
    (e_iter (e_var (η := [some (.val (.tuple (enC cs))), none, none, none]) rfl) it_t) rfl (fun _ => rfl) (fun _ => rfl) (small (by omega)) (fun c hm => by
      have := hc.le c hm
      exact e_call (e_cons (e_var rfl) (e_cons e_pure (e_cons e_pure e_nil))) (betw_t (by omega) (by omega)))
  have sl1 : slD (.tuple (enC cs)) (some 1) none = some (.tuple (enC (cs.drop 1))) := by
    show some (PyData.tuple (cutD (enC cs) (some ((1 : Nat) : Int)) none)) = _
    rw [cut_from]
    unfold enC
    rw [List.map_drop]
  have zp : zipXD [.tuple (enC cs), .tuple (enC (cs.drop 1))] = some ((cs.zip (cs.drop 1)).map fun p => .tuple [.int (p.1 : Int), .int (p.2 : Int)]) := by
    show some (((enC cs).zip (enC (cs.drop 1))).map _) = _
    unfold enC
    rw [List.zip_map, List.map_map]; rfl
  have c2 := compA (L := cs.zip (cs.drop 1)) (enc := fun p => .tuple [.int (p.1 : Int), .int (p.2 : Int)]) (out := fun _ => .bool true) (gm := (gTupD 2 (gConsD (gV 2) (gConsD (gV 3) gNilD)))) (vs := [2, 3]) (mi := (gIt zipXD (mCons (mVar 0) (mCons (mSl slD (mVar 0) (mPart (mPure (.int 1))) (mPure none)) mNil)))) (me := (mOp ltD (mVar 2) (mVar 3))) (η := [some (.val (.tuple (enC cs))), none, none, none]) (e := fun p => [some (.val (.tuple (enC cs))), none, some (.val (.int (p.1 : Int))), some (.val (.int (p.2 : Int)))])
    (e_gIt (e_cons (e_var (η := [some (.val (.tuple (enC cs))), none, none, none]) rfl) (e_cons (e_sl (e_var rfl) (e_part e_pure) e_partN sl1) e_nil)) zp) rfl (fun _ => rfl) (fun _ => rfl) (small (by rw [List.length_zip]; omega)) (fun p hp => by
      have := zip_up hc.up p hp
      exact e_op (e_var rfl) (e_var rfl) (by rw [ltD_e, decide_eq_true (by omega)]))
  exact fnV_run rfl (by decide) ⟨_, s_seq (s_ifF (b := false) (e_orF (b := false) (e_notT (b := true) (e_tru (e_un (e_var rfl) isi_tup) tru_b)) rfl (e_notT (b := true) (e_tru (e_chainT (b := true) e_pure (e_un (e_var rfl) len) (by rw [leD_e, decide_eq_true (by omega)]) rfl e_pure (by rw [leD_e, decide_eq_true (by omega)])) boolD_e))) rfl e_pure) (s_seq (s_ifF (b := false) (e_notT (b := true) (e_tru (e_un (e_fz c1) (allT_e _)) tru_b)) rfl e_pure) (s_ret (e_un (e_fz c2) (allT_e _))))⟩
theorem need_coins {cs : List Nat} (hc : Coins cs) : fnV F_need_coins [.tuple (enC cs)] = some (.ok (.d .none)) := by
  unfold F_need_coins m_need_coins
  exact fnV_runN rfl (by decide) ⟨_, s_ifF (b := false) (e_notT (b := true) (e_tru (e_call (e_cons (e_var rfl) e_nil) (are_coins hc)) tru_b)) rfl e_pure⟩
/-- a draw from an own list -/
theorem draw_call {i : Nat} {o : Bool} {xs : List PyData} {η : EnvD} {c m : Int} {ml : MX (List PyData)} (w : Well c xs) (hc : c < 900000) (h : η[i]? = some (some (.own o xs))) (hm : ml η = some (.ok [.int m], η)) (h0 : 0 < m) (h1 : m < 10000000000) :
    ∃ (r : Int) (xs' : List PyData), mCallI F__law_draw i ml η = some (.ok (.int r), η.set i (some (.own o xs'))) ∧ 0 ≤ r ∧ r < m ∧ Well (c + 1) xs' := by
  obtain ⟨r, xs', e, h2, h3, h4⟩ := draw_ok w hc h0 (by omega)
  exact ⟨r, xs', e_callI h hm h e, h2, h3, h4⟩
theorem insU_len (x : Int) : ∀ l : List Int, (insU x l).length ≤ l.length + 1
  | [] => Nat.le_refl _
  | y :: ys => by
    unfold insU
    split
    · simp
    · split
      · simp
      · have := insU_len x ys
        simp only [List.length_cons]; omega
theorem sortU_len : ∀ l : List Int, (sortU l).length ≤ l.length
  | [] => Nat.le_refl _
  | x :: xs => by
    have a := insU_len x (sortU xs)
    have b := sortU_len xs
    show (insU x (sortU xs)).length ≤ xs.length + 1
    omega
/-- ints that are coins -/
theorem coins_of {l : List Int} (h0 : l ≠ []) (h5 : l.length ≤ 5) (hl : ∀ c ∈ l, 1 ≤ c ∧ c ≤ 60) (up : l.Pairwise (· < ·)) : ∃ cs, Coins cs ∧ enC cs = l.map .int := by
  refine ⟨l.map Int.toNat, ⟨by simpa using h0, by simpa using h5, fun c hc => ?_, ?_⟩, ?_⟩
  · obtain ⟨x, hx, rfl⟩ := List.mem_map.mp hc
    have := hl x hx
    omega
  · rw [List.pairwise_map]
    exact up.imp_of_mem fun ha hb h => by
      have := hl _ ha
      have := hl _ hb
      omega
  · unfold enC
    rw [List.map_map]
    refine List.map_congr_left fun x hx => ?_
    have := hl x hx
    show PyData.int ((x.toNat : Nat) : Int) = .int x
    rw [Int.toNat_of_nonneg (by omega)]
theorem law_coins {c : Int} {xs : List PyData} (w : Well c xs) (hc : c < 800000) : ∃ cs xs', Coins cs ∧ fnI F__law_coins xs [] = some (.ok (.d (.tuple (enC cs)), xs')) ∧ Well (c + 7) xs' := by
  obtain ⟨r1, x1, d1, a1, b1, w1⟩ := draw_call (i := 0) (o := true) (η := [some (.own true xs), none, none]) (ml := mCons (mPure (.int 3)) mNil) (m := 3) w (by omega) rfl (e_cons e_pure e_nil) (by omega) (by omega)
  obtain ⟨most, hm, m1, m2⟩ : ∃ most : Int, ixD (.list [.int 9, .int 20, .int 60]) (.int r1) = some (.int most) ∧ 1 ≤ most ∧ most ≤ 60 := by
    have : r1 = 0 ∨ r1 = 1 ∨ r1 = 2 := by omega
    rcases this with e | e | e <;> subst e
    · exact ⟨9, rfl, by decide, by decide⟩
    · exact ⟨20, rfl, by decide, by decide⟩
    · exact ⟨60, rfl, by decide, by decide⟩
  obtain ⟨r2, x2, d2, a2, b2, w2⟩ := draw_call (i := 0) (o := true) (η := [some (.own true x1), some (.val (.int most)), none]) (ml := mCons (mPure (.int 5)) mNil) (m := 5) w1 (by omega) rfl (e_cons e_pure e_nil) (by omega) (by omega)
  obtain ⟨acc, η5, c1, ⟨ys, l, wy, hl, ll, rfl, rfl⟩, c3⟩ := compI (L := List.range (1 + r2).toNat) (enc := fun k : Nat => .int (0 + (k : Int))) (gm := gV 2) (vs := [2]) (me := (mOp addD (mPure (.int 1)) (mCallI F__law_draw 0 (mCons (mVar 1) mNil))))
    (fun pre acc η => ∃ (ys : List PyData) (l : List Int), Well (c + 2 + (pre.length : Nat)) ys ∧ (∀ x ∈ l, 1 ≤ x ∧ x ≤ 60) ∧ l.length = pre.length ∧ acc = l.map .int ∧ η = [some (.own true ys), some (.val (.int most)), none])
    (small (by rw [List.length_range]; omega))
    (by
      rintro pre a post acc η eL ⟨ys, l, wy, hl, ll, rfl, rfl⟩
      have q3 : pre.length < 5 := by
        have := congrArg List.length eL
        rw [List.length_range, List.length_append, List.length_cons] at this
        omega
      obtain ⟨r3, ys', e, r30, r31, w3⟩ := draw_call (i := 0) (o := true) (η := [some (.own true ys), some (.val (.int most)), some (.val (.int (0 + (a : Int))))]) (ml := mCons (mVar 1) mNil) (m := most) wy (by omega) rfl (e_cons (e_var rfl) e_nil) (by omega) (by omega)
      refine ⟨_, _, _, rfl, e_op e_pure e addD_e, ys', l ++ [1 + r3], ?_, ?_, ?_, by rw [List.map_append]; rfl, rfl⟩
      · rw [List.length_append, List.length_singleton]
        exact w3.mono (by omega)
      · intro x hx
        rcases List.mem_append.mp hx with hx | hx
        · exact hl x hx
        · rw [List.mem_singleton] at hx
          omega
      · rw [List.length_append, List.length_append, ll]; rfl)
    (η := [some (.own true x2), some (.val (.int most)), none]) ⟨x2, [], w2.mono (by simp; omega), by simp, rfl, rfl, rfl⟩
  rw [List.length_range] at wy ll
  obtain ⟨cs, hcs, hen⟩ := coins_of (l := sortU l) (fun z => by
    have : l = [] := List.eq_nil_iff_forall_not_mem.mpr fun a ha => by
      have := sortU_mem.mpr ha
      rw [z] at this; cases this
    rw [this] at ll
    simp at ll
    omega) (by have := sortU_len l; omega) (fun v hv => hl v (sortU_mem.mp hv)) sortU_lt
  refine ⟨cs, ys, hcs, fnI_of (tl := []) ?_, wy.mono (by omega)⟩
  have hss : sortedSetD (.list (l.map .int)) = some (enC cs) := by
    unfold sortedSetD setOfD
    simp only [intsD_map, Option.bind_some]
    rw [if_pos (by omega)]
    simp only [Option.bind_some]
    rw [if_pos (by have := sortU_len l; omega), hen]
  unfold F__law_coins m__law_coins
  walk_at "dl frun"
  · exact s_seq (s_asg (e_op (e_fz (e_caL (e_cons e_pure (e_cons e_pure (e_cons e_pure e_nil))) (lst_e (by simp)))) d1 hm) (sto (v := none) rfl nt_n)) (s_ret (e_un (e_fz (e_unL (e_fz (e_comp (e_gIt (e_cons (e_op e_pure d2 addD_e) e_nil) (range1 (by show -1000000000 < 1 + r2; omega) (by show 1 + r2 < 1000000000; omega))) c1)) hss)) tupD_l))
  · rfl
end G45
end
section
set_option Elab.async false
set_option linter.all false
set_option maxRecDepth 100000
set_option maxHeartbeats 4000000
namespace G45
open PySem L2 L2.DL
set_option autoImplicit false
open P41
/-! ### the least table -/
theorem enT_get {t : List (Option Nat)} {i : Nat} {o : Option Nat} (h : t[i]? = some o) : (enT t)[i]? = some (enO o) := by
  unfold enT
  rw [List.getElem?_map, h]; rfl
theorem is_enO (o : Option Nat) : isD (enO o) .none = some (.bool o.isNone) := by cases o <;> rfl
theorem isn_enO (o : Option Nat) : isnD (enO o) .none = some (.bool o.isSome) := by cases o <;> rfl
abbrev enP (p : Nat × Nat) : PyData := .tuple [.int (p.1 : Int), .int (p.2 : Int)]
theorem enP_inj {p q : Nat × Nat} (h : enP p = enP q) : p = q := by
  injection h with h
  injection h with h1 h2
  injection h2 with h2
  injection h1 with h1
  injection h2 with h2
  exact Prod.ext (by omega) (by omega)
theorem eqv_P (p q : Nat × Nat) : PyData.eqv (enP p) (enP q) = decide (p = q) := by
  have e := eqvAll_ints [(p.1 : Int), (p.2 : Int)] [(q.1 : Int), (q.2 : Int)]
  have e2 : PyData.eqv (enP p) (enP q) = PyData.eqvAll ([(p.1 : Int), (p.2 : Int)].map .int) ([(q.1 : Int), (q.2 : Int)].map .int) := by simp only [enP, PyData.eqv, List.map_cons, List.map_nil]
  rw [e2, e]
  refine decide_eq_decide.mpr ⟨fun h => ?_, fun h => by rw [h]⟩
  injection h with h1 h2
  injection h2 with h2
  exact Prod.ext (by omega) (by omega)
theorem prs (pile : List (Nat × Nat)) : (pile.map enP).all isPr = true := by
  rw [List.all_map, List.all_eq_true]
  intro p _
  rfl
theorem min_fold : ∀ (l : List (Nat × Nat)) (x : Nat × Nat), ∃ p, (l.map enP).foldl (fun a y => if PySem.W.dataLt y a then y else a) (enP x) = enP p ∧ (p = x ∨ p ∈ l) ∧ p.1 ≤ x.1 ∧ ∀ q ∈ l, p.1 ≤ q.1
  | [], x => ⟨x, rfl, .inl rfl, Nat.le_refl _, fun q h => by cases h⟩
  | y :: l, x => by
    have e : PySem.W.dataLt (enP y) (enP x) = decide ((y.1 : Int) < x.1 ∨ ((y.1 : Int) = x.1 ∧ (y.2 : Int) < x.2)) := PySem.W.dataLt_ii _ _ _ _
    rw [List.map_cons, List.foldl_cons, e]
    by_cases h : (y.1 : Int) < x.1 ∨ ((y.1 : Int) = x.1 ∧ (y.2 : Int) < x.2)
    · rw [if_pos (by simpa using h)]
      obtain ⟨p, e1, e2, e3, e4⟩ := min_fold l y
      refine ⟨p, e1, ?_, by omega, fun q hq => ?_⟩
      · rcases e2 with rfl | e2
        · exact .inr List.mem_cons_self
        · exact .inr (List.mem_cons_of_mem _ e2)
      · rcases List.mem_cons.mp hq with rfl | hq
        · exact e3
        · exact e4 q hq
    · rw [if_neg (by simpa using h)]
      obtain ⟨p, e1, e2, e3, e4⟩ := min_fold l x
      refine ⟨p, e1, ?_, e3, fun q hq => ?_⟩
      · rcases e2 with rfl | e2
        · exact .inl rfl
        · exact .inr (List.mem_cons_of_mem _ e2)
      · rcases List.mem_cons.mp hq with rfl | hq
        · omega
        · exact e4 q hq
theorem min_pile {pile : List (Nat × Nat)} (h : pile ≠ []) : ∃ p ∈ pile, minAD (.list (pile.map enP)) = some (enP p) ∧ ∀ q ∈ pile, p.1 ≤ q.1 := by
  cases pile with
  | nil => exact absurd rfl h
  | cons x l =>
    obtain ⟨p, e1, e2, e3, e4⟩ := min_fold l x
    refine ⟨p, ?_, ?_, fun q hq => ?_⟩
    · rcases e2 with rfl | e2
      · exact List.mem_cons_self
      · exact List.mem_cons_of_mem _ e2
    · have m1 : minLD (.list ((x :: l).map enP)) = none := rfl
      have m2 : minPD (.list ((x :: l).map enP)) = some (enP p) := by
        have pr := prs (x :: l)
        rw [List.map_cons] at pr
        show (if ((enP x :: l.map enP)).all isPr = true then some (PySem.W.minD (enP x) (l.map enP)) else none) = _
        rw [if_pos pr]
        exact congrArg some e1
      unfold minAD
      rw [m1]
      exact m2
    · rcases List.mem_cons.mp hq with rfl | hq
      · exact e3
      · exact e4 q hq
theorem place_pile {p : Nat × Nat} : ∀ {pile : List (Nat × Nat)}, p ∈ pile → ∃ j, SeqAt.dataPlace (pile.map enP) (enP p) = some j ∧ pile[j]? = some p
  | [], h => by cases h
  | x :: l, h => by
    unfold SeqAt.dataPlace
    rw [List.map_cons, List.findIdx?_cons, eqv_P]
    by_cases e : x = p
    · subst e
      rw [if_pos (by simp)]
      exact ⟨0, rfl, rfl⟩
    · rw [if_neg (by simpa using e)]
      obtain ⟨j, h1, h2⟩ := place_pile (pile := l) (by
        rcases List.mem_cons.mp h with h | h
        · exact absurd h.symm e
        · exact h)
      unfold SeqAt.dataPlace at h1
      rw [h1]
      exact ⟨j + 1, rfl, h2⟩
theorem map_erase {α β : Type} (f : α → β) : ∀ (l : List α) (j : Nat), (l.map f).eraseIdx j = (l.eraseIdx j).map f
  | [], _ => rfl
  | x :: l, 0 => rfl
  | x :: l, j + 1 => congrArg (f x :: ·) (map_erase f l j)
theorem rem_pile {p : Nat × Nat} {pile : List (Nat × Nat)} (h : p ∈ pile) : ∃ j, remD (pile.map enP) [enP p] = some (.none, (pile.eraseIdx j).map enP) ∧ pile[j]? = some p := by
  obtain ⟨j, h1, h2⟩ := place_pile h
  refine ⟨j, ?_, h2⟩
  show (if PyData.plainAll (pile.map enP) = true ∧ (enP p).plain = true ∧ (enP p).depth ≤ 60 then _ else none) = _
  rw [if_pos ⟨prs_plain (prs pile), rfl, by show (1 : Nat) ≤ 60; decide⟩, h1]
  show some (PyData.none, (pile.map enP).eraseIdx j) = _
  rw [map_erase]
theorem pile_shaped (pile : List (Nat × Nat)) : SeqAt.shaped (.list (pile.map enP)) = true := (flat_list (k := 1) fun d hd => by
  obtain ⟨p, _, rfl⟩ := List.mem_map.mp hd
  exact flat_tI [(p.1 : Int), (p.2 : Int)]).shaped (by decide)
theorem notin_pile (q : Nat × Nat) (pile : List (Nat × Nat)) : notInD (enP q) (.list (pile.map enP)) = some (.bool (!decide (q ∈ pile))) := by
  show (if _ then _ else _) = _
  rw [if_pos ⟨(flat_tI [(q.1 : Int), (q.2 : Int)]).shaped (by decide), pile_shaped pile⟩]
  congr 3
  rw [List.any_map, Bool.eq_iff_iff, List.any_eq_true, decide_eq_true_eq]
  constructor
  · rintro ⟨p, hp, e⟩
    have e : PyData.eqv (enP p) (enP q) = true := e
    rw [eqv_P, decide_eq_true_eq] at e
    rw [← e]; exact hp
  · intro h
    refine ⟨q, h, ?_⟩
    show PyData.eqv (enP q) (enP q) = true
    rw [eqv_P]; simp
/-- a while loop that comes to an end -/
theorem whileI {mt : MX Bool} {ms : MX Fl} (P : EnvD → Prop) (I : Nat → EnvD → Prop)
    (step : ∀ n η, I n η → (∃ η', mt η = some (.ok false, η') ∧ P η') ∨ ∃ η1 η2 m, mt η = some (.ok true, η1) ∧ ms η1 = some (.ok .nx, η2) ∧ m < n ∧ I m η2) : ∀ (n : Nat) (η : EnvD), I n η → ∃ η', mWhile mt ms [] η = some (.ok .nx, η') ∧ P η' := by
  suffices h : ∀ (n : Nat) (η : EnvD), I n η → ∃ k η', whileN mt ms [] k η = some (.ok .nx, η') ∧ P η' from fun n η hI => by
    obtain ⟨k, η', e, p⟩ := h n η hI
    exact ⟨η', mWhile_eq e, p⟩
  intro n
  induction n using Nat.strongRecOn with
  | ind n ih =>
    intro η hI
    rcases step n η hI with ⟨η', e, p⟩ | ⟨η1, η2, m, e1, e2, lt, I2⟩
    · refine ⟨1, η', ?_, p⟩
      unfold whileN
      rw [e]
    · obtain ⟨k, η', e3, p⟩ := ih m lt η2 I2
      refine ⟨k + 1, η', ?_, p⟩
      unfold whileN
      rw [e1]
      simp only [e2]
      exact e3
theorem push_app {a n r : Nat} {f : List (Option Nat)} : ∀ (l m : List Nat) (pile : List (Nat × Nat)), push a f n r (l ++ m) pile = push a f n r m (push a f n r l pile)
  | [], _, _ => rfl
  | c :: l, m, pile => push_app l m _
abbrev EW (cs : List Nat) (a : Nat) (f : List (Option Nat)) (pile : List (Nat × Nat)) (v4 v5 v6 v7 v8 : Option Slot) : EnvD :=
  [some (.val (.tuple (enC cs))), some (.val (.int (a : Int))), some (.own false (enT f)), some (.own false (pile.map enP)), v4, v5, v6, v7, v8]
section
variable {cs : List Nat} {a : Nat}
theorem coin_turn {f : List (Option Nat)} (ha : 0 < a) (hf : f.length = a) {pile : List (Nat × Nat)} (hp : pile.length ≤ 5000) {n r c : Nat} {v4 v7 v8 : Option Slot} (h8 : NT v8) :
    ∃ v8', NT v8' ∧ (mSeq (mAsg (mCa (fun xs => if xs.length ≤ sizeLine then some (.tuple xs) else none) (mCons (mOp addD (mVar 5) (mVar 7)) (mCons (mOp modD (mOp addD (mVar 6) (mVar 7)) (mVar 1)) mNil))) (gV 8))
    (mIfS (mAnd (mTru boolD (mOp isD (mOpV ixD 2 (mOp ixD (mVar 8) (mPure (.int 1)))) (mPure .none))) (mTru boolD (mOp notInD (mVar 8) (mBor 3)))) (mDrop (mMeth appendD 3 (mCons (mVar 8) mNil))) (mPure .nx))) (EW cs a f pile v4 (some (.val (.int (n : Int)))) (some (.val (.int (r : Int)))) (some (.val (.int (c : Int)))) v8)
      = some (.ok .nx, EW cs a f (push a f n r [c] pile) v4 (some (.val (.int (n : Int)))) (some (.val (.int (r : Int)))) (some (.val (.int (c : Int)))) v8') := by
  refine ⟨some (.val (enP (n + c, (r + c) % a))), nt_v, ?_⟩
  have lt : (r + c) % a < f.length := by rw [hf]; exact Nat.mod_lt _ ha
  obtain ⟨o, ho⟩ : ∃ o, f[(r + c) % a]? = some o := ⟨_, List.getElem?_eq_getElem lt⟩
  have ixf : ixD (.list (enT f)) (.int (((r + c) % a : Nat) : Int)) = some (enO o) := ixD_l (enT_get ho)
  have ix1 : ixD (enP (n + c, (r + c) % a)) (.int 1) = some (.int (((r + c) % a : Nat) : Int)) := ixD_t (k := 1) rfl
  have md : modD (.int ((r : Int) + (c : Int))) (.int (a : Int)) = some (.int (((r + c) % a : Nat) : Int)) := by rw [modD_e (by omega)]; rfl
  have ni := notin_pile (n + c, (r + c) % a) pile
  have st : (mAsg (mCa (fun xs => if xs.length ≤ sizeLine then some (.tuple xs) else none) (mCons (mOp addD (mVar 5) (mVar 7)) (mCons (mOp modD (mOp addD (mVar 6) (mVar 7)) (mVar 1)) mNil))) (gV 8)) (EW cs a f pile v4 (some (.val (.int (n : Int)))) (some (.val (.int (r : Int)))) (some (.val (.int (c : Int)))) v8)
      = some (.ok .nx, EW cs a f pile v4 (some (.val (.int (n : Int)))) (some (.val (.int (r : Int)))) (some (.val (.int (c : Int)))) (some (.val (enP (n + c, (r + c) % a))))) := by
    have e : (mCa (fun xs => if xs.length ≤ sizeLine then some (.tuple xs) else none) (mCons (mOp addD (mVar 5) (mVar 7)) (mCons (mOp modD (mOp addD (mVar 6) (mVar 7)) (mVar 1)) mNil))) (EW cs a f pile v4 (some (.val (.int (n : Int)))) (some (.val (.int (r : Int)))) (some (.val (.int (c : Int)))) v8)
        = some (.ok (enP (n + c, (r + c) % a)), EW cs a f pile v4 (some (.val (.int (n : Int)))) (some (.val (.int (r : Int)))) (some (.val (.int (c : Int)))) v8) :=
      e_ca (xs := [.int ((n + c : Nat) : Int), .int (((r + c) % a : Nat) : Int)]) (e_cons (e_op (e_var rfl) (e_var rfl) rfl) (e_cons (e_op (e_op (e_var rfl) (e_var rfl) addD_e) (e_var rfl) md) e_nil)) (tup_e (by simp))
    exact s_asg e (sto (v := v8) rfl h8)
  have t1 : (mTru boolD (mOp isD (mOpV ixD 2 (mOp ixD (mVar 8) (mPure (.int 1)))) (mPure .none))) (EW cs a f pile v4 (some (.val (.int (n : Int)))) (some (.val (.int (r : Int)))) (some (.val (.int (c : Int)))) (some (.val (enP (n + c, (r + c) % a))))) = some (.ok o.isNone, EW cs a f pile v4 (some (.val (.int (n : Int)))) (some (.val (.int (r : Int)))) (some (.val (.int (c : Int)))) (some (.val (enP (n + c, (r + c) % a))))) :=
    e_tru (e_op (e_opV (e_borO rfl) (e_op (e_var rfl) e_pure ix1) (e_borO rfl) ixf) e_pure (is_enO o)) boolD_e
  have t2 : (mTru boolD (mOp notInD (mVar 8) (mBor 3))) (EW cs a f pile v4 (some (.val (.int (n : Int)))) (some (.val (.int (r : Int)))) (some (.val (.int (c : Int)))) (some (.val (enP (n + c, (r + c) % a))))) = some (.ok (!decide ((n + c, (r + c) % a) ∈ pile)), EW cs a f pile v4 (some (.val (.int (n : Int)))) (some (.val (.int (r : Int)))) (some (.val (.int (c : Int)))) (some (.val (enP (n + c, (r + c) % a))))) :=
    e_tru (e_op (e_var rfl) (e_borO rfl) ni) boolD_e
  refine s_seq st ?_
  have tt := e_andB t1 t2
  have pe : push a f n r [c] pile = if f[(r + c) % a]? = some none ∧ (n + c, (r + c) % a) ∉ pile then pile ++ [(n + c, (r + c) % a)] else pile := rfl
  by_cases h : f[(r + c) % a]? = some none ∧ (n + c, (r + c) % a) ∉ pile
  · rw [pe, if_pos h]
    have ho2 : o = none := by rw [ho] at h; exact Option.some.inj h.1
    have app : appendD (pile.map enP) [enP (n + c, (r + c) % a)] = some (.none, (pile ++ [(n + c, (r + c) % a)]).map enP) := by
      rw [app_any (by rw [List.length_map]; omega), List.map_append]; rfl
    exact s_ifT tt (by rw [ho2]; simp [h.2]) (s_drop (e_meth (o := false) (o' := false) rfl (e_cons (e_var rfl) e_nil) rfl app))
  · rw [pe, if_neg h]
    refine s_ifF tt ?_ e_pure
    cases o with
    | some k => rfl
    | none =>
      have : (n + c, (r + c) % a) ∈ pile := Classical.byContradiction fun z => h ⟨ho, z⟩
      simp [this]
theorem coins_loop {f : List (Option Nat)} (ha : 0 < a) (hf : f.length = a) {pile : List (Nat × Nat)} (h5 : cs.length ≤ 5) (hp : pile.length ≤ 1000) {n r : Nat} {v4 v7 v8 : Option Slot} (h7 : NT v7) (h8 : NT v8) :
    ∃ v7' v8', NT v7' ∧ NT v8' ∧ mFor (mIter (mVar 0)) (gV 7) (mSeq (mAsg (mCa (fun xs => if xs.length ≤ sizeLine then some (.tuple xs) else none) (mCons (mOp addD (mVar 5) (mVar 7)) (mCons (mOp modD (mOp addD (mVar 6) (mVar 7)) (mVar 1)) mNil))) (gV 8))
    (mIfS (mAnd (mTru boolD (mOp isD (mOpV ixD 2 (mOp ixD (mVar 8) (mPure (.int 1)))) (mPure .none))) (mTru boolD (mOp notInD (mVar 8) (mBor 3)))) (mDrop (mMeth appendD 3 (mCons (mVar 8) mNil))) (mPure .nx))) [] (EW cs a f pile v4 (some (.val (.int (n : Int)))) (some (.val (.int (r : Int)))) v7 v8)
      = some (.ok .nx, EW cs a f (push a f n r cs pile) v4 (some (.val (.int (n : Int)))) (some (.val (.int (r : Int)))) v7' v8') := by
  obtain ⟨η', hl, v7', v8', g7, g8, rfl⟩ := loopP (L := cs) (enc := fun (c : Nat) => .int (c : Int)) (gm := gV 7) (ms := (mSeq (mAsg (mCa (fun xs => if xs.length ≤ sizeLine then some (.tuple xs) else none) (mCons (mOp addD (mVar 5) (mVar 7)) (mCons (mOp modD (mOp addD (mVar 6) (mVar 7)) (mVar 1)) mNil))) (gV 8))
    (mIfS (mAnd (mTru boolD (mOp isD (mOpV ixD 2 (mOp ixD (mVar 8) (mPure (.int 1)))) (mPure .none))) (mTru boolD (mOp notInD (mVar 8) (mBor 3)))) (mDrop (mMeth appendD 3 (mCons (mVar 8) mNil))) (mPure .nx))))
    (fun pre η => ∃ v7' v8', NT v7' ∧ NT v8' ∧ η = EW cs a f (push a f n r pre pile) v4 (some (.val (.int (n : Int)))) (some (.val (.int (r : Int)))) v7' v8')
    (by
      rintro pre c post η eL ⟨v7', v8', g7, g8, rfl⟩
      have pl := push_len (a := a) (f := f) (n := n) (r := r) pre pile
      have : pre.length ≤ cs.length := by rw [eL, List.length_append]; omega
      obtain ⟨w8, k8, e⟩ := coin_turn (cs := cs) (f := f) ha hf (pile := push a f n r pre pile) (by omega) (n := n) (r := r) (c := c) (v4 := v4) (v7 := some (.val (.int (c : Int)))) g8
      exact ⟨_, _, sto (v := v7') rfl g7, e, some (.val (.int (c : Int))), w8, nt_v, k8, by rw [push_app]⟩)
    (η := EW cs a f pile v4 (some (.val (.int (n : Int)))) (some (.val (.int (r : Int)))) v7 v8) ⟨v7, v8, h7, h8, rfl⟩
  exact ⟨v7', v8', g7, g8, s_for (e_iter (e_var rfl) it_t) hl⟩
theorem ix_nat {n k : Nat} (h : k < n) : ixN n (k : Int) = some k := by
  unfold ixN
  rw [if_pos (by omega), if_pos (by omega), Int.toNat_natCast]
def TabM : MX Fl := (mSeq (mAsg (mUn minAD (mBor 3)) (gV 4))
    (mSeq (mDrop (mMeth remD 3 (mCons (mVar 4) mNil)))
    (mSeq (mAsg (mVar 4) (gTupD 2 (gConsD (gV 5) (gConsD (gV 6) gNilD))))
    (mIfS (mTru boolD (mOp isD (mOpV ixD 2 (mVar 6)) (mPure .none))) (mSeq (mSetIx 2 (mVar 5) (mVar 6))
    (mFor (mIter (mVar 0)) (gV 7) (mSeq (mAsg (mCa (fun xs => if xs.length ≤ sizeLine then some (.tuple xs) else none) (mCons (mOp addD (mVar 5) (mVar 7)) (mCons (mOp modD (mOp addD (mVar 6) (mVar 7)) (mVar 1)) mNil))) (gV 8))
    (mIfS (mAnd (mTru boolD (mOp isD (mOpV ixD 2 (mOp ixD (mVar 8) (mPure (.int 1)))) (mPure .none))) (mTru boolD (mOp notInD (mVar 8) (mBor 3)))) (mDrop (mMeth appendD 3 (mCons (mVar 8) mNil))) (mPure .nx))) [])) (mPure .nx)))))
theorem table_is : m_least_table = (mSeq (mParFF 2 3 (mOpL repD (mFz (mCaL (fun xs => if xs.length ≤ sizeLine then some xs else none) (mCons (mPure .none) mNil))) (mVar 1)) (mCaL (fun xs => if xs.length ≤ sizeLine then some xs else none) (mCons (mCa (fun xs => if xs.length ≤ sizeLine then some (.tuple xs) else none) (mCons (mPure (.int 0)) (mCons (mPure (.int 0)) mNil))) mNil)))
    (mSeq (mWhile (mTru boolD (mOpV neD 3 (mFz (mCaL (fun xs => if xs.length ≤ sizeLine then some xs else none) mNil)))) TabM [])
    (mRetV 2))) := rfl
def TabI (cs : List Nat) (a M : Nat) (n : Nat) (η : EnvD) : Prop := n ≤ 400 ∧ ∃ (f : List (Option Nat)) (pile : List (Nat × Nat)) (v4 v5 v6 v7 v8 : Option Slot), n = left cs f pile ∧ Dj cs a M f pile ∧ NT v4 ∧ NT v5 ∧ NT v6 ∧ NT v7 ∧ NT v8 ∧ η = EW cs a f pile v4 v5 v6 v7 v8
theorem least_tab {M : Nat} (hc : Coins cs) (ha : 1 ≤ a) (ha6 : a ≤ 60) (hM : ∀ c ∈ cs, c ≤ M) : ∃ f : List (Option Nat), fnV F_least_table [.tuple (enC cs), .int (a : Int)] = some (.ok (.l (enT f))) ∧ LT cs a f ∧ ∀ r n, f.getD r none = some n → n + M ≤ a * M := by
  have h5 := hc.five
  obtain ⟨η', hw, f, v4, v5, v6, v7, v8, dj, rfl⟩ := whileI (mt := (mTru boolD (mOpV neD 3 (mFz (mCaL (fun xs => if xs.length ≤ sizeLine then some xs else none) mNil))))) (ms := TabM)
    (fun η => ∃ (f : List (Option Nat)) (v4 v5 v6 v7 v8 : Option Slot), Dj cs a M f [] ∧ η = EW cs a f [] v4 v5 v6 v7 v8) (TabI cs a M)
    (by
      rintro n η ⟨hn, f, pile, v4, v5, v6, v7, v8, rfl, dj, h4, h5', h6, h7, h8, rfl⟩
      have cond : (mTru boolD (mOpV neD 3 (mFz (mCaL (fun xs => if xs.length ≤ sizeLine then some xs else none) mNil)))) (EW cs a f pile v4 v5 v6 v7 v8) = some (.ok (!(pile.map enP).isEmpty), EW cs a f pile v4 v5 v6 v7 v8) :=
        e_tru (e_opV (e_borO rfl) (e_fz (e_caL e_nil (lst_e (by simp)))) (e_borO rfl) (neD_nil (pile_shaped pile))) boolD_e
      cases hp : pile with
      | nil =>
        subst hp
        exact .inl ⟨_, cond, f, v4, v5, v6, v7, v8, dj, rfl⟩
      | cons x l =>
        rw [← hp]
        have hne : pile ≠ [] := by rw [hp]; exact fun z => by cases z
        have ct : (!(pile.map enP).isEmpty) = true := by rw [hp]; rfl
        obtain ⟨p, pm, emin, low⟩ := min_pile hne
        obtain ⟨j, erem, ej⟩ := rem_pile pm
        obtain ⟨pp, pr⟩ := dj.pp p pm
        have lt : p.2 < f.length := by rw [dj.len, ← pr]; exact Nat.mod_lt _ ha
        obtain ⟨o, ho⟩ : ∃ o, f[p.2]? = some o := ⟨_, List.getElem?_eq_getElem lt⟩
        have ixf : ixD (.list (enT f)) (.int (p.2 : Int)) = some (enO o) := ixD_l (enT_get ho)
        have pl : (pile.eraseIdx j).length ≤ 400 := by
          have := len_erase ej
          have : pile.length ≤ left cs f pile := Nat.le_add_left _ _
          omega
        have tst : (mTru boolD (mOp isD (mOpV ixD 2 (mVar 6)) (mPure .none))) (EW cs a f (pile.eraseIdx j) (some (.val (enP p))) (some (.val (.int (p.1 : Int)))) (some (.val (.int (p.2 : Int)))) v7 v8) = some (.ok o.isNone, EW cs a f (pile.eraseIdx j) (some (.val (enP p))) (some (.val (.int (p.1 : Int)))) (some (.val (.int (p.2 : Int)))) v7 v8) :=
          e_tru (e_op (e_opV (e_borO rfl) (e_var rfl) (e_borO rfl) ixf) e_pure (is_enO o)) boolD_e
        have s1 : (mAsg (mUn minAD (mBor 3)) (gV 4)) (EW cs a f pile v4 v5 v6 v7 v8) = some (.ok .nx, EW cs a f pile (some (.val (enP p))) v5 v6 v7 v8) := s_asg (e_un (e_borO rfl) emin) (sto (v := v4) rfl h4)
        have s2 : (mDrop (mMeth remD 3 (mCons (mVar 4) mNil))) (EW cs a f pile (some (.val (enP p))) v5 v6 v7 v8) = some (.ok .nx, EW cs a f (pile.eraseIdx j) (some (.val (enP p))) v5 v6 v7 v8) := s_drop (e_meth (o := false) (o' := false) rfl (e_cons (e_var rfl) e_nil) rfl erem)
        have s3 : (mAsg (mVar 4) (gTupD 2 (gConsD (gV 5) (gConsD (gV 6) gNilD)))) (EW cs a f (pile.eraseIdx j) (some (.val (enP p))) v5 v6 v7 v8) = some (.ok .nx, EW cs a f (pile.eraseIdx j) (some (.val (enP p))) (some (.val (.int (p.1 : Int)))) (some (.val (.int (p.2 : Int)))) v7 v8) := s_asg (e_var rfl) (gtup2 (v := v5) (w := v6) rfl h5' rfl h6 (by decide))
        cases o with
        | some k =>
          refine .inr ⟨_, _, left cs f (pile.eraseIdx j), by rw [← ct]; exact cond, ?_, left_old ej, ?_, f, pile.eraseIdx j, some (.val (enP p)), some (.val (.int (p.1 : Int))), some (.val (.int (p.2 : Int))), v7, v8, rfl, dj.old ej ho, nt_v, nt_v, nt_v, h7, h8, rfl⟩
          · unfold TabM
            exact s_seq s1 (s_seq s2 (s_seq s3 (s_ifF tst rfl e_pure)))
          · exact Nat.le_trans (Nat.le_of_lt (left_old ej)) hn
        | none =>
          have ln := left_new (C := cs) (a := a) (n := p.1) (r := p.2) (j := j) (p := p) (pile := pile) (f := f) ej ho p.2
          have sx : (mSetIx 2 (mVar 5) (mVar 6)) (EW cs a f (pile.eraseIdx j) (some (.val (enP p))) (some (.val (.int (p.1 : Int)))) (some (.val (.int (p.2 : Int)))) v7 v8) = some (.ok .nx, EW cs a (f.set p.2 (some p.1)) (pile.eraseIdx j) (some (.val (enP p))) (some (.val (.int (p.1 : Int)))) (some (.val (.int (p.2 : Int)))) v7 v8) := by
            have e := s_setIx (i := 2) (o := false) (o' := false) (m := mVar 5) (mi := mVar 6) (η := EW cs a f (pile.eraseIdx j) (some (.val (enP p))) (some (.val (.int (p.1 : Int)))) (some (.val (.int (p.2 : Int)))) v7 v8) (e_var rfl) rfl (e_var rfl) rfl (k := (p.2 : Int)) (n := p.2) (ix_nat (by unfold enT; rw [List.length_map]; exact lt))
            have es : (enT f).set p.2 (.int (p.1 : Int)) = enT (f.set p.2 (some p.1)) := by
              unfold enT
              rw [List.map_set]; rfl
            rw [es] at e
            exact e
          obtain ⟨w7, w8, k7, k8, lp⟩ := coins_loop (cs := cs) (a := a) (f := f.set p.2 (some p.1)) ha (by rw [List.length_set]; exact dj.len) (pile := pile.eraseIdx j) h5 (by omega) (n := p.1) (r := p.2) (v4 := some (.val (enP p))) h7 h8
          refine .inr ⟨_, _, left cs (f.set p.2 (some p.1)) (push a (f.set p.2 (some p.1)) p.1 p.2 cs (pile.eraseIdx j)), by rw [← ct]; exact cond, ?_, ln, ?_, f.set p.2 (some p.1), push a (f.set p.2 (some p.1)) p.1 p.2 cs (pile.eraseIdx j), some (.val (enP p)), some (.val (.int (p.1 : Int))), some (.val (.int (p.2 : Int))), w7, w8, rfl, dj.new hM ej low ho, nt_v, nt_v, nt_v, k7, k8, rfl⟩
          · unfold TabM
            exact s_seq s1 (s_seq s2 (s_seq s3 (s_ifT tst rfl (s_seq sx lp))))
          · exact Nat.le_trans (Nat.le_of_lt ln) hn)
    (left cs (List.replicate a none) [(0, 0)]) (EW cs a (List.replicate a none) [(0, 0)] none none none none none)
    ⟨by
      unfold left
      rw [List.length_replicate]
      have : (a - setl (List.replicate a none)) * (cs.length + 1) ≤ 60 * 6 := Nat.mul_le_mul (by omega) (by omega)
      show _ + 1 ≤ 400
      omega, _, _, none, none, none, none, none, rfl, Dj.start ha, nt_n, nt_n, nt_n, nt_n, nt_n, rfl⟩
  refine ⟨f, ?_, dj.done, fun r n h => dj.bound h⟩
  unfold F_least_table
  rw [table_is]
  have rep : repD (.list [.none]) (.int (a : Int)) = some (enT (List.replicate a none)) := by
    have e : (List.replicate (a : Int).toNat [PyData.none]).flatten = enT (List.replicate a none) := by
      rw [Int.toNat_natCast]
      unfold enT
      rw [List.map_replicate]
      show (List.replicate a [PyData.none]).flatten = List.replicate a PyData.none
      clear hw dj ha ha6
      induction a with
      | zero => rfl
      | succ a ih => rw [List.replicate_succ, List.flatten_cons, ih, List.replicate_succ]; rfl
    unfold repD
    exact (if_pos ⟨by omega, by omega, by rw [sizeLine_eq, Int.toNat_natCast]; simp; omega⟩).trans (congrArg some e)
  have par : (mParFF 2 3 (mOpL repD (mFz (mCaL (fun xs => if xs.length ≤ sizeLine then some xs else none) (mCons (mPure .none) mNil))) (mVar 1)) (mCaL (fun xs => if xs.length ≤ sizeLine then some xs else none) (mCons (mCa (fun xs => if xs.length ≤ sizeLine then some (.tuple xs) else none) (mCons (mPure (.int 0)) (mCons (mPure (.int 0)) mNil))) mNil))) [some (.val (.tuple (enC cs))), some (.val (.int (a : Int))), none, none, none, none, none, none, none]
      = some (.ok .nx, EW cs a (List.replicate a none) [(0, 0)] none none none none none) :=
    e_bind (e_opL (e_fz (e_caL (e_cons e_pure e_nil) (lst_e (by simp)))) (e_var rfl) rep) (e_bind (e_caL (e_cons (e_ca (e_cons e_pure (e_cons e_pure e_nil)) (tup_e (by simp))) e_nil) (lst_e (by simp))) rfl)
  exact fnV_run rfl (by decide) ⟨_, s_seq par (s_seq hw (s_retVO rfl))⟩
end
end G45
end
section
set_option Elab.async false
set_option linter.all false
set_option maxRecDepth 100000
set_option maxHeartbeats 4000000
namespace G45
open PySem L2 L2.DL
set_option autoImplicit false
open P41
/-! ### what is payable, the least by remainders, the divisor -/
theorem neg1 : negD (.int 1) = some (.int (-1)) := rfl
theorem atI_last {ds : List PyData} {z : PyData} (h : ds[ds.length - 1]? = some z) : atI ds (-1) = some z := by
  have hl := (List.getElem?_eq_some_iff.mp h).1
  unfold atI ixN
  rw [if_neg (by omega), if_pos (by omega)]
  have : ((-1 : Int) + (ds.length : Int)).toNat = ds.length - 1 := by omega
  rw [this]
  exact h
structure Top (cs : List Nat) (g : Nat) : Prop where
  mem : g ∈ cs
  le : ∀ c ∈ cs, c ≤ g
  ix : ixD (.tuple (enC cs)) (.int (-1)) = some (.int (g : Int))
  one : 1 ≤ g
  sixty : g ≤ 60
theorem top_of {cs : List Nat} (hc : Coins cs) : ∃ g, Top cs g := by
  have hl : cs.length - 1 < cs.length := by have := List.length_pos_iff.mpr hc.ne; omega
  refine ⟨cs[cs.length - 1], List.getElem_mem hl, fun c hm => ?_, atI_last (ds := enC cs) ?_, (hc.le _ (List.getElem_mem hl)).1, (hc.le _ (List.getElem_mem hl)).2⟩
  · obtain ⟨i, hi, rfl⟩ := List.getElem_of_mem hm
    by_cases e : i = cs.length - 1
    · subst e; exact Nat.le_refl _
    · exact Nat.le_of_lt (List.pairwise_iff_getElem.mp hc.up i (cs.length - 1) hi hl (by omega))
  · rw [enC_len]
    unfold enC
    rw [List.getElem?_map, List.getElem?_eq_getElem hl]
    rfl
/-- the coins, the first, the greatest, the table of the first -/
structure Kit (cs : List Nat) (b M : Nat) (f : List (Option Nat)) : Prop where
  coins : Coins cs
  bm : b ∈ cs
  ix : ixD (.tuple (enC cs)) (.int 0) = some (.int (b : Int))
  b1 : 1 ≤ b
  b60 : b ≤ 60
  top : Top cs M
  lt : LT cs b f
  fn : fnV F_least_table [.tuple (enC cs), .int (b : Int)] = some (.ok (.l (enT f)))
  bd : ∀ r n, f.getD r none = some n → n + M ≤ b * M
theorem kit_of {cs : List Nat} (hc : Coins cs) : ∃ b M f, Kit cs b M f := by
  obtain ⟨M, tp⟩ := top_of hc
  cases hcs : cs with
  | nil => exact absurd hcs hc.ne
  | cons b t =>
    rw [← hcs]
    have bm : b ∈ cs := by rw [hcs]; exact List.mem_cons_self
    have b1 := hc.le b bm
    obtain ⟨f, h1, h2, h3⟩ := least_tab (a := b) hc b1.1 b1.2 tp.le
    exact ⟨b, M, f, hc, bm, by rw [hcs]; exact ixD_t (k := 0) rfl, b1.1, b1.2, tp, h2, h1, h3⟩
theorem one_of {cs : List Nat} {b M : Nat} {f : List (Option Nat)} (K : Kit cs b M f) {a : Nat} (ha : a ∈ cs) : ∃ g, fnV F_least_table [.tuple (enC cs), .int (a : Int)] = some (.ok (.l (enT g))) ∧ LT cs a g ∧ ∀ r n, r < a → g.getD r none = some n → n < b * M := by
  have a1 := K.coins.le a ha
  obtain ⟨g, h1, h2, h3⟩ := least_tab (a := a) K.coins a1.1 a1.2 K.top.le
  refine ⟨g, h1, h2, fun r n hr hn => ?_⟩
  have il := h2.2 r hr
  rw [hn] at il
  exact least_small K.bm K.b1 K.lt K.bd ha a1.1 K.top.le il
section
variable {cs : List Nat} {b M : Nat} {f : List (Option Nat)} (K : Kit cs b M f)
include K
theorem can_ok {n : Int} : fnV F_can_pay [.tuple (enC cs), .int n] = some (.ok (.d (.bool (match f.getD (n % (b : Int)).toNat none with
  | none => false
  | some k => decide ((k : Int) ≤ n))))) := by
  have b1 := K.b1
  have m0 := Int.emod_nonneg n (show (b : Int) ≠ 0 by omega)
  have m1 := Int.emod_lt_of_pos n (show (0 : Int) < b by omega)
  obtain ⟨r, hr⟩ : ∃ r : Nat, n % (b : Int) = (r : Int) := ⟨(n % (b : Int)).toNat, by omega⟩
  have rl : r < f.length := by rw [K.lt.1]; omega
  rw [hr, Int.toNat_natCast]
  obtain ⟨o, ho⟩ : ∃ o, f[r]? = some o := ⟨_, List.getElem?_eq_getElem rl⟩
  have hg : f.getD r none = o := by rw [List.getD_eq_getElem?_getD, ho]; rfl
  rw [hg]
  have ixf : ixD (.list (enT f)) (.int (r : Int)) = some (enO o) := ixD_l (enT_get ho)
  have md : modD (.int n) (.int (b : Int)) = some (.int (r : Int)) := by rw [modD_e (by omega), hr]
  unfold F_can_pay m_can_pay
  have c1 := e_call (η := [some (.val (.tuple (enC cs))), some (.val (.int n)), none]) (ml := mCons (mVar 0) (mCons (mOp ixD (mVar 0) (mPure (.int 0))) mNil)) (f := fnV F_least_table) (e_cons (e_var rfl) (e_cons (e_op (e_var rfl) e_pure K.ix) e_nil)) K.fn
  have s1 : (mAsg (mOp ixD (mCall (fnV F_least_table) (mCons (mVar 0) (mCons (mOp ixD (mVar 0) (mPure (.int 0))) mNil))) (mOp modD (mVar 1) (mOp ixD (mVar 0) (mPure (.int 0))))) (gV 2)) [some (.val (.tuple (enC cs))), some (.val (.int n)), none] = some (.ok .nx, [some (.val (.tuple (enC cs))), some (.val (.int n)), some (.val (enO o))]) :=
    s_asg (e_op c1 (e_op (e_var rfl) (e_op (e_var rfl) e_pure K.ix) md) ixf) (sto (v := none) rfl nt_n)
  cases o with
  | none => exact fnV_run rfl (by decide) ⟨_, s_seq s1 (s_ret (e_andVF (b := false) (e_op (e_var rfl) e_pure (isn_enO none)) rfl))⟩
  | some k =>
    refine fnV_run rfl (by decide) ⟨_, s_seq s1 (s_ret (e_andVT (b := true) (e_op (e_var rfl) e_pure (isn_enO (some k))) rfl (e_chainT (b := true) e_pure (y := .int (k : Int)) (e_var rfl) (by rw [leD_e, decide_eq_true (by omega)]) rfl (e_var rfl) leD_e)))⟩
theorem payable_nat (n : Nat) : fnV F_payable [.tuple (enC cs), .int (n : Int)] = some (.ok (.d (.bool (pb cs n)))) := by
  have c := can_ok K (n := (n : Int))
  have e : ((n : Int) % (b : Int)).toNat = n % b := by
    rw [show (n : Int) % (b : Int) = ((n % b : Nat) : Int) from rfl, Int.toNat_natCast]
  rw [e] at c
  have pi := pay_iff K.bm (K.lt.2 (n % b) (Nat.mod_lt n K.b1))
  have pe : (match f.getD (n % b) none with
      | none => false
      | some k => decide ((k : Int) ≤ n)) = pb cs n := by
    rw [Bool.eq_iff_iff, pb_iff K.coins.pos, pi]
    cases f.getD (n % b) none with
    | none => exact ⟨fun h => (by cases h), fun ⟨k, h, _⟩ => (by cases h)⟩
    | some k => exact ⟨fun h => ⟨k, rfl, by simpa using h⟩, fun ⟨k', h, le⟩ => (by cases h; simpa using le)⟩
  rw [pe] at c
  unfold F_payable m_payable
  exact fnV_run rfl (by decide) ⟨_, s_seq (s_drop (e_call (e_cons (e_var rfl) e_nil) (need_coins K.coins))) (s_ret (e_call (e_cons (e_var rfl) (e_cons (e_var rfl) e_nil)) c))⟩
theorem payable_neg {n : Int} (h : n < 0) : fnV F_payable [.tuple (enC cs), .int n] = some (.ok (.d (.bool false))) := by
  have c := can_ok K (n := n)
  have pe : (match f.getD (n % (b : Int)).toNat none with
      | none => false
      | some k => decide ((k : Int) ≤ n)) = false := by
    cases f.getD (n % (b : Int)).toNat none with
    | none => rfl
    | some k => exact decide_eq_false (by omega)
  rw [pe] at c
  unfold F_payable m_payable
  exact fnV_run rfl (by decide) ⟨_, s_seq (s_drop (e_call (e_cons (e_var rfl) e_nil) (need_coins K.coins))) (s_ret (e_call (e_cons (e_var rfl) (e_cons (e_var rfl) e_nil)) c))⟩
omit K in
theorem divisor_ok (cs : List Nat) : fnV F_divisor_of [.tuple (enC cs)] = some (.ok (.d (.int (gcdL cs : Int)))) := by
  unfold F_divisor_of m_divisor_of
  obtain ⟨η', hl, v2, g2, rfl⟩ := loopP (L := cs) (enc := fun (c : Nat) => .int (c : Int)) (gm := gV 2) (ms := (mAsg (mCa gcdD (mCons (mVar 1) (mCons (mVar 2) mNil))) (gV 1)))
    (fun pre η => ∃ v2, NT v2 ∧ η = [some (.val (.tuple (enC cs))), some (.val (.int ((pre.foldl Nat.gcd 0 : Nat) : Int))), v2])
    (by
      rintro pre c post η eL ⟨v2, g2, rfl⟩
      refine ⟨_, _, sto (v := v2) rfl g2, s_asg (e_ca (z := .int ((Nat.gcd (pre.foldl Nat.gcd 0) c : Nat) : Int)) (e_cons (e_var rfl) (e_cons (e_var rfl) e_nil)) rfl) (sto (v := some (.val (.int ((pre.foldl Nat.gcd 0 : Nat) : Int)))) rfl nt_v), some (.val (.int (c : Int))), nt_v, ?_⟩
      rw [List.foldl_append]; rfl)
    (η := [some (.val (.tuple (enC cs))), some (.val (.int 0)), none]) ⟨none, nt_n, rfl⟩
  exact fnV_run rfl (by decide) ⟨_, s_seq (s_asg e_pure (sto (v := none) rfl nt_n)) (s_seq (s_for (e_iter (e_var rfl) it_t) hl) (s_retV rfl))⟩
end
end G45
end
section
set_option Elab.async false
set_option linter.all false
set_option maxRecDepth 100000
set_option maxHeartbeats 4000000
namespace G45
open PySem L2 L2.DL
set_option autoImplicit false
open P41
/-! ### what the law reckons: paid, the divisor, the least by remainders -/
theorem range_pre {N a : Nat} {pre post : List Nat} (e : List.range N = pre ++ a :: post) : a = pre.length ∧ pre.length < N := by
  have hl := congrArg List.length e
  rw [List.length_range, List.length_append, List.length_cons] at hl
  have lt : pre.length < N := by omega
  have h : (List.range N)[pre.length]? = (pre ++ a :: post)[pre.length]? := by rw [e]
  rw [List.getElem?_range lt, List.getElem?_append_right (Nat.le_refl _), Nat.sub_self] at h
  exact ⟨(Option.some.inj h).symm, lt⟩
theorem ptab_succ (cs : List Nat) (n : Nat) : ptab cs (n + 1) = ptab cs n ++ [pb cs (n + 1)] := by
  have e : ptab cs (n + 1) = ptab cs n ++ [cs.any fun c => decide (c ≤ n + 1) && (ptab cs n).getD (n + 1 - c) false] := rfl
  have p : pb cs (n + 1) = cs.any fun c => decide (c ≤ n + 1) && (ptab cs n).getD (n + 1 - c) false := by
    unfold pb
    rw [e, List.getD_eq_getElem?_getD, List.getElem?_append_right (by rw [ptab_len]; omega), ptab_len, Nat.sub_self]
    rfl
  rw [p]; exact e
theorem isEmpty_filter {α β : Type} (l : List α) (p : α → Bool) (f : α → β) : ((l.filter p).map f).isEmpty = !(l.any p) := by
  rw [Bool.eq_iff_iff]
  simp [List.isEmpty_iff, List.filter_eq_nil_iff]
theorem law_common (cs : List Nat) : fnV F__law_common [.tuple (enC cs)] = some (.ok (.d (.int (gcdL cs : Int)))) := by
  obtain ⟨η', hl, v2, v3, g2, g3, rfl⟩ := loopP (L := cs) (enc := fun (c : Nat) => .int (c : Int)) (gm := gV 2) (ms := (mSeq (mAsg (mUn absD (mVar 2)) (gV 3))
    (mWhile (mTru boolD (mOp gtD (mVar 3) (mPure (.int 0)))) (mPar 1 3 (mCons (mVar 3) (mCons (mOp modD (mUn intD (mVar 1)) (mVar 3)) mNil))) [])))
    (fun pre η => ∃ v2 v3, NT v2 ∧ NT v3 ∧ η = [some (.val (.tuple (enC cs))), some (.val (.int ((pre.foldl Nat.gcd 0 : Nat) : Int))), v2, v3])
    (by
      rintro pre c post η eL ⟨v2, v3, g2, g3, rfl⟩
      obtain ⟨η', hw, hP⟩ := whileI (mt := (mTru boolD (mOp gtD (mVar 3) (mPure (.int 0))))) (ms := (mPar 1 3 (mCons (mVar 3) (mCons (mOp modD (mUn intD (mVar 1)) (mVar 3)) mNil))))
        (fun η => η = [some (.val (.tuple (enC cs))), some (.val (.int ((Nat.gcd (pre.foldl Nat.gcd 0) c : Nat) : Int))), some (.val (.int (c : Int))), some (.val (.int ((0 : Nat) : Int)))])
        (fun n η => ∃ f o : Nat, o = n ∧ Nat.gcd f o = Nat.gcd (pre.foldl Nat.gcd 0) c ∧ η = [some (.val (.tuple (enC cs))), some (.val (.int (f : Int))), some (.val (.int (c : Int))), some (.val (.int (o : Int)))])
        (by
          rintro n η ⟨f, o, rfl, hg, rfl⟩
          by_cases h : 0 < o
          · refine .inr ⟨_, _, f % o, (e_tru (e_op (e_var rfl) e_pure gtD_e) boolD_e).trans (by rw [decide_eq_true (by omega)]), s_par (x := .int (o : Int)) (y := .int ((f % o : Nat) : Int)) (e_cons (e_var rfl) (e_cons (e_op (e_un (e_var rfl) rfl) (e_var rfl) (modD_e (i := (f : Int)) (j := (o : Int)) (by omega))) e_nil)) rfl, Nat.mod_lt _ h, o, f % o, rfl, ?_, rfl⟩
            rw [← hg, Nat.gcd_comm o (f % o), ← Nat.gcd_rec, Nat.gcd_comm]
          · have : o = 0 := by omega
            subst this
            refine .inl ⟨_, (e_tru (e_op (e_var rfl) e_pure gtD_e) boolD_e).trans (by rw [decide_eq_false (by omega)]), ?_⟩
            rw [Nat.gcd_zero_right] at hg
            rw [hg])
        c _ ⟨_, _, rfl, rfl, rfl⟩
      subst hP
      refine ⟨_, _, sto (v := v2) rfl g2, s_seq (s_asg (e_un (e_var rfl) (?_ : absD (.int (c : Int)) = some (.int (c : Int)))) (sto (v := v3) rfl g3)) hw, some (.val (.int (c : Int))), some (.val (.int ((0 : Nat) : Int))), nt_v, nt_v, ?_⟩
      · show some (PyData.int (if (c : Int) < 0 then -(c : Int) else (c : Int))) = _
        rw [if_neg (by omega)]
      · rw [List.foldl_append]; rfl)
    (η := [some (.val (.tuple (enC cs))), some (.val (.int 0)), none, none]) ⟨none, none, nt_n, nt_n, rfl⟩
  unfold F__law_common m__law_common
  exact fnV_run rfl (by decide) ⟨_, s_seq (s_asg e_pure (sto (v := none) rfl nt_n)) (s_seq (s_for (e_iter (e_var rfl) it_t) hl) (s_retV rfl))⟩
/-! ### ranges with a step -/
theorem rgN_nat {r l a : Nat} (ha : 0 < a) : rgN (r : Int) (l : Int) (a : Int) = if r < l then (l - r - 1) / a + 1 else 0 := by
  unfold rgN Builtin.Range.rangeSize
  rw [if_pos (by omega)]
  by_cases h : r < l
  · rw [if_pos (by omega), if_pos h]
    have : ((l : Int) - (r : Int) - 1) / (a : Int) + 1 = (((l - r - 1) / a + 1 : Nat) : Int) := by
      have e : ((l : Int) - (r : Int) - 1) = ((l - r - 1 : Nat) : Int) := by omega
      rw [e]; rfl
    rw [this, Int.toNat_natCast]
  · rw [if_neg (by omega), if_neg h]; rfl
theorem rg3_nat {r l a : Nat} (ha : 0 < a) (ha2 : a < 1000) (hr : r < 100000) (hl : l < 100000) : rg3ok (r : Int) (l : Int) (a : Int) = true := by
  have n := rgN_nat (r := r) (l := l) ha
  have bd : rgN (r : Int) (l : Int) (a : Int) ≤ 100000 := by
    rw [n]
    split
    · have := Nat.div_le_self (l - r - 1) a; omega
    · omega
  have rs : Builtin.Range.rangeSize (r : Int) (l : Int) (a : Int) = ((rgN (r : Int) (l : Int) (a : Int) : Nat) : Int) := by
    unfold rgN
    rw [Int.toNat_of_nonneg]
    unfold Builtin.Range.rangeSize
    rw [if_pos (by omega)]
    split
    · have := Int.ediv_nonneg (a := (l : Int) - r - 1) (b := a) (by omega) (by omega)
      omega
    · omega
  have sm : Builtin.Range.small (r : Int) (l : Int) (a : Int) = true := by
    unfold Builtin.Range.small
    rw [rs]
    simp only [Builtin.Range.rangeFitsLong, Bool.and_eq_true, Bool.or_eq_true, decide_eq_true_eq, beq_iff_eq, show ((a : Int) > 0) by omega, if_true]
    omega
  unfold rg3ok
  rw [sm, decide_eq_true (by omega), decide_eq_true (by omega), decide_eq_true (by omega)]; rfl
theorem rgC_nat {r l a : Nat} (ha : 0 < a) : rgCL (r : Int) (a : Int) (rgN (r : Int) (l : Int) (a : Int)) = (steps r l a).map fun (n : Nat) => PyData.int (n : Int) := by
  rw [rgN_nat ha]
  unfold rgCL steps
  rw [List.map_map]
  refine List.map_congr_left fun k _ => ?_
  show PyData.int ((r : Int) + (k : Int) * (a : Int)) = PyData.int ((r + k * a : Nat) : Int)
  congr 1
theorem range3_nat {r l a : Nat} (ha : 0 < a) (ha2 : a < 1000) (hr : r < 100000) (hl : l < 100000) : rangeD3 [.int (r : Int), .int (l : Int), .int (a : Int)] = some ((steps r l a).map fun (n : Nat) => PyData.int (n : Int)) := by
  rw [← rgC_nat ha]
  exact if_pos (rg3_nat ha ha2 hr hl)
theorem steps_len {r l a : Nat} : (steps r l a).length ≤ l := by
  unfold steps
  rw [List.length_map, List.length_range]
  split
  · have := Nat.div_le_self (l - r - 1) a; omega
  · omega
end G45
end
section
set_option Elab.async false
set_option linter.all false
set_option maxRecDepth 100000
set_option maxHeartbeats 4000000
namespace G45
open PySem L2 L2.DL
set_option autoImplicit false
open P41
/-! ### coins without a common divisor -/
theorem sum_cast {α : Type} (l : List α) (h : α → Nat) : (l.map fun r => ((h r : Nat) : Int)).sum = (((l.map h).sum : Nat) : Int) := by
  induction l with
  | nil => rfl
  | cons x t ih => rw [List.map_cons, List.sum_cons, ih, List.map_cons, List.sum_cons]; omega
theorem gcd_pos {cs : List Nat} (hc : Coins cs) : 1 ≤ gcdL cs := by
  cases h : cs with
  | nil => exact absurd h hc.ne
  | cons c t =>
    rw [← h]
    have m : c ∈ cs := by rw [h]; exact List.mem_cons_self
    exact Nat.pos_of_dvd_of_pos (gcdL_dvd c m) (hc.le c m).1
def due (cs : List Nat) (N : Nat) : Int := match (rest cs N)[(rest cs N).length - 1]? with
  | some s => (s : Int)
  | none => -1
theorem due_eq {cs : List Nat} {a N : Nat} {L : Nat → Nat} (A : All cs a N L) : maxI ((List.range a).map fun r => (L r : Int)) = due cs N + (a : Int) := by
  have ne : ((List.range a).map fun r => (L r : Int)) ≠ [] := fun z => by
    have := congrArg List.length z
    have a0 := A.a0
    simp at this
    omega
  obtain ⟨r0, h0, e0⟩ := List.mem_map.mp (maxI_mem ne)
  rw [List.mem_range] at h0
  have top : ∀ r, r < a → L r ≤ L r0 := fun r hr => by
    have := maxI_ge (List.mem_map.mpr ⟨r, List.mem_range.mpr hr, rfl⟩ : (L r : Int) ∈ (List.range a).map fun r => (L r : Int))
    rw [← e0] at this
    omega
  rw [← e0]
  unfold due
  rcases top_rest A ⟨r0, h0, rfl⟩ top with ⟨h1, h2⟩ | ⟨s, h1, h2, h3⟩
  · rw [h1]
    show (L r0 : Int) = -1 + (a : Int)
    omega
  · rw [h1]
    show (L r0 : Int) = (s : Int) + (a : Int)
    omega
theorem enT_all {a : Nat} {L : Nat → Nat} : enT ((List.range a).map fun r => some (L r)) = (List.range a).map fun r => PyData.int (L r : Int) := by
  unfold enT
  rw [List.map_map]; rfl
section
variable {cs : List Nat} {b M : Nat} {f : List (Option Nat)} (K : Kit cs b M f)
include K
theorem all_of (g1 : gcdL cs = 1) {a : Nat} (ha : a ∈ cs) : ∃ L : Nat → Nat, All cs a (b * M + 120) L ∧ fnV F_least_table [.tuple (enC cs), .int (a : Int)] = some (.ok (.l ((List.range a).map fun r => PyData.int (L r : Int)))) ∧ ∀ r, r < a → L r < b * M := by
  obtain ⟨g, h1, h2, h3⟩ := one_of K ha
  have a0 := (K.coins.le a ha).1
  have full : ∀ r, r < a → ∃ n, g.getD r none = some n := fun r hr => by
    have il := h2.2 r hr
    cases hg : g.getD r none with
    | some n => exact ⟨n, rfl⟩
    | none =>
      rw [hg] at il
      obtain ⟨p, hp, e⟩ := re_of (C := cs) (b := a) (n := r) a0 (by rw [g1]; exact Nat.one_dvd r)
      rw [Nat.mod_eq_of_lt hr] at e
      exact absurd e (il p hp)
  have gl : g = (List.range a).map fun r => some ((g.getD r none).getD 0) := by
    refine List.ext_getElem? fun r => ?_
    by_cases hr : r < a
    · obtain ⟨n, hn⟩ := full r hr
      rw [List.getElem?_map, List.getElem?_range hr, Option.map_some, hn]
      have e := List.getElem?_eq_getElem (l := g) (i := r) (by rw [h2.1]; exact hr)
      rw [List.getD_eq_getElem?_getD, e] at hn
      rw [e]
      exact congrArg some hn
    · rw [List.getElem?_eq_none (by rw [h2.1]; omega), List.getElem?_eq_none (by rw [List.length_map, List.length_range]; omega)]
  refine ⟨fun r => (g.getD r none).getD 0, ⟨ha, a0, K.coins.pos, fun r hr => ?_, fun r hr => ?_⟩, ?_, fun r hr => ?_⟩
  · have il := h2.2 r hr
    obtain ⟨n, hn⟩ := full r hr
    rw [hn] at il ⊢
    exact il
  · obtain ⟨n, hn⟩ := full r hr
    have := h3 r n hr hn
    rw [hn]
    show n ≤ b * M + 120
    omega
  · rw [h1]
    exact congrArg (fun x => some (R.ok (RV.l x))) ((congrArg enT gl).trans enT_all)
  · obtain ⟨n, hn⟩ := full r hr
    have := h3 r n hr hn
    show (g.getD r none).getD 0 < b * M
    rw [hn]
    exact this
theorem div_f : (mTru boolD (mOp gtD (mCall (fnV F_divisor_of) (mCons (mVar 0) mNil)) (mPure (.int 1)))) [some (.val (.tuple (enC cs)))] = some (.ok (decide (1 < gcdL cs)), [some (.val (.tuple (enC cs)))]) :=
  (e_tru (e_op (e_call (e_cons (e_var rfl) e_nil) (divisor_ok cs)) e_pure gtD_e) boolD_e).trans (by congr 3; exact decide_eq_decide.mpr (by constructor <;> intro h <;> omega))
theorem greatest_ok (g1 : gcdL cs = 1) : fnV F_greatest_unpaid [.tuple (enC cs)] = some (.ok (.d (.int (due cs (b * M + 120))))) := by
  obtain ⟨L, A, e, _⟩ := all_of K g1 K.bm
  have mx := maxL_e (List.range b) (fun r => (L r : Int)) (fun z => by
    have := congrArg List.length z
    have b1 := K.b1
    simp at this
    omega)
  rw [due_eq A] at mx
  have b1 := K.b1
  unfold F_greatest_unpaid m_greatest_unpaid
  refine fnV_run rfl (by decide) ⟨_, s_seq (s_drop (e_call (e_cons (e_var rfl) e_nil) (need_coins K.coins))) (s_seq (s_ifF (div_f K) (decide_eq_false (by omega)) e_pure) (s_ret (e_op (e_un (e_call (e_cons (e_var rfl) (e_cons (e_op (e_var rfl) e_pure K.ix) e_nil)) e) mx) (e_op (e_var rfl) e_pure K.ix) (?_ : subD _ _ = some (PyData.int (due cs (b * M + 120))))))) ⟩
  rw [subD_e]
  exact congrArg (fun z => some (PyData.int z)) (by omega)
theorem greatest_none (g1 : 1 < gcdL cs) : fnV F_greatest_unpaid [.tuple (enC cs)] = some (.ok (.d .none)) := by
  unfold F_greatest_unpaid m_greatest_unpaid
  exact fnV_run rfl (by decide) ⟨_, s_seq (s_drop (e_call (e_cons (e_var rfl) e_nil) (need_coins K.coins))) (s_seqR (s_ifT (div_f K) (decide_eq_true g1) (s_ret e_pure)))⟩
theorem count_none (g1 : 1 < gcdL cs) : fnV F_count_unpaid [.tuple (enC cs)] = some (.ok (.d .none)) := by
  unfold F_count_unpaid m_count_unpaid
  have dv : (mTru boolD (mOp gtD (mCall (fnV F_divisor_of) (mCons (mVar 0) mNil)) (mPure (.int 1)))) [some (.val (.tuple (enC cs))), none] = some (.ok true, [some (.val (.tuple (enC cs))), none]) :=
    (e_tru (e_op (e_call (e_cons (e_var rfl) e_nil) (divisor_ok cs)) e_pure gtD_e) boolD_e).trans (by rw [decide_eq_true (by omega)])
  exact fnV_run rfl (by decide) ⟨_, s_seq (s_drop (e_call (e_cons (e_var rfl) e_nil) (need_coins K.coins))) (s_seqR (s_ifT dv rfl (s_ret e_pure)))⟩
theorem count_ok (g1 : gcdL cs = 1) : fnV F_count_unpaid [.tuple (enC cs)] = some (.ok (.d (.int ((rest cs (b * M + 120)).length : Int)))) := by
  obtain ⟨L, A, e, _⟩ := all_of K g1 K.bm
  have b1 := K.b1
  have b60 := K.b60
  have dv : (mTru boolD (mOp gtD (mCall (fnV F_divisor_of) (mCons (mVar 0) mNil)) (mPure (.int 1)))) [some (.val (.tuple (enC cs))), none] = some (.ok false, [some (.val (.tuple (enC cs))), none]) :=
    (e_tru (e_op (e_call (e_cons (e_var rfl) e_nil) (divisor_ok cs)) e_pure gtD_e) boolD_e).trans (by rw [decide_eq_false (by omega)])
  have cm := compA (L := List.range b) (enc := fun r => .int (L r : Int)) (out := fun r => .int ((L r / b : Nat) : Int)) (gm := gV 1) (vs := [1]) (mi := (mIter (mCall (fnV F_least_table) (mCons (mVar 0) (mCons (mOp ixD (mVar 0) (mPure (.int 0))) mNil))))) (me := (mOp fdivD (mVar 1) (mOp ixD (mVar 0) (mPure (.int 0))))) (η := [some (.val (.tuple (enC cs))), none]) (e := fun r => [some (.val (.tuple (enC cs))), some (.val (.int (L r : Int)))])
    (e_iter (η := [some (.val (.tuple (enC cs))), none]) (e_call (e_cons (e_var rfl) (e_cons (e_op (e_var rfl) e_pure K.ix) e_nil)) e) it_l) rfl (fun _ => rfl) (fun _ => rfl) (small (by rw [List.length_range]; omega)) (fun r _ => e_op (e_var rfl) (e_op (e_var rfl) e_pure K.ix) (fdivD_e (by omega) (by omega)))
  have sm := sumL_e (List.range b) (fun r => ((L r / b : Nat) : Int))
  rw [sum_cast, ← count_rest A] at sm
  unfold F_count_unpaid m_count_unpaid
  exact fnV_run rfl (by decide) ⟨_, s_seq (s_drop (e_call (e_cons (e_var rfl) e_nil) (need_coins K.coins))) (s_seq (s_ifF dv rfl e_pure) (s_ret (e_un (e_fz cm) sm)))⟩
omit K in
theorem flat_len {L : Nat → Nat} {a B : Nat} : ∀ (l : List Nat), (∀ r ∈ l, L r ≤ B) → (l.flatMap fun r => steps r (L r) a).length ≤ l.length * B
  | [], _ => Nat.zero_le _
  | r :: l, h => by
    rw [List.flatMap_cons, List.length_append, List.length_cons, Nat.succ_mul]
    have h1 := steps_len (r := r) (l := L r) (a := a)
    have h2 := h r List.mem_cons_self
    have h3 := flat_len (a := a) l fun s hs => h s (List.mem_cons_of_mem _ hs)
    omega
theorem gaps_ok (g1 : gcdL cs = 1) : fnV F_gaps [.tuple (enC cs)] = some (.ok (.l ((rest cs (b * M + 120)).map fun (n : Nat) => PyData.int (n : Int)))) := by
  obtain ⟨L, A, e, lb⟩ := all_of K g1 K.bm
  have b1 := K.b1
  have b60 := K.b60
  have M60 := K.top.sixty
  have bM : b * M ≤ 60 * 60 := Nat.mul_le_mul b60 M60
  have en : enumD [.list ((List.range b).map fun r => PyData.int (L r : Int))] = some ((List.range b).map fun (r : Nat) => .tuple [.int (r : Int), .int (L r : Int)]) := by
    show some ((List.range ((List.range b).map fun r => PyData.int (L r : Int)).length).map _) = _
    rw [List.length_map, List.length_range]
    refine congrArg some ?_
    refine List.map_congr_left fun r hr => ?_
    rw [List.mem_range] at hr
    rw [List.getD_eq_getElem?_getD, List.getElem?_map, List.getElem?_range hr]; rfl
  obtain ⟨η', hl, v2, v3, g2, g3, rfl⟩ := loopP (L := List.range b) (enc := fun (r : Nat) => .tuple [.int (r : Int), .int (L r : Int)]) (gm := (gTupD 2 (gConsD (gV 2) (gConsD (gV 3) gNilD)))) (ms := (mDrop (mMeth extendD 1 (mCons (mFz (mCaL rg3L (mCons (mVar 2) (mCons (mVar 3) (mCons (mOp ixD (mVar 0) (mPure (.int 0))) mNil))))) mNil))))
    (fun pre η => ∃ v2 v3, NT v2 ∧ NT v3 ∧ η = [some (.val (.tuple (enC cs))), some (.own false ((pre.flatMap fun r => steps r (L r) b).map fun (n : Nat) => PyData.int (n : Int))), v2, v3])
    (by
      rintro pre r post η eL ⟨v2, v3, g2, g3, rfl⟩
      obtain ⟨hr, lt⟩ := range_pre eL
      have rb : r < b := by omega
      have lr := lb r rb
      have fl := flat_len (L := L) (a := b) (B := 3600) pre (fun s hs => by
        have : s ∈ List.range b := by rw [eL]; exact List.mem_append_left _ hs
        have := lb s (List.mem_range.mp this)
        omega)
      have fl2 : pre.length * 3600 ≤ 60 * 3600 := Nat.mul_le_mul (by omega) (Nat.le_refl _)
      have ex : extendD ((pre.flatMap fun r => steps r (L r) b).map fun (n : Nat) => PyData.int (n : Int)) [.list ((steps r (L r) b).map fun (n : Nat) => PyData.int (n : Int))] = some (.none, ((pre ++ [r]).flatMap fun r => steps r (L r) b).map fun (n : Nat) => PyData.int (n : Int)) := by
        unfold extendD
        have sl := steps_len (r := r) (l := L r) (a := b)
        rw [List.flatMap_append, List.map_append]
        simp only [List.flatMap_cons, List.flatMap_nil, List.append_nil]
        exact if_pos (by rw [List.length_map, List.length_map, sizeLine_eq]; omega)
      exact ⟨_, _, gtup2 (v := v2) (w := v3) rfl g2 rfl g3 (by decide), s_drop (e_meth (i := 1) (o := false) rfl (e_cons (e_fz (e_caL (e_cons (e_var rfl) (e_cons (e_var rfl) (e_cons (e_op (e_var rfl) e_pure K.ix) e_nil))) (range3_nat (by omega) (by omega) (by omega) (by omega)))) e_nil) rfl ex), _, _, nt_v, nt_v, rfl⟩)
    (η := [some (.val (.tuple (enC cs))), some (.own false []), none, none]) ⟨none, none, nt_n, nt_n, rfl⟩
  have so : sortedD (.list (((List.range b).flatMap fun r => steps r (L r) b).map fun (n : Nat) => PyData.int (n : Int))) = some ((rest cs (b * M + 120)).map fun (n : Nat) => PyData.int (n : Int)) := by
    have e1 : (((List.range b).flatMap fun r => steps r (L r) b).map fun (n : Nat) => PyData.int (n : Int)) = (((List.range b).flatMap fun r => steps r (L r) b).map fun (n : Nat) => (n : Int)).map PyData.int := by rw [List.map_map]; rfl
    rw [e1]
    show (intsD _).map _ = _
    rw [intsD_map, Option.map_some]
    refine congrArg some ?_
    have e2 := sortI_eq (ns := ((List.range b).flatMap fun r => steps r (L r) b).map fun (n : Nat) => (n : Int)) (ms := (rest cs (b * M + 120)).map fun (n : Nat) => (n : Int)) ((gap_perm A).symm.map _) (by
      rw [List.pairwise_map]
      exact rest_up.imp fun h => by omega)
    rw [← e2, List.map_map]; rfl
  unfold F_gaps m_gaps
  exact fnV_run rfl (by decide) ⟨_, s_seq (s_drop (e_call (e_cons (e_var rfl) e_nil) (need_coins K.coins))) (s_seq (s_asgL (e_caL e_nil (lst_e (by simp))) (sto (v := none) rfl nt_n)) (s_seq (s_for (e_gIt (e_cons (e_call (e_cons (e_var rfl) (e_cons (e_op (e_var rfl) e_pure K.ix) e_nil)) e) e_nil) en) hl) (s_retL (e_unL (e_borO rfl) so))))⟩
end
end G45
end
section
set_option autoImplicit false
/-! fewest coins: the table, the exchange, the period -/
namespace P44
/-- one more than the least -/
def mini : List Nat → Option Nat
  | [] => none
  | x :: r => some (1 + r.foldl min x)
def wayO (t : List (Option Nat)) (c : Nat) : Option Nat := if c ≤ t.length then t.getD (t.length - c) none else none
def nxt (cs : List Nat) (t : List (Option Nat)) : Option Nat := mini (cs.filterMap (wayO t))
def tab (cs : List Nat) : Nat → List (Option Nat)
  | 0 => [some 0]
  | n + 1 => tab cs n ++ [nxt cs (tab cs n)]
def best (cs : List Nat) (n : Nat) : Option Nat := (tab cs n).getD n none
section
variable {cs : List Nat}
theorem tab_len : ∀ n, (tab cs n).length = n + 1
  | 0 => rfl
  | n + 1 => by rw [tab, List.length_append, tab_len n]; rfl
theorem tab_get {m : Nat} : ∀ {n i : Nat}, i ≤ n → (tab cs n)[i]? = some (best cs i)
  | 0, i, h => by
    have : i = 0 := by omega
    subst this
    rfl
  | n + 1, i, h => by
    rw [tab]
    by_cases e : i = n + 1
    · subst e
      rw [List.getElem?_append_right (by rw [tab_len]; omega), tab_len]
      unfold best
      rw [tab, List.getD_eq_getElem?_getD, List.getElem?_append_right (by rw [tab_len]; omega), tab_len]
      simp
    · rw [List.getElem?_append_left (by rw [tab_len]; omega)]
      exact tab_get (m := m) (by omega)
theorem tab_getD {n i : Nat} (h : i ≤ n) : (tab cs n).getD i none = best cs i := by
  rw [List.getD_eq_getElem?_getD, tab_get (m := 0) h]; rfl
theorem tab_take : ∀ {n m : Nat}, n ≤ m → (tab cs m).take (n + 1) = tab cs n
  | n, 0, h => by
    have : n = 0 := by omega
    subst this; rfl
  | n, m + 1, h => by
    by_cases e : n = m + 1
    · subst e
      exact List.take_of_length_le (by rw [tab_len]; omega)
    · rw [tab, List.take_append_of_le_length (by rw [tab_len]; omega)]
      exact tab_take (by omega)
theorem best_zero : best cs 0 = some 0 := rfl
theorem best_succ (n : Nat) : best cs (n + 1) = mini (cs.filterMap fun c => if c ≤ n + 1 then (tab cs n).getD (n + 1 - c) none else none) := by
  have : best cs (n + 1) = nxt cs (tab cs n) := by
    unfold best
    rw [tab, List.getD_eq_getElem?_getD, List.getElem?_append_right (by rw [tab_len]; omega), tab_len]
    simp
  rw [this]
  unfold nxt
  congr 1
  congr 1
  funext c
  unfold wayO
  rw [tab_len]
/-- n in k coins -/
inductive Rep (cs : List Nat) : Nat → Nat → Prop where
  | zero : Rep cs 0 0
  | step {c n k : Nat} : c ∈ cs → Rep cs n k → Rep cs (n + c) (k + 1)
theorem foldl_min_le : ∀ (l : List Nat) (x : Nat), l.foldl min x ≤ x ∧ ∀ y ∈ l, l.foldl min x ≤ y
  | [], x => ⟨Nat.le_refl _, fun y h => (by cases h)⟩
  | a :: l, x => by
    obtain ⟨h1, h2⟩ := foldl_min_le l (min x a)
    refine ⟨Nat.le_trans h1 (Nat.min_le_left _ _), fun y h => ?_⟩
    rcases List.mem_cons.mp h with e | e
    · subst e; exact Nat.le_trans h1 (Nat.min_le_right _ _)
    · exact h2 y e
theorem foldl_min_mem : ∀ (l : List Nat) (x : Nat), l.foldl min x = x ∨ l.foldl min x ∈ l
  | [], x => .inl rfl
  | a :: l, x => by
    rcases foldl_min_mem l (min x a) with h | h
    · rw [List.foldl_cons, h]
      rcases Nat.le_total x a with e | e
      · exact .inl (Nat.min_eq_left e)
      · rw [Nat.min_eq_right e]; exact .inr List.mem_cons_self
    · exact .inr (List.mem_cons_of_mem _ h)
theorem mini_some {l : List Nat} {k : Nat} (h : mini l = some k) : ∃ x ∈ l, k = x + 1 ∧ ∀ y ∈ l, x ≤ y := by
  cases l with
  | nil => cases h
  | cons a l =>
    simp only [mini, Option.some.injEq] at h
    refine ⟨l.foldl min a, ?_, by omega, fun y hy => ?_⟩
    · rcases foldl_min_mem l a with e | e
      · rw [e]; exact List.mem_cons_self
      · exact List.mem_cons_of_mem _ e
    · rcases List.mem_cons.mp hy with e | e
      · subst e; exact (foldl_min_le l y).1
      · exact (foldl_min_le l a).2 y e
theorem mini_none {l : List Nat} (h : mini l = none) : l = [] := by
  cases l with
  | nil => rfl
  | cons a l => cases h
theorem best_spec (hp : ∀ c ∈ cs, 1 ≤ c) : ∀ n : Nat, (∀ k, best cs n = some k → Rep cs n k ∧ ∀ j, Rep cs n j → k ≤ j) ∧ (best cs n = none → ∀ j, ¬ Rep cs n j) := by
  intro n
  induction n using Nat.strongRecOn with
  | ind n ih =>
    cases n with
    | zero =>
      rw [best_zero]
      exact ⟨fun k h => by cases h; exact ⟨.zero, fun j _ => Nat.zero_le _⟩, fun h => by cases h⟩
    | succ n =>
      rw [best_succ]
      have way : ∀ {x : Nat}, x ∈ (cs.filterMap fun c => if c ≤ n + 1 then (tab cs n).getD (n + 1 - c) none else none) ↔ ∃ c ∈ cs, c ≤ n + 1 ∧ best cs (n + 1 - c) = some x := by
        intro x
        rw [List.mem_filterMap]
        constructor
        · rintro ⟨c, hc, e⟩
          split at e
          · rename_i hle
            have := hp c hc
            rw [tab_getD (by omega)] at e
            exact ⟨c, hc, hle, e⟩
          · cases e
        · rintro ⟨c, hc, hle, e⟩
          have := hp c hc
          exact ⟨c, hc, by rw [if_pos hle, tab_getD (by omega)]; exact e⟩
      -- a last coin
      have last : ∀ {j : Nat}, Rep cs (n + 1) j → ∃ c ∈ cs, c ≤ n + 1 ∧ ∃ i, j = i + 1 ∧ Rep cs (n + 1 - c) i := by
        intro j h
        generalize hm : n + 1 = m at h
        cases h with
        | zero => omega
        | @step c n' k hc h' => exact ⟨c, hc, by omega, k, rfl, by rw [Nat.add_sub_cancel]; exact h'⟩
      refine ⟨fun k h => ?_, fun h j hj => ?_⟩
      · obtain ⟨x, hx, rfl, hmin⟩ := mini_some h
        obtain ⟨c, hc, hle, e⟩ := way.mp hx
        have hc1 := hp c hc
        obtain ⟨r, _⟩ := (ih (n + 1 - c) (by omega)).1 x e
        refine ⟨?_, fun j hj => ?_⟩
        · have := Rep.step hc r
          rwa [Nat.sub_add_cancel hle] at this
        · obtain ⟨c', hc', hle', i, rfl, r'⟩ := last hj
          have hc1' := hp c' hc'
          cases e' : best cs (n + 1 - c') with
          | none => exact absurd r' ((ih (n + 1 - c') (by omega)).2 e' i)
          | some y =>
            have a := ((ih (n + 1 - c') (by omega)).1 y e').2 i r'
            have b := hmin y (way.mpr ⟨c', hc', hle', e'⟩)
            omega
      · have e0 := mini_none h
        obtain ⟨c', hc', hle', i, rfl, r'⟩ := last hj
        have hc1' := hp c' hc'
        cases e' : best cs (n + 1 - c') with
        | none => exact (ih (n + 1 - c') (by omega)).2 e' i r'
        | some y =>
          have := way.mpr ⟨c', hc', hle', e'⟩
          rw [e0] at this
          cases this
/-! the exchange -/
theorem pigeon : ∀ (g : Nat) (f : Nat → Nat), (∀ i, i ≤ g → f i < g) → ∃ i j, i < j ∧ j ≤ g ∧ f i = f j
  | 0, f, h => absurd (h 0 (Nat.le_refl _)) (by omega)
  | g + 1, f, h => by
    by_cases hv : ∃ i, i ≤ g ∧ f i = f (g + 1)
    · obtain ⟨i, h1, h2⟩ := hv
      exact ⟨i, g + 1, by omega, Nat.le_refl _, h2⟩
    · have hn : ∀ i, i ≤ g → f i ≠ f (g + 1) := fun i hi e => hv ⟨i, hi, e⟩
      obtain ⟨i, j, h1, h2, h3⟩ := pigeon g (fun i => if f i = g then f (g + 1) else f i) fun i hi => by
        have a := h i (by omega)
        have b := h (g + 1) (Nat.le_refl _)
        have c := hn i hi
        show (if f i = g then f (g + 1) else f i) < g
        split <;> omega
      refine ⟨i, j, h1, by omega, ?_⟩
      have a := hn i (by omega)
      have b := hn j h2
      have h3 : (if f i = g then f (g + 1) else f i) = (if f j = g then f (g + 1) else f j) := h3
      split at h3 <;> split at h3 <;> omega
theorem rep_list {n k : Nat} (h : Rep cs n k) : ∃ l : List Nat, (∀ c ∈ l, c ∈ cs) ∧ l.sum = n ∧ l.length = k := by
  induction h with
  | zero => exact ⟨[], (fun c h => by cases h), rfl, rfl⟩
  | @step c n k hc _ ih =>
    obtain ⟨l, a, b, d⟩ := ih
    exact ⟨c :: l, fun x hx => (by rcases List.mem_cons.mp hx with e | e; exact e ▸ hc; exact a x e), by rw [List.sum_cons, b]; omega, by rw [List.length_cons, d]⟩
theorem rep_of : ∀ {l : List Nat}, (∀ c ∈ l, c ∈ cs) → Rep cs l.sum l.length
  | [], _ => .zero
  | c :: l, h => by
    have := Rep.step (h c List.mem_cons_self) (rep_of (l := l) fun x hx => h x (List.mem_cons_of_mem _ hx))
    rw [List.sum_cons, List.length_cons, Nat.add_comm c]
    exact this
theorem sum_le {m : Nat} : ∀ {l : List Nat}, (∀ c ∈ l, c ≤ m) → l.sum ≤ l.length * m
  | [], _ => by simp
  | c :: l, h => by
    have a := h c List.mem_cons_self
    have b := sum_le (l := l) fun x hx => h x (List.mem_cons_of_mem _ hx)
    rw [List.sum_cons, List.length_cons, Nat.add_mul]
    omega
theorem sum_pos : ∀ {l : List Nat}, (∀ c ∈ l, 1 ≤ c) → l.length ≤ l.sum
  | [], _ => by simp
  | c :: l, h => by
    have a := h c List.mem_cons_self
    have b := sum_pos (l := l) fun x hx => h x (List.mem_cons_of_mem _ hx)
    rw [List.sum_cons, List.length_cons]
    omega
theorem swap {g n k : Nat} (hp : ∀ c ∈ cs, 1 ≤ c) (hg : g ∈ cs) (hm : ∀ c ∈ cs, c ≤ g) (hn : (g - 1) * (g - 1) < n) (h : Rep cs n k) : ∃ j, j + 1 ≤ k ∧ g ≤ n ∧ Rep cs (n - g) j := by
  obtain ⟨l, hl, rfl, rfl⟩ := rep_list h
  have hg1 := hp g hg
  by_cases hin : g ∈ l
  · obtain ⟨a, b, rfl⟩ := List.append_of_mem hin
    have r := rep_of (cs := cs) (l := a ++ b) fun c hc => hl c (by
      rcases List.mem_append.mp hc with e | e
      · exact List.mem_append_left _ e
      · exact List.mem_append_right _ (List.mem_cons_of_mem _ e))
    have e : (a ++ g :: b).sum - g = (a ++ b).sum := by rw [List.sum_append, List.sum_append, List.sum_cons]; omega
    refine ⟨(a ++ b).length, by rw [List.length_append, List.length_append, List.length_cons]; omega, by rw [List.sum_append, List.sum_cons]; omega, ?_⟩
    rw [e]
    exact r
  · have hlt : ∀ c ∈ l, c ≤ g - 1 := fun c hc => by
      have a := hm c (hl c hc)
      have : c ≠ g := fun e => hin (e ▸ hc)
      omega
    have hlen : g ≤ l.length := by
      have a := sum_le hlt
      by_cases z : l.length ≤ g - 1
      · have := Nat.mul_le_mul_right (g - 1) z
        omega
      · omega
    obtain ⟨i, j, h1, h2, h3⟩ := pigeon g (fun i => (l.take i).sum % g) fun i _ => Nat.mod_lt _ hg1
    -- l = take i ++ seg ++ drop j
    have e1 : l.take j = l.take i ++ (l.take j).drop i := by
      have := (List.take_append_drop i (l.take j)).symm
      rwa [List.take_take, Nat.min_eq_left (by omega)] at this
    have e2 : l = l.take i ++ ((l.take j).drop i ++ l.drop j) := by
      have := (List.take_append_drop j l).symm
      rw [e1] at this
      rw [List.append_assoc] at this
      exact this
    have hseg : ∀ c ∈ (l.take j).drop i, c ∈ l := fun c hc => List.mem_of_mem_take (List.mem_of_mem_drop hc)
    have s1 : (l.take j).sum = (l.take i).sum + ((l.take j).drop i).sum := by
      have := congrArg List.sum e1
      rwa [List.sum_append] at this
    have L1 : ((l.take j).drop i).length = j - i := by rw [List.length_drop, List.length_take]; omega
    have b1 := sum_le (l := (l.take j).drop i) fun c hc => hlt c (hseg c hc)
    have b2 := sum_pos (l := (l.take j).drop i) fun c hc => hp c (hl c (hseg c hc))
    rw [L1] at b1 b2
    -- the segment's sum is a multiple of g
    obtain ⟨q, hq⟩ : ∃ q, ((l.take j).drop i).sum = g * q := by
      have h3 : (l.take i).sum % g = (l.take j).sum % g := h3
      rw [s1] at h3
      have d := Nat.div_add_mod ((l.take i).sum) g
      have d2 := Nat.div_add_mod ((l.take i).sum + ((l.take j).drop i).sum) g
      refine ⟨((l.take i).sum + ((l.take j).drop i).sum) / g - (l.take i).sum / g, ?_⟩
      rw [Nat.mul_sub]
      omega
    have hq1 : 1 ≤ q := by
      rcases Nat.eq_zero_or_pos q with e | e
      · subst e; omega
      · exact e
    have hqL : q < j - i := by
      have : g * q ≤ (j - i) * (g - 1) := by omega
      have h4 : (j - i) * (g - 1) < (j - i) * g := Nat.mul_lt_mul_of_pos_left (by omega) (by omega)
      have h5 : q * g < (j - i) * g := by rw [Nat.mul_comm q g]; omega
      exact Nat.lt_of_mul_lt_mul_right h5
    -- the new list, one g taken away
    have r := rep_of (cs := cs) (l := l.take i ++ (List.replicate (q - 1) g ++ l.drop j)) fun c hc => by
      rcases List.mem_append.mp hc with e | e
      · exact hl c (List.mem_of_mem_take e)
      · rcases List.mem_append.mp e with e | e
        · rw [List.eq_of_mem_replicate e]; exact hg
        · exact hl c (List.mem_of_mem_drop e)
    have sl : l.sum = (l.take i).sum + (((l.take j).drop i).sum + (l.drop j).sum) := by
      have := congrArg List.sum e2
      rwa [List.sum_append, List.sum_append] at this
    have ll : l.length = i + ((j - i) + (l.drop j).length) := by rw [List.length_drop]; omega
    have gq : g * q = g * (q - 1) + g := by
      obtain ⟨p, rfl⟩ : ∃ p, q = p + 1 := ⟨q - 1, by omega⟩
      rw [Nat.add_sub_cancel, Nat.mul_add, Nat.mul_one]
    have sr : (l.take i ++ (List.replicate (q - 1) g ++ l.drop j)).sum = l.sum - g := by
      rw [List.sum_append, List.sum_append, List.sum_replicate_nat, sl, hq, gq, Nat.mul_comm (q - 1) g]
      omega
    have lr : (l.take i ++ (List.replicate (q - 1) g ++ l.drop j)).length = i + ((q - 1) + (l.drop j).length) := by
      rw [List.length_append, List.length_append, List.length_replicate, List.length_take]
      omega
    rw [sr, lr] at r
    refine ⟨_, ?_, ?_, r⟩
    · omega
    · rw [sl, hq, gq]; omega
/-- far out the greatest coin is one of the fewest -/
theorem best_far {g n : Nat} (hp : ∀ c ∈ cs, 1 ≤ c) (hg : g ∈ cs) (hm : ∀ c ∈ cs, c ≤ g) (hn : (g - 1) * (g - 1) < n + g) : best cs (n + g) = (best cs n).map (· + 1) := by
  obtain ⟨a1, a2⟩ := best_spec hp (n + g)
  obtain ⟨b1, b2⟩ := best_spec hp n
  cases eb : best cs n with
  | none =>
    cases ea : best cs (n + g) with
    | none => rfl
    | some k =>
      obtain ⟨j, _, _, r⟩ := swap hp hg hm hn (a1 k ea).1
      rw [Nat.add_sub_cancel] at r
      exact absurd r (b2 eb j)
  | some k =>
    have r := Rep.step hg (b1 k eb).1
    cases ea : best cs (n + g) with
    | none => exact absurd r (a2 ea _)
    | some m =>
      have h1 := (a1 m ea).2 _ r
      obtain ⟨j, hj, _, r2⟩ := swap hp hg hm hn (a1 m ea).1
      rw [Nat.add_sub_cancel] at r2
      have h2 := (b1 k eb).2 j r2
      show some m = some (k + 1)
      congr 1
      omega
theorem best_times {g : Nat} (hp : ∀ c ∈ cs, 1 ≤ c) (hg : g ∈ cs) (hm : ∀ c ∈ cs, c ≤ g) : ∀ (t n : Nat), ((g - 1) * (g - 1) < n + g ∨ t = 0) → best cs (n + t * g) = (best cs n).map (· + t)
  | 0, n, _ => by
    rw [Nat.zero_mul, Nat.add_zero]
    cases best cs n <;> rfl
  | t + 1, n, h => by
    have h : (g - 1) * (g - 1) < n + g := by omega
    have e : n + (t + 1) * g = (n + t * g) + g := by rw [Nat.add_mul, Nat.one_mul]; omega
    rw [e, best_far hp hg hm (by have := Nat.zero_le (t * g); omega), best_times hp hg hm t n (.inl h)]
    cases best cs n with
    | none => rfl
    | some k => show some (k + t + 1) = some (k + (t + 1)); rfl
/-- with a coin of one all is paid -/
theorem best_one (hp : ∀ c ∈ cs, 1 ≤ c) (h1 : 1 ∈ cs) (n : Nat) : ∃ k, best cs n = some k ∧ k ≤ n := by
  have r : Rep cs n n := by
    induction n with
    | zero => exact .zero
    | succ n ih => exact Rep.step h1 ih
  cases e : best cs n with
  | none => exact absurd r ((best_spec hp n).2 e n)
  | some k => exact ⟨k, rfl, ((best_spec hp n).1 k e).2 n r⟩
theorem best_le (hp : ∀ c ∈ cs, 1 ≤ c) {n k : Nat} (e : best cs n = some k) : k ≤ n := by
  obtain ⟨l, a, b, c⟩ := rep_list ((best_spec hp n).1 k e).1
  have := sum_pos (l := l) fun x hx => hp x (a x hx)
  omega
/-- no smaller step comes round -/
theorem no_less {b : Nat → Int} {g less far : Nat} {c : Int} (h0 : 0 < less) (hl : less < g) (hg : ∀ n, far ≤ n → b (n + g) = b n + 1) (hc : ∀ n, far ≤ n → n < far + g → b (n + less) = b n + c) : False := by
  have all : ∀ n, far ≤ n → b (n + less) = b n + c := by
    intro n
    induction n using Nat.strongRecOn with
    | ind n ih =>
      intro hn
      by_cases h : n < far + g
      · exact hc n hn h
      · have a := ih (n - g) (by omega) (by omega)
        have x := hg (n - g + less) (by omega)
        have y := hg (n - g) (by omega)
        have e1 : n - g + less + g = n + less := by omega
        have e2 : n - g + g = n := by omega
        rw [e1] at x
        rw [e2] at y
        omega
  have it1 : ∀ t : Nat, b (far + t * less) = b far + t * c := by
    intro t
    induction t with
    | zero => simp
    | succ t ih =>
      have e : far + (t + 1) * less = (far + t * less) + less := by rw [Nat.add_mul, Nat.one_mul]; omega
      rw [e, all _ (by omega), ih]
      have : ((t + 1 : Nat) : Int) * c = (t : Int) * c + c := by rw [Int.natCast_succ, Int.add_mul, Int.one_mul]
      rw [this]; omega
  have it2 : ∀ t : Nat, b (far + t * g) = b far + t := by
    intro t
    induction t with
    | zero => simp
    | succ t ih =>
      have e : far + (t + 1) * g = (far + t * g) + g := by rw [Nat.add_mul, Nat.one_mul]; omega
      rw [e, hg _ (by omega), ih]
      omega
  have a := it1 g
  have d := it2 less
  rw [Nat.mul_comm] at d
  have e : (g : Int) * c = less := by omega
  have : c ≤ 0 ∨ 1 ≤ c := by omega
  rcases this with h | h
  · have := Int.mul_nonpos_of_nonneg_of_nonpos (a := (g : Int)) (b := c) (by omega) h
    omega
  · have := Int.mul_le_mul_of_nonneg_left (c := (g : Int)) h (by omega)
    omega
end
end P44
end
section
set_option Elab.async false
set_option linter.all false
set_option maxRecDepth 100000
set_option maxHeartbeats 4000000
namespace G45
open PySem L2 L2.DL
set_option autoImplicit false
open P41 P44
/-! ### fewest coins -/
theorem stO_eq {i : Nat} {s : Slot} {η : EnvD} (h : ∀ ds, η[i]? ≠ some (some (.own true ds))) : stO i s η = some (η.set i (some s)) := by
  unfold stO
  split
  · rename_i ds e; exact absurd e (h ds)
  · rfl
theorem enT_getD {t : List (Option Nat)} {i : Nat} (h : i < t.length) : (enT t)[i]? = some (enO (t.getD i none)) := by
  unfold enT
  rw [List.getElem?_map, List.getElem?_eq_getElem h, List.getD_eq_getElem?_getD, List.getElem?_eq_getElem h]
  rfl
def waysI (cs : List Nat) (t : List (Option Nat)) : List Int := (cs.filterMap (wayO t)).map fun (k : Nat) => (k : Int)
theorem min_of {ws : List Nat} (h : ws ≠ []) : ∃ k, mini ws = some k ∧ minI (ws.map fun (k : Nat) => (k : Int)) + 1 = k := by
  cases e : mini ws with
  | none => exact absurd (mini_none e) h
  | some k =>
    obtain ⟨x, hx, rfl, hm⟩ := mini_some e
    obtain ⟨a, b⟩ := minI_spec (l := ws.map fun (k : Nat) => (k : Int)) (by simpa using h)
    refine ⟨_, rfl, ?_⟩
    obtain ⟨y, hy, ey⟩ := List.mem_map.mp a
    have h1 := b (x : Int) (List.mem_map.mpr ⟨x, hx, rfl⟩)
    have h2 := hm y hy
    omega
theorem intsD_of (ns : List Int) : minAD (.list (ns.map .int)) = if ns ≠ [] then some (.int (minI ns)) else none := by
  unfold minAD
  have e : minLD (.list (ns.map .int)) = if ns ≠ [] then some (.int (minI ns)) else none := by
    show (intsD (ns.map PyData.int)).bind _ = _
    rw [intsD_map]; rfl
  rw [e]
  cases ns with
  | nil => rfl
  | cons n ns => rw [if_pos (by simp)]
/-- the value that the next place gets -/
theorem next_val {cs : List Nat} {t : List (Option Nat)} {ws : List Int} (hw : ws = waysI cs t) :
    (ws.isEmpty = true → nxt cs t = none) ∧ (ws.isEmpty = false → minAD (.list (ws.map .int)) = some (.int (minI ws)) ∧ enO (nxt cs t) = .int (1 + minI ws)) := by
  subst hw
  unfold nxt waysI
  refine ⟨fun h => ?_, fun h => ?_⟩
  · have e : cs.filterMap (wayO t) = [] := by simpa using h
    rw [e]; rfl
  · have e : cs.filterMap (wayO t) ≠ [] := fun z => by rw [z] at h; cases h
    obtain ⟨k, e1, e2⟩ := min_of e
    rw [intsD_of, if_pos (by simpa using e), e1]
    refine ⟨rfl, ?_⟩
    show PyData.int (k : Int) = _
    rw [← e2]
    congr 1
    omega
theorem rng_get {lo : Int} {n k : Nat} {x : PyData} (h : (rngL lo n)[k]? = some x) : k < n ∧ x = .int (lo + (k : Int)) := by
  unfold rngL at h
  rw [List.getElem?_map] at h
  obtain ⟨i, e, rfl⟩ := Option.map_eq_some_iff.mp h
  have hk : k < n := by have := (List.getElem?_eq_some_iff.mp e).1; simpa using this
  rw [List.getElem?_range hk] at e
  cases e
  exact ⟨hk, rfl⟩
theorem rng_len {lo : Int} {n : Nat} : (rngL lo n).length = n := by unfold rngL; simp
/-- what is found behind t's last, not yet known places None -/
def part (t : List (Option Nat)) (m : Nat) : List PyData := enT t ++ List.replicate m .none
theorem part_get {t : List (Option Nat)} {m i : Nat} (h : i < t.length) : (part t m)[i]? = some (enO (t.getD i none)) := by
  unfold part
  rw [List.getElem?_append_left (by unfold enT; rw [List.length_map]; exact h)]
  exact enT_getD h
theorem part_set {t : List (Option Nat)} {m : Nat} {o : Option Nat} : (part t (m + 1)).set t.length (enO o) = part (t ++ [o]) m := by
  unfold part
  have hl : (enT t).length = t.length := by unfold enT; rw [List.length_map]
  rw [List.set_append_right _ _ (by omega), hl, Nat.sub_self, List.replicate_succ, List.set_cons_zero]
  unfold enT
  rw [List.map_append, List.append_assoc]; rfl
theorem part_none {t : List (Option Nat)} {m : Nat} : part t (m + 1) = part (t ++ [none]) m := by
  unfold part enT
  rw [List.map_append, List.append_assoc, List.replicate_succ]; rfl
theorem part_len {t : List (Option Nat)} {m : Nat} : (part t m).length = t.length + m := by unfold part enT; simp
theorem part_zero {t : List (Option Nat)} : part t 0 = enT t := by unfold part; simp
theorem ways_prog (cs : List Nat) (t : List (Option Nat)) : (cs.filterMap fun c => if c ≤ t.length then (t.getD (t.length - c) none).map fun (k : Nat) => PyData.int (k : Int) else none) = (waysI cs t).map .int := by
  unfold waysI
  rw [List.map_map, List.map_filterMap]
  congr 1
  funext c
  unfold wayO
  by_cases h : c ≤ t.length
  · rw [if_pos h, if_pos h]; rfl
  · rw [if_neg h, if_neg h]; rfl
theorem prog_ways {cs : List Nat} {t : List (Option Nat)} {m : Nat} {n v4 : Option Slot} (hc : Coins cs) :
    mComp (mIter (mVar 0)) (gV 5) (mAnd (mTru boolD (mOp leD (mVar 5) (mVar 3))) (mTru boolD (mOp isnD (mOpV ixD 2 (mOp subD (mVar 3) (mVar 5))) (mPure .none)))) (mOpV ixD 2 (mOp subD (mVar 3) (mVar 5))) [5]
      [some (.val (.tuple (enC cs))), n, some (.own false (part t m)), some (.val (.int (t.length : Int))), v4, none] = some (.ok ((waysI cs t).map .int), [some (.val (.tuple (enC cs))), n, some (.own false (part t m)), some (.val (.int (t.length : Int))), v4, none]) := by
  have key := comp_map (gm := gV 5) (mt := mAnd (mTru boolD (mOp leD (mVar 5) (mVar 3))) (mTru boolD (mOp isnD (mOpV ixD 2 (mOp subD (mVar 3) (mVar 5))) (mPure .none)))) (m := mOpV ixD 2 (mOp subD (mVar 3) (mVar 5))) (vs := [5])
    (η := [some (.val (.tuple (enC cs))), n, some (.own false (part t m)), some (.val (.int (t.length : Int))), v4, none])
    (f := fun x => match x with | .int c => if c.toNat ≤ t.length then (t.getD (t.length - c.toNat) none).map fun (k : Nat) => PyData.int (k : Int) else none | _ => none) rfl (enC cs) [] (by
      rw [List.length_nil, enC_len, sizeLine_eq]; have := hc.five; omega) (fun x hx => by
      obtain ⟨c, hcm, rfl⟩ := List.mem_map.mp hx
      have hc1 := hc.le c hcm
      refine ⟨_, rfl, ?_⟩
      by_cases h : c ≤ t.length
      · have hix : ixD (.list (part t m)) (.int ((t.length : Int) - (c : Int))) = some (enO (t.getD (t.length - c) none)) := by
          refine ixD_i (by omega) ?_
          have e : ((t.length : Int) - (c : Int)).toNat = t.length - c := by omega
          rw [e]
          exact part_get (by omega)
        have hv : ∀ η : EnvD, η = [some (.val (.tuple (enC cs))), n, some (.own false (part t m)), some (.val (.int (t.length : Int))), v4, some (.val (.int (c : Int)))] → mOpV ixD 2 (mOp subD (mVar 3) (mVar 5)) η = some (.ok (enO (t.getD (t.length - c) none)), η) := fun η e => by
          subst e
          exact e_opV (e_borO rfl) (e_op (e_var rfl) (e_var rfl) subD_e) (e_borO rfl) hix
        have hle : mTru boolD (mOp leD (mVar 5) (mVar 3)) [some (.val (.tuple (enC cs))), n, some (.own false (part t m)), some (.val (.int (t.length : Int))), v4, some (.val (.int (c : Int)))] = some (.ok true, [some (.val (.tuple (enC cs))), n, some (.own false (part t m)), some (.val (.int (t.length : Int))), v4, some (.val (.int (c : Int)))]) :=
          e_tru (e_op (e_var rfl) (e_var rfl) leD_e) (by rw [decide_eq_true (by omega)]; rfl)
        cases e : t.getD (t.length - c) none with
        | none =>
          rw [e] at hv
          refine .inr ⟨?_, _, e_andT hle rfl (e_tru (e_op (hv _ rfl) e_pure (isn_enO none)) rfl), rfl⟩
          show (if (c : Int).toNat ≤ _ then _ else _) = _
          rw [Int.toNat_natCast, if_pos h, e]; rfl
        | some k =>
          rw [e] at hv
          refine .inl ⟨_, .int (k : Int), ?_, e_andT hle rfl (e_tru (e_op (hv _ rfl) e_pure (isn_enO (some k))) rfl), _, hv _ rfl, rfl⟩
          show (if (c : Int).toNat ≤ _ then _ else _) = _
          rw [Int.toNat_natCast, if_pos h, e]; rfl
      · refine .inr ⟨?_, _, e_andF (e_tru (e_op (e_var rfl) (e_var rfl) leD_e) (show boolD (.bool (decide ((c : Int) ≤ t.length))) = some false by rw [decide_eq_false (by omega)]; rfl)) rfl, rfl⟩
        show (if (c : Int).toNat ≤ _ then _ else _) = _
        rw [Int.toNat_natCast, if_neg h])
  refine (e_comp (e_iter (e_var rfl) rfl) key).trans ?_
  rw [List.nil_append, ← ways_prog]
  unfold enC
  rw [List.filterMap_map]
  rfl
theorem prog_turn {cs : List Nat} {t : List (Option Nat)} {m : Nat} {v3 v4 n : Option Slot} (hc : Coins cs) (h3 : NT v3) (h4 : NT v4) : ∃ η1 η2, gV 3 (.int (t.length : Int)) [some (.val (.tuple (enC cs))), n, some (.own false (part t (m + 1))), v3, v4, none] = some η1 ∧
    (mSeq (mAsgL (mComp (mIter (mVar 0)) (gV 5) (mAnd (mTru boolD (mOp leD (mVar 5) (mVar 3))) (mTru boolD (mOp isnD (mOpV ixD 2 (mOp subD (mVar 3) (mVar 5))) (mPure .none)))) (mOpV ixD 2 (mOp subD (mVar 3) (mVar 5))) [5]) 4)
    (mIfS (mTru boolD (mOpV neD 4 (mFz (mCaL (fun xs => if xs.length ≤ sizeLine then some xs else none) mNil)))) (mSetIx 2 (mOp addD (mPure (.int 1)) (mUn minAD (mBor 4))) (mVar 3)) (mPure .nx))) η1 = some (.ok .nx, η2) ∧
    ∃ v3 v4, NT v3 ∧ NT v4 ∧ η2 = [some (.val (.tuple (enC cs))), n, some (.own false (part (t ++ [nxt cs t]) m)), v3, v4, none] := by
  refine ⟨[some (.val (.tuple (enC cs))), n, some (.own false (part t (m + 1))), some (.val (.int (t.length : Int))), v4, none], [some (.val (.tuple (enC cs))), n, some (.own false (part (t ++ [nxt cs t]) m)), some (.val (.int (t.length : Int))), some (.own false ((waysI cs t).map .int)), none], ?_, ?_, ?_⟩
  · exact stO_eq fun ds e => h3 ds (Option.some.inj e)
  · apply s_seq
    · exact s_asgL (prog_ways (n := n) (v4 := v4) hc) (stO_eq fun ds e => h4 ds (Option.some.inj e))
    obtain ⟨n1, n2⟩ := next_val (cs := cs) (t := t) rfl
    have hneq : neD (.list ((waysI cs t).map .int)) (.list []) = some (.bool (!((waysI cs t).map PyData.int).isEmpty)) := neD_nil (shaped_ints _)
    have hem : ((waysI cs t).map PyData.int).isEmpty = (waysI cs t).isEmpty := by cases waysI cs t <;> rfl
    rw [hem] at hneq
    cases hb : (waysI cs t).isEmpty with
    | true =>
      rw [hb] at hneq
      rw [n1 hb]
      refine (s_ifF (e_tru (e_opV (e_borO rfl) (e_fz (e_caL e_nil (if_pos (Nat.zero_le _)))) (e_borO rfl) hneq) rfl) rfl e_pure).trans ?_
      rw [← part_none]; rfl
    | false =>
      rw [hb] at hneq
      obtain ⟨a, b⟩ := n2 hb
      refine (s_ifT (e_tru (e_opV (e_borO rfl) (e_fz (e_caL e_nil (if_pos (Nat.zero_le _)))) (e_borO rfl) hneq) rfl) rfl (s_setIx (n := t.length) (e_op e_pure (e_un (e_borO rfl) a) addD_e) rfl (e_var rfl) rfl ?_)).trans ?_
      · unfold ixN
        rw [part_len, if_pos (by omega), if_pos (by omega), Int.toNat_natCast]
      · rw [← b, part_set]; rfl
  · exact ⟨_, _, (fun ds e => by cases e), (fun ds e => by cases e), rfl⟩
theorem fewest_to {cs : List Nat} {n : Nat} (hc : Coins cs) (hn : n < 900000) : fnV F_fewest_to [.tuple (enC cs), .int (n : Int)] = some (.ok (.l (enT (tab cs n)))) := by
  obtain ⟨η', hl, hI⟩ := loop_inv (xs := rngL 1 ((n : Int) + 1 - 1).toNat) (fun k η => k ≤ n → ∃ v3 v4, NT v3 ∧ NT v4 ∧ η = [some (.val (.tuple (enC cs))), some (.val (.int (n : Int))), some (.own false (part (tab cs k) (n - k))), v3, v4, none])
    (fun k x η hx hI => by
      obtain ⟨hk, rfl⟩ := rng_get hx
      obtain ⟨v3, v4, h3, h4, hη⟩ := hI (by omega)
      subst hη
      have hl := tab_len (cs := cs) k
      have e : (1 : Int) + (k : Int) = ((tab cs k).length : Int) := by omega
      rw [e]
      have e2 : n - k = (n - (k + 1)) + 1 := by omega
      rw [e2]
      obtain ⟨η1, η2, a, b, c⟩ := prog_turn (n := some (.val (.int (n : Int)))) (m := n - (k + 1)) hc (t := tab cs k) h3 h4
      exact ⟨η1, η2, a, b, fun _ => c⟩)
    (η := [some (.val (.tuple (enC cs))), some (.val (.int (n : Int))), some (.own false (part (tab cs 0) n)), none, none, none]) (fun _ => ⟨none, none, (fun ds e => by cases e), (fun ds e => by cases e), by rw [Nat.sub_zero]⟩)
  have en : ((n : Int) + 1 - 1).toNat = n := by omega
  rw [rng_len, en] at hI
  obtain ⟨v3, v4, h3, h4, rfl⟩ := hI (Nat.le_refl n)
  rw [Nat.sub_self, part_zero] at hl
  rw [en] at hl
  have hrep : ∀ k : Nat, (List.replicate k [PyData.none]).flatten = List.replicate k PyData.none := fun k => by
    induction k with
    | zero => rfl
    | succ k ih => rw [List.replicate_succ, List.flatten_cons, ih, List.replicate_succ]; rfl
  have hmul : mulD (.list [.none]) (.int (n : Int)) = some (.list (List.replicate n .none)) := by
    unfold mulD
    simp only
    rw [if_pos ⟨by omega, by omega, by rw [sizeLine_eq, Int.toNat_natCast]; simp; omega⟩, Int.toNat_natCast, hrep]
  have hcat : catD (.list [.int 0]) (.list (List.replicate n .none)) = some (part (tab cs 0) n) := by
    unfold catD
    simp only
    rw [if_pos (by rw [sizeLine_eq, List.length_replicate]; simp; omega)]
    rfl
  refine fnV_of (η1 := [none, none]) ?_
  unfold F_fewest_to m_fewest_to
  walk_at "dl frun"
  · apply s_seq
    · apply s_asgL
      · apply e_opL
        · exact e_fz (e_caL (e_cons e_pure e_nil) (if_pos (by rw [sizeLine_eq]; decide)))
        · apply e_op
          · exact e_fz (e_caL (e_cons e_pure e_nil) (if_pos (by rw [sizeLine_eq]; decide)))
          · exact e_var rfl
          · exact hmul
        · exact hcat
      · rfl
    apply s_seq
    · refine s_for (e_gIt (e_cons e_pure (e_cons (e_op (e_var rfl) e_pure addD_e) e_nil)) (range2 (by omega) (by omega) (by omega) (by omega))) ?_
      rw [en]
      exact hl
    · exact s_retVO rfl
  · rfl
theorem ix_ll {ds : List PyData} {z : PyData} (h : ds[ds.length - 1]? = some z) : ixD (.list ds) (.int (-1)) = some z := atI_last h
theorem tab_last (cs : List Nat) (n : Nat) : (enT (tab cs n))[(enT (tab cs n)).length - 1]? = some (enO (best cs n)) := by
  have e : (enT (tab cs n)).length - 1 = n := by unfold enT; rw [List.length_map, tab_len]; omega
  rw [e]
  exact enT_getD (by rw [tab_len]; omega)
theorem enO_add (o : Option Nat) (t : Nat) (h : o ≠ none) : addD (enO o) (.int (t : Int)) = some (enO (o.map (· + t))) := by
  cases o with
  | none => exact absurd rfl h
  | some k => show some (PyData.int ((k : Int) + (t : Int))) = some (PyData.int ((k + t : Nat) : Int)); rw [Int.natCast_add]
theorem least_count {cs : List Nat} (hc : Coins cs) (n : Nat) : fnV F_least_count [.tuple (enC cs), .int (n : Int)] = some (.ok (.d (enO (best cs n)))) := by
  obtain ⟨g, tp⟩ := top_of hc
  have g1 := tp.one
  have g2 := tp.sixty
  -- the bound
  have hB : ((g : Int) - 1) * ((g : Int) - 1) = (((g - 1) * (g - 1) : Nat) : Int) := by
    have e : (g : Int) - 1 = ((g - 1 : Nat) : Int) := by omega
    rw [e, ← Int.natCast_mul]
  have hB2 : (g - 1) * (g - 1) ≤ 59 * 59 := Nat.mul_le_mul (by omega) (by omega)
  have hB3 : g ≤ (g - 1) * (g - 1) + 1 := by
    rcases Nat.lt_or_ge g 3 with h | h
    · have : g = 1 ∨ g = 2 := by omega
      rcases this with e | e <;> subst e <;> decide
    · have := Nat.mul_le_mul_right (g - 1) (show 2 ≤ g - 1 by omega)
      omega
  generalize hb : (g - 1) * (g - 1) = B at hB hB2 hB3
  -- how often, and what is left
  obtain ⟨t, r, ht, hr, hn, hrB, hfar⟩ : ∃ t r : Nat, (if -(((B : Int) - (n : Int)) / (g : Int)) > 0 then -(((B : Int) - (n : Int)) / (g : Int)) else 0) = (t : Int) ∧ (n : Int) - (t : Int) * (g : Int) = (r : Int) ∧ n = r + t * g ∧ r ≤ B ∧ (B < r + g ∨ t = 0) := by
    have m1 := Int.mul_ediv_add_emod ((B : Int) - (n : Int)) (g : Int)
    have m2 := Int.emod_nonneg ((B : Int) - (n : Int)) (show (g : Int) ≠ 0 by omega)
    have m3 := Int.emod_lt_of_pos ((B : Int) - (n : Int)) (show 0 < (g : Int) by omega)
    generalize ((B : Int) - (n : Int)) / (g : Int) = q at m1
    generalize ((B : Int) - (n : Int)) % (g : Int) = s at m1 m2 m3
    by_cases hq : -q > 0
    · refine ⟨(-q).toNat, (n - (-q) * g : Int).toNat, ?_⟩
      have e1 : (((-q).toNat : Nat) : Int) = -q := Int.toNat_of_nonneg (by omega)
      have e2 : (-q) * (g : Int) = -((g : Int) * q) := by rw [Int.neg_mul, Int.mul_comm]
      have e3 : (((n - (-q) * g : Int).toNat : Nat) : Int) = n - (-q) * g := Int.toNat_of_nonneg (by rw [e2]; omega)
      rw [if_pos hq, e1]
      refine ⟨rfl, e3.symm, ?_, ?_, .inl ?_⟩
      · have : ((n : Nat) : Int) = (((n - (-q) * g : Int).toNat + (-q).toNat * g : Nat) : Int) := by
          rw [Int.natCast_add, Int.natCast_mul, e3, e1]; omega
        omega
      · omega
      · omega
    · refine ⟨0, n, by rw [if_neg hq]; rfl, by omega, by omega, ?_, .inr rfl⟩
      have : 0 ≤ q := by omega
      have : 0 ≤ (g : Int) * q := Int.mul_nonneg (by omega) this
      omega
  have hbest := best_times (cs := cs) (fun c h => (hc.le c h).1) tp.mem tp.le t r (by rw [hb]; exact hfar)
  rw [← hn] at hbest
  have hft := fewest_to hc (n := r) (by omega)
  have hpow : powD (.int ((g : Int) - 1)) (.int 2) = some (.int (B : Int)) := by
    rw [← hB]
    exact pow2D_e (by omega)
  have hmax : max2D [.int 0, .int (-(((B : Int) - (n : Int)) / (g : Int)))] = some (.int (t : Int)) := by
    rw [← ht]; rfl
  refine fnV_of (η1 := [none, none]) ?_
  unfold F_least_count m_least_count
  walk_at "dl frun"
  · apply s_seq
    · exact s_ifF (e_tru (e_op (e_var rfl) e_pure ltD_e) boolD_e) (decide_eq_false (by omega)) e_pure
    apply s_seq
    · exact s_asg (e_op (e_var rfl) (e_un e_pure neg1) tp.ix) rfl
    apply s_seq
    · exact s_asg (e_op (e_op (e_var rfl) e_pure subD_e) e_pure hpow) rfl
    apply s_seq
    · exact s_asg (e_ca (e_cons e_pure (e_cons (e_un (e_op (e_op (e_var rfl) (e_var rfl) subD_e) (e_var rfl) (fdivD_e (by omega) (by omega))) negD_e) e_nil)) hmax) rfl
    apply s_seq
    · refine s_asg (e_op (e_call (rv := .l (enT (tab cs r))) (e_cons (e_var rfl) (e_cons (e_op (e_var rfl) (e_op (e_var rfl) (e_var rfl) (mulD_r (by omega))) subD_e) e_nil)) ?_) (e_un e_pure neg1) (ix_ll (tab_last cs r))) rfl
      rw [hr]
      exact hft
    · refine s_ret (x := enO (best cs n)) (η1 := [some (.val (.tuple (enC cs))), some (.val (.int (n : Int))), some (.val (.int (g : Int))), some (.val (.int (B : Int))), some (.val (.int (t : Int))), some (.val (enO (best cs r)))]) ?_
      rw [hbest]
      cases e : best cs r with
      | none => exact e_ifT (e_tru (e_op (e_var rfl) e_pure (is_enO _)) boolD_e) rfl e_pure
      | some k =>
        refine e_ifF (e_tru (e_op (e_var rfl) e_pure (is_enO _)) boolD_e) rfl (e_op (e_var rfl) (e_var rfl) ?_)
        exact enO_add (some k) t (by simp)
  · rfl
theorem least_neg {cs : List Nat} {n : Int} (h : n < 0) : fnV F_least_count [.tuple (enC cs), .int n] = some (.ok (.d .none)) := by
  refine fnV_of (η1 := [none, none]) ?_
  unfold F_least_count m_least_count
  walk_at "dl frun"
  · apply s_seqR
    exact s_ifT (e_tru (e_op (e_var rfl) e_pure ltD_e) boolD_e) (decide_eq_true h) (s_ret e_pure)
  · rfl
theorem fewest_of {cs : List Nat} (hc : Coins cs) {n : Int} {z : PyData} (h : fnV F_least_count [.tuple (enC cs), .int n] = some (.ok (.d z))) : fnV F_fewest [.tuple (enC cs), .int n] = some (.ok (.d z)) := by
  refine fnV_of (η1 := [none, none]) ?_
  unfold F_fewest m_fewest
  walk_at "dl frun"
  · apply s_seq
    · exact s_drop (e_call (e_cons (e_var rfl) e_nil) (need_coins hc))
    · exact s_ret (e_call (e_cons (e_var rfl) (e_cons (e_var rfl) e_nil)) h)
  · rfl
end G45
end
section
set_option Elab.async false
set_option linter.all false
set_option maxRecDepth 100000
namespace P41
set_option autoImplicit false
/-! ### first payments, coins times a number, more coins -/
section
variable {C : List Nat}
theorem Pay.step {c n : Nat} (hc : c ∈ C) (h : Pay C n) : Pay C (n + c) := .add h hc
theorem pay_rep {n : Nat} : Pay C n ↔ ∃ k, P44.Rep C n k := by
  constructor
  · intro h
    induction h with
    | zero => exact ⟨0, .zero⟩
    | add _ hc ih =>
      obtain ⟨k, r⟩ := ih
      exact ⟨k + 1, .step hc r⟩
  · rintro ⟨k, r⟩
    induction r with
    | zero => exact .zero
    | step hc _ ih => exact .step hc ih
theorem pay_more {D : List Nat} (h : ∀ c ∈ C, c ∈ D) {n : Nat} (p : Pay C n) : Pay D n := by
  induction p with
  | zero => exact .zero
  | add _ hc ih => exact .step (h _ hc) ih
theorem rep_more {D : List Nat} (h : ∀ c ∈ C, c ∈ D) {n k : Nat} (p : P44.Rep C n k) : P44.Rep D n k := by
  induction p with
  | zero => exact .zero
  | step hc _ ih => exact .step (h _ hc) ih
theorem pay_cons {c n : Nat} (h : Pay (c :: C) n) : ∃ t, t * c ≤ n ∧ Pay C (n - t * c) := by
  induction h with
  | zero => exact ⟨0, by omega, by rw [Nat.zero_mul]; exact .zero⟩
  | @add m d _ hd ih =>
    obtain ⟨t, h1, h2⟩ := ih
    rcases List.mem_cons.mp hd with rfl | hd
    · exact ⟨t + 1, by rw [Nat.succ_mul]; omega, by rw [Nat.succ_mul, show m + d - (t * d + d) = m - t * d by omega]; exact h2⟩
    · exact ⟨t, by omega, by rw [show m + d - t * c = (m - t * c) + d by omega]; exact .step hd h2⟩
theorem pay_back {c n t : Nat} (h1 : t * c ≤ n) (h : Pay C (n - t * c)) : Pay (c :: C) n := by
  have a := pay_more (D := c :: C) (fun x hx => List.mem_cons_of_mem _ hx) h
  have b := pay_times (C := c :: C) List.mem_cons_self t
  have := pay_plus a b
  rwa [Nat.sub_add_cancel h1] at this
variable (C) in
def fits (c n t : Nat) : Bool := decide (t * c ≤ n) && pb C (n - t * c)
variable (C) in
def leastT (c n : Nat) : Nat := ((List.range (n + 1)).find? (fits C c n)).getD 0
def firstP : List Nat → Nat → List Nat
  | [], _ => []
  | c :: cs, n => leastT cs c n :: firstP cs (n - leastT cs c n * c)
theorem leastT_ok (hp : ∀ c ∈ C, 1 ≤ c) {c n : Nat} (hc : 1 ≤ c) (h : pb (c :: C) n = true) : leastT C c n * c ≤ n ∧ pb C (n - leastT C c n * c) = true ∧ ∀ t, t < leastT C c n → t * c ≤ n ∧ pb C (n - t * c) = false := by
  have hp' : ∀ x ∈ c :: C, 1 ≤ x := fun x hx => by
    rcases List.mem_cons.mp hx with rfl | hx
    · exact hc
    · exact hp x hx
  obtain ⟨t, h1, h2⟩ := pay_cons ((pb_iff hp' n).mp h)
  have ft : fits C c n t = true := by
    unfold fits
    rw [decide_eq_true h1, (pb_iff hp _).mpr h2]; rfl
  have tn : t ≤ n := Nat.le_trans (Nat.le_mul_of_pos_right t hc) h1
  cases hf : (List.range (n + 1)).find? (fits C c n) with
  | none =>
    have := List.find?_eq_none.mp hf t (List.mem_range.mpr (by omega))
    rw [ft] at this
    exact absurd rfl this
  | some u =>
    have e : leastT C c n = u := by unfold leastT; rw [hf]; rfl
    rw [e]
    have fu := List.find?_some hf
    unfold fits at fu
    rw [Bool.and_eq_true, decide_eq_true_eq] at fu
    refine ⟨fu.1, fu.2, fun s hs => ?_⟩
    have le : s * c ≤ n := Nat.le_trans (Nat.mul_le_mul_right c (Nat.le_of_lt hs)) fu.1
    refine ⟨le, ?_⟩
    have nf : fits C c n s = false := by
      obtain ⟨_, as, bs, e2, e3⟩ := List.find?_eq_some_iff_append.mp hf
      have ms : s ∈ as := by
        have m := List.mem_range.mpr (show s < n + 1 by
          have : u ≤ n := Nat.le_trans (Nat.le_mul_of_pos_right u hc) fu.1
          omega)
        rw [e2, List.mem_append] at m
        rcases m with m | m
        · exact m
        · have pw : (List.range (n + 1)).Pairwise (· < ·) := List.pairwise_lt_range
          rw [e2, List.pairwise_append] at pw
          rcases List.mem_cons.mp m with m | m
          · omega
          · have := (List.pairwise_cons.mp pw.2.1).1 s m
            omega
      simpa using e3 s ms
    unfold fits at nf
    rw [decide_eq_true le, Bool.true_and] at nf
    exact nf
theorem leastT_one (hp : ∀ c ∈ C, 1 ≤ c) {c n u : Nat} (hc : 1 ≤ c) (h : pb (c :: C) n = true) (h1 : pb C (n - u * c) = true) (h2 : ∀ t, t < u → pb C (n - t * c) = false) (hu : u * c ≤ n) : u = leastT C c n := by
  obtain ⟨a, b, d⟩ := leastT_ok hp hc h
  rcases Nat.lt_trichotomy u (leastT C c n) with l | l | l
  · have := (d u l).2
    rw [h1] at this
    cases this
  · exact l
  · have := h2 _ l
    rw [b] at this
    cases this
/-! coins times a number -/
theorem pay_mul {d n : Nat} (h : Pay C n) : Pay (C.map (d * ·)) (d * n) := by
  induction h with
  | zero => rw [Nat.mul_zero]; exact .zero
  | add _ hc ih =>
    rw [Nat.mul_add]
    exact .step (List.mem_map.mpr ⟨_, hc, rfl⟩) ih
theorem pay_div' {d m : Nat} (h : Pay (C.map (d * ·)) m) : ∃ n, m = d * n ∧ Pay C n := by
  induction h with
  | zero => exact ⟨0, by omega, .zero⟩
  | add _ hc ih =>
    obtain ⟨n, rfl, p⟩ := ih
    obtain ⟨c, hc2, rfl⟩ := List.mem_map.mp hc
    exact ⟨n + c, by rw [Nat.mul_add], .step hc2 p⟩
theorem rep_mul {d n k : Nat} (h : P44.Rep C n k) : P44.Rep (C.map (d * ·)) (d * n) k := by
  induction h with
  | zero => rw [Nat.mul_zero]; exact .zero
  | step hc _ ih =>
    rw [Nat.mul_add]
    exact .step (List.mem_map.mpr ⟨_, hc, rfl⟩) ih
theorem rep_div {d m k : Nat} (h : P44.Rep (C.map (d * ·)) m k) : ∃ n, m = d * n ∧ P44.Rep C n k := by
  induction h with
  | zero => exact ⟨0, by omega, .zero⟩
  | step hc _ ih =>
    obtain ⟨n, rfl, p⟩ := ih
    obtain ⟨c, hc2, rfl⟩ := List.mem_map.mp hc
    exact ⟨n + c, by rw [Nat.mul_add], .step hc2 p⟩
theorem mul_pos {d : Nat} (hd : 1 ≤ d) (hp : ∀ c ∈ C, 1 ≤ c) : ∀ c ∈ C.map (d * ·), 1 ≤ c := fun c hc => by
  obtain ⟨x, hx, rfl⟩ := List.mem_map.mp hc
  exact Nat.mul_pos hd (hp x hx)
theorem pb_mul {d n : Nat} (hd : 1 ≤ d) (hp : ∀ c ∈ C, 1 ≤ c) : pb (C.map (d * ·)) (d * n) = pb C n := by
  rw [Bool.eq_iff_iff, pb_iff (mul_pos hd hp), pb_iff hp]
  constructor
  · intro h
    obtain ⟨m, e, p⟩ := pay_div' h
    rw [Nat.eq_of_mul_eq_mul_left hd e]; exact p
  · exact pay_mul
theorem best_mul {d n : Nat} (hd : 1 ≤ d) (hp : ∀ c ∈ C, 1 ≤ c) : P44.best (C.map (d * ·)) (d * n) = P44.best C n := by
  obtain ⟨a1, a2⟩ := P44.best_spec (mul_pos hd hp) (d * n)
  obtain ⟨b1, b2⟩ := P44.best_spec hp n
  cases ha : P44.best (C.map (d * ·)) (d * n) with
  | none =>
    cases hb : P44.best C n with
    | none => rfl
    | some k => exact absurd (rep_mul (b1 k hb).1) (a2 ha k)
  | some j =>
    obtain ⟨m, e, r⟩ := rep_div (a1 j ha).1
    rw [← Nat.eq_of_mul_eq_mul_left hd e] at r
    cases hb : P44.best C n with
    | none => exact absurd r (b2 hb j)
    | some k =>
      have h1 := (b1 k hb).2 j r
      have h2 := (a1 j ha).2 k (rep_mul (b1 k hb).1)
      exact congrArg some (by omega)
theorem best_more {D : List Nat} (hp : ∀ c ∈ C, 1 ≤ c) (hp' : ∀ c ∈ D, 1 ≤ c) (h : ∀ c ∈ C, c ∈ D) {n k : Nat} (e : P44.best C n = some k) : ∃ j, P44.best D n = some j ∧ j ≤ k := by
  have r := rep_more h ((P44.best_spec hp n).1 k e).1
  obtain ⟨a1, a2⟩ := P44.best_spec hp' n
  cases ha : P44.best D n with
  | none => exact absurd r (a2 ha k)
  | some j => exact ⟨j, rfl, (a1 j ha).2 k r⟩
theorem best_pay (hp : ∀ c ∈ C, 1 ≤ c) {n : Nat} (h : Pay C n) : ∃ k, P44.best C n = some k := by
  obtain ⟨k, r⟩ := pay_rep.mp h
  cases hb : P44.best C n with
  | none => exact absurd r ((P44.best_spec hp n).2 hb k)
  | some j => exact ⟨j, rfl⟩
theorem leastT_mul {d c n : Nat} (hd : 1 ≤ d) (hc : 1 ≤ c) (hp : ∀ c ∈ C, 1 ≤ c) (h : pb (c :: C) n = true) : leastT (C.map (d * ·)) (d * c) (d * n) = leastT C c n := by
  obtain ⟨a, b, e⟩ := leastT_ok hp hc h
  have key : ∀ t, d * n - t * (d * c) = d * (n - t * c) := fun t => by rw [Nat.mul_sub, Nat.mul_left_comm]
  refine (leastT_one (mul_pos hd hp) (Nat.mul_pos hd hc) ?_ ?_ (fun t ht => ?_) ?_).symm
  · have := pb_mul (C := c :: C) (d := d) (n := n) hd (fun x hx => by
      rcases List.mem_cons.mp hx with rfl | hx
      · exact hc
      · exact hp x hx)
    rw [h] at this
    exact this
  · rw [key, pb_mul hd hp]; exact b
  · rw [key, pb_mul hd hp]; exact (e t ht).2
  · rw [Nat.mul_left_comm]; exact Nat.mul_le_mul_left d a
end
theorem firstP_mul {d : Nat} (hd : 1 ≤ d) : ∀ {C : List Nat} {n : Nat}, (∀ c ∈ C, 1 ≤ c) → pb C n = true → firstP (C.map (d * ·)) (d * n) = firstP C n
  | [], n, _, _ => rfl
  | c :: C, n, hp, h => by
    have hc := hp c List.mem_cons_self
    have hp' : ∀ x ∈ C, 1 ≤ x := fun x hx => hp x (List.mem_cons_of_mem _ hx)
    have e := leastT_mul hd hc hp' h
    obtain ⟨_, b, _⟩ := leastT_ok hp' hc h
    show leastT (C.map (d * ·)) (d * c) (d * n) :: firstP (C.map (d * ·)) (d * n - leastT (C.map (d * ·)) (d * c) (d * n) * (d * c)) = leastT C c n :: firstP C (n - leastT C c n * c)
    rw [e, show d * n - leastT C c n * (d * c) = d * (n - leastT C c n * c) by rw [Nat.mul_sub, Nat.mul_left_comm], firstP_mul hd hp' b]
theorem firstP_len : ∀ (C : List Nat) (n : Nat), (firstP C n).length = C.length
  | [], _ => rfl
  | c :: C, n => by rw [firstP, List.length_cons, firstP_len C, List.length_cons]
theorem firstP_le : ∀ {C : List Nat} {n : Nat}, (∀ c ∈ C, 1 ≤ c) → pb C n = true → ∀ t ∈ firstP C n, t ≤ n
  | [], n, _, _, t, ht => by cases ht
  | c :: C, n, hp, h, t, ht => by
    have hc := hp c List.mem_cons_self
    have hp' : ∀ x ∈ C, 1 ≤ x := fun x hx => hp x (List.mem_cons_of_mem _ hx)
    obtain ⟨a, b, _⟩ := leastT_ok hp' hc h
    have l := Nat.le_mul_of_pos_right (leastT C c n) hc
    rw [firstP] at ht
    rcases List.mem_cons.mp ht with rfl | ht
    · omega
    · have := firstP_le hp' b t ht
      omega
end P41
end
section
set_option Elab.async false
set_option linter.all false
set_option maxRecDepth 100000
set_option maxHeartbeats 4000000
namespace G45
open PySem L2 L2.DL
set_option autoImplicit false
open P41
/-! ### what is payable, up to a number; the first payment -/
/-- what is found, places that are not known yet False -/
def partB (t : List Bool) (m : Nat) : List PyData := t.map .bool ++ List.replicate m (.bool false)
theorem partB_len {t : List Bool} {m : Nat} : (partB t m).length = t.length + m := by unfold partB; simp
theorem partB_get {t : List Bool} {m i : Nat} {b : Bool} (h : t[i]? = some b) : (partB t m)[i]? = some (.bool b) := by
  unfold partB
  have hl := (List.getElem?_eq_some_iff.mp h).1
  rw [List.getElem?_append_left (by rw [List.length_map]; exact hl), List.getElem?_map, h]; rfl
theorem partB_set {t : List Bool} {m : Nat} {b : Bool} : (partB t (m + 1)).set t.length (.bool b) = partB (t ++ [b]) m := by
  unfold partB
  rw [List.set_append_right _ _ (by rw [List.length_map]; omega), List.length_map, Nat.sub_self, List.replicate_succ, List.set_cons_zero, List.map_append, List.append_assoc]; rfl
theorem mul_list {d : PyData} {n : Nat} (hn : n < 900000) : mulD (.list [d]) (.int (n : Int)) = some (.list (List.replicate n d)) := by
  have hrep : ∀ k : Nat, (List.replicate k [d]).flatten = List.replicate k d := fun k => by
    induction k with
    | zero => rfl
    | succ k ih => rw [List.replicate_succ, List.flatten_cons, ih, List.replicate_succ]; rfl
  unfold mulD
  simp only
  rw [if_pos ⟨by omega, by omega, by rw [sizeLine_eq, Int.toNat_natCast]; simp; omega⟩, Int.toNat_natCast, hrep]
theorem payable_to {cs : List Nat} (hp : ∀ c ∈ cs, 1 ≤ c) (h5 : cs.length ≤ 5) {n : Nat} (hn : n < 90000) : fnV F_payable_to [.tuple (enC cs), .int (n : Int)] = some (.ok (.l ((ptab cs n).map .bool))) := by
  obtain ⟨η', hl, v3, g3, rfl⟩ := loopP (L := List.range n) (enc := fun (k : Nat) => .int (1 + (k : Int))) (gm := gV 3) (ms := (mSetIx 2 (mUn anyD (mFz (mComp (mIter (mVar 0)) (gV 4) (mPure true) (mAndV (mOp leD (mVar 4) (mVar 3)) (mOpV ixD 2 (mOp subD (mVar 3) (mVar 4)))) [4]))) (mVar 3)))
    (fun pre η => ∃ v3, NT v3 ∧ η = [some (.val (.tuple (enC cs))), some (.val (.int (n : Int))), some (.own false (partB (ptab cs pre.length) (n - pre.length))), v3, none])
    (by
      rintro pre k post η eL ⟨v3, g3, rfl⟩
      obtain ⟨rfl, lt⟩ := range_pre eL
      have c := compA (L := cs) (enc := fun (c : Nat) => .int (c : Int)) (out := fun c => .bool (decide (c ≤ pre.length + 1) && pb cs (pre.length + 1 - c))) (gm := gV 4) (vs := [4]) (mi := mIter (mVar 0)) (me := (mAndV (mOp leD (mVar 4) (mVar 3)) (mOpV ixD 2 (mOp subD (mVar 3) (mVar 4)))))
        (η := [some (.val (.tuple (enC cs))), some (.val (.int (n : Int))), some (.own false (partB (ptab cs pre.length) (n - pre.length))), some (.val (.int (1 + (pre.length : Int)))), none])
        (e := fun c => [some (.val (.tuple (enC cs))), some (.val (.int (n : Int))), some (.own false (partB (ptab cs pre.length) (n - pre.length))), some (.val (.int (1 + (pre.length : Int)))), some (.val (.int (c : Int)))])
        (e_iter (e_var (η := [some (.val (.tuple (enC cs))), some (.val (.int (n : Int))), some (.own false (partB (ptab cs pre.length) (n - pre.length))), some (.val (.int (1 + (pre.length : Int)))), none]) rfl) it_t) rfl (fun _ => rfl) (fun _ => rfl) (small (by omega))
        (fun c hm => by
          have c1 := hp c hm
          by_cases le : c ≤ pre.length + 1
          · rw [decide_eq_true le, Bool.true_and]
            have ix : ixD (.list (partB (ptab cs pre.length) (n - pre.length))) (.int (1 + (pre.length : Int) - (c : Int))) = some (.bool (pb cs (pre.length + 1 - c))) := by
              have e : (1 + (pre.length : Int) - (c : Int)) = ((pre.length + 1 - c : Nat) : Int) := by omega
              rw [e]
              exact ixD_l (partB_get (ptab_get (by omega)))
            exact e_andVT (e_op (e_var rfl) (e_var rfl) leD_e) (decide_eq_true (by omega)) (e_opV (e_borO rfl) (e_op (e_var rfl) (e_var rfl) subD_e) (e_borO rfl) ix)
          · rw [decide_eq_false le, Bool.false_and]
            exact e_andVF (e_op (e_var rfl) (e_var rfl) leD_e) (decide_eq_false (by omega)))
      have an := anyL_e cs (fun c => decide (c ≤ pre.length + 1) && pb cs (pre.length + 1 - c))
      rw [← pb_succ hp pre.length] at an
      have ixn : ixN (partB (ptab cs pre.length) (n - pre.length)).length (1 + (pre.length : Int)) = some (pre.length + 1) := by
        unfold ixN
        rw [partB_len, ptab_len, if_pos (by omega), if_pos (by omega)]
        exact congrArg some (by omega)
      refine ⟨_, _, sto (v := v3) rfl g3, s_setIx (i := 2) (o := false) (o' := false) (n := pre.length + 1) (e_un (e_fz c) an) rfl (e_var rfl) rfl ixn, some (.val (.int (1 + (pre.length : Int)))), nt_v, ?_⟩
      have ps := partB_set (t := ptab cs pre.length) (m := n - (pre.length + 1)) (b := pb cs (pre.length + 1))
      rw [ptab_len, ← ptab_succ, show n - (pre.length + 1) + 1 = n - pre.length by omega] at ps
      rw [List.length_append, List.length_singleton, ← ps]; rfl)
    (η := [some (.val (.tuple (enC cs))), some (.val (.int (n : Int))), some (.own false (partB (ptab cs 0) n)), none, none]) ⟨none, nt_n, rfl⟩
  rw [List.length_range, Nat.sub_self, show partB (ptab cs n) 0 = (ptab cs n).map .bool by unfold partB; simp] at hl
  unfold F_payable_to m_payable_to
  have rg : rangeD [.int 1, .int ((n : Int) + 1)] = some ((List.range n).map fun (k : Nat) => .int (1 + (k : Int))) := by
    rw [range2 (by omega) (by omega) (by omega) (by omega)]
    have : ((n : Int) + 1 - 1).toNat = n := by omega
    rw [this]; rfl
  have hcat : catD (.list [.bool true]) (.list (List.replicate n (.bool false))) = some (partB (ptab cs 0) n) := by
    unfold catD
    simp only
    rw [if_pos (by rw [sizeLine_eq, List.length_replicate]; simp; omega)]
    rfl
  exact fnV_run rfl (by decide) ⟨_, s_seq (s_asgL (e_opL (e_fz (e_caL (e_cons e_pure e_nil) (lst_e (by simp)))) (e_op (e_fz (e_caL (e_cons e_pure e_nil) (lst_e (by simp)))) (e_var rfl) (mul_list (by omega))) hcat) (sto (v := none) rfl nt_n)) (s_seq (s_for (e_gIt (e_cons e_pure (e_cons (e_op (e_var rfl) e_pure addD_e) e_nil)) rg) hl) (s_retVO rfl))⟩
theorem ptab_nil : ∀ n, (ptab [] n).map PyData.bool = PyData.bool true :: List.replicate n (.bool false)
  | 0 => rfl
  | n + 1 => by
    rw [ptab_succ, List.map_append, ptab_nil n, List.replicate_succ', List.cons_append]
    have : pb [] (n + 1) = false := by rw [pb_succ (by simp)]; rfl
    rw [this]; rfl
def tabsB (cs : List Nat) (n : Nat) : List PyData := (List.range (cs.length + 1)).map fun i => PyData.list ((ptab (cs.drop i) n).map .bool)
theorem tabsB_get {cs : List Nat} {n i : Nat} (h : i ≤ cs.length) : (tabsB cs n)[i]? = some (PyData.list ((ptab (cs.drop i) n).map .bool)) := by
  unfold tabsB
  rw [List.getElem?_map, List.getElem?_range (by omega)]; rfl
theorem tabs_ix {cs : List Nat} {N n i : Nat} {k : Int} (hk : k = (i : Int)) (h : i ≤ cs.length) (hn : n ≤ N) {j : Int} (hj : j = (n : Int)) : (ixD (.list (tabsB cs N)) (.int k)).bind (fun t => ixD t (.int j)) = some (.bool (pb (cs.drop i) n)) := by
  subst hk hj
  rw [ixD_l (tabsB_get h)]
  exact ixD_l (by rw [List.getElem?_map, ptab_get hn]; rfl)
section
variable {cs : List Nat} (hc : Coins cs) {N : Nat}
abbrev E7 (cs : List Nat) (N : Nat) (n : Int) (f a c t : Option Slot) : EnvD := [some (.val (.tuple (enC cs))), some (.val (.int n)), some (.val (.list (tabsB cs N))), f, a, c, t]
theorem drop_pos (hc : Coins cs) (i : Nat) : ∀ c ∈ cs.drop i, 1 ≤ c := fun c hm => hc.pos c (List.mem_of_mem_drop hm)
include hc
/-- the number of a coin -/
theorem times_loop {i c n : Nat} {f : Option Slot} (hi : i < cs.length) (ec : cs[i]? = some c) (hn : n ≤ N) (hN : N < 90000) (hb : pb (cs.drop i) n = true) :
    mWhile (mNot (mTru truD (mOp ixD (mOp ixD (mVar 2) (mOp addD (mVar 4) (mPure (.int 1)))) (mVar 1)))) (mAsg (mCa (fun xs => if xs.length ≤ sizeLine then some (.tuple xs) else none) (mCons (mOp addD (mVar 6) (mPure (.int 1))) (mCons (mOp subD (mVar 1) (mVar 5)) mNil))) (gTupD 2 (gConsD (gV 6) (gConsD (gV 1) gNilD)))) []
      (E7 cs N (n : Int) f (some (.val (.int (i : Int)))) (some (.val (.int (c : Int)))) (some (.val (.int 0)))) = some (.ok .nx, E7 cs N ((n - leastT (cs.drop (i + 1)) c n * c : Nat) : Int) f (some (.val (.int (i : Int)))) (some (.val (.int (c : Int)))) (some (.val (.int (leastT (cs.drop (i + 1)) c n : Int))))) := by
  have dr : cs.drop i = c :: cs.drop (i + 1) := by
    have e := List.drop_eq_getElem_cons hi
    have : cs[i] = c := by
      have := List.getElem?_eq_getElem hi
      rw [ec] at this
      exact (Option.some.inj this).symm
    rw [e, this]
  have c1 : 1 ≤ c := hc.pos c (List.mem_of_getElem? ec)
  rw [dr] at hb
  obtain ⟨h1, h2, h3⟩ := leastT_ok (C := cs.drop (i + 1)) (drop_pos hc _) c1 hb
  obtain ⟨T, hT⟩ : ∃ T, T = leastT (cs.drop (i + 1)) c n := ⟨_, rfl⟩
  rw [← hT] at h1 h2 h3 ⊢
  obtain ⟨η', hw, hP⟩ := whileI (mt := (mNot (mTru truD (mOp ixD (mOp ixD (mVar 2) (mOp addD (mVar 4) (mPure (.int 1)))) (mVar 1))))) (ms := (mAsg (mCa (fun xs => if xs.length ≤ sizeLine then some (.tuple xs) else none) (mCons (mOp addD (mVar 6) (mPure (.int 1))) (mCons (mOp subD (mVar 1) (mVar 5)) mNil))) (gTupD 2 (gConsD (gV 6) (gConsD (gV 1) gNilD)))))
    (fun η => η = E7 cs N ((n - T * c : Nat) : Int) f (some (.val (.int (i : Int)))) (some (.val (.int (c : Int)))) (some (.val (.int (T : Int)))))
    (fun m η => ∃ t, t + m = T ∧ η = E7 cs N ((n - t * c : Nat) : Int) f (some (.val (.int (i : Int)))) (some (.val (.int (c : Int)))) (some (.val (.int (t : Int)))))
    (by
      rintro m η ⟨t, ht, rfl⟩
      have le : t * c ≤ n := Nat.le_trans (Nat.mul_le_mul_right c (by omega)) h1
      have ix1 : ixD (.list (tabsB cs N)) (.int ((i : Int) + 1)) = some (.list ((ptab (cs.drop (i + 1)) N).map .bool)) := ixD_l (k := i + 1) (tabsB_get (by omega))
      have ix2 : ixD (.list ((ptab (cs.drop (i + 1)) N).map .bool)) (.int ((n - t * c : Nat) : Int)) = some (.bool (pb (cs.drop (i + 1)) (n - t * c))) := ixD_l (by rw [List.getElem?_map, ptab_get (by omega)]; rfl)
      have tst := e_notT (e_tru (g := truD) (e_op (e_op (e_var (i := 2) (η := E7 cs N ((n - t * c : Nat) : Int) f (some (.val (.int (i : Int)))) (some (.val (.int (c : Int)))) (some (.val (.int (t : Int))))) rfl) (e_op (e_var (i := 4) rfl) e_pure addD_e) ix1) (e_var (i := 1) rfl) ix2) tru_b)
      by_cases z : t = T
      · subst z
        rw [h2] at tst
        exact .inl ⟨_, tst, rfl⟩
      · rw [(h3 t (by omega)).2] at tst
        have le2 : (t + 1) * c ≤ n := Nat.le_trans (Nat.mul_le_mul_right c (by omega)) h1
        refine .inr ⟨_, E7 cs N ((n - (t + 1) * c : Nat) : Int) f (some (.val (.int (i : Int)))) (some (.val (.int (c : Int)))) (some (.val (.int ((t + 1 : Nat) : Int)))), m - 1, tst, ?_, by omega, t + 1, by omega, rfl⟩
        have e1 : ((n - t * c : Nat) : Int) - (c : Int) = ((n - (t + 1) * c : Nat) : Int) := by
          rw [Nat.succ_mul] at le2 ⊢
          omega
        refine s_asg (x := .tuple [.int ((t + 1 : Nat) : Int), .int ((n - (t + 1) * c : Nat) : Int)]) (e_ca (e_cons (e_op (e_var rfl) e_pure addD_e) (e_cons (e_op (e_var rfl) (e_var rfl) subD_e) e_nil)) ?_) ?_
        · rw [e1]; exact tup_e (by simp)
        · exact gtup2 (v := some (.val (.int (t : Int)))) (w := some (.val (.int ((n - t * c : Nat) : Int)))) rfl nt_v rfl nt_v (by decide))
    T (E7 cs N (n : Int) f (some (.val (.int (i : Int)))) (some (.val (.int (c : Int)))) (some (.val (.int 0)))) ⟨0, by omega, by rw [Nat.zero_mul, Nat.sub_zero]; rfl⟩
  subst hP
  exact hw
end
end G45
end
section
set_option Elab.async false
set_option linter.all false
set_option maxRecDepth 100000
set_option maxHeartbeats 4000000
namespace G45
open PySem L2 L2.DL
set_option autoImplicit false
open P41
/-! ### the first payment -/
def pairsN (cs : List Nat) : List (Nat × Nat) := (List.range cs.length).map fun i => (i, cs.getD i 0)
theorem enum_cs (cs : List Nat) : enumXD [.tuple (enC cs)] = some ((pairsN cs).map fun p => .tuple [.int (p.1 : Int), .int (p.2 : Int)]) := by
  show some (pairsD (enC cs)) = _
  unfold pairsD pairsN
  rw [enC_len, List.map_map]
  refine congrArg some (List.map_congr_left fun i hi => ?_)
  rw [List.mem_range] at hi
  show PyData.tuple [.int (i : Int), (enC cs).getD i .none] = PyData.tuple [.int (i : Int), .int ((cs.getD i 0 : Nat) : Int)]
  rw [List.getD_eq_getElem?_getD, List.getD_eq_getElem?_getD]
  unfold enC
  rw [List.getElem?_map, List.getElem?_eq_getElem hi]; rfl
theorem pairs_pre {cs : List Nat} {p : Nat × Nat} {pre post : List (Nat × Nat)} (e : pairsN cs = pre ++ p :: post) : p.1 = pre.length ∧ pre.length < cs.length ∧ cs[pre.length]? = some p.2 := by
  have hl := congrArg List.length e
  unfold pairsN at hl
  rw [List.length_map, List.length_range, List.length_append, List.length_cons] at hl
  have lt : pre.length < cs.length := by omega
  have h : (pairsN cs)[pre.length]? = (pre ++ p :: post)[pre.length]? := by rw [e]
  unfold pairsN at h
  rw [List.getElem?_map, List.getElem?_range lt, List.getElem?_append_right (Nat.le_refl _), Nat.sub_self] at h
  have h := Option.some.inj h
  refine ⟨by rw [← h], lt, ?_⟩
  rw [← h]
  show cs[pre.length]? = some (cs.getD pre.length 0)
  rw [List.getD_eq_getElem?_getD, List.getElem?_eq_getElem lt]; rfl
section
variable {cs : List Nat} (hc : Coins cs)
include hc
theorem first_for {n : Nat} (hn : n < 90000) : fnV F_first_for [.tuple (enC cs), .int (n : Int)] = some (.ok (.d (if pb cs n = true then .tuple (enC (firstP cs n)) else .none))) := by
  have h5 := hc.five
  have len : lenD (.tuple (enC cs)) = some (.int (cs.length : Int)) := by rw [len_t, enC_len]
  have cm := compA (L := List.range cs.length) (enc := fun (i : Nat) => .int (0 + (i : Int))) (out := fun i => .list ((ptab (cs.drop i) n).map .bool)) (gm := gV 4) (vs := [4]) (mi := (gIt rangeD (mCons (mUn lenD (mVar 0)) mNil))) (me := (mCall (fnV F_payable_to) (mCons (mSl slD (mVar 0) (mPart (mVar 4)) (mPure none)) (mCons (mVar 1) mNil))))
    (η := [some (.val (.tuple (enC cs))), some (.val (.int (n : Int))), none, none, none, none, none]) (e := fun i => [some (.val (.tuple (enC cs))), some (.val (.int (n : Int))), none, none, some (.val (.int (0 + (i : Int)))), none, none])
    (e_gIt (η := [some (.val (.tuple (enC cs))), some (.val (.int (n : Int))), none, none, none, none, none]) (e_cons (e_un (e_var rfl) len) e_nil) (range1 (by omega) (by omega))) rfl (fun _ => rfl) (fun _ => rfl) (small (by rw [List.length_range]; omega))
    (fun i hi => by
      have sl : slD (.tuple (enC cs)) (some (0 + (i : Int))) none = some (.tuple (enC (cs.drop i))) := by
        show some (PyData.tuple (cutD (enC cs) (some (0 + (i : Int))) none)) = _
        rw [show (0 + (i : Int)) = (i : Int) by omega, cut_from]
        unfold enC
        rw [List.map_drop]
      exact e_call (e_cons (e_sl (e_var rfl) (e_part (e_var rfl)) e_partN sl) (e_cons (e_var rfl) e_nil)) (payable_to (drop_pos hc i) (by rw [List.length_drop]; omega) hn))
  have cat1 : addD (.list [.bool true]) (.list (List.replicate n (.bool false))) = some (.list ((ptab [] n).map .bool)) := by
    rw [ptab_nil]
    exact if_pos (by rw [sizeLine_eq, List.length_replicate]; simp; omega)
  have cat2 : addD (.list ((List.range cs.length).map fun i => .list ((ptab (cs.drop i) n).map .bool))) (.list [.list ((ptab [] n).map .bool)]) = some (.list (tabsB cs n)) := by
    have e : tabsB cs n = ((List.range cs.length).map fun i => PyData.list ((ptab (cs.drop i) n).map .bool)) ++ [.list ((ptab [] n).map .bool)] := by
      unfold tabsB
      rw [List.range_succ, List.map_append]
      simp only [List.map_cons, List.map_nil]
      rw [List.drop_of_length_le (Nat.le_refl _)]
    rw [e]
    exact if_pos (by rw [sizeLine_eq, List.length_map, List.length_range]; simp; omega)
  unfold F_first_for m_first_for
  have s1 : (mAsg (mOp addD (mFz (mComp (gIt rangeD (mCons (mUn lenD (mVar 0)) mNil)) (gV 4) (mPure true) (mCall (fnV F_payable_to) (mCons (mSl slD (mVar 0) (mPart (mVar 4)) (mPure none)) (mCons (mVar 1) mNil))) [4])) (mFz (mCaL (fun xs => if xs.length ≤ sizeLine then some xs else none) (mCons (mOp addD (mFz (mCaL (fun xs => if xs.length ≤ sizeLine then some xs else none) (mCons (mPure (.bool true)) mNil))) (mOp mulD (mFz (mCaL (fun xs => if xs.length ≤ sizeLine then some xs else none) (mCons (mPure (.bool false)) mNil))) (mVar 1))) mNil)))) (gV 2)) [some (.val (.tuple (enC cs))), some (.val (.int (n : Int))), none, none, none, none, none] = some (.ok .nx, E7 cs n (n : Int) none none none none) :=
    s_asg (e_op (e_fz cm) (e_fz (e_caL (e_cons (e_op (e_fz (e_caL (e_cons e_pure e_nil) (lst_e (by simp)))) (e_op (e_fz (e_caL (e_cons e_pure e_nil) (lst_e (by simp)))) (e_var rfl) (mul_list (by omega))) cat1) e_nil) (lst_e (by simp)))) cat2) (sto (v := none) rfl nt_n)
  have ix1 : ixD (.list (tabsB cs n)) (.int 0) = some (.list ((ptab cs n).map .bool)) := ixD_l (k := 0) (tabsB_get (by omega))
  have ix2 : ixD (.list ((ptab cs n).map .bool)) (.int (n : Int)) = some (.bool (pb cs n)) := ixD_l (by rw [List.getElem?_map, ptab_get (Nat.le_refl _)]; rfl)
  have tst := e_notT (e_tru (g := truD) (e_op (e_op (e_var (i := 2) (η := E7 cs n (n : Int) none none none none) rfl) e_pure ix1) (e_var (i := 1) rfl) ix2) tru_b)
  cases hb : pb cs n with
  | false =>
    rw [hb] at tst
    exact fnV_run rfl (by decide) ⟨_, s_seq s1 (s_seqR (s_ifT tst rfl (s_ret e_pure)))⟩
  | true =>
    rw [hb] at tst
    obtain ⟨η', hl, fs, r, a, c, t, e1, e2, e3, e4, ga, gc, gt, rfl⟩ := loopP (L := pairsN cs) (enc := fun p => .tuple [.int (p.1 : Int), .int (p.2 : Int)]) (gm := (gTupD 2 (gConsD (gV 4) (gConsD (gV 5) gNilD)))) (ms := (mSeq (mAsg (mPure (.int 0)) (gV 6))
    (mSeq (mWhile (mNot (mTru truD (mOp ixD (mOp ixD (mVar 2) (mOp addD (mVar 4) (mPure (.int 1)))) (mVar 1)))) (mAsg (mCa (fun xs => if xs.length ≤ sizeLine then some (.tuple xs) else none) (mCons (mOp addD (mVar 6) (mPure (.int 1))) (mCons (mOp subD (mVar 1) (mVar 5)) mNil))) (gTupD 2 (gConsD (gV 6) (gConsD (gV 1) gNilD)))) [])
    (mAsg (mOp addD (mVar 3) (mCa (fun xs => if xs.length ≤ sizeLine then some (.tuple xs) else none) (mCons (mVar 6) mNil))) (gV 3)))))
      (fun pre η => ∃ (fs : List Nat) (r : Nat) (a c t : Option Slot), fs ++ firstP (cs.drop pre.length) r = firstP cs n ∧ fs.length = pre.length ∧ r ≤ n ∧ pb (cs.drop pre.length) r = true ∧ NT a ∧ NT c ∧ NT t ∧ η = E7 cs n (r : Int) (some (.val (.tuple (enC fs)))) a c t)
      (by
        rintro pre p post η eL ⟨fs, r, a, c, t, e1, e2, e3, e4, ga, gc, gt, rfl⟩
        obtain ⟨p1, lt, p2⟩ := pairs_pre eL
        have c1 : 1 ≤ p.2 := hc.pos _ (List.mem_of_getElem? p2)
        have dr : cs.drop pre.length = p.2 :: cs.drop (pre.length + 1) := by
          have e := List.drop_eq_getElem_cons lt
          have : cs[pre.length] = p.2 := by
            have := List.getElem?_eq_getElem lt
            rw [p2] at this
            exact (Option.some.inj this).symm
          rw [e, this]
        have tl := times_loop hc (N := n) (i := pre.length) (c := p.2) (n := r) (f := some (.val (.tuple (enC fs)))) lt p2 e3 hn e4
        have e4' := e4
        rw [dr] at e4'
        obtain ⟨h1, h2, h3⟩ := leastT_ok (C := cs.drop (pre.length + 1)) (drop_pos hc _) c1 e4'
        have ad : addD (.tuple (enC fs)) (.tuple [.int (leastT (cs.drop (pre.length + 1)) p.2 r : Int)]) = some (.tuple (enC (fs ++ [leastT (cs.drop (pre.length + 1)) p.2 r]))) := by
          have e : enC (fs ++ [leastT (cs.drop (pre.length + 1)) p.2 r]) = enC fs ++ [.int (leastT (cs.drop (pre.length + 1)) p.2 r : Int)] := by
            unfold enC
            rw [List.map_append]; rfl
          rw [e]
          exact if_pos (by rw [sizeLine_eq, enC_len]; simp; omega)
        have gv : (gTupD 2 (gConsD (gV 4) (gConsD (gV 5) gNilD))) (.tuple [.int (p.1 : Int), .int (p.2 : Int)]) (E7 cs n (r : Int) (some (.val (.tuple (enC fs)))) a c t) = some (E7 cs n (r : Int) (some (.val (.tuple (enC fs)))) (some (.val (.int (pre.length : Int)))) (some (.val (.int (p.2 : Int)))) t) := by
          rw [p1]
          exact gtup2 (v := a) (w := c) rfl ga rfl gc (by decide)
        refine ⟨_, _, gv, s_seq (s_asg e_pure (sto (v := t) rfl gt)) (s_seq tl (s_asg (e_op (e_var rfl) (e_ca (e_cons (e_var rfl) e_nil) (tup_e (by simp))) ad) (sto (v := some (.val (.tuple (enC fs)))) rfl nt_v))), fs ++ [leastT (cs.drop (pre.length + 1)) p.2 r], r - leastT (cs.drop (pre.length + 1)) p.2 r * p.2, _, _, _, ?_, ?_, by omega, ?_, nt_v, nt_v, nt_v, rfl⟩
        · rw [List.length_append, List.length_singleton, List.append_assoc, ← e1, dr]; rfl
        · rw [List.length_append, List.length_append, e2]; rfl
        · rw [List.length_append, List.length_singleton]; exact h2)
      (η := E7 cs n (n : Int) (some (.val (.tuple (enC [])))) none none none) ⟨[], n, none, none, none, rfl, rfl, Nat.le_refl _, hb, nt_n, nt_n, nt_n, rfl⟩
    have pl : (pairsN cs).length = cs.length := by unfold pairsN; rw [List.length_map, List.length_range]
    rw [pl, List.drop_of_length_le (Nat.le_refl _)] at e1
    have e1 : fs ++ [] = firstP cs n := e1
    rw [List.append_nil] at e1
    subst e1
    rw [if_pos rfl]
    exact fnV_run rfl (by decide) ⟨_, s_seq s1 (s_seq (s_ifF tst rfl e_pure) (s_seq (s_asg (e_ca e_nil (tup_e (by simp))) (sto (v := none) rfl nt_n)) (s_seq (s_for (e_gIt (e_cons (e_var rfl) e_nil) (enum_cs cs)) hl) (s_retV rfl))))⟩
theorem first_payment {n : Nat} (hn : n < 90000) : fnV F_first_payment [.tuple (enC cs), .int (n : Int)] = some (.ok (.d (if pb cs n = true then .tuple (enC (firstP cs n)) else .none))) := by
  unfold F_first_payment m_first_payment
  exact fnV_run rfl (by decide) ⟨_, s_seq (s_drop (e_call (e_cons (e_var rfl) e_nil) (need_coins hc))) (s_ret (e_ifT (e_tru (e_op (e_var rfl) e_pure geD_e) boolD_e) (decide_eq_true (by omega)) (e_call (e_cons (e_var rfl) (e_cons (e_var rfl) e_nil)) (first_for hc hn))))⟩
theorem first_neg {n : Int} (hn : n < 0) : fnV F_first_payment [.tuple (enC cs), .int n] = some (.ok (.d .none)) := by
  unfold F_first_payment m_first_payment
  exact fnV_run rfl (by decide) ⟨_, s_seq (s_drop (e_call (e_cons (e_var rfl) e_nil) (need_coins hc))) (s_ret (e_ifF (e_tru (e_op (e_var rfl) e_pure geD_e) boolD_e) (decide_eq_false (by omega)) e_pure))⟩
end
end G45
end
section
set_option Elab.async false
set_option linter.all false
set_option maxRecDepth 100000
namespace P41
set_option autoImplicit false
/-! ### two coins, three coins -/
theorem cop_int {a b : Nat} (h : Nat.gcd a b = 1) {x : Int} (d : (a : Int) ∣ (b : Int) * x) : (a : Int) ∣ x := by
  rw [Int.ofNat_dvd_left] at d ⊢
  rw [Int.natAbs_mul, Int.natAbs_natCast] at d
  exact Nat.Coprime.dvd_of_dvd_mul_left (show Nat.Coprime a b from h) d
theorem gcd2 (a b : Nat) : gcdL [a, b] = Nat.gcd a b := by
  show Nat.gcd (Nat.gcd 0 a) b = _
  rw [Nat.gcd_zero_left]
theorem pay2 {a b n : Nat} (h : Pay [a, b] n) : ∃ x y, n = x * a + y * b := by
  induction h with
  | zero => exact ⟨0, 0, by omega⟩
  | @add m c _ hc ih =>
    obtain ⟨x, y, rfl⟩ := ih
    rcases List.mem_cons.mp hc with rfl | hc
    · exact ⟨x + 1, y, by rw [Nat.succ_mul]; omega⟩
    · rw [List.mem_singleton] at hc
      subst hc
      exact ⟨x, y + 1, by rw [Nat.succ_mul]; omega⟩
/-- each number: so many of b, less than a, and a times any -/
theorem ex2 {a b : Nat} (ha : 0 < a) (h : Nat.gcd a b = 1) (n : Nat) : ∃ (y : Nat) (k : Int), y < a ∧ (n : Int) = (b : Int) * y + (a : Int) * k := by
  obtain ⟨p, hp, e⟩ := re_of (C := [a, b]) (b := a) (n := n) ha (by rw [gcd2, h]; exact Nat.one_dvd n)
  obtain ⟨x, y, rfl⟩ := pay2 hp
  refine ⟨y % a, (n / a : Nat) - (b * (y % a) / a : Nat), Nat.mod_lt _ ha, ?_⟩
  have e1 : (b * (y % a)) % a = n % a := by
    rw [← e, Nat.mul_mod, Nat.mod_mod, ← Nat.mul_mod, Nat.add_comm, Nat.add_mul_mod_self_right, Nat.mul_comm]
  have d1 := Nat.div_add_mod n a
  have d2 := Nat.div_add_mod (b * (y % a)) a
  rw [e1] at d2
  rw [Int.mul_sub, ← Int.natCast_mul, ← Int.natCast_mul, ← Int.natCast_mul]
  omega
section
variable {C : List Nat}
theorem pay_is {a b : Nat} (hC : ∀ c, c ∈ C ↔ c = a ∨ c = b) (ha : 0 < a) (h : Nat.gcd a b = 1) {n y : Nat} {k : Int} (hy : y < a) (e : (n : Int) = (b : Int) * y + (a : Int) * k) : Pay C n ↔ 0 ≤ k := by
  constructor
  · intro p
    have p2 : Pay [a, b] n := pay_more (fun c hc => by
      rcases (hC c).mp hc with rfl | rfl
      · exact List.mem_cons_self
      · exact List.mem_cons_of_mem _ List.mem_cons_self) p
    obtain ⟨x, z, rfl⟩ := pay2 p2
    rw [Int.natCast_add, Int.natCast_mul, Int.natCast_mul] at e
    have e2 : (b : Int) * ((z : Int) - y) = (a : Int) * (k - x) := by
      rw [Int.mul_sub, Int.mul_sub]
      have := Int.mul_comm (x : Int) (a : Int)
      have := Int.mul_comm (z : Int) (b : Int)
      omega
    obtain ⟨t, ht⟩ := cop_int h (show (a : Int) ∣ (b : Int) * ((z : Int) - y) from ⟨_, e2⟩)
    rw [ht, ← Int.mul_assoc, Int.mul_comm (b : Int) (a : Int), Int.mul_assoc] at e2
    have e3 : (b : Int) * t = k - x := Int.eq_of_mul_eq_mul_left (by omega) e2
    have t0 : 0 ≤ t := by
      refine Classical.byContradiction fun z => ?_
      have : (a : Int) * t ≤ (a : Int) * (-1) := Int.mul_le_mul_of_nonneg_left (by omega) (by omega)
      omega
    have : 0 ≤ (b : Int) * t := Int.mul_nonneg (by omega) t0
    omega
  · intro k0
    obtain ⟨x, rfl⟩ : ∃ x : Nat, k = (x : Int) := ⟨k.toNat, by omega⟩
    have en : n = y * b + x * a := by
      rw [Nat.mul_comm y b, Nat.mul_comm x a]
      rw [← Int.natCast_mul, ← Int.natCast_mul] at e
      omega
    rw [en]
    exact pay_plus (pay_times ((hC b).mpr (.inr rfl)) y) (pay_times ((hC a).mpr (.inl rfl)) x)
/-- beyond a * b - a - b all are paid -/
theorem two_far {a b : Nat} (hC : ∀ c, c ∈ C ↔ c = a ∨ c = b) (ha : 0 < a) (h : Nat.gcd a b = 1) {n : Nat} (hn : (a : Int) * b - a - b < n) : Pay C n := by
  obtain ⟨y, k, hy, e⟩ := ex2 ha h n
  rw [pay_is hC ha h hy e]
  refine Classical.byContradiction fun z => ?_
  have h1 : (a : Int) * k ≤ (a : Int) * (-1) := Int.mul_le_mul_of_nonneg_left (by omega) (by omega)
  have h2 : (b : Int) * y ≤ (b : Int) * ((a : Int) - 1) := Int.mul_le_mul_of_nonneg_left (by omega) (by omega)
  rw [Int.mul_sub, Int.mul_comm (b : Int) (a : Int)] at h2
  omega
/-- a number is paid exactly if its mirror is not -/
theorem two_mirror {a b : Nat} (hC : ∀ c, c ∈ C ↔ c = a ∨ c = b) (ha : 0 < a) (h : Nat.gcd a b = 1) {n m : Nat} (hn : (n : Int) + m = (a : Int) * b - a - b) : Pay C n ↔ ¬ Pay C m := by
  obtain ⟨y, k, hy, e⟩ := ex2 ha h n
  have e2 : (m : Int) = (b : Int) * ((a - 1 - y : Nat) : Int) + (a : Int) * (-1 - k) := by
    have : ((a - 1 - y : Nat) : Int) = (a : Int) - 1 - y := by omega
    rw [this, Int.mul_sub, Int.mul_sub, Int.mul_sub, Int.mul_comm (b : Int) (a : Int)]
    omega
  rw [pay_is hC ha h hy e, pay_is hC ha h (by omega) e2]
  omega
/-- the greatest unpaid number, by what it is -/
theorem last_unpaid {N : Nat} {g : Int} (h1 : -1 ≤ g) (h2 : ∀ n : Nat, g < n → pb C n = true) (h3 : ∀ n : Nat, (n : Int) = g → pb C n = false) (hN : g ≤ N) :
    (match (rest C N)[(rest C N).length - 1]? with
      | some s => (s : Int)
      | none => -1) = g := by
  have lr := last_range (p := fun n => !pb C n) (N + 1)
  unfold rest
  rcases lr with ⟨a1, a2⟩ | ⟨s, a1, a2, a3, a4, a5⟩
  · rw [a1]
    show (-1 : Int) = g
    refine Classical.byContradiction fun z => ?_
    have := a2 g.toNat (by omega)
    have f := h3 g.toNat (by omega)
    rw [f] at this
    cases this
  · rw [a2]
    show (s : Int) = g
    rcases Int.lt_trichotomy (s : Int) g with l | l | l
    · have := a5 g.toNat (by omega) (by omega)
      have f := h3 g.toNat (by omega)
      rw [f] at this
      cases this
    · exact l
    · have := h2 s l
      rw [this] at a3
      cases a3
theorem last_props {N : Nat} (far : ∀ n : Nat, N ≤ n → pb C n = true) {g : Int} (e : (match (rest C N)[(rest C N).length - 1]? with
      | some s => (s : Int)
      | none => -1) = g) : -1 ≤ g ∧ (∀ n : Nat, g < n → pb C n = true) ∧ (∀ n : Nat, (n : Int) = g → pb C n = false) ∧ g ≤ N := by
  have lr := last_range (p := fun n => !pb C n) (N + 1)
  unfold rest at e
  rcases lr with ⟨a1, a2⟩ | ⟨s, a1, a2, a3, a4, a5⟩
  · rw [a1] at e
    have e : (-1 : Int) = g := e
    subst e
    refine ⟨by omega, fun n _ => ?_, fun n h => by omega, by omega⟩
    by_cases h : n < N + 1
    · simpa using a2 n h
    · exact far n (by omega)
  · rw [a2] at e
    have e : (s : Int) = g := e
    subst e
    refine ⟨by omega, fun n h => ?_, fun n h => ?_, by omega⟩
    · by_cases h2 : n < N + 1
      · simpa using a5 n (by omega) h2
      · exact far n (by omega)
    · have : n = s := by omega
      subst this
      simpa using a3
theorem rest_none {N : Nat} (h : ∀ n, pb C n = true) : rest C N = [] := by
  unfold rest
  rw [List.filter_eq_nil_iff]
  intro n _
  rw [h n]; simp
/-- half of the numbers are unpaid -/
theorem rest_half {N F : Nat} (hF : F ≤ N) (far : ∀ n, F < n → pb C n = true) (mir : ∀ n, n ≤ F → pb C n = !pb C (F - n)) : (rest C N).length * 2 = F + 1 := by
  have e1 : (rest C N).length = (List.range (F + 1)).countP fun n => !pb C n := by
    unfold rest
    rw [← List.countP_eq_length_filter, show N + 1 = (F + 1) + (N - F) by omega, List.range_add, List.countP_append]
    have : ((List.range (N - F)).map fun x => F + 1 + x).countP (fun n => !pb C n) = 0 := by
      rw [List.countP_eq_zero]
      intro n hn
      obtain ⟨x, _, rfl⟩ := List.mem_map.mp hn
      rw [far _ (by omega)]; simp
    rw [this]; rfl
  have perm : ((List.range (F + 1)).map fun n => F - n).Perm (List.range (F + 1)) := by
    refine (List.perm_ext_iff_of_nodup ?_ List.nodup_range).mpr fun n => ?_
    · unfold List.Nodup
      rw [List.pairwise_map]
      exact List.pairwise_lt_range.imp_of_mem fun {x y} hx hy h => by
        rw [List.mem_range] at hx hy
        omega
    · rw [List.mem_map, List.mem_range]
      constructor
      · rintro ⟨m, hm, rfl⟩
        rw [List.mem_range] at hm
        omega
      · intro h
        exact ⟨F - n, List.mem_range.mpr (by omega), by omega⟩
  have e2 : (List.range (F + 1)).countP (fun n => !pb C n) = (List.range (F + 1)).countP fun n => pb C n := by
    rw [← perm.countP_eq, List.countP_map]
    refine List.countP_congr fun n hn => ?_
    rw [List.mem_range] at hn
    show (!pb C (F - n)) = true ↔ _
    rw [← mir n (by omega)]
  have e3 : (List.range (F + 1)).countP (fun n => pb C n) + (List.range (F + 1)).countP (fun n => !pb C n) = F + 1 := by
    have := List.length_eq_countP_add_countP (fun n => pb C n) (l := List.range (F + 1))
    rw [List.length_range] at this
    have e : (List.range (F + 1)).countP (fun n => decide ¬ (pb C n = true)) = (List.range (F + 1)).countP (fun n => !pb C n) := by
      congr 1
      funext n
      cases pb C n <;> rfl
    rw [e] at this
    omega
  omega
/-! three coins -/
theorem pay3 {a b c n : Nat} (hC : ∀ x, x ∈ C → x = a ∨ x = b ∨ x = c) (h : Pay C n) : ∃ x y z, n = x * a + y * b + z * c := by
  induction h with
  | zero => exact ⟨0, 0, 0, by omega⟩
  | @add m d _ hd ih =>
    obtain ⟨x, y, z, rfl⟩ := ih
    rcases hC d hd with rfl | rfl | rfl
    · exact ⟨x + 1, y, z, by rw [Nat.succ_mul]; omega⟩
    · exact ⟨x, y + 1, z, by rw [Nat.succ_mul]; omega⟩
    · exact ⟨x, y, z + 1, by rw [Nat.succ_mul]; omega⟩
theorem john {D : List Nat} {a b c d : Nat} (hC : ∀ x, x ∈ C ↔ x = a ∨ x = b ∨ x = c) (hD : ∀ x, x ∈ D ↔ x = d * a ∨ x = d * b ∨ x = c) (hd : 0 < d) (h : Nat.gcd d c = 1) {m k : Nat} {s : Int} (hk : k < d) (e : (m : Int) = (c : Int) * k + (d : Int) * s) :
    Pay D m ↔ 0 ≤ s ∧ Pay C s.toNat := by
  constructor
  · intro p
    obtain ⟨x, y, z, rfl⟩ := pay3 (fun q hq => (hD q).mp hq) p
    have e2 : (c : Int) * ((z : Int) - k) = (d : Int) * (s - (x * a + y * b : Nat)) := by
      have h1 : ((x * (d * a) + y * (d * b) + z * c : Nat) : Int) = (d : Int) * ((x * a + y * b : Nat) : Int) + (c : Int) * z := by
        have : x * (d * a) + y * (d * b) + z * c = d * (x * a + y * b) + c * z := by
          rw [Nat.mul_add, Nat.mul_left_comm x d a, Nat.mul_left_comm y d b, Nat.mul_comm z c]
        rw [this, Int.natCast_add, Int.natCast_mul, Int.natCast_mul]
      rw [h1] at e
      rw [Int.mul_sub, Int.mul_sub]
      omega
    obtain ⟨t, ht⟩ := cop_int h (show (d : Int) ∣ (c : Int) * ((z : Int) - k) from ⟨_, e2⟩)
    rw [ht, ← Int.mul_assoc, Int.mul_comm (c : Int) (d : Int), Int.mul_assoc] at e2
    have e3 : (c : Int) * t = s - (x * a + y * b : Nat) := Int.eq_of_mul_eq_mul_left (by omega) e2
    have t0 : 0 ≤ t := by
      refine Classical.byContradiction fun q => ?_
      have : (d : Int) * t ≤ (d : Int) * (-1) := Int.mul_le_mul_of_nonneg_left (by omega) (by omega)
      omega
    obtain ⟨u, rfl⟩ : ∃ u : Nat, t = (u : Int) := ⟨t.toNat, by omega⟩
    have es : s = ((x * a + y * b + u * c : Nat) : Int) := by
      rw [Int.natCast_add, Int.natCast_mul u c, Int.mul_comm (u : Int) (c : Int)]
      omega
    rw [es, Int.toNat_natCast]
    exact ⟨by omega, pay_plus (pay_plus (pay_times ((hC a).mpr (.inl rfl)) x) (pay_times ((hC b).mpr (.inr (.inl rfl))) y)) (pay_times ((hC c).mpr (.inr (.inr rfl))) u)⟩
  · rintro ⟨s0, p⟩
    obtain ⟨r, rfl⟩ : ∃ r : Nat, s = (r : Int) := ⟨s.toNat, by omega⟩
    rw [Int.toNat_natCast] at p
    obtain ⟨x, y, z, rfl⟩ := pay3 (fun q hq => (hC q).mp hq) p
    have em : m = x * (d * a) + y * (d * b) + (k + d * z) * c := by
      have : x * (d * a) + y * (d * b) + (k + d * z) * c = c * k + d * (x * a + y * b + z * c) := by
        rw [Nat.mul_add, Nat.mul_add, Nat.add_mul, Nat.mul_left_comm x d a, Nat.mul_left_comm y d b, Nat.mul_comm k c, Nat.mul_assoc]; omega
      rw [this]
      rw [← Int.natCast_mul, ← Int.natCast_mul] at e
      omega
    rw [em]
    exact pay_plus (pay_plus (pay_times ((hD _).mpr (.inl rfl)) x) (pay_times ((hD _).mpr (.inr (.inl rfl))) y)) (pay_times ((hD c).mpr (.inr (.inr rfl))) _)
/-- Johnson: the greatest unpaid number -/
theorem john_last {D : List Nat} {a b c d : Nat} (hC : ∀ x, x ∈ C ↔ x = a ∨ x = b ∨ x = c) (hD : ∀ x, x ∈ D ↔ x = d * a ∨ x = d * b ∨ x = c) (hd : 0 < d) (hc : 0 < c) (h : Nat.gcd d c = 1) {g : Int} (h1 : -1 ≤ g) (h2 : ∀ n : Nat, g < n → Pay C n) (h3 : ∀ n : Nat, (n : Int) = g → ¬ Pay C n) :
    -1 ≤ (d : Int) * g + (c : Int) * ((d : Int) - 1) ∧ (∀ n : Nat, (d : Int) * g + (c : Int) * ((d : Int) - 1) < n → Pay D n) ∧ ∀ n : Nat, (n : Int) = (d : Int) * g + (c : Int) * ((d : Int) - 1) → ¬ Pay D n := by
  refine ⟨?_, fun n hn => ?_, fun n hn => ?_⟩
  · have a1 : (d : Int) * (-1) ≤ (d : Int) * g := Int.mul_le_mul_of_nonneg_left h1 (by omega)
    have a2 : (1 : Int) * ((d : Int) - 1) ≤ (c : Int) * ((d : Int) - 1) := Int.mul_le_mul_of_nonneg_right (by omega) (by omega)
    omega
  · obtain ⟨k, s, hk, e⟩ := ex2 hd h n
    rw [john hC hD hd h hk e]
    have a1 : (c : Int) * k ≤ (c : Int) * ((d : Int) - 1) := Int.mul_le_mul_of_nonneg_left (by omega) (by omega)
    have a2 : (d : Int) * g < (d : Int) * s := by omega
    have a3 : g < s := Int.lt_of_mul_lt_mul_left a2 (by omega)
    exact ⟨by omega, h2 _ (by omega)⟩
  · have ek : ((d - 1 : Nat) : Int) = (d : Int) - 1 := by omega
    have e : (n : Int) = (c : Int) * ((d - 1 : Nat) : Int) + (d : Int) * g := by rw [ek]; omega
    rw [john hC hD hd h (by omega) e]
    rintro ⟨g0, p⟩
    exact h3 g.toNat (by omega) p
end
end P41
end
section
set_option Elab.async false
set_option linter.all false
set_option maxRecDepth 100000
set_option maxHeartbeats 4000000
namespace G45
open PySem L2 L2.DL
set_option autoImplicit false
open P41
/-! ### two coins -/
noncomputable def twoB1 : MX Fl :=
    (mSeq (mAsg (mIf (mTru boolD (mOp gtD (mVar 2) (mPure (.int 0)))) (mCallI F__law_draw 0 (mCons (mOp addD (mVar 2) (mPure (.int 1))) mNil)) (mPure (.int 0))) (gV 7))
    (mSeq (mIfS (mAnd (mTru boolD (mOp geD (mVar 2) (mPure (.int 0)))) (mTru boolD (mOp eqD (mCall (fnV F_payable) (mCons (mVar 1) (mCons (mVar 7) mNil))) (mCall (fnV F_payable) (mCons (mVar 1) (mCons (mOp subD (mVar 2) (mVar 7)) mNil)))))) (mRet (mPure (.bool false))) (mPure .nx))
    (mIfS (mAnd (mTru boolD (mChain leD leD (mPure (.int 0)) (mVar 7) (mPure (.int 2000)))) (mAnd (mTru boolD (mOp geD (mVar 2) (mPure (.int 0)))) (mTru boolD (mOp neD (mOp inD (mVar 7) (mVar 3)) (mOp eqD (mOp ixD (mCall (fnV F_payment_paper) (mCons (mVar 1) (mCons (mVar 7) mNil))) (mPure (.int 0))) (mPure (.str "not"))))))) (mRet (mPure (.bool false))) (mPure .nx))))
theorem eqv_nat (a b : Nat) : PyData.eqv (.int (a : Int)) (.int (b : Int)) = decide (a = b) := by
  show ((a : Int) == (b : Int)) = _
  rw [Bool.eq_iff_iff, beq_iff_eq, decide_eq_true_eq]
  omega
theorem eq_paid : eqD (.str "paid") (.str "not") = some (.bool false) := (if_pos ⟨by decide +kernel, by decide +kernel⟩).trans (congrArg (fun b => some (PyData.bool b)) (by decide +kernel))
theorem eq_not : eqD (.str "not") (.str "not") = some (.bool true) := (if_pos ⟨by decide +kernel, by decide +kernel⟩).trans (congrArg (fun b => some (PyData.bool b)) (by decide +kernel))
theorem in_nats (l : List Nat) (n : Nat) : inD (.int (n : Int)) (.list (l.map fun (n : Nat) => PyData.int (n : Int))) = some (.bool (decide (n ∈ l))) := by
  have sh : SeqAt.shaped (.list (l.map fun (n : Nat) => PyData.int (n : Int))) = true := (flat_list (k := 0) fun d hd => by
    obtain ⟨i, _, rfl⟩ := List.mem_map.mp hd
    exact flat_int).shaped (by decide)
  have h := List.any_map (f := fun (n : Nat) => PyData.int (n : Int)) (l := l) (p := fun z => PyData.eqv z (.int (n : Int)))
  show (if SeqAt.shaped (PyData.int (n : Int)) = true ∧ _ then _ else _) = _
  rw [if_pos ⟨rfl, sh⟩, h]
  refine congrArg (fun b => some (PyData.bool b)) ?_
  rw [Bool.eq_iff_iff, List.any_eq_true, decide_eq_true_eq]
  constructor
  · rintro ⟨m, hm, e⟩
    have e : PyData.eqv (.int (m : Int)) (.int (n : Int)) = true := e
    rw [eqv_nat, decide_eq_true_eq] at e
    subst e; exact hm
  · intro h
    exact ⟨n, h, by show PyData.eqv (.int (n : Int)) (.int (n : Int)) = true; rw [eqv_nat]; simp⟩
theorem eqD_bb (a b : Bool) : eqD (.bool a) (.bool b) = some (.bool (a == b)) := by cases a <;> cases b <;> rfl
theorem neD_bb (a b : Bool) : neD (.bool a) (.bool b) = some (.bool (!(a == b))) := by cases a <;> cases b <;> rfl
def dueB (cs : List Nat) (n : Int) : Bool := decide (0 ≤ n) && pb cs n.toNat
section
variable {cs : List Nat} {b M : Nat} {f : List (Option Nat)} (K : Kit cs b M f)
include K
theorem can_any (n : Int) : fnV F_can_pay [.tuple (enC cs), .int n] = some (.ok (.d (.bool (dueB cs n)))) := by
  have c := can_ok K (n := n)
  have b1 := K.b1
  have pe : (match f.getD (n % (b : Int)).toNat none with
      | none => false
      | some k => decide ((k : Int) ≤ n)) = dueB cs n := by
    unfold dueB
    by_cases h : 0 ≤ n
    · obtain ⟨m, rfl⟩ : ∃ m : Nat, n = (m : Int) := ⟨n.toNat, by omega⟩
      have e : ((m : Int) % (b : Int)).toNat = m % b := by
        rw [show (m : Int) % (b : Int) = ((m % b : Nat) : Int) from rfl, Int.toNat_natCast]
      have pi := pay_iff K.bm (K.lt.2 (m % b) (Nat.mod_lt m K.b1))
      rw [e, decide_eq_true h, Bool.true_and, Int.toNat_natCast, Bool.eq_iff_iff, pb_iff K.coins.pos, pi]
      cases f.getD (m % b) none with
      | none => exact ⟨fun h => (by cases h), fun ⟨k, h, _⟩ => (by cases h)⟩
      | some k => exact ⟨fun h => ⟨k, rfl, by simpa using h⟩, fun ⟨k', h, le⟩ => (by cases h; simpa using le)⟩
    · rw [decide_eq_false h, Bool.false_and]
      cases f.getD (n % (b : Int)).toNat none with
      | none => rfl
      | some k => exact decide_eq_false (by omega)
  exact c.trans (congrArg (fun b => some (DL.R.ok (RV.d (PyData.bool b)))) pe)
theorem payable_any (n : Int) : fnV F_payable [.tuple (enC cs), .int n] = some (.ok (.d (.bool (dueB cs n)))) := by
  unfold F_payable m_payable
  exact fnV_run rfl (by decide) ⟨_, s_seq (s_drop (e_call (e_cons (e_var rfl) e_nil) (need_coins K.coins))) (s_ret (e_call (e_cons (e_var rfl) (e_cons (e_var rfl) e_nil)) (can_any K n)))⟩
def paperD (cs : List Nat) (b : Nat) (f : List (Option Nat)) (n : Int) : PyData := if dueB cs n = true then .tuple [.str "paid", .tuple (enC (firstP cs n.toNat))] else .tuple [.str "not", .int (b : Int), .tuple (enT f)]
theorem paper_ok {n : Int} (hn : n < 90000) : fnV F_payment_paper [.tuple (enC cs), .int n] = some (.ok (.d (paperD cs b f n))) := by
  have ca := can_any K n
  unfold F_payment_paper m_payment_paper paperD
  cases h : dueB cs n with
  | true =>
    rw [h] at ca
    rw [if_pos rfl]
    unfold dueB at h
    rw [Bool.and_eq_true, decide_eq_true_eq] at h
    obtain ⟨m, rfl⟩ : ∃ m : Nat, n = (m : Int) := ⟨n.toNat, by omega⟩
    rw [Int.toNat_natCast] at h ⊢
    have ff := first_for K.coins (n := m) (by omega)
    rw [h.2, if_pos rfl] at ff
    exact fnV_run rfl (by decide) ⟨_, s_seq (s_drop (e_call (e_cons (e_var rfl) e_nil) (need_coins K.coins))) (s_seqR (s_ifT (b := true) (e_tru (e_call (e_cons (e_var rfl) (e_cons (e_var rfl) e_nil)) ca) tru_b) rfl (s_ret (e_ca (e_cons e_pure (e_cons (e_call (e_cons (e_var rfl) (e_cons (e_var rfl) e_nil)) ff) e_nil)) (tup_e (by simp))))))⟩
  | false =>
    rw [h] at ca
    rw [if_neg (by simp)]
    exact fnV_run rfl (by decide) ⟨_, s_seq (s_drop (e_call (e_cons (e_var rfl) e_nil) (need_coins K.coins))) (s_seq (s_ifF (b := false) (e_tru (e_call (e_cons (e_var rfl) (e_cons (e_var rfl) e_nil)) ca) tru_b) rfl e_pure) (s_ret (e_ca (e_cons e_pure (e_cons (e_op (e_var rfl) e_pure K.ix) (e_cons (e_un (e_call (e_cons (e_var rfl) (e_cons (e_op (e_var rfl) e_pure K.ix) e_nil)) K.fn) tupD_l) e_nil))) (tup_e (by simp)))))⟩
theorem paper_not {n : Int} (hn : n < 90000) : ∃ d, fnV F_payment_paper [.tuple (enC cs), .int n] = some (.ok (.d d)) ∧ ∃ x, ixD d (.int 0) = some x ∧ eqD x (.str "not") = some (.bool (!dueB cs n)) := by
  refine ⟨_, paper_ok K hn, ?_⟩
  unfold paperD
  cases h : dueB cs n with
  | true =>
    rw [if_pos rfl]
    exact ⟨_, ixD_t (k := 0) rfl, eq_paid⟩
  | false =>
    rw [if_neg (by simp)]
    exact ⟨_, ixD_t (k := 0) rfl, eq_not⟩
end
end G45
end
section
set_option Elab.async false
set_option linter.all false
set_option maxRecDepth 100000
set_option maxHeartbeats 4000000
namespace G45
open PySem L2 L2.DL
set_option autoImplicit false
open P41
structure Two (cs : List Nat) (a b N : Nat) (G : Int) : Prop where
  big : -1 ≤ G ∧ G ≤ N
  due : due cs N = G
  half : ((P41.rest cs N).length : Int) * 2 = G + 1
  prod : ((a : Int) - 1) * ((b : Int) - 1) = G + 1
  mir : ∀ n m : Nat, (n : Int) + m = G → pb cs n = !pb cs m
theorem two_ok {cs : List Nat} {a b N : Nat} (hp : ∀ c ∈ cs, 1 ≤ c) (hC : ∀ c, c ∈ cs ↔ c = a ∨ c = b) (ha : 0 < a) (hb : 0 < b) (h : Nat.gcd a b = 1) (hN : a * b ≤ N) : Two cs a b N ((a : Int) * b - a - b) := by
  have e0 : ((a : Int) - 1) * ((b : Int) - 1) = (a : Int) * b - a - b + 1 := by
    rw [Int.sub_mul, Int.mul_sub, Int.one_mul, Int.mul_one]; omega
  have p0 : 0 ≤ ((a : Int) - 1) * ((b : Int) - 1) := Int.mul_nonneg (by omega) (by omega)
  have ab : ((a * b : Nat) : Int) = (a : Int) * b := Int.natCast_mul a b
  have far : ∀ n : Nat, (a : Int) * b - a - b < n → pb cs n = true := fun n hn => (pb_iff hp n).mpr (two_far hC ha h hn)
  have mir : ∀ n m : Nat, (n : Int) + m = (a : Int) * b - a - b → pb cs n = !pb cs m := fun n m e => by
    have := two_mirror hC ha h e
    rw [← pb_iff hp, ← pb_iff hp] at this
    cases h1 : pb cs n <;> cases h2 : pb cs m <;> simp_all
  have no : ∀ n : Nat, (n : Int) = (a : Int) * b - a - b → pb cs n = false := fun n e => by
    rw [mir n 0 (by omega)]
    rw [(pb_iff hp 0).mpr .zero]; rfl
  refine ⟨⟨by omega, by omega⟩, last_unpaid (by omega) far no (by omega), ?_, e0, mir⟩
  by_cases g : (a : Int) * b - a - b < 0
  · rw [rest_none fun n => far n (by omega)]
    show ((0 : Nat) : Int) * 2 = _
    omega
  · obtain ⟨F, hF⟩ : ∃ F : Nat, (a : Int) * b - a - b = F := ⟨((a : Int) * b - a - b).toNat, by omega⟩
    have := rest_half (C := cs) (N := N) (F := F) (by omega) (fun n hn => far n (by omega)) (fun n hn => mir n (F - n) (by omega))
    omega
abbrev ET (xs : List PyData) (v1 v2 v3 v4 v5 v6 v7 : Option Slot) : EnvD := [some (.own true xs), v1, v2, v3, v4, v5, v6, v7]
theorem two_loop {cs : List Nat} {b M : Nat} {f : List (Option Nat)} (K : Kit cs b M f) {a1 b1 N : Nat} {G : Int} (T : Two cs a1 b1 N G) (hN : N < 9000) {c : Int} {xs : List PyData} (w : Well c xs) (hc : c < 800000) {v4 v5 v6 v7 : Option Slot} (h4 : NT v4) (h7 : NT v7) :
    ∃ xs' w4 w7, loopM (gV 4) twoB1 [] ((List.range 12).map fun (k : Nat) => PyData.int (0 + (k : Int))) (ET xs (some (.val (.tuple (enC cs)))) (some (.val (.int G))) (some (.val (.list ((P41.rest cs N).map fun (n : Nat) => PyData.int (n : Int))))) v4 v5 v6 v7) = some (.ok .nx, ET xs' (some (.val (.tuple (enC cs)))) (some (.val (.int G))) (some (.val (.list ((P41.rest cs N).map fun (n : Nat) => PyData.int (n : Int))))) w4 v5 v6 w7) ∧ Well (c + 12) xs' := by
  obtain ⟨g1, g2⟩ := T.big
  obtain ⟨R, hR⟩ : ∃ R, R = PyData.list ((P41.rest cs N).map fun (n : Nat) => PyData.int (n : Int)) := ⟨_, rfl⟩
  rw [← hR]
  obtain ⟨η', hl, xs', w4, w7, wx, k4, k7, rfl⟩ := loopP (L := List.range 12) (enc := fun (k : Nat) => .int (0 + (k : Int))) (gm := gV 4) (ms := twoB1)
    (fun pre η => ∃ xs v4 v7, Well (c + (pre.length : Nat)) xs ∧ NT v4 ∧ NT v7 ∧ η = ET xs (some (.val (.tuple (enC cs)))) (some (.val (.int G))) (some (.val R)) v4 v5 v6 v7)
    (by
      rintro pre k post η eL ⟨xs, v4, v7, wx, k4, k7, rfl⟩
      obtain ⟨hk, lt⟩ := range_pre eL
      obtain ⟨n, xs2, hn, dn, nN, wn⟩ : ∃ (n : Nat) (xs2 : List PyData), (mIf (mTru boolD (mOp gtD (mVar 2) (mPure (.int 0)))) (mCallI F__law_draw 0 (mCons (mOp addD (mVar 2) (mPure (.int 1))) mNil)) (mPure (.int 0))) (ET xs (some (.val (.tuple (enC cs)))) (some (.val (.int G))) (some (.val R)) (some (.val (.int (0 + (k : Int))))) v5 v6 v7) = some (.ok (.int (n : Int)), ET xs2 (some (.val (.tuple (enC cs)))) (some (.val (.int G))) (some (.val R)) (some (.val (.int (0 + (k : Int))))) v5 v6 v7) ∧ (0 ≤ G → (n : Int) ≤ G) ∧ n ≤ N ∧ Well (c + (pre.length : Nat) + 1) xs2 := by
        by_cases g0 : 0 < G
        · obtain ⟨r, xs2, d, r0, r1, w2⟩ := draw_call (i := 0) (o := true) (η := ET xs (some (.val (.tuple (enC cs)))) (some (.val (.int G))) (some (.val R)) (some (.val (.int (0 + (k : Int))))) v5 v6 v7) (ml := mCons (mOp addD (mVar 2) (mPure (.int 1))) mNil) (m := G + 1) wx (by omega) rfl (e_cons (e_op (e_var rfl) e_pure addD_e) e_nil) (by omega) (by omega)
          obtain ⟨m, rfl⟩ : ∃ m : Nat, r = (m : Int) := ⟨r.toNat, by omega⟩
          exact ⟨m, xs2, e_ifT (e_tru (e_op (e_var rfl) e_pure gtD_e) boolD_e) (decide_eq_true g0) d, by omega, by omega, w2⟩
        · exact ⟨0, xs, e_ifF (e_tru (e_op (e_var rfl) e_pure gtD_e) boolD_e) (decide_eq_false g0) e_pure, by omega, by omega, wx.mono (by omega)⟩
      have pn := payable_any K (n : Int)
      have dn0 : dueB cs (n : Int) = pb cs n := by
        unfold dueB
        rw [decide_eq_true (by omega), Bool.true_and, Int.toNat_natCast]
      rw [dn0] at pn
      have t1 : (mIfS (mAnd (mTru boolD (mOp geD (mVar 2) (mPure (.int 0)))) (mTru boolD (mOp eqD (mCall (fnV F_payable) (mCons (mVar 1) (mCons (mVar 7) mNil))) (mCall (fnV F_payable) (mCons (mVar 1) (mCons (mOp subD (mVar 2) (mVar 7)) mNil)))))) (mRet (mPure (.bool false))) (mPure .nx)) (ET xs2 (some (.val (.tuple (enC cs)))) (some (.val (.int G))) (some (.val R)) (some (.val (.int (0 + (k : Int))))) v5 v6 (some (.val (.int (n : Int))))) = some (.ok .nx, ET xs2 (some (.val (.tuple (enC cs)))) (some (.val (.int G))) (some (.val R)) (some (.val (.int (0 + (k : Int))))) v5 v6 (some (.val (.int (n : Int))))) := by
        by_cases g0 : 0 ≤ G
        · have pm := payable_any K (G - n)
          have dm : dueB cs (G - n) = pb cs (G - n).toNat := by
            unfold dueB
            rw [decide_eq_true (by have := hn; have := dn g0; omega), Bool.true_and]
          rw [dm] at pm
          have mr := T.mir n (G - n).toNat (by have := dn g0; omega)
          have q : eqD (.bool (pb cs n)) (.bool (pb cs (G - n).toNat)) = some (.bool false) := by
            rw [eqD_bb, mr]
            cases pb cs (G - n).toNat <;> rfl
          exact s_ifF (b := false) (e_andT (b := true) ((e_tru (e_op (e_var rfl) e_pure geD_e) boolD_e).trans (by rw [decide_eq_true g0])) rfl (e_tru (e_op (e_call (e_cons (e_var rfl) (e_cons (e_var rfl) e_nil)) pn) (e_call (e_cons (e_var rfl) (e_cons (e_op (e_var rfl) (e_var rfl) subD_e) e_nil)) pm) q) boolD_e)) rfl e_pure
        · exact s_ifF (b := false) (e_andF (b := false) ((e_tru (e_op (e_var rfl) e_pure geD_e) boolD_e).trans (by rw [decide_eq_false g0])) rfl) rfl e_pure
      have t2 : (mIfS (mAnd (mTru boolD (mChain leD leD (mPure (.int 0)) (mVar 7) (mPure (.int 2000)))) (mAnd (mTru boolD (mOp geD (mVar 2) (mPure (.int 0)))) (mTru boolD (mOp neD (mOp inD (mVar 7) (mVar 3)) (mOp eqD (mOp ixD (mCall (fnV F_payment_paper) (mCons (mVar 1) (mCons (mVar 7) mNil))) (mPure (.int 0))) (mPure (.str "not"))))))) (mRet (mPure (.bool false))) (mPure .nx)) (ET xs2 (some (.val (.tuple (enC cs)))) (some (.val (.int G))) (some (.val R)) (some (.val (.int (0 + (k : Int))))) v5 v6 (some (.val (.int (n : Int))))) = some (.ok .nx, ET xs2 (some (.val (.tuple (enC cs)))) (some (.val (.int G))) (some (.val R)) (some (.val (.int (0 + (k : Int))))) v5 v6 (some (.val (.int (n : Int))))) := by
        by_cases n2 : n ≤ 2000
        · have ch := (e_tru (g := boolD) (e_chainT (g := leD) (g' := leD) (ma := mPure (.int 0)) (mb := mVar 7) (mc := mPure (.int 2000)) (η := ET xs2 (some (.val (.tuple (enC cs)))) (some (.val (.int G))) (some (.val R)) (some (.val (.int (0 + (k : Int))))) v5 v6 (some (.val (.int (n : Int))))) (b := true) e_pure (e_var rfl) (by rw [leD_e, decide_eq_true (by omega)]) rfl e_pure (by rw [leD_e, decide_eq_true (by omega)])) boolD_e)
          by_cases g0 : 0 ≤ G
          · obtain ⟨d, pp, x, ex, eq⟩ := paper_not K (n := (n : Int)) (by omega)
            rw [dn0] at eq
            have i1 := in_nats (P41.rest cs N) n
            have i2 : decide (n ∈ P41.rest cs N) = !pb cs n := by
              rw [Bool.eq_iff_iff, decide_eq_true_eq]
              unfold P41.rest
              rw [List.mem_filter, List.mem_range]
              exact ⟨fun h => h.2, fun h => ⟨by omega, h⟩⟩
            rw [i2, ← hR] at i1
            have q : neD (.bool (!pb cs n)) (.bool (!pb cs n)) = some (.bool false) := by rw [neD_bb]; simp
            exact s_ifF (b := false) (e_andT ch rfl (e_andT (b := true) ((e_tru (e_op (e_var rfl) e_pure geD_e) boolD_e).trans (by rw [decide_eq_true g0])) rfl (e_tru (e_op (e_op (e_var rfl) (e_var rfl) i1) (e_op (e_op (e_call (e_cons (e_var rfl) (e_cons (e_var rfl) e_nil)) pp) e_pure ex) e_pure eq) q) boolD_e))) rfl e_pure
          · exact s_ifF (b := false) (e_andT ch rfl (e_andF (b := false) ((e_tru (e_op (e_var rfl) e_pure geD_e) boolD_e).trans (by rw [decide_eq_false g0])) rfl)) rfl e_pure
        · have ch := (e_tru (g := boolD) (e_chainT (g := leD) (g' := leD) (ma := mPure (.int 0)) (mb := mVar 7) (mc := mPure (.int 2000)) (η := ET xs2 (some (.val (.tuple (enC cs)))) (some (.val (.int G))) (some (.val R)) (some (.val (.int (0 + (k : Int))))) v5 v6 (some (.val (.int (n : Int))))) (b := true) (d := .bool false) e_pure (e_var rfl) (by rw [leD_e, decide_eq_true (by omega)]) rfl e_pure (by rw [leD_e, decide_eq_false (by omega)])) boolD_e)
          exact s_ifF (b := false) (e_andF (b := false) ch rfl) rfl e_pure
      refine ⟨_, _, sto (v := v4) rfl k4, s_seq (s_asg hn (sto (v := v7) rfl k7)) (s_seq t1 t2), xs2, some (.val (.int (0 + (k : Int)))), some (.val (.int (n : Int))), ?_, nt_v, nt_v, rfl⟩
      rw [List.length_append, List.length_singleton]
      exact wn.mono (by omega))
    (η := ET xs (some (.val (.tuple (enC cs)))) (some (.val (.int G))) (some (.val R)) v4 v5 v6 v7) ⟨xs, v4, v7, w.mono (by simp), h4, h7, rfl⟩
  exact ⟨xs', w4, w7, hl, wx.mono (by rw [List.length_range]; omega)⟩
end G45
end
section
set_option Elab.async false
set_option linter.all false
set_option maxRecDepth 100000
set_option maxHeartbeats 4000000
namespace G45
open PySem L2 L2.DL
set_option autoImplicit false
open P41
theorem rest_len (cs : List Nat) (N : Nat) : (P41.rest cs N).length ≤ N + 1 := by
  have := List.length_filter_le (fun n => !pb cs n) (List.range (N + 1))
  rw [List.length_range] at this
  exact this
theorem kit_first {c : Nat} {cs : List Nat} {b M : Nat} {f : List (Option Nat)} (K : Kit (c :: cs) b M f) : b = c := by
  have h := K.ix
  rw [show ixD (.tuple (enC (c :: cs))) (.int 0) = some (.int (c : Int)) from ixD_t (k := 0) rfl] at h
  injection h with h
  injection h with h
  omega
theorem two_coins {a b : Nat} (hne : a ≠ b) (a1 : 1 ≤ a ∧ a ≤ 60) (b1 : 1 ≤ b ∧ b ≤ 60) : Coins [min a b, max a b] := by
  refine ⟨by simp, by simp, fun c hc => ?_, ?_⟩
  · simp only [List.mem_cons, List.not_mem_nil, or_false] at hc
    omega
  · simp only [List.pairwise_cons, List.mem_singleton, forall_eq, List.not_mem_nil, false_implies, implies_true, List.Pairwise.nil, and_true]
    omega
theorem gcd_mm (a b : Nat) : gcdL [min a b, max a b] = Nat.gcd a b := by
  rw [gcd2]
  rcases Nat.le_total a b with h | h
  · rw [Nat.min_eq_left h, Nat.max_eq_right h]
  · rw [Nat.min_eq_right h, Nat.max_eq_left h, Nat.gcd_comm]
theorem mem_mm (a b : Nat) : ∀ c, c ∈ [min a b, max a b] ↔ c = a ∨ c = b := fun c => by
  simp only [List.mem_cons, List.not_mem_nil, or_false]
  omega
theorem two_right {c : Int} {xs : List PyData} (w : Well c xs) (hc : c < 700000) : ∃ xs', fnI F__law_two_right xs [] = some (.ok (.d (.bool true), xs')) ∧ Well (c + 20) xs' := by
  obtain ⟨r1, x1, d1, p1, q1, w1⟩ := draw_call (i := 0) (o := true) (η := ET xs none none none none none none none) (ml := mCons (mPure (.int 59)) mNil) (m := 59) w (by omega) rfl (e_cons e_pure e_nil) (by omega) (by omega)
  obtain ⟨r2, x2, d2, p2, q2, w2⟩ := draw_call (i := 0) (o := true) (η := ET x1 none none none none none none none) (ml := mCons (mPure (.int 60)) mNil) (m := 60) w1 (by omega) rfl (e_cons e_pure e_nil) (by omega) (by omega)
  obtain ⟨u, hu⟩ : ∃ u : Nat, 1 + r1 = (u : Int) := ⟨(1 + r1).toNat, by omega⟩
  obtain ⟨v, hv⟩ : ∃ v : Nat, 1 + r2 = (v : Int) := ⟨(1 + r2).toNat, by omega⟩
  have s1 : (mPar 5 6 (mCons (mOp addD (mPure (.int 1)) (mCallI F__law_draw 0 (mCons (mPure (.int 59)) mNil))) (mCons (mOp addD (mPure (.int 1)) (mCallI F__law_draw 0 (mCons (mPure (.int 60)) mNil))) mNil))) (ET xs none none none none none none none) = some (.ok .nx, ET x2 none none none none (some (.val (.int (u : Int)))) (some (.val (.int (v : Int)))) none) := by
    rw [← hu, ← hv]
    exact s_par (e_cons (e_op e_pure d1 addD_e) (e_cons (e_op e_pure d2 addD_e) e_nil)) rfl
  have cm := law_common [u, v]
  have cm : fnV F__law_common [.tuple [.int (u : Int), .int (v : Int)]] = some (.ok (.d (.int ((Nat.gcd u v : Nat) : Int)))) := by
    rw [← gcd2]; exact cm
  obtain ⟨a, b, s2, ne, a1, b1, g1⟩ : ∃ a b : Nat, (mIfS (mOr (mTru boolD (mOp eqD (mVar 5) (mVar 6))) (mTru boolD (mOp gtD (mCall (fnV F__law_common) (mCons (mCa (fun xs => if xs.length ≤ sizeLine then some (.tuple xs) else none) (mCons (mVar 5) (mCons (mVar 6) mNil))) mNil)) (mPure (.int 1))))) (mAsg (mCa (fun xs => if xs.length ≤ sizeLine then some (.tuple xs) else none) (mCons (mPure (.int 7)) (mCons (mPure (.int 11)) mNil))) (gTupD 2 (gConsD (gV 5) (gConsD (gV 6) gNilD)))) (mPure .nx)) (ET x2 none none none none (some (.val (.int (u : Int)))) (some (.val (.int (v : Int)))) none) = some (.ok .nx, ET x2 none none none none (some (.val (.int (a : Int)))) (some (.val (.int (b : Int)))) none) ∧ a ≠ b ∧ (1 ≤ a ∧ a ≤ 60) ∧ (1 ≤ b ∧ b ≤ 60) ∧ Nat.gcd a b = 1 := by
    have set : (mAsg (mCa (fun xs => if xs.length ≤ sizeLine then some (.tuple xs) else none) (mCons (mPure (.int 7)) (mCons (mPure (.int 11)) mNil))) (gTupD 2 (gConsD (gV 5) (gConsD (gV 6) gNilD)))) (ET x2 none none none none (some (.val (.int (u : Int)))) (some (.val (.int (v : Int)))) none) = some (.ok .nx, ET x2 none none none none (some (.val (.int ((7 : Nat) : Int)))) (some (.val (.int ((11 : Nat) : Int)))) none) := s_asg (e_ca (e_cons e_pure (e_cons e_pure e_nil)) (tup_e (by simp))) rfl
    by_cases e : u = v
    · exact ⟨7, 11, s_ifT (b := true) (e_orT (b := true) (e_tru (e_op (e_var rfl) (e_var rfl) (by rw [eqD_ii, e]; simp)) boolD_e) rfl) rfl set, by decide, ⟨by decide, by decide⟩, ⟨by decide, by decide⟩, by decide⟩
    · have ef : ((u : Int) == (v : Int)) = false := by rw [beq_eq_false_iff_ne]; omega
      have t0 := e_tru (g := boolD) (e_op (g := eqD) (e_var (i := 5) (η := ET x2 none none none none (some (.val (.int (u : Int)))) (some (.val (.int (v : Int)))) none) rfl) (e_var (i := 6) rfl) (eqD_ii.trans (by rw [ef]))) boolD_e
      have t1 := e_tru (g := boolD) (e_op (g := gtD) (e_call (η := ET x2 none none none none (some (.val (.int (u : Int)))) (some (.val (.int (v : Int)))) none) (e_cons (e_ca (g := fun xs => if xs.length ≤ sizeLine then some (.tuple xs) else none) (z := .tuple [.int (u : Int), .int (v : Int)]) (e_cons (e_var (i := 5) rfl) (e_cons (e_var (i := 6) rfl) e_nil)) (tup_e (xs := [.int (u : Int), .int (v : Int)]) (by simp))) e_nil) cm) (e_pure (a := PyData.int 1)) gtD_e) boolD_e
      by_cases g : 1 < Nat.gcd u v
      · exact ⟨7, 11, s_ifT (b := true) (e_orF t0 rfl (t1.trans (by rw [decide_eq_true (by omega)]))) rfl set, by decide, ⟨by decide, by decide⟩, ⟨by decide, by decide⟩, by decide⟩
      · have gp : 0 < Nat.gcd u v := Nat.gcd_pos_of_pos_left _ (by omega)
        exact ⟨u, v, s_ifF (b := false) (e_orF t0 rfl (t1.trans (by rw [decide_eq_false (by omega)]))) rfl e_pure, e, by omega, by omega, by omega⟩
  have hcs := two_coins ne a1 b1
  obtain ⟨B, M, f, K⟩ := kit_of hcs
  have eB := kit_first K
  have eM : M = max a b := by
    have h1 := (mem_mm a b M).mp K.top.mem
    have h2 := K.top.le (max a b) (by simp)
    omega
  have mm : B * M = a * b := by
    rw [eB, eM]
    rcases Nat.le_total a b with h | h
    · rw [Nat.min_eq_left h, Nat.max_eq_right h]
    · rw [Nat.min_eq_right h, Nat.max_eq_left h, Nat.mul_comm]
  have ab : a * b ≤ 60 * 60 := Nat.mul_le_mul a1.2 b1.2
  have T := two_ok (cs := [min a b, max a b]) (N := a * b + 120) hcs.pos (mem_mm a b) a1.1 b1.1 g1 (by omega)
  have G1 : gcdL [min a b, max a b] = 1 := by rw [gcd_mm, g1]
  have gr := greatest_ok K G1
  have co := count_ok K G1
  have gp := gaps_ok K G1
  rw [mm] at gr co gp
  rw [T.due] at gr
  obtain ⟨x3, w4, w7, lp, w3⟩ := two_loop K T (by omega) (v5 := some (.val (.int (a : Int)))) (v6 := some (.val (.int (b : Int)))) w2 (by omega) (v4 := none) (v7 := none) nt_n nt_n
  have hf := T.half
  have pr := T.prod
  have bd := T.big
  have rl := rest_len [min a b, max a b] (a * b + 120)
  refine ⟨x3, fnI_of (tl := []) ?_, w3.mono (by omega)⟩
  have mn : min2D [.int (a : Int), .int (b : Int)] = some (.int ((min a b : Nat) : Int)) := by
    show some (PyData.int (if (b : Int) < (a : Int) then (b : Int) else (a : Int))) = _
    refine congrArg (fun z => some (PyData.int z)) ?_
    split <;> omega
  have mx : max2D [.int (a : Int), .int (b : Int)] = some (.int ((max a b : Nat) : Int)) := by
    show some (PyData.int (if (b : Int) > (a : Int) then (b : Int) else (a : Int))) = _
    refine congrArg (fun z => some (PyData.int z)) ?_
    split <;> omega
  have lenR : lenD (.list ((P41.rest [min a b, max a b] (a * b + 120)).map fun (n : Nat) => PyData.int (n : Int))) = some (.int ((P41.rest [min a b, max a b] (a * b + 120)).length : Int)) := by rw [len_l, List.length_map]
  have n1 : neD (.int ((a : Int) * b - a - b)) (.int ((a : Int) * b - a - b)) = some (.bool false) := by rw [neD_ii]; simp
  have n2 : neD (.int (((P41.rest [min a b, max a b] (a * b + 120)).length : Int) * 2)) (.int (((a : Int) - 1) * ((b : Int) - 1))) = some (.bool false) := by rw [neD_ii, hf, pr]; simp
  have n3 : neD (.int (((P41.rest [min a b, max a b] (a * b + 120)).length : Int) * 2)) (.int ((a : Int) * b - a - b + 1)) = some (.bool false) := by rw [neD_ii, hf]; simp
  unfold F__law_two_right m__law_two_right
  walk_at "dl frun"
  · exact s_seq s1 (s_seq s2 (s_seq (s_asg (e_ca (e_cons (e_ca (e_cons (e_var rfl) (e_cons (e_var rfl) e_nil)) mn) (e_cons (e_ca (e_cons (e_var rfl) (e_cons (e_var rfl) e_nil)) mx) e_nil)) (tup_e (by simp))) (sto (v := none) rfl nt_n))
      (s_seq (s_asg (e_op (e_op (e_op (e_var rfl) (e_var rfl) (mulD_r (by omega))) (e_var rfl) subD_e) (e_var rfl) subD_e) (sto (v := none) rfl nt_n))
      (s_seq (s_asg (e_call (e_cons (e_var rfl) e_nil) gp) (sto (v := none) rfl nt_n))
      (s_seq (s_ifF (b := false) (e_orF (b := false) (e_tru (e_op (e_call (e_cons (e_var rfl) e_nil) gr) (e_var rfl) n1) boolD_e) rfl (e_orF (b := false) (e_tru (e_op (e_op (e_call (e_cons (e_var rfl) e_nil) co) e_pure (mulD_r (by omega))) (e_op (e_op (e_var rfl) e_pure subD_e) (e_op (e_var rfl) e_pure subD_e) (mulD_r (by omega))) n2) boolD_e) rfl (e_tru (e_op (e_op (e_un (e_var rfl) lenR) e_pure (mulD_r (by omega))) (e_op (e_var rfl) e_pure addD_e) n3) boolD_e))) rfl e_pure)
      (s_seq (s_for (e_gIt (e_cons e_pure e_nil) (range1 (j := 12) (by omega) (by omega))) lp) (s_ret e_pure)))))))
  · rfl
end G45
end
section
set_option Elab.async false
set_option linter.all false
set_option maxRecDepth 100000
set_option maxHeartbeats 4000000
namespace G45
open PySem L2 L2.DL
set_option autoImplicit false
open P41
/-! ### three coins -/
theorem in_tup {d : PyData} {ds : List PyData} (h1 : flatD d = true) (h2 : ds.all flatD = true) : inD d (.tuple ds) = some (.bool (ds.any fun z => PyData.eqv z d)) := by
  unfold inD
  exact if_pos ⟨h1, h2⟩
theorem coins_mem {cs : List Nat} {l : List Int} (h : enC cs = l.map .int) (c : Nat) : c ∈ cs ↔ (c : Int) ∈ l := by
  have e1 : c ∈ cs ↔ PyData.int (c : Int) ∈ enC cs := by
    unfold enC
    rw [List.mem_map]
    exact ⟨fun h => ⟨c, h, rfl⟩, fun ⟨d, hd, e⟩ => by
      injection e with e
      have : d = c := by omega
      subst this; exact hd⟩
  rw [e1, h, List.mem_map]
  exact ⟨fun ⟨d, hd, e⟩ => by injection e with e; subst e; exact hd, fun h => ⟨_, h, rfl⟩⟩
theorem set_coins {l : List Int} (h0 : l ≠ []) (h5 : l.length ≤ 5) (hl : ∀ c ∈ l, 1 ≤ c ∧ c ≤ 60) : ∃ cs, Coins cs ∧ (∀ c : Nat, c ∈ cs ↔ (c : Int) ∈ l) ∧ ∀ d, (d = PyData.list (l.map .int) ∨ d = .tuple (l.map .int)) → sortedSetD d = some (enC cs) := by
  obtain ⟨cs, hcs, hen⟩ := coins_of (l := sortU l) (fun z => h0 (List.eq_nil_iff_forall_not_mem.mpr fun a ha => by
    have := sortU_mem.mpr ha
    rw [z] at this; cases this)) (by have := sortU_len l; omega) (fun v hv => hl v (sortU_mem.mp hv)) sortU_lt
  refine ⟨cs, hcs, fun c => (coins_mem hen c).trans sortU_mem, fun d hd => ?_⟩
  have e : setOfD d = some (sortU l) := by
    rcases hd with rfl | rfl
    · show (intsD (l.map .int)).bind _ = _
      rw [intsD_map]
      exact if_pos (by omega)
    · show (intsD (l.map .int)).bind _ = _
      rw [intsD_map]
      exact if_pos (by omega)
  unfold sortedSetD
  rw [e, hen]
  exact if_pos (by have := sortU_len l; omega)
theorem sort_coins {l : List Int} (h0 : l ≠ []) (h5 : l.length ≤ 5) (hl : ∀ c ∈ l, 1 ≤ c ∧ c ≤ 60) (nd : l.Nodup) : ∃ cs, Coins cs ∧ (∀ c : Nat, c ∈ cs ↔ (c : Int) ∈ l) ∧ sortedD (.list (l.map .int)) = some (enC cs) := by
  have pm := sortI_perm l
  obtain ⟨cs, hcs, hen⟩ := coins_of (l := sortI l) (fun z => h0 (by have := pm.length_eq; rw [z] at this; exact List.eq_nil_of_length_eq_zero this.symm)) (by rw [pm.length_eq]; exact h5) (fun v hv => hl v (pm.mem_iff.mp hv)) (by
    have a := sortI_le l
    have b := pm.nodup_iff.mpr nd
    exact (List.pairwise_and_iff.mpr ⟨a, b⟩).imp fun h => by have := h.1; have := h.2; omega)
  refine ⟨cs, hcs, fun c => (coins_mem hen c).trans pm.mem_iff, ?_⟩
  show (intsD (l.map .int)).map _ = _
  rw [intsD_map, hen]; rfl
theorem dvd_gcdL {g : Nat} : ∀ (C : List Nat) (x : Nat), g ∣ x → (∀ c ∈ C, g ∣ c) → g ∣ C.foldl Nat.gcd x
  | [], x, h, _ => h
  | c :: C, x, h, h2 => dvd_gcdL C (Nat.gcd x c) (Nat.dvd_gcd h (h2 c List.mem_cons_self)) fun d hd => h2 d (List.mem_cons_of_mem _ hd)
theorem kit_far {cs : List Nat} {b M : Nat} {f : List (Option Nat)} (K : Kit cs b M f) (g1 : gcdL cs = 1) : ∀ n, b * M + 120 ≤ n → pb cs n = true := fun n hn =>
  (pb_iff K.coins.pos n).mpr (far_pay K.bm K.b1 K.lt K.bd (by omega) (by rw [g1]; exact Nat.one_dvd n))
theorem three_right {c : Int} {xs : List PyData} (w : Well c xs) (hc : c < 700000) : ∃ xs', fnI F__law_three_right xs [] = some (.ok (.d (.bool true), xs')) ∧ Well (c + 4) xs' := by
  obtain ⟨r1, x1, d1, p1, q1, w1⟩ := draw_call (i := 0) (o := true) (η := [some (.own true xs), none, none, none, none, none, none]) (ml := mCons (mPure (.int 4)) mNil) (m := 4) w (by omega) rfl (e_cons e_pure e_nil) (by omega) (by omega)
  obtain ⟨r2, x2, d2, p2, q2, w2⟩ := draw_call (i := 0) (o := true) (η := [some (.own true x1), none, none, none, none, none, none]) (ml := mCons (mPure (.int 11)) mNil) (m := 11) w1 (by omega) rfl (e_cons e_pure e_nil) (by omega) (by omega)
  obtain ⟨r3, x3, d3, p3, q3, w3⟩ := draw_call (i := 0) (o := true) (η := [some (.own true x2), none, none, none, none, none, none]) (ml := mCons (mPure (.int 11)) mNil) (m := 11) w2 (by omega) rfl (e_cons e_pure e_nil) (by omega) (by omega)
  obtain ⟨r4, x4, d4, p4, q4, w4⟩ := draw_call (i := 0) (o := true) (η := [some (.own true x3), none, none, none, none, none, none]) (ml := mCons (mPure (.int 60)) mNil) (m := 60) w3 (by omega) rfl (e_cons e_pure e_nil) (by omega) (by omega)
  obtain ⟨d, hd⟩ : ∃ u : Nat, 2 + r1 = (u : Int) := ⟨(2 + r1).toNat, by omega⟩
  obtain ⟨a, ha⟩ : ∃ u : Nat, 1 + r2 = (u : Int) := ⟨(1 + r2).toNat, by omega⟩
  obtain ⟨b, hb⟩ : ∃ u : Nat, 1 + r3 = (u : Int) := ⟨(1 + r3).toNat, by omega⟩
  obtain ⟨e, he⟩ : ∃ u : Nat, 1 + r4 = (u : Int) := ⟨(1 + r4).toNat, by omega⟩
  refine ⟨x4, fnI_of (tl := []) ?_, w4.mono (by omega)⟩
  have s1 : (mAsg (mCa (fun xs => if xs.length ≤ sizeLine then some (.tuple xs) else none) (mCons (mOp addD (mPure (.int 2)) (mCallI F__law_draw 0 (mCons (mPure (.int 4)) mNil))) (mCons (mOp addD (mPure (.int 1)) (mCallI F__law_draw 0 (mCons (mPure (.int 11)) mNil))) (mCons (mOp addD (mPure (.int 1)) (mCallI F__law_draw 0 (mCons (mPure (.int 11)) mNil))) (mCons (mOp addD (mPure (.int 1)) (mCallI F__law_draw 0 (mCons (mPure (.int 60)) mNil))) mNil))))) (gTupD 4 (gConsD (gV 3) (gConsD (gV 4) (gConsD (gV 5) (gConsD (gV 6) gNilD)))))) [some (.own true xs), none, none, none, none, none, none] = some (.ok .nx, [some (.own true x4), none, none, some (.val (.int (d : Int))), some (.val (.int (a : Int))), some (.val (.int (b : Int))), some (.val (.int (e : Int)))]) := by
    rw [← hd, ← ha, ← hb, ← he]
    exact s_asg (e_ca (e_cons (e_op e_pure d1 addD_e) (e_cons (e_op e_pure d2 addD_e) (e_cons (e_op e_pure d3 addD_e) (e_cons (e_op e_pure d4 addD_e) e_nil)))) (tup_e (by simp))) rfl
  obtain ⟨η, hη⟩ : ∃ η : EnvD, η = [some (.own true x4), none, none, some (.val (.int (d : Int))), some (.val (.int (a : Int))), some (.val (.int (b : Int))), some (.val (.int (e : Int)))] := ⟨_, rfl⟩
  have v3 : η[3]? = some (some (.val (.int (d : Int)))) := by rw [hη]; rfl
  have v4 : η[4]? = some (some (.val (.int (a : Int)))) := by rw [hη]; rfl
  have v5 : η[5]? = some (some (.val (.int (b : Int)))) := by rw [hη]; rfl
  have v6 : η[6]? = some (some (.val (.int (e : Int)))) := by rw [hη]; rfl
  have c2 : fnV F__law_common [.tuple [.int (d : Int), .int (e : Int)]] = some (.ok (.d (.int ((Nat.gcd d e : Nat) : Int)))) := by
    rw [← gcd2]; exact law_common [d, e]
  have c3 : fnV F__law_common [.tuple [.int (a : Int), .int (b : Int), .int (e : Int)]] = some (.ok (.d (.int (gcdL [a, b, e] : Int)))) := law_common [a, b, e]
  have dab : d * a ≤ 5 * 11 ∧ d * b ≤ 5 * 11 := ⟨Nat.mul_le_mul (by omega) (by omega), Nat.mul_le_mul (by omega) (by omega)⟩
  have mda : mulD (.int (d : Int)) (.int (a : Int)) = some (.int ((d * a : Nat) : Int)) := mulD_r (by omega)
  have mdb : mulD (.int (d : Int)) (.int (b : Int)) = some (.int ((d * b : Nat) : Int)) := mulD_r (by omega)
  have inc : inD (.int (e : Int)) (.tuple [.int ((d * a : Nat) : Int), .int ((d * b : Nat) : Int)]) = some (.bool (decide (d * a = e) || decide (d * b = e))) := by
    have h : inD (.int (e : Int)) (.tuple [.int ((d * a : Nat) : Int), .int ((d * b : Nat) : Int)]) = some (.bool ([PyData.int ((d * a : Nat) : Int), PyData.int ((d * b : Nat) : Int)].any fun z => PyData.eqv z (.int (e : Int)))) := in_tup rfl rfl
    rw [h]
    simp only [List.any_cons, List.any_nil, Bool.or_false, eqv_nat]
  have tst : (mOr (mTru boolD (mOp eqD (mVar 4) (mVar 5))) (mOr (mTru boolD (mOp gtD (mCall (fnV F__law_common) (mCons (mCa (fun xs => if xs.length ≤ sizeLine then some (.tuple xs) else none) (mCons (mVar 3) (mCons (mVar 6) mNil))) mNil)) (mPure (.int 1)))) (mOr (mTru boolD (mOp gtD (mCall (fnV F__law_common) (mCons (mCa (fun xs => if xs.length ≤ sizeLine then some (.tuple xs) else none) (mCons (mVar 4) (mCons (mVar 5) (mCons (mVar 6) mNil)))) mNil)) (mPure (.int 1)))) (mTru boolD (mOp inD (mVar 6) (mCa (fun xs => if xs.length ≤ sizeLine then some (.tuple xs) else none) (mCons (mOp mulD (mVar 3) (mVar 4)) (mCons (mOp mulD (mVar 3) (mVar 5)) mNil)))))))) η
      = some (.ok (((a : Int) == (b : Int)) || (decide (1 < Nat.gcd d e) || (decide (1 < gcdL [a, b, e]) || (decide (d * a = e) || decide (d * b = e))))), η) := by
    have cst : ∀ n : Nat, decide ((1 : Int) < (n : Int)) = decide (1 < n) := fun n => decide_eq_decide.mpr (by omega)
    have k2 := e_tru (g := boolD) (e_op (g := gtD) (e_call (f := fnV F__law_common) (e_cons (e_ca (g := fun xs => if xs.length ≤ sizeLine then some (.tuple xs) else none) (e_cons (e_var v3) (e_cons (e_var v6) e_nil)) (tup_e (by show 2 ≤ 100000; decide))) e_nil) c2) (e_pure (a := PyData.int 1)) gtD_e) boolD_e
    have k3 := e_tru (g := boolD) (e_op (g := gtD) (e_call (f := fnV F__law_common) (e_cons (e_ca (g := fun xs => if xs.length ≤ sizeLine then some (.tuple xs) else none) (e_cons (e_var v4) (e_cons (e_var v5) (e_cons (e_var v6) e_nil))) (tup_e (by show 3 ≤ 100000; decide))) e_nil) c3) (e_pure (a := PyData.int 1)) gtD_e) boolD_e
    rw [cst] at k2 k3
    exact e_orB (e_tru (e_op (e_var v4) (e_var v5) eqD_ii) boolD_e) (e_orB k2 (e_orB k3 (e_tru (e_op (e_var v6) (e_ca (e_cons (e_op (e_var v3) (e_var v4) mda) (e_cons (e_op (e_var v3) (e_var v5) mdb) e_nil)) (tup_e (by show 2 ≤ 100000; decide))) inc) boolD_e)))
  unfold F__law_three_right m__law_three_right
  rw [hη] at tst
  cases ht : (((a : Int) == (b : Int)) || (decide (1 < Nat.gcd d e) || (decide (1 < gcdL [a, b, e]) || (decide (d * a = e) || decide (d * b = e))))) with
  | true =>
    rw [ht] at tst
    walk_at "dl frun"
    · exact s_seq s1 (s_seqR (s_ifT tst rfl (s_ret e_pure)))
    · rfl
  | false =>
    rw [ht] at tst
    rw [Bool.or_eq_false_iff, Bool.or_eq_false_iff, Bool.or_eq_false_iff, Bool.or_eq_false_iff, beq_eq_false_iff_ne, decide_eq_false_iff_not, decide_eq_false_iff_not, decide_eq_false_iff_not, decide_eq_false_iff_not] at ht
    obtain ⟨t1, t2, t3, t4, t5⟩ := ht
    have gde : Nat.gcd d e = 1 := by
      have := Nat.gcd_pos_of_pos_left e (show 0 < d by omega)
      omega
    have gabe : gcdL [a, b, e] = 1 := by
      have : 0 < gcdL [a, b, e] := Nat.pos_of_dvd_of_pos (gcdL_dvd (C := [a, b, e]) a (by simp)) (by omega)
      omega
    have da1 : 1 ≤ d * a := Nat.mul_pos (by omega) (by omega)
    have db1 : 1 ≤ d * b := Nat.mul_pos (by omega) (by omega)
    have dne : d * a ≠ d * b := fun z => t1 (by have := Nat.eq_of_mul_eq_mul_left (show 0 < d by omega) z; omega)
    obtain ⟨C, hC, mC, sC⟩ := set_coins (l := [(a : Int), (b : Int), (e : Int)]) (by simp) (by simp) (fun c hc => by
      simp only [List.mem_cons, List.not_mem_nil, or_false] at hc
      omega)
    obtain ⟨D, hD, mD, sD⟩ := sort_coins (l := [((d * a : Nat) : Int), ((d * b : Nat) : Int), (e : Int)]) (by simp) (by simp) (fun c hc => by
      simp only [List.mem_cons, List.not_mem_nil, or_false] at hc
      omega) (by
      simp only [List.nodup_cons, List.mem_cons, List.not_mem_nil, or_false, List.nodup_nil, not_false_eq_true, and_true, not_or]
      omega)
    have mC : ∀ x, x ∈ C ↔ x = a ∨ x = b ∨ x = e := fun x => by
      rw [mC]
      simp only [List.mem_cons, List.not_mem_nil, or_false]
      omega
    have mD : ∀ x, x ∈ D ↔ x = d * a ∨ x = d * b ∨ x = e := fun x => by
      rw [mD]
      simp only [List.mem_cons, List.not_mem_nil, or_false]
      omega
    have gC : gcdL C = 1 := by
      have h : gcdL C ∣ gcdL [a, b, e] := dvd_gcdL [a, b, e] 0 (Nat.dvd_zero _) (fun x hx => gcdL_dvd x ((mC x).mpr (by simpa using hx)))
      rw [gabe] at h
      exact Nat.dvd_one.mp h
    have gD : gcdL D = 1 := by
      have k1 : gcdL D ∣ d * a := gcdL_dvd _ ((mD _).mpr (.inl rfl))
      have k2 : gcdL D ∣ d * b := gcdL_dvd _ ((mD _).mpr (.inr (.inl rfl)))
      have k3 : gcdL D ∣ e := gcdL_dvd _ ((mD _).mpr (.inr (.inr rfl)))
      have cop : Nat.Coprime (gcdL D) d := by
        have h : Nat.gcd (gcdL D) d ∣ Nat.gcd d e := Nat.dvd_gcd (Nat.gcd_dvd_right _ _) (Nat.dvd_trans (Nat.gcd_dvd_left _ _) k3)
        rw [gde] at h
        exact Nat.dvd_one.mp h
      have h : gcdL D ∣ gcdL [a, b, e] := dvd_gcdL [a, b, e] 0 (Nat.dvd_zero _) (fun x hx => by
        simp only [List.mem_cons, List.not_mem_nil, or_false] at hx
        rcases hx with rfl | rfl | rfl
        · exact cop.dvd_of_dvd_mul_left k1
        · exact cop.dvd_of_dvd_mul_left k2
        · exact k3)
      rw [gabe] at h
      exact Nat.dvd_one.mp h
    obtain ⟨B1, M1, f1, K1⟩ := kit_of hC
    obtain ⟨B2, M2, f2, K2⟩ := kit_of hD
    have gr1 := greatest_ok K1 gC
    have gr2 := greatest_ok K2 gD
    obtain ⟨g, hg⟩ : ∃ g, g = due C (B1 * M1 + 120) := ⟨_, rfl⟩
    obtain ⟨l1, l2, l3, l4⟩ := last_props (C := C) (N := B1 * M1 + 120) (kit_far K1 gC) (g := g) hg.symm
    have bm : B1 * M1 ≤ 60 * 60 := Nat.mul_le_mul K1.b60 K1.top.sixty
    obtain ⟨j1, j2, j3⟩ := john_last (C := C) (D := D) mC mD (by omega) (by omega) gde l1 (fun n hn => (pb_iff hC.pos n).mp (l2 n hn)) (fun n hn p => by
      have := l3 n hn
      rw [(pb_iff hC.pos n).mpr p] at this
      cases this)
    have no : ∀ n : Nat, (n : Int) = (d : Int) * g + (e : Int) * ((d : Int) - 1) → pb D n = false := fun n hn => by
      have := j3 n hn
      rw [← pb_iff hD.pos] at this
      simpa using this
    have dD : due D (B2 * M2 + 120) = (d : Int) * g + (e : Int) * ((d : Int) - 1) := last_unpaid j1 (fun n hn => (pb_iff hD.pos n).mpr (j2 n hn)) no (by
      refine Classical.byContradiction fun z => ?_
      have a1 := no ((d : Int) * g + (e : Int) * ((d : Int) - 1)).toNat (by omega)
      rw [kit_far K2 gD _ (by omega)] at a1
      cases a1)
    rw [← hg] at gr1
    rw [dD] at gr2
    have fin : eqD (.int ((d : Int) * g + (e : Int) * ((d : Int) - 1))) (.int ((d : Int) * g + (e : Int) * ((d : Int) - 1))) = some (.bool true) := by rw [eqD_ii]; simp
    have ss : sortedSetD (.list [.int (a : Int), .int (b : Int), .int (e : Int)]) = some (enC C) := sC _ (.inl rfl)
    have sd : sortedD (.list [.int ((d * a : Nat) : Int), .int ((d * b : Nat) : Int), .int (e : Int)]) = some (enC D) := sD
    walk_at "dl frun"
    · exact s_seq s1 (s_seq (s_ifF tst rfl e_pure) (s_seq (s_asg (e_un (e_fz (e_unL (e_fz (e_caL (e_cons (e_var rfl) (e_cons (e_var rfl) (e_cons (e_var rfl) e_nil))) (lst_e (by show 3 ≤ 100000; decide)))) ss)) tupD_l) (sto (v := none) rfl nt_n))
        (s_seq (s_asg (e_un (e_fz (e_unL (e_fz (e_caL (e_cons (e_op (e_var rfl) (e_var rfl) mda) (e_cons (e_op (e_var rfl) (e_var rfl) mdb) (e_cons (e_var rfl) e_nil))) (lst_e (by show 3 ≤ 100000; decide)))) sd)) tupD_l) (sto (v := none) rfl nt_n))
        (s_ret (e_op (e_call (e_cons (e_var rfl) e_nil) gr2) (e_op (e_op (e_var rfl) (e_call (e_cons (e_var rfl) e_nil) gr1) (mulD_r (by omega))) (e_op (e_var rfl) (e_op (e_var rfl) e_pure subD_e) (mulD_r (by omega))) addD_e) fin)))))
    · rfl
end G45
end
section
set_option Elab.async false
set_option linter.all false
set_option maxRecDepth 100000
set_option maxHeartbeats 4000000
namespace G45
open PySem L2 L2.DL
set_option autoImplicit false
open P41 P44
/-! ### coins times a number -/
noncomputable def timB1 : MX Fl :=
    (mSeq (mAsg (mCallI F__law_draw 0 (mCons (mPure (.int 200)) mNil)) (gV 5))
    (mSeq (mIfS (mOr (mTru boolD (mOp neD (mCall (fnV F_payable) (mCons (mVar 3) (mCons (mOp mulD (mVar 1) (mVar 5)) mNil))) (mCall (fnV F_payable) (mCons (mVar 2) (mCons (mVar 5) mNil))))) (mTru boolD (mOp neD (mCall (fnV F_first_payment) (mCons (mVar 3) (mCons (mOp mulD (mVar 1) (mVar 5)) mNil))) (mCall (fnV F_first_payment) (mCons (mVar 2) (mCons (mVar 5) mNil)))))) (mRet (mPure (.bool false))) (mPure .nx))
    (mIfS (mOr (mTru boolD (mOp neD (mCall (fnV F_fewest) (mCons (mVar 3) (mCons (mOp mulD (mVar 1) (mVar 5)) mNil))) (mCall (fnV F_fewest) (mCons (mVar 2) (mCons (mVar 5) mNil))))) (mAnd (mTru boolD (mOp neD (mOp modD (mUn intD (mVar 5)) (mVar 1)) (mPure (.int 0)))) (mTru truD (mCall (fnV F_payable) (mCons (mVar 3) (mCons (mVar 5) mNil)))))) (mRet (mPure (.bool false))) (mPure .nx))))
theorem neD_tnil {ds : List PyData} (h : SeqAt.shaped (.tuple ds) = true) : neD (.tuple ds) (.tuple []) = some (.bool (!ds.isEmpty)) := by
  unfold neD
  rw [if_pos ⟨h, rfl⟩]
  cases ds <;> rfl
theorem enC_flat (l : List Nat) : Flat 1 (.tuple (enC l)) := flat_tup (k := 0) fun d hd => by
  obtain ⟨i, _, rfl⟩ := List.mem_map.mp hd
  exact flat_int
theorem few_ok {cs : List Nat} (hc : Coins cs) (n : Nat) : fnV F_fewest [.tuple (enC cs), .int (n : Int)] = some (.ok (.d (enO (best cs n)))) := fewest_of hc (least_count hc n)
theorem mul_coins {cs : List Nat} {d : Nat} (hc : Coins cs) (hd : 1 ≤ d) (h : ∀ c ∈ cs, c * d ≤ 60) : Coins (cs.map (d * ·)) := by
  refine ⟨by simpa using hc.ne, by rw [List.length_map]; exact hc.five, fun c hm => ?_, ?_⟩
  · obtain ⟨x, hx, rfl⟩ := List.mem_map.mp hm
    have := h x hx
    have h1 := Nat.mul_pos hd (hc.pos x hx)
    rw [Nat.mul_comm] at this
    exact ⟨h1, this⟩
  · rw [List.pairwise_map]
    exact hc.up.imp fun h => Nat.mul_lt_mul_of_pos_left h hd
theorem dueB_nat (cs : List Nat) (n : Nat) : dueB cs (n : Int) = pb cs n := by
  unfold dueB
  rw [decide_eq_true (by omega), Bool.true_and, Int.toNat_natCast]
theorem enO_flat (o : Option Nat) : Flat 0 (enO o) := by
  cases o with
  | none => exact flat_none
  | some k => exact flat_int
abbrev EM (xs : List PyData) (d cs gs : PyData) (v4 v5 v6 : Option Slot) : EnvD := [some (.own true xs), some (.val d), some (.val cs), some (.val gs), v4, v5, v6]
theorem times_right {c : Int} {xs : List PyData} (w : Well c xs) (hc : c < 700000) : ∃ xs', fnI F__law_times_right xs [] = some (.ok (.d (.bool true), xs')) ∧ Well (c + 20) xs' := by
  obtain ⟨r1, x1, d1, p1, q1, w1⟩ := draw_call (i := 0) (o := true) (η := [some (.own true xs), none, none, none, none, none, none]) (ml := mCons (mPure (.int 6)) mNil) (m := 6) w (by omega) rfl (e_cons e_pure e_nil) (by omega) (by omega)
  obtain ⟨d, hd⟩ : ∃ u : Nat, 1 + r1 = (u : Int) := ⟨(1 + r1).toNat, by omega⟩
  obtain ⟨cs0, x2, hc0, ec, w2⟩ := law_coins w1 (by omega)
  have s1 : (mAsg (mOp addD (mPure (.int 1)) (mCallI F__law_draw 0 (mCons (mPure (.int 6)) mNil))) (gV 1)) [some (.own true xs), none, none, none, none, none, none] = some (.ok .nx, [some (.own true x1), some (.val (.int (d : Int))), none, none, none, none, none]) := by
    rw [← hd]
    exact s_asg (e_op e_pure d1 addD_e) rfl
  have cm := compF (L := cs0) (enc := fun (c : Nat) => .int (c : Int)) (out := fun (c : Nat) => .int (c : Int)) (p := fun c => decide (c * d ≤ 60)) (gm := gV 6) (vs := [6]) (mi := (mIter (mCallI F__law_coins 0 mNil))) (mt := (mTru boolD (mOp leD (mOp mulD (mVar 6) (mVar 1)) (mPure (.int 60))))) (me := mVar 6)
    (η := [some (.own true x2), some (.val (.int (d : Int))), none, none, none, none, none]) (e := fun c => [some (.own true x2), some (.val (.int (d : Int))), none, none, none, none, some (.val (.int (c : Int)))])
    (e_iter (η := [some (.own true x1), some (.val (.int (d : Int))), none, none, none, none, none]) (e_callI (o := true) (o' := true) rfl e_nil rfl ec) it_t) rfl (fun _ => rfl) (fun _ => rfl) (small (by have := hc0.five; omega))
    (fun c hm => (e_tru (e_op (e_op (e_var rfl) (e_var rfl) (mulD_r (by omega))) e_pure leD_e) boolD_e).trans (by rw [← Int.natCast_mul]; exact congrArg (fun b => some (DL.R.ok b, _)) (decide_eq_decide.mpr (by omega)))) (fun c hm _ => e_var rfl)
  -- the coins
  obtain ⟨cs, hcs, s3, hle⟩ : ∃ cs, Coins cs ∧ (mAsg (mIf (mTru boolD (mOp neD (mVar 2) (mCa (fun xs => if xs.length ≤ sizeLine then some (.tuple xs) else none) mNil))) (mVar 2) (mCa (fun xs => if xs.length ≤ sizeLine then some (.tuple xs) else none) (mCons (mPure (.int 2)) (mCons (mPure (.int 5)) mNil)))) (gV 2)) [some (.own true x2), some (.val (.int (d : Int))), some (.val (.tuple (enC (cs0.filter fun c => decide (c * d ≤ 60))))), none, none, none, none] = some (.ok .nx, [some (.own true x2), some (.val (.int (d : Int))), some (.val (.tuple (enC cs))), none, none, none, none]) ∧ ∀ c ∈ cs, c * d ≤ 60 := by
    have ne := neD_tnil ((enC_flat (cs0.filter fun c => decide (c * d ≤ 60))).shaped (by decide))
    have tst := e_tru (g := boolD) (e_op (e_var (i := 2) (η := [some (.own true x2), some (.val (.int (d : Int))), some (.val (.tuple (enC (cs0.filter fun c => decide (c * d ≤ 60))))), none, none, none, none]) rfl) (e_ca (g := fun xs => if xs.length ≤ sizeLine then some (.tuple xs) else none) e_nil (tup_e (by show 0 ≤ 100000; decide))) ne) boolD_e
    by_cases z : cs0.filter (fun c => decide (c * d ≤ 60)) = []
    · rw [z] at tst ⊢
      refine ⟨[2, 5], ⟨by simp, by simp, fun c hc => ?_, by decide⟩, s_asg (e_ifF tst rfl (e_ca (e_cons e_pure (e_cons e_pure e_nil)) (tup_e (by show 2 ≤ 100000; decide)))) (sto (v := some (.val (.tuple (enC [])))) rfl nt_v), fun c hc => ?_⟩
      · simp only [List.mem_cons, List.not_mem_nil, or_false] at hc
        omega
      · simp only [List.mem_cons, List.not_mem_nil, or_false] at hc
        rcases hc with rfl | rfl <;> omega
    · refine ⟨_, ⟨z, Nat.le_trans (List.length_filter_le _ _) hc0.five, fun c hc => hc0.le c (List.mem_filter.mp hc).1, hc0.up.filter _⟩, s_asg (e_ifT tst ?_ (e_var rfl)) (sto (v := some (.val (.tuple (enC (cs0.filter fun c => decide (c * d ≤ 60)))))) rfl nt_v), fun c hc => by simpa using (List.mem_filter.mp hc).2⟩
      cases h : cs0.filter (fun c => decide (c * d ≤ 60)) with
      | nil => exact absurd h z
      | cons x t => rfl
  have d1' : 1 ≤ d := by omega
  have hgs := mul_coins hcs d1' hle
  obtain ⟨B1, M1, f1, K1⟩ := kit_of hcs
  obtain ⟨B2, M2, f2, K2⟩ := kit_of hgs
  have cg := compA (L := cs) (enc := fun (c : Nat) => .int (c : Int)) (out := fun (c : Nat) => .int ((d * c : Nat) : Int)) (gm := gV 6) (vs := [6]) (mi := (mIter (mVar 2))) (me := (mOp mulD (mVar 1) (mVar 6)))
    (η := [some (.own true x2), some (.val (.int (d : Int))), some (.val (.tuple (enC cs))), none, none, none, none]) (e := fun c => [some (.own true x2), some (.val (.int (d : Int))), some (.val (.tuple (enC cs))), none, none, none, some (.val (.int (c : Int)))])
    (e_iter (η := [some (.own true x2), some (.val (.int (d : Int))), some (.val (.tuple (enC cs))), none, none, none, none]) (e_var rfl) it_t) rfl (fun _ => rfl) (fun _ => rfl) (small (by have := hcs.five; omega))
    (fun c hm => e_op (e_var rfl) (e_var rfl) (by have := hcs.le c hm; rw [mulD_r (by omega)]; rfl))
  have eg : (cs.map fun (c : Nat) => PyData.int ((d * c : Nat) : Int)) = enC (cs.map (d * ·)) := by
    unfold enC
    rw [List.map_map]; rfl
  rw [eg] at cg
  obtain ⟨η', hl, x3, v4, v5, wx, k4, k5, rfl⟩ := loopP (L := List.range 8) (enc := fun (k : Nat) => .int (0 + (k : Int))) (gm := gV 4) (ms := timB1)
    (fun pre η => ∃ xs v4 v5, Well (c + 8 + (pre.length : Nat)) xs ∧ NT v4 ∧ NT v5 ∧ η = EM xs (.int (d : Int)) (.tuple (enC cs)) (.tuple (enC (cs.map (d * ·)))) v4 v5 none)
    (by
      rintro pre k post η eL ⟨xs, v4, v5, wx, k4, k5, rfl⟩
      obtain ⟨hk, lt⟩ := range_pre eL
      obtain ⟨r, x4, dr, r0, r1, w4⟩ := draw_call (i := 0) (o := true) (η := EM xs (.int (d : Int)) (.tuple (enC cs)) (.tuple (enC (cs.map (d * ·)))) (some (.val (.int (0 + (k : Int))))) v5 none) (ml := mCons (mPure (.int 200)) mNil) (m := 200) wx (by omega) rfl (e_cons e_pure e_nil) (by omega) (by omega)
      obtain ⟨n, rfl⟩ : ∃ m : Nat, r = (m : Int) := ⟨r.toNat, by omega⟩
      have dn : d * n ≤ 6 * 200 := Nat.mul_le_mul (by omega) (by omega)
      have mdn : mulD (.int (d : Int)) (.int (n : Int)) = some (.int ((d * n : Nat) : Int)) := mulD_r (by omega)
      have pA := payable_any K2 ((d * n : Nat) : Int)
      have pB := payable_any K1 (n : Int)
      have pC := payable_any K2 (n : Int)
      rw [dueB_nat] at pA pB pC
      rw [pb_mul d1' hcs.pos] at pA
      have fA := first_payment hgs (n := d * n) (by omega)
      have fB := first_payment hcs (n := n) (by omega)
      have fe : (if pb (cs.map (d * ·)) (d * n) = true then PyData.tuple (enC (firstP (cs.map (d * ·)) (d * n))) else .none) = (if pb cs n = true then PyData.tuple (enC (firstP cs n)) else .none) := by
        rw [pb_mul d1' hcs.pos]
        cases h : pb cs n with
        | false => rfl
        | true => rw [firstP_mul d1' hcs.pos h]
      rw [fe] at fA
      have fl : Flat 1 (if pb cs n = true then PyData.tuple (enC (firstP cs n)) else .none) := by
        cases pb cs n with
        | false => exact flat_none.le (by decide)
        | true => exact enC_flat _
      have wA := few_ok hgs (d * n)
      have wB := few_ok hcs n
      rw [best_mul d1' hcs.pos] at wA
      have q1 : neD (.bool (pb cs n)) (.bool (pb cs n)) = some (.bool false) := by rw [neD_bb]; simp
      have q2 := neD_same (fl.shaped (by decide))
      have q3 := neD_same ((enO_flat (best cs n)).shaped (by decide))
      have t2 : (mAnd (mTru boolD (mOp neD (mOp modD (mUn intD (mVar 5)) (mVar 1)) (mPure (.int 0)))) (mTru truD (mCall (fnV F_payable) (mCons (mVar 3) (mCons (mVar 5) mNil))))) (EM x4 (.int (d : Int)) (.tuple (enC cs)) (.tuple (enC (cs.map (d * ·)))) (some (.val (.int (0 + (k : Int))))) (some (.val (.int (n : Int)))) none) = some (.ok false, EM x4 (.int (d : Int)) (.tuple (enC cs)) (.tuple (enC (cs.map (d * ·)))) (some (.val (.int (0 + (k : Int))))) (some (.val (.int (n : Int)))) none) := by
        have md : modD (.int (n : Int)) (.int (d : Int)) = some (.int ((n % d : Nat) : Int)) := modD_e (by omega)
        by_cases z : n % d = 0
        · exact e_andF (b := false) (e_tru (e_op (e_op (e_un (e_var rfl) rfl) (e_var rfl) md) e_pure (by rw [neD_ii, z]; rfl)) boolD_e) rfl
        · have np : pb (cs.map (d * ·)) n = false := by
            cases h : pb (cs.map (d * ·)) n with
            | false => rfl
            | true =>
              obtain ⟨m, e, _⟩ := pay_div' ((pb_iff hgs.pos n).mp h)
              rw [e, Nat.mul_mod_right] at z
              exact absurd rfl z
          rw [np] at pC
          have nz : (((n % d : Nat) : Int) == 0) = false := by rw [beq_eq_false_iff_ne]; omega
          have qz : neD (.int ((n % d : Nat) : Int)) (.int 0) = some (.bool true) := by rw [neD_ii, nz]; rfl
          have t1 := e_tru (g := boolD) (e_op (g := neD) (e_op (g := modD) (e_un (g := intD) (e_var (i := 5) (η := EM x4 (.int (d : Int)) (.tuple (enC cs)) (.tuple (enC (cs.map (d * ·)))) (some (.val (.int (0 + (k : Int))))) (some (.val (.int (n : Int)))) none) rfl) rfl) (e_var (i := 1) rfl) md) (e_pure (a := PyData.int 0)) qz) boolD_e
          exact e_andT t1 rfl (e_tru (e_call (e_cons (e_var rfl) (e_cons (e_var rfl) e_nil)) pC) tru_b)
      refine ⟨_, _, sto (v := v4) rfl k4, s_seq (s_asg dr (sto (v := v5) rfl k5)) (s_seq (s_ifF (b := false) (e_orF (b := false) (e_tru (e_op (e_call (e_cons (e_var rfl) (e_cons (e_op (e_var rfl) (e_var rfl) mdn) e_nil)) pA) (e_call (e_cons (e_var rfl) (e_cons (e_var rfl) e_nil)) pB) q1) boolD_e) rfl (e_tru (e_op (e_call (e_cons (e_var rfl) (e_cons (e_op (e_var rfl) (e_var rfl) mdn) e_nil)) fA) (e_call (e_cons (e_var rfl) (e_cons (e_var rfl) e_nil)) fB) q2) boolD_e)) rfl e_pure)
        (s_ifF (b := false) (e_orF (b := false) (e_tru (e_op (e_call (e_cons (e_var rfl) (e_cons (e_op (e_var rfl) (e_var rfl) mdn) e_nil)) wA) (e_call (e_cons (e_var rfl) (e_cons (e_var rfl) e_nil)) wB) q3) boolD_e) rfl t2) rfl e_pure)), x4, some (.val (.int (0 + (k : Int)))), some (.val (.int (n : Int))), ?_, nt_v, nt_v, rfl⟩
      rw [List.length_append, List.length_singleton]
      exact w4.mono (by omega))
    (η := EM x2 (.int (d : Int)) (.tuple (enC cs)) (.tuple (enC (cs.map (d * ·)))) none none none) ⟨x2, none, none, w2.mono (by simp; omega), nt_n, nt_n, rfl⟩
  refine ⟨x3, fnI_of (tl := []) ?_, wx.mono (by rw [List.length_range]; omega)⟩
  unfold F__law_times_right m__law_times_right
  walk_at "dl frun"
  · exact s_seq s1 (s_seq (s_asg (e_un (e_fz cm) tupD_l) (sto (v := none) rfl nt_n)) (s_seq s3 (s_seq (s_asg (e_un (e_fz cg) tupD_l) (sto (v := none) rfl nt_n))
      (s_seq (s_for (e_gIt (e_cons e_pure e_nil) (range1 (j := 8) (by omega) (by omega))) hl) (s_ret e_pure)))))
  · rfl
end G45
end
section
set_option Elab.async false
set_option linter.all false
set_option maxRecDepth 100000
set_option maxHeartbeats 4000000
namespace G45
open PySem L2 L2.DL
set_option autoImplicit false
open P41 P44
/-! ### the law -/
noncomputable def lawB1 : MX Fl :=
    (mSeq (mAsgL (mCallL (fnV F__law_well) (mCons (mVar 0) (mCons (mVar 1) mNil))) 2)
    (mSeq (mIfS (mOr (mNot (mTru truD (mCallI F__law_two_right 2 mNil))) (mOr (mNot (mTru truD (mCallI F__law_three_right 2 mNil))) (mNot (mTru truD (mCallI F__law_times_right 2 mNil))))) (mRet (mPure (.bool false))) (mPure .nx))
    (mSeq (mAsg (mSl slD (mCallI F__law_coins 2 mNil) (mPure none) (mPart (mPure (.int 4)))) (gV 3))
    (mSeq (mAsg (mUn tupD (mFz (mUnL sortedSetD (mOp addD (mVar 3) (mCa (fun xs => if xs.length ≤ sizeLine then some (.tuple xs) else none) (mCons (mOp addD (mPure (.int 1)) (mCallI F__law_draw 2 (mCons (mPure (.int 60)) mNil))) mNil)))))) (gV 4))
    (mFor (gIt rangeD (mCons (mPure (.int 6)) mNil)) (gV 5) (mSeq (mAsg (mCallI F__law_draw 2 (mCons (mPure (.int 400)) mNil)) (gV 6))
    (mSeq (mIfS (mAnd (mTru truD (mCall (fnV F_payable) (mCons (mVar 3) (mCons (mVar 6) mNil)))) (mNot (mTru truD (mCall (fnV F_payable) (mCons (mVar 4) (mCons (mVar 6) mNil)))))) (mRet (mPure (.bool false))) (mPure .nx))
    (mIfS (mAnd (mTru truD (mCall (fnV F_payable) (mCons (mVar 3) (mCons (mVar 6) mNil)))) (mTru boolD (mOp gtD (mCall (fnV F_fewest) (mCons (mVar 4) (mCons (mVar 6) mNil))) (mCall (fnV F_fewest) (mCons (mVar 3) (mCons (mVar 6) mNil)))))) (mRet (mPure (.bool false))) (mPure .nx)))) [])))))
noncomputable def lawB2 : MX Fl :=
    (mSeq (mAsg (mCallI F__law_draw 2 (mCons (mPure (.int 400)) mNil)) (gV 6))
    (mSeq (mIfS (mAnd (mTru truD (mCall (fnV F_payable) (mCons (mVar 3) (mCons (mVar 6) mNil)))) (mNot (mTru truD (mCall (fnV F_payable) (mCons (mVar 4) (mCons (mVar 6) mNil)))))) (mRet (mPure (.bool false))) (mPure .nx))
    (mIfS (mAnd (mTru truD (mCall (fnV F_payable) (mCons (mVar 3) (mCons (mVar 6) mNil)))) (mTru boolD (mOp gtD (mCall (fnV F_fewest) (mCons (mVar 4) (mCons (mVar 6) mNil))) (mCall (fnV F_fewest) (mCons (mVar 3) (mCons (mVar 6) mNil)))))) (mRet (mPure (.bool false))) (mPure .nx))))
theorem take_coins {cs : List Nat} (hc : Coins cs) : Coins (cs.take 4) := by
  refine ⟨fun z => hc.ne ?_, by rw [List.length_take]; omega, fun c hm => hc.le c (List.mem_of_mem_take hm), hc.up.sublist (List.take_sublist 4 cs)⟩
  cases h : cs with
  | nil => rfl
  | cons c t => rw [h] at z; simp at z
abbrev EL (ns : List Int) (v1 : Option Slot) (xs : List PyData) (C D : PyData) (v5 v6 : Option Slot) : EnvD := [some (.val (.list (ns.map .int))), v1, some (.own false xs), some (.val C), some (.val D), v5, v6]
theorem more_loop {ns : List Int} {v1 : Option Slot} {cs ds : List Nat} (hc : Coins cs) (hd : Coins ds) (sub : ∀ c ∈ cs, c ∈ ds) {c : Int} {xs : List PyData} (w : Well c xs) (hw : c < 800000) {v5 v6 : Option Slot} (h5 : NT v5) (h6 : NT v6) :
    ∃ xs' w5 w6, loopM (gV 5) lawB2 [] ((List.range 6).map fun (k : Nat) => PyData.int (0 + (k : Int))) (EL ns v1 xs (.tuple (enC cs)) (.tuple (enC ds)) v5 v6) = some (.ok .nx, EL ns v1 xs' (.tuple (enC cs)) (.tuple (enC ds)) w5 w6) ∧ NT w5 ∧ NT w6 := by
  obtain ⟨B1, M1, f1, K1⟩ := kit_of hc
  obtain ⟨B2, M2, f2, K2⟩ := kit_of hd
  obtain ⟨η', hl, xs', w5, w6, wx, k5, k6, rfl⟩ := loopP (L := List.range 6) (enc := fun (k : Nat) => .int (0 + (k : Int))) (gm := gV 5) (ms := lawB2)
    (fun pre η => ∃ xs v5 v6, Well (c + (pre.length : Nat)) xs ∧ NT v5 ∧ NT v6 ∧ η = EL ns v1 xs (.tuple (enC cs)) (.tuple (enC ds)) v5 v6)
    (by
      rintro pre k post η eL ⟨xs, v5, v6, wx, k5, k6, rfl⟩
      obtain ⟨hk, lt⟩ := range_pre eL
      obtain ⟨r, x4, dr, r0, r1, w4⟩ := draw_call (i := 2) (o := false) (η := EL ns v1 xs (.tuple (enC cs)) (.tuple (enC ds)) (some (.val (.int (0 + (k : Int))))) v6) (ml := mCons (mPure (.int 400)) mNil) (m := 400) wx (by omega) rfl (e_cons e_pure e_nil) (by omega) (by omega)
      obtain ⟨n, rfl⟩ : ∃ m : Nat, r = (m : Int) := ⟨r.toNat, by omega⟩
      have pA := payable_any K1 (n : Int)
      have pB := payable_any K2 (n : Int)
      rw [dueB_nat] at pA pB
      have wA := few_ok hc n
      have wB := few_ok hd n
      have ts : (mSeq (mIfS (mAnd (mTru truD (mCall (fnV F_payable) (mCons (mVar 3) (mCons (mVar 6) mNil)))) (mNot (mTru truD (mCall (fnV F_payable) (mCons (mVar 4) (mCons (mVar 6) mNil)))))) (mRet (mPure (.bool false))) (mPure .nx))
    (mIfS (mAnd (mTru truD (mCall (fnV F_payable) (mCons (mVar 3) (mCons (mVar 6) mNil)))) (mTru boolD (mOp gtD (mCall (fnV F_fewest) (mCons (mVar 4) (mCons (mVar 6) mNil))) (mCall (fnV F_fewest) (mCons (mVar 3) (mCons (mVar 6) mNil)))))) (mRet (mPure (.bool false))) (mPure .nx))) (EL ns v1 x4 (.tuple (enC cs)) (.tuple (enC ds)) (some (.val (.int (0 + (k : Int))))) (some (.val (.int (n : Int))))) = some (.ok .nx, EL ns v1 x4 (.tuple (enC cs)) (.tuple (enC ds)) (some (.val (.int (0 + (k : Int))))) (some (.val (.int (n : Int))))) := by
        cases h : pb cs n with
        | false =>
          rw [h] at pA
          have t := e_tru (g := truD) (e_call (f := fnV F_payable) (e_cons (e_var (i := 3) (η := EL ns v1 x4 (.tuple (enC cs)) (.tuple (enC ds)) (some (.val (.int (0 + (k : Int))))) (some (.val (.int (n : Int))))) rfl) (e_cons (e_var (i := 6) rfl) e_nil)) pA) tru_b
          exact s_seq (s_ifF (b := false) (e_andF t rfl) rfl e_pure) (s_ifF (b := false) (e_andF t rfl) rfl e_pure)
        | true =>
          have p := (pb_iff hc.pos n).mp h
          rw [h] at pA
          rw [(pb_iff hd.pos n).mpr (pay_more sub p)] at pB
          obtain ⟨k1, e1⟩ := best_pay hc.pos p
          obtain ⟨k2, e2, le⟩ := best_more hc.pos hd.pos sub e1
          rw [e1] at wA
          rw [e2] at wB
          have t := e_tru (g := truD) (e_call (f := fnV F_payable) (e_cons (e_var (i := 3) (η := EL ns v1 x4 (.tuple (enC cs)) (.tuple (enC ds)) (some (.val (.int (0 + (k : Int))))) (some (.val (.int (n : Int))))) rfl) (e_cons (e_var (i := 6) rfl) e_nil)) pA) tru_b
          have q : gtD (enO (some k2)) (enO (some k1)) = some (.bool false) := by
            show gtD (.int (k2 : Int)) (.int (k1 : Int)) = _
            rw [gtD_e, decide_eq_false (by omega)]
          exact s_seq (s_ifF (b := false) (e_andT t rfl (e_notT (b := true) (e_tru (e_call (e_cons (e_var rfl) (e_cons (e_var rfl) e_nil)) pB) tru_b))) rfl e_pure) (s_ifF (b := false) (e_andT t rfl (e_tru (e_op (e_call (e_cons (e_var rfl) (e_cons (e_var rfl) e_nil)) wB) (e_call (e_cons (e_var rfl) (e_cons (e_var rfl) e_nil)) wA) q) boolD_e)) rfl e_pure)
      refine ⟨_, _, sto (v := v5) rfl k5, s_seq (s_asg dr (sto (v := v6) rfl k6)) ts, x4, some (.val (.int (0 + (k : Int)))), some (.val (.int (n : Int))), ?_, nt_v, nt_v, rfl⟩
      rw [List.length_append, List.length_singleton]
      exact w4.mono (by omega))
    (η := EL ns v1 xs (.tuple (enC cs)) (.tuple (enC ds)) v5 v6) ⟨xs, v5, v6, w.mono (by simp), h5, h6, rfl⟩
  exact ⟨xs', w5, w6, hl, k5, k6⟩
theorem cell_ok {ns : List Int} {k : Nat} (hk : k < 4) {v2 v3 v4 v5 v6 : Option Slot} (h2 : NT v2) (h3 : NT v3) (h4 : NT v4) (h5 : NT v5) (h6 : NT v6) :
    ∃ w2 w3 w4 w5 w6, lawB1 [some (.val (.list (ns.map .int))), some (.val (.int (0 + (k : Int)))), v2, v3, v4, v5, v6] = some (.ok .nx, [some (.val (.list (ns.map .int))), some (.val (.int (0 + (k : Int)))), w2, w3, w4, w5, w6]) ∧ NT w2 ∧ NT w3 ∧ NT w4 ∧ NT w5 ∧ NT w6 := by
  obtain ⟨xs, ew, w⟩ := well_ok ns (0 + (k : Int)) (by omega) (by omega)
  obtain ⟨x1, e1, w1⟩ := two_right w (by omega)
  obtain ⟨x2, e2, w2⟩ := three_right w1 (by omega)
  obtain ⟨x3, e3, w3⟩ := times_right w2 (by omega)
  obtain ⟨cs0, x4, hc0, e4, w4⟩ := law_coins w3 (by omega)
  have hc := take_coins hc0
  have sl : slD (.tuple (enC cs0)) none (some 4) = some (.tuple (enC (cs0.take 4))) := by
    show some (PyData.tuple (cutD (enC cs0) none (some ((4 : Nat) : Int)))) = _
    rw [cut_to]
    unfold enC
    rw [List.map_take]
  obtain ⟨r, x5, d5, p5, q5, w5⟩ := draw_call (i := 2) (o := false) (η := [some (.val (.list (ns.map .int))), some (.val (.int (0 + (k : Int)))), some (.own false x4), some (.val (.tuple (enC (cs0.take 4)))), v4, v5, v6]) (ml := mCons (mPure (.int 60)) mNil) (m := 60) w4 (by omega) rfl (e_cons e_pure e_nil) (by omega) (by omega)
  have lt4 : (cs0.take 4).length ≤ 4 := by rw [List.length_take]; omega
  obtain ⟨ds, hd, md, sd⟩ := set_coins (l := ((cs0.take 4).map fun (c : Nat) => (c : Int)) ++ [1 + r]) (by simp) (by rw [List.length_append, List.length_map, List.length_singleton]; omega) (fun c hm => by
    rcases List.mem_append.mp hm with hm | hm
    · obtain ⟨x, hx, rfl⟩ := List.mem_map.mp hm
      have := hc.le x hx
      omega
    · rw [List.mem_singleton] at hm
      omega)
  have sub : ∀ c ∈ cs0.take 4, c ∈ ds := fun c hm => (md c).mpr (List.mem_append_left _ (List.mem_map.mpr ⟨c, hm, rfl⟩))
  have ad : addD (.tuple (enC (cs0.take 4))) (.tuple [.int (1 + r)]) = some (.tuple ((((cs0.take 4).map fun (c : Nat) => (c : Int)) ++ [1 + r]).map .int)) := by
    have e : ((((cs0.take 4).map fun (c : Nat) => (c : Int)) ++ [1 + r]).map PyData.int) = enC (cs0.take 4) ++ [.int (1 + r)] := by
      rw [List.map_append, List.map_map]; rfl
    rw [e]
    exact if_pos (by rw [sizeLine_eq, enC_len]; simp; omega)
  obtain ⟨x6, u5, u6, ml, g5, g6⟩ := more_loop (ns := ns) (v1 := some (.val (.int (0 + (k : Int))))) hc hd sub w5 (by omega) (v5 := v5) (v6 := v6) h5 h6
  refine ⟨some (.own false x6), some (.val (.tuple (enC (cs0.take 4)))), some (.val (.tuple (enC ds))), u5, u6, ?_, nt_o, nt_v, nt_v, g5, g6⟩
  unfold lawB1
  exact s_seq (s_asgL (e_callL (e_cons (e_var rfl) (e_cons (e_var rfl) e_nil)) ew) (sto (v := v2) rfl h2))
    (s_seq (s_ifF (b := false) (e_orF (b := false) (e_notT (b := true) (e_tru (e_callI (o := false) (o' := false) rfl e_nil rfl e1) tru_b)) rfl (e_orF (b := false) (e_notT (b := true) (e_tru (e_callI (o := false) (o' := false) rfl e_nil rfl e2) tru_b)) rfl (e_notT (b := true) (e_tru (e_callI (o := false) (o' := false) rfl e_nil rfl e3) tru_b)))) rfl e_pure)
    (s_seq (s_asg (e_sl (e_callI (o := false) (o' := false) rfl e_nil rfl e4) e_partN (e_part e_pure) sl) (sto (v := v3) rfl h3))
    (s_seq (s_asg (e_un (e_fz (e_unL (e_op (e_var rfl) (e_ca (e_cons (e_op e_pure d5 addD_e) e_nil) (tup_e (by show 1 ≤ 100000; decide))) ad) (sd _ (.inr rfl)))) tupD_l) (sto (v := v4) rfl h4))
    (s_for (e_gIt (e_cons e_pure e_nil) (range1 (j := 6) (by omega) (by omega))) ml))))
theorem plain_law : ∀ ns : List Int, ns.length ≤ 63 → fnV F_law [.list (ns.map .int)] = some (.ok (.d (.bool true))) := by
  intro ns hn
  obtain ⟨j, hj, hj1, hj2⟩ : ∃ j : Int, (mCa max2D (mCons (mPure (.int 1)) (mCons (mCa min2D (mCons (mPure (.int 4)) (mCons (mUn lenD (mVar 0)) mNil))) mNil))) [some (.val (.list (ns.map .int))), none, none, none, none, none, none] = some (.ok (.int j), [some (.val (.list (ns.map .int))), none, none, none, none, none, none]) ∧ 1 ≤ j ∧ j ≤ 4 := by
    refine ⟨_, e_ca (e_cons e_pure (e_cons (e_ca (e_cons e_pure (e_cons (e_un (e_var rfl) len_l) e_nil)) rfl) e_nil)) rfl, ?_, ?_⟩ <;> split <;> (try split) <;> omega
  obtain ⟨η', hl, _⟩ := loopP (L := List.range j.toNat) (enc := fun (k : Nat) => .int (0 + (k : Int))) (gm := gV 1) (ms := lawB1)
    (fun _ η => ∃ v1 v2 v3 v4 v5 v6 : Option Slot, NT v1 ∧ NT v2 ∧ NT v3 ∧ NT v4 ∧ NT v5 ∧ NT v6 ∧ η = [some (.val (.list (ns.map .int))), v1, v2, v3, v4, v5, v6])
    (by
      rintro pre k post η eL ⟨v1, v2, v3, v4, v5, v6, h1, h2, h3, h4, h5, h6, rfl⟩
      obtain ⟨ek, q3⟩ := range_pre eL
      obtain ⟨u2, u3, u4, u5, u6, e, g2, g3, g4, g5, g6⟩ := cell_ok (ns := ns) (k := k) (by omega) h2 h3 h4 h5 h6
      exact ⟨_, _, sto (v := v1) rfl h1, e, some (.val (.int (0 + (k : Int)))), u2, u3, u4, u5, u6, nt_v, g2, g3, g4, g5, g6, rfl⟩)
    (η := [some (.val (.list (ns.map .int))), none, none, none, none, none, none]) ⟨none, none, none, none, none, none, nt_n, nt_n, nt_n, nt_n, nt_n, nt_n, rfl⟩
  unfold F_law m_law
  exact fnV_run rfl (by decide) ⟨η', s_seq (s_for (e_gIt (e_cons hj e_nil) (range1 (j := j) (by omega) (by omega))) hl) (s_ret e_pure)⟩
end G45
end
section
set_option Elab.async false
set_option linter.all false
set_option maxRecDepth 100000
set_option maxHeartbeats 4000000
namespace G45
open PySem PySem.Spec PyProof.Rows L2 L2.DL
set_option autoImplicit false
abbrev PP : Program := PySem.Challenge.rw_cutswhole_k45_great_unpaid_numbers.prog
theorem all_mk {w : World} {K : PySem.W.Frag} {h : Heap} {mg : Str → Option Value} {fa f__law_well f__law_draw f__law_coins f_is_integer f_is_between f_are_coins f_anew f_need_coins f_least_table f_gaps f__law_common f_divisor_of f_greatest_unpaid f_count_unpaid f_can_pay f_payable f_payable_to f_first_for f_payment_paper f__law_two_right f__law_three_right f_first_payment f_fewest_to f_least_count f_fewest f__law_times_right f_law : Addr} (X : K.In h) (G : h.Ns mainGlobals mg) (hfa : mg "law" = some (.ref fa))
    {oc__law_well kV__law_well dc__law_well pm__law_well cd__law_well ct__law_well oc__law_draw kV__law_draw dc__law_draw pm__law_draw cd__law_draw ct__law_draw oc__law_coins kV__law_coins dc__law_coins pm__law_coins cd__law_coins ct__law_coins oc_is_integer kV_is_integer dc_is_integer pm_is_integer cd_is_integer ct_is_integer oc_is_between kV_is_between dc_is_between pm_is_between cd_is_between ct_is_between oc_are_coins kV_are_coins dc_are_coins pm_are_coins cd_are_coins ct_are_coins oc_anew kV_anew dc_anew pm_anew cd_anew ct_anew oc_need_coins kV_need_coins dc_need_coins pm_need_coins cd_need_coins ct_need_coins oc_least_table kV_least_table dc_least_table pm_least_table cd_least_table ct_least_table oc_gaps kV_gaps dc_gaps pm_gaps cd_gaps ct_gaps oc__law_common kV__law_common dc__law_common pm__law_common cd__law_common ct__law_common oc_divisor_of kV_divisor_of dc_divisor_of pm_divisor_of cd_divisor_of ct_divisor_of oc_greatest_unpaid kV_greatest_unpaid dc_greatest_unpaid pm_greatest_unpaid cd_greatest_unpaid ct_greatest_unpaid oc_count_unpaid kV_count_unpaid dc_count_unpaid pm_count_unpaid cd_count_unpaid ct_count_unpaid oc_can_pay kV_can_pay dc_can_pay pm_can_pay cd_can_pay ct_can_pay oc_payable kV_payable dc_payable pm_payable cd_payable ct_payable oc_payable_to kV_payable_to dc_payable_to pm_payable_to cd_payable_to ct_payable_to oc_first_for kV_first_for dc_first_for pm_first_for cd_first_for ct_first_for oc_payment_paper kV_payment_paper dc_payment_paper pm_payment_paper cd_payment_paper ct_payment_paper oc__law_two_right kV__law_two_right dc__law_two_right pm__law_two_right cd__law_two_right ct__law_two_right oc__law_three_right kV__law_three_right dc__law_three_right pm__law_three_right cd__law_three_right ct__law_three_right oc_first_payment kV_first_payment dc_first_payment pm_first_payment cd_first_payment ct_first_payment oc_fewest_to kV_fewest_to dc_fewest_to pm_fewest_to cd_fewest_to ct_fewest_to oc_least_count kV_least_count dc_least_count pm_least_count cd_least_count ct_least_count oc_fewest kV_fewest dc_fewest pm_fewest cd_fewest ct_fewest oc__law_times_right kV__law_times_right dc__law_times_right pm__law_times_right cd__law_times_right ct__law_times_right oc_law kV_law dc_law pm_law cd_law ct_law : Value} {od__law_well an__law_well od__law_draw an__law_draw od__law_coins an__law_coins od_is_integer an_is_integer od_is_between an_is_between od_are_coins an_are_coins od_anew an_anew od_need_coins an_need_coins od_least_table an_least_table od_gaps an_gaps od__law_common an__law_common od_divisor_of an_divisor_of od_greatest_unpaid an_greatest_unpaid od_count_unpaid an_count_unpaid od_can_pay an_can_pay od_payable an_payable od_payable_to an_payable_to od_first_for an_first_for od_payment_paper an_payment_paper od__law_two_right an__law_two_right od__law_three_right an__law_three_right od_first_payment an_first_payment od_fewest_to an_fewest_to od_least_count an_least_count od_fewest an_fewest od__law_times_right an__law_times_right od_law an_law : Option Addr} {sl__law_well sl__law_draw sl__law_coins sl_is_integer sl_is_between sl_are_coins sl_anew sl_need_coins sl_least_table sl_gaps sl__law_common sl_divisor_of sl_greatest_unpaid sl_count_unpaid sl_can_pay sl_payable sl_payable_to sl_first_for sl_payment_paper sl__law_two_right sl__law_three_right sl_first_payment sl_fewest_to sl_least_count sl_fewest sl__law_times_right sl_law : Array (Option Value)} {t_MOST_COIN t_MOST_COINS : Tok}
    (a__law_well : PySem.W.nsIn K mainGlobals "_law_well" = some (some (.ref f__law_well)))
    (l__law_well : K.lookup f__law_well = some ⟨oc__law_well, od__law_well, .func (PySem.W.fnOf "_law_well" "_law_well" (defArgs st__law_well) (defBody st__law_well) (defScope st__law_well) .none kV__law_well dc__law_well pm__law_well an__law_well cd__law_well ct__law_well), sl__law_well⟩)
    (c__law_well : PySem.W.codeIn K cd__law_well "_law_well" = true)
    (k__law_well : PySem.W.keepIn K (.ref f__law_well) = true)
    (a__law_draw : PySem.W.nsIn K mainGlobals "_law_draw" = some (some (.ref f__law_draw)))
    (l__law_draw : K.lookup f__law_draw = some ⟨oc__law_draw, od__law_draw, .func (PySem.W.fnOf "_law_draw" "_law_draw" (defArgs st__law_draw) (defBody st__law_draw) (defScope st__law_draw) .none kV__law_draw dc__law_draw pm__law_draw an__law_draw cd__law_draw ct__law_draw), sl__law_draw⟩)
    (c__law_draw : PySem.W.codeIn K cd__law_draw "_law_draw" = true)
    (k__law_draw : PySem.W.keepIn K (.ref f__law_draw) = true)
    (a__law_coins : PySem.W.nsIn K mainGlobals "_law_coins" = some (some (.ref f__law_coins)))
    (l__law_coins : K.lookup f__law_coins = some ⟨oc__law_coins, od__law_coins, .func (PySem.W.fnOf "_law_coins" "_law_coins" (defArgs st__law_coins) (defBody st__law_coins) (defScope st__law_coins) .none kV__law_coins dc__law_coins pm__law_coins an__law_coins cd__law_coins ct__law_coins), sl__law_coins⟩)
    (c__law_coins : PySem.W.codeIn K cd__law_coins "_law_coins" = true)
    (k__law_coins : PySem.W.keepIn K (.ref f__law_coins) = true)
    (a_is_integer : PySem.W.nsIn K mainGlobals "is_integer" = some (some (.ref f_is_integer)))
    (l_is_integer : K.lookup f_is_integer = some ⟨oc_is_integer, od_is_integer, .func (PySem.W.fnOf "is_integer" "is_integer" (defArgs st_is_integer) (defBody st_is_integer) (defScope st_is_integer) .none kV_is_integer dc_is_integer pm_is_integer an_is_integer cd_is_integer ct_is_integer), sl_is_integer⟩)
    (c_is_integer : PySem.W.codeIn K cd_is_integer "is_integer" = true)
    (k_is_integer : PySem.W.keepIn K (.ref f_is_integer) = true)
    (a_is_between : PySem.W.nsIn K mainGlobals "is_between" = some (some (.ref f_is_between)))
    (l_is_between : K.lookup f_is_between = some ⟨oc_is_between, od_is_between, .func (PySem.W.fnOf "is_between" "is_between" (defArgs st_is_between) (defBody st_is_between) (defScope st_is_between) .none kV_is_between dc_is_between pm_is_between an_is_between cd_is_between ct_is_between), sl_is_between⟩)
    (c_is_between : PySem.W.codeIn K cd_is_between "is_between" = true)
    (k_is_between : PySem.W.keepIn K (.ref f_is_between) = true)
    (a_are_coins : PySem.W.nsIn K mainGlobals "are_coins" = some (some (.ref f_are_coins)))
    (l_are_coins : K.lookup f_are_coins = some ⟨oc_are_coins, od_are_coins, .func (PySem.W.fnOf "are_coins" "are_coins" (defArgs st_are_coins) (defBody st_are_coins) (defScope st_are_coins) .none kV_are_coins dc_are_coins pm_are_coins an_are_coins cd_are_coins ct_are_coins), sl_are_coins⟩)
    (c_are_coins : PySem.W.codeIn K cd_are_coins "are_coins" = true)
    (k_are_coins : PySem.W.keepIn K (.ref f_are_coins) = true)
    (a_anew : PySem.W.nsIn K mainGlobals "anew" = some (some (.ref f_anew)))
    (l_anew : K.lookup f_anew = some ⟨oc_anew, od_anew, .func (PySem.W.fnOf "anew" "anew" (defArgs st_anew) (defBody st_anew) (defScope st_anew) .none kV_anew dc_anew pm_anew an_anew cd_anew ct_anew), sl_anew⟩)
    (c_anew : PySem.W.codeIn K cd_anew "anew" = true)
    (k_anew : PySem.W.keepIn K (.ref f_anew) = true)
    (a_need_coins : PySem.W.nsIn K mainGlobals "need_coins" = some (some (.ref f_need_coins)))
    (l_need_coins : K.lookup f_need_coins = some ⟨oc_need_coins, od_need_coins, .func (PySem.W.fnOf "need_coins" "need_coins" (defArgs st_need_coins) (defBody st_need_coins) (defScope st_need_coins) .none kV_need_coins dc_need_coins pm_need_coins an_need_coins cd_need_coins ct_need_coins), sl_need_coins⟩)
    (c_need_coins : PySem.W.codeIn K cd_need_coins "need_coins" = true)
    (k_need_coins : PySem.W.keepIn K (.ref f_need_coins) = true)
    (a_least_table : PySem.W.nsIn K mainGlobals "least_table" = some (some (.ref f_least_table)))
    (l_least_table : K.lookup f_least_table = some ⟨oc_least_table, od_least_table, .func (PySem.W.fnOf "least_table" "least_table" (defArgs st_least_table) (defBody st_least_table) (defScope st_least_table) .none kV_least_table dc_least_table pm_least_table an_least_table cd_least_table ct_least_table), sl_least_table⟩)
    (c_least_table : PySem.W.codeIn K cd_least_table "least_table" = true)
    (k_least_table : PySem.W.keepIn K (.ref f_least_table) = true)
    (a_gaps : PySem.W.nsIn K mainGlobals "gaps" = some (some (.ref f_gaps)))
    (l_gaps : K.lookup f_gaps = some ⟨oc_gaps, od_gaps, .func (PySem.W.fnOf "gaps" "gaps" (defArgs st_gaps) (defBody st_gaps) (defScope st_gaps) .none kV_gaps dc_gaps pm_gaps an_gaps cd_gaps ct_gaps), sl_gaps⟩)
    (c_gaps : PySem.W.codeIn K cd_gaps "gaps" = true)
    (k_gaps : PySem.W.keepIn K (.ref f_gaps) = true)
    (a__law_common : PySem.W.nsIn K mainGlobals "_law_common" = some (some (.ref f__law_common)))
    (l__law_common : K.lookup f__law_common = some ⟨oc__law_common, od__law_common, .func (PySem.W.fnOf "_law_common" "_law_common" (defArgs st__law_common) (defBody st__law_common) (defScope st__law_common) .none kV__law_common dc__law_common pm__law_common an__law_common cd__law_common ct__law_common), sl__law_common⟩)
    (c__law_common : PySem.W.codeIn K cd__law_common "_law_common" = true)
    (k__law_common : PySem.W.keepIn K (.ref f__law_common) = true)
    (a_divisor_of : PySem.W.nsIn K mainGlobals "divisor_of" = some (some (.ref f_divisor_of)))
    (l_divisor_of : K.lookup f_divisor_of = some ⟨oc_divisor_of, od_divisor_of, .func (PySem.W.fnOf "divisor_of" "divisor_of" (defArgs st_divisor_of) (defBody st_divisor_of) (defScope st_divisor_of) .none kV_divisor_of dc_divisor_of pm_divisor_of an_divisor_of cd_divisor_of ct_divisor_of), sl_divisor_of⟩)
    (c_divisor_of : PySem.W.codeIn K cd_divisor_of "divisor_of" = true)
    (k_divisor_of : PySem.W.keepIn K (.ref f_divisor_of) = true)
    (a_greatest_unpaid : PySem.W.nsIn K mainGlobals "greatest_unpaid" = some (some (.ref f_greatest_unpaid)))
    (l_greatest_unpaid : K.lookup f_greatest_unpaid = some ⟨oc_greatest_unpaid, od_greatest_unpaid, .func (PySem.W.fnOf "greatest_unpaid" "greatest_unpaid" (defArgs st_greatest_unpaid) (defBody st_greatest_unpaid) (defScope st_greatest_unpaid) .none kV_greatest_unpaid dc_greatest_unpaid pm_greatest_unpaid an_greatest_unpaid cd_greatest_unpaid ct_greatest_unpaid), sl_greatest_unpaid⟩)
    (c_greatest_unpaid : PySem.W.codeIn K cd_greatest_unpaid "greatest_unpaid" = true)
    (k_greatest_unpaid : PySem.W.keepIn K (.ref f_greatest_unpaid) = true)
    (a_count_unpaid : PySem.W.nsIn K mainGlobals "count_unpaid" = some (some (.ref f_count_unpaid)))
    (l_count_unpaid : K.lookup f_count_unpaid = some ⟨oc_count_unpaid, od_count_unpaid, .func (PySem.W.fnOf "count_unpaid" "count_unpaid" (defArgs st_count_unpaid) (defBody st_count_unpaid) (defScope st_count_unpaid) .none kV_count_unpaid dc_count_unpaid pm_count_unpaid an_count_unpaid cd_count_unpaid ct_count_unpaid), sl_count_unpaid⟩)
    (c_count_unpaid : PySem.W.codeIn K cd_count_unpaid "count_unpaid" = true)
    (k_count_unpaid : PySem.W.keepIn K (.ref f_count_unpaid) = true)
    (a_can_pay : PySem.W.nsIn K mainGlobals "can_pay" = some (some (.ref f_can_pay)))
    (l_can_pay : K.lookup f_can_pay = some ⟨oc_can_pay, od_can_pay, .func (PySem.W.fnOf "can_pay" "can_pay" (defArgs st_can_pay) (defBody st_can_pay) (defScope st_can_pay) .none kV_can_pay dc_can_pay pm_can_pay an_can_pay cd_can_pay ct_can_pay), sl_can_pay⟩)
    (c_can_pay : PySem.W.codeIn K cd_can_pay "can_pay" = true)
    (k_can_pay : PySem.W.keepIn K (.ref f_can_pay) = true)
    (a_payable : PySem.W.nsIn K mainGlobals "payable" = some (some (.ref f_payable)))
    (l_payable : K.lookup f_payable = some ⟨oc_payable, od_payable, .func (PySem.W.fnOf "payable" "payable" (defArgs st_payable) (defBody st_payable) (defScope st_payable) .none kV_payable dc_payable pm_payable an_payable cd_payable ct_payable), sl_payable⟩)
    (c_payable : PySem.W.codeIn K cd_payable "payable" = true)
    (k_payable : PySem.W.keepIn K (.ref f_payable) = true)
    (a_payable_to : PySem.W.nsIn K mainGlobals "payable_to" = some (some (.ref f_payable_to)))
    (l_payable_to : K.lookup f_payable_to = some ⟨oc_payable_to, od_payable_to, .func (PySem.W.fnOf "payable_to" "payable_to" (defArgs st_payable_to) (defBody st_payable_to) (defScope st_payable_to) .none kV_payable_to dc_payable_to pm_payable_to an_payable_to cd_payable_to ct_payable_to), sl_payable_to⟩)
    (c_payable_to : PySem.W.codeIn K cd_payable_to "payable_to" = true)
    (k_payable_to : PySem.W.keepIn K (.ref f_payable_to) = true)
    (a_first_for : PySem.W.nsIn K mainGlobals "first_for" = some (some (.ref f_first_for)))
    (l_first_for : K.lookup f_first_for = some ⟨oc_first_for, od_first_for, .func (PySem.W.fnOf "first_for" "first_for" (defArgs st_first_for) (defBody st_first_for) (defScope st_first_for) .none kV_first_for dc_first_for pm_first_for an_first_for cd_first_for ct_first_for), sl_first_for⟩)
    (c_first_for : PySem.W.codeIn K cd_first_for "first_for" = true)
    (k_first_for : PySem.W.keepIn K (.ref f_first_for) = true)
    (a_payment_paper : PySem.W.nsIn K mainGlobals "payment_paper" = some (some (.ref f_payment_paper)))
    (l_payment_paper : K.lookup f_payment_paper = some ⟨oc_payment_paper, od_payment_paper, .func (PySem.W.fnOf "payment_paper" "payment_paper" (defArgs st_payment_paper) (defBody st_payment_paper) (defScope st_payment_paper) .none kV_payment_paper dc_payment_paper pm_payment_paper an_payment_paper cd_payment_paper ct_payment_paper), sl_payment_paper⟩)
    (c_payment_paper : PySem.W.codeIn K cd_payment_paper "payment_paper" = true)
    (k_payment_paper : PySem.W.keepIn K (.ref f_payment_paper) = true)
    (a__law_two_right : PySem.W.nsIn K mainGlobals "_law_two_right" = some (some (.ref f__law_two_right)))
    (l__law_two_right : K.lookup f__law_two_right = some ⟨oc__law_two_right, od__law_two_right, .func (PySem.W.fnOf "_law_two_right" "_law_two_right" (defArgs st__law_two_right) (defBody st__law_two_right) (defScope st__law_two_right) .none kV__law_two_right dc__law_two_right pm__law_two_right an__law_two_right cd__law_two_right ct__law_two_right), sl__law_two_right⟩)
    (c__law_two_right : PySem.W.codeIn K cd__law_two_right "_law_two_right" = true)
    (k__law_two_right : PySem.W.keepIn K (.ref f__law_two_right) = true)
    (a__law_three_right : PySem.W.nsIn K mainGlobals "_law_three_right" = some (some (.ref f__law_three_right)))
    (l__law_three_right : K.lookup f__law_three_right = some ⟨oc__law_three_right, od__law_three_right, .func (PySem.W.fnOf "_law_three_right" "_law_three_right" (defArgs st__law_three_right) (defBody st__law_three_right) (defScope st__law_three_right) .none kV__law_three_right dc__law_three_right pm__law_three_right an__law_three_right cd__law_three_right ct__law_three_right), sl__law_three_right⟩)
    (c__law_three_right : PySem.W.codeIn K cd__law_three_right "_law_three_right" = true)
    (k__law_three_right : PySem.W.keepIn K (.ref f__law_three_right) = true)
    (a_first_payment : PySem.W.nsIn K mainGlobals "first_payment" = some (some (.ref f_first_payment)))
    (l_first_payment : K.lookup f_first_payment = some ⟨oc_first_payment, od_first_payment, .func (PySem.W.fnOf "first_payment" "first_payment" (defArgs st_first_payment) (defBody st_first_payment) (defScope st_first_payment) .none kV_first_payment dc_first_payment pm_first_payment an_first_payment cd_first_payment ct_first_payment), sl_first_payment⟩)
    (c_first_payment : PySem.W.codeIn K cd_first_payment "first_payment" = true)
    (k_first_payment : PySem.W.keepIn K (.ref f_first_payment) = true)
    (a_fewest_to : PySem.W.nsIn K mainGlobals "fewest_to" = some (some (.ref f_fewest_to)))
    (l_fewest_to : K.lookup f_fewest_to = some ⟨oc_fewest_to, od_fewest_to, .func (PySem.W.fnOf "fewest_to" "fewest_to" (defArgs st_fewest_to) (defBody st_fewest_to) (defScope st_fewest_to) .none kV_fewest_to dc_fewest_to pm_fewest_to an_fewest_to cd_fewest_to ct_fewest_to), sl_fewest_to⟩)
    (c_fewest_to : PySem.W.codeIn K cd_fewest_to "fewest_to" = true)
    (k_fewest_to : PySem.W.keepIn K (.ref f_fewest_to) = true)
    (a_least_count : PySem.W.nsIn K mainGlobals "least_count" = some (some (.ref f_least_count)))
    (l_least_count : K.lookup f_least_count = some ⟨oc_least_count, od_least_count, .func (PySem.W.fnOf "least_count" "least_count" (defArgs st_least_count) (defBody st_least_count) (defScope st_least_count) .none kV_least_count dc_least_count pm_least_count an_least_count cd_least_count ct_least_count), sl_least_count⟩)
    (c_least_count : PySem.W.codeIn K cd_least_count "least_count" = true)
    (k_least_count : PySem.W.keepIn K (.ref f_least_count) = true)
    (a_fewest : PySem.W.nsIn K mainGlobals "fewest" = some (some (.ref f_fewest)))
    (l_fewest : K.lookup f_fewest = some ⟨oc_fewest, od_fewest, .func (PySem.W.fnOf "fewest" "fewest" (defArgs st_fewest) (defBody st_fewest) (defScope st_fewest) .none kV_fewest dc_fewest pm_fewest an_fewest cd_fewest ct_fewest), sl_fewest⟩)
    (c_fewest : PySem.W.codeIn K cd_fewest "fewest" = true)
    (k_fewest : PySem.W.keepIn K (.ref f_fewest) = true)
    (a__law_times_right : PySem.W.nsIn K mainGlobals "_law_times_right" = some (some (.ref f__law_times_right)))
    (l__law_times_right : K.lookup f__law_times_right = some ⟨oc__law_times_right, od__law_times_right, .func (PySem.W.fnOf "_law_times_right" "_law_times_right" (defArgs st__law_times_right) (defBody st__law_times_right) (defScope st__law_times_right) .none kV__law_times_right dc__law_times_right pm__law_times_right an__law_times_right cd__law_times_right ct__law_times_right), sl__law_times_right⟩)
    (c__law_times_right : PySem.W.codeIn K cd__law_times_right "_law_times_right" = true)
    (k__law_times_right : PySem.W.keepIn K (.ref f__law_times_right) = true)
    (a_law : PySem.W.nsIn K mainGlobals "law" = some (some (.ref f_law)))
    (l_law : K.lookup f_law = some ⟨oc_law, od_law, .func (PySem.W.fnOf "law" "law" (defArgs st_law) (defBody st_law) (defScope st_law) .none kV_law dc_law pm_law an_law cd_law ct_law), sl_law⟩)
    (c_law : PySem.W.codeIn K cd_law "law" = true)
    (k_law : PySem.W.keepIn K (.ref f_law) = true)
    (z_abs : PySem.W.nsIn K mainGlobals "abs" = some none)
    (z_all : PySem.W.nsIn K mainGlobals "all" = some none)
    (z_any : PySem.W.nsIn K mainGlobals "any" = some none)
    (z_bool : PySem.W.nsIn K mainGlobals "bool" = some none)
    (z_enumerate : PySem.W.nsIn K mainGlobals "enumerate" = some none)
    (z_int : PySem.W.nsIn K mainGlobals "int" = some none)
    (z_isinstance : PySem.W.nsIn K mainGlobals "isinstance" = some none)
    (z_len : PySem.W.nsIn K mainGlobals "len" = some none)
    (z_list : PySem.W.nsIn K mainGlobals "list" = some none)
    (z_max : PySem.W.nsIn K mainGlobals "max" = some none)
    (z_min : PySem.W.nsIn K mainGlobals "min" = some none)
    (z_range : PySem.W.nsIn K mainGlobals "range" = some none)
    (z_set : PySem.W.nsIn K mainGlobals "set" = some none)
    (z_sorted : PySem.W.nsIn K mainGlobals "sorted" = some none)
    (z_sum : PySem.W.nsIn K mainGlobals "sum" = some none)
    (z_tuple : PySem.W.nsIn K mainGlobals "tuple" = some none)
    (z_zip : PySem.W.nsIn K mainGlobals "zip" = some none)
    (v_MOST_COIN : PySem.W.nsIn K mainGlobals "MOST_COIN" = some (some (.int 60 t_MOST_COIN)))
    (v_MOST_COINS : PySem.W.nsIn K mainGlobals "MOST_COINS" = some (some (.int 5 t_MOST_COINS)))
    (w_gcd : PySem.W.nsIn K mainGlobals "gcd" = some (some (.builtin "math.gcd")))
    : ∃ fd : FuncData, (∀ (s : Shared) (u : Value), BindsTo s fd ⟨[u], []⟩ [("script", u)]) ∧ ∀ base : Heap, K.In base → base.Ns mainGlobals mg → FnG PP w K mg base (L2.CX PP w) 8 fa fd ["script"] spLawTop := by
  have e := hfa.symm.trans (PySem.W.mg_of X G a_law)
  cases e
  have T : Txt PP K mg := { n_abs := PySem.W.mg_none_of X G z_abs, n_all := PySem.W.mg_none_of X G z_all, n_any := PySem.W.mg_none_of X G z_any, n_bool := PySem.W.mg_none_of X G z_bool, n_enumerate := PySem.W.mg_none_of X G z_enumerate, n_int := PySem.W.mg_none_of X G z_int, n_isinstance := PySem.W.mg_none_of X G z_isinstance, n_len := PySem.W.mg_none_of X G z_len, n_list := PySem.W.mg_none_of X G z_list, n_max := PySem.W.mg_none_of X G z_max, n_min := PySem.W.mg_none_of X G z_min, n_range := PySem.W.mg_none_of X G z_range, n_set := PySem.W.mg_none_of X G z_set, n_sorted := PySem.W.mg_none_of X G z_sorted, n_sum := PySem.W.mg_none_of X G z_sum, n_tuple := PySem.W.mg_none_of X G z_tuple, n_zip := PySem.W.mg_none_of X G z_zip, v_MOST_COIN := ⟨_, PySem.W.mg_of X G v_MOST_COIN⟩, v_MOST_COINS := ⟨_, PySem.W.mg_of X G v_MOST_COINS⟩, b_gcd := PySem.W.mg_of X G w_gcd }
  have F__law_well := fun_mk (st := st__law_well) l__law_well c__law_well k__law_well
  have b__law_well := F__law_well.binds (ps := ["script", "k"]) fun _ _ _ _ _ _ us hl => match us, hl with | [_, _], _ => rfl
  have g__law_well := PySem.W.mg_of X G a__law_well
  have F__law_draw := fun_mk (st := st__law_draw) l__law_draw c__law_draw k__law_draw
  have b__law_draw := F__law_draw.binds (ps := ["well", "many"]) fun _ _ _ _ _ _ us hl => match us, hl with | [_, _], _ => rfl
  have g__law_draw := PySem.W.mg_of X G a__law_draw
  have F__law_coins := fun_mk (st := st__law_coins) l__law_coins c__law_coins k__law_coins
  have b__law_coins := F__law_coins.binds (ps := ["well"]) fun _ _ _ _ _ _ us hl => match us, hl with | [_], _ => rfl
  have g__law_coins := PySem.W.mg_of X G a__law_coins
  have F_is_integer := fun_mk (st := st_is_integer) l_is_integer c_is_integer k_is_integer
  have b_is_integer := F_is_integer.binds (ps := ["value"]) fun _ _ _ _ _ _ us hl => match us, hl with | [_], _ => rfl
  have g_is_integer := PySem.W.mg_of X G a_is_integer
  have F_is_between := fun_mk (st := st_is_between) l_is_between c_is_between k_is_between
  have b_is_between := F_is_between.binds (ps := ["value", "low", "high"]) fun _ _ _ _ _ _ us hl => match us, hl with | [_, _, _], _ => rfl
  have g_is_between := PySem.W.mg_of X G a_is_between
  have F_are_coins := fun_mk (st := st_are_coins) l_are_coins c_are_coins k_are_coins
  have b_are_coins := F_are_coins.binds (ps := ["value"]) fun _ _ _ _ _ _ us hl => match us, hl with | [_], _ => rfl
  have g_are_coins := PySem.W.mg_of X G a_are_coins
  have F_anew := fun_mk (st := st_anew) l_anew c_anew k_anew
  have b_anew := F_anew.binds (ps := ["value"]) fun _ _ _ _ _ _ us hl => match us, hl with | [_], _ => rfl
  have g_anew := PySem.W.mg_of X G a_anew
  have F_need_coins := fun_mk (st := st_need_coins) l_need_coins c_need_coins k_need_coins
  have b_need_coins := F_need_coins.binds (ps := ["coins"]) fun _ _ _ _ _ _ us hl => match us, hl with | [_], _ => rfl
  have g_need_coins := PySem.W.mg_of X G a_need_coins
  have F_least_table := fun_mk (st := st_least_table) l_least_table c_least_table k_least_table
  have b_least_table := F_least_table.binds (ps := ["coins", "a"]) fun _ _ _ _ _ _ us hl => match us, hl with | [_, _], _ => rfl
  have g_least_table := PySem.W.mg_of X G a_least_table
  have F_gaps := fun_mk (st := st_gaps) l_gaps c_gaps k_gaps
  have b_gaps := F_gaps.binds (ps := ["coins"]) fun _ _ _ _ _ _ us hl => match us, hl with | [_], _ => rfl
  have g_gaps := PySem.W.mg_of X G a_gaps
  have F__law_common := fun_mk (st := st__law_common) l__law_common c__law_common k__law_common
  have b__law_common := F__law_common.binds (ps := ["numbers"]) fun _ _ _ _ _ _ us hl => match us, hl with | [_], _ => rfl
  have g__law_common := PySem.W.mg_of X G a__law_common
  have F_divisor_of := fun_mk (st := st_divisor_of) l_divisor_of c_divisor_of k_divisor_of
  have b_divisor_of := F_divisor_of.binds (ps := ["coins"]) fun _ _ _ _ _ _ us hl => match us, hl with | [_], _ => rfl
  have g_divisor_of := PySem.W.mg_of X G a_divisor_of
  have F_greatest_unpaid := fun_mk (st := st_greatest_unpaid) l_greatest_unpaid c_greatest_unpaid k_greatest_unpaid
  have b_greatest_unpaid := F_greatest_unpaid.binds (ps := ["coins"]) fun _ _ _ _ _ _ us hl => match us, hl with | [_], _ => rfl
  have g_greatest_unpaid := PySem.W.mg_of X G a_greatest_unpaid
  have F_count_unpaid := fun_mk (st := st_count_unpaid) l_count_unpaid c_count_unpaid k_count_unpaid
  have b_count_unpaid := F_count_unpaid.binds (ps := ["coins"]) fun _ _ _ _ _ _ us hl => match us, hl with | [_], _ => rfl
  have g_count_unpaid := PySem.W.mg_of X G a_count_unpaid
  have F_can_pay := fun_mk (st := st_can_pay) l_can_pay c_can_pay k_can_pay
  have b_can_pay := F_can_pay.binds (ps := ["coins", "n"]) fun _ _ _ _ _ _ us hl => match us, hl with | [_, _], _ => rfl
  have g_can_pay := PySem.W.mg_of X G a_can_pay
  have F_payable := fun_mk (st := st_payable) l_payable c_payable k_payable
  have b_payable := F_payable.binds (ps := ["coins", "n"]) fun _ _ _ _ _ _ us hl => match us, hl with | [_, _], _ => rfl
  have g_payable := PySem.W.mg_of X G a_payable
  have F_payable_to := fun_mk (st := st_payable_to) l_payable_to c_payable_to k_payable_to
  have b_payable_to := F_payable_to.binds (ps := ["coins", "n"]) fun _ _ _ _ _ _ us hl => match us, hl with | [_, _], _ => rfl
  have g_payable_to := PySem.W.mg_of X G a_payable_to
  have F_first_for := fun_mk (st := st_first_for) l_first_for c_first_for k_first_for
  have b_first_for := F_first_for.binds (ps := ["coins", "n"]) fun _ _ _ _ _ _ us hl => match us, hl with | [_, _], _ => rfl
  have g_first_for := PySem.W.mg_of X G a_first_for
  have F_payment_paper := fun_mk (st := st_payment_paper) l_payment_paper c_payment_paper k_payment_paper
  have b_payment_paper := F_payment_paper.binds (ps := ["coins", "n"]) fun _ _ _ _ _ _ us hl => match us, hl with | [_, _], _ => rfl
  have g_payment_paper := PySem.W.mg_of X G a_payment_paper
  have F__law_two_right := fun_mk (st := st__law_two_right) l__law_two_right c__law_two_right k__law_two_right
  have b__law_two_right := F__law_two_right.binds (ps := ["well"]) fun _ _ _ _ _ _ us hl => match us, hl with | [_], _ => rfl
  have g__law_two_right := PySem.W.mg_of X G a__law_two_right
  have F__law_three_right := fun_mk (st := st__law_three_right) l__law_three_right c__law_three_right k__law_three_right
  have b__law_three_right := F__law_three_right.binds (ps := ["well"]) fun _ _ _ _ _ _ us hl => match us, hl with | [_], _ => rfl
  have g__law_three_right := PySem.W.mg_of X G a__law_three_right
  have F_first_payment := fun_mk (st := st_first_payment) l_first_payment c_first_payment k_first_payment
  have b_first_payment := F_first_payment.binds (ps := ["coins", "n"]) fun _ _ _ _ _ _ us hl => match us, hl with | [_, _], _ => rfl
  have g_first_payment := PySem.W.mg_of X G a_first_payment
  have F_fewest_to := fun_mk (st := st_fewest_to) l_fewest_to c_fewest_to k_fewest_to
  have b_fewest_to := F_fewest_to.binds (ps := ["coins", "n"]) fun _ _ _ _ _ _ us hl => match us, hl with | [_, _], _ => rfl
  have g_fewest_to := PySem.W.mg_of X G a_fewest_to
  have F_least_count := fun_mk (st := st_least_count) l_least_count c_least_count k_least_count
  have b_least_count := F_least_count.binds (ps := ["coins", "n"]) fun _ _ _ _ _ _ us hl => match us, hl with | [_, _], _ => rfl
  have g_least_count := PySem.W.mg_of X G a_least_count
  have F_fewest := fun_mk (st := st_fewest) l_fewest c_fewest k_fewest
  have b_fewest := F_fewest.binds (ps := ["coins", "n"]) fun _ _ _ _ _ _ us hl => match us, hl with | [_, _], _ => rfl
  have g_fewest := PySem.W.mg_of X G a_fewest
  have F__law_times_right := fun_mk (st := st__law_times_right) l__law_times_right c__law_times_right k__law_times_right
  have b__law_times_right := F__law_times_right.binds (ps := ["well"]) fun _ _ _ _ _ _ us hl => match us, hl with | [_], _ => rfl
  have g__law_times_right := PySem.W.mg_of X G a__law_times_right
  have F_law := fun_mk (st := st_law) l_law c_law k_law
  have g_law := PySem.W.mg_of X G a_law
  refine ⟨PySem.W.fnOf "law" "law" (defArgs st_law) (defBody st_law) (defScope st_law) .none kV_law dc_law pm_law an_law cd_law ct_law, fun s u => .of_eq rfl, fun base _ _ => ?_⟩
  have o__law_well := ok__law_well (w := w) (base := base) T F__law_well
  have t__law_well_ : CalT PP w K mg base 2 "_law_well" 2 G45.F__law_well := ⟨f__law_well, _, ["script", "k"], rfl, o__law_well, g__law_well, F__law_well.kp, b__law_well⟩
  have o__law_draw := ok__law_draw (w := w) (base := base) T F__law_draw
  have t__law_draw_ : CalT PP w K mg base 2 "_law_draw" 2 G45.F__law_draw := ⟨f__law_draw, _, ["well", "many"], rfl, o__law_draw, g__law_draw, F__law_draw.kp, b__law_draw⟩
  have o__law_coins := ok__law_coins (w := w) (base := base) T t__law_draw_ F__law_coins
  have t__law_coins_ : CalT PP w K mg base 3 "_law_coins" 1 G45.F__law_coins := ⟨f__law_coins, _, ["well"], rfl, o__law_coins, g__law_coins, F__law_coins.kp, b__law_coins⟩
  have o_is_integer := ok_is_integer (w := w) (base := base) T F_is_integer
  have t_is_integer_ : CalT PP w K mg base 2 "is_integer" 1 G45.F_is_integer := ⟨f_is_integer, _, ["value"], rfl, o_is_integer, g_is_integer, F_is_integer.kp, b_is_integer⟩
  have o_is_between := ok_is_between (w := w) (base := base) T t_is_integer_ F_is_between
  have t_is_between_ : CalT PP w K mg base 3 "is_between" 3 G45.F_is_between := ⟨f_is_between, _, ["value", "low", "high"], rfl, o_is_between, g_is_between, F_is_between.kp, b_is_between⟩
  have o_are_coins := ok_are_coins (w := w) (base := base) T t_is_between_ F_are_coins
  have t_are_coins_ : CalT PP w K mg base 4 "are_coins" 1 G45.F_are_coins := ⟨f_are_coins, _, ["value"], rfl, o_are_coins, g_are_coins, F_are_coins.kp, b_are_coins⟩
  have o_anew := (ok_anew (w := w) (base := base) T F_anew g_anew b_anew LV).mono (by decide : _ ≤ 14)
  have t_anew_ : CalT PP w K mg base 14 "anew" 1 (G45.F_anew LV) := ⟨f_anew, _, ["value"], rfl, o_anew, g_anew, F_anew.kp, b_anew⟩
  have o_need_coins := ok_need_coins (w := w) (base := base) T t_are_coins_ F_need_coins
  have t_need_coins_ : CalT PP w K mg base 5 "need_coins" 1 G45.F_need_coins := ⟨f_need_coins, _, ["coins"], rfl, o_need_coins, g_need_coins, F_need_coins.kp, b_need_coins⟩
  have o_least_table := ok_least_table (w := w) (base := base) T F_least_table
  have t_least_table_ : CalT PP w K mg base 2 "least_table" 2 G45.F_least_table := ⟨f_least_table, _, ["coins", "a"], rfl, o_least_table, g_least_table, F_least_table.kp, b_least_table⟩
  have o_gaps := ok_gaps (w := w) (base := base) T t_least_table_ t_need_coins_ F_gaps
  have t_gaps_ : CalT PP w K mg base 6 "gaps" 1 G45.F_gaps := ⟨f_gaps, _, ["coins"], rfl, o_gaps, g_gaps, F_gaps.kp, b_gaps⟩
  have o__law_common := ok__law_common (w := w) (base := base) T F__law_common
  have t__law_common_ : CalT PP w K mg base 2 "_law_common" 1 G45.F__law_common := ⟨f__law_common, _, ["numbers"], rfl, o__law_common, g__law_common, F__law_common.kp, b__law_common⟩
  have o_divisor_of := ok_divisor_of (w := w) (base := base) T F_divisor_of
  have t_divisor_of_ : CalT PP w K mg base 2 "divisor_of" 1 G45.F_divisor_of := ⟨f_divisor_of, _, ["coins"], rfl, o_divisor_of, g_divisor_of, F_divisor_of.kp, b_divisor_of⟩
  have o_greatest_unpaid := ok_greatest_unpaid (w := w) (base := base) T t_divisor_of_ t_least_table_ t_need_coins_ F_greatest_unpaid
  have t_greatest_unpaid_ : CalT PP w K mg base 6 "greatest_unpaid" 1 G45.F_greatest_unpaid := ⟨f_greatest_unpaid, _, ["coins"], rfl, o_greatest_unpaid, g_greatest_unpaid, F_greatest_unpaid.kp, b_greatest_unpaid⟩
  have o_count_unpaid := ok_count_unpaid (w := w) (base := base) T t_divisor_of_ t_least_table_ t_need_coins_ F_count_unpaid
  have t_count_unpaid_ : CalT PP w K mg base 6 "count_unpaid" 1 G45.F_count_unpaid := ⟨f_count_unpaid, _, ["coins"], rfl, o_count_unpaid, g_count_unpaid, F_count_unpaid.kp, b_count_unpaid⟩
  have o_can_pay := ok_can_pay (w := w) (base := base) T t_least_table_ F_can_pay
  have t_can_pay_ : CalT PP w K mg base 3 "can_pay" 2 G45.F_can_pay := ⟨f_can_pay, _, ["coins", "n"], rfl, o_can_pay, g_can_pay, F_can_pay.kp, b_can_pay⟩
  have o_payable := ok_payable (w := w) (base := base) T t_can_pay_ t_need_coins_ F_payable
  have t_payable_ : CalT PP w K mg base 6 "payable" 2 G45.F_payable := ⟨f_payable, _, ["coins", "n"], rfl, o_payable, g_payable, F_payable.kp, b_payable⟩
  have o_payable_to := ok_payable_to (w := w) (base := base) T F_payable_to
  have t_payable_to_ : CalT PP w K mg base 2 "payable_to" 2 G45.F_payable_to := ⟨f_payable_to, _, ["coins", "n"], rfl, o_payable_to, g_payable_to, F_payable_to.kp, b_payable_to⟩
  have o_first_for := ok_first_for (w := w) (base := base) T t_payable_to_ F_first_for
  have t_first_for_ : CalT PP w K mg base 3 "first_for" 2 G45.F_first_for := ⟨f_first_for, _, ["coins", "n"], rfl, o_first_for, g_first_for, F_first_for.kp, b_first_for⟩
  have o_payment_paper := ok_payment_paper (w := w) (base := base) T t_can_pay_ t_first_for_ t_least_table_ t_need_coins_ F_payment_paper
  have t_payment_paper_ : CalT PP w K mg base 6 "payment_paper" 2 G45.F_payment_paper := ⟨f_payment_paper, _, ["coins", "n"], rfl, o_payment_paper, g_payment_paper, F_payment_paper.kp, b_payment_paper⟩
  have o__law_two_right := ok__law_two_right (w := w) (base := base) T t__law_common_ t__law_draw_ t_count_unpaid_ t_gaps_ t_greatest_unpaid_ t_payable_ t_payment_paper_ F__law_two_right
  have t__law_two_right_ : CalT PP w K mg base 7 "_law_two_right" 1 G45.F__law_two_right := ⟨f__law_two_right, _, ["well"], rfl, o__law_two_right, g__law_two_right, F__law_two_right.kp, b__law_two_right⟩
  have o__law_three_right := ok__law_three_right (w := w) (base := base) T t__law_common_ t__law_draw_ t_greatest_unpaid_ F__law_three_right
  have t__law_three_right_ : CalT PP w K mg base 7 "_law_three_right" 1 G45.F__law_three_right := ⟨f__law_three_right, _, ["well"], rfl, o__law_three_right, g__law_three_right, F__law_three_right.kp, b__law_three_right⟩
  have o_first_payment := ok_first_payment (w := w) (base := base) T t_first_for_ t_need_coins_ F_first_payment
  have t_first_payment_ : CalT PP w K mg base 6 "first_payment" 2 G45.F_first_payment := ⟨f_first_payment, _, ["coins", "n"], rfl, o_first_payment, g_first_payment, F_first_payment.kp, b_first_payment⟩
  have o_fewest_to := ok_fewest_to (w := w) (base := base) T F_fewest_to
  have t_fewest_to_ : CalT PP w K mg base 2 "fewest_to" 2 G45.F_fewest_to := ⟨f_fewest_to, _, ["coins", "n"], rfl, o_fewest_to, g_fewest_to, F_fewest_to.kp, b_fewest_to⟩
  have o_least_count := ok_least_count (w := w) (base := base) T t_fewest_to_ F_least_count
  have t_least_count_ : CalT PP w K mg base 3 "least_count" 2 G45.F_least_count := ⟨f_least_count, _, ["coins", "n"], rfl, o_least_count, g_least_count, F_least_count.kp, b_least_count⟩
  have o_fewest := ok_fewest (w := w) (base := base) T t_least_count_ t_need_coins_ F_fewest
  have t_fewest_ : CalT PP w K mg base 6 "fewest" 2 G45.F_fewest := ⟨f_fewest, _, ["coins", "n"], rfl, o_fewest, g_fewest, F_fewest.kp, b_fewest⟩
  have o__law_times_right := ok__law_times_right (w := w) (base := base) T t__law_coins_ t__law_draw_ t_fewest_ t_first_payment_ t_payable_ F__law_times_right
  have t__law_times_right_ : CalT PP w K mg base 7 "_law_times_right" 1 G45.F__law_times_right := ⟨f__law_times_right, _, ["well"], rfl, o__law_times_right, g__law_times_right, F__law_times_right.kp, b__law_times_right⟩
  have o_law := ok_law (w := w) (base := base) T t__law_coins_ t__law_draw_ t__law_three_right_ t__law_times_right_ t__law_two_right_ t__law_well_ t_fewest_ t_payable_ F_law
  exact o_law.imp (top_imp plain_law)
end G45
open PySem PySem.W PyProof.Rows L2.DL in
set_option maxRecDepth 100000 in
set_option maxHeartbeats 0 in
theorem PySem.Challenge.cw_cutswhole_k45_great_unpaid_numbers_holds : PySem.Challenge.rw_cutswhole_k45_great_unpaid_numbers.Holds := by
  w_on; o_law; k_head; (case hw => w_witness2)
  k_fill
  refine L2.walk_ofG (l := PySem.Challenge.rw_cutswhole_k45_great_unpaid_numbers) (n := 63) (k := 8) (x := "script") (CX := fun w => L2.CX G45.PP w) (sp := fun _ => spLawTop) rfl (by decide) rfl ⟨rfl, by decide, by decide⟩ ?hNl (fun w h Y => PySem.W.kIn_of Y) ?hFF (fun w H a ns hl _ hS => ⟨a, ns, rfl, hS, hl, fun _ => rfl⟩) (fun _ _ _ _ _ z => cx_no z)
  case hNl => intro w; first | rfl | kernel_rfl | decide +kernel
  case hFF =>
    intro w mg fa h KX G hmg
    refine' G45.all_mk KX G hmg ?a__law_well ?l__law_well ?c__law_well ?k__law_well ?a__law_draw ?l__law_draw ?c__law_draw ?k__law_draw ?a__law_coins ?l__law_coins ?c__law_coins ?k__law_coins ?a_is_integer ?l_is_integer ?c_is_integer ?k_is_integer ?a_is_between ?l_is_between ?c_is_between ?k_is_between ?a_are_coins ?l_are_coins ?c_are_coins ?k_are_coins ?a_anew ?l_anew ?c_anew ?k_anew ?a_need_coins ?l_need_coins ?c_need_coins ?k_need_coins ?a_least_table ?l_least_table ?c_least_table ?k_least_table ?a_gaps ?l_gaps ?c_gaps ?k_gaps ?a__law_common ?l__law_common ?c__law_common ?k__law_common ?a_divisor_of ?l_divisor_of ?c_divisor_of ?k_divisor_of ?a_greatest_unpaid ?l_greatest_unpaid ?c_greatest_unpaid ?k_greatest_unpaid ?a_count_unpaid ?l_count_unpaid ?c_count_unpaid ?k_count_unpaid ?a_can_pay ?l_can_pay ?c_can_pay ?k_can_pay ?a_payable ?l_payable ?c_payable ?k_payable ?a_payable_to ?l_payable_to ?c_payable_to ?k_payable_to ?a_first_for ?l_first_for ?c_first_for ?k_first_for ?a_payment_paper ?l_payment_paper ?c_payment_paper ?k_payment_paper ?a__law_two_right ?l__law_two_right ?c__law_two_right ?k__law_two_right ?a__law_three_right ?l__law_three_right ?c__law_three_right ?k__law_three_right ?a_first_payment ?l_first_payment ?c_first_payment ?k_first_payment ?a_fewest_to ?l_fewest_to ?c_fewest_to ?k_fewest_to ?a_least_count ?l_least_count ?c_least_count ?k_least_count ?a_fewest ?l_fewest ?c_fewest ?k_fewest ?a__law_times_right ?l__law_times_right ?c__law_times_right ?k__law_times_right ?a_law ?l_law ?c_law ?k_law ?z_abs ?z_all ?z_any ?z_bool ?z_enumerate ?z_int ?z_isinstance ?z_len ?z_list ?z_max ?z_min ?z_range ?z_set ?z_sorted ?z_sum ?z_tuple ?z_zip ?v_MOST_COIN ?v_MOST_COINS ?w_gcd
    (case a__law_well => first | k_is | rfl | kernel_rfl | decide +kernel)
    (case l__law_well => first | k_is | rfl | kernel_rfl | decide +kernel)
    (case c__law_well => first | k_is | rfl | kernel_rfl | decide +kernel)
    (case k__law_well => first | k_is | rfl | kernel_rfl | decide +kernel)
    (case a__law_draw => first | k_is | rfl | kernel_rfl | decide +kernel)
    (case l__law_draw => first | k_is | rfl | kernel_rfl | decide +kernel)
    (case c__law_draw => first | k_is | rfl | kernel_rfl | decide +kernel)
    (case k__law_draw => first | k_is | rfl | kernel_rfl | decide +kernel)
    (case a__law_coins => first | k_is | rfl | kernel_rfl | decide +kernel)
    (case l__law_coins => first | k_is | rfl | kernel_rfl | decide +kernel)
    (case c__law_coins => first | k_is | rfl | kernel_rfl | decide +kernel)
    (case k__law_coins => first | k_is | rfl | kernel_rfl | decide +kernel)
    (case a_is_integer => first | k_is | rfl | kernel_rfl | decide +kernel)
    (case l_is_integer => first | k_is | rfl | kernel_rfl | decide +kernel)
    (case c_is_integer => first | k_is | rfl | kernel_rfl | decide +kernel)
    (case k_is_integer => first | k_is | rfl | kernel_rfl | decide +kernel)
    (case a_is_between => first | k_is | rfl | kernel_rfl | decide +kernel)
    (case l_is_between => first | k_is | rfl | kernel_rfl | decide +kernel)
    (case c_is_between => first | k_is | rfl | kernel_rfl | decide +kernel)
    (case k_is_between => first | k_is | rfl | kernel_rfl | decide +kernel)
    (case a_are_coins => first | k_is | rfl | kernel_rfl | decide +kernel)
    (case l_are_coins => first | k_is | rfl | kernel_rfl | decide +kernel)
    (case c_are_coins => first | k_is | rfl | kernel_rfl | decide +kernel)
    (case k_are_coins => first | k_is | rfl | kernel_rfl | decide +kernel)
    (case a_anew => first | k_is | rfl | kernel_rfl | decide +kernel)
    (case l_anew => first | k_is | rfl | kernel_rfl | decide +kernel)
    (case c_anew => first | k_is | rfl | kernel_rfl | decide +kernel)
    (case k_anew => first | k_is | rfl | kernel_rfl | decide +kernel)
    (case a_need_coins => first | k_is | rfl | kernel_rfl | decide +kernel)
    (case l_need_coins => first | k_is | rfl | kernel_rfl | decide +kernel)
    (case c_need_coins => first | k_is | rfl | kernel_rfl | decide +kernel)
    (case k_need_coins => first | k_is | rfl | kernel_rfl | decide +kernel)
    (case a_least_table => first | k_is | rfl | kernel_rfl | decide +kernel)
    (case l_least_table => first | k_is | rfl | kernel_rfl | decide +kernel)
    (case c_least_table => first | k_is | rfl | kernel_rfl | decide +kernel)
    (case k_least_table => first | k_is | rfl | kernel_rfl | decide +kernel)
    (case a_gaps => first | k_is | rfl | kernel_rfl | decide +kernel)
    (case l_gaps => first | k_is | rfl | kernel_rfl | decide +kernel)
    (case c_gaps => first | k_is | rfl | kernel_rfl | decide +kernel)
    (case k_gaps => first | k_is | rfl | kernel_rfl | decide +kernel)
    (case a__law_common => first | k_is | rfl | kernel_rfl | decide +kernel)
    (case l__law_common => first | k_is | rfl | kernel_rfl | decide +kernel)
    (case c__law_common => first | k_is | rfl | kernel_rfl | decide +kernel)
    (case k__law_common => first | k_is | rfl | kernel_rfl | decide +kernel)
    (case a_divisor_of => first | k_is | rfl | kernel_rfl | decide +kernel)
    (case l_divisor_of => first | k_is | rfl | kernel_rfl | decide +kernel)
    (case c_divisor_of => first | k_is | rfl | kernel_rfl | decide +kernel)
    (case k_divisor_of => first | k_is | rfl | kernel_rfl | decide +kernel)
    (case a_greatest_unpaid => first | k_is | rfl | kernel_rfl | decide +kernel)
    (case l_greatest_unpaid => first | k_is | rfl | kernel_rfl | decide +kernel)
    (case c_greatest_unpaid => first | k_is | rfl | kernel_rfl | decide +kernel)
    (case k_greatest_unpaid => first | k_is | rfl | kernel_rfl | decide +kernel)
    (case a_count_unpaid => first | k_is | rfl | kernel_rfl | decide +kernel)
    (case l_count_unpaid => first | k_is | rfl | kernel_rfl | decide +kernel)
    (case c_count_unpaid => first | k_is | rfl | kernel_rfl | decide +kernel)
    (case k_count_unpaid => first | k_is | rfl | kernel_rfl | decide +kernel)
    (case a_can_pay => first | k_is | rfl | kernel_rfl | decide +kernel)
    (case l_can_pay => first | k_is | rfl | kernel_rfl | decide +kernel)
    (case c_can_pay => first | k_is | rfl | kernel_rfl | decide +kernel)
    (case k_can_pay => first | k_is | rfl | kernel_rfl | decide +kernel)
    (case a_payable => first | k_is | rfl | kernel_rfl | decide +kernel)
    (case l_payable => first | k_is | rfl | kernel_rfl | decide +kernel)
    (case c_payable => first | k_is | rfl | kernel_rfl | decide +kernel)
    (case k_payable => first | k_is | rfl | kernel_rfl | decide +kernel)
    (case a_payable_to => first | k_is | rfl | kernel_rfl | decide +kernel)
    (case l_payable_to => first | k_is | rfl | kernel_rfl | decide +kernel)
    (case c_payable_to => first | k_is | rfl | kernel_rfl | decide +kernel)
    (case k_payable_to => first | k_is | rfl | kernel_rfl | decide +kernel)
    (case a_first_for => first | k_is | rfl | kernel_rfl | decide +kernel)
    (case l_first_for => first | k_is | rfl | kernel_rfl | decide +kernel)
    (case c_first_for => first | k_is | rfl | kernel_rfl | decide +kernel)
    (case k_first_for => first | k_is | rfl | kernel_rfl | decide +kernel)
    (case a_payment_paper => first | k_is | rfl | kernel_rfl | decide +kernel)
    (case l_payment_paper => first | k_is | rfl | kernel_rfl | decide +kernel)
    (case c_payment_paper => first | k_is | rfl | kernel_rfl | decide +kernel)
    (case k_payment_paper => first | k_is | rfl | kernel_rfl | decide +kernel)
    (case a__law_two_right => first | k_is | rfl | kernel_rfl | decide +kernel)
    (case l__law_two_right => first | k_is | rfl | kernel_rfl | decide +kernel)
    (case c__law_two_right => first | k_is | rfl | kernel_rfl | decide +kernel)
    (case k__law_two_right => first | k_is | rfl | kernel_rfl | decide +kernel)
    (case a__law_three_right => first | k_is | rfl | kernel_rfl | decide +kernel)
    (case l__law_three_right => first | k_is | rfl | kernel_rfl | decide +kernel)
    (case c__law_three_right => first | k_is | rfl | kernel_rfl | decide +kernel)
    (case k__law_three_right => first | k_is | rfl | kernel_rfl | decide +kernel)
    (case a_first_payment => first | k_is | rfl | kernel_rfl | decide +kernel)
    (case l_first_payment => first | k_is | rfl | kernel_rfl | decide +kernel)
    (case c_first_payment => first | k_is | rfl | kernel_rfl | decide +kernel)
    (case k_first_payment => first | k_is | rfl | kernel_rfl | decide +kernel)
    (case a_fewest_to => first | k_is | rfl | kernel_rfl | decide +kernel)
    (case l_fewest_to => first | k_is | rfl | kernel_rfl | decide +kernel)
    (case c_fewest_to => first | k_is | rfl | kernel_rfl | decide +kernel)
    (case k_fewest_to => first | k_is | rfl | kernel_rfl | decide +kernel)
    (case a_least_count => first | k_is | rfl | kernel_rfl | decide +kernel)
    (case l_least_count => first | k_is | rfl | kernel_rfl | decide +kernel)
    (case c_least_count => first | k_is | rfl | kernel_rfl | decide +kernel)
    (case k_least_count => first | k_is | rfl | kernel_rfl | decide +kernel)
    (case a_fewest => first | k_is | rfl | kernel_rfl | decide +kernel)
    (case l_fewest => first | k_is | rfl | kernel_rfl | decide +kernel)
    (case c_fewest => first | k_is | rfl | kernel_rfl | decide +kernel)
    (case k_fewest => first | k_is | rfl | kernel_rfl | decide +kernel)
    (case a__law_times_right => first | k_is | rfl | kernel_rfl | decide +kernel)
    (case l__law_times_right => first | k_is | rfl | kernel_rfl | decide +kernel)
    (case c__law_times_right => first | k_is | rfl | kernel_rfl | decide +kernel)
    (case k__law_times_right => first | k_is | rfl | kernel_rfl | decide +kernel)
    (case a_law => first | k_is | rfl | kernel_rfl | decide +kernel)
    (case l_law => first | k_is | rfl | kernel_rfl | decide +kernel)
    (case c_law => first | k_is | rfl | kernel_rfl | decide +kernel)
    (case k_law => first | k_is | rfl | kernel_rfl | decide +kernel)
    (case z_abs => first | k_is | rfl | kernel_rfl | decide +kernel)
    (case z_all => first | k_is | rfl | kernel_rfl | decide +kernel)
    (case z_any => first | k_is | rfl | kernel_rfl | decide +kernel)
    (case z_bool => first | k_is | rfl | kernel_rfl | decide +kernel)
    (case z_enumerate => first | k_is | rfl | kernel_rfl | decide +kernel)
    (case z_int => first | k_is | rfl | kernel_rfl | decide +kernel)
    (case z_isinstance => first | k_is | rfl | kernel_rfl | decide +kernel)
    (case z_len => first | k_is | rfl | kernel_rfl | decide +kernel)
    (case z_list => first | k_is | rfl | kernel_rfl | decide +kernel)
    (case z_max => first | k_is | rfl | kernel_rfl | decide +kernel)
    (case z_min => first | k_is | rfl | kernel_rfl | decide +kernel)
    (case z_range => first | k_is | rfl | kernel_rfl | decide +kernel)
    (case z_set => first | k_is | rfl | kernel_rfl | decide +kernel)
    (case z_sorted => first | k_is | rfl | kernel_rfl | decide +kernel)
    (case z_sum => first | k_is | rfl | kernel_rfl | decide +kernel)
    (case z_tuple => first | k_is | rfl | kernel_rfl | decide +kernel)
    (case z_zip => first | k_is | rfl | kernel_rfl | decide +kernel)
    (case v_MOST_COIN => first | k_is | rfl | kernel_rfl | decide +kernel)
    (case v_MOST_COINS => first | k_is | rfl | kernel_rfl | decide +kernel)
    (case w_gcd => first | k_is | rfl | kernel_rfl | decide +kernel)
#print axioms PySem.Challenge.cw_cutswhole_k45_great_unpaid_numbers_holds
end
