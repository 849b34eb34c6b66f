import PyProof.Rows.All
import Wide.All
import OpenK.AllK
import Wide.FinOn
import HandS.ForMost
import HandS.ForExc
import HandS.Flow
import HandS.Wide
import HandS.TupAny
import HandS.Style
import HandS.Steps
import HandS.Deep
import PyProof.StrBlock2
import HandS.IsInst
import HandS.NoneIn
import HandS.CallSlots
import HandS.ExcInit
import HandS.RaiseMore
import HandS.ListItems
import HandS.Sort
import PyProof.ReprRoads
import PyProof.FitsInt
import PyProof.StrLawsRepr
import HandS.EndBits
import HandS.Head0
import HandS.Head1
import HandS.Head2
import HandS.Head3
import HandS.HeadEnd
import HandS.HeadHook1
import HandS.HeadHook2
import HandS.Defaults
import PySem.Challenge.RW_deadbeat_k11_values_of_expressions
import KE.BitLaws
import KE.OsArith
import HandS.Text
set_option Elab.async false
set_option linter.all false
set_option maxRecDepth 100000
set_option maxHeartbeats 4000000
/-! DL1: readings at the level of data: values are PyData, what changes stands in a map M; the heap is hidden. -/
namespace DL
open PySem PySem.Spec L2

/-! ### values, objects, what stands for them -/
/-- d: data that nobody changes; k: data that is only read (the written part, the script); ob: an object in M; v: a class, a def .. -/
inductive DV where
  | d (x : PyData) | k (x : PyData) | ob (a : Addr) | v (x : V)
inductive MO where
  | lst (xs : List DV) | dK (kvs : List (Key × DV)) | dT (kvs : List (List Key × DV)) | ins (C : Addr) (fs : List (Str × DV)) | xd (fs : List (Str × DV)) | tup (xs : List DV) | genA (c : Addr) | genB
/-- the slots; what is wanted where an exception leaves (class, fields, slots, objects) -/
abbrev DX := Addr → List (Str × DV) → List (Option DV) → (Addr → Option MO) → Prop
structure DEnv where
  sl : List (Option DV)
  wx : DX
def DEnv.set (de : DEnv) (i : Nat) (x : Option DV) : DEnv := ⟨de.sl.set i x, de.wx⟩
abbrev DM := Addr → Option MO
abbrev DQ := DV → DM → Prop
def Ex (H H' : Hp) : Prop := ∀ a o, H a = some o → H' a = some o
theorem Ex.refl (H : Hp) : Ex H H := fun _ _ h => h
theorem Ex.trans {H H1 H2 : Hp} (a : Ex H H1) (b : Ex H1 H2) : Ex H H2 := fun x o h => b x o (a x o h)
theorem Ex.new {H : Hp} {p : Addr} {o : HO} (h : H p = none) : Ex H (upd H p o) := fun a u e => by
  rw [upd_ne (ne_of_none e h)]
  exact e
/-- known in G, whatever changes at p, that G does not know -/
theorem Ex.mut {G H : Hp} {p : Addr} {o : HO} (e : Ex G H) (h : G p = none) : Ex G (upd H p o) := fun a u ha => by
  rw [upd_ne (ne_of_none ha h)]
  exact e a u ha
theorem Ex.both {G H : Hp} {p : Addr} {o : HO} (e : Ex G H) : Ex (upd G p o) (upd H p o) := fun a u ha => by
  by_cases h : a = p
  · subst h; rw [upd_same] at ha ⊢; exact ha
  · rw [upd_ne h] at ha ⊢; exact e a u ha
mutual
/-- strict: all lists and tuples are tracked -/
inductive Dr (G : Hp) : V → PyData → Prop
  | non : Dr G .non .none
  | bl (b : Bool) : Dr G (.bl b) (.bool b)
  | int (i : Int) : Dr G (.int i) (.int i)
  | str (x : Str) : Dr G (.str x) (.str x)
  | lst {a : Addr} {xs : List V} {ds : List PyData} : G a = some (.lst xs) → DrAll G xs ds → Dr G (.ref a) (.list ds)
  | tup {a : Addr} {xs : List V} {ds : List PyData} : G a = some (.tup xs) → DrAll G xs ds → Dr G (.ref a) (.tuple ds)
inductive DrAll (G : Hp) : List V → List PyData → Prop
  | nil : DrAll G [] []
  | cons {v : V} {vs : List V} {d : PyData} {ds : List PyData} : Dr G v d → DrAll G vs ds → DrAll G (v :: vs) (d :: ds)
end
mutual
theorem Dr.mono {G G' : Hp} (e : Ex G G') : ∀ {v : V} {d : PyData}, Dr G v d → Dr G' v d
  | _, _, .non => .non
  | _, _, .bl b => .bl b
  | _, _, .int i => .int i
  | _, _, .str x => .str x
  | _, _, .lst h hs => .lst (e _ _ h) (DrAll.mono e hs)
  | _, _, .tup h hs => .tup (e _ _ h) (DrAll.mono e hs)
theorem DrAll.mono {G G' : Hp} (e : Ex G G') : ∀ {v : List V} {d : List PyData}, DrAll G v d → DrAll G' v d
  | _, _, .nil => .nil
  | _, _, .cons h hs => .cons (Dr.mono e h) (DrAll.mono e hs)
end
theorem Rd.ex {H H' : Hp} {a : Addr} {u : HO} (e : Ex H H') (h : Rd H a u) : Rd H' a u := by
  rcases h with h | ⟨o, h⟩
  · exact .inl (e a _ h)
  · exact .inr ⟨o, e a _ h⟩
theorem SqL.ex {K : PySem.W.Frag} {H H' : Hp} {a : Addr} {xs : List V} (e : Ex H H') (h : SqL K H a xs) : SqL K H' a xs := by
  rcases h with h | h
  · exact .inl (Rd.ex e h)
  · exact .inr h
theorem SqT.ex {K : PySem.W.Frag} {H H' : Hp} {a : Addr} {xs : List V} (e : Ex H H') (h : SqT K H a xs) : SqT K H' a xs := by
  rcases h with h | h
  · exact .inl (Rd.ex e h)
  · exact .inr h
mutual
theorem Dp.ex {K : PySem.W.Frag} {G G' : Hp} (e : Ex G G') : ∀ {v : V} {d : PyData}, Dp K G v d → Dp K G' v d
  | _, _, .non => .non
  | _, _, .bl b => .bl b
  | _, _, .int i => .int i
  | _, _, .str x => .str x
  | _, _, .lst h hs => .lst (SqL.ex e h) (DpAll.ex e hs)
  | _, _, .tup h hs => .tup (SqT.ex e h) (DpAll.ex e hs)
theorem DpAll.ex {K : PySem.W.Frag} {G G' : Hp} (e : Ex G G') : ∀ {v : List V} {d : List PyData}, DpAll K G v d → DpAll K G' v d
  | _, _, .nil => .nil
  | _, _, .cons h hs => .cons (Dp.ex e h) (DpAll.ex e hs)
end
mutual
theorem Dr.dp {K : PySem.W.Frag} {G : Hp} : ∀ {v : V} {d : PyData}, Dr G v d → Dp K G v d
  | _, _, .non => .non
  | _, _, .bl b => .bl b
  | _, _, .int i => .int i
  | _, _, .str x => .str x
  | _, _, .lst h hs => .lst (SqL.of h) (DrAll.dp hs)
  | _, _, .tup h hs => .tup (SqT.of h) (DrAll.dp hs)
theorem DrAll.dp {K : PySem.W.Frag} {G : Hp} : ∀ {v : List V} {d : List PyData}, DrAll G v d → DpAll K G v d
  | _, _, .nil => .nil
  | _, _, .cons h hs => .cons (Dr.dp h) (DrAll.dp hs)
end
def RepV (K : PySem.W.Frag) (G : Hp) : DV → V → Prop
  | .d x, u => Dr G u x
  | .k x, u => Dp K G u x
  | .ob a, u => u = .ref a
  | .v x, u => u = x
theorem RepV.ex {K : PySem.W.Frag} {G G' : Hp} (e : Ex G G') {x : DV} {u : V} (h : RepV K G x u) : RepV K G' x u := by
  cases x with
  | d x => exact Dr.mono e h
  | k x => exact Dp.ex e h
  | ob a => exact h
  | v x => exact h
abbrev RepL (K : PySem.W.Frag) (G : Hp) : List DV → List V → Prop := Paired (RepV K G)
theorem RepL.ex {K : PySem.W.Frag} {G G' : Hp} (e : Ex G G') {xs : List DV} {us : List V} (h : RepL K G xs us) : RepL K G' xs us := Paired.mapP h fun _ _ q => RepV.ex e q
abbrev RepK {κ : Type} (K : PySem.W.Frag) (G : Hp) : List (κ × DV) → List (κ × V) → Prop := Paired fun p q => p.1 = q.1 ∧ RepV K G p.2 q.2
theorem RepK.ex {κ : Type} {K : PySem.W.Frag} {G G' : Hp} (e : Ex G G') {xs : List (κ × DV)} {us : List (κ × V)} (h : RepK K G xs us) : RepK K G' xs us := Paired.mapP h fun _ _ q => ⟨q.1, RepV.ex e q.2⟩
theorem paired_len {α β : Type} {F : α → β → Prop} : ∀ {l : List α} {m : List β}, Paired F l m → l.length = m.length
  | _, _, .nil => rfl
  | _, _, .cons _ t => congrArg (· + 1) (paired_len t)
theorem paired_at {α β : Type} {F : α → β → Prop} : ∀ {l : List α} {m : List β} {i : Nat} {x : α}, Paired F l m → l[i]? = some x → ∃ y, m[i]? = some y ∧ F x y
  | _, _, _, _, .nil, e => by simp at e
  | _, _, 0, _, .cons r _, e => by simp at e; subst e; exact ⟨_, rfl, r⟩
  | _, _, i + 1, x, .cons _ t, e => by
    obtain ⟨u, h1, h2⟩ := paired_at (i := i) (x := x) t (by simpa using e)
    exact ⟨u, by simpa using h1, h2⟩
theorem paired_at' {α β : Type} {F : α → β → Prop} : ∀ {l : List α} {m : List β} {i : Nat} {y : β}, Paired F l m → m[i]? = some y → ∃ x, l[i]? = some x ∧ F x y
  | _, _, _, _, .nil, e => by simp at e
  | _, _, 0, _, .cons r _, e => by simp at e; subst e; exact ⟨_, rfl, r⟩
  | _, _, i + 1, x, .cons _ t, e => by
    obtain ⟨u, h1, h2⟩ := paired_at' (i := i) (y := x) t (by simpa using e)
    exact ⟨u, by simpa using h1, h2⟩
theorem paired_app {α β : Type} {F : α → β → Prop} : ∀ {l l' : List α} {m m' : List β}, Paired F l m → Paired F l' m' → Paired F (l ++ l') (m ++ m')
  | _, _, _, _, .nil, h => h
  | _, _, _, _, .cons r t, h => .cons r (paired_app t h)
theorem paired_take {α β : Type} {F : α → β → Prop} : ∀ (n : Nat) {l : List α} {m : List β}, Paired F l m → Paired F (l.take n) (m.take n)
  | 0, _, _, _ => .nil
  | _ + 1, _, _, .nil => .nil
  | n + 1, _, _, .cons r t => .cons r (paired_take n t)
theorem paired_drop {α β : Type} {F : α → β → Prop} : ∀ (n : Nat) {l : List α} {m : List β}, Paired F l m → Paired F (l.drop n) (m.drop n)
  | 0, _, _, h => h
  | _ + 1, _, _, .nil => .nil
  | n + 1, _, _, .cons _ t => paired_drop n t
theorem paired_set {α β : Type} {F : α → β → Prop} {x : α} {y : β} (h : F x y) : ∀ (n : Nat) {l : List α} {m : List β}, Paired F l m → Paired F (l.set n x) (m.set n y)
  | _, _, _, .nil => .nil
  | 0, _, _, .cons _ t => .cons h t
  | n + 1, _, _, .cons r t => .cons r (paired_set h n t)
theorem paired_erase {α β : Type} {F : α → β → Prop} : ∀ (n : Nat) {l : List α} {m : List β}, Paired F l m → Paired F (l.eraseIdx n) (m.eraseIdx n)
  | _, _, _, .nil => .nil
  | 0, _, _, .cons _ t => t
  | n + 1, _, _, .cons r t => .cons r (paired_erase n t)
theorem DrAll.rep {K : PySem.W.Frag} {G : Hp} : ∀ {vs : List V} {ds : List PyData}, DrAll G vs ds → RepL K G (ds.map DV.d) vs
  | _, _, .nil => .nil
  | _, _, .cons h t => .cons h (DrAll.rep t)
theorem DrAll.of {K : PySem.W.Frag} {G : Hp} : ∀ {ds : List PyData} {vs : List V}, RepL K G (ds.map DV.d) vs → DrAll G vs ds
  | [], _, .nil => .nil
  | _ :: _, _, .cons h t => .cons h (DrAll.of t)
theorem DrAll.len {G : Hp} : ∀ {vs : List V} {ds : List PyData}, DrAll G vs ds → vs.length = ds.length
  | _, _, .nil => rfl
  | _, _, .cons _ t => congrArg (· + 1) (DrAll.len t)
theorem DpAll.len {K : PySem.W.Frag} {G : Hp} : ∀ {vs : List V} {ds : List PyData}, DpAll K G vs ds → vs.length = ds.length
  | _, _, .nil => rfl
  | _, _, .cons _ t => congrArg (· + 1) (DpAll.len t)
theorem DrAll.at {G : Hp} : ∀ {vs : List V} {ds : List PyData} {i : Nat} {d : PyData}, DrAll G vs ds → ds[i]? = some d → ∃ v, vs[i]? = some v ∧ Dr G v d
  | _, _, _, _, .nil, e => by simp at e
  | _, _, 0, _, .cons r _, e => by simp at e; subst e; exact ⟨_, rfl, r⟩
  | _, _, i + 1, x, .cons _ t, e => by
    obtain ⟨u, h1, h2⟩ := DrAll.at (i := i) (d := x) t (by simpa using e)
    exact ⟨u, by simpa using h1, h2⟩
theorem DpAll.at {K : PySem.W.Frag} {G : Hp} : ∀ {vs : List V} {ds : List PyData} {i : Nat} {d : PyData}, DpAll K G vs ds → ds[i]? = some d → ∃ v, vs[i]? = some v ∧ Dp K G v d
  | _, _, _, _, .nil, e => by simp at e
  | _, _, 0, _, .cons r _, e => by simp at e; subst e; exact ⟨_, rfl, r⟩
  | _, _, i + 1, x, .cons _ t, e => by
    obtain ⟨u, h1, h2⟩ := DpAll.at (i := i) (d := x) t (by simpa using e)
    exact ⟨u, by simpa using h1, h2⟩
theorem DrAll.app {G : Hp} : ∀ {vs vs' : List V} {ds ds' : List PyData}, DrAll G vs ds → DrAll G vs' ds' → DrAll G (vs ++ vs') (ds ++ ds')
  | _, _, _, _, .nil, h => h
  | _, _, _, _, .cons r t, h => .cons r (DrAll.app t h)
theorem DrAll.take {G : Hp} : ∀ (n : Nat) {l : List V} {m : List PyData}, DrAll G l m → DrAll G (l.take n) (m.take n)
  | 0, _, _, _ => .nil
  | _ + 1, _, _, .nil => .nil
  | n + 1, _, _, .cons r t => .cons r (DrAll.take n t)
theorem DrAll.drop {G : Hp} : ∀ (n : Nat) {l : List V} {m : List PyData}, DrAll G l m → DrAll G (l.drop n) (m.drop n)
  | 0, _, _, h => h
  | _ + 1, _, _, .nil => .nil
  | n + 1, _, _, .cons _ t => DrAll.drop n t
theorem DpAll.take {K : PySem.W.Frag} {G : Hp} : ∀ (n : Nat) {l : List V} {m : List PyData}, DpAll K G l m → DpAll K G (l.take n) (m.take n)
  | 0, _, _, _ => .nil
  | _ + 1, _, _, .nil => .nil
  | n + 1, _, _, .cons r t => .cons r (DpAll.take n t)
theorem DpAll.drop {K : PySem.W.Frag} {G : Hp} : ∀ (n : Nat) {l : List V} {m : List PyData}, DpAll K G l m → DpAll K G (l.drop n) (m.drop n)
  | 0, _, _, h => h
  | _ + 1, _, _, .nil => .nil
  | n + 1, _, _, .cons _ t => DpAll.drop n t

/-- a script's number, however divided -/
def GenOk (n : Int) : Prop := 0 ≤ n
def RepO (K : PySem.W.Frag) (G H : Hp) (a : Addr) : MO → Prop
  | .lst xs => ∃ vs, H a = some (.lst vs) ∧ RepL K G xs vs
  | .dK kvs => ∃ vs, H a = some (.dK vs) ∧ RepK K G kvs vs
  | .dT kvs => ∃ vs, H a = some (.dT vs) ∧ RepK K G kvs vs
  | .ins C fs => ∃ dx vs, H a = some (.ins C dx vs) ∧ RepK K G fs vs
  | .xd fs => ∃ vs, H a = some (.xd vs) ∧ RepK K G fs vs
  | .tup xs => ∃ vs, H a = some (.tup vs) ∧ RepL K G xs vs
  | .genA c => ∃ s : Int, H a = some (.lst [.ref c, .int s]) ∧ 0 ≤ s ∧ s < 2 ^ 62
  | .genB => ∃ ns : List Int, H a = some (.lst (ns.map V.int)) ∧ ∀ n ∈ ns, GenOk n
theorem RepO.ex {K : PySem.W.Frag} {G G' H : Hp} {a : Addr} {o : MO} (e : Ex G G') (h : RepO K G H a o) : RepO K G' H a o := by
  cases o with
  | lst xs => obtain ⟨vs, h1, h2⟩ := h; exact ⟨vs, h1, RepL.ex e h2⟩
  | dK xs => obtain ⟨vs, h1, h2⟩ := h; exact ⟨vs, h1, RepK.ex e h2⟩
  | dT xs => obtain ⟨vs, h1, h2⟩ := h; exact ⟨vs, h1, RepK.ex e h2⟩
  | ins C xs => obtain ⟨dx, vs, h1, h2⟩ := h; exact ⟨dx, vs, h1, RepK.ex e h2⟩
  | xd xs => obtain ⟨vs, h1, h2⟩ := h; exact ⟨vs, h1, RepK.ex e h2⟩
  | tup xs => obtain ⟨vs, h1, h2⟩ := h; exact ⟨vs, h1, RepL.ex e h2⟩
  | genA c => exact h
  | genB => exact h
theorem RepO.there {K : PySem.W.Frag} {G H : Hp} {a : Addr} {o : MO} (h : RepO K G H a o) : ∃ u, H a = some u := by
  cases o with
  | lst xs => obtain ⟨vs, h1, h2⟩ := h; exact ⟨_, h1⟩
  | dK xs => obtain ⟨vs, h1, h2⟩ := h; exact ⟨_, h1⟩
  | dT xs => obtain ⟨vs, h1, h2⟩ := h; exact ⟨_, h1⟩
  | ins C xs => obtain ⟨dx, vs, h1, h2⟩ := h; exact ⟨_, h1⟩
  | xd xs => obtain ⟨vs, h1, h2⟩ := h; exact ⟨_, h1⟩
  | tup xs => obtain ⟨vs, h1, h2⟩ := h; exact ⟨_, h1⟩
  | genA c => obtain ⟨s, h1, _⟩ := h; exact ⟨_, h1⟩
  | genB => obtain ⟨s, h1, _⟩ := h; exact ⟨_, h1⟩
/-- it looks at its own place alone -/
theorem RepO.at {K : PySem.W.Frag} {G H H' : Hp} {a : Addr} {o : MO} (h : RepO K G H a o) (e : H' a = H a) : RepO K G H' a o := by
  cases o with
  | lst xs => obtain ⟨vs, h1, h2⟩ := h; exact ⟨vs, e.trans h1, h2⟩
  | dK xs => obtain ⟨vs, h1, h2⟩ := h; exact ⟨vs, e.trans h1, h2⟩
  | dT xs => obtain ⟨vs, h1, h2⟩ := h; exact ⟨vs, e.trans h1, h2⟩
  | ins C xs => obtain ⟨dx, vs, h1, h2⟩ := h; exact ⟨dx, vs, e.trans h1, h2⟩
  | xd xs => obtain ⟨vs, h1, h2⟩ := h; exact ⟨vs, e.trans h1, h2⟩
  | tup xs => obtain ⟨vs, h1, h2⟩ := h; exact ⟨vs, e.trans h1, h2⟩
  | genA c => obtain ⟨s, h1, h2⟩ := h; exact ⟨s, e.trans h1, h2⟩
  | genB => obtain ⟨s, h1, h2⟩ := h; exact ⟨s, e.trans h1, h2⟩
def mset (M : DM) (a : Addr) (o : Option MO) : DM := fun b => if b = a then o else M b
theorem mset_same {M : DM} {a : Addr} {o : Option MO} : mset M a o a = o := by unfold mset; rw [if_pos rfl]
theorem mset_ne {M : DM} {a b : Addr} {o : Option MO} (h : b ≠ a) : mset M a o b = M b := by unfold mset; rw [if_neg h]
theorem mset_mset {M : DM} {a : Addr} {o u : Option MO} : mset (mset M a o) a u = mset M a u := by
  funext b; unfold mset; split <;> rfl
/-- the heap H holds the data G and the objects M, apart -/
structure RpM (K : PySem.W.Frag) (G : Hp) (M : DM) (H : Hp) : Prop where
  ex : Ex G H
  ob : ∀ a o, M a = some o → RepO K G H a o ∧ G a = none
section
variable {K : PySem.W.Frag} {G H : Hp} {M : DM} {p a : Addr} {o : MO} {u : HO}
theorem RpM.mnone (R : RpM K G M H) (h : H p = none) : M p = none := by
  cases e : M p with
  | none => rfl
  | some o =>
    obtain ⟨u, q⟩ := (R.ob p o e).1.there
    rw [h] at q; cases q
theorem RpM.gnone (R : RpM K G M H) (h : H p = none) : G p = none := by
  cases e : G p with
  | none => rfl
  | some o => rw [R.ex p o e] at h; cases h
/-- new data: a list, a tuple, laid at p -/
theorem RpM.lay (R : RpM K G M H) (h : H p = none) : RpM K (upd G p u) M (upd H p u) ∧ Ex G (upd G p u) := by
  have g := R.gnone h
  have e : Ex G (upd G p u) := Ex.new g
  refine ⟨⟨R.ex.both, fun a o q => ?_⟩, e⟩
  obtain ⟨h1, h2⟩ := R.ob a o q
  have ne : a ≠ p := fun z => by subst z; rw [R.mnone h] at q; cases q
  exact ⟨(h1.ex e).at (upd_ne ne), by rw [upd_ne ne]; exact h2⟩
/-- the heap grows at p, G and M as they were -/
theorem RpM.grow (R : RpM K G M H) (h : H p = none) : RpM K G M (upd H p u) := by
  refine ⟨R.ex.trans (Ex.new h), fun a o q => ?_⟩
  obtain ⟨h1, h2⟩ := R.ob a o q
  have ne : a ≠ p := fun z => by subst z; rw [R.mnone h] at q; cases q
  exact ⟨h1.at (upd_ne ne), h2⟩
/-- an object of M is written (or laid) -/
theorem RpM.put (R : RpM K G M H) (g : G p = none) (new : RepO K G (upd H p u) p o) : RpM K G (mset M p (some o)) (upd H p u) := by
  refine ⟨R.ex.mut g, fun a o' q => ?_⟩
  by_cases ne : a = p
  · subst ne
    rw [mset_same] at q
    cases q
    exact ⟨new, g⟩
  · rw [mset_ne ne] at q
    obtain ⟨h1, h2⟩ := R.ob a o' q
    exact ⟨h1.at (upd_ne ne), h2⟩
theorem RpM.sub {M' : DM} (R : RpM K G M H) (h : ∀ a o, M' a = some o → M a = some o) : RpM K G M' H := ⟨R.ex, fun a o q => R.ob a o (h a o q)⟩
end
def RepS (K : PySem.W.Frag) (G : Hp) : Option DV → Option V → Prop
  | none, _ => True
  | some x, some v => RepV K G x v
  | some _, none => False
abbrev SlP (K : PySem.W.Frag) (G : Hp) : List (Option DV) → L2.St → Prop := Paired (RepS K G)
theorem RepS.ex {K : PySem.W.Frag} {G G' : Hp} (e : Ex G G') {x : Option DV} {v : Option V} (q : RepS K G x v) : RepS K G' x v := by
  cases x with
  | none => trivial
  | some x => cases v with
    | none => exact q
    | some v => exact RepV.ex e q
def XQ (K : PySem.W.Frag) (G : Hp) (Z : DX) (W : WX) : Prop := ∀ C fs sl M' G' σ' H' d vs, Z C fs sl M' → Ex G G' → RpM K G' M' H' → SlP K G' sl σ' → H' d = some (.xd vs) → RepK K G' fs vs → W (.ref C) (some d) σ' H'
structure SlR (K : PySem.W.Frag) (W : WX) (G : Hp) (de : DEnv) (σ : L2.St) : Prop where
  p : SlP K G de.sl σ
  x : XQ K G de.wx W
theorem SlP.ex {K : PySem.W.Frag} {G G' : Hp} (e : Ex G G') {de : List (Option DV)} {σ : L2.St} (h : SlP K G de σ) : SlP K G' de σ := Paired.mapP h fun _ _ q => RepS.ex e q
theorem XQ.ex {K : PySem.W.Frag} {G G' : Hp} {Z : DX} {W : WX} (e : Ex G G') (h : XQ K G Z W) : XQ K G' Z W := fun C fs sl M' G2 σ' H' d vs q e2 R S hd r => h C fs sl M' G2 σ' H' d vs q (e.trans e2) R S hd r
theorem SlR.ex {K : PySem.W.Frag} {W : WX} {G G' : Hp} (e : Ex G G') {de : DEnv} {σ : L2.St} (h : SlR K W G de σ) : SlR K W G' de σ := ⟨h.p.ex e, h.x.ex e⟩

/-! ### lifting -/
abbrev DE := DEnv → DM → DQ → Prop
abbrev DT := DEnv → DM → (Bool → DM → Prop) → Prop
abbrev DA := DEnv → DM → (List DV → DM → Prop) → Prop
/-- what is wanted of the data is wanted of the heap -/
def PQ (K : PySem.W.Frag) (G : Hp) (Qd : DQ) (Q : VK) : Prop := ∀ x M' G' H' v, Qd x M' → Ex G G' → RpM K G' M' H' → RepV K G' x v → Q v H'
theorem PQ.ex {K : PySem.W.Frag} {G G' : Hp} {Qd : DQ} {Q : VK} (e : Ex G G') (h : PQ K G Qd Q) : PQ K G' Qd Q := fun x M' G2 H' v q e2 R r => h x M' G2 H' v q (e.trans e2) R r
def LE (K : PySem.W.Frag) (W : WX) (w : DE) : TE := fun σ H Q => ∃ G de M Qd, RpM K G M H ∧ SlR K W G de σ ∧ w de M Qd ∧ PQ K G Qd Q
def LT (K : PySem.W.Frag) (W : WX) (w : DT) : TT := fun σ H Q => ∃ G de M Qd, RpM K G M H ∧ SlR K W G de σ ∧ w de M Qd ∧ ∀ b M' G' H', Qd b M' → Ex G G' → RpM K G' M' H' → Q b H'
def LA (K : PySem.W.Frag) (W : WX) (w : DA) : TA := fun σ H Q => ∃ G de M Qd, RpM K G M H ∧ SlR K W G de σ ∧ w de M Qd ∧ ∀ xs M' G' H' vs, Qd xs M' → Ex G G' → RpM K G' M' H' → RepL K G' xs vs → Q vs H'
/-- operations by values -/
abbrev D1 := DV → DM → DQ → Prop
abbrev D2 := DV → DV → DM → DQ → Prop
abbrev DC := List DV → DM → DQ → Prop
def L1 (K : PySem.W.Frag) (r : D1) : V → Hp → VK → Prop := fun v H Q => ∃ G M x Qd, RpM K G M H ∧ RepV K G x v ∧ r x M Qd ∧ PQ K G Qd Q
def L2r (K : PySem.W.Frag) (r : D2) : R2 := fun v u H Q => ∃ G M x y Qd, RpM K G M H ∧ RepV K G x v ∧ RepV K G y u ∧ r x y M Qd ∧ PQ K G Qd Q
def LC (K : PySem.W.Frag) (r : DC) : List V → Hp → VK → Prop := fun vs H Q => ∃ G M xs Qd, RpM K G M H ∧ RepL K G xs vs ∧ r xs M Qd ∧ PQ K G Qd Q
/-- a method of a built-in object: the object, the arguments -/
def LM (K : PySem.W.Frag) (r : DV → DC) : V → List V → Hp → VK → Prop := fun v vs H Q => ∃ G M x xs Qd, RpM K G M H ∧ RepV K G x v ∧ RepL K G xs vs ∧ r x xs M Qd ∧ PQ K G Qd Q
section
variable {X : Cx} {e : Expr} {t t' : TE}
theorem pe_weak (h : PE X e t) (w : ∀ σ H Q, t' σ H Q → t σ H Q) : PE X e t' := ⟨fun pins s σ H Q I q => h.run pins s σ H Q I (w σ H Q q)⟩
theorem pt_weak {t t' : TT} (h : PT X e t) (w : ∀ σ H Q, t' σ H Q → t σ H Q) : PT X e t' := ⟨fun pins s σ H Q I q => h.run pins s σ H Q I (w σ H Q q)⟩
theorem pw_weak {t t' : TT} (h : PW X e t) (w : ∀ σ H Q, t' σ H Q → t σ H Q) : PW X e t' := ⟨fun wh pins s σ H Q I q => h.run wh pins s σ H Q I (w σ H Q q)⟩
theorem pa_weak {es : List Expr} {t t' : TA} (h : PA X es t) (w : ∀ σ H Q, t' σ H Q → t σ H Q) : PA X es t' := ⟨fun pos pins s σ H Q I q => h.run pos pins s σ H Q I (w σ H Q q)⟩
theorem ps_weak {st : Stmt} {t t' : TS} (h : PS X st t) (w : ∀ D σ H, t' D σ H → t D σ H) : PS X st t' := ⟨fun pins s σ H D I q => h.run pins s σ H D I (w D σ H q)⟩
theorem pss_weak {st : List Stmt} {t t' : TS} (h : PSs X st t) (w : ∀ D σ H, t' D σ H → t D σ H) : PSs X st t' := ⟨fun pins s σ H D I q => h.run pins s σ H D I (w D σ H q)⟩
theorem pe_or2 (h : PE X e t) (h' : PE X e t') : PE X e (fun σ H Q => t σ H Q ∨ t' σ H Q) := ⟨fun pins s σ H Q I q => q.elim (h.run pins s σ H Q I) (h'.run pins s σ H Q I)⟩
theorem op_weak {f : Value → Value → Sem Value} {r r' : R2} (h : OpR X f r) (w : ∀ x y H Q, r' x y H Q → r x y H Q) : OpR X f r' := fun pins s σ H x y u v Q I rx ry q => h pins s σ H x y u v Q I rx ry (w _ _ _ _ q)
theorem un_weak {f : Value → Sem Value} {r r' : V → Hp → VK → Prop} (h : UnR X f r) (w : ∀ x H Q, r' x H Q → r x H Q) : UnR X f r' := fun pins s σ H x v Q I rx q => h pins s σ H x v Q I rx (w _ _ _ q)
theorem ix_weak {r r' : R2} (h : IxR X r) (w : ∀ x y H Q, r' x y H Q → r x y H Q) : IxR X r' := fun a b pins s σ H x y u v Q I rx ry q hs => h a b pins s σ H x y u v Q I rx ry (w _ _ _ _ q) hs
theorem call_weak {f : Value} {r r' : List V → Hp → VK → Prop} (h : CallR X f r) (w : ∀ xs H Q, r' xs H Q → r xs H Q) : CallR X f r' := fun pins s σ H xs us Q I rx q => h pins s σ H xs us Q I rx (w _ _ _ q)
theorem mt_weak {id : String} {r r' : V → List V → Hp → VK → Prop} (h : MtR X id r) (w : ∀ x xs H Q, r' x xs H Q → r x xs H Q) : MtR X id r' := fun pins s σ H x xs v us Q I rx rxs q => h pins s σ H x xs v us Q I rx rxs (w _ _ _ _ q)
end
end DL

set_option Elab.async false
set_option linter.all false
set_option maxRecDepth 100000
set_option maxHeartbeats 4000000
/-! DL2: expressions. -/
namespace DL
open PySem PySem.Spec L2
variable {W : WX}

section
variable {K : PySem.W.Frag} {G H : Hp} {M : DM} {Qd : DQ} {Q : VK} {x : DV} {v : V} {p : Addr} {vs : List V} {ds : List PyData}
theorem PQ.done (k : PQ K G Qd Q) (R : RpM K G M H) (q : Qd x M) (r : RepV K G x v) : Q v H := k x M G H v q (Ex.refl G) R r
theorem PQ.list (k : PQ K G Qd Q) (R : RpM K G M H) (hp : H p = none) (rs : DrAll G vs ds) (q : Qd (.d (.list ds)) M) : Q (.ref p) (upd H p (.lst vs)) := by
  obtain ⟨R', e⟩ := R.lay (u := .lst vs) hp
  exact k _ M _ _ _ q e R' (.lst upd_same (rs.mono e))
theorem PQ.tup (k : PQ K G Qd Q) (R : RpM K G M H) (hp : H p = none) (rs : DrAll G vs ds) (q : Qd (.d (.tuple ds)) M) : Q (.ref p) (upd H p (.tup vs)) := by
  obtain ⟨R', e⟩ := R.lay (u := .tup vs) hp
  exact k _ M _ _ _ q e R' (.tup upd_same (rs.mono e))
theorem PQ.newL {xs : List DV} (k : PQ K G Qd Q) (R : RpM K G M H) (hp : H p = none) (rs : RepL K G xs vs) (q : ∀ p, M p = none → Qd (.ob p) (mset M p (some (.lst xs)))) : Q (.ref p) (upd H p (.lst vs)) :=
  k _ _ G _ _ (q p (R.mnone hp)) (Ex.refl G) (R.put (R.gnone hp) ⟨vs, upd_same, rs⟩) rfl
theorem PQ.put {a : Addr} {o : MO} {u : HO} (k : PQ K G Qd Q) (R : RpM K G M H) (g : G a = none) (new : RepO K G (upd H a u) a o) (q : Qd x (mset M a (some o))) (r : RepV K G x v) : Q v (upd H a u) :=
  k _ _ G _ _ q (Ex.refl G) (R.put g new) r
end

/-! ### names, constants -/
def slotL : List (Option DV) → Nat → Option DV
  | [], _ => none
  | o :: _, 0 => o
  | _ :: r, n + 1 => slotL r n
def slot (de : DEnv) (i : Nat) : Option DV := slotL de.sl i
theorem slot_get : ∀ {de : List (Option DV)} {i : Nat} {x : DV}, slotL de i = some x → de[i]? = some (some x)
  | [], _, _, h => by cases h
  | _ :: _, 0, _, h => by simpa [slotL] using h
  | _ :: r, n + 1, _, h => by simpa using slot_get (de := r) (i := n) h
def wVar (i : Nat) : DE := fun de M Q => match slot de i with
  | some x => Q x M
  | none => False
def wC (x : DV) : DE := fun _ M Q => Q x M
section
variable {X : Cx}
theorem SlR.at {K : PySem.W.Frag} {W : WX} {G : Hp} {de : DEnv} {σ : L2.St} {i : Nat} {x : DV} (S : SlR K W G de σ) (h : slot de i = some x) : ∃ v, σ[i]? = some (some v) ∧ RepV K G x v := by
  obtain ⟨o, h1, h2⟩ := paired_at S.p (slot_get h)
  cases o with
  | none => exact h2.elim
  | some v => exact ⟨v, h1, h2⟩
theorem dv (i : Nat) {x : Str} {pos : Pos} (hN : X.N[i]? = some x := by rfl) (hv : Vis X.env.scope x := by first | exact Or.inl rfl | exact Or.inr (Or.inl rfl) | exact Or.inr (Or.inr rfl)) (hd : (x == ("__debug__" : Str)) = false := by decide)
    (hcd : (x == ("__classdict__" : Str)) = false := by decide) : PE X (.Name x pos) (LE X.K W (wVar i)) := pe_weak (pv i hN hv hd hcd) fun σ H Q h => by
  obtain ⟨G, de, M, Qd, R, S, w, k⟩ := h
  unfold wVar at w
  split at w
  · rename_i y e
    obtain ⟨v, h1, h2⟩ := S.at e
    exact ⟨v, h1, k.done R w h2⟩
  · exact w.elim
theorem dc {e : Expr} {v : V} {x : DV} (h : PE X e (tC v)) (r : ∀ G, RepV X.K G x v) : PE X e (LE X.K W (wC x)) := pe_weak h fun σ H Q h => by
  obtain ⟨G, de, M, Qd, R, S, w, k⟩ := h
  exact k.done R w (r G)
theorem dint {i j pos} : PE X (.Constant (.int i) j pos) (LE X.K W (wC (.d (.int i)))) := dc pe_int fun _ => .int i
theorem dstr {i j pos} : PE X (.Constant (.str i) j pos) (LE X.K W (wC (.d (.str i)))) := dc pe_str fun _ => .str i
theorem dbl {i j pos} : PE X (.Constant (.bool i) j pos) (LE X.K W (wC (.d (.bool i)))) := dc pe_bl fun _ => .bl i
theorem dnon {j pos} : PE X (.Constant .none j pos) (LE X.K W (wC (.d .none))) := dc pe_non fun _ => .non
end

/-! ### operations -/
def wOp (r : D2) (wa wb : DE) : DE := fun de M Q => wa de M fun x M1 => wb de M1 fun y M2 => r x y M2 Q
def wUn (r : D1) (wa : DE) : DE := fun de M Q => wa de M fun x M1 => r x M1 Q
theorem le_op {K : PySem.W.Frag} {r : D2} {wa wb : DE} (σ : L2.St) (H : Hp) (Q : VK) (h : LE K W (wOp r wa wb) σ H Q) : tOp (L2r K r) (LE K W wa) (LE K W wb) σ H Q := by
  obtain ⟨G, de, M, Qd, R, S, w, k⟩ := h
  exact ⟨G, de, M, _, R, S, w, fun x M1 G1 H1 v q e1 R1 r1 => ⟨G1, de, M1, _, R1, S.ex e1, q, fun y M2 G2 H2 u q2 e2 R2 r2 => ⟨G2, M2, x, y, Qd, R2, r1.ex e2, r2, q2, k.ex (e1.trans e2)⟩⟩⟩
theorem le_un {K : PySem.W.Frag} {r : D1} {wa : DE} (σ : L2.St) (H : Hp) (Q : VK) (h : LE K W (wUn r wa) σ H Q) : tUn (L1 K r) (LE K W wa) σ H Q := by
  obtain ⟨G, de, M, Qd, R, S, w, k⟩ := h
  exact ⟨G, de, M, _, R, S, w, fun x M1 G1 H1 v q e1 R1 r1 => ⟨G1, M1, x, Qd, R1, r1, q, k.ex e1⟩⟩
section
variable {X : Cx} {a b c : Expr} {pos : Pos} {wa wb wc : DE}
theorem de_op {op : Operator} {r : D2} (ho : OpR X (binaryOp op) (L2r X.K r)) (ha : PE X a (LE X.K W wa)) (hb : PE X b (LE X.K W wb)) : PE X (.BinOp a op b pos) (LE X.K W (wOp r wa wb)) := pe_weak (pe_op ho ha hb) le_op
theorem de_un {op : UnaryOp} {r : D1} (ho : UnR X (unaryOp op) (L1 X.K r)) (ha : PE X a (LE X.K W wa)) : PE X (.UnaryOp op a pos) (LE X.K W (wUn r wa)) := pe_weak (pe_un ho ha) le_un
theorem de_cmp {op : CmpOp} {r : D2} (ho : OpR X (compareOp op) (L2r X.K r)) (ha : PE X a (LE X.K W wa)) (hb : PE X b (LE X.K W wb)) (hm : behindInMarks op b = false := by first | exact nomark _ | rfl) : PE X (.Compare a [op] [b] pos) (LE X.K W (wOp r wa wb)) :=
  pe_weak (pe_cmpR ho ha hb hm) le_op
end
/-- a test that is a truth value -/
def wB (w : DE) : DT := fun de M Q => w de M fun x M1 => match x with
  | .d (.bool b) => Q b M1
  | _ => False
section
variable {X : Cx} {a b c : Expr} {pos : Pos} {wa wb wc : DE}
theorem wB_of {K : PySem.W.Frag} {w : DE} {σ : L2.St} {H : Hp} {Q : Bool → Hp → Prop} (h : LT K W (wB w) σ H Q) : LE K W w σ H fun x H' => ∃ k, x = .bl k ∧ Q k H' := by
  obtain ⟨G, de, M, Qd, R, S, w, k⟩ := h
  refine ⟨G, de, M, _, R, S, w, fun x M1 G1 H1 v q e1 R1 r1 => ?_⟩
  split at q
  · cases r1
    exact ⟨_, rfl, k _ _ _ _ q e1 R1⟩
  · exact q.elim
theorem dt_cmp {op : CmpOp} {r : D2} (ho : OpR X (compareOp op) (L2r X.K r)) (ha : PE X a (LE X.K W wa)) (hb : PE X b (LE X.K W wb)) (hm : behindInMarks op b = false := by first | exact nomark _ | rfl) : PT X (.Compare a [op] [b] pos) (LT X.K W (wB (wOp r wa wb))) :=
  pt_weak (pt_cmpR ho ha hb hm) fun σ H Q h => le_op σ H _ (wB_of h)
end

/-! ### arithmetic -/
def MulOk (i j : Int) : Prop := CMul i j ∨ CMulW i j
def DivOk (j : Int) : Prop := 0 < j ∧ j.natAbs.log2 < 9000
def opAdd : D2 := fun x y M Q => match x, y with
  | .d (.int i), .d (.int j) => Q (.d (.int (i + j))) M
  | .d (.str a), .d (.str b) => a.length + b.length ≤ sizeLine ∧ Q (.d (.str (a ++ b))) M
  | .d (.list a), .d (.list b) => a.length + b.length ≤ sizeLine ∧ Q (.d (.list (a ++ b))) M
  | .d (.tuple a), .d (.tuple b) => a.length + b.length ≤ sizeLine ∧ Q (.d (.tuple (a ++ b))) M
  | _, _ => False
def opSub : D2 := fun x y M Q => match x, y with
  | .d (.int i), .d (.int j) => Q (.d (.int (i - j))) M
  | _, _ => False
def opMul : D2 := fun x y M Q => match x, y with
  | .d (.int i), .d (.int j) => MulOk i j ∧ Q (.d (.int (i * j))) M
  | .d (.str z), .d (.int j) => PySem.MulOk z j ∧ Q (.d (.str (Txt.mul z j))) M
  | _, _ => False
def opFdiv : D2 := fun x y M Q => match x, y with
  | .d (.int i), .d (.int j) => DivOk j ∧ Q (.d (.int (i / j))) M
  | _, _ => False
def opMod : D2 := fun x y M Q => match x, y with
  | .d (.int i), .d (.int j) => 0 < j ∧ Q (.d (.int (i % j))) M
  | _, _ => False
def opPow : D2 := fun x y M Q => match x, y with
  | .d (.int i), .d (.int j) => CPow i j ∧ Q (.d (.int (i ^ j.toNat))) M
  | _, _ => False
def opShl : D2 := fun x y M Q => match x, y with
  | .d (.int i), .d (.int j) => CPow i j ∧ Q (.d (.int (i * 2 ^ j.toNat))) M
  | _, _ => False
def opShr : D2 := fun x y M Q => match x, y with
  | .d (.int i), .d (.int j) => 0 ≤ j ∧ Q (.d (.int (i / 2 ^ j.toNat))) M
  | _, _ => False
def opAnd : D2 := fun x y M Q => match x, y with
  | .d (.int i), .d (.int j) => Q (.d (.int (Builtin.bitAnd i j))) M
  | _, _ => False
def opOr : D2 := fun x y M Q => match x, y with
  | .d (.int i), .d (.int j) => Q (.d (.int (Builtin.bitOr i j))) M
  | _, _ => False
def opXor : D2 := fun x y M Q => match x, y with
  | .d (.int i), .d (.int j) => Q (.d (.int (Builtin.bitXor i j))) M
  | _, _ => False
def opNeg : D1 := fun x M Q => match x with
  | .d (.int i) => Q (.d (.int (-i))) M
  | _ => False
section
variable {X : Cx}
/-- two ints, under C -/
theorem op_II {f : Value → Value → Sem Value} {C : Int → Int → Prop} {g : Int → Int → Int} {r : D2} (h : OpR X f (rI C fun i j => .int (g i j)))
    (hr : ∀ x y M Q, r x y M Q → ∃ i j, x = .d (.int i) ∧ y = .d (.int j) ∧ C i j ∧ Q (.d (.int (g i j))) M) : OpR X f (L2r X.K r) := op_weak h fun x y H Q q => by
  obtain ⟨G, M, dx, dy, Qd, R, rx, ry, q, k⟩ := q
  obtain ⟨i, j, rfl, rfl, hc, q⟩ := hr _ _ _ _ q
  cases rx
  cases ry
  exact ⟨i, j, rfl, rfl, hc, k.done R q (.int _)⟩
theorem ri0 {f : Value → Value → Sem Value} {g : Int → Int → V} (h : OpR X f (rI0 g)) : OpR X f (rI (fun _ _ => True) g) := op_weak h fun x y H Q ⟨i, j, e1, e2, _, q⟩ => ⟨i, j, e1, e2, q⟩
theorem riC {f : Value → Value → Sem Value} {C C' : Int → Int → Prop} {g : Int → Int → V} (h : OpR X f (rI C g)) (hc : ∀ i j, C' i j → C i j) : OpR X f (rI C' g) := op_weak h fun x y H Q ⟨i, j, e1, e2, c, q⟩ => ⟨i, j, e1, e2, hc i j c, q⟩
theorem o_sub : OpR X (binaryOp .Sub) (L2r X.K opSub) := op_II (ri0 op_sub) fun x y M Q q => by
  unfold opSub at q; split at q
  · exact ⟨_, _, rfl, rfl, trivial, q⟩
  · exact q.elim
theorem o_fdiv : OpR X (binaryOp .FloorDiv) (L2r X.K opFdiv) := op_II (riC (C' := fun _ j => DivOk j) op_fdivW fun _ _ h => h) fun x y M Q q => by
  unfold opFdiv at q; split at q
  · exact ⟨_, _, rfl, rfl, q.1, q.2⟩
  · exact q.elim
theorem o_mod : OpR X (binaryOp .Mod) (L2r X.K opMod) := op_II op_mod fun x y M Q q => by
  unfold opMod at q; split at q
  · exact ⟨_, _, rfl, rfl, q.1, q.2⟩
  · exact q.elim
theorem o_pow : OpR X (binaryOp .Pow) (L2r X.K opPow) := op_II op_pow fun x y M Q q => by
  unfold opPow at q; split at q
  · exact ⟨_, _, rfl, rfl, q.1, q.2⟩
  · exact q.elim
theorem o_shl : OpR X (binaryOp .LShift) (L2r X.K opShl) := op_II op_shl fun x y M Q q => by
  unfold opShl at q; split at q
  · exact ⟨_, _, rfl, rfl, q.1, q.2⟩
  · exact q.elim
theorem o_shr : OpR X (binaryOp .RShift) (L2r X.K opShr) := op_II op_shr fun x y M Q q => by
  unfold opShr at q; split at q
  · exact ⟨_, _, rfl, rfl, q.1, q.2⟩
  · exact q.elim
theorem o_and : OpR X (binaryOp .BitAnd) (L2r X.K opAnd) := op_II (ri0 op_and) fun x y M Q q => by
  unfold opAnd at q; split at q
  · exact ⟨_, _, rfl, rfl, trivial, q⟩
  · exact q.elim
theorem o_or : OpR X (binaryOp .BitOr) (L2r X.K opOr) := op_II (ri0 op_or) fun x y M Q q => by
  unfold opOr at q; split at q
  · exact ⟨_, _, rfl, rfl, trivial, q⟩
  · exact q.elim
theorem o_xor : OpR X (binaryOp .BitXor) (L2r X.K opXor) := op_II (ri0 op_xor) fun x y M Q q => by
  unfold opXor at q; split at q
  · exact ⟨_, _, rfl, rfl, trivial, q⟩
  · exact q.elim
theorem o_neg : UnR X (unaryOp .USub) (L1 X.K opNeg) := un_weak un_neg fun x H Q q => by
  obtain ⟨G, M, dx, Qd, R, rx, q, k⟩ := q
  unfold opNeg at q; split at q
  · cases rx
    exact ⟨_, rfl, k.done R q (.int _)⟩
  · exact q.elim
theorem o_add : OpR X (binaryOp .Add) (L2r X.K opAdd) := op_weak (op_add.or (op_add_str.or (op_cat.or op_catA))) fun x y H Q q => by
  obtain ⟨G, M, dx, dy, Qd, R, rx, ry, q, k⟩ := q
  unfold opAdd at q; split at q
  · cases rx; cases ry
    exact .inl ⟨_, _, rfl, rfl, k.done R q (.int _)⟩
  · cases rx; cases ry
    exact .inr (.inl ⟨_, _, rfl, rfl, q.1, k.done R q.2 (.str _)⟩)
  · cases rx with
    | lst h hs => cases ry with
      | lst h' hs' =>
        refine .inr (.inr (.inl ⟨_, _, _, _, rfl, rfl, R.ex _ _ h, R.ex _ _ h', by rw [hs.len, hs'.len]; exact q.1, fun p hp => k.list R hp (hs.app hs') q.2⟩))
  · cases rx with
    | tup h hs => cases ry with
      | tup h' hs' =>
        rename_i _ _ as bs _ _ xs ys
        refine .inr (.inr (.inr ⟨_, _, _, _, rfl, rfl, SqT.of (R.ex _ _ h), SqT.of (R.ex _ _ h'), by rw [hs.len, hs'.len]; exact q.1, fun e => ?_, fun _ e => ?_, fun _ _ p hp => k.tup R hp (hs.app hs') q.2⟩))
        · subst e
          cases hs
          exact k.done R q.2 (.tup h' hs')
        · subst e
          cases hs'
          refine k.done R q.2 ?_
          rw [List.append_nil]
          exact .tup h hs
  · exact q.elim
theorem op_mul_str : OpR X (binaryOp .Mult) (fun x y H Q => ∃ z j, x = .str z ∧ y = .int j ∧ PySem.MulOk z j ∧ Q (.str (Txt.mul z j)) H) := fun pins s σ H x y v u Q I rx ry h => by
  obtain ⟨z, j, rfl, rfl, hm, q⟩ := h
  obtain ⟨t, rfl⟩ := rx
  obtain ⟨t', rfl⟩ := ry
  exact PySem.SB.mul hm fun t' k => ⟨.str _, H, I.tok _, ⟨_, rfl⟩, q⟩
theorem o_mul : OpR X (binaryOp .Mult) (L2r X.K opMul) := op_weak (op_mul.or (op_mulW.or op_mul_str)) fun x y H Q q => by
  obtain ⟨G, M, dx, dy, Qd, R, rx, ry, q, k⟩ := q
  unfold opMul at q; split at q
  · cases rx; cases ry
    obtain ⟨c | c, q⟩ := q
    · exact .inl ⟨_, _, rfl, rfl, c, k.done R q (.int _)⟩
    · exact .inr (.inl ⟨_, _, rfl, rfl, c, k.done R q (.int _)⟩)
  · cases rx; cases ry
    exact .inr (.inr ⟨_, _, rfl, rfl, q.1, k.done R q.2 (.str _)⟩)
  · exact q.elim
end
end DL

set_option Elab.async false
set_option linter.all false
set_option maxRecDepth 100000
set_option maxHeartbeats 4000000
/-! DL3: comparisons, subscripts, displays, built-ins. -/
namespace DL
open PySem PySem.Spec L2
variable {W : WX}

/-! ### data that may be read -/
/-- all of them data -/
def dats : List DV → Option (List PyData)
  | [] => some []
  | .d x :: r => match dats r with
    | some l => some (x :: l)
    | none => none
  | _ :: _ => none
theorem dats_map : ∀ ds : List PyData, dats (ds.map DV.d) = some ds
  | [] => rfl
  | x :: r => by
    show (match dats (r.map DV.d) with | some l => some (x :: l) | none => none) = _
    rw [dats_map r]
theorem dats_of : ∀ {xs : List DV} {ds : List PyData}, dats xs = some ds → xs = ds.map DV.d
  | [], _, h => by cases h; rfl
  | .d x :: r, ds, h => by
    have h' : (match dats r with | some l => some (x :: l) | none => none) = some ds := h
    cases e : dats r with
    | none => rw [e] at h'; cases h'
    | some l =>
      rw [e] at h'
      cases h'
      rw [dats_of e]
      rfl
  | .k _ :: _, _, h => by cases h
  | .ob _ :: _, _, h => by cases h
  | .v _ :: _, _, h => by cases h
def rdM (M : DM) : DV → Option PyData
  | .d x => some x
  | .k x => some x
  | .ob a => match M a with
    | some (.lst xs) => (match dats xs with
      | some ds => some (.list ds)
      | none => none)
    | _ => none
  | .v _ => none
theorem rdM_ob {M : DM} {p : Addr} {xs : List DV} {ds : List PyData} (e : M p = some (.lst xs)) (e2 : dats xs = some ds) : rdM M (.ob p) = some (.list ds) := by
  show (match M p with
    | some (.lst xs) => (match dats xs with
      | some ds => some (PyData.list ds)
      | none => none)
    | _ => none) = _
  rw [e]
  show (match dats xs with
      | some ds => some (PyData.list ds)
      | none => none) = _
  rw [e2]
section
variable {K : PySem.W.Frag} {G H : Hp} {M : DM}
theorem DpAll.of {K : PySem.W.Frag} {G : Hp} : ∀ {ds : List PyData} {vs : List V}, RepL K G (ds.map DV.d) vs → DpAll K G vs ds
  | [], _, .nil => .nil
  | _ :: _, _, .cons h t => .cons (Dr.dp h) (DpAll.of t)
theorem rdM_dp {x : DV} {v : V} {a : PyData} (h : rdM M x = some a) (r : RepV K G x v) (R : RpM K G M H) : Dp K H v a := by
  cases x with
  | d y => cases h; exact Dp.ex R.ex (Dr.dp r)
  | k y => cases h; exact Dp.ex R.ex r
  | ob p =>
    have h' : (match M p with
    | some (.lst xs) => (match dats xs with
      | some ds => some (PyData.list ds)
      | none => none)
    | _ => none) = some a := h
    split at h'
    · rename_i xs e
      split at h'
      · rename_i ds e2
        cases h'
        obtain ⟨⟨vs, h1, h2⟩, _⟩ := R.ob p _ e
        cases r
        have e3 := dats_of e2
        subst e3
        exact .lst (SqL.of h1) (DpAll.ex R.ex (DpAll.of h2))
      · cases h'
    · cases h'
  | v y => cases h
end

/-! ### == -/
def eqW (a b : PyData) (k : Bool → Prop) : Prop := match a, b with
  | .int i, .int j => k (decide (i = j))
  | .str x, .str y => k (decide (x = y))
  | .bool x, .bool y => k (decide (x = y))
  | .none, .none => k true
  | a, b => SeqAt.shaped a = true ∧ SeqAt.shaped b = true ∧ k (PyData.eqv a b)
theorem eqW_ok {K : PySem.W.Frag} {H : Hp} {v u : V} {a b : PyData} {k : Bool → Prop} {Q : Bool → Prop} (h : eqW a b k) (rv : Dp K H v a) (ru : Dp K H u b) (hk : ∀ r, k r → Q r) :
    (scal v u = true ∧ Q (decide (v = u))) ∨ ∃ d e, Dp K H v d ∧ Dp K H u e ∧ SeqAt.shaped d = true ∧ SeqAt.shaped e = true ∧ Q (PyData.eqv d e) := by
  unfold eqW at h
  split at h
  · cases rv; cases ru
    refine .inl ⟨rfl, ?_⟩
    rw [dec_int, Bool.beq_eq_decide_eq]
    exact hk _ h
  · cases rv; cases ru
    refine .inl ⟨rfl, ?_⟩
    have e : ∀ i j : Str, decide (V.str i = V.str j) = decide (i = j) := fun i j => by
      by_cases q : i = j
      · rw [decide_eq_true q, q]; exact decide_eq_true rfl
      · rw [decide_eq_false q]; exact decide_eq_false fun z => q (V.str.inj z)
    rw [e]
    exact hk _ h
  · cases rv; cases ru
    refine .inl ⟨rfl, ?_⟩
    rw [dec_bl, Bool.beq_eq_decide_eq]
    exact hk _ h
  · cases rv; cases ru
    exact .inl ⟨rfl, hk _ h⟩
  · exact .inr ⟨_, _, rv, ru, h.1, h.2.1, hk _ h.2.2⟩
def opEq : D2 := fun x y M Q => match rdM M x, rdM M y with
  | some a, some b => eqW a b fun r => Q (.d (.bool r)) M
  | _, _ => False
def opNe : D2 := fun x y M Q => match rdM M x, rdM M y with
  | some a, some b => eqW a b fun r => Q (.d (.bool (!r))) M
  | _, _ => False
def cmpI (f : Int → Int → Bool) : D2 := fun x y M Q => match x, y with
  | .d (.int i), .d (.int j) => Q (.d (.bool (f i j))) M
  | _, _ => False
abbrev opLt : D2 := cmpI fun i j => decide (i < j)
abbrev opLe : D2 := cmpI fun i j => decide (i ≤ j)
abbrev opGt : D2 := cmpI fun i j => decide (j < i)
abbrev opGe : D2 := cmpI fun i j => decide (j ≤ i)
def isW : DV → DV → Option Bool
  | .d .none, .d .none => some true
  | .d (.bool a), .d (.bool b) => some (decide (a = b))
  | .d (.int _), .d .none => some false
  | .d (.str _), .d .none => some false
  | .d (.bool _), .d .none => some false
  | .d (.list _), .d .none => some false
  | .d (.tuple _), .d .none => some false
  | .ob _, .d .none => some false
  | _, _ => none
def opIs : D2 := fun x y M Q => match isW x y with
  | some b => Q (.d (.bool b)) M
  | none => False
def opIsNot : D2 := fun x y M Q => match isW x y with
  | some b => Q (.d (.bool (!b))) M
  | none => False
section
variable {X : Cx}
theorem o_eq (hu : X.A.units + 64 < cLine) : OpR X (compareOp .Eq) (L2r X.K opEq) := op_weak (op_eq.or (op_eqD hu)) fun x y H Q q => by
  obtain ⟨G, M, dx, dy, Qd, R, rx, ry, q, k⟩ := q
  unfold opEq at q; split at q
  · rename_i a b e1 e2
    exact eqW_ok (Q := fun r => Q (.bl r) H) q (rdM_dp e1 rx R) (rdM_dp e2 ry R) fun r q => k.done R q (.bl _)
  · exact q.elim
theorem o_ne (hu : X.A.units + 64 < cLine) : OpR X (compareOp .NotEq) (L2r X.K opNe) := op_weak (op_ne.or (op_neD hu)) fun x y H Q q => by
  obtain ⟨G, M, dx, dy, Qd, R, rx, ry, q, k⟩ := q
  unfold opNe at q; split at q
  · rename_i a b e1 e2
    exact eqW_ok (Q := fun r => Q (.bl (!r)) H) q (rdM_dp e1 rx R) (rdM_dp e2 ry R) fun r q => k.done R q (.bl _)
  · exact q.elim
theorem op_cmpI {f : Value → Value → Sem Value} {g : Int → Int → Bool} (h : OpR X f (rI0 fun i j => .bl (g i j))) : OpR X f (L2r X.K (cmpI g)) := op_weak h fun x y H Q q => by
  obtain ⟨G, M, dx, dy, Qd, R, rx, ry, q, k⟩ := q
  unfold cmpI at q; split at q
  · cases rx; cases ry
    exact ⟨_, _, rfl, rfl, k.done R q (.bl _)⟩
  · exact q.elim
theorem o_lt : OpR X (compareOp .Lt) (L2r X.K opLt) := op_cmpI op_lt
theorem o_le : OpR X (compareOp .LtE) (L2r X.K opLe) := op_cmpI op_le
theorem o_gt : OpR X (compareOp .Gt) (L2r X.K opGt) := op_cmpI op_gt
theorem o_ge : OpR X (compareOp .GtE) (L2r X.K opGe) := op_cmpI op_ge
theorem isW_ok {K : PySem.W.Frag} {G : Hp} {x y : DV} {v u : V} {b : Bool} (h : isW x y = some b) (rx : RepV K G x v) (ry : RepV K G y u) : (u = .non ∧ b = decide (v = .non)) ∨ ∃ p q, v = .bl p ∧ u = .bl q ∧ b = decide (p = q) := by
  unfold isW at h
  split at h
  all_goals (first | cases h | skip)
  all_goals (cases rx; cases ry)
  · exact .inl ⟨rfl, by simp⟩
  · exact .inr ⟨_, _, rfl, rfl, rfl⟩
  all_goals exact .inl ⟨rfl, by simp⟩
theorem o_is : OpR X (compareOp .Is) (L2r X.K opIs) := op_weak (op_isN.or op_isBl) fun x y H Q q => by
  obtain ⟨G, M, dx, dy, Qd, R, rx, ry, q, k⟩ := q
  unfold opIs at q; split at q
  · rename_i b e
    rcases isW_ok e rx ry with ⟨h1, h2⟩ | ⟨p, q', h1, h2, h3⟩
    · subst h2
      exact .inl ⟨h1, k.done R q (.bl _)⟩
    · subst h3
      exact .inr ⟨_, _, h1, h2, k.done R q (.bl _)⟩
  · exact q.elim
theorem o_isnot : OpR X (compareOp .IsNot) (L2r X.K opIsNot) := op_weak (op_notN.or op_notBl) fun x y H Q q => by
  obtain ⟨G, M, dx, dy, Qd, R, rx, ry, q, k⟩ := q
  unfold opIsNot at q; split at q
  · rename_i b e
    rcases isW_ok e rx ry with ⟨h1, h2⟩ | ⟨p, q', h1, h2, h3⟩
    · subst h2
      exact .inl ⟨h1, k.done R q (.bl _)⟩
    · subst h3
      exact .inr ⟨_, _, h1, h2, k.done R q (.bl _)⟩
  · exact q.elim
end

/-! ### keys, dicts -/
def keyD : PyData → Option Key
  | .int i => some (.inl i)
  | .str s => some (.inr s)
  | _ => none
def keysD : List PyData → Option (List Key)
  | [] => some []
  | x :: r => match keyD x, keysD r with
    | some k, some l => some (k :: l)
    | _, _ => none
theorem keyD_rep {G : Hp} {x : PyData} {v : V} {k : Key} (h : keyD x = some k) (r : Dr G v x) : v = kV k := by
  cases r with
  | int i => cases h; rfl
  | str s => cases h; rfl
  | _ => cases h
theorem keysD_rep {G : Hp} : ∀ {xs : List PyData} {vs : List V} {ks : List Key}, keysD xs = some ks → DrAll G vs xs → vs = ks.map kV
  | [], _, ks, h, .nil => by cases h; rfl
  | x :: r, _, ks, h, .cons h1 h2 => by
    unfold keysD at h
    split at h
    · rename_i k l e1 e2
      cases h
      rw [keyD_rep e1 h1, keysD_rep e2 h2]
      rfl
    · cases h
section
variable {κ : Type} [DecidableEq κ]
def valD (kvs : List (κ × DV)) (k : κ) : Option DV := (kvs.find? fun kv => decide (kv.1 = k)).map (·.2)
def putD (kvs : List (κ × DV)) (k : κ) (x : DV) : List (κ × DV) := if kvs.any fun kv => decide (kv.1 = k) then kvs.map fun kv => if kv.1 = k then (kv.1, x) else kv else kvs ++ [(k, x)]
theorem valD_rep {K : PySem.W.Frag} {G : Hp} (k : κ) : ∀ {kvs : List (κ × DV)} {vs : List (κ × V)}, RepK K G kvs vs → (∀ x, valD kvs k = some x → ∃ v, valV vs k = some v ∧ RepV K G x v) ∧ (valD kvs k = none → valV vs k = none)
  | _, _, .nil => ⟨fun x h => (by cases h), fun _ => rfl⟩
  | (k1, x1) :: r, (k2, v2) :: r2, .cons h t => by
    obtain ⟨e, h⟩ := h
    dsimp only at e h
    subst e
    by_cases q : k1 = k
    · have e1 : valD ((k1, x1) :: r) k = some x1 := by simp [valD, List.find?_cons, q]
      have e2 : valV ((k1, v2) :: r2) k = some v2 := by simp [valV, List.find?_cons, q]
      rw [e1, e2]
      exact ⟨fun x hx => ⟨v2, rfl, by cases hx; exact h⟩, fun z => by cases z⟩
    · have e1 : valD ((k1, x1) :: r) k = valD r k := by simp [valD, List.find?_cons, q]
      have e2 : valV ((k1, v2) :: r2) k = valV r2 k := by simp [valV, List.find?_cons, q]
      rw [e1, e2]
      exact valD_rep k t
theorem valD_isSome {K : PySem.W.Frag} {G : Hp} {k : κ} {kvs : List (κ × DV)} {vs : List (κ × V)} (h : RepK K G kvs vs) : (valV vs k).isSome = (valD kvs k).isSome := by
  obtain ⟨h1, h2⟩ := valD_rep k h
  cases e : valD kvs k with
  | none => rw [h2 e]; rfl
  | some x => obtain ⟨v, h3, _⟩ := h1 x e; rw [h3]; rfl
theorem repK_any {K : PySem.W.Frag} {G : Hp} (k : κ) : ∀ {kvs : List (κ × DV)} {vs : List (κ × V)}, RepK K G kvs vs → (vs.any fun kv => decide (kv.1 = k)) = kvs.any fun kv => decide (kv.1 = k)
  | _, _, .nil => rfl
  | _ :: r, _ :: r2, .cons h t => by
    obtain ⟨e, _⟩ := h
    rw [List.any_cons, List.any_cons, repK_any k t, e]
theorem putD_map {K : PySem.W.Frag} {G : Hp} {k : κ} {x : DV} {v : V} (r : RepV K G x v) : ∀ {kvs : List (κ × DV)} {vs : List (κ × V)}, RepK K G kvs vs → RepK K G (kvs.map fun kv => if kv.1 = k then (kv.1, x) else kv) (vs.map fun kv => if kv.1 = k then (kv.1, v) else kv)
  | _, _, .nil => .nil
  | p :: _, q :: _, .cons h t => by
    refine .cons ?_ (putD_map r t)
    obtain ⟨e, h⟩ := h
    dsimp only
    by_cases z : p.1 = k
    · rw [if_pos z, if_pos (e ▸ z)]
      exact ⟨e, r⟩
    · rw [if_neg z, if_neg (e ▸ z)]
      exact ⟨e, h⟩
theorem putD_rep {K : PySem.W.Frag} {G : Hp} {kvs : List (κ × DV)} {vs : List (κ × V)} (h : RepK K G kvs vs) (k : κ) {x : DV} {v : V} (r : RepV K G x v) : RepK K G (putD kvs k x) (putK vs k v) := by
  unfold putD putK
  rw [repK_any k h]
  split
  · exact putD_map r h
  · exact paired_app h (.cons ⟨rfl, r⟩ .nil)
end

/-! ### in -/
def flatD : PyData → Bool
  | .none => true
  | .bool _ => true
  | .int _ => true
  | .str _ => true
  | _ => false
theorem flatD_eqv {K : PySem.W.Frag} {G : Hp} {v u : V} {a b : PyData} (rv : Dp K G v a) (ru : Dp K G u b) (ha : flatD a = true) (hb : flatD b = true) : eqV u v = PyData.eqv b a := by
  cases rv <;> cases ru <;> first | (simp [eqV, PyData.eqv]; done) | (cases ha; done) | (cases hb; done)
theorem flatD_V {K : PySem.W.Frag} {G : Hp} {v : V} {a : PyData} (r : Dp K G v a) (h : flatD a = true) : flatV v = true := by
  cases r <;> first | rfl | cases h
theorem flatD_all {K : PySem.W.Frag} {G : Hp} : ∀ {vs : List V} {ds : List PyData}, DpAll K G vs ds → ds.all flatD = true → vs.all flatV = true
  | _, _, .nil, _ => rfl
  | _, _, .cons h t, e => by
    rw [List.all_cons, Bool.and_eq_true] at e
    rw [List.all_cons, flatD_V h e.1, flatD_all t e.2]; rfl
theorem flatD_in {K : PySem.W.Frag} {G : Hp} {v : V} {a : PyData} (rv : Dp K G v a) (ha : flatD a = true) : ∀ {vs : List V} {ds : List PyData}, DpAll K G vs ds → ds.all flatD = true → inV v vs = ds.any fun z => PyData.eqv z a
  | _, _, .nil, _ => rfl
  | _, _, .cons h t, e => by
    rw [List.all_cons, Bool.and_eq_true] at e
    have q := flatD_in rv ha t e.2
    unfold inV at q ⊢
    rw [List.any_cons, List.any_cons, flatD_eqv rv h ha e.1, q]
def inW (a c : PyData) (k : Bool → Prop) : Prop := match c with
  | .list ds => SeqAt.shaped a = true ∧ SeqAt.shaped (.list ds) = true ∧ k (ds.any fun z => PyData.eqv z a)
  | .tuple ds => flatD a = true ∧ ds.all flatD = true ∧ k (ds.any fun z => PyData.eqv z a)
  | .str z => ∃ c, a = .str ⟨#[c]⟩ ∧ k (decide (c ∈ z.cps.toList))
  | _ => False
/-- a dict's entry, or a data container -/
def inD (x y : DV) (M : DM) (k : Bool → Prop) : Prop := match y with
  | .ob p => (match M p with
    | some (.dK kvs) => (match x with
      | .d a => (match keyD a with
        | some k' => k (valD kvs k').isSome
        | none => False)
      | _ => False)
    | some (.dT kvs) => (match x with
      | .d (.tuple l) => (match keysD l with
        | some k' => k (valD kvs k').isSome
        | none => False)
      | _ => False)
    | some (.lst xs) => (match rdM M x, dats xs with
      | some a, some ds => inW a (.list ds) k
      | _, _ => False)
    | _ => False)
  | .d c => (match rdM M x with
    | some a => inW a c k
    | none => False)
  | .k c => (match rdM M x with
    | some a => inW a c k
    | none => False)
  | _ => False
def opIn : D2 := fun x y M Q => inD x y M fun r => Q (.d (.bool r)) M
def opNotIn : D2 := fun x y M Q => inD x y M fun r => Q (.d (.bool (!r))) M
section
variable {X : Cx}
def rDIn (neg : Bool) : R2 := fun y x H Q => ∃ a o, x = .ref a ∧ DGet H a y o ∧ Q (.bl (if neg then !o.isSome else o.isSome)) H
theorem op_din (hu : X.A.units + 1 < cLine) : OpR X (compareOp .In) (rDIn false) := fun pins s σ H x y v u Q I rx ry h => by
  obtain ⟨a, o, rfl, g, q⟩ := h
  cases ry
  exact d_in hu I g rx fun s' I' => ⟨.bl _, H, I', rfl, q⟩
theorem op_dnotin (hu : X.A.units + 1 < cLine) : OpR X (compareOp .NotIn) (rDIn true) := fun pins s σ H x y v u Q I rx ry h => by
  obtain ⟨a, o, rfl, g, q⟩ := h
  cases ry
  exact d_notIn hu I g rx fun s' I' => ⟨.bl _, H, I', rfl, q⟩
/-- the ways of in -/
def rInAll (K : PySem.W.Frag) (neg : Bool) : R2 := fun x y H Q => rDIn neg x y H Q ∨ (∃ d ds, Dp K H x d ∧ Dp K H y (.list ds) ∧ SeqAt.shaped d = true ∧ SeqAt.shaped (.list ds) = true ∧ Q (.bl (if neg then !(ds.any fun z => PyData.eqv z d) else ds.any fun z => PyData.eqv z d)) H) ∨ rIn K neg x y H Q ∨
  (∃ (c : Nat) (z : Str), x = .str ⟨#[c]⟩ ∧ y = .str z ∧ Q (.bl (if neg then !decide (c ∈ z.cps.toList) else decide (c ∈ z.cps.toList))) H)
theorem op_inAll (hu : X.A.units + 65 < cLine) : OpR X (compareOp .In) (rInAll X.K false) := (op_din (by omega)).or ((op_inD hu).or (op_in_seq.or op_in_sign))
theorem op_notInAll (hu : X.A.units + 65 < cLine) : OpR X (compareOp .NotIn) (rInAll X.K true) := (op_dnotin (by omega)).or ((op_notInD hu).or (op_notIn_seq.or op_notIn_sign))
theorem inW_ok {K : PySem.W.Frag} {H : Hp} {v u : V} {a c : PyData} {k : Bool → Prop} {neg : Bool} {Q : VK} (h : inW a c k) (rv : Dp K H v a) (ru : Dp K H u c) (hk : ∀ b, k b → Q (.bl (if neg then !b else b)) H) : rInAll K neg v u H Q := by
  cases ru with
  | lst hs ha =>
    obtain ⟨s1, s2, q⟩ := h
    exact .inr (.inl ⟨_, _, rv, .lst hs ha, s1, s2, hk _ q⟩)
  | tup hs ha =>
    obtain ⟨s1, s2, q⟩ := h
    refine .inr (.inr (.inl ⟨_, _, rfl, .inr hs, flatD_V rv s1, flatD_all ha s2, ?_⟩))
    rw [flatD_in rv s1 ha s2]
    exact hk _ q
  | str z =>
    obtain ⟨c, rfl, q⟩ := h
    cases rv
    exact .inr (.inr (.inr ⟨_, _, rfl, rfl, hk _ q⟩))
  | _ => exact h.elim
theorem inD_ok {K : PySem.W.Frag} {G H : Hp} {M : DM} {x y : DV} {v u : V} {k : Bool → Prop} {neg : Bool} {Q : VK} (h : inD x y M k) (R : RpM K G M H) (rx : RepV K G x v) (ry : RepV K G y u) (hk : ∀ b, k b → Q (.bl (if neg then !b else b)) H) : rInAll K neg v u H Q := by
  unfold inD at h
  split at h
  · rename_i p
    cases ry
    split at h
    · rename_i kvs e
      obtain ⟨⟨vs, h1, h2⟩, _⟩ := R.ob p _ e
      split at h
      · rename_i a
        split at h
        · rename_i k' e2
          obtain rfl := keyD_rep e2 rx
          refine .inl ⟨p, _, rfl, DGet.k h1, ?_⟩
          rw [valD_isSome h2]
          exact hk _ h
        · exact h.elim
      · exact h.elim
    · rename_i kvs e
      obtain ⟨⟨vs, h1, h2⟩, _⟩ := R.ob p _ e
      split at h
      · rename_i l
        split at h
        · rename_i k' e2
          cases rx with
          | tup hg hs =>
            obtain rfl := keysD_rep e2 hs
            refine .inl ⟨p, _, rfl, DGet.t h1 (R.ex _ _ hg), ?_⟩
            rw [valD_isSome h2]
            exact hk _ h
        · exact h.elim
      · exact h.elim
    · rename_i xs e
      split at h
      · rename_i a ds e1 e2
        refine inW_ok h (rdM_dp e1 rx R) (rdM_dp (M := M) (x := .ob p) ?_ rfl R) hk
        exact rdM_ob e e2
      · exact h.elim
    · exact h.elim
  · split at h
    · rename_i c a e
      exact inW_ok h (rdM_dp e rx R) (rdM_dp rfl ry R) hk
    · exact h.elim
  · split at h
    · rename_i c a e
      exact inW_ok h (rdM_dp e rx R) (rdM_dp rfl ry R) hk
    · exact h.elim
  · exact h.elim
theorem o_in (hu : X.A.units + 65 < cLine) : OpR X (compareOp .In) (L2r X.K opIn) := op_weak (op_inAll hu) fun x y H Q q => by
  obtain ⟨G, M, dx, dy, Qd, R, rx, ry, q, k⟩ := q
  exact inD_ok (neg := false) q R rx ry fun b q => k.done R q (.bl _)
theorem o_notin (hu : X.A.units + 65 < cLine) : OpR X (compareOp .NotIn) (L2r X.K opNotIn) := op_weak (op_notInAll hu) fun x y H Q q => by
  obtain ⟨G, M, dx, dy, Qd, R, rx, ry, q, k⟩ := q
  exact inD_ok (neg := true) q R rx ry fun b q => k.done R q (.bl _)
end
end DL

set_option Elab.async false
set_option linter.all false
set_option maxRecDepth 100000
set_option maxHeartbeats 4000000
/-! DL4: subscripts, slices, displays, arguments, built-ins, methods. -/
namespace DL
open PySem PySem.Spec L2
variable {W : WX}

/-! ### a[b] -/
/-- an item of what is only read: a scalar is data -/
def kEl : PyData → DV
  | .none => .d .none
  | .bool b => .d (.bool b)
  | .int i => .d (.int i)
  | .str s => .d (.str s)
  | x => .k x
theorem kEl_rep {K : PySem.W.Frag} {G : Hp} {v : V} {x : PyData} (r : Dp K G v x) : RepV K G (kEl x) v := by
  cases r with
  | non => exact .non
  | bl b => exact .bl b
  | int i => exact .int i
  | str s => exact .str s
  | lst h hs => exact .lst h hs
  | tup h hs => exact .tup h hs
def atW {α : Type} (xs : List α) (i : Int) (k : α → Prop) : Prop := match atI xs i with
  | some x => k x
  | none => False
theorem atW_get {α : Type} {xs : List α} {i : Int} {k : α → Prop} (h : atW xs i k) : ∃ x j, atI xs i = some x ∧ xs[j]? = some x ∧ ixN xs.length i = some j ∧ k x := by
  unfold atW at h
  split at h
  · rename_i x e
    have e' := e
    unfold atI at e'
    obtain ⟨j, h1, h2⟩ := Option.bind_eq_some_iff.mp e'
    exact ⟨x, j, e, h2, h1, h⟩
  · exact h.elim
theorem atI_len {α β : Type} {xs : List α} {ys : List β} {i : Int} {j : Nat} {y : β} (h : ixN xs.length i = some j) (l : xs.length = ys.length) (e : ys[j]? = some y) : atI ys i = some y := by
  unfold atI
  rw [← l, h]
  exact e
def opIx : D2 := fun x y M Q => match x with
  | .d (.list xs) => (match y with
    | .d (.int i) => atW xs i fun e => Q (.d e) M
    | _ => False)
  | .d (.tuple xs) => (match y with
    | .d (.int i) => atW xs i fun e => Q (.d e) M
    | _ => False)
  | .k (.list xs) => (match y with
    | .d (.int i) => atW xs i fun e => Q (kEl e) M
    | _ => False)
  | .k (.tuple xs) => (match y with
    | .d (.int i) => atW xs i fun e => Q (kEl e) M
    | _ => False)
  | .d (.str z) => (match y with
    | .d (.int i) => z.length ≤ sizeLine ∧ atW z.cps.toList i fun c => Q (.d (.str ⟨#[c]⟩)) M
    | _ => False)
  | .ob a => (match M a with
    | some (.lst xs) => (match y with
      | .d (.int i) => atW xs i fun e => Q e M
      | _ => False)
    | some (.tup xs) => (match y with
      | .d (.int i) => atW xs i fun e => Q e M
      | _ => False)
    | some (.dK kvs) => (match y with
      | .d k => (match keyD k with
        | some k => (match valD kvs k with
          | some e => Q e M
          | none => False)
        | none => False)
      | _ => False)
    | some (.dT kvs) => (match y with
      | .d (.tuple l) => (match keysD l with
        | some k => (match valD kvs k with
          | some e => Q e M
          | none => False)
        | none => False)
      | _ => False)
    | _ => False)
  | _ => False
section
variable {X : Cx}
theorem ix_dget (hu : X.A.units + 1 < cLine) : IxR X (fun x y H Q => ∃ a v, x = .ref a ∧ DGet H a y (some v) ∧ Q v H) := by
  intro value slice pins s σ H x y v u Q I rx ry h hs
  obtain ⟨a, r, rfl, g, q⟩ := h
  obtain rfl : v = Value.ref a := rx
  exact PyProof.Rows.tail_any (dict_typeIs I g) PySem.F.slot_dict_getitem.lookup (d_getItem hu I g ry fun w' s' I' r' => ⟨r, H, I', r', q⟩) hs
theorem o_ix (hu : X.A.units + 1 < cLine) : IxR X (L2r X.K opIx) := ix_weak (ix_seq.or (ix_dget hu)) fun x y H Q q => by
  obtain ⟨G, M, dx, dy, Qd, R, rx, ry, q, k⟩ := q
  unfold opIx at q; split at q
  · split at q
    · cases ry
      obtain ⟨e, j, h1, h2, h3, q⟩ := atW_get q
      cases rx with
      | lst hg hs =>
        obtain ⟨w, h4, h5⟩ := hs.at h2
        exact .inl (.inl ⟨_, _, _, _, rfl, rfl, SqL.of (R.ex _ _ hg), atI_len h3 hs.len.symm h4, k.done R q h5⟩)
    · exact q.elim
  · split at q
    · cases ry
      obtain ⟨e, j, h1, h2, h3, q⟩ := atW_get q
      cases rx with
      | tup hg hs =>
        obtain ⟨w, h4, h5⟩ := hs.at h2
        exact .inl (.inr (.inl ⟨_, _, _, _, rfl, rfl, SqT.of (R.ex _ _ hg), atI_len h3 hs.len.symm h4, k.done R q h5⟩))
    · exact q.elim
  · split at q
    · cases ry
      obtain ⟨e, j, h1, h2, h3, q⟩ := atW_get q
      cases rx with
      | lst hg hs =>
        obtain ⟨w, h4, h5⟩ := DpAll.at hs h2
        exact .inl (.inl ⟨_, _, _, _, rfl, rfl, SqL.ex R.ex hg, atI_len h3 (DpAll.len hs).symm h4, k.done R q (kEl_rep h5)⟩)
    · exact q.elim
  · split at q
    · cases ry
      obtain ⟨e, j, h1, h2, h3, q⟩ := atW_get q
      cases rx with
      | tup hg hs =>
        obtain ⟨w, h4, h5⟩ := DpAll.at hs h2
        exact .inl (.inr (.inl ⟨_, _, _, _, rfl, rfl, SqT.ex R.ex hg, atI_len h3 (DpAll.len hs).symm h4, k.done R q (kEl_rep h5)⟩))
    · exact q.elim
  · split at q
    · cases ry; cases rx
      obtain ⟨hz, q⟩ := q
      obtain ⟨e, j, h1, h2, h3, q⟩ := atW_get q
      exact .inl (.inr (.inr ⟨_, _, _, rfl, rfl, hz, h1, k.done R q (.str _)⟩))
    · exact q.elim
  · rename_i a
    cases rx
    split at q
    · rename_i xs e
      obtain ⟨⟨vs, g1, g2⟩, _⟩ := R.ob a _ e
      split at q
      · cases ry
        obtain ⟨e, j, h1, h2, h3, q⟩ := atW_get q
        obtain ⟨w, h4, h5⟩ := paired_at g2 h2
        exact .inl (.inl ⟨_, _, _, _, rfl, rfl, SqL.of g1, atI_len h3 (paired_len g2) h4, k.done R q h5⟩)
      · exact q.elim
    · rename_i xs e
      obtain ⟨⟨vs, g1, g2⟩, _⟩ := R.ob a _ e
      split at q
      · cases ry
        obtain ⟨e, j, h1, h2, h3, q⟩ := atW_get q
        obtain ⟨w, h4, h5⟩ := paired_at g2 h2
        exact .inl (.inr (.inl ⟨_, _, _, _, rfl, rfl, SqT.of g1, atI_len h3 (paired_len g2) h4, k.done R q h5⟩))
      · exact q.elim
    · rename_i kvs e
      obtain ⟨⟨vs, g1, g2⟩, _⟩ := R.ob a _ e
      split at q
      · split at q
        · rename_i k' e2
          split at q
          · rename_i z e3
            obtain rfl := keyD_rep e2 ry
            obtain ⟨w, h4, h5⟩ := (valD_rep k' g2).1 z e3
            exact .inr ⟨a, w, rfl, by rw [← h4]; exact DGet.k g1, k.done R q h5⟩
          · exact q.elim
        · exact q.elim
      · exact q.elim
    · rename_i kvs e
      obtain ⟨⟨vs, g1, g2⟩, _⟩ := R.ob a _ e
      split at q
      · split at q
        · rename_i k' e2
          split at q
          · rename_i z e3
            cases ry with
            | tup hg hs =>
              obtain rfl := keysD_rep e2 hs
              obtain ⟨w, h4, h5⟩ := (valD_rep k' g2).1 z e3
              exact .inr ⟨a, w, rfl, by rw [← h4]; exact DGet.t g1 (R.ex _ _ hg), k.done R q h5⟩
          · exact q.elim
        · exact q.elim
      · exact q.elim
    · exact q.elim
  · exact q.elim
theorem de_ix {a b : Expr} {pos : Pos} {r : D2} {wa wb : DE} (hr : IxR X (L2r X.K r)) (ha : PE X a (LE X.K W wa)) (hb : PE X b (LE X.K W wb)) (hs : PlainIx b := by exact fun _ _ => rfl) : PE X (.Subscript a b pos) (LE X.K W (wOp r wa wb)) :=
  pe_weak (pe_ix hr ha hb hs) le_op
end

/-! ### slices -/
abbrev DO := DEnv → DM → (Option Int → DM → Prop) → Prop
def LO (K : PySem.W.Frag) (W : WX) (w : DO) : TO := fun σ H Q => ∃ G de M Qd, RpM K G M H ∧ SlR K W G de σ ∧ w de M Qd ∧ ∀ o M' G' H', Qd o M' → Ex G G' → RpM K G' M' H' → Q o H'
def wNoPart : DO := fun _ M Q => Q none M
def wPart (w : DE) : DO := fun de M Q => w de M fun x M1 => match x with
  | .d (.int i) => Q (some i) M1
  | _ => False
def cutD {α : Type} (xs : List α) (lo hi : Option Int) : List α := (xs.drop (HT.sIx xs.length 0 lo)).take (HT.sIx xs.length xs.length hi - HT.sIx xs.length 0 lo)
theorem cutD_whole {α : Type} {xs : List α} {lo hi : Option Int} (h : HT.sIx xs.length 0 lo = 0) (h' : HT.sIx xs.length xs.length hi = xs.length) : cutD xs lo hi = xs := by
  unfold cutD
  rw [h, h', Nat.sub_zero, List.drop_zero, List.take_length]
def opSl (x : DV) (lo hi : Option Int) (M : DM) (Q : DQ) : Prop := match x with
  | .d (.list xs) => Q (.d (.list (cutD xs lo hi))) M
  | .d (.tuple xs) => Q (.d (.tuple (cutD xs lo hi))) M
  | .d (.str z) => z.length ≤ sizeLine ∧ Q (.d (.str (cutS z lo hi))) M
  | .k (.list xs) => (match dats ((cutD xs lo hi).map kEl) with
    | some ds => Q (.d (.list ds)) M
    | none => False)
  | .ob a => (match M a with
    | some (.lst xs) => (match dats (cutD xs lo hi) with
      | some ds => Q (.d (.list ds)) M
      | none => ∀ p, M p = none → Q (.ob p) (mset M p (some (.lst (cutD xs lo hi)))))
    | _ => False)
  | _ => False
def wSl (w : DE) (l h : DO) : DE := fun de M Q => w de M fun x M1 => l de M1 fun lo M2 => h de M2 fun hi M3 => opSl x lo hi M3 Q
section
variable {X : Cx}
theorem po_weak {e : Option Expr} {t t' : TO} (h : PO X e t) (w : ∀ σ H Q, t' σ H Q → t σ H Q) : PO X e t' := ⟨fun pins s σ H Q I q => h.run pins s σ H Q I (w σ H Q q)⟩
theorem do_none : PO X none (LO X.K W wNoPart) := po_weak po_none fun σ H Q h => by
  obtain ⟨G, de, M, Qd, R, S, w, k⟩ := h
  exact k _ M G H w (Ex.refl G) R
theorem do_some {e : Expr} {w : DE} (h : PE X e (LE X.K W w)) : PO X (some e) (LO X.K W (wPart w)) := po_weak (po_some h) fun σ H Q h => by
  obtain ⟨G, de, M, Qd, R, S, w, k⟩ := h
  refine ⟨G, de, M, _, R, S, w, fun x M1 G1 H1 v q e1 R1 r1 => ?_⟩
  split at q
  · cases r1
    exact ⟨_, rfl, k _ _ _ _ q e1 R1⟩
  · exact q.elim
theorem DpAll.kEl {K : PySem.W.Frag} {G : Hp} : ∀ {vs : List V} {ds : List PyData}, DpAll K G vs ds → RepL K G (ds.map DL.kEl) vs
  | _, _, .nil => .nil
  | _, _, .cons h t => .cons (kEl_rep h) (DpAll.kEl t)
theorem de_sl {e : Expr} {lo hi : Option Expr} {p2 pos : Pos} {w : DE} {wl wh : DO} (he : PE X e (LE X.K W w)) (hl : PO X lo (LO X.K W wl)) (hh : PO X hi (LO X.K W wh)) : PE X (.Subscript e (.Slice lo hi none p2) pos) (LE X.K W (wSl w wl wh)) :=
  pe_weak (pe_slice ((sl_list.or sl_tupA).or sl_str) he hl hh) fun σ H Q h => by
    obtain ⟨G, de, M, Qd, R, S, w, k⟩ := h
    refine ⟨G, de, M, _, R, S, w, fun x M1 G1 H1 v q1 e1 R1 r1 => ⟨G1, de, M1, _, R1, S.ex e1, q1, fun lo M2 G2 H2 q2 e2 R2 => ⟨G2, de, M2, _, R2, S.ex (e1.trans e2), q2, fun hi M3 G3 H3 q3 e3 R3 => ?_⟩⟩⟩
    have k3 := k.ex (e1.trans (e2.trans e3))
    have r3 := r1.ex (e2.trans e3)
    unfold opSl at q3
    split at q3
    · cases r3 with
      | lst hg hs =>
        refine .inl (.inl ⟨_, _, rfl, SqL.of (R3.ex _ _ hg), fun p hp => k3.list R3 hp ?_ q3⟩)
        unfold cutV cutD
        rw [hs.len]
        exact (hs.drop _).take _
    · cases r3 with
      | tup hg hs =>
        refine .inl (.inr ⟨_, _, rfl, SqT.of (R3.ex _ _ hg), fun e => k3.done R3 q3 ?_, fun _ p hp => k3.tup R3 hp ?_ q3⟩)
        · rw [hs.len] at e
          rw [cutD_whole e.1 e.2]
          exact .tup hg hs
        · unfold cutV cutD
          rw [hs.len]
          exact (hs.drop _).take _
    · cases r3
      exact .inr ⟨_, rfl, q3.1, k3.done R3 q3.2 (.str _)⟩
    · split at q3
      · rename_i ds e
        cases r3 with
        | lst hg hs =>
          refine .inl (.inl ⟨_, _, rfl, SqL.ex R3.ex hg, fun p hp => k3.list R3 hp ?_ q3⟩)
          have z := dats_of e
          refine DrAll.of (K := X.K) ?_
          rw [← z]
          unfold cutV cutD
          rw [DpAll.len hs]
          exact DpAll.kEl (DpAll.take _ (DpAll.drop _ hs))
      · exact q3.elim
    · rename_i a
      cases r3
      split at q3
      · rename_i xs e
        obtain ⟨⟨vs, g1, g2⟩, _⟩ := R3.ob a _ e
        have hl := paired_len g2
        split at q3
        · rename_i ds e2
          refine .inl (.inl ⟨_, _, rfl, SqL.of g1, fun p hp => k3.list R3 hp ?_ q3⟩)
          have z := dats_of e2
          refine DrAll.of (K := X.K) ?_
          rw [← z]
          unfold cutV cutD
          rw [hl]
          exact paired_take _ (paired_drop _ g2)
        · refine .inl (.inl ⟨_, _, rfl, SqL.of g1, fun p hp => k3.newL R3 hp ?_ q3⟩)
          unfold cutV cutD
          rw [hl]
          exact paired_take _ (paired_drop _ g2)
      · exact q3.elim
    · exact q3.elim
end

/-! ### arguments, displays -/
def wNil : DA := fun _ M Q => Q [] M
def wCons (w : DE) (r : DA) : DA := fun de M Q => w de M fun x M1 => r de M1 fun xs M2 => Q (x :: xs) M2
/-- a new tuple: data if all of it is -/
def tupD (xs : List DV) (M : DM) (Q : DQ) : Prop := xs.length ≤ sizeLine ∧ match dats xs with
  | some ds => Q (.d (.tuple ds)) M
  | none => ∀ p, M p = none → Q (.ob p) (mset M p (some (.tup xs)))
def lstD (xs : List DV) (M : DM) (Q : DQ) : Prop := xs.length ≤ sizeLine ∧ match dats xs with
  | some ds => Q (.d (.list ds)) M
  | none => ∀ p, M p = none → Q (.ob p) (mset M p (some (.lst xs)))
/-- a new list that may change -/
def lstM (xs : List DV) (M : DM) (Q : DQ) : Prop := xs.length ≤ sizeLine ∧ ∀ p, M p = none → Q (.ob p) (mset M p (some (.lst xs)))
def wAs (wa : DA) (r : List DV → DM → DQ → Prop) : DE := fun de M Q => wa de M fun xs M1 => r xs M1 Q
section
variable {X : Cx} {es : List Expr} {e : Expr} {wa : DA} {w : DE} {pos : Pos} {n : Nat}
theorem da_nil : PA X [] (LA X.K W wNil) := pa_weak pa_nil fun σ H Q h => by
  obtain ⟨G, de, M, Qd, R, S, w, k⟩ := h
  exact k _ M G H [] w (Ex.refl G) R .nil
theorem da_cons (h : PE X e (LE X.K W w)) (hr : PA X es (LA X.K W wa)) (hs : starEach (e :: es) X.env = (false, eval e X.env) :: starEach es X.env := by rfl) : PA X (e :: es) (LA X.K W (wCons w wa)) := pa_weak (pa_cons h hr hs) fun σ H Q h => by
  obtain ⟨G, de, M, Qd, R, S, w, k⟩ := h
  exact ⟨G, de, M, _, R, S, w, fun x M1 G1 H1 v q e1 R1 r1 => ⟨G1, de, M1, _, R1, S.ex e1, q, fun xs M2 G2 H2 vs q2 e2 R2 r2 => k _ _ _ _ _ q2 (e1.trans e2) R2 (.cons (r1.ex e2) r2)⟩⟩
theorem de_tup (h : PA X es (LA X.K W wa)) : PE X (.Tuple es n pos) (LE X.K W (wAs wa tupD)) := pe_weak (pe_tup h) fun σ H Q h => by
  obtain ⟨G, de, M, Qd, R, S, w, k⟩ := h
  refine ⟨G, de, M, _, R, S, w, fun xs M1 G1 H1 vs q e1 R1 r1 => ?_⟩
  obtain ⟨hl, q⟩ := q
  rw [paired_len r1] at hl
  refine ⟨hl, fun p hp => ?_⟩
  split at q
  · rename_i ds e
    obtain rfl := dats_of e
    exact (k.ex e1).tup R1 hp (DrAll.of r1) q
  · exact (k.ex e1) _ _ G1 _ _ (q p (R1.mnone hp)) (Ex.refl G1) (R1.put (R1.gnone hp) ⟨vs, upd_same, r1⟩) rfl
theorem de_lst (h : PA X es (LA X.K W wa)) : PE X (.List es pos) (LE X.K W (wAs wa lstD)) := pe_weak (pe_lst h) fun σ H Q h => by
  obtain ⟨G, de, M, Qd, R, S, w, k⟩ := h
  refine ⟨G, de, M, _, R, S, w, fun xs M1 G1 H1 vs q e1 R1 r1 => ?_⟩
  obtain ⟨hl, q⟩ := q
  rw [paired_len r1] at hl
  refine ⟨hl, fun p hp => ?_⟩
  split at q
  · rename_i ds e
    obtain rfl := dats_of e
    exact (k.ex e1).list R1 hp (DrAll.of r1) q
  · exact (k.ex e1).newL R1 hp r1 q
theorem de_lstM (h : PA X es (LA X.K W wa)) : PE X (.List es pos) (LE X.K W (wAs wa lstM)) := pe_weak (pe_lst h) fun σ H Q h => by
  obtain ⟨G, de, M, Qd, R, S, w, k⟩ := h
  refine ⟨G, de, M, _, R, S, w, fun xs M1 G1 H1 vs q e1 R1 r1 => ?_⟩
  obtain ⟨hl, q⟩ := q
  rw [paired_len r1] at hl
  exact ⟨hl, fun p hp => (k.ex e1).newL R1 hp r1 q⟩
end

/-! ### built-ins by their names -/
section
variable {X : Cx} {es : List Expr} {e : Expr} {wa : DA} {w : DE} {pos p : Pos} {x : Str} {r : DC}
theorem le_as {K : PySem.W.Frag} (σ : L2.St) (H : Hp) (Q : VK) (h : LE K W (wAs wa r) σ H Q) : tCB (LC K r) (LA K W wa) σ H Q := by
  obtain ⟨G, de, M, Qd, R, S, w, k⟩ := h
  exact ⟨G, de, M, _, R, S, w, fun xs M1 G1 H1 vs q e1 R1 r1 => ⟨G1, M1, xs, Qd, R1, r1, q, k.ex e1⟩⟩
theorem de_callB {id : String} (hc : CallR X (.builtin id) (LC X.K r)) (hm : X.mg x = none) (ha : PA X (e :: es) (LA X.K W wa)) (hg : Gl X x := by rfl) (hv : bootBuiltins x = some (.builtin id) := by decide +kernel) (hn : x ≠ "__name__" := by decide) (hdb : (x == ("__debug__" : Str)) = false := by decide)
    (h1 : starEach (e :: es) X.env = (false, eval e X.env) :: starEach es X.env := by rfl) (h2 : (backTo pos (starEach es X.env)).any (·.1) = false := by rfl) : PE X (.Call (.Name x p) (e :: es) [] pos) (LE X.K W (wAs wa r)) :=
  pe_weak (pe_callB hc hg hm hv ha hn hdb h1 h2) le_as
theorem de_callTy {T : String} (hc : CallR X (.type T) (LC X.K r)) (hm : X.mg x = none) (ha : PA X (e :: es) (LA X.K W wa)) (hg : Gl X x := by rfl) (hv : bootBuiltins x = some (.type T) := by decide +kernel) (hn : x ≠ "__name__" := by decide) (hdb : (x == ("__debug__" : Str)) = false := by decide)
    (h1 : starEach (e :: es) X.env = (false, eval e X.env) :: starEach es X.env := by rfl) (h2 : (backTo pos (starEach es X.env)).any (·.1) = false := by rfl) : PE X (.Call (.Name x p) (e :: es) [] pos) (LE X.K W (wAs wa r)) :=
  pe_weak (pe_callTy hc hg hm hv ha hn hdb h1 h2) le_as
end
end DL

set_option Elab.async false
set_option linter.all false
set_option maxRecDepth 100000
set_option maxHeartbeats 4000000
/-! DL5: tests, statements, loops, comprehensions. -/
namespace DL
open PySem PySem.Spec L2
variable {W : WX}

/-! ### tests -/
def truW (x : DV) (M : DM) (k : Bool → Prop) : Prop := match x with
  | .d .none => k false
  | .d (.bool b) => k b
  | .d (.int i) => k (i != 0)
  | .d (.str z) => z.length ≤ sizeLine ∧ k ((z.length : Int) != 0)
  | .d (.list l) => k (!l.isEmpty)
  | .d (.tuple l) => k (!l.isEmpty)
  | .k (.list l) => k (!l.isEmpty)
  | .k (.tuple l) => k (!l.isEmpty)
  | .ob a => (match M a with
    | some (.lst xs) => k (!xs.isEmpty)
    | some (.dK kvs) => k (!kvs.isEmpty)
    | _ => False)
  | _ => False
/-- two ways -/
inductive Br (b : Bool) (A B : Prop) : Prop
  | t (h : b = true) (k : A) : Br b A B
  | f (h : b = false) (k : B) : Br b A B
theorem Br.yes {A B : Prop} (h : Br true A B) : A := by
  cases h with
  | t h k => exact k
  | f h k => cases h
theorem Br.no {A B : Prop} (h : Br false A B) : B := by
  cases h with
  | t h k => cases h
  | f h k => exact k
theorem Br.ite {b : Bool} {A B : Prop} (h : Br b A B) : if b = true then A else B := by
  cases h with
  | t h k => rw [if_pos h]; exact k
  | f h k => rw [h, if_neg Bool.false_ne_true]; exact k
def wTru (w : DE) : DT := fun de M Q => w de M fun x M1 => truW x M1 fun b => Q b M1
def wAnd (t u : DT) : DT := fun de M Q => t de M fun b M1 => Br b (u de M1 Q) (Q false M1)
def wOr (t u : DT) : DT := fun de M Q => t de M fun b M1 => Br b (Q true M1) (u de M1 Q)
def wNot (t : DT) : DT := fun de M Q => t de M fun b M1 => Q (!b) M1
def boolW (x : DV) (k : Bool → Prop) : Prop := match x with
  | .d (.bool b) => k b
  | _ => False
def wAndV (wa wb : DE) : DE := fun de M Q => wa de M fun x M1 => boolW x fun b => Br b (wb de M1 Q) (Q (.d (.bool false)) M1)
def wOrV (wa wb : DE) : DE := fun de M Q => wa de M fun x M1 => boolW x fun b => Br b (Q (.d (.bool true)) M1) (wb de M1 Q)
def wNotV (wa : DE) : DE := fun de M Q => wa de M fun x M1 => boolW x fun b => Q (.d (.bool (!b))) M1
def wIfE (t : DT) (wa wb : DE) : DE := fun de M Q => t de M fun b M1 => Br b (wa de M1 Q) (wb de M1 Q)
def wChain (r r' : D2) (wa wb wc : DE) : DE := fun de M Q => wa de M fun x M1 => wb de M1 fun y M2 => r x y M2 fun z M3 => boolW z fun b => Br b (wc de M3 fun u M4 => r' y u M4 Q) (Q (.d (.bool false)) M3)
theorem boolW_ok {K : PySem.W.Frag} {G : Hp} {x : DV} {v : V} {k : Bool → Prop} (h : boolW x k) (r : RepV K G x v) : ∃ b, v = .bl b ∧ k b := by
  unfold boolW at h
  split at h
  · cases r; exact ⟨_, rfl, h⟩
  · exact h.elim
theorem paired_empty {α β : Type} {F : α → β → Prop} {l : List α} {m : List β} (h : Paired F l m) : l.isEmpty = m.isEmpty := by cases h <;> rfl
theorem truW_ok {K : PySem.W.Frag} {G H : Hp} {M : DM} {x : DV} {v : V} {k : Bool → Prop} (h : truW x M k) (R : RpM K G M H) (r : RepV K G x v) : ∃ b, TruV K v H b ∧ k b := by
  unfold truW at h
  split at h
  · cases r; exact ⟨_, rfl, h⟩
  · cases r; exact ⟨_, rfl, h⟩
  · cases r; exact ⟨_, rfl, h⟩
  · cases r; exact ⟨_, ⟨h.1, rfl⟩, h.2⟩
  · cases r with
    | lst hg hs => exact ⟨_, .inl ⟨_, SqL.of (R.ex _ _ hg), rfl⟩, by cases hs <;> exact h⟩
  · cases r with
    | tup hg hs => exact ⟨_, .inr (.inl ⟨_, SqT.of (R.ex _ _ hg), rfl⟩), by cases hs <;> exact h⟩
  · cases r with
    | lst hg hs => exact ⟨_, .inl ⟨_, SqL.ex R.ex hg, rfl⟩, by cases hs <;> exact h⟩
  · cases r with
    | tup hg hs => exact ⟨_, .inr (.inl ⟨_, SqT.ex R.ex hg, rfl⟩), by cases hs <;> exact h⟩
  · rename_i a
    cases r
    split at h
    · rename_i xs e
      obtain ⟨⟨vs, g1, g2⟩, _⟩ := R.ob a _ e
      exact ⟨_, .inl ⟨_, SqL.of g1, rfl⟩, by rw [← paired_empty g2]; exact h⟩
    · rename_i kvs e
      obtain ⟨⟨vs, g1, g2⟩, _⟩ := R.ob a _ e
      exact ⟨_, .inr (.inr ⟨_, g1, rfl⟩), by rw [← paired_empty g2]; exact h⟩
    · exact h.elim
  · exact h.elim
section
variable {X : Cx} {a b c e : Expr} {rest : List Expr} {pos : Pos} {wa wb wc w : DE} {t u : DT}
theorem dt_tru (ha : PE X a (LE X.K W w)) (he : ∀ whole, isTrue a X.env whole = (do let v ← whole; standAt a.pos; holding [v] (truthy v)) := by intro _; rfl) : PT X a (LT X.K W (wTru w)) :=
  pt_weak (pt_truth ha he) fun σ H Q h => by
    obtain ⟨G, de, M, Qd, R, S, w, k⟩ := h
    refine ⟨G, de, M, _, R, S, w, fun x M1 G1 H1 v q e1 R1 r1 => ?_⟩
    obtain ⟨b, h1, h2⟩ := truW_ok q R1 r1
    exact ⟨b, h1, k _ _ _ _ h2 e1 R1⟩
theorem le_and {K : PySem.W.Frag} (σ : L2.St) (H : Hp) (Q : Bool → Hp → Prop) (h : LT K W (wAnd t u) σ H Q) : tAnd (LT K W t) (LT K W u) σ H Q := by
  obtain ⟨G, de, M, Qd, R, S, w, k⟩ := h
  refine ⟨G, de, M, _, R, S, w, fun b M1 G1 H1 q e1 R1 => ?_⟩
  cases b with
  | true => exact ⟨G1, de, M1, Qd, R1, S.ex e1, q.yes, fun b M2 G2 H2 q2 e2 R2 => k b M2 G2 H2 q2 (e1.trans e2) R2⟩
  | false => exact k _ _ _ _ q.no e1 R1
theorem le_or {K : PySem.W.Frag} (σ : L2.St) (H : Hp) (Q : Bool → Hp → Prop) (h : LT K W (wOr t u) σ H Q) : tOr (LT K W t) (LT K W u) σ H Q := by
  obtain ⟨G, de, M, Qd, R, S, w, k⟩ := h
  refine ⟨G, de, M, _, R, S, w, fun b M1 G1 H1 q e1 R1 => ?_⟩
  cases b with
  | false => exact ⟨G1, de, M1, Qd, R1, S.ex e1, q.no, fun b M2 G2 H2 q2 e2 R2 => k b M2 G2 H2 q2 (e1.trans e2) R2⟩
  | true => exact k _ _ _ _ q.yes e1 R1
theorem dw_and1 (ha : PT X a (LT X.K W t)) : PW X (.BoolOp .And [a] pos) (LT X.K W t) := pw_and1 ha
theorem dw_or1 (ha : PT X a (LT X.K W t)) : PW X (.BoolOp .Or [a] pos) (LT X.K W t) := pw_or1 ha
theorem dw_and (ha : PT X a (LT X.K W t)) (hb : PW X (.BoolOp .And (b :: rest) pos) (LT X.K W u)) : PW X (.BoolOp .And (a :: b :: rest) pos) (LT X.K W (wAnd t u)) := pw_weak (pw_and ha hb) le_and
theorem dw_or (ha : PT X a (LT X.K W t)) (hb : PW X (.BoolOp .Or (b :: rest) pos) (LT X.K W u)) : PW X (.BoolOp .Or (a :: b :: rest) pos) (LT X.K W (wOr t u)) := pw_weak (pw_or ha hb) le_or
theorem dt_not (ha : PT X a (LT X.K W t)) : PT X (.UnaryOp .Not a pos) (LT X.K W (wNot t)) := pt_weak (pt_not ha) fun σ H Q h => by
  obtain ⟨G, de, M, Qd, R, S, w, k⟩ := h
  exact ⟨G, de, M, _, R, S, w, fun b M1 G1 H1 q e1 R1 => k _ _ _ _ q e1 R1⟩
theorem de_one {op} (h : PE X a (LE X.K W w)) : PE X (.BoolOp op [a] pos) (LE X.K W w) := pe_one h
theorem de_and (ha : PE X a (LE X.K W wa)) (hb : PE X (.BoolOp .And (b :: rest) pos) (LE X.K W wb)) : PE X (.BoolOp .And (a :: b :: rest) pos) (LE X.K W (wAndV wa wb)) := pe_weak (pe_and ha hb) fun σ H Q h => by
  obtain ⟨G, de, M, Qd, R, S, w, k⟩ := h
  refine ⟨G, de, M, _, R, S, w, fun x M1 G1 H1 v q e1 R1 r1 => ?_⟩
  obtain ⟨b, rfl, q⟩ := boolW_ok q r1
  refine ⟨b, rfl, ?_⟩
  cases b with
  | true => exact ⟨G1, de, M1, Qd, R1, S.ex e1, q.yes, k.ex e1⟩
  | false => exact (k.ex e1).done R1 q.no (.bl _)
theorem de_or (ha : PE X a (LE X.K W wa)) (hb : PE X (.BoolOp .Or (b :: rest) pos) (LE X.K W wb)) : PE X (.BoolOp .Or (a :: b :: rest) pos) (LE X.K W (wOrV wa wb)) := pe_weak (pe_or ha hb) fun σ H Q h => by
  obtain ⟨G, de, M, Qd, R, S, w, k⟩ := h
  refine ⟨G, de, M, _, R, S, w, fun x M1 G1 H1 v q e1 R1 r1 => ?_⟩
  obtain ⟨b, rfl, q⟩ := boolW_ok q r1
  refine ⟨b, rfl, ?_⟩
  cases b with
  | false => exact ⟨G1, de, M1, Qd, R1, S.ex e1, q.no, k.ex e1⟩
  | true => exact (k.ex e1).done R1 q.yes (.bl _)
theorem de_not (ha : PE X a (LE X.K W wa)) : PE X (.UnaryOp .Not a pos) (LE X.K W (wNotV wa)) := pe_weak (pe_not ha) fun σ H Q h => by
  obtain ⟨G, de, M, Qd, R, S, w, k⟩ := h
  refine ⟨G, de, M, _, R, S, w, fun x M1 G1 H1 v q e1 R1 r1 => ?_⟩
  obtain ⟨b, rfl, q⟩ := boolW_ok q r1
  exact ⟨b, rfl, (k.ex e1).done R1 q (.bl _)⟩
theorem de_if (hc : PT X c (LT X.K W t)) (ha : PE X a (LE X.K W wa)) (hb : PE X b (LE X.K W wb)) : PE X (.IfExp c a b pos) (LE X.K W (wIfE t wa wb)) := pe_weak (pe_ifExp hc ha hb) fun σ H Q h => by
  obtain ⟨G, de, M, Qd, R, S, w, k⟩ := h
  refine ⟨G, de, M, _, R, S, w, fun b M1 G1 H1 q e1 R1 => ?_⟩
  cases b with
  | true => exact ⟨G1, de, M1, Qd, R1, S.ex e1, q.yes, k.ex e1⟩
  | false => exact ⟨G1, de, M1, Qd, R1, S.ex e1, q.no, k.ex e1⟩
theorem le_chain {K : PySem.W.Frag} {r r' : D2} (σ : L2.St) (H : Hp) (Q : VK) (h : LE K W (wChain r r' wa wb wc) σ H Q) : tChain (L2r K r) (L2r K r') (LE K W wa) (LE K W wb) (LE K W wc) σ H Q := by
  obtain ⟨G, de, M, Qd, R, S, w, k⟩ := h
  refine ⟨G, de, M, _, R, S, w, fun x M1 G1 H1 v q e1 R1 r1 => ⟨G1, de, M1, _, R1, S.ex e1, q, fun y M2 G2 H2 u q2 e2 R2 r2 => ⟨G2, M2, x, y, _, R2, r1.ex e2, r2, q2, fun z M3 G3 H3 w3 q3 e3 R3 r3 => ?_⟩⟩⟩
  obtain ⟨b, rfl, q3⟩ := boolW_ok q3 r3
  refine ⟨b, rfl, ?_⟩
  have e13 := e1.trans (e2.trans e3)
  cases b with
  | true => exact ⟨G3, de, M3, _, R3, S.ex e13, q3.yes, fun z M4 G4 H4 w4 q4 e4 R4 r4 => ⟨G4, M4, y, z, Qd, R4, r2.ex (e3.trans e4), r4, q4, k.ex (e13.trans e4)⟩⟩
  | false => exact (k.ex e13).done R3 q3.no (.bl _)
theorem de_chain {op op' : CmpOp} {r r' : D2} (ho : OpR X (compareOp op) (L2r X.K r)) (ho' : OpR X (compareOp op') (L2r X.K r')) (ha : PE X a (LE X.K W wa)) (hb : PE X b (LE X.K W wb)) (hc : PE X c (LE X.K W wc))
    (hm : lastMarks [op, op'] [b, c] = false := by with_unfolding_all rfl) : PE X (.Compare a [op, op'] [b, c] pos) (LE X.K W (wChain r r' wa wb wc)) := pe_weak (pe_chain ho ho' ha hb hc hm) le_chain
theorem dt_chain {op op' : CmpOp} {r r' : D2} (ho : OpR X (compareOp op) (L2r X.K r)) (ho' : OpR X (compareOp op') (L2r X.K r')) (ha : PE X a (LE X.K W wa)) (hb : PE X b (LE X.K W wb)) (hc : PE X c (LE X.K W wc))
    (hm : lastMarks [op, op'] [b, c] = false := by with_unfolding_all rfl) : PT X (.Compare a [op, op'] [b, c] pos) (LT X.K W (wB (wChain r r' wa wb wc))) := pt_weak (pt_chain ho ho' ha hb hc hm) fun σ H Q h => le_chain σ H _ (wB_of h)
end

/-! ### statements -/
theorem SlR.set {K : PySem.W.Frag} {G : Hp} {de : DEnv} {σ : L2.St} {x : DV} {v : V} (r : RepV K G x v) (i : Nat) (S : SlR K W G de σ) : SlR K W G (de.set i (some x)) (σ.set i (some v)) := ⟨paired_set (F := RepS K G) (x := some x) (y := some v) r i S.p, S.x⟩
structure DEnds where
  nx : DEnv → DM → Prop
  rt : DQ
  bk : DEnv → DM → Prop := fun _ _ => False
  ct : DEnv → DM → Prop := fun _ _ => False
abbrev DS := DEnds → DEnv → DM → Prop
def NQ (K : PySem.W.Frag) (W : WX) (G : Hp) (P : DEnv → DM → Prop) (N : L2.St → Hp → Prop) : Prop := ∀ de M G' σ H, P de M → Ex G G' → RpM K G' M H → SlR K W G' de σ → N σ H
structure EQ (K : PySem.W.Frag) (W : WX) (G : Hp) (Dd : DEnds) (D : Ends) : Prop where
  nx : NQ K W G Dd.nx D.nx
  rt : PQ K G Dd.rt D.rt
  bk : NQ K W G Dd.bk D.bk
  ct : NQ K W G Dd.ct D.ct
theorem NQ.ex {K : PySem.W.Frag} {G G' : Hp} {P : DEnv → DM → Prop} {N : L2.St → Hp → Prop} (e : Ex G G') (h : NQ K W G P N) : NQ K W G' P N := fun de M G2 σ H p e2 R S => h de M G2 σ H p (e.trans e2) R S
theorem EQ.ex {K : PySem.W.Frag} {G G' : Hp} {Dd : DEnds} {D : Ends} (e : Ex G G') (h : EQ K W G Dd D) : EQ K W G' Dd D := ⟨h.nx.ex e, h.rt.ex e, h.bk.ex e, h.ct.ex e⟩
theorem NQ.done {K : PySem.W.Frag} {G H : Hp} {M : DM} {de : DEnv} {σ : L2.St} {P : DEnv → DM → Prop} {N : L2.St → Hp → Prop} (h : NQ K W G P N) (R : RpM K G M H) (S : SlR K W G de σ) (p : P de M) : N σ H := h de M G σ H p (Ex.refl G) R S
def LS (K : PySem.W.Frag) (W : WX) (w : DS) : TS := fun D σ H => ∃ G de M Dd, RpM K G M H ∧ SlR K W G de σ ∧ w Dd de M ∧ EQ K W G Dd D
def wNext : DS := fun D de M => D.nx de M
def wSeq (w1 w2 : DS) : DS := fun D de M => w1 { D with nx := fun de' M' => w2 D de' M' } de M
def wBreak : DS := fun D de M => D.bk de M
def wCont : DS := fun D de M => D.ct de M
def wDrop (w : DE) : DS := fun D de M => w de M fun _ M1 => D.nx de M1
def wRet (w : DE) : DS := fun D de M => w de M D.rt
def wRetN : DS := fun D _ M => D.rt (.d .none) M
def wIf (t : DT) (a b : DS) : DS := fun D de M => t de M fun c M1 => Br c (a D de M1) (b D de M1)
def wSet (w : DE) (i : Nat) : DS := fun D de M => w de M fun x M1 => D.nx (de.set i (some x)) M1
/-- a word between: what follows is shown once -/
def wCut (w1 w2 : DS) : DS := fun D de M => ∃ Mid : DEnv → DM → Prop, w1 { D with nx := Mid } de M ∧ ∀ de' M', Mid de' M' → w2 D de' M'
/-- the list in slot i changes no more: it is data from here on -/
def wFz (i : Nat) (w : DS) : DS := fun D de M => match slot de i with
  | some (.ob p) => (match M p with
    | some (.lst xs) => (match dats xs with
      | some ds => w D (de.set i (some (.d (.list ds)))) (mset M p none)
      | none => False)
    | _ => False)
  | _ => False
section
variable {X : Cx} {st : Stmt} {rest : List Stmt} {e : Expr} {pos : Pos} {w : DE} {w1 w2 : DS} {t : DT}
theorem dss_nil : PSs X [] (LS X.K W wNext) := pss_weak pss_nil fun D σ H h => by
  obtain ⟨G, de, M, Dd, R, S, w, k⟩ := h
  exact k.nx.done R S w
theorem dss_cons (h1 : PS X st (LS X.K W w1)) (h2 : PSs X rest (LS X.K W w2)) : PSs X (st :: rest) (LS X.K W (wSeq w1 w2)) := pss_weak (pss_cons h1 h2) fun D σ H h => by
  obtain ⟨G, de, M, Dd, R, S, w, k⟩ := h
  exact ⟨G, de, M, _, R, S, w, ⟨fun de1 M1 G1 σ1 H1 q e1 R1 S1 => ⟨G1, de1, M1, Dd, R1, S1, q, k.ex e1⟩, k.rt, k.bk, k.ct⟩⟩
theorem dss_cut (h1 : PS X st (LS X.K W w1)) (h2 : PSs X rest (LS X.K W w2)) : PSs X (st :: rest) (LS X.K W (wCut w1 w2)) := pss_weak (pss_cons h1 h2) fun D σ H h => by
  obtain ⟨G, de, M, Dd, R, S, ⟨Mid, w, hm⟩, k⟩ := h
  exact ⟨G, de, M, _, R, S, w, ⟨fun de1 M1 G1 σ1 H1 q e1 R1 S1 => ⟨G1, de1, M1, Dd, R1, S1, hm _ _ q, k.ex e1⟩, k.rt, k.bk, k.ct⟩⟩
theorem dss_one (h1 : PS X st (LS X.K W w1)) : PSs X [st] (LS X.K W w1) := pss_one h1
theorem dss_fz {sts : List Stmt} (i : Nat) (h : PSs X sts (LS X.K W w1)) : PSs X sts (LS X.K W (wFz i w1)) := pss_weak h fun D σ H h => by
  obtain ⟨G, de, M, Dd, R, S, w, k⟩ := h
  unfold wFz at w
  split at w
  · rename_i p e
    split at w
    · rename_i xs e2
      split at w
      · rename_i ds e3
        obtain ⟨⟨vs, h1, h2⟩, hg⟩ := R.ob p _ e2
        have ex : Ex G (upd G p (.lst vs)) := Ex.new hg
        obtain rfl := dats_of e3
        refine ⟨upd G p (.lst vs), _, _, Dd, ⟨fun a o q => ?_, fun a o q => ?_⟩, ?_, w, k.ex ex⟩
        · by_cases z : a = p
          · subst z; rw [upd_same] at q; cases q; exact h1
          · rw [upd_ne z] at q; exact R.ex a o q
        · by_cases z : a = p
          · subst z; rw [mset_same] at q; cases q
          · rw [mset_ne z] at q
            obtain ⟨q1, q2⟩ := R.ob a o q
            exact ⟨q1.ex ex, by rw [upd_ne z]; exact q2⟩
        · obtain ⟨v, hv, rv⟩ := S.at e
          cases rv
          have S' : SlR X.K W (upd G p (.lst vs)) (de.set i (some (.d (.list ds)))) (σ.set i (some (.ref p))) := SlR.set (show RepV X.K (upd G p (.lst vs)) (.d (.list ds)) (.ref p) from (Dr.lst upd_same (DrAll.of (RepL.ex ex h2)))) i (S.ex ex)
          have e4 : σ.set i (some (.ref p)) = σ := by
            obtain ⟨hl, hv'⟩ := List.getElem?_eq_some_iff.mp hv
            rw [← hv', List.set_getElem_self]
          rw [e4] at S'
          exact S'
      · exact w.elim
    · exact w.elim
  · exact w.elim
theorem ds_pass : PS X (.Pass pos) (LS X.K W wNext) := ps_weak ps_pass fun D σ H h => by
  obtain ⟨G, de, M, Dd, R, S, w, k⟩ := h
  exact k.nx.done R S w
theorem ds_break : PS X (.Break pos) (LS X.K W wBreak) := ps_weak ps_break fun D σ H h => by
  obtain ⟨G, de, M, Dd, R, S, w, k⟩ := h
  exact k.bk.done R S w
theorem ds_continue : PS X (.Continue pos) (LS X.K W wCont) := ps_weak ps_continue fun D σ H h => by
  obtain ⟨G, de, M, Dd, R, S, w, k⟩ := h
  exact k.ct.done R S w
theorem ds_expr (he : PE X e (LE X.K W w)) (hs : swapsWith e none pos.line X.env = pure false := by rfl) : PS X (.Expr e pos) (LS X.K W (wDrop w)) := ps_weak (ps_expr he hs) fun D σ H h => by
  obtain ⟨G, de, M, Dd, R, S, w, k⟩ := h
  exact ⟨G, de, M, _, R, S, w, fun x M1 G1 H1 v q e1 R1 r1 => (k.nx.ex e1).done R1 (S.ex e1) q⟩
theorem ds_ret (he : PE X e (LE X.K W w)) : PS X (.Return (some e) pos) (LS X.K W (wRet w)) := ps_weak (ps_ret he) fun D σ H h => by
  obtain ⟨G, de, M, Dd, R, S, w, k⟩ := h
  exact ⟨G, de, M, _, R, S, w, k.rt⟩
theorem ds_retN : PS X (.Return none pos) (LS X.K W wRetN) := ps_weak ps_retN fun D σ H h => by
  obtain ⟨G, de, M, Dd, R, S, w, k⟩ := h
  exact k.rt.done R w .non
theorem ds_if {c : Expr} {a b : List Stmt} (hc : PT X c (LT X.K W t)) (ha : PSs X a (LS X.K W w1)) (hb : PSs X b (LS X.K W w2)) : PS X (.If c a b pos) (LS X.K W (wIf t w1 w2)) := ps_weak (ps_if hc ha hb) fun D σ H h => by
  obtain ⟨G, de, M, Dd, R, S, w, k⟩ := h
  refine ⟨G, de, M, _, R, S, w, fun b M1 G1 H1 q e1 R1 => ?_⟩
  cases b with
  | true => exact ⟨G1, de, M1, Dd, R1, S.ex e1, q.yes, k.ex e1⟩
  | false => exact ⟨G1, de, M1, Dd, R1, S.ex e1, q.no, k.ex e1⟩
theorem ds_set {i : Nat} {x : Str} {pos' : Pos} (hN : X.N.Nodup) (he : PE X e (LE X.K W w)) (hi : X.N[i]? = some x := by rfl) (hx : Loc X.env.scope x := by first | exact Or.inl rfl | exact Or.inr rfl) (hs : swapsWith e (some (.Name x pos')) pos.line X.env = pure false := by rfl)
    (hf : X.fn x = true ∨ X.env.scope.names.lookup x = some .local := by first | exact .inl rfl | exact .inr rfl | assumption) : PS X (.Assign [.Name x pos'] e pos) (LS X.K W (wSet w i)) := ps_weak (ps_set hN hi hx he hs hf) fun D σ H h => by
  obtain ⟨G, de, M, Dd, R, S, w, k⟩ := h
  exact ⟨G, de, M, _, R, S, w, fun x M1 G1 H1 v q e1 R1 r1 => (k.nx.ex e1).done R1 (SlR.set r1 i (S.ex e1)) q⟩
end

/-! ### targets -/
inductive DTg where
  | one (i : Nat) | many (is : List Nat) | manyL (is : List Nat)
def itemsD (x : DV) (M : DM) : Option (List DV) := match x with
  | .d (.tuple l) => some (l.map DV.d)
  | .k (.tuple l) => some (l.map kEl)
  | .ob a => (match M a with
    | some (.tup xs) => some xs
    | _ => none)
  | _ => none
def itemsDL (x : DV) (M : DM) : Option (List DV) := match x with
  | .d (.list l) => some (l.map DV.d)
  | .ob a => (match M a with
    | some (.lst xs) => some xs
    | _ => none)
  | _ => none
def setAll : List Nat → List DV → DEnv → (DEnv → Prop) → Prop
  | [], [], de, k => k de
  | i :: is, x :: xs, de, k => setAll is xs (de.set i (some x)) k
  | _, _, _, _ => False
def tgD (g : DTg) (x : DV) (M : DM) (de : DEnv) (k : DEnv → Prop) : Prop := match g with
  | .one i => k (de.set i (some x))
  | .many is => (match itemsD x M with
    | some xs => setAll is xs de k
    | none => False)
  | .manyL is => (match itemsDL x M with
    | some xs => setAll is xs de k
    | none => False)
def gNames : List Nat → TGs
  | [] => gNil
  | i :: is => gCons (gName i) (gNames is)
def tgOf (K : PySem.W.Frag) : DTg → TG
  | .one i => gName i
  | .many is => gTup K is.length (gNames is)
  | .manyL is => gUnl K is.length (gNames is)
theorem setAll_len : ∀ {is : List Nat} {xs : List DV} {de : DEnv} {k : DEnv → Prop}, setAll is xs de k → xs.length = is.length
  | [], [], _, _, _ => rfl
  | _ :: is, _ :: xs, _, _, h => congrArg (· + 1) (setAll_len (is := is) (xs := xs) h)
  | [], _ :: _, _, _, h => False.elim h
  | _ :: _, [], _, _, h => False.elim h
theorem gNames_ok {K : PySem.W.Frag} {G H : Hp} {Q : L2.St → Hp → Prop} {k : DEnv → Prop} : ∀ {is : List Nat} {xs : List DV} {vs : List V} {de : DEnv} {σ : L2.St}, setAll is xs de k → RepL K G xs vs → SlR K W G de σ → (∀ de' σ', k de' → SlR K W G de' σ' → (∀ vs', (∀ i ∈ is, i ∈ vs') → wipe σ' vs' = wipe σ vs') → Q σ' H) → gNames is vs σ H Q
  | [], [], _, de, σ, h, .nil, S, q => ⟨rfl, q de σ h S fun _ _ => rfl⟩
  | i :: is, x :: xs, _, de, σ, h, .cons r t, S, q => ⟨_, _, rfl, gNames_ok (is := is) (xs := xs) h t (SlR.set r i S) fun de' σ' kd S' hw => q de' σ' kd S' fun vs' hv => by
    rw [hw vs' fun j hj => hv j (List.mem_cons_of_mem _ hj)]
    exact wipe_set (hv i List.mem_cons_self)⟩
where
  wipe_set {σ : L2.St} {i : Nat} {x : Option V} : ∀ {vs : List Nat}, i ∈ vs → wipe (σ.set i x) vs = wipe σ vs := by
    have key : ∀ (vs : List Nat) (σ : L2.St) (i : Nat) (x y : Option V), (wipe (σ.set i x) vs).set i y = (wipe σ vs).set i y := by
      intro vs
      induction vs with
      | nil => intro σ i x y; show (σ.set i x).set i y = σ.set i y; rw [List.set_set]
      | cons v vs ih =>
        intro σ i x y
        show ((wipe (σ.set i x) vs).set v none).set i y = ((wipe σ vs).set v none).set i y
        by_cases z : v = i
        · subst z; rw [ih σ v x none]
        · rw [List.set_comm _ _ z, ih σ i x y, List.set_comm _ _ (Ne.symm z)]
    intro vs
    induction vs with
    | nil => intro h; cases h
    | cons v vs ih =>
      intro h
      show (wipe (σ.set i x) vs).set v none = (wipe σ vs).set v none
      rcases List.mem_cons.mp h with z | z
      · subst z; exact key vs σ i x none
      · rw [ih z]
def DTg.slots : DTg → List Nat
  | .one i => [i]
  | .many is => is
  | .manyL is => is
theorem tg_ok {K : PySem.W.Frag} {G H : Hp} {M : DM} {Q : L2.St → Hp → Prop} {k : DEnv → Prop} {g : DTg} {x : DV} {v : V} {de : DEnv} {σ : L2.St} (h : tgD g x M de k) (R : RpM K G M H) (r : RepV K G x v) (S : SlR K W G de σ)
    (q : ∀ de' σ', k de' → SlR K W G de' σ' → (∀ vs', (∀ i ∈ g.slots, i ∈ vs') → wipe σ' vs' = wipe σ vs') → Q σ' H) : tgOf K g v σ H Q := by
  cases g with
  | one i => exact q _ _ h (SlR.set r i S) fun vs' hv => gNames_ok.wipe_set (hv i (by simp [DTg.slots]))
  | many is =>
    have h' : (match itemsD x M with
    | some xs => setAll is xs de k
    | none => False) := h
    split at h'
    · rename_i xs e
      have hl := setAll_len h'
      have done : ∀ {a : Addr} {vs : List V}, v = .ref a → SqT K H a vs → RepL K G xs vs → tgOf K (.many is) v σ H Q := fun {a vs} ev hs rl => ⟨a, vs, ev, hs, by rw [← hl]; exact (paired_len rl).symm, gNames_ok h' rl S q⟩
      unfold itemsD at e
      split at e
      · cases e
        cases r with
        | tup hg hs => exact done rfl (SqT.of (R.ex _ _ hg)) hs.rep
      · cases e
        cases r with
        | tup hg hs => exact done rfl (SqT.ex R.ex hg) (DpAll.kEl hs)
      · rename_i a
        cases r
        split at e
        · rename_i ys e2
          cases e
          obtain ⟨⟨vs, g1, g2⟩, _⟩ := R.ob a _ e2
          exact done rfl (SqT.of g1) g2
        · cases e
      · cases e
    · exact h'.elim
  | manyL is =>
    have h' : (match itemsDL x M with
    | some xs => setAll is xs de k
    | none => False) := h
    split at h'
    · rename_i xs e
      have hl := setAll_len h'
      have done : ∀ {a : Addr} {vs : List V}, v = .ref a → SqL K H a vs → RepL K G xs vs → tgOf K (.manyL is) v σ H Q := fun {a vs} ev hs rl => ⟨a, vs, ev, hs, by rw [← hl]; exact (paired_len rl).symm, gNames_ok h' rl S q⟩
      unfold itemsDL at e
      split at e
      · cases e
        cases r with
        | lst hg hs => exact done rfl (SqL.of (R.ex _ _ hg)) hs.rep
      · rename_i a
        cases r
        split at e
        · rename_i ys e2
          cases e
          obtain ⟨⟨vs, g1, g2⟩, _⟩ := R.ob a _ e2
          exact done rfl (SqL.of g1) g2
        · cases e
      · cases e
    · exact h'.elim
/-- a, b = e -/
def wAsg (w : DE) (g : DTg) : DS := fun D de M => w de M fun x M1 => tgD g x M1 de fun de' => D.nx de' M1
section
variable {X : Cx} {e tg : Expr} {pos : Pos} {w : DE}
theorem ds_asg {g : DTg} (he : PE X e (LE X.K W w)) (hg : PG X tg (tgOf X.K g)) (hs : swapsWithSole [tg] e pos.line X.env = pure false := by rfl) (hw : swappedStores [tg] e X.env = pure none := by rfl)
    (h1 : (assignEach [tg] X.env).map (·.2) = [assign tg X.env] := by rfl) : PS X (.Assign [tg] e pos) (LS X.K W (wAsg w g)) := ps_weak (ps_asg he hg hs hw h1) fun D σ H h => by
  obtain ⟨G, de, M, Dd, R, S, w, k⟩ := h
  exact ⟨G, de, M, _, R, S, w, fun x M1 G1 H1 v q e1 R1 r1 => tg_ok q R1 r1 (S.ex e1) fun de' σ' kd S' _ => (k.nx.ex e1).done R1 S' kd⟩
end

/-! ### what is walked -/
structure ItR (K : PySem.W.Frag) (J : It) (G : Hp) (xs : List DV) (A : DM → Prop) : Prop where
  go : ∀ i G' M H, Ex G G' → RpM K G' M H → A M → i < xs.length → J.go i H
  stop : ∀ G' M H, Ex G G' → RpM K G' M H → A M → J.stop xs.length H
  yld : ∀ i G' M H v H', Ex G G' → RpM K G' M H → A M → i < xs.length → J.yld i H v H' → ∃ x G'', xs[i]? = some x ∧ Ex G' G'' ∧ RpM K G'' M H' ∧ RepV K G'' x v
abbrev DI := DEnv → DM → (List DV → (DM → Prop) → DM → Prop) → Prop
def LI (K : PySem.W.Frag) (W : WX) (w : DI) : TI := fun σ H R => ∃ G de M Rd, RpM K G M H ∧ SlR K W G de σ ∧ w de M Rd ∧ ∀ xs A M' G' H' J, Rd xs A M' → Ex G G' → RpM K G' M' H' → ItR K J G' xs A → R J H'
def seqD (x : DV) (M : DM) (k : List DV → (DM → Prop) → Prop) : Prop := match x with
  | .d (.list l) => k (l.map DV.d) fun _ => True
  | .d (.tuple l) => k (l.map DV.d) fun _ => True
  | .k (.list l) => k (l.map kEl) fun _ => True
  | .k (.tuple l) => k (l.map kEl) fun _ => True
  | .d (.str z) => k (z.cps.toList.map fun c => .d (.str ⟨#[c]⟩)) fun _ => True
  | .ob a => (match M a with
    | some (.lst xs) => k xs fun M => M a = some (.lst xs)
    | some (.tup xs) => k xs fun M => M a = some (.tup xs)
    | _ => False)
  | _ => False
def wIt (w : DE) : DI := fun de M R => w de M fun x M1 => seqD x M1 fun xs A => R xs A M1
def wRng (w : DE) : DI := fun de M R => w de M fun x M1 => match x with
  | .d (.int n) => -(2 ^ 62) ≤ n ∧ n < 2 ^ 62 ∧ R ((List.range n.toNat).map fun (i : Nat) => .d (.int (i : Int))) (fun _ => True) M1
  | _ => False
def wRng2 (w1 w2 : DE) : DI := fun de M R => w1 de M fun x M1 => w2 de M1 fun y M2 => match x, y with
  | .d (.int a), .d (.int b) => (-(2 ^ 62) ≤ a ∧ a < 2 ^ 62 ∧ -(2 ^ 62) ≤ b ∧ b < 2 ^ 62) ∧ R ((List.range (b - a).toNat).map fun (i : Nat) => .d (.int (a + (i : Int)))) (fun _ => True) M2
  | _, _ => False
theorem itL {K : PySem.W.Frag} {a : Addr} {G : Hp} {xs : List DV} {vs : List V} {A : DM → Prop} (h : ∀ G' M H, Ex G G' → RpM K G' M H → A M → SqL K H a vs ∧ RepL K G' xs vs) : ItR K (Itl K a) G xs A where
  go := fun i G' M H e R ha hi => by
    obtain ⟨h1, h2⟩ := h G' M H e R ha
    obtain ⟨v, hv, _⟩ := paired_at h2 (List.getElem?_eq_getElem hi)
    exact ⟨vs, v, h1, hv⟩
  stop := fun G' M H e R ha => by
    obtain ⟨h1, h2⟩ := h G' M H e R ha
    exact ⟨vs, h1, by rw [paired_len h2]; exact Nat.le_refl _⟩
  yld := fun i G' M H v H' e R ha hi y => by
    obtain ⟨h1, h2⟩ := h G' M H e R ha
    obtain ⟨rfl, y⟩ := y
    obtain ⟨x, hx, r⟩ := paired_at' h2 (y vs h1)
    exact ⟨x, G', hx, Ex.refl _, R, r⟩
theorem itT {K : PySem.W.Frag} {a : Addr} {G : Hp} {xs : List DV} {vs : List V} {A : DM → Prop} (h : ∀ G' M H, Ex G G' → RpM K G' M H → A M → SqT K H a vs ∧ RepL K G' xs vs) : ItR K (Itt K a) G xs A where
  go := fun i G' M H e R ha hi => by
    obtain ⟨h1, h2⟩ := h G' M H e R ha
    obtain ⟨v, hv, _⟩ := paired_at h2 (List.getElem?_eq_getElem hi)
    exact ⟨vs, v, h1, hv⟩
  stop := fun G' M H e R ha => by
    obtain ⟨h1, h2⟩ := h G' M H e R ha
    exact ⟨vs, h1, by rw [paired_len h2]; exact Nat.le_refl _⟩
  yld := fun i G' M H v H' e R ha hi y => by
    obtain ⟨h1, h2⟩ := h G' M H e R ha
    obtain ⟨rfl, y⟩ := y
    obtain ⟨x, hx, r⟩ := paired_at' h2 (y vs h1)
    exact ⟨x, G', hx, Ex.refl _, R, r⟩
theorem itO {K : PySem.W.Frag} {a : Addr} {G : Hp} {xs : List DV} {A : DM → Prop} (h : ∀ G' M H, Ex G G' → RpM K G' M H → A M → ∃ vs, SqL K H a vs ∧ RepL K G' xs vs) : ItR K (Itl K a) G xs A where
  go := fun i G' M H e R ha hi => by
    obtain ⟨vs, h1, h2⟩ := h G' M H e R ha
    obtain ⟨v, hv, _⟩ := paired_at h2 (List.getElem?_eq_getElem hi)
    exact ⟨vs, v, h1, hv⟩
  stop := fun G' M H e R ha => by
    obtain ⟨vs, h1, h2⟩ := h G' M H e R ha
    exact ⟨vs, h1, by rw [paired_len h2]; exact Nat.le_refl _⟩
  yld := fun i G' M H v H' e R ha hi y => by
    obtain ⟨vs, h1, h2⟩ := h G' M H e R ha
    obtain ⟨rfl, y⟩ := y
    obtain ⟨x, hx, r⟩ := paired_at' h2 (y vs h1)
    exact ⟨x, G', hx, Ex.refl _, R, r⟩
theorem itOT {K : PySem.W.Frag} {a : Addr} {G : Hp} {xs : List DV} {A : DM → Prop} (h : ∀ G' M H, Ex G G' → RpM K G' M H → A M → ∃ vs, SqT K H a vs ∧ RepL K G' xs vs) : ItR K (Itt K a) G xs A where
  go := fun i G' M H e R ha hi => by
    obtain ⟨vs, h1, h2⟩ := h G' M H e R ha
    obtain ⟨v, hv, _⟩ := paired_at h2 (List.getElem?_eq_getElem hi)
    exact ⟨vs, v, h1, hv⟩
  stop := fun G' M H e R ha => by
    obtain ⟨vs, h1, h2⟩ := h G' M H e R ha
    exact ⟨vs, h1, by rw [paired_len h2]; exact Nat.le_refl _⟩
  yld := fun i G' M H v H' e R ha hi y => by
    obtain ⟨vs, h1, h2⟩ := h G' M H e R ha
    obtain ⟨rfl, y⟩ := y
    obtain ⟨x, hx, r⟩ := paired_at' h2 (y vs h1)
    exact ⟨x, G', hx, Ex.refl _, R, r⟩
theorem itS {K : PySem.W.Frag} {G : Hp} {z : Str} {A : DM → Prop} : ItR K (Its z) G (z.cps.toList.map fun c => .d (.str ⟨#[c]⟩)) A where
  go := fun i G' M H e R ha hi => by
    show i < z.cps.size
    simpa using hi
  stop := fun G' M H e R ha => by
    show z.cps.size ≤ _
    simp
  yld := fun i G' M H v H' e R ha hi y => by
    obtain ⟨rfl, c, hc, rfl⟩ := y
    refine ⟨.d (.str ⟨#[c]⟩), G', ?_, Ex.refl _, R, .str _⟩
    rw [List.getElem?_map]
    have : z.cps.toList[i]? = some c := by simpa using hc
    rw [this] <;> rfl
theorem itR {K : PySem.W.Frag} {G : Hp} {lo : Int} {n : Nat} {A : DM → Prop} : ItR K (Itr lo n) G ((List.range n).map fun (i : Nat) => .d (.int (lo + (i : Int)))) A where
  go := fun i G' M H e R ha hi => by
    show i < n
    simpa using hi
  stop := fun G' M H e R ha => by
    show n ≤ _
    simp
  yld := fun i G' M H v H' e R ha hi y => by
    obtain ⟨rfl, rfl⟩ := y
    have hn : i < n := by simpa using hi
    refine ⟨.d (.int (lo + (i : Int))), G', ?_, Ex.refl _, R, .int _⟩
    rw [List.getElem?_map, List.getElem?_range hn] <;> rfl
section
variable {X : Cx} {tg e a b : Expr} {w w1 w2 : DE}
theorem pi_weak {iter : Expr} {t t' : TI} (h : PI X tg iter t) (w : ∀ σ H R, t' σ H R → t σ H R) : PI X tg iter t' := ⟨fun pins s σ H R I q => h.run pins s σ H R I (w σ H R q)⟩
/-- a list, a tuple, a text: by what comes -/
def iSeq (K : PySem.W.Frag) (te : TE) : TI := fun σ H R => te σ H fun v H1 => (∃ a, v = .ref a ∧ (∃ xs, SqL K H1 a xs) ∧ R (Itl K a) H1) ∨ (∃ a, v = .ref a ∧ (∃ xs, SqT K H1 a xs) ∧ R (Itt K a) H1) ∨ (∃ z, v = .str z ∧ R (Its z) H1)
theorem pi_seq {te : TE} (he : PE X e te) : PI X tg e (iSeq X.K te) := by
  refine ⟨fun pins s σ H R I h => ?_⟩
  refine thn (he.run pins s σ H _ I h) fun v s1 ⟨x, H1, I1, r1, q1⟩ => ?_
  rcases q1 with ⟨a, rfl, ⟨xs, hq⟩, q⟩ | ⟨a, rfl, ⟨xs, hq⟩, q⟩ | ⟨z, rfl, q⟩
  · cases r1
    obtain ⟨its, rv, p, hz⟩ := I1.list hq
    refine wpAny_pyIter_list p.isList ?_
    refine ⟨s1.heap.objs.size, [s1.heap.objs.size], _, _, H1, rfl, I1.kept (t' := s1.toks) fun b o e => Heap.get?_push_of_some _ e, turn_list a _, ⟨_, Heap.get?_push_size _ rfl, rfl, rfl⟩, fun b hb => ?_, q⟩
    have e : b = s1.heap.objs.size := by simpa using hb
    subst e
    exact I1.fpOk (Nat.le_refl _) (I1.hok.fresh (Nat.le_refl _))
  · cases r1
    obtain ⟨its, rv, p, hz⟩ := I1.tuple hq
    refine wpAny_pyIter_tuple (show s1.heap.IsTuple a its.toArray from p) ?_
    refine ⟨s1.heap.objs.size, [s1.heap.objs.size], _, _, H1, rfl, I1.kept (t' := s1.toks) fun b o e => Heap.get?_push_of_some _ e, turn_tuple a _, ⟨_, Heap.get?_push_size _ rfl, rfl, rfl⟩, fun b hb => ?_, q⟩
    have e : b = s1.heap.objs.size := by simpa using hb
    subst e
    exact I1.fpOk (Nat.le_refl _) (I1.hok.fresh (Nat.le_refl _))
  · obtain ⟨t, rfl⟩ := r1
    cases ha : z.cps.all (· < 128)
    · exact wpAny_pyIter_wide ha (pi_one (tk := s1.toks) I1 _ (turn_str _ z t "str_iterator" (.inr rfl)) ⟨_, Heap.get?_push_size _ rfl, rfl, rfl⟩ q)
    · exact wpAny_pyIter_ascii ha (pi_one (tk := s1.toks) I1 _ (turn_str _ z t "str_ascii_iterator" (.inl rfl)) ⟨_, Heap.get?_push_size _ rfl, rfl, rfl⟩ q)
theorem di_seq (he : PE X e (LE X.K W w)) : PI X tg e (LI X.K W (wIt w)) := pi_weak (pi_seq he) fun σ H R h => by
  obtain ⟨G, de, M, Rd, Rm, S, w, k⟩ := h
  refine ⟨G, de, M, _, Rm, S, w, fun x M1 G1 H1 v q e1 R1 r1 => ?_⟩
  unfold seqD at q
  split at q
  · cases r1 with
    | lst hg hs => exact .inl ⟨_, rfl, ⟨_, SqL.of (R1.ex _ _ hg)⟩, k _ _ _ _ _ _ q e1 R1 (itL fun G' M' H' e R _ => ⟨SqL.of (R.ex _ _ (e _ _ hg)), RepL.ex e hs.rep⟩)⟩
  · cases r1 with
    | tup hg hs => exact .inr (.inl ⟨_, rfl, ⟨_, SqT.of (R1.ex _ _ hg)⟩, k _ _ _ _ _ _ q e1 R1 (itT fun G' M' H' e R _ => ⟨SqT.of (R.ex _ _ (e _ _ hg)), RepL.ex e hs.rep⟩)⟩)
  · cases r1 with
    | lst hg hs => exact .inl ⟨_, rfl, ⟨_, SqL.ex R1.ex hg⟩, k _ _ _ _ _ _ q e1 R1 (itL fun G' M' H' e R _ => ⟨SqL.ex R.ex (SqL.ex e hg), RepL.ex e (DpAll.kEl hs)⟩)⟩
  · cases r1 with
    | tup hg hs => exact .inr (.inl ⟨_, rfl, ⟨_, SqT.ex R1.ex hg⟩, k _ _ _ _ _ _ q e1 R1 (itT fun G' M' H' e R _ => ⟨SqT.ex R.ex (SqT.ex e hg), RepL.ex e (DpAll.kEl hs)⟩)⟩)
  · cases r1
    exact .inr (.inr ⟨_, rfl, k _ _ _ _ _ _ q e1 R1 itS⟩)
  · rename_i a
    cases r1
    split at q
    · rename_i xs e
      obtain ⟨⟨vs, g1, g2⟩, _⟩ := R1.ob a _ e
      refine .inl ⟨_, rfl, ⟨_, SqL.of g1⟩, k _ _ _ _ _ _ q e1 R1 ?_⟩
      exact itO fun G' M' H' e R ha => by
        obtain ⟨⟨vs', g1', g2'⟩, _⟩ := R.ob a _ ha
        exact ⟨vs', SqL.of g1', g2'⟩
    · rename_i xs e
      obtain ⟨⟨vs, g1, g2⟩, _⟩ := R1.ob a _ e
      refine .inr (.inl ⟨_, rfl, ⟨_, SqT.of g1⟩, k _ _ _ _ _ _ q e1 R1 ?_⟩)
      exact itOT fun G' M' H' e R ha => by
        obtain ⟨⟨vs', g1', g2'⟩, _⟩ := R.ob a _ ha
        exact ⟨vs', SqT.of g1', g2'⟩
    · exact q.elim
  · exact q.elim
theorem di_rng {p pos : Pos} (hm : X.mg "range" = none) (ha : PE X a (LE X.K W w)) (hg : Gl X "range" := by rfl) (hs0 : starEach [a] X.env = (false, eval a X.env) :: starEach [] X.env := by rfl) (hs : starEach [a] X.env = [(false, eval a X.env)] := by rfl) : PI X tg (.Call (.Name "range" p) [a] [] pos) (LI X.K W (wRng w)) :=
  pi_weak (pi_range1 hg hm (pa_cons ha pa_nil hs0) hs) fun σ H R h => by
    obtain ⟨G, de, M, Rd, Rm, S, w, k⟩ := h
    refine ⟨G, de, M, _, Rm, S, w, fun x M1 G1 H1 v q e1 R1 r1 => ?_⟩
    split at q
    · rename_i n
      cases r1
      obtain ⟨q1, q2, q⟩ := q
      refine ⟨n, rfl, q1, q2, k _ _ _ _ _ _ q e1 R1 ?_⟩
      have z := itR (K := X.K) (G := G1) (lo := 0) (n := n.toNat) (A := fun _ => True)
      simpa using z
    · exact q.elim
theorem di_rng2 {p pos : Pos} (hm : X.mg "range" = none) (ha : PE X a (LE X.K W w1)) (hb : PE X b (LE X.K W w2)) (hg : Gl X "range" := by rfl) (hs0 : starEach [a, b] X.env = (false, eval a X.env) :: starEach [b] X.env := by rfl) (hs1 : starEach [b] X.env = (false, eval b X.env) :: starEach [] X.env := by rfl)
    (hs : starEach [a, b] X.env = [(false, eval a X.env), (false, eval b X.env)] := by rfl) (hs2 : starEach [b] X.env = [(false, eval b X.env)] := by rfl) : PI X tg (.Call (.Name "range" p) [a, b] [] pos) (LI X.K W (wRng2 w1 w2)) :=
  pi_weak (pi_range2 hg hm (pa_cons ha (pa_cons hb pa_nil hs1) hs0) hs hs2) fun σ H R h => by
    obtain ⟨G, de, M, Rd, Rm, S, w, k⟩ := h
    refine ⟨G, de, M, _, Rm, S, w, fun x M1 G1 H1 v q e1 R1 r1 => ⟨G1, de, M1, _, R1, S.ex e1, q, fun y M2 G2 H2 u q2 e2 R2 r2 => ?_⟩⟩
    split at q2
    · cases r2
      cases r1
      obtain ⟨q1, q2⟩ := q2
      exact ⟨_, _, rfl, q1, k _ _ _ _ _ _ q2 (e1.trans e2) R2 itR⟩
    · exact q2.elim
end

/-! ### loops -/
def wFor (wi : DI) (g : DTg) (tb : DS) : DS := fun D de M => wi de M fun xs A M1 => ∃ Inv : Nat → DEnv → DM → Prop, Inv 0 de M1 ∧ (∀ i de M, i ≤ xs.length → Inv i de M → A M) ∧
  (∀ i x de M, xs[i]? = some x → Inv i de M → tgD g x M de fun de' => tb { D with nx := Inv (i + 1), ct := Inv (i + 1), bk := D.nx } de' M) ∧ (∀ de M, Inv xs.length de M → D.nx de M)
def wWhile (c : DT) (tb : DS) : DS := fun D de M => ∃ W : Nat → DEnv → DM → Prop, (∃ m, W m de M) ∧ ∀ m de M, W m de M →
  c de M fun b M1 => Br b (tb { D with nx := fun de' M' => ∃ m', m' < m ∧ W m' de' M', ct := fun de' M' => ∃ m', m' < m ∧ W m' de' M', bk := D.nx } de M1) (D.nx de M1)
def noW : WX := fun _ _ _ _ => False
/-- within a comprehension nothing is raised -/
def DEnv.calm (de : DEnv) : DEnv := ⟨de.sl, fun _ _ _ _ => False⟩
theorem SlR.calm {K : PySem.W.Frag} {G : Hp} {de : DEnv} {σ : L2.St} (S : SlR K W G de σ) : SlR K noW G de.calm σ := ⟨S.p, fun _ _ _ _ _ _ _ _ _ q => q.elim⟩
def wipeD (de : DEnv) : List Nat → DEnv
  | [] => de
  | v :: vs => (wipeD de vs).set v none
theorem SlR.wipe {K : PySem.W.Frag} {G : Hp} {de : DEnv} {σ : L2.St} (S : SlR K W G de σ) : ∀ vs : List Nat, SlR K W G (wipeD de vs) (L2.wipe σ vs)
  | [] => S
  | v :: vs => ⟨paired_set (F := RepS K G) (x := none) (y := none) trivial v (SlR.wipe S vs).p, (SlR.wipe S vs).x⟩
/-- a new list of data that nobody changes is data; with true it stays an object -/
def frz : Bool → List DV → Option (List PyData)
  | true, _ => none
  | false, acc => dats acc
theorem frz_some {mu : Bool} {acc : List DV} {ds : List PyData} (h : frz mu acc = some ds) : dats acc = some ds := by
  cases mu with
  | true => cases h
  | false => exact h
/-- a comprehension: D the new list, Inv by the turn and what it holds -/
def wLc (mu : Bool) (wi : DI) (g : DTg) (tt : DT) (te : DE) (vs : List Nat) : DE := fun de M Q => wi de M fun xs A M1 => ∀ D, M1 D = none → ∃ Inv : Nat → List DV → DM → Prop, Inv 0 [] (mset M1 D (some (.lst []))) ∧
  (∀ i acc M, i ≤ xs.length → Inv i acc M → A M ∧ M D = some (.lst acc) ∧ acc.length ≤ i) ∧ xs.length < sizeLine ∧
  (∀ i x acc M, xs[i]? = some x → Inv i acc M → tgD g x M (wipeD de.calm vs) fun de2 => tt de2 M fun b M3 => Br b (te de2 M3 fun y M4 => M4 D = some (.lst acc) ∧ Inv (i + 1) (acc ++ [y]) (mset M4 D (some (.lst (acc ++ [y]))))) (Inv (i + 1) acc M3)) ∧
  (∀ acc M, Inv xs.length acc M → match frz mu acc with
    | some ds => Q (.d (.list ds)) (mset M D none)
    | none => Q (.ob D) M)
section
variable {X : Cx} {tg iter elt : Expr} {body : List Stmt} {ifs : List Expr} {pos : Pos} {wi : DI} {g : DTg} {tb : DS} {c : DT} {te : DE} {tt : DT}
theorem ds_for (hp : PassesOwn (model X.prog X.w) X.A X.env X.xe) (hc : X.calm = true) (hi : PI X tg iter (LI X.K W wi)) (hg : PG X tg (tgOf X.K g)) (hb : PSs X body (LS X.K W tb))
    (hs : ∀ x, foldedSetIterable iter X.env x = pure x := by intro _; rfl) : PS X (.For tg iter body [] pos) (LS X.K W (wFor wi g tb)) := ps_weak (ps_for hp hc hi hg hb hs) fun D σ H h => by
  obtain ⟨G, de, M, Dd, R, S, w, k⟩ := h
  refine ⟨G, de, M, _, R, S, w, fun xs A M1 G1 H1 J q e1 R1 it => ?_⟩
  obtain ⟨Inv, h0, ha, hs, hd⟩ := q
  let PW : Nat → L2.St → Hp → Prop := fun i σ H => ∃ G' de' M', Ex G1 G' ∧ RpM X.K G' M' H ∧ SlR X.K W G' de' σ ∧ Inv i de' M'
  refine ⟨fun i m σ H => m = xs.length - i ∧ i ≤ xs.length ∧ PW i σ H, ⟨xs.length, by simp, Nat.zero_le _, G1, de, M1, Ex.refl _, R1, S.ex e1, h0⟩, ?_⟩
  rintro i m σ' H' ⟨rfl, hi, G2, de2, M2, e2, R2, S2, iv⟩
  have k2 := k.ex (e1.trans e2)
  by_cases hlt : i < xs.length
  · refine .inr ⟨it.go i G2 M2 H' e2 R2 (ha i _ _ hi iv) hlt, PW (i + 1), fun σ3 H3 p3 => ⟨xs.length - (i + 1), by omega, rfl, hlt, p3⟩, fun v H3 y => ?_⟩
    obtain ⟨x, G3, hx, e3, R3, r3⟩ := it.yld i G2 M2 H' v H3 e2 R2 (ha i _ _ hi iv) hlt y
    refine tg_ok (hs i x _ _ hx iv) R3 r3 (S2.ex e3) fun de4 σ4 kd S4 _ => ?_
    have e13 := e2.trans e3
    exact ⟨G3, de4, M2, _, R3, S4, kd, ⟨fun de5 M5 G5 σ5 H5 p e5 R5 S5 => ⟨G5, de5, M5, e13.trans e5, R5, S5, p⟩, (k2.ex e3).rt, (k2.ex e3).nx, fun de5 M5 G5 σ5 H5 p e5 R5 S5 => ⟨G5, de5, M5, e13.trans e5, R5, S5, p⟩⟩⟩
  · have e : i = xs.length := by omega
    subst e
    exact .inl ⟨it.stop G2 M2 H' e2 R2 (ha _ _ _ hi iv), k2.nx.done R2 S2 (hd _ _ iv)⟩
theorem ds_while (hp : PassesOwn (model X.prog X.w) X.A X.env X.xe) (hc : PT X elt (LT X.K W c)) (hb : PSs X body (LS X.K W tb)) : PS X (.While elt body [] pos) (LS X.K W (wWhile c tb)) := ps_weak (ps_while hp hc hb) fun D σ H h => by
  obtain ⟨G, de, M, Dd, R, S, ⟨Wt, ⟨m0, w0⟩, turn⟩, k⟩ := h
  refine ⟨fun m σ H => ∃ G' de' M', Ex G G' ∧ RpM X.K G' M' H ∧ SlR X.K W G' de' σ ∧ Wt m de' M', ⟨m0, G, de, M, Ex.refl _, R, S, w0⟩, ?_⟩
  rintro m σ1 H1 ⟨G1, de1, M1, e1, R1, S1, w1⟩
  refine ⟨G1, de1, M1, _, R1, S1, turn m de1 M1 w1, fun b M2 G2 H2 q e2 R2 => ?_⟩
  have k2 := k.ex (e1.trans e2)
  cases b with
  | true =>
    refine ⟨fun σ' H' => ∃ m', m' < m ∧ ∃ G' de' M', Ex G G' ∧ RpM X.K G' M' H' ∧ SlR X.K W G' de' σ' ∧ Wt m' de' M', fun σ' H' h => h, ?_⟩
    have e12 := e1.trans e2
    exact ⟨G2, de1, M2, _, R2, S1.ex e2, q.yes, ⟨fun de5 M5 G5 σ5 H5 ⟨m', hm, p⟩ e5 R5 S5 => ⟨m', hm, G5, de5, M5, e12.trans e5, R5, S5, p⟩, k2.rt, k2.nx, fun de5 M5 G5 σ5 H5 ⟨m', hm, p⟩ e5 R5 S5 => ⟨m', hm, G5, de5, M5, e12.trans e5, R5, S5, p⟩⟩⟩
  | false => exact k2.nx.done R2 (S1.ex e2) q.no
theorem le_lc {K : PySem.W.Frag} {vs : List Nat} {mu : Bool} (hv : ∀ i ∈ g.slots, i ∈ vs) (σ : L2.St) (H : Hp) (Q : VK) (h : LE K W (wLc mu wi g tt te vs) σ H Q) : tLc (LI K W wi) (tgOf K g) (LT K noW tt) (LE K noW te) vs σ H Q := by
  obtain ⟨G, de, M, Qd, R, S, w, k⟩ := h
  refine ⟨G, de, M, _, R, S, w, fun xs A M1 G1 H1 J q e1 R1 it D hD => ?_⟩
  obtain ⟨Inv, h0, ha, hz, hs, hd⟩ := q D (R1.mnone hD)
  have gD := R1.gnone hD
  let PW : Nat → Hp → Prop := fun i H => ∃ G' acc M', Ex G1 G' ∧ RpM K G' M' H ∧ Inv i acc M'
  refine ⟨fun i m H => m = xs.length - i ∧ i ≤ xs.length ∧ PW i H, ⟨xs.length, by simp, Nat.zero_le _, G1, [], _, Ex.refl _, R1.put (o := .lst []) gD ⟨[], upd_same, .nil⟩, h0⟩, ?_⟩
  rintro i m H' ⟨rfl, hi, G2, acc, M2, e2, R2, iv⟩
  have k2 := k.ex (e1.trans e2)
  obtain ⟨ha1, ha2, ha3⟩ := ha i _ _ hi iv
  by_cases hlt : i < xs.length
  · refine .inr ⟨it.go i G2 M2 H' e2 R2 ha1 hlt, PW (i + 1), fun H3 p3 => ⟨xs.length - (i + 1), by omega, rfl, hlt, p3⟩, fun v H3 y => ?_⟩
    obtain ⟨x, G3, hx, e3, R3, r3⟩ := it.yld i G2 M2 H' v H3 e2 R2 ha1 hlt y
    have e13 := e2.trans e3
    refine tg_ok (hs i x _ _ hx iv) R3 r3 ((S.ex (e1.trans e13)).calm.wipe vs) fun de4 σ4 kd S4 hw => ⟨?_, ?_⟩
    · rw [hw vs hv]
      exact wipe_wipe σ vs
    · refine ⟨G3, de4, M2, _, R3, S4, kd, fun b M5 G5 H5 q5 e5 R5 => ?_⟩
      cases b with
      | true =>
        refine ⟨G5, de4, M5, _, R5, S4.ex e5, q5.yes, fun y M6 G6 H6 u q6 e6 R6 r6 => ?_⟩
        obtain ⟨q6, q7⟩ := q6
        obtain ⟨⟨ws, g1, g2⟩, g3⟩ := R6.ob D _ q6
        refine ⟨ws, g1, by rw [← paired_len g2]; omega, G6, _, _, e13.trans (e5.trans e6), R6.put (o := .lst (acc ++ [y])) g3 ⟨_, upd_same, paired_app g2 (.cons r6 .nil)⟩, q7⟩
      | false => exact ⟨G5, _, _, e13.trans e5, R5, q5.no⟩
  · have e : i = xs.length := by omega
    subst e
    refine .inl ⟨it.stop G2 M2 H' e2 R2 ha1, ?_⟩
    have q := hd _ _ iv
    obtain ⟨⟨ws, g1, g2⟩, g3⟩ := R2.ob D _ ha2
    split at q
    · rename_i ds e
      obtain rfl := dats_of (frz_some e)
      have ex : Ex G2 (upd G2 D (.lst ws)) := Ex.new g3
      refine k2 _ _ (upd G2 D (.lst ws)) H' _ q ex ⟨fun a o q => ?_, fun a o q => ?_⟩ (Dr.lst upd_same (DrAll.of (RepL.ex ex g2)))
      · by_cases z : a = D
        · subst z; rw [upd_same] at q; cases q; exact g1
        · rw [upd_ne z] at q; exact R2.ex a o q
      · by_cases z : a = D
        · subst z; rw [mset_same] at q; cases q
        · rw [mset_ne z] at q
          obtain ⟨q1, q2⟩ := R2.ob a o q
          exact ⟨q1.ex ex, by rw [upd_ne z]; exact q2⟩
    · exact k2.done R2 q rfl
where
  wipe_wipe (σ : L2.St) : ∀ vs : List Nat, L2.wipe (L2.wipe σ vs) vs = L2.wipe σ vs := by
    have key : ∀ (vs : List Nat) (σ : L2.St) (i : Nat), L2.wipe (σ.set i none) vs = (L2.wipe σ vs).set i none := by
      intro vs
      induction vs with
      | nil => intro σ i; rfl
      | cons v vs ih =>
        intro σ i
        show (L2.wipe (σ.set i none) vs).set v none = ((L2.wipe σ vs).set v none).set i none
        rw [ih]
        by_cases z : i = v
        · subst z; rfl
        · rw [List.set_comm _ _ z]
    intro vs
    induction vs with
    | nil => rfl
    | cons v vs ih =>
      show (L2.wipe ((L2.wipe σ vs).set v none) vs).set v none = (L2.wipe σ vs).set v none
      rw [key, ih, List.set_set]
end
end DL

set_option Elab.async false
set_option linter.all false
set_option maxRecDepth 100000
set_option maxHeartbeats 4000000
/-! DL6: built-ins, methods, stores, dicts, defs. -/
namespace DL
open PySem PySem.Spec L2
variable {W : WX}

/-! ### built-ins -/
def lenW (x : DV) (M : DM) (k : Nat → Prop) : Prop := match x with
  | .d (.list l) => k l.length
  | .d (.tuple l) => k l.length
  | .k (.list l) => k l.length
  | .k (.tuple l) => k l.length
  | .d (.str z) => z.length ≤ sizeLine ∧ k z.length
  | .ob a => (match M a with
    | some (.lst xs) => k xs.length
    | some (.tup xs) => k xs.length
    | some (.dK kvs) => k kvs.length
    | _ => False)
  | _ => False
def bLen : DC := fun xs M Q => match xs with
  | [x] => lenW x M fun n => Q (.d (.int (n : Int))) M
  | _ => False
def bInt : DC := fun xs M Q => match xs with
  | [.d (.int i)] => Q (.d (.int i)) M
  | [.d (.bool b)] => Q (.d (.int (if b then 1 else 0))) M
  | _ => False
def bAbs : DC := fun xs M Q => match xs with
  | [.d (.int i)] => Q (.d (.int (if i < 0 then -i else i))) M
  | _ => False
def bStr : DC := fun xs M Q => match xs with
  | [.d (.int i)] => i.natAbs.log2 < 1920 ∧ Q (.d (.str (toString i))) M
  | [.d (.str s)] => Q (.d (.str s)) M
  | _ => False
def bMax : DC := fun xs M Q => match xs with
  | [.d (.int i), .d (.int j)] => Q (.d (.int (if j > i then j else i))) M
  | _ => False
def bMin : DC := fun xs M Q => match xs with
  | [.d (.int i), .d (.int j)] => Q (.d (.int (if j < i then j else i))) M
  | _ => False
/-- list(x), data -/
def bList : DC := fun xs M Q => match xs with
  | [.d (.list l)] => Q (.d (.list l)) M
  | [.d (.tuple l)] => Q (.d (.list l)) M
  | [.ob a] => (match M a with
    | some (.lst ys) => (match dats ys with
      | some ds => Q (.d (.list ds)) M
      | none => ∀ p, M p = none → Q (.ob p) (mset M p (some (.lst ys))))
    | _ => False)
  | _ => False
/-- list(x), to be changed -/
def bListM : DC := fun xs M Q => match xs with
  | [.d (.list l)] => ∀ p, M p = none → Q (.ob p) (mset M p (some (.lst (l.map DV.d))))
  | [.d (.tuple l)] => ∀ p, M p = none → Q (.ob p) (mset M p (some (.lst (l.map DV.d))))
  | [.ob a] => (match M a with
    | some (.lst ys) => ∀ p, M p = none → Q (.ob p) (mset M p (some (.lst ys)))
    | _ => False)
  | _ => False
def typW (x : DV) (M : DM) (k : String → Prop) : Prop := match x with
  | .d .none => k "NoneType"
  | .d (.bool _) => k "bool"
  | .d (.int _) => k "int"
  | .d (.str _) => k "str"
  | .d (.list _) => k "list"
  | .d (.tuple _) => k "tuple"
  | .ob a => (match M a with
    | some (.lst _) => k "list"
    | some (.tup _) => k "tuple"
    | some (.dK _) => k "dict"
    | some (.dT _) => k "dict"
    | _ => False)
  | _ => False
/-- isinstance(x, T), T a built-in class -/
def bIsi : DC := fun xs M Q => match xs with
  | [x, .v (.ty T)] => typW x M fun t => ∃ b, kitB t T = some b ∧ Q (.d (.bool b)) M
  | _ => False
section
variable {X : Cx}
theorem repL1 {K : PySem.W.Frag} {G : Hp} {x : DV} {vs : List V} (h : RepL K G [x] vs) : ∃ v, vs = [v] ∧ RepV K G x v := by
  cases h with
  | cons r t => cases t; exact ⟨_, rfl, r⟩
theorem repL2 {K : PySem.W.Frag} {G : Hp} {x y : DV} {vs : List V} (h : RepL K G [x, y] vs) : ∃ v u, vs = [v, u] ∧ RepV K G x v ∧ RepV K G y u := by
  cases h with
  | cons r t => cases t with
    | cons r' t => cases t; exact ⟨_, _, rfl, r, r'⟩
theorem b_len : CallR X (.builtin "len") (LC X.K bLen) := call_weak (call_len.or call_lenD) fun vs H Q q => by
  obtain ⟨G, M, xs, Qd, R, rs, q, k⟩ := q
  unfold bLen at q; split at q
  · obtain ⟨v, rfl, r⟩ := repL1 rs
    unfold lenW at q; split at q
    · cases r with
      | lst hg hs => exact .inl ⟨_, _, rfl, .inl ⟨_, SqL.of (R.ex _ _ hg), hs.len.symm⟩, k.done R q (.int _)⟩
    · cases r with
      | tup hg hs => exact .inl ⟨_, _, rfl, .inr ⟨_, SqT.of (R.ex _ _ hg), hs.len.symm⟩, k.done R q (.int _)⟩
    · cases r with
      | lst hg hs => exact .inl ⟨_, _, rfl, .inl ⟨_, SqL.ex R.ex hg, (DpAll.len hs).symm⟩, k.done R q (.int _)⟩
    · cases r with
      | tup hg hs => exact .inl ⟨_, _, rfl, .inr ⟨_, SqT.ex R.ex hg, (DpAll.len hs).symm⟩, k.done R q (.int _)⟩
    · cases r
      exact .inl ⟨_, _, rfl, ⟨q.1, rfl⟩, k.done R q.2 (.int _)⟩
    · rename_i a
      cases r
      split at q
      · rename_i e
        obtain ⟨⟨ws, g1, g2⟩, _⟩ := R.ob a _ e
        exact .inl ⟨_, _, rfl, .inl ⟨_, SqL.of g1, paired_len g2⟩, k.done R q (.int _)⟩
      · rename_i e
        obtain ⟨⟨ws, g1, g2⟩, _⟩ := R.ob a _ e
        exact .inl ⟨_, _, rfl, .inr ⟨_, SqT.of g1, paired_len g2⟩, k.done R q (.int _)⟩
      · rename_i e
        obtain ⟨⟨ws, g1, g2⟩, _⟩ := R.ob a _ e
        refine .inr ⟨_, _, rfl, g1, ?_⟩
        rw [← paired_len g2]
        exact k.done R q (.int _)
      · exact q.elim
    · exact q.elim
  · exact q.elim
theorem b_int : CallR X (.type "int") (LC X.K bInt) := call_weak call_int1 fun vs H Q q => by
  obtain ⟨G, M, xs, Qd, R, rs, q, k⟩ := q
  unfold bInt at q; split at q
  · obtain ⟨v, rfl, r⟩ := repL1 rs
    cases r
    exact .inl ⟨_, rfl, k.done R q (.int _)⟩
  · obtain ⟨v, rfl, r⟩ := repL1 rs
    cases r
    exact .inr ⟨_, rfl, k.done R q (.int _)⟩
  · exact q.elim
theorem b_abs : CallR X (.builtin "abs") (LC X.K bAbs) := call_weak call_abs fun vs H Q q => by
  obtain ⟨G, M, xs, Qd, R, rs, q, k⟩ := q
  unfold bAbs at q; split at q
  · obtain ⟨v, rfl, r⟩ := repL1 rs
    cases r
    exact ⟨_, rfl, k.done R q (.int _)⟩
  · exact q.elim
theorem b_str : CallR X (.type "str") (LC X.K bStr) := call_weak (call_str_int.or SkE.call_str_str) fun vs H Q q => by
  obtain ⟨G, M, xs, Qd, R, rs, q, k⟩ := q
  unfold bStr at q; split at q
  · obtain ⟨v, rfl, r⟩ := repL1 rs
    cases r
    exact .inl ⟨_, rfl, q.1, k.done R q.2 (.str _)⟩
  · obtain ⟨v, rfl, r⟩ := repL1 rs
    cases r
    exact .inr ⟨_, rfl, k.done R q (.str _)⟩
  · exact q.elim
theorem b_max (hc : X.calm = true) : CallR X (.builtin "max") (LC X.K bMax) := call_weak (call_max2 hc) fun vs H Q q => by
  obtain ⟨G, M, xs, Qd, R, rs, q, k⟩ := q
  unfold bMax at q; split at q
  · obtain ⟨v, u, rfl, r, r'⟩ := repL2 rs
    cases r; cases r'
    exact ⟨_, _, rfl, k.done R q (.int _)⟩
  · exact q.elim
theorem b_min (hc : X.calm = true) : CallR X (.builtin "min") (LC X.K bMin) := call_weak (call_min2 hc) fun vs H Q q => by
  obtain ⟨G, M, xs, Qd, R, rs, q, k⟩ := q
  unfold bMin at q; split at q
  · obtain ⟨v, u, rfl, r, r'⟩ := repL2 rs
    cases r; cases r'
    exact ⟨_, _, rfl, k.done R q (.int _)⟩
  · exact q.elim
theorem b_list : CallR X (.type "list") (LC X.K bList) := call_weak call_list_of fun vs H Q q => by
  obtain ⟨G, M, xs, Qd, R, rs, q, k⟩ := q
  unfold bList at q; split at q
  · obtain ⟨v, rfl, r⟩ := repL1 rs
    cases r with
    | lst hg hs => exact ⟨_, _, rfl, .inl (SqL.of (R.ex _ _ hg)), fun p hp => k.list R hp hs q⟩
  · obtain ⟨v, rfl, r⟩ := repL1 rs
    cases r with
    | tup hg hs => exact ⟨_, _, rfl, .inr (SqT.of (R.ex _ _ hg)), fun p hp => k.list R hp hs q⟩
  · obtain ⟨v, rfl, r⟩ := repL1 rs
    rename_i a
    cases r
    split at q
    · rename_i e
      obtain ⟨⟨ws, g1, g2⟩, _⟩ := R.ob a _ e
      split at q
      · rename_i e2
        obtain rfl := dats_of e2
        exact ⟨_, _, rfl, .inl (SqL.of g1), fun p hp => k.list R hp (DrAll.of g2) q⟩
      · exact ⟨_, _, rfl, .inl (SqL.of g1), fun p hp => k.newL R hp g2 q⟩
    · exact q.elim
  · exact q.elim
theorem b_listM : CallR X (.type "list") (LC X.K bListM) := call_weak call_list_of fun vs H Q q => by
  obtain ⟨G, M, xs, Qd, R, rs, q, k⟩ := q
  unfold bListM at q; split at q
  · obtain ⟨v, rfl, r⟩ := repL1 rs
    cases r with
    | lst hg hs => exact ⟨_, _, rfl, .inl (SqL.of (R.ex _ _ hg)), fun p hp => k.newL R hp hs.rep q⟩
  · obtain ⟨v, rfl, r⟩ := repL1 rs
    cases r with
    | tup hg hs => exact ⟨_, _, rfl, .inr (SqT.of (R.ex _ _ hg)), fun p hp => k.newL R hp hs.rep q⟩
  · obtain ⟨v, rfl, r⟩ := repL1 rs
    rename_i a
    cases r
    split at q
    · rename_i e
      obtain ⟨⟨ws, g1, g2⟩, _⟩ := R.ob a _ e
      exact ⟨_, _, rfl, .inl (SqL.of g1), fun p hp => k.newL R hp g2 q⟩
    · exact q.elim
  · exact q.elim
theorem typW_ok {K : PySem.W.Frag} {G H : Hp} {M : DM} {x : DV} {v : V} {k : String → Prop} (h : typW x M k) (R : RpM K G M H) (r : RepV K G x v) : ∃ t, TyX K H v (.type t) ∧ k t := by
  unfold typW at h
  split at h
  · cases r; exact ⟨_, .base .non, h⟩
  · cases r; exact ⟨_, .base (.bl _), h⟩
  · cases r; exact ⟨_, .base (.int _), h⟩
  · cases r; exact ⟨_, .base (.str _), h⟩
  · cases r with
    | lst hg hs => exact ⟨_, .base (.lst (R.ex _ _ hg)), h⟩
  · cases r with
    | tup hg hs => exact ⟨_, .base (.tup (R.ex _ _ hg)), h⟩
  · rename_i a
    cases r
    split at h
    · rename_i e
      obtain ⟨⟨ws, g1, g2⟩, _⟩ := R.ob a _ e
      exact ⟨_, .base (.lst g1), h⟩
    · rename_i e
      obtain ⟨⟨ws, g1, g2⟩, _⟩ := R.ob a _ e
      exact ⟨_, .base (.tup g1), h⟩
    · rename_i e
      obtain ⟨⟨ws, g1, g2⟩, _⟩ := R.ob a _ e
      exact ⟨_, .base (.dK g1), h⟩
    · rename_i e
      obtain ⟨⟨ws, g1, g2⟩, _⟩ := R.ob a _ e
      exact ⟨_, .base (.dT g1), h⟩
    · exact h.elim
  · exact h.elim
theorem b_isi : CallR X (.builtin "isinstance") (LC X.K bIsi) := call_weak call_isi fun vs H Q q => by
  obtain ⟨G, M, xs, Qd, R, rs, q, k⟩ := q
  unfold bIsi at q; split at q
  · rename_i T
    obtain ⟨v, u, rfl, r, r'⟩ := repL2 rs
    cases r'
    obtain ⟨t, h1, b, h2, h3⟩ := typW_ok q R r
    exact ⟨v, .ty T, .type t, .type T, b, rfl, .ty T, h1, kit_ty h2, k.done R h3 (.bl _)⟩
  · exact q.elim
/-- a built-in class as a value -/
theorem dty {x : Str} {T : String} {pos : Pos} (hm : X.mg x = none) (hg : Gl X x := by rfl) (hv : bootBuiltins x = some (.type T) := by decide +kernel) (hn : x ≠ "__name__" := by decide) (hd : (x == ("__debug__" : Str)) = false := by decide) : PE X (.Name x pos) (LE X.K W (wC (.v (.ty T)))) :=
  dc (pe_bltn (v := .ty T) hg hm hv rfl hn hd) fun _ => rfl
/-- a module's constant -/
theorem dglob {x : Str} {v : V} {u : Value} {d : DV} {pos : Pos} (hm : X.mg x = some u) (r : RelV v u) (rd : ∀ G, RepV X.K G d v) (hg : Gl X x := by rfl) (hd : (x == ("__debug__" : Str)) = false := by decide) : PE X (.Name x pos) (LE X.K W (wC d)) :=
  dc (pe_glob hg hm r hd) rd
end

/-! ### methods of built-in objects -/
def isLst (x : DV) (M : DM) : Prop := match x with
  | .ob a => (match M a with
    | some (.lst _) => True
    | _ => False)
  | .d (.list _) => True
  | .k (.list _) => True
  | _ => False
def isStr (x : DV) (_ : DM) : Prop := match x with
  | .d (.str _) => True
  | _ => False
def isDic (x : DV) (M : DM) : Prop := match x with
  | .ob a => (match M a with
    | some (.dK _) => True
    | some (.dT _) => True
    | _ => False)
  | _ => False
def wMt (ty : DV → DM → Prop) (r : DV → DC) (wo : DE) (wa : DA) : DE := fun de M Q => wo de M fun x M1 => ty x M1 ∧ wa de M1 fun xs M2 => r x xs M2 Q
def wMt0 (ty : DV → DM → Prop) (r : DV → DC) (wo : DE) : DE := fun de M Q => wo de M fun x M1 => ty x M1 ∧ r x [] M1 Q
/-- the receiver's type as the layer has it -/
def TyOk (T : String) (ty : DV → DM → Prop) : Prop := ∀ K G M H x v, ty x M → RpM K G M H → RepV K G x v → tyV K T v H
theorem isLst_ok : TyOk "list" isLst := fun K G M H x v h R r => by
  unfold isLst at h
  split at h
  · rename_i a
    cases r
    split at h
    · rename_i e
      obtain ⟨⟨ws, g1, g2⟩, _⟩ := R.ob a _ e
      exact .inl ⟨rfl, _, SqL.of g1⟩
    · exact h.elim
  · cases r with
    | lst hg hs => exact .inl ⟨rfl, _, SqL.of (R.ex _ _ hg)⟩
  · cases r with
    | lst hg hs => exact .inl ⟨rfl, _, SqL.ex R.ex hg⟩
  · exact h.elim
theorem isStr_ok : TyOk "str" isStr := fun K G M H x v h R r => by
  unfold isStr at h
  split at h
  · cases r; rfl
  · exact h.elim
theorem isDic_ok : TyOk "dict" isDic := fun K G M H x v h R r => by
  unfold isDic at h
  split at h
  · rename_i a
    cases r
    split at h
    · rename_i e
      obtain ⟨⟨ws, g1, g2⟩, _⟩ := R.ob a _ e
      exact .inr (.inr (.inl ⟨rfl, .inl ⟨_, g1⟩⟩))
    · rename_i e
      obtain ⟨⟨ws, g1, g2⟩, _⟩ := R.ob a _ e
      exact .inr (.inr (.inl ⟨rfl, .inr ⟨_, g1⟩⟩))
    · exact h.elim
  · exact h.elim
def mAppend (x : DV) : DC := fun xs M Q => match x with
  | .ob a => (match M a with
    | some (.lst l) => (match xs with
      | [y] => l.length < sizeLine ∧ Q (.d .none) (mset M a (some (.lst (l ++ [y]))))
      | _ => False)
    | _ => False)
  | _ => False
def mPop (x : DV) : DC := fun xs M Q => match x with
  | .ob a => (match M a with
    | some (.lst l) => (match xs with
      | [] => (match l[l.length - 1]? with
        | some y => Q y (mset M a (some (.lst l.dropLast)))
        | none => False)
      | [.d (.int i)] => (-(2 ^ 63) ≤ i ∧ i < 2 ^ 63) ∧ (match seqIndex? i l.length with
        | some j => (match l[j]? with
          | some y => Q y (mset M a (some (.lst (l.eraseIdx j))))
          | none => False)
        | none => False)
      | _ => False)
    | _ => False)
  | _ => False
/-- xs.extend(ys) -/
def mExtend (x : DV) : DC := fun xs M Q => match x with
  | .ob a => (match M a with
    | some (.lst l) => (match xs with
      | [.d (.list m)] => l.length + m.length ≤ sizeLine ∧ Q (.d .none) (mset M a (some (.lst (l ++ m.map DV.d))))
      | [.ob b] => (match M b with
        | some (.lst m) => l.length + m.length ≤ sizeLine ∧ Q (.d .none) (mset M a (some (.lst (l ++ m))))
        | _ => False)
      | _ => False)
    | _ => False)
  | _ => False
section
variable {X : Cx} {o e : Expr} {es : List Expr} {wo : DE} {wa : DA} {T id : String} {name : Str} {ty : DV → DM → Prop} {r : DV → DC} {apos cpos : Pos}
theorem de_mt (tok : TyOk T ty) (pa : PlainAttrs T) (slot : Slot T name id) (hty : typeOf (.builtin id) = pure (.type "method_descriptor")) (hm : MtR X id (LM X.K r)) (ho : PE X o (LE X.K W wo)) (ha : PA X (e :: es) (LA X.K W wa))
    (hbase : attributeBase o name X.env (eval o X.env) = eval o X.env := by rfl)
    (hfew : ((backTo cpos (starEach (e :: es) X.env)).all (fun x => !x.1) && (backToKw cpos (keywordEach [] X.env)).all (fun x => x.1.isSome)
      && decide ((e :: es).length + ([] : List Keyword).length + (if ([] : List Keyword).isEmpty then 0 else 1) < 30)) = true := by rfl)
    (hline : (apos.endLine == cpos.line) = true := by rfl) (hs : starEach (e :: es) X.env = (false, eval e X.env) :: starEach es X.env := by rfl) (hplain : (backTo cpos (starEach es X.env)).any (·.1) = false := by rfl) :
    PE X (.Call (.Attribute o name apos) (e :: es) [] cpos) (LE X.K W (wMt ty r wo wa)) := pe_weak (pe_bm pa slot hty hm ho ha hbase hfew hline hs hplain) fun σ H Q h => by
  obtain ⟨G, de, M, Qd, R, S, w, k⟩ := h
  exact ⟨G, de, M, _, R, S, w, fun x M1 G1 H1 v q e1 R1 r1 => ⟨tok _ _ _ _ _ _ q.1 R1 r1, G1, de, M1, _, R1, S.ex e1, q.2, fun xs M2 G2 H2 vs q2 e2 R2 r2 => ⟨G2, M2, x, xs, Qd, R2, r1.ex e2, r2, q2, k.ex (e1.trans e2)⟩⟩⟩
theorem de_mt0 (tok : TyOk T ty) (pa : PlainAttrs T) (slot : Slot T name id) (hty : typeOf (.builtin id) = pure (.type "method_descriptor")) (hm : MtR X id (LM X.K r)) (ho : PE X o (LE X.K W wo))
    (hbase : attributeBase o name X.env (eval o X.env) = eval o X.env := by rfl) (hline : (apos.endLine == cpos.line) = true := by rfl) : PE X (.Call (.Attribute o name apos) [] [] cpos) (LE X.K W (wMt0 ty r wo)) := pe_weak (pe_bm0 pa slot hty hm ho hbase hline) fun σ H Q h => by
  obtain ⟨G, de, M, Qd, R, S, w, k⟩ := h
  exact ⟨G, de, M, _, R, S, w, fun x M1 G1 H1 v q e1 R1 r1 => ⟨tok _ _ _ _ _ _ q.1 R1 r1, G1, M1, x, [], Qd, R1, r1, .nil, q.2, k.ex e1⟩⟩
theorem m_append : MtR X "list.append" (LM X.K mAppend) := mt_weak mt_append fun v vs H Q q => by
  obtain ⟨G, M, x, xs, Qd, R, r, rs, q, k⟩ := q
  unfold mAppend at q; split at q
  · rename_i a
    cases r
    split at q
    · rename_i l e
      obtain ⟨⟨ws, g1, g2⟩, g3⟩ := R.ob a _ e
      split at q
      · obtain ⟨u, rfl, ru⟩ := repL1 rs
        exact ⟨a, ws, u, rfl, rfl, g1, by rw [← paired_len g2]; exact q.1, k.put (o := .lst _) R g3 ⟨_, upd_same, paired_app g2 (.cons ru .nil)⟩ q.2 .non⟩
      · exact q.elim
    · exact q.elim
  · exact q.elim
theorem paired_dropLast {α β : Type} {F : α → β → Prop} {l : List α} {m : List β} (h : Paired F l m) : Paired F l.dropLast m.dropLast := by
  rw [List.dropLast_eq_take, List.dropLast_eq_take, paired_len h]
  exact paired_take _ h
theorem m_pop : MtR X "list.pop" (LM X.K mPop) := mt_weak (MtR.or mt_pop mt_popAt) fun v vs H Q q => by
  obtain ⟨G, M, x, xs, Qd, R, r, rs, q, k⟩ := q
  unfold mPop at q; split at q
  · rename_i a
    cases r
    split at q
    · rename_i l e
      obtain ⟨⟨ws, g1, g2⟩, g3⟩ := R.ob a _ e
      split at q
      · cases rs
        split at q
        · rename_i y e2
          obtain ⟨u, hu, ru⟩ := paired_at g2 e2
          rw [paired_len g2] at hu
          exact .inl ⟨a, ws, u, rfl, rfl, g1, hu, k.put (o := .lst _) R g3 ⟨_, upd_same, paired_dropLast g2⟩ q ru⟩
        · exact q.elim
      · obtain ⟨u, rfl, ru⟩ := repL1 rs
        cases ru
        obtain ⟨⟨q1, q2⟩, q⟩ := q
        split at q
        · rename_i j e2
          split at q
          · rename_i y e3
            obtain ⟨u, hu, ru⟩ := paired_at g2 e3
            rw [paired_len g2] at e2
            exact .inr ⟨a, ws, _, j, u, rfl, rfl, g1, q1, q2, e2, hu, k.put (o := .lst _) R g3 ⟨_, upd_same, paired_erase j g2⟩ q ru⟩
          · exact q.elim
        · exact q.elim
      · exact q.elim
    · exact q.elim
  · exact q.elim
theorem m_extend : MtR X "list.extend" (LM X.K mExtend) := mt_weak mt_extend fun v vs H Q q => by
  obtain ⟨G, M, x, xs, Qd, R, r, rs, q, k⟩ := q
  unfold mExtend at q; split at q
  · rename_i a
    cases r
    split at q
    · rename_i l e
      obtain ⟨⟨ws, g1, g2⟩, g3⟩ := R.ob a _ e
      split at q
      · obtain ⟨u, rfl, ru⟩ := repL1 rs
        cases ru with
        | lst hg hs => exact ⟨a, _, ws, _, rfl, rfl, g1, R.ex _ _ hg, by rw [← paired_len g2, hs.len]; exact q.1, k.put (o := .lst _) R g3 ⟨_, upd_same, paired_app g2 hs.rep⟩ q.2 .non⟩
      · rename_i b
        obtain ⟨u, rfl, ru⟩ := repL1 rs
        cases ru
        split at q
        · rename_i m e2
          obtain ⟨⟨zs, f1, f2⟩, f3⟩ := R.ob b _ e2
          exact ⟨a, _, ws, _, rfl, rfl, g1, f1, by rw [← paired_len g2, ← paired_len f2]; exact q.1, k.put (o := .lst _) R g3 ⟨_, upd_same, paired_app g2 f2⟩ q.2 .non⟩
        · exact q.elim
      · exact q.elim
    · exact q.elim
  · exact q.elim
end

/-! ### o[i] = v -/
def opSet (o i x : DV) (M : DM) (k : DM → Prop) : Prop := match o with
  | .ob a => (match M a with
    | some (.lst l) => (match i with
      | .d (.int n) => (match ixN l.length n with
        | some j => k (mset M a (some (.lst (l.set j x))))
        | none => False)
      | _ => False)
    | some (.dK kvs) => (match i with
      | .d y => (match keyD y with
        | some z => kvs.length < sizeLine ∧ k (mset M a (some (.dK (putD kvs z x))))
        | none => False)
      | _ => False)
    | some (.dT kvs) => (match i with
      | .d (.tuple l) => (match keysD l with
        | some z => kvs.length < sizeLine ∧ k (mset M a (some (.dT (putD kvs z x))))
        | none => False)
      | _ => False)
    | _ => False)
  | _ => False
def wPut (w wo wi : DE) : DS := fun D de M => w de M fun x M1 => wo de M1 fun o M2 => wi de M2 fun i M3 => opSet o i x M3 fun M4 => D.nx de M4
section
variable {X : Cx} {o i e : Expr} {pos pos' : Pos} {w wo wi : DE}
def rSetAll : V → V → V → Hp → (Hp → Prop) → Prop := fun o i v H Q => rSetL o i v H Q ∨ ∃ a H', o = .ref a ∧ DPut H a i v H' ∧ Q H'
theorem set_all (hu : X.A.units + 1 < cLine) : PSet X rSetAll := fun pins s σ H o i v ov iv u Q I ro ri rv h => by
  rcases h with h | ⟨a, H', rfl, g, q⟩
  · exact set_list pins s σ H o i v ov iv u Q I ro ri rv h
  · cases ro
    exact d_setItem hu I g ri rv fun s' I' => ⟨H', I', q⟩
theorem ds_put (hu : X.A.units + 1 < cLine) (he : PE X e (LE X.K W w)) (ho : PE X o (LE X.K W wo)) (hi : PE X i (LE X.K W wi))
    (ha : ∀ v, assign (.Subscript o i pos') X.env v = (do
      let ov ← holding [v] (eval o X.env)
      let iv ← holding [v, ov] (eval i X.env)
      standAt pos'
      holding [v, ov, iv] (setItem ov iv v)
      release [v, ov, iv] []) := by intro _; rfl) (hs : swapsWithSole [.Subscript o i pos'] e pos.line X.env = pure false := by rfl) (hw : swappedStores [.Subscript o i pos'] e X.env = pure none := by rfl)
    (h1 : (assignEach [.Subscript o i pos'] X.env).map (·.2) = [assign (.Subscript o i pos') X.env] := by rfl) : PS X (.Assign [.Subscript o i pos'] e pos) (LS X.K W (wPut w wo wi)) :=
  ps_weak (ps_asg he (pg_sub ho hi (set_all hu) ha) hs hw h1) fun D σ H h => by
    obtain ⟨G, de, M, Dd, R, S, w, k⟩ := h
    refine ⟨G, de, M, _, R, S, w, fun x M1 G1 H1 v q e1 R1 r1 => ⟨G1, de, M1, _, R1, S.ex e1, q, fun o M2 G2 H2 ov q2 e2 R2 r2 => ⟨G2, de, M2, _, R2, S.ex (e1.trans e2), q2, fun i M3 G3 H3 iv q3 e3 R3 r3 => ?_⟩⟩⟩
    have e13 := e1.trans (e2.trans e3)
    have k3 := k.nx.ex e13
    have S3 := S.ex e13
    have rx := r1.ex (e2.trans e3)
    have ro := r2.ex e3
    unfold opSet at q3
    split at q3
    · rename_i a
      cases ro
      split at q3
      · rename_i l e
        obtain ⟨⟨ws, g1, g2⟩, g3⟩ := R3.ob a _ e
        split at q3
        · cases r3
          split at q3
          · rename_i j e4
            rw [paired_len g2] at e4
            exact .inl ⟨a, ws, _, j, rfl, rfl, g1, e4, k3.done (R3.put (o := .lst _) g3 ⟨_, upd_same, paired_set rx j g2⟩) S3 q3⟩
          · exact q3.elim
        · exact q3.elim
      · rename_i kvs e
        obtain ⟨⟨ws, g1, g2⟩, g3⟩ := R3.ob a _ e
        split at q3
        · split at q3
          · rename_i z e4
            obtain rfl := keyD_rep e4 r3
            exact .inr ⟨a, _, rfl, DPut.k g1 (by rw [← paired_len g2]; exact q3.1), k3.done (R3.put (o := .dK _) g3 ⟨_, upd_same, putD_rep g2 z rx⟩) S3 q3.2⟩
          · exact q3.elim
        · exact q3.elim
      · rename_i kvs e
        obtain ⟨⟨ws, g1, g2⟩, g3⟩ := R3.ob a _ e
        split at q3
        · split at q3
          · rename_i z e4
            cases r3 with
            | tup hg hs =>
              obtain rfl := keysD_rep e4 hs
              exact .inr ⟨a, _, rfl, DPut.t g1 (R3.ex _ _ hg) (by rw [← paired_len g2]; exact q3.1), k3.done (R3.put (o := .dT _) g3 ⟨_, upd_same, putD_rep g2 z rx⟩) S3 q3.2⟩
          · exact q3.elim
        · exact q3.elim
      · exact q3.elim
    · exact q3.elim
end

/-! ### {}: a new dict -/
def wDK : DE := fun _ M Q => ∀ p, M p = none → Q (.ob p) (mset M p (some (.dK [])))
def wDT : DE := fun _ M Q => ∀ p, M p = none → Q (.ob p) (mset M p (some (.dT [])))
section
variable {X : Cx} {pos : Pos}
theorem de_dK : PE X (.Dict [] [] pos) (LE X.K W wDK) := pe_weak pe_dnewK fun σ H Q h => by
  obtain ⟨G, de, M, Qd, R, S, w, k⟩ := h
  exact fun p hp => k _ _ G _ _ (w p (R.mnone hp)) (Ex.refl G) (R.put (o := .dK []) (R.gnone hp) ⟨[], upd_same, .nil⟩) rfl
theorem de_dT : PE X (.Dict [] [] pos) (LE X.K W wDT) := pe_weak pe_dnewT fun σ H Q h => by
  obtain ⟨G, de, M, Qd, R, S, w, k⟩ := h
  exact fun p hp => k _ _ G _ _ (w p (R.mnone hp)) (Ex.refl G) (R.put (o := .dT []) (R.gnone hp) ⟨[], upd_same, .nil⟩) rfl
end

/-! ### defs -/
/-- what is wanted of an exception that leaves a def -/
abbrev DXF := Addr → List (Str × DV) → DM → Prop
abbrev DSp := List DV → DM → DQ → DXF → Prop
def XFQ (K : PySem.W.Frag) (G : Hp) (Z : DXF) (E : XK) : Prop := ∀ C fs M' G' H' d vs, Z C fs M' → Ex G G' → RpM K G' M' H' → H' d = some (.xd vs) → RepK K G' fs vs → E (.ref C) (some d) H'
def LSp (K : PySem.W.Frag) (sp : DSp) : Sp := fun vs H Q E => ∃ G M xs Qd Z, RpM K G M H ∧ RepL K G xs vs ∧ sp xs M Qd Z ∧ PQ K G Qd Q ∧ XFQ K G Z E
/-- a def of the module: its promise, by at most k calls -/
structure DefOk (P : Program) (w : World) (K : PySem.W.Frag) (mg : Str → Option Value) (base : Heap) (x : Str) (ps : List Str) (k : Nat) (sp : DSp) : Prop where
  ex : ∃ f fd, mg x = some (.ref f) ∧ PySem.W.keepIn K (.ref f) = true ∧ Binds K fd ps [] ∧ FnOk P w K mg base (L2.CX P w) k f fd ps (LSp K sp)
def wCall (sp : DSp) (wa : DA) : DE := fun de M Q => wa de M fun xs M1 => sp xs M1 Q fun C fs M' => de.wx C fs de.sl M'
section
variable {X : Cx} {x : Str} {ps : List Str} {k : Nat} {sp : DSp} {e : Expr} {es : List Expr} {wa : DA} {p pos : Pos}
theorem DefOk.imp {P : Program} {w : World} {K : PySem.W.Frag} {mg : Str → Option Value} {base : Heap} {sp' : DSp} (h : DefOk P w K mg base x ps k sp) (i : ∀ vs H Q E, LSp K sp' vs H Q E → LSp K sp vs H Q E) : DefOk P w K mg base x ps k sp' := by
  obtain ⟨f, fd, h1, h2, h3, h4⟩ := h.ex
  exact ⟨f, fd, h1, h2, h3, h4.imp i⟩
theorem DefOk.mono {P : Program} {w : World} {K : PySem.W.Frag} {mg : Str → Option Value} {base : Heap} {j : Nat} (h : DefOk P w K mg base x ps k sp) (i : k ≤ j) : DefOk P w K mg base x ps j sp := by
  obtain ⟨f, fd, h1, h2, h3, h4⟩ := h.ex
  exact ⟨f, fd, h1, h2, h3, h4.mono i⟩
theorem de_call (F : DefOk X.prog X.w X.K X.mg X.base x ps k sp) (hr : Room k X.A) (tk : Takes X W) (ha : PA X (e :: es) (LA X.K W wa)) (hg : Gl X x := by rfl) (hdb : (x == ("__debug__" : Str)) = false := by decide)
    (he : starEach (e :: es) X.env = (false, eval e X.env) :: starEach es X.env := by rfl) (hpl : (backTo pos (starEach es X.env)).any (·.1) = false := by rfl) : PE X (.Call (.Name x p) (e :: es) [] pos) (LE X.K W (wCall sp wa)) := by
  obtain ⟨f, fd, h1, h2, h3, h4⟩ := F.ex
  refine pe_weak (pe_callS (E := fun σ cls d H => W cls d σ H) h4 hr hg h1 h2 h3 (fun σ => passAt tk σ) ha hdb he hpl) fun σ H Q h => ?_
  obtain ⟨G, de, M, Qd, R, S, w, q⟩ := h
  exact ⟨G, de, M, _, R, S, w, fun xs M1 G1 H1 vs q1 e1 R1 r1 => ⟨G1, M1, xs, Qd, _, R1, r1, q1, q.ex e1, fun C fs M' G' H' d vs z e2 R' hd r' => (S.ex e1).x C fs _ M' G' σ H' d vs z e2 R' ((S.ex e1).p.ex e2) hd r'⟩⟩
/-- f() -/
theorem de_call0 (F : DefOk X.prog X.w X.K X.mg X.base x ps k sp) (hr : Room k X.A) (hx : Passes (L2.CX X.prog X.w) X E0) (hg : Gl X x := by rfl) (hdb : (x == ("__debug__" : Str)) = false := by decide) : PE X (.Call (.Name x p) [] [] pos) (LE X.K W (fun de M Q => sp [] M Q fun _ _ _ => False)) := by
  obtain ⟨f, fd, h1, h2, h3, h4⟩ := F.ex
  refine pe_weak (pe_call0 (E := E0) h4 hr hg h1 h2 h3 .nil hx hdb) fun σ H Q h => ?_
  obtain ⟨G, de, M, Qd, R, S, w, q⟩ := h
  exact ⟨G, M, [], Qd, _, R, .nil, w, q, fun _ _ _ _ _ _ _ z => z.elim⟩
end
/-- a state told otherwise: a list that changes no more is data; a generator's state is any -/
def Wk (x : DV) (M : DM) (x' : DV) (M' : DM) : Prop := ∀ K G H v, RpM K G M H → RepV K G x v → ∃ G', Ex G G' ∧ RpM K G' M' H ∧ RepV K G' x' v
theorem Wk.refl (x : DV) (M : DM) : Wk x M x M := fun _ G _ _ R r => ⟨G, Ex.refl G, R, r⟩
theorem Wk.list {p : Addr} {M : DM} {ds : List PyData} (h : M p = some (.lst (ds.map DV.d))) : Wk (.ob p) M (.d (.list ds)) (mset M p none) := fun K G H v R r => by
  obtain ⟨⟨vs, h1, h2⟩, hg⟩ := R.ob p _ h
  have ex : Ex G (upd G p (.lst vs)) := Ex.new hg
  cases r
  refine ⟨upd G p (.lst vs), ex, ⟨fun a o q => ?_, fun a o q => ?_⟩, Dr.lst upd_same (DrAll.of (RepL.ex ex h2))⟩
  · by_cases z : a = p
    · subst z; rw [upd_same] at q; cases q; exact h1
    · rw [upd_ne z] at q; exact R.ex a o q
  · by_cases z : a = p
    · subst z; rw [mset_same] at q; cases q
    · rw [mset_ne z] at q
      obtain ⟨q1, q2⟩ := R.ob a o q
      exact ⟨q1.ex ex, by rw [upd_ne z]; exact q2⟩
/-- the slots of a def at its start -/
def startD (n : Nat) (xs : List DV) : List (Option DV) := xs.map some ++ List.replicate (n - xs.length) none
theorem startD_rep {K : PySem.W.Frag} {G : Hp} (N : List Str) {xs : List DV} {vs : List V} (h : RepL K G xs vs) : SlP K G (startD N.length xs) (L2.start N vs) := by
  unfold startD L2.start
  have e := paired_len h
  rw [e]
  refine paired_app ?_ ?_
  · clear e
    induction h with
    | nil => exact .nil
    | cons r t ih => exact .cons r ih
  · generalize N.length - vs.length = n
    induction n with
    | zero => exact .nil
    | succ n ih => exact .cons trivial ih
section
variable {P : Program} {w : World} {K : PySem.W.Frag} {mg : Str → Option Value} {base : Heap}
/-- THE RULE for a def: its body read at the level of data -/
theorem def_ok {x : Str} {st : Stmt} {f : Addr} {fd : FuncData} {N ps : List Str} {k : Nat} {sp : DSp} (F : Fun K x x st f fd) (hm : mg x = some (.ref f)) (S : FnScope N ps (defScope st)) (len : ∀ xs M Q Z, sp xs M Q Z → xs.length = ps.length) (hb : Binds K fd ps [])
    (hbody : ∀ (cdv : Value) (A : Around) (outer : List Env) (s : Shared) (H : Hp) (E : XK), Room k (A.deeper (PyProof.Rows.envOfC x (defScope st) s.heap.objs.size f cdv)) →
      ∃ wb : DS, PSs (cxOf (L2.CX P w) P w K mg base N x (defScope st) f cdv A outer s H E) (defBody st) (LS K (fun cls d _ H' => E cls d H') wb) ∧
        ∀ xs M Q Z, sp xs M Q Z → wb { nx := fun _ M' => Q (.d .none) M', rt := fun y M' => ∃ y' M'', Wk y M' y' M'' ∧ Q y' M'' } ⟨startD N.length xs, fun C fs _ M' => Z C fs M'⟩ M) :
    DefOk P w K mg base x ps (k + 1) sp := by
  refine ⟨f, fd, hm, F.kp, hb, F.okX S (fun vs H Q E h => ?_) fun cdv A outer s H vs Q E hr h => ?_⟩
  · obtain ⟨G, M, xs, Qd, Z, R, r, h, _⟩ := h
    rw [← paired_len r]
    exact len xs M Qd Z h
  · obtain ⟨wb, h1, h2⟩ := hbody cdv A outer s H E hr
    refine ⟨_, h1, ?_⟩
    obtain ⟨G, M, xs, Qd, Z, R, r, h, k, z⟩ := h
    refine ⟨G, _, M, _, R, ⟨startD_rep N r, fun C fs sl M' G' σ' H' d vs q e R' _ hd r' => z C fs M' G' H' d vs q e R' hd r'⟩, h2 xs M Qd Z h, ⟨fun de' M' G' σ' H' q e R' _ => k _ _ _ _ _ q e R' .non, fun y M' G' H' v q e R' r' => ?_, fun _ _ _ _ _ q => q.elim, fun _ _ _ _ _ q => q.elim⟩⟩
    obtain ⟨y', M'', wk, q⟩ := q
    obtain ⟨G'', e2, R2, r2⟩ := wk K G' H' v R' r'
    exact k _ _ _ _ _ q (e.trans e2) R2 r2
end
end DL
namespace DL
open PySem PySem.Spec L2
variable {W : WX}
/-! ### comprehensions, as rules -/
def wYes : DT := fun _ M Q => Q true M
section
variable {X : Cx} {tg iter elt c : Expr} {ifs : List Expr} {scope : Scope} {own : List (Str × Nat)} {pos spos py : Pos} {wi : DI} {g : DTg} {tt : DT} {te : DE} {y : Str} {i : Nat} {mu : Bool}
theorem pts_weak {t t' : TT} (h : PTs X ifs t) (w : ∀ σ H Q, t' σ H Q → t σ H Q) : PTs X ifs t' := ⟨fun pins s σ H Q I q => h.run pins s σ H Q I (w σ H Q q)⟩
theorem dts_nil : PTs X [] (LT X.K W wYes) := pts_weak pts_nil fun σ H Q h => by
  obtain ⟨G, de, M, Qd, R, S, w, k⟩ := h
  exact k _ _ _ _ w (Ex.refl G) R
theorem dts_one (h : PT X c (LT X.K W tt)) : PTs X [c] (LT X.K W tt) := pts_one h
theorem de_lc (hc : X.calm = true) (hN : X.N.Nodup) (hi : PI X tg iter (LI X.K W wi)) (ok : BlkOk X.N X.env.scope scope own) (hv : ∀ i ∈ g.slots, i ∈ own.map (·.2))
    (hg : ∀ (s : Shared) (H : Hp) (C : Addr) (cl : List (Str × Addr)) (fp : List Addr), PG (X.blk s H scope (compEnvC scope cl C X.env) fp) tg (tgOf X.K g)) (ht : ∀ (s : Shared) (H : Hp) (C : Addr) (cl : List (Str × Addr)) (fp : List Addr), PTs (X.blk s H scope (compEnvC scope cl C X.env) fp) ifs (LT X.K noW tt))
    (he : ∀ (s : Shared) (H : Hp) (C : Addr) (cl : List (Str × Addr)) (fp : List Addr), PE (X.blk s H scope (compEnvC scope cl C X.env) fp) elt (LE X.K noW te)) (hs : ∀ x, foldedSetIterable iter X.env x = pure x := by intro _; rfl) :
    PE X (.ListComp elt [⟨tg, iter, ifs, 0⟩] scope pos) (LE X.K W (wLc mu wi g tt te (own.map (·.2)))) := pe_weak (pe_lc hc hN hi ok hg ht he hs) (le_lc hv)
theorem ds_setLc (hc : X.calm = true) (hN : X.N.Nodup) (hy : X.N[i]? = some y) (hyl : X.env.scope.names.lookup y = some .local)
    (hsw : swapsWith (.ListComp elt [⟨tg, iter, ifs, 0⟩] scope pos) (some (.Name y py)) spos.line X.env = pure true) (hi : PI X tg iter (LI X.K W wi)) (ok : BlkOk X.N X.env.scope scope own) (hv : ∀ i ∈ g.slots, i ∈ own.map (·.2))
    (hg : ∀ (s : Shared) (H : Hp) (C : Addr) (cl : List (Str × Addr)) (fp : List Addr), PG (X.blk s H scope (compEnvC scope cl C X.env) fp) tg (tgOf X.K g)) (ht : ∀ (s : Shared) (H : Hp) (C : Addr) (cl : List (Str × Addr)) (fp : List Addr), PTs (X.blk s H scope (compEnvC scope cl C X.env) fp) ifs (LT X.K noW tt))
    (he : ∀ (s : Shared) (H : Hp) (C : Addr) (cl : List (Str × Addr)) (fp : List Addr), PE (X.blk s H scope (compEnvC scope cl C X.env) fp) elt (LE X.K noW te)) (hs : ∀ x, foldedSetIterable iter X.env x = pure x := by intro _; rfl) :
    PS X (.Assign [.Name y py] (.ListComp elt [⟨tg, iter, ifs, 0⟩] scope pos) spos) (LS X.K W (wSet (wLc mu wi g tt te (own.map (·.2))) i)) := ps_weak (L2.ps_setLc hc hN hy hyl hsw hi ok hg ht he hs) fun D σ H h => by
  obtain ⟨G, de, M, Dd, R, S, w, k⟩ := h
  have z : LE X.K W (wLc mu wi g tt te (own.map (·.2))) σ H (fun x H1 => D.nx (σ.set i (some x)) H1) := ⟨G, de, M, _, R, S, w, fun x M1 G1 H1 v q e1 R1 r1 => (k.nx.ex e1).done R1 (SlR.set r1 i (S.ex e1)) q⟩
  exact le_lc hv σ H _ z
end
end DL

set_option Elab.async false
set_option linter.all false
set_option maxRecDepth 100000
set_option maxHeartbeats 4000000
/-! DL7: displays of dicts, constants, small words for the printed terms. -/
namespace DL
open PySem PySem.Spec L2
variable {W : WX}
theorem hu65_of {A : Around} {k : Nat} (hr : Room k A) : A.units + 65 < cLine := by have := hr.un; omega
theorem takesN {X : Cx} : Takes X noW := takes0
def wCall0 (sp : DSp) : DE := fun de M Q => sp [] M Q fun _ _ _ => False

/-! ### {k: v, ..} -/
def wPNil : List (DE × DE) := []
def wPCons (k v : DE) (r : List (DE × DE)) : List (DE × DE) := (k, v) :: r
def wPs : List (DE × DE) → DEnv → DM → (List (DV × DV) → DM → Prop) → Prop
  | [], _, M, Q => Q [] M
  | (k, v) :: r, de, M, Q => k de M fun x M1 => v de M1 fun y M2 => wPs r de M2 fun ps M3 => Q ((x, y) :: ps) M3
def keysP : List (DV × DV) → Option (List (Key × DV))
  | [] => some []
  | (.d x, y) :: r => match keyD x, keysP r with
    | some k, some l => some ((k, y) :: l)
    | _, _ => none
  | _ :: _ => none
def mergeD (kvs more : List (Key × DV)) : List (Key × DV) := more.foldl (fun acc kv => putD acc kv.1 kv.2) kvs
def wDisp (ws : List (DE × DE)) : DE := fun de M Q => ∀ p, M p = none → wPs ws de (mset M p (some (.dK []))) fun ps M2 => M2 p = some (.dK []) ∧ match keysP ps with
  | some kvs => kvs.length ≤ 15 ∧ Q (.ob p) (mset M2 p (some (.dK (mergeD [] kvs))))
  | none => False
abbrev RepP (K : PySem.W.Frag) (G : Hp) : List (DV × DV) → List (V × V) → Prop := Paired fun p q => RepV K G p.1 q.1 ∧ RepV K G p.2 q.2
theorem keysP_rep {K : PySem.W.Frag} {G : Hp} : ∀ {ps : List (DV × DV)} {qs : List (V × V)} {kvs : List (Key × DV)}, keysP ps = some kvs → RepP K G ps qs → ∃ vs : List (Key × V), qs = vs.map (fun kv => (kV kv.1, kv.2)) ∧ RepK K G kvs vs
  | [], _, kvs, h, .nil => by cases h; exact ⟨[], rfl, .nil⟩
  | (.d x, y) :: r, (v, u) :: qs, kvs, h, .cons ⟨h1, h2⟩ t => by
    have h' : (match keyD x, keysP r with
      | some k, some l => some ((k, y) :: l)
      | _, _ => none) = some kvs := h
    split at h'
    · rename_i k l e1 e2
      cases h'
      obtain ⟨vs, e3, r3⟩ := keysP_rep e2 t
      have e4 : v = kV k := keyD_rep e1 h1
      subst e4 e3
      exact ⟨(k, u) :: vs, rfl, .cons ⟨rfl, h2⟩ r3⟩
    · cases h'
  | (.k _, _) :: _, _, _, h, _ => by cases h
  | (.ob _, _) :: _, _, _, h, _ => by cases h
  | (.v _, _) :: _, _, _, h, _ => by cases h
theorem mergeD_rep {K : PySem.W.Frag} {G : Hp} : ∀ {more : List (Key × DV)} {mv : List (Key × V)} {kvs : List (Key × DV)} {vs : List (Key × V)}, RepK K G more mv → RepK K G kvs vs → RepK K G (mergeD kvs more) (mergeK vs mv)
  | _, _, _, _, .nil, h => h
  | (k, x) :: _, (k', v) :: _, _, _, .cons ⟨e, r⟩ t, h => by
    dsimp only at e r
    subst e
    exact mergeD_rep (kvs := putD _ k x) (vs := putK _ k v) t (putD_rep h k r)
theorem wPs_ok {K : PySem.W.Frag} {G H : Hp} {de : DEnv} {σ : L2.St} {M : DM} {Q : List (DV × DV) → DM → Prop} {R : List (V × V) → Hp → Prop} : ∀ {ws : List (DE × DE)}, wPs ws de M Q → RpM K G M H → SlR K W G de σ →
    (∀ ps M' G' H' qs, Q ps M' → Ex G G' → RpM K G' M' H' → RepP K G' ps qs → R qs H') → tPairs (ws.map fun p => (LE K W p.1, LE K W p.2)) σ H R
  | [], h, Rm, S, k => k [] M G H [] h (Ex.refl G) Rm .nil
  | (wk, wv) :: r, h, Rm, S, k => ⟨G, de, M, _, Rm, S, h, fun x M1 G1 H1 v q e1 R1 r1 => ⟨G1, de, M1, _, R1, S.ex e1, q, fun y M2 G2 H2 u q2 e2 R2 r2 =>
      wPs_ok (ws := r) q2 R2 (S.ex (e1.trans e2)) fun ps M3 G3 H3 qs q3 e3 R3 r3 => k _ M3 G3 H3 _ q3 (e1.trans (e2.trans e3)) R3 (.cons ⟨r1.ex (e2.trans e3), r2.ex e3⟩ r3)⟩⟩
section
variable {X : Cx} {pos : Pos} {keys : List (Option Expr)} {values : List Expr} {k v : Expr} {ws : List (DE × DE)} {wk wv : DE}
abbrev DPs (X : Cx) (W : WX) (pos : Pos) (keys : List (Option Expr)) (values : List Expr) (ws : List (DE × DE)) : Prop := PPs X pos keys values (ws.map fun p => (LE X.K W p.1, LE X.K W p.2))
theorem dps_nil : DPs X W pos [] [] wPNil := pps_nil
theorem dps_cons (hk : PE X k (LE X.K W wk)) (hv : PE X v (LE X.K W wv)) (hr : DPs X W pos keys values ws) : DPs X W pos (some k :: keys) (v :: values) (wPCons wk wv ws) := pps_cons hk hv hr
theorem de_disp (h : DPs X W pos keys values ws) (hall : keys.all (·.isSome) = true := by rfl) (hl : keys.length = values.length := by rfl) (h0 : keys ≠ [] := by intro z; cases z) (h15 : keys.length ≤ 15 := by decide) : PE X (.Dict keys values pos) (LE X.K W (wDisp ws)) :=
  pe_weak (pe_disp h hall hl h0 h15) fun σ H Q h => by
    obtain ⟨G, de, M, Qd, R, S, w, kk⟩ := h
    intro p hp
    have gp := R.gnone hp
    refine wPs_ok (w p (R.mnone hp)) (R.put (o := .dK []) gp ⟨[], upd_same, .nil⟩) S fun ps M' G' H' qs q e R' r => ?_
    obtain ⟨q1, q2⟩ := q
    obtain ⟨⟨vs, g1, g2⟩, g3⟩ := R'.ob p _ q1
    cases g2
    refine ⟨g1, ?_⟩
    split at q2
    · rename_i kvs e2
      obtain ⟨vs, e3, r3⟩ := keysP_rep e2 r
      exact ⟨vs, e3, by rw [← paired_len r3]; exact q2.1, (kk.ex e).put (o := .dK _) R' g3 ⟨_, upd_same, mergeD_rep r3 .nil⟩ q2.2 rfl⟩
    · exact q2.elim
end

/-! ### constants of the module -/
def KConst (K : PySem.W.Frag) (mg : Str → Option Value) (x : Str) (d : DV) : Prop := ∃ v u, mg x = some u ∧ RelV v u ∧ ∀ G, RepV K G d v
theorem KConst.int {K : PySem.W.Frag} {mg : Str → Option Value} {x : Str} {i : Int} (h : ∃ t, mg x = some (.int i t)) : KConst K mg x (.d (.int i)) := by
  obtain ⟨t, h⟩ := h
  exact ⟨.int i, _, h, ⟨t, rfl⟩, fun _ => .int i⟩
theorem KConst.str {K : PySem.W.Frag} {mg : Str → Option Value} {x : Str} {i : Str} (h : ∃ t, mg x = some (.str i t)) : KConst K mg x (.d (.str i)) := by
  obtain ⟨t, h⟩ := h
  exact ⟨.str i, _, h, ⟨t, rfl⟩, fun _ => .str i⟩
theorem dconst {X : Cx} {K : PySem.W.Frag} {mg : Str → Option Value} {x : Str} {d : DV} {pos : Pos} (hK : X.K = K) (hM : X.mg = mg) (hg : Gl X x) (h : KConst K mg x d) (hd : (x == ("__debug__" : Str)) = false) : PE X (.Name x pos) (LE X.K W (wC d)) := by
  obtain ⟨v, u, h1, h2, h3⟩ := h
  subst hK hM
  exact dc (pe_glob hg h1 h2 hd) h3

/-! ### a text of the model -/
def keyP : Key → PyData
  | .inl i => .int i
  | .inr x => .str x
/-- the data that repr is asked of -/
def repD (M : DM) : DV → Option PyData
  | .d x => if flatD x = true then none else some x
  | .k x => if flatD x = true then none else some x
  | .ob a => (match M a with
    | some (.lst xs) => (match dats xs with
      | some ds => some (.list ds)
      | none => none)
    | some (.dK kvs) => (match dats (kvs.map (·.2)) with
      | some ds => some (.dict ((kvs.map fun p => keyP p.1).zip ds))
      | none => none)
    | _ => none)
  | .v _ => none
def bRepr : DC := fun xs M Q => match xs with
  | [x] => (match repD M x with
    | some d => (d.showable = true ∧ d.shown.length ≤ sizeLine ∧ d.depth ≤ 60) ∧ Q (.d (.str d.shown)) M
    | none => False)
  | _ => False
section
variable {X : Cx} {pins : List (Addr × Obj)} {σ : L2.St} {H G : Hp} {s : Shared}
mutual
theorem dr_reads (I : Inv X pins σ H s) (ex : Ex G H) : ∀ {d : PyData} {v : V} {u : Value}, Dr G v d → RelV v u → ∃ as, Reads s.heap u d as ∧ ∀ b ∈ as, ∃ xs, H b = some (.lst xs)
  | _, _, _, .non, r => by cases r; exact ⟨_, .none, fun _ h => by cases h⟩
  | _, _, _, .bl b, r => by cases r; exact ⟨_, .bool b, fun _ h => by cases h⟩
  | _, _, _, .int i, r => by obtain ⟨t, rfl⟩ := r; exact ⟨_, .int i t, fun _ h => by cases h⟩
  | _, _, _, .str x, r => by obtain ⟨t, rfl⟩ := r; exact ⟨_, .str x t, fun _ h => by cases h⟩
  | _, _, _, .lst hg ha, r => by
    cases r
    obtain ⟨its, rv, ⟨o, n, e1, e2, _, e3⟩, _⟩ := I.list (SqL.of (ex _ _ hg))
    obtain ⟨as, q1, q2⟩ := drAll_reads I ex ha rv
    refine ⟨_, .list e1 e2 e3 q1, fun b hb => ?_⟩
    rcases List.mem_cons.mp hb with rfl | hb
    · exact ⟨_, ex _ _ hg⟩
    · exact q2 b hb
  | _, _, _, .tup hg ha, r => by
    cases r
    obtain ⟨its, rv, ⟨o, e1, e2, n, e3⟩, _⟩ := I.tuple (SqT.of (ex _ _ hg))
    obtain ⟨as, q1, q2⟩ := drAll_reads I ex ha rv
    exact ⟨_, .tuple e1 e2 e3 q1, q2⟩
theorem drAll_reads (I : Inv X pins σ H s) (ex : Ex G H) : ∀ {ds : List PyData} {vs : List V} {us : List Value}, DrAll G vs ds → Vals vs us → ∃ as, ReadsAll s.heap us ds as ∧ ∀ b ∈ as, ∃ xs, H b = some (.lst xs)
  | _, _, _, .nil, r => by cases r; exact ⟨_, .nil, fun _ h => by cases h⟩
  | _, _, _, .cons h1 h2, r => by
    cases r with
    | cons r1 r2 =>
      obtain ⟨as, a1, a2⟩ := dr_reads I ex h1 r1
      obtain ⟨bs, b1, b2⟩ := drAll_reads I ex h2 r2
      refine ⟨_, .cons a1 b1, fun b hb => ?_⟩
      rcases List.mem_append.mp hb with hb | hb
      · exact a2 b hb
      · exact b2 b hb
end
/-- no list of ours stands where the modules' table stands -/
theorem sys_apart (I : Inv X pins σ H s) (hs : ∃ o, X.base.get? sysModules = some o) (xs : List V) : H sysModules ≠ some (.lst xs) := by
  obtain ⟨o, ho⟩ := hs
  rw [(I.bs _ _ ho).2]
  intro z
  cases z
end
mutual
theorem dp_noDict {K : PySem.W.Frag} {H : Hp} : ∀ {v : V} {d : PyData}, Dp K H v d → d.hasDict = false
  | _, _, .non => by rw [PyData.hasDict]
  | _, _, .bl _ => by rw [PyData.hasDict]
  | _, _, .int _ => by rw [PyData.hasDict]
  | _, _, .str _ => by rw [PyData.hasDict]
  | _, _, .lst _ h => by rw [PyData.hasDict]; exact dpAll_noDict h
  | _, _, .tup _ h => by rw [PyData.hasDict]; exact dpAll_noDict h
theorem dpAll_noDict {K : PySem.W.Frag} {H : Hp} : ∀ {v : List V} {d : List PyData}, DpAll K H v d → PyData.hasDictAll d = false
  | _, _, .nil => by rw [PyData.hasDictAll]
  | _, _, .cons h t => by rw [PyData.hasDictAll, dp_noDict h, dpAll_noDict t]; rfl
end
theorem dp_ref {K : PySem.W.Frag} {H : Hp} {v : V} {d : PyData} (h : Dp K H v d) (f : flatD d = false) : ∃ a, v = .ref a := by
  cases h with
  | lst _ _ => exact ⟨_, rfl⟩
  | tup _ _ => exact ⟨_, rfl⟩
  | _ => cases f
theorem pairs_keys {P : Program} {w : World} {h : Heap} {es : List DictEntry} {kvs : List (Key × Value)} (p : Pairs (mixKind P w) es kvs) : ReadsAll h (es.map (·.key)) (kvs.map fun q => keyP q.1) [] ∧ es.map (·.val) = kvs.map (·.2) := by
  induction p with
  | nil => exact ⟨.nil, rfl⟩
  | @cons e kv es kvs h1 h2 _ ih =>
    refine ⟨?_, by rw [List.map_cons, List.map_cons, h2, ih.2]⟩
    have hk : keyIs kv.1 e.key = true := h1
    rcases keyIs_shape hk with ⟨i, t, e1, e2⟩ | ⟨x, t, e1, e2⟩
    · rw [List.map_cons, List.map_cons, e1, e2]
      exact ReadsAll.cons (as := []) (.int i t) ih.1
    · rw [List.map_cons, List.map_cons, e1, e2]
      exact ReadsAll.cons (as := []) (.str x t) ih.1
theorem zip_fst {α β : Type} : ∀ {xs : List α} {ys : List β}, xs.length = ys.length → (xs.zip ys).map (·.1) = xs ∧ (xs.zip ys).map (·.2) = ys
  | [], [], _ => ⟨rfl, rfl⟩
  | x :: xs, y :: ys, h => by
    obtain ⟨a, b⟩ := zip_fst (xs := xs) (ys := ys) (Nat.succ.inj h)
    exact ⟨by rw [List.zip_cons_cons, List.map_cons, a], by rw [List.zip_cons_cons, List.map_cons, b]⟩
theorem kv_split {K : PySem.W.Frag} {G : Hp} : ∀ {kvs : List (Key × DV)} {vs : List (Key × V)} {us : List (Key × Value)}, RepK K G kvs vs → KV vs us → kvs.map (fun q => keyP q.1) = us.map (fun q => keyP q.1) ∧ RepL K G (kvs.map (·.2)) (vs.map (·.2)) ∧ Vals (vs.map (·.2)) (us.map (·.2))
  | [], _, _, .nil, .nil => ⟨rfl, .nil, .nil⟩
  | _ :: _, _, _, .cons a t, .cons b u => by
    obtain ⟨h1, h2, h3⟩ := kv_split t u
    exact ⟨by rw [List.map_cons, List.map_cons, h1, a.1, b.1], .cons a.2 h2, .cons b.2 h3⟩
section
variable {X : Cx}
theorem b_repr (hg : X.A.guards = some []) (hs : ∃ o, X.base.get? sysModules = some o) (hu : X.A.units + 65 < cLine) : CallR X (.builtin "repr") (LC X.K bRepr) := by
  intro pins s σ H xs us Q I r h
  obtain ⟨G, M, ds, Qd, R, rs, q, k⟩ := h
  unfold bRepr at q
  split at q
  · rename_i x
    obtain ⟨v, rfl, rv⟩ := repL1 rs
    obtain ⟨u, rfl, ru⟩ := vals1 r
    split at q
    · rename_i d hd
      obtain ⟨⟨q1, q2, q3⟩, q⟩ := q
      have hsl : ∀ {as : List Addr}, (∀ b ∈ as, ∃ xs, H b = some (.lst xs)) → sysModules ∉ as := fun hb hm => by
        obtain ⟨xs, e1⟩ := hb _ hm
        exact sys_apart I hs xs e1
      suffices z : ∃ a as, u = .ref a ∧ Reads s.heap (.ref a) d as ∧ (d.hasDict = true → sysModules ∉ as) by
        obtain ⟨a, as, rfl, z1, z2⟩ := z
        exact repr_of_reads' z1 q1 z2 hg (by omega) (fun _ _ e => e) (fun h' u' tk hk => ⟨.str _, H, I.kept hk, ⟨_, rfl⟩, k.done R q (.str _)⟩) q2
      have flat : ∀ {e : PyData}, Dp X.K H v e → flatD e = false → e = d → ∃ a as, u = .ref a ∧ Reads s.heap (.ref a) d as ∧ (d.hasDict = true → sysModules ∉ as) := fun he hf ed => by
        subst ed
        obtain ⟨a, rfl⟩ := dp_ref he hf
        obtain ⟨as, hr⟩ := Dp.reads I _ _ _ he ru
        cases ru
        exact ⟨a, as, rfl, hr, fun z => by rw [dp_noDict he] at z; cases z⟩
      unfold repD at hd
      split at hd
      · rename_i y
        split at hd
        · cases hd
        · rename_i f
          cases hd
          exact flat (Dp.ex R.ex (Dr.dp rv)) (by simpa using f) rfl
      · rename_i y
        split at hd
        · cases hd
        · rename_i f
          cases hd
          exact flat (Dp.ex R.ex rv) (by simpa using f) rfl
      · rename_i a
        split at hd
        · rename_i l e
          split at hd
          · rename_i ds e2
            cases hd
            exact flat (rdM_dp (rdM_ob e e2) rv R) rfl rfl
          · cases hd
        · rename_i kvs e
          split at hd
          · rename_i ds e2
            cases hd
            cases rv
            cases ru
            obtain ⟨⟨vs, h1, h2⟩, _⟩ := R.ob a _ e
            obtain ⟨_, hsys, us, kv, o, es, ep, ho, hex, hdt, _, hp, _⟩ := I.hok a _ h1
            obtain ⟨p1, p2⟩ := pairs_keys (h := s.heap) hp
            obtain ⟨k1, k2, k3⟩ := kv_split h2 kv
            obtain ⟨bs, hb, hb2⟩ := drAll_reads I R.ex (DrAll.of (by rw [← dats_of e2]; exact k2)) k3
            have hlen : (kvs.map fun p => keyP p.1).length = ds.length := by
              have := congrArg List.length (dats_of e2)
              simpa using this
            obtain ⟨z1, z2⟩ := zip_fst hlen
            refine ⟨a, a :: [] ++ bs, rfl, .dict ho hex.1 hdt (by rw [z1, k1]; exact p1) (by rw [z2, p2]; exact hb), fun _ hm => ?_⟩
            rcases List.mem_cons.mp hm with rfl | hm
            · cases hsys
            · exact hsl hb2 hm
          · cases hd
        · cases hd
      · cases hd
    · exact q.elim
  · exact q.elim
end
end DL

set_option Elab.async false
set_option linter.all false
set_option maxRecDepth 100000
set_option maxHeartbeats 4000000
/-! DL8: what readings use again and again. -/
namespace DL
open PySem
def retD (Q : DQ) : DEnds := { nx := fun _ M' => Q (.d .none) M', rt := Q }
def retW (Q : DQ) : DEnds := { nx := fun _ M' => Q (.d .none) M', rt := fun y M' => ∃ y' M'', Wk y M' y' M'' ∧ Q y' M'' }
def envD (n : Nat) (xs : List DV) (Z : DXF) : DEnv := ⟨startD n xs, fun C fs _ M' => Z C fs M'⟩
section
variable {P : Program} {w : World} {K : PySem.W.Frag} {mg : Str → Option Value} {base : Heap} {x : Str} {st : Stmt} {f : Addr} {fd : FuncData} {N ps : List Str} {k n : Nat} {sp : DSp} {wb : DS}
theorem def_okW (F : L2.Fun K x x st f fd) (hm : mg x = some (.ref f)) (S : L2.FnScope N ps (L2.defScope st)) (hb : L2.Binds K fd ps []) (hn : N.length = n)
    (hbody : ∀ (cdv : Value) (A : Around) (outer : List Env) (s : Shared) (H : L2.Hp) (E : L2.XK), L2.Room k (A.deeper (PyProof.Rows.envOfC x (L2.defScope st) s.heap.objs.size f cdv)) →
      L2.PSs (L2.cxOf (L2.CX P w) P w K mg base N x (L2.defScope st) f cdv A outer s H E) (L2.defBody st) (LS K (fun cls d _ H' => E cls d H') wb))
    (len : ∀ xs M Q Z, sp xs M Q Z → xs.length = ps.length) (hw : ∀ xs M Q Z, sp xs M Q Z → wb (retW Q) (envD n xs Z) M) : DefOk P w K mg base x ps (k + 1) sp :=
  def_ok F hm S len hb fun cdv A outer s H E hr => ⟨wb, hbody cdv A outer s H E hr, fun xs M Q Z h => by rw [hn]; exact hw xs M Q Z h⟩
/-- a def whose state is told once -/
theorem def_okP (F : L2.Fun K x x st f fd) (hm : mg x = some (.ref f)) (S : L2.FnScope N ps (L2.defScope st)) (hb : L2.Binds K fd ps []) (hn : N.length = n)
    (hbody : ∀ (cdv : Value) (A : Around) (outer : List Env) (s : Shared) (H : L2.Hp) (E : L2.XK), L2.Room k (A.deeper (PyProof.Rows.envOfC x (L2.defScope st) s.heap.objs.size f cdv)) →
      L2.PSs (L2.cxOf (L2.CX P w) P w K mg base N x (L2.defScope st) f cdv A outer s H E) (L2.defBody st) (LS K (fun cls d _ H' => E cls d H') wb))
    (len : ∀ xs M Q Z, sp xs M Q Z → xs.length = ps.length) (hw : ∀ xs M Q Z, sp xs M Q Z → wb (retD Q) (envD n xs Z) M) : DefOk P w K mg base x ps (k + 1) sp := by
  refine ⟨f, fd, hm, F.kp, hb, F.okX S (fun vs H Q E h => ?_) fun cdv A outer s H vs Q E hr h => ⟨_, hbody cdv A outer s H E hr, ?_⟩⟩
  · obtain ⟨G, M, xs, Qd, Z, R, r, h, _⟩ := h
    rw [← paired_len r]
    exact len xs M Qd Z h
  · obtain ⟨G, M, xs, Qd, Z, R, r, h, kq, z⟩ := h
    subst hn
    exact ⟨G, _, M, _, R, ⟨startD_rep N r, fun C fs sl M' G' σ' H' d vs q e R' _ hd r' => z C fs M' G' H' d vs q e R' hd r'⟩, hw xs M Qd Z h, ⟨fun de' M' G' σ' H' q e R' _ => kq _ _ _ _ _ q e R' .non, kq, fun _ _ _ _ _ q => q.elim, fun _ _ _ _ _ q => q.elim⟩⟩
end
theorem divOk_small {j : Int} (h : 0 < j) (h' : j < 2 ^ 64) : DivOk j := ⟨h, by
  have h1 : j.natAbs < 2 ^ 64 := by omega
  have h2 : j.natAbs ≠ 0 := by omega
  have := (Nat.log2_lt h2).mpr h1
  omega⟩
theorem mulOk_left {i j : Int} (h : -(2 ^ 64) < i) (h' : i < 2 ^ 64) : MulOk i j := .inl (.inl ⟨h, h'⟩)
theorem ifT {c : Bool} {A B : Prop} (h : c = true) (k : A) : if c = true then A else B := by rw [if_pos h]; exact k
theorem ifF {c : Bool} {A B : Prop} (h : c = false) (k : B) : if c = true then A else B := by rw [h, if_neg Bool.false_ne_true]; exact k
theorem ifD {p : Prop} [Decidable p] {A B : Prop} (h : p → A) (k : ¬ p → B) : if decide p = true then A else B := by
  by_cases q : p
  · rw [if_pos (decide_eq_true q)]; exact h q
  · rw [decide_eq_false q, if_neg Bool.false_ne_true]; exact k q
theorem ifN {p : Prop} [Decidable p] {A B : Prop} (h : ¬ p → A) (k : p → B) : if (!decide p) = true then A else B := by
  by_cases q : p
  · rw [decide_eq_true q]; exact (if_neg (by decide)).mpr (k q)
  · rw [decide_eq_false q]; exact (if_pos (by decide)).mpr (h q)
theorem ifP {p A B : Prop} [Decidable p] (h : p → A) (k : ¬ p → B) : if p then A else B := by
  by_cases q : p
  · rw [if_pos q]; exact h q
  · rw [if_neg q]; exact k q
theorem brT {c : Bool} {A B : Prop} (h : c = true) (k : A) : Br c A B := .t h k
theorem brF {c : Bool} {A B : Prop} (h : c = false) (k : B) : Br c A B := .f h k
theorem brD {p : Prop} [Decidable p] {A B : Prop} (h : p → A) (k : ¬ p → B) : Br (decide p) A B := by
  by_cases q : p
  · exact .t (decide_eq_true q) (h q)
  · exact .f (decide_eq_false q) (k q)
theorem brN {p : Prop} [Decidable p] {A B : Prop} (h : ¬ p → A) (k : p → B) : Br (!decide p) A B := by
  by_cases q : p
  · exact .f (by rw [decide_eq_true q]; rfl) (k q)
  · exact .t (by rw [decide_eq_false q]; rfl) (h q)
theorem brB {b : Bool} {A B : Prop} (h : b = true → A) (k : b = false → B) : Br b A B := by
  cases b with
  | true => exact .t rfl (h rfl)
  | false => exact .f rfl (k rfl)
theorem str_ne {a b : Str} (h : decide (a = b) = false) : ¬ a = b := of_decide_eq_false h
end DL

set_option Elab.async false
set_option linter.all false
set_option maxRecDepth 100000
set_option maxHeartbeats 4000000
/-! DL9: small facts that readings use. -/
namespace DL
open PySem
theorem Wk.forget {x : DV} {M M' : DM} (h : ∀ a o, M' a = some o → M a = some o) : Wk x M x M' := fun _ G _ _ R r => ⟨G, Ex.refl G, ⟨R.ex, fun a o q => R.ob a o (h a o q)⟩, r⟩
theorem Wk.drop {x : DV} {M : DM} {p : Addr} {o : Option MO} (h : M p = none) : Wk x (mset M p o) x M := Wk.forget fun a u q => by
  have : a ≠ p := fun z => by subst z; rw [h] at q; cases q
  rw [mset_ne this]; exact q
theorem Wk.drop2 {x : DV} {M : DM} {p : Addr} {o u : Option MO} (h : M p = none) : Wk x (mset (mset M p o) p u) x M := by
  rw [mset_mset]; exact .drop h
theorem Wk.trans {x y z : DV} {M N O : DM} (a : Wk x M y N) (b : Wk y N z O) : Wk x M z O := fun K G H v R r => by
  obtain ⟨G1, e1, R1, r1⟩ := a K G H v R r
  obtain ⟨G2, e2, R2, r2⟩ := b K G1 H v R1 r1
  exact ⟨G2, e1.trans e2, R2, r2⟩
section
variable {α : Type}
theorem at_0 (x : α) (l : List α) : L2.atI (x :: l) 0 = some x := by
  have : (0 : Int) < ((x :: l).length : Int) := by simp
  unfold L2.atI L2.ixN
  rw [if_pos (by decide), if_pos this]; rfl
theorem at_nn {l : List α} {i : Int} {x : α} (h : 0 ≤ i) (e : l[i.toNat]? = some x) : L2.atI l i = some x := by
  have hl : i.toNat < l.length := by
    rcases Nat.lt_or_ge i.toNat l.length with q | q
    · exact q
    · rw [List.getElem?_eq_none q] at e; cases e
  unfold L2.atI L2.ixN
  rw [if_pos h, if_pos (by omega)]
  exact e
theorem ix_0 (x : α) (l : List α) : L2.ixN (x :: l).length 0 = some 0 := by
  have : (0 : Int) < ((x :: l).length : Int) := by simp
  unfold L2.ixN
  rw [if_pos (by decide), if_pos this]; rfl
theorem ix_nn {n : Nat} {i : Int} (h : 0 ≤ i) (h' : i < n) : L2.ixN n i = some i.toNat := by
  unfold L2.ixN
  rw [if_pos h, if_pos h']
theorem seq_0 (x : α) (l : List α) : seqIndex? 0 (x :: l).length = some 0 := by
  unfold seqIndex?
  simp
theorem isLst_of {M : DM} {a : Addr} {l : List DV} (h : M a = some (.lst l)) : isLst (.ob a) M := by
  show (match M a with
    | some (.lst _) => True
    | _ => False)
  rw [h]
  trivial
theorem at_1 (x y : α) (l : List α) : L2.atI (x :: y :: l) 1 = some y := at_nn (by decide) rfl
theorem at_2 (x y z : α) (l : List α) : L2.atI (x :: y :: z :: l) 2 = some z := at_nn (by decide) rfl
theorem at_3 (x y z u : α) (l : List α) : L2.atI (x :: y :: z :: u :: l) 3 = some u := at_nn (by decide) rfl
theorem at_4 (x y z u t : α) (l : List α) : L2.atI (x :: y :: z :: u :: t :: l) 4 = some t := at_nn (by decide) rfl
theorem at_5 (x y z u t s : α) (l : List α) : L2.atI (x :: y :: z :: u :: t :: s :: l) 5 = some s := at_nn (by decide) rfl
theorem at_6 (x y z u t s r : α) (l : List α) : L2.atI (x :: y :: z :: u :: t :: s :: r :: l) 6 = some r := at_nn (by decide) rfl
theorem atW_of {l : List α} {i : Int} {x : α} {k : α → Prop} (e : L2.atI l i = some x) (h : k x) : atW l i k := by unfold atW; rw [e]; exact h
end
theorem eqv_ss (a b : Str) : PyData.eqv (.str a) (.str b) = decide (a = b) := by
  rw [PyData.eqv]
  by_cases h : a = b
  · subst h; simp
  · simp [h]
theorem eqv_ii (a b : Int) : PyData.eqv (.int a) (.int b) = decide (a = b) := by
  rw [PyData.eqv]
  by_cases h : a = b
  · subst h; simp
  · simp [h]
theorem any_str (l : List Str) (s : Str) : ((l.map PyData.str).any fun z => PyData.eqv z (.str s)) = decide (s ∈ l) := by
  induction l with
  | nil => rfl
  | cons x r ih =>
    rw [List.map_cons, List.any_cons, ih, eqv_ss]
    by_cases h : x = s
    · subst h; simp
    · have h' : ¬ s = x := fun z => h z.symm
      simp [h, h']
theorem canLay_strs : ∀ l : List Str, l.all PyData.strOk = true → PyData.canLayAll0 (l.map PyData.str) = true
  | [], _ => by simp [PyData.canLayAll0]
  | n :: r, h => by
    rw [List.all_cons, Bool.and_eq_true] at h
    simp [PyData.canLayAll0, PyData.canLay0, canLay_strs r h.2, h.1]
theorem depth_strs : ∀ l : List Str, PyData.depthAll (l.map PyData.str) ≤ 1
  | [] => by simp [PyData.depthAll]
  | n :: r => by
    have := depth_strs r
    simp only [List.map_cons, PyData.depthAll, PyData.depth]
    omega
theorem shaped_strs {l : List Str} (h : l.all PyData.strOk = true) : SeqAt.shaped (.list (l.map PyData.str)) = true := by
  have h1 := depth_strs l
  unfold SeqAt.shaped
  rw [Bool.and_eq_true]
  refine ⟨by rw [PyData.canLay0]; exact canLay_strs l h, decide_eq_true ?_⟩
  rw [PyData.depth]; omega
theorem shaped_str {x : Str} (h : PyData.strOk x = true) : SeqAt.shaped (.str x) = true := by
  unfold SeqAt.shaped
  rw [Bool.and_eq_true]
  refine ⟨by rw [PyData.canLay0]; exact h, decide_eq_true ?_⟩
  simp [PyData.depth]
theorem in_strs {o : Str} (l : List Str) (h : PyData.strOk o = true) (h' : l.all PyData.strOk = true) : SeqAt.shaped (.str o) = true ∧ SeqAt.shaped (.list (l.map PyData.str)) = true ∧ ((l.map PyData.str).any fun z => PyData.eqv z (.str o)) = decide (o ∈ l) := ⟨shaped_str h, shaped_strs h', any_str l o⟩
theorem flat_strs (l : List Str) : ((l.map PyData.str).all flatD) = true := by
  rw [List.all_map, List.all_eq_true]
  exact fun _ _ => rfl
section
variable {κ : Type} [DecidableEq κ]
theorem putD_new {kvs : List (κ × DV)} {k : κ} {x : DV} (h : k ∉ kvs.map (·.1)) : putD kvs k x = kvs ++ [(k, x)] := by
  unfold putD
  rw [if_neg]
  intro z
  rw [List.any_eq_true] at z
  obtain ⟨y, hy, e⟩ := z
  exact h (List.mem_map.mpr ⟨y, hy, of_decide_eq_true e⟩)
theorem valD_i {kvs : List (κ × DV)} {k : κ} {i : Nat} {x : DV} (h : (kvs.map (·.1)).findIdx? (fun q => decide (q = k)) = some i) (e : (kvs.map (·.2))[i]? = some x) : valD kvs k = some x := by
  induction kvs generalizing i with
  | nil => cases h
  | cons y r ih =>
    rw [List.map_cons, List.findIdx?_cons] at h
    unfold valD
    rw [List.find?_cons]
    by_cases z : y.1 = k
    · rw [decide_eq_true z] at h ⊢
      cases h
      simpa using e
    · rw [decide_eq_false z] at h ⊢
      rw [if_neg Bool.false_ne_true] at h
      obtain ⟨j, hj, rfl⟩ := Option.map_eq_some_iff.mp h
      exact ih hj (by simpa using e)
end
theorem mergeD_app : ∀ (more kvs : List (L2.Key × DV)), ((kvs ++ more).map (·.1)).Nodup → mergeD kvs more = kvs ++ more
  | [], kvs, _ => by simp [mergeD]
  | (k, x) :: r, kvs, h => by
    have h1 : k ∉ kvs.map (·.1) := by
      intro z
      rw [List.map_append, List.nodup_append] at h
      exact h.2.2 _ z _ (by simp) rfl
    have e : mergeD kvs ((k, x) :: r) = mergeD (kvs ++ [(k, x)]) r := by
      show mergeD (putD kvs k x) r = _
      rw [putD_new h1]
    rw [e, mergeD_app r _ (by simpa using h)]
    simp
theorem mergeD_nil {more : List (L2.Key × DV)} (h : (more.map (·.1)).Nodup) : mergeD [] more = more := mergeD_app more [] h
end DL

set_option Elab.async false
set_option linter.all false
set_option maxRecDepth 100000
set_option maxHeartbeats 4000000
/-! DL10: comprehensions that leave the objects alone; the laws' random state, in full and as it is told. -/
namespace DL
open PySem
theorem mset_none {M : DM} {a : Addr} (h : M a = none) : mset M a none = M := by
  funext b
  unfold mset
  split
  · rename_i e; subst e; exact h.symm
  · rfl
theorem frz_map (ds : List PyData) : frz false (ds.map DV.d) = some ds := dats_map ds
theorem orBr {c1 c2 : Bool} {A B : Prop} (h : c1 = true ∨ c2 = true → A) (k : c1 = false → c2 = false → B) : Br c1 (Br true A B) (Br c2 A B) := by
  cases c1 with
  | true => exact .t rfl (.t rfl (h (.inl rfl)))
  | false => cases c2 with
    | true => exact .f rfl (.t rfl (h (.inr rfl)))
    | false => exact .f rfl (.f rfl (k rfl rfl))
theorem andBr {c1 c2 : Bool} {A B : Prop} (h : c1 = true → c2 = true → A) (k : c1 = false ∨ c2 = false → B) : Br c1 (Br c2 A B) (Br false A B) := by
  cases c1 with
  | false => exact .f rfl (.f rfl (k (.inl rfl)))
  | true => cases c2 with
    | false => exact .t rfl (.f rfl (k (.inr rfl)))
    | true => exact .t rfl (.t rfl (h rfl rfl))
/-- the objects as they were, but the new list -/
def lcI (M1 : DM) (D : Addr) (R : Nat → List DV → Prop) : Nat → List DV → DM → Prop := fun i acc M => M = mset M1 D (some (.lst acc)) ∧ acc.length ≤ i ∧ R i acc
theorem lc_ok {M1 : DM} {D : Addr} {R : Nat → List DV → Prop} {A : DM → Prop} {n : Nat} (hA : ∀ acc, A (mset M1 D (some (.lst acc)))) : ∀ i acc M, i ≤ n → lcI M1 D R i acc M → A M ∧ M D = some (.lst acc) ∧ acc.length ≤ i := by
  rintro i acc M _ ⟨rfl, h, _⟩
  exact ⟨hA acc, mset_same, h⟩
theorem lc_leaf {M1 : DM} {D : Addr} {R : Nat → List DV → Prop} {i : Nat} {acc : List DV} {y : DV} (h : acc.length ≤ i) (r : R (i + 1) (acc ++ [y])) :
    (mset M1 D (some (.lst acc))) D = some (.lst acc) ∧ lcI M1 D R (i + 1) (acc ++ [y]) (mset (mset M1 D (some (.lst acc))) D (some (.lst (acc ++ [y])))) :=
  ⟨mset_same, mset_mset, by rw [List.length_append]; simpa using h, r⟩
theorem lc_skip {M1 : DM} {D : Addr} {R : Nat → List DV → Prop} {i : Nat} {acc : List DV} (h : acc.length ≤ i) (r : R (i + 1) acc) : lcI M1 D R (i + 1) acc (mset M1 D (some (.lst acc))) := ⟨rfl, Nat.le_succ_of_le h, r⟩
/-- the draws' state, in full -/
def GenC (M : DM) (st c : Addr) : Prop := ∃ (s : Int) (ns : List Int), M st = some (.lst [.ob c, .d (.int s)]) ∧ M c = some (.lst (ns.map fun n => .d (.int n))) ∧ 0 ≤ s ∧ s < 2 ^ 62 ∧ ∀ n ∈ ns, 0 ≤ n
def IsGen (M : DM) (st : Addr) : Prop := ∃ c, M st = some (.genA c) ∧ M c = some .genB
def spDrawC : DSp := fun xs M Q Z => ∃ (st c : Addr) (n : Int), xs = [.ob st, .d (.int n)] ∧ GenC M st c ∧ 0 < n ∧ n < 2 ^ 62 ∧ ∀ r M', 0 ≤ r → r < n → GenC M' st c → (∀ a, a ≠ st → a ≠ c → M' a = M a) → Q (.d (.int r)) M'
def spDraw : DSp := fun xs M Q Z => ∃ (st : Addr) (n : Int), xs = [.ob st, .d (.int n)] ∧ IsGen M st ∧ 0 < n ∧ n < 2 ^ 62 ∧ ∀ r, 0 ≤ r → r < n → Q (.d (.int r)) M
theorem rep_ints {K : PySem.W.Frag} {G : L2.Hp} : ∀ ns : List Int, RepL K G (ns.map fun n => .d (.int n)) (ns.map L2.V.int)
  | [] => .nil
  | _ :: r => .cons (.int _) (rep_ints r)
theorem ints_rep {K : PySem.W.Frag} {G : L2.Hp} : ∀ (ns : List Int) {vs : List L2.V}, RepL K G (ns.map fun n => .d (.int n)) vs → vs = ns.map L2.V.int
  | [], _, .nil => rfl
  | _ :: r, _, .cons (.int _) t => by rw [ints_rep r t]; rfl
theorem draw_imp (K : PySem.W.Frag) (vs : List L2.V) (H : L2.Hp) (Q : L2.VK) (E : L2.XK) (h : LSp K spDraw vs H Q E) : LSp K spDrawC vs H Q E := by
  obtain ⟨G, M, xs, Qd, Z, R, rl, ⟨st, n, rfl, ⟨c, hst, hc⟩, hn, hn', q⟩, kq, z⟩ := h
  obtain ⟨⟨s, e1, e2, e3⟩, gst⟩ := R.ob st _ hst
  obtain ⟨⟨ns, e4, e5⟩, gc⟩ := R.ob c _ hc
  have hsc : st ≠ c := fun y => by subst y; rw [hst] at hc; cases hc
  let M1 : DM := mset (mset M c (some (.lst (ns.map fun n => .d (.int n))))) st (some (.lst [.ob c, .d (.int s)]))
  have R1 : RpM K G M1 H := by
    refine ⟨R.ex, fun a o p => ?_⟩
    by_cases y : a = st
    · subst y
      have p' : some (MO.lst [.ob c, .d (.int s)]) = some o := by rw [← p]; exact mset_same.symm
      cases p'
      exact ⟨⟨_, e1, .cons rfl (.cons (.int _) .nil)⟩, gst⟩
    · by_cases y' : a = c
      · subst y'
        have p' : some (MO.lst (ns.map fun n => .d (.int n))) = some o := by rw [← p]; show _ = mset _ _ _ _; rw [mset_ne y, mset_same]
        cases p'
        exact ⟨⟨_, e4, rep_ints ns⟩, gc⟩
      · have p' : M a = some o := by rw [← p]; show _ = mset _ _ _ _; rw [mset_ne y, mset_ne y']
        exact R.ob a o p'
  refine ⟨G, M1, _, fun x M' => ∃ r, x = .d (.int r) ∧ Qd x M ∧ GenC M' st c ∧ ∀ a, a ≠ st → a ≠ c → M' a = M1 a, fun _ _ _ => False, R1, rl, ⟨st, c, n, rfl, ⟨s, ns, mset_same, by show mset _ _ _ _ = _; rw [mset_ne hsc.symm, mset_same], e2, e3, e5⟩, hn, hn', fun r M' h1 h2 g fr => ⟨r, rfl, q r h1 h2, g, fr⟩⟩, ?_, fun _ _ _ _ _ _ _ f => f.elim⟩
  rintro x M' G' H' v ⟨r, rfl, qx, ⟨s', ns', g1, g2, g3, g4, g5⟩, fr⟩ ex R' rv
  refine kq _ M G' H' v qx ex ⟨R'.ex, fun a o p => ?_⟩ rv
  by_cases y : a = st
  · subst y
    rw [hst] at p
    cases p
    obtain ⟨⟨vs, f1, f2⟩, f3⟩ := R'.ob a _ g1
    cases f2 with
    | cons a1 t =>
      cases t with
      | cons a2 t =>
        cases t
        cases a1
        cases a2
        exact ⟨⟨s', f1, g3, g4⟩, f3⟩
  · by_cases y' : a = c
    · subst y'
      rw [hc] at p
      cases p
      obtain ⟨⟨vs, f1, f2⟩, f3⟩ := R'.ob a _ g2
      obtain rfl := ints_rep ns' f2
      exact ⟨⟨ns', f1, g5⟩, f3⟩
    · refine R'.ob a o ?_
      rw [fr a y y']
      show mset _ _ _ _ = _
      rw [mset_ne y, mset_ne y']
      exact p
theorem draw_ok {P : Program} {w : World} {K : PySem.W.Frag} {mg : Str → Option Value} {base : Heap} {x : Str} {ps : List Str} {k : Nat} (h : DefOk P w K mg base x ps k spDrawC) : DefOk P w K mg base x ps k spDraw := h.imp fun vs H Q E => draw_imp K vs H Q E
/-- a new state, told -/
theorem Wk.gen {M : DM} {st c : Addr} {s : Int} {ns : List Int} (h1 : M st = some (.lst [.ob c, .d (.int s)])) (h2 : M c = some (.lst (ns.map fun n => .d (.int n)))) (h3 : 0 ≤ s) (h4 : s < 2 ^ 62) (h5 : ∀ n ∈ ns, 0 ≤ n) (x : DV) : Wk x M x (mset (mset M c (some .genB)) st (some (.genA c))) := fun K G H v R r => by
  have hsc : st ≠ c := fun z => by
    subst z; rw [h1] at h2
    cases ns with
    | nil => cases h2
    | cons _ _ => cases h2
  refine ⟨G, Ex.refl G, ⟨R.ex, fun a o p => ?_⟩, r⟩
  by_cases y : a = st
  · subst y
    rw [mset_same] at p
    cases p
    obtain ⟨⟨vs, f1, f2⟩, f3⟩ := R.ob a _ h1
    cases f2 with
    | cons a1 t =>
      cases t with
      | cons a2 t =>
        cases t
        cases a1
        cases a2
        exact ⟨⟨s, f1, h3, h4⟩, f3⟩
  · rw [mset_ne y] at p
    by_cases y' : a = c
    · subst y'
      rw [mset_same] at p
      cases p
      obtain ⟨⟨vs, f1, f2⟩, f3⟩ := R.ob a _ h2
      obtain rfl := ints_rep ns f2
      exact ⟨⟨ns, f1, h5⟩, f3⟩
    · rw [mset_ne y'] at p
      exact R.ob a o p
end DL

set_option Elab.async false
set_option linter.all false
set_option maxRecDepth 100000
set_option maxHeartbeats 1000000
/-! DL11: how long the text of a thing may be. -/
namespace DL
open PySem
theorem textFrom_le : ∀ (ts : List Str) (k : Nat) (acc : Str), (textFrom k acc ts).length ≤ acc.length + piled ts
  | [], _, _ => Nat.le_refl _
  | t :: r, k, acc => by
    have h := textFrom_le r (k + 1) (acc ++ (if k > 0 then ", " else "" : String) ++ t)
    have e : (acc ++ (if k > 0 then ", " else "" : String) ++ t).length ≤ acc.length + 2 + t.length := by
      rw [strLen_append, strLen_append]
      have : (Str.ofString (if k > 0 then ", " else "" : String)).length ≤ 2 := by split <;> decide
      omega
    show (textFrom (k + 1) _ r).length ≤ _
    rw [piled_cons]
    omega
theorem listText_le (ts : List Str) : (listText ts).length ≤ 2 + piled ts := by
  have := textFrom_le ts 0 "["
  unfold listText
  rw [strLen_append]
  have e1 : (Str.ofString "[").length = 1 := rfl
  have e2 : (Str.ofString "]").length = 1 := rfl
  rw [e2]
  rw [e1] at this
  omega
theorem join_le (ts : List Str) : (Str.join ", " ts).length ≤ piled ts := by
  cases ts with
  | nil => exact Nat.le_refl 0
  | cons a r =>
    have := join_length_add (a :: r) (by simp)
    omega
theorem tupleText_le (ts : List Str) : (tupleText ts).length ≤ 3 + piled ts := by
  have := join_le ts
  unfold tupleText
  rw [strLen_append, strLen_append]
  have e1 : (Str.ofString "(").length = 1 := rfl
  have e3 : (Str.ofString (if ts.length == 1 then ",)" else ")" : String)).length ≤ 2 := by split <;> decide
  rw [e1]
  omega
theorem dictText_le (ts : List Str) : (dictText ts).length ≤ 2 + piled ts := by
  have := join_le ts
  unfold dictText
  rw [strLen_append, strLen_append]
  have e1 : (Str.ofString "{").length = 1 := rfl
  have e2 : (Str.ofString "}").length = 1 := rfl
  rw [e1, e2]
  omega
mutual
/-- small enough for its text -/
def okR : PyData → Bool
  | .none => true
  | .bool _ => true
  | .int i => decide (i.natAbs < 10 ^ 19)
  | .str x => PyData.strOk x
  | .list xs => okRs xs
  | .tuple xs => okRs xs
  | .dict kvs => okRk kvs
def okRs : List PyData → Bool
  | [] => true
  | x :: r => okR x && okRs r
def okRk : List (PyData × PyData) → Bool
  | [] => true
  | (k, v) :: r => okR k && okR v && okRk r
end
mutual
def szR : PyData → Nat
  | .none => 4
  | .bool _ => 5
  | .int _ => 20
  | .str x => 10 * x.length + 2
  | .list xs => 2 + szRs xs
  | .tuple xs => 3 + szRs xs
  | .dict kvs => 2 + szRk kvs
def szRs : List PyData → Nat
  | [] => 0
  | x :: r => szR x + 2 + szRs r
def szRk : List (PyData × PyData) → Nat
  | [] => 0
  | (k, v) :: r => szR k + 2 + szR v + 2 + szRk r
end
theorem strOk_lt {x : Str} (h : PyData.strOk x = true) : ∀ c ∈ x.cps.toList, c < 16 ^ 8 := by
  intro c hc
  unfold PyData.strOk at h
  rw [Array.all_eq_true_iff_forall_mem] at h
  have := of_decide_eq_true (h c (by simpa using hc))
  omega
theorem int_le {i : Int} (h : i.natAbs < 10 ^ 19) : (Str.ofString (toString i)).length ≤ 20 := by
  have := int_text_length_le10 (k := 19) (by decide) h
  rw [show (Str.ofString (toString i)).length = (toString i).length from by rw [Str.ofString_eq_toList]; show (List.map Char.toNat (toString i).toList).toArray.size = _; rw [List.size_toArray, List.length_map, String.length_toList]]
  exact this
mutual
theorem shown_le : ∀ d : PyData, okR d = true → d.shown.length ≤ szR d ∧ d.showable = true
  | .none, _ => by rw [PyData.shown, PyData.showable, szR]; exact ⟨by decide, rfl⟩
  | .bool b, _ => by rw [PyData.shown, PyData.showable, szR]; exact ⟨by cases b <;> decide, rfl⟩
  | .int i, h => by
    rw [okR, decide_eq_true_eq] at h
    rw [PyData.shown, PyData.showable, szR]
    refine ⟨int_le h, decide_eq_true ?_⟩
    by_cases z : i.natAbs = 0
    · rw [z]; decide
    · have : i.natAbs < 2 ^ 64 := by omega
      have := (Nat.log2_lt z).mpr this
      omega
  | .str x, h => by
    rw [okR] at h
    rw [PyData.shown, PyData.showable, szR]
    exact ⟨StrLaws.reprText_len x (strOk_lt h), rfl⟩
  | .list xs, h => by
    rw [okR] at h
    rw [PyData.shown, PyData.showable, szR]
    obtain ⟨h1, h2⟩ := shownAll_le xs h
    have := listText_le (PyData.shownAll xs)
    exact ⟨by omega, h2⟩
  | .tuple xs, h => by
    rw [okR] at h
    rw [PyData.shown, PyData.showable, szR]
    obtain ⟨h1, h2⟩ := shownAll_le xs h
    have := tupleText_le (PyData.shownAll xs)
    exact ⟨by omega, h2⟩
  | .dict kvs, h => by
    rw [okR] at h
    rw [PyData.shown, PyData.showable, szR]
    obtain ⟨h1, h2⟩ := shownKv_le kvs h
    have := dictText_le (PyData.shownKv kvs)
    exact ⟨by omega, h2⟩
theorem shownAll_le : ∀ ds : List PyData, okRs ds = true → piled (PyData.shownAll ds) ≤ szRs ds ∧ PyData.showableAll ds = true
  | [], _ => by rw [PyData.shownAll, PyData.showableAll, szRs]; exact ⟨Nat.le_refl 0, rfl⟩
  | x :: r, h => by
    rw [okRs, Bool.and_eq_true] at h
    obtain ⟨a1, a2⟩ := shown_le x h.1
    obtain ⟨b1, b2⟩ := shownAll_le r h.2
    rw [PyData.shownAll, PyData.showableAll, szRs, piled_cons, a2, b2]
    exact ⟨by omega, rfl⟩
theorem shownKv_le : ∀ ds : List (PyData × PyData), okRk ds = true → piled (PyData.shownKv ds) ≤ szRk ds ∧ PyData.showableKv ds = true
  | [], _ => by rw [PyData.shownKv, PyData.showableKv, szRk]; exact ⟨Nat.le_refl 0, rfl⟩
  | (k, v) :: r, h => by
    rw [okRk, Bool.and_eq_true, Bool.and_eq_true] at h
    obtain ⟨a1, a2⟩ := shown_le k h.1.1
    obtain ⟨c1, c2⟩ := shown_le v h.1.2
    obtain ⟨b1, b2⟩ := shownKv_le r h.2
    rw [PyData.shownKv, PyData.showableKv, szRk, piled_cons, a2, b2, c2]
    refine ⟨?_, rfl⟩
    rw [strLen_append, strLen_append]
    have : (Str.ofString ": ").length = 2 := rfl
    omega
end
end DL

set_option Elab.async false
set_option linter.all false
set_option maxRecDepth 100000
set_option maxHeartbeats 2000000
/-! DLE: a law's def called at the law's own call, with what holds there alone (no guard under way, the modules' table in the base). -/
namespace DL
open PySem PySem.Spec PyProof.Rows L2
/-- a def's promise at one call -/
def At1 (P : Program) (w : World) (K : PySem.W.Frag) (mg : Str → Option Value) (base : Heap) (A : Around) (f : Addr) (fd : FuncData) (ps : List Str) (sp : Sp) : Prop :=
  ∀ (fr : List Env) (t : Shared) (J : Hp) (args : Args) (us : List Value) (vs : List V) (Q : VK) (E : XK), Env0 P w K mg base A fr t J → BindsTo t fd args (ps.zip us) → Vals vs us → sp vs J Q E →
    codeAny (model P w) A (.call (.ref f) args) (CR (L2.CX P w) fr P w J t Q E) t
theorem at1_of {P : Program} {w : World} {K : PySem.W.Frag} {mg : Str → Option Value} {base : Heap} {x : Str} {st : Stmt} {f : Addr} {fd : FuncData} {N ps : List Str} {k : Nat} {sp : Sp} {A : Around}
    (F : L2.Fun K x x st f fd) (S : FnScope N ps (defScope st)) (hr : Room (k + 1) A) (len : ∀ vs J Q E, sp vs J Q E → vs.length = ps.length)
    (hbody : ∀ (cdv : Value) (fr : List Env) (t : Shared) (J : Hp) (vs : List V) (Q : VK) (E : XK), Room k (A.deeper (envOfC x (defScope st) t.heap.objs.size f cdv)) → sp vs J Q E →
      ∃ b, PSs (cxOf (L2.CX P w) P w K mg base N x (defScope st) f cdv A fr t J E) (defBody st) b ∧ b { nx := fun _ J' => Q .non J', rt := Q } (start N vs) J) : At1 P w K mg base A f fd ps sp := by
  obtain ⟨oc, od, kV, doc, pm, an, cdv, ct, osl, rfl, look, hcode⟩ := F.ex
  intro fr t J args us vs Q E env bind rel hsp
  have nvs := len _ _ _ _ hsp
  have inK : K.In t.heap := env.mod.kin.keeps fun c ob q => (env.bs c ob q).1
  have nolim : t.heap.NoLimit := env.mod.nolimit.keeps fun c ob q => (env.bs c ob q).1
  refine codeAny_call_function hr.depth (inK _ _ look) rfl S.co S.gen rfl (PySem.W.codeRec_of inK hcode) (bind _ _ _ _ ?_)
  refine wpAny_newFunctionEnv_cells S.kind (fun ⟨z, v⟩ hz => ?_) fun env2 same t1 made => ?_
  · rcases S.par z (List.of_mem_zip hz).1 with q | q
    · exact Or.inl q
    · exact Or.inr ⟨q, PySem.W.cellsFrom_some _ _ _ (Or.inl q)⟩
  subst same
  refine ⟨nolim.keeps made.toInCall.keep, codeAny_func ?_⟩
  obtain ⟨b, hb, run⟩ := hbody cdv fr t J vs Q E (hr.deeper _) hsp
  have I : Inv (cxOf (L2.CX P w) P w K mg base N x (defScope st) f cdv A fr t J E) [] (L2.start N vs) J t1 := inv_start S hr.hd env nvs rel made
  refine wpAny_mono (hb.run [] t1 (start N vs) J _ I run) (fun fl t' how => ?_) fun e t' how => how
  have stop : ∀ {τ : L2.St} {J' : Hp} {v : V} {u : Value}, Inv (cxOf (L2.CX P w) P w K mg base N x (defScope st) f cdv A fr t J E) [] τ J' t' → RelV v u → Q v J' → CE fr P w J t Q u t' :=
    fun {τ J' v u} I2 rv q => ⟨v, J', I2.os, I2.bare, I2.base, I2.hok, rv, q⟩
  cases fl with
  | ret u => obtain ⟨v, τ, J', I2, rv, q⟩ := how; exact stop I2 rv q
  | next => obtain ⟨τ, J', I2, q⟩ := how; exact stop (v := V.non) (u := Value.none) I2 rfl q
  | brk => obtain ⟨_, _, _, q⟩ := how; exact q.elim
  | cont => obtain ⟨_, _, _, q⟩ := how; exact q.elim
theorem law_at {P : Program} {w : World} {K : PySem.W.Frag} {mg mb : Str → Option Value} {f a : Addr} {fd : FuncData} {x : Str} {sp : Sp} {t : Shared} {vs : List Value} {ns : List Int} {sysO : Obj}
    (inK : K.In t.heap) (nsG : t.heap.Ns mainGlobals mg) (nsB : t.heap.Ns builtinsNs mb) (blt : ∀ y : Str, y ≠ "__name__" → mb y = bootBuiltins y) (nolim : t.heap.NoLimit) (nogen : t.gens = #[])
    (sysA : t.heap.get? sysModules = some sysO) (sysC : sysO.cls = .type "dict")
    (obA : t.heap.get? a = some { cls := .type "list", data := .seq vs.toArray }) (intsA : IntsAre vs ns) (few : ns.length ≤ sizeLine)
    (F : ∀ base : Heap, K.In base → base.Ns mainGlobals mg → (∃ o, base.get? sysModules = some o) → At1 P w K mg base callerA f fd [x] sp) (bind : ∀ (t : Shared) (u : Value), BindsTo t fd ⟨[u], []⟩ [(x, u)])
    (hsp : ∀ J : Hp, Only J → SqL K J a (ns.map V.int) → sp [.ref a] J (fun v _ => v = .bl true) fun _ _ _ => False) :
    codeAny (model P w) callerA (.call (.ref f) ⟨[.ref a], []⟩) (fun r t' => r = .ok (.ret (.bool true)) ∧ OldK t.heap t'.heap ∧ t'.os = t.os ∧ AllBare t'.gens) t := by
  have rel := vals_ints intsA
  have lenV := intsA.length
  have main : ∀ J : Hp, Only J → SqL K J a (ns.map V.int) → HOk P w J t.heap → (∀ c, J c ≠ none → c = a) → (J a ≠ none → K.lookup a = none) →
      codeAny (model P w) callerA (.call (.ref f) ⟨[.ref a], []⟩) (fun r t' => r = .ok (.ret (.bool true)) ∧ OldK t.heap t'.heap ∧ t'.os = t.os ∧ AllBare t'.gens) t := by
    intro J only seq holds onlyA notK
    have under : ∀ {c : Addr} {o : Obj}, t.heap.get? c = some o → J c = none → (hidT t.heap J).get? c = some o := fun q n => hidT_get q n
    have free : ∀ {c : Addr} {o : Obj}, t.heap.get? c = some o → (∀ (q : Array Value) m, o.data = .seq q m → o.cls = .type "list" → False) → J c = none := fun {c o} q hne => by
      cases z : J c with
      | none => rfl
      | some u =>
        obtain rfl : c = a := onlyA c (by rw [z]; simp)
        rw [obA] at q
        cases q
        exact (hne _ _ rfl rfl).elim
    have names : ∀ {c : Addr} {m : Str → Option Value}, t.heap.Ns c m → (hidT t.heap J).Ns c m := fun {c m} ⟨o, es, ep, q, dd, r⟩ => ⟨o, es, ep, under q (free q fun _ _ z _ => by rw [dd] at z; cases z), dd, r⟩
    have inB : K.In (hidT t.heap J) := fun c o q => under (inK c o q) (by
      cases z : J c with
      | none => rfl
      | some u =>
        obtain rfl : c = a := onlyA c (by rw [z]; simp)
        rw [notK (by rw [z]; simp)] at q
        cases q)
    have mod : Mod K mg (hidT t.heap J) := ⟨inB, names nsG, ⟨mb, names nsB, blt⟩, let ⟨mc, h1, h2⟩ := nolim; ⟨mc, names h1, h2⟩⟩
    have env : Env0 P w K mg (hidT t.heap J) callerA [] t J := ⟨rfl, mod, fun c o q => of_hidT q, Nat.le_of_eq (hidT_size _ _), trivial, fun c hc => absurd (show c ∈ ([] : List Addr) from hc) (by simp), holds, .of_eq nogen⟩
    have sysB : ∃ o, (hidT t.heap J).get? sysModules = some o := ⟨sysO, under sysA (free sysA fun _ _ _ z => by rw [sysC] at z; injection z with z; exact absurd z (by decide))⟩
    refine codeAny_mono (F _ inB (names nsG) sysB [] t J ⟨[.ref a], []⟩ [.ref a] [.ref a] _ _ env (bind t (.ref a)) (.cons rfl .nil) (hsp J only seq)) fun r t' how => ?_
    match r, how with
    | .error e, how =>
      obtain ⟨_, _, _, _, _, _, _, _, _, _, _, _, no⟩ := (show L2.CX P w [] J t (fun _ _ _ => False) e t' from how)
      exact no.elim
    | .ok .next, how => exact False.elim how
    | .ok .brk, how => exact False.elim how
    | .ok .cont, how => exact False.elim how
    | .ok (.ret u), ⟨v, J', os, bare, un, holds', r', q⟩ =>
      obtain rfl : v = .bl true := q
      obtain rfl : u = Value.bool true := r'
      refine ⟨rfl, OldK.of_keep fun c o q => ?_, os, bare⟩
      cases z : J c with
      | none => exact un.keep c o q z (fun y => absurd (show c ∈ ([] : List Addr) from y) (by simp)) (by simp)
      | some u =>
        rcases only c with y | ⟨ob, xs, y⟩
        · rw [z] at y; cases y
        · obtain ⟨e1, _⟩ := holds c _ y
          obtain ⟨e2, _⟩ := holds' c _ (un.frzs c ob _ y)
          rw [q] at e1
          cases e1
          exact e2
  cases own : K.lookup a with
  | some o =>
    have q := inK a o own
    rw [obA] at q
    cases q
    exact main (fun _ => none) (fun _ => Or.inl rfl) (Or.inr ⟨_, vs.toArray, _, own, rfl, rfl, rfl, by rw [List.size_toArray, lenV]; exact few, by simpa using rel⟩) (fun c u z => by cases z) (fun c z => absurd rfl z) fun z => absurd rfl z
  | none =>
    have at_a : ∀ (c : Addr) (u : HO), (if c = a then some (HO.frz { cls := .type "list", data := .seq vs.toArray } (.lst (ns.map V.int))) else none) = some u → c = a ∧ u = HO.frz { cls := .type "list", data := .seq vs.toArray } (.lst (ns.map V.int)) := fun c u z => by
      split at z
      · exact ⟨by assumption, (Option.some.inj z).symm⟩
      · cases z
    refine main (fun c => if c = a then some (.frz { cls := .type "list", data := .seq vs.toArray } (.lst (ns.map V.int))) else none) (fun c => ?_) (Or.inl (Or.inr ⟨{ cls := .type "list", data := .seq vs.toArray }, if_pos rfl⟩)) (fun c u z => ?_) (fun c z => ?_) fun _ => own
    · by_cases y : c = a
      · exact Or.inr ⟨_, _, if_pos y⟩
      · exact Or.inl (if_neg y)
    · obtain ⟨rfl, rfl⟩ := at_a c u z
      exact ⟨obA, by rw [List.length_map]; exact few, vs, _, rel, obA⟩
    · by_cases y : c = a
      · exact y
      · exact absurd (if_neg y) z
end DL

set_option Elab.async false
set_option linter.all false
set_option maxRecDepth 100000
set_option maxHeartbeats 2000000
/-! DLH: from the module's top to the law's def. -/
namespace DL
open PySem PySem.Spec PyProof.Rows L2
theorem fun_of {K : PySem.W.Frag} {x : Str} {st : Stmt} {f : Addr} {fd : FuncData} (F : L2.FunD K x x (defArgs st) (defBody st) (defScope st) [] [] f fd) : L2.Fun K x x st f fd := by
  obtain ⟨oc, od, dV, kV, doc, pm, an, cdv, ct, osl, rfl, lk, hcd, hD, _⟩ := F.ex
  rcases hD with ⟨_, rfl⟩ | ⟨no, _⟩
  · exact ⟨⟨oc, od, kV, doc, pm, an, cdv, ct, osl, rfl, lk, hcd⟩, F.kp⟩
  · exact absurd rfl no
/-- a def of which nothing is asked -/
theorem def_vac {P : Program} {w : World} {K : PySem.W.Frag} {mg : Str → Option Value} {base : Heap} {x : Str} {st : Stmt} {f : Addr} {fd : FuncData} {ps : List Str} {k : Nat} {sp : DSp} (F : L2.Fun K x x st f fd) (hm : mg x = some (.ref f)) (hb : Binds K fd ps [])
    (no : ∀ xs M Q Z, ¬ sp xs M Q Z) : DefOk P w K mg base x ps k sp :=
  ⟨f, fd, hm, F.kp, hb, fun _ _ _ _ ⟨_, _, _, _, _, _, _, q, _⟩ => absurd q (no _ _ _ _), fun _ _ _ _ _ _ _ _ _ _ _ _ _ ⟨_, _, _, _, _, _, _, q, _⟩ => absurd q (no _ _ _ _)⟩
/-- the law's def, walked -/
theorem at1_ok {P : Program} {w : World} {K : PySem.W.Frag} {mg : Str → Option Value} {base : Heap} {x : Str} {st : Stmt} {f : Addr} {fd : FuncData} {N ps : List Str} {k n : Nat} {sp : DSp} {wb : DS} {A : Around}
    (F : L2.Fun K x x st f fd) (S : FnScope N ps (defScope st)) (hr : Room (k + 1) A) (hn : N.length = n) (len : ∀ xs M Q Z, sp xs M Q Z → xs.length = ps.length)
    (hbody : ∀ (cdv : Value) (fr : List Env) (t : Shared) (J : Hp) (E : XK), Room k (A.deeper (envOfC x (defScope st) t.heap.objs.size f cdv)) →
      PSs (cxOf (L2.CX P w) P w K mg base N x (defScope st) f cdv A fr t J E) (defBody st) (LS K (fun cls d _ H' => E cls d H') wb))
    (hw : ∀ xs M Q Z, sp xs M Q Z → wb (retD Q) (envD n xs Z) M) : At1 P w K mg base A f fd ps (LSp K sp) := by
  refine at1_of F S hr (fun vs J Q E h => ?_) fun cdv fr t J vs Q E room h => ⟨_, hbody cdv fr t J E room, ?_⟩
  · obtain ⟨G, M, xs, Qd, Z, R, r, h, _⟩ := h
    rw [← paired_len r]
    exact len xs M Qd Z h
  · obtain ⟨G, M, xs, Qd, Z, R, r, h, kq, z⟩ := h
    subst hn
    exact ⟨G, _, M, _, R, ⟨startD_rep N r, fun C fs sl M' G' σ' H' d us q e R' _ hd r' => z C fs M' G' H' d us q e R' hd r'⟩, hw xs M Qd Z h, ⟨fun de' M' G' σ' H' q e R' _ => kq _ _ _ _ _ q e R' .non, kq, fun _ _ _ _ _ q => q.elim, fun _ _ _ _ _ q => q.elim⟩⟩
theorem dp_ints {K : PySem.W.Frag} {H : Hp} : ∀ ns : List Int, DpAll K H (ns.map V.int) (ns.map PyData.int)
  | [] => .nil
  | _ :: r => .cons (.int _) (dp_ints r)
/-- what every law asks of its def: true, for a script of so many numbers -/
def spMain (most : Nat) : DSp := fun xs _ Q _ => ∃ ns : List Int, xs = [.k (.list (ns.map PyData.int))] ∧ ns.length ≤ most ∧ ∀ M', Q (.d (.bool true)) M'
theorem main_sp {K : PySem.W.Frag} {J : Hp} {a : Addr} {ns : List Int} {most : Nat} (h : SqL K J a (ns.map V.int)) (hl : ns.length ≤ most) : LSp K (spMain most) [.ref a] J (fun v _ => v = .bl true) fun _ _ _ => False :=
  ⟨J, fun _ => none, [.k (.list (ns.map PyData.int))], fun x _ => x = .d (.bool true), fun _ _ _ => False, ⟨Ex.refl J, fun _ _ q => by cases q⟩, .cons (Dp.lst h (dp_ints ns)) .nil, ⟨ns, rfl, hl, fun _ => rfl⟩,
    fun x _ _ _ v q _ _ r => by cases q; cases r; rfl, fun _ _ _ _ _ _ _ q => q.elim⟩
/-! ### the head's hook: the facts of the defs, and that the modules' table stands -/
def sysB (g : Addr → Option Obj) : Bool := match g sysModules with
  | some o => (match o.cls with
    | .type n => n == "dict"
    | _ => false)
  | none => false
theorem sysB_ok {g : Addr → Option Obj} (h : sysB g = true) : ∃ o, g sysModules = some o ∧ o.cls = .type "dict" := by
  unfold sysB at h
  cases e : g sysModules with
  | none => rw [e] at h; cases h
  | some o =>
    rw [e] at h
    dsimp only at h
    refine ⟨o, rfl, ?_⟩
    split at h
    · rename_i n q
      rw [q, beq_iff_eq.mp h]
    · cases h
def hookR (n : Nat) (fa : List He.Fa) (fn : List He.DefD) : PySem.W.Hook where
  α := He.AlD × Bool
  obs := fun s => (He.obsDG n fa fn s.heap.get?, sysB s.heap.get?)
  val := fun _ => (He.valD fn, true)
  says := fun w h => (He.hookD n fa fn).says w h ∧ ∃ o, h.get? sysModules = some o ∧ o.cls = .type "dict"
  of := fun w s e => ⟨(He.hookD n fa fn).of w s (congrArg Prod.fst e), sysB_ok (congrArg Prod.snd e)⟩
  keeps := fun w h h' ⟨q, o, z, y⟩ k => ⟨(He.hookD n fa fn).keeps w h h' q k, o, k _ _ z, y⟩
def obR (n : Nat) (fa : List He.Fa) (fn : List He.DefD) (s : PySem.W.SharedT) : He.AlD × Bool := (He.obsDG n fa fn (HandSHeadRun.getT s), sysB (HandSHeadRun.getT s))
theorem obR_eq {n : Nat} {fa : List He.Fa} {fn : List He.DefD} (s : PySem.W.SharedT) : obR n fa fn s = (hookR n fa fn).obs s.abs := by
  have e : HandSHeadRun.getT s = s.abs.heap.get? := funext (HandSHeadRun.getT_eq s)
  unfold obR
  rw [e]
  rfl
/-- the law over such a head -/
theorem walk_law {l : PySem.W.OpenLaw} {most n : Nat} {q : Program} {loose : List Str} {XP : (Str → Option Value) → Heap → Prop} {d : DefRec} {x : Str} {fa : List He.Fa} {fn : List He.DefD}
    (hn : l.most = some most) (hn2 : most ≤ sizeLine) (hdf : d.params.defaults = [])
    (F : ∀ (w : World) (K : PySem.W.Frag) (mg : Str → Option Value) (f : Addr) (h : Heap), K.In h → h.Ns mainGlobals mg → He.SaysD fa fn K → mg d.name = some (.ref f) →
      ∃ fd : FuncData, (∀ (t : Shared) (u : Value), BindsTo t fd ⟨[u], []⟩ [(x, u)]) ∧ ∀ base : Heap, K.In base → base.Ns mainGlobals mg → (∃ o, base.get? sysModules = some o) → At1 l.prog w K mg base callerA f fd [x] (LSp K (spMain most))) :
    PySem.W.WalkO q loose XP (hookR n fa fn).says l.row.toRowW d [] (fun f vs => PySem.call f vs) := by
  refine Att.attach_call hn hdf fun w s₀ t mg mb f o pm cd doc a vs ns G Y ho hd hcd hmg hobj hints hlen hg => ?_
  obtain ⟨⟨K, inK, c⟩, so, s1, s2⟩ := Y
  obtain ⟨fd, hb, hF⟩ := F w K mg f _ inK G.T.g c hmg
  exact law_at inK G.T.g G.T.b G.T.builtins G.T.nolimit hg s1 s2 hobj hints (Nat.le_trans hlen hn2) hF hb fun J _ hS => main_sp hS hlen
end DL

set_option Elab.async false
set_option linter.all false
set_option maxRecDepth 100000
set_option maxHeartbeats 4000000
/-! the defs of the text, read at the level of data (printed by gen.py) -/
namespace K11
open PySem DL
def c_MODULUS : DV := .d (.int 4294967296)
def c_SIGN : DV := .d (.int 2147483648)
def c_MASK : DV := .d (.int 4294967295)
/-- _law_state(_law_script): _law_script 0, _law_seed 1, _law_cell 2 -/
def w__law_state : DS :=
  wSeq (wSet (wC (.d (.int 7))) 1) (wSeq (wFor (wIt (wVar 0)) (.one 2) (wSet (wOp opMod (wAs (wCons (wOp opAdd (wOp opMul (wVar 1) (wC (.d (.int 31)))) (wVar 2)) (wNil)) bInt) (wC (.d (.int 1000003)))) 1)) (wRet (wAs (wCons (wLc true (wIt (wVar 0)) (.one 2) (wYes) (wAs (wCons (wAs (wCons (wVar 2) (wNil)) bInt) (wNil)) bAbs) [2]) (wCons (wOp opAdd (wVar 1) (wC (.d (.int 1)))) (wNil))) lstM)))

/-- _law_draw(_law_state_here, _law_many): _law_state_here 0, _law_many 1, _law_cells 2, _law_mixed 3, _law_value_here 4 -/
def w__law_draw : DS :=
  wSeq (wSet (wOp opIx (wVar 0) (wC (.d (.int 0)))) 2) (wSeq (wWhile (wAnd (wB (wOp opGt (wAs (wCons (wVar 2) (wNil)) bLen) (wC (.d (.int 0))))) (wB (wOp opEq (wOp opIx (wVar 2) (wC (.d (.int 0)))) (wC (.d (.int 0)))))) (wDrop (wMt isLst mPop (wVar 2) (wCons (wC (.d (.int 0))) (wNil))))) (wSeq (wIf (wB (wOp opGt (wAs (wCons (wVar 2) (wNil)) bLen) (wC (.d (.int 0))))) (wSeq (wSet (wOp opIx (wVar 2) (wC (.d (.int 0)))) 4) (wSeq (wPut (wOp opFdiv (wVar 4) (wVar 1)) (wVar 2) (wC (.d (.int 0)))) (wRet (wOp opMod (wAs (wCons (wVar 4) (wNil)) bInt) (wVar 1))))) (wNext)) (wSeq (wSet (wOp opMod (wAs (wCons (wOp opAdd (wOp opMul (wOp opIx (wVar 0) (wC (.d (.int 1)))) (wC (.d (.int 48271)))) (wC (.d (.int 12345)))) (wNil)) bInt) (wC (.d (.int 2147483647)))) 3) (wSeq (wPut (wVar 3) (wVar 0) (wC (.d (.int 1)))) (wRet (wOp opMod (wAs (wCons (wOp opFdiv (wVar 3) (wC (.d (.int 64)))) (wNil)) bInt) (wVar 1)))))))

/-- _law_pick(_law_state_here, _law_row): _law_state_here 0, _law_row 1 -/
def w__law_pick (sp__law_draw : DSp) : DS :=
  wRet (wOp opIx (wVar 1) (wCall sp__law_draw (wCons (wVar 0) (wCons (wAs (wCons (wVar 1) (wNil)) bLen) (wNil)))))

/-- _law_word(_law_state_here): _law_state_here 0, _law_edges 1 -/
def w__law_word (sp__law_draw sp__law_pick : DSp) : DS :=
  wSeq (wSet (wAs (wCons (wC (.d (.int 0))) (wCons (wC (.d (.int 1))) (wCons (wC (.d (.int 32768))) (wCons (wC (.d (.int 65535))) (wCons (wC (.d (.int 65536))) (wCons (wC (.d (.int 2147483647))) (wCons (wC (.d (.int 2147483648))) (wCons (wC (.d (.int 4294967295))) (wNil))))))))) lstD) 1) (wSeq (wIf (wB (wOp opEq (wCall sp__law_draw (wCons (wVar 0) (wCons (wC (.d (.int 3))) (wNil)))) (wC (.d (.int 0))))) (wRet (wCall sp__law_pick (wCons (wVar 0) (wCons (wVar 1) (wNil))))) (wNext)) (wRet (wCall sp__law_draw (wCons (wVar 0) (wCons (wCall sp__law_pick (wCons (wVar 0) (wCons (wAs (wCons (wC (.d (.int 7))) (wCons (wC (.d (.int 4294967296))) (wNil))) lstD) (wNil)))) (wNil))))))

/-- _law_expr(_law_state_here, _law_env, _law_deep): _law_state_here 0, _law_env 1, _law_deep 2, _law_signs 3, _law_kind 4, _law_rows 5, _law_first 6, _law_name 7, _law_size 8 -/
def w__law_expr (sp__law_pick sp__law_expr sp__law_draw sp__law_word : DSp) : DS :=
  wSeq (wSet (wAs (wCons (wC (.d (.str "+"))) (wCons (wC (.d (.str "-"))) (wCons (wC (.d (.str "*"))) (wCons (wC (.d (.str "/"))) (wCons (wC (.d (.str "mod"))) (wCons (wC (.d (.str "&"))) (wCons (wC (.d (.str "|"))) (wCons (wC (.d (.str "^"))) (wCons (wC (.d (.str "<<"))) (wCons (wC (.d (.str ">>"))) (wCons (wC (.d (.str "<"))) (wCons (wC (.d (.str "<="))) (wCons (wC (.d (.str "~<"))) (wCons (wC (.d (.str "~<="))) (wCons (wC (.d (.str "=="))) (wCons (wC (.d (.str "!="))) (wCons (wC (.d (.str "and"))) (wCons (wC (.d (.str "or"))) (wNil))))))))))))))))))) lstD) 3) (wSeq (wSet (wCall sp__law_draw (wCons (wVar 0) (wCons (wC (.d (.int 6))) (wNil)))) 4) (wSeq (wIf (wOr (wB (wOp opLe (wVar 2) (wC (.d (.int 1))))) (wB (wOp opLt (wVar 4) (wC (.d (.int 2)))))) (wSeq (wSet (wOp opAdd (wLc false (wIt (wOp opIx (wVar 1) (wC (.d (.int 0))))) (.many [7, 8]) (wB (wOp opEq (wVar 8) (wC (.d (.int 0))))) (wAs (wCons (wC (.d (.str "cell"))) (wCons (wVar 7) (wNil))) tupD) [7, 8]) (wLc false (wIt (wOp opIx (wVar 1) (wC (.d (.int 1))))) (.one 7) (wYes) (wAs (wCons (wC (.d (.str "cell"))) (wCons (wVar 7) (wNil))) tupD) [7])) 5) (wSeq (wIf (wOr (wB (wOp opEq (wAs (wCons (wVar 5) (wNil)) bLen) (wC (.d (.int 0))))) (wB (wOp opEq (wCall sp__law_draw (wCons (wVar 0) (wCons (wC (.d (.int 3))) (wNil)))) (wC (.d (.int 0)))))) (wRet (wAs (wCons (wC (.d (.str "num"))) (wCons (wCall sp__law_word (wCons (wVar 0) (wNil))) (wNil))) tupD)) (wNext)) (wRet (wCall sp__law_pick (wCons (wVar 0) (wCons (wVar 5) (wNil))))))) (wNext)) (wSeq (wSet (wLc false (wIt (wOp opIx (wVar 1) (wC (.d (.int 0))))) (.many [7, 8]) (wB (wOp opGt (wVar 8) (wC (.d (.int 0))))) (wVar 7) [7, 8]) 5) (wSeq (wIf (wAnd (wB (wOp opEq (wVar 4) (wC (.d (.int 2))))) (wB (wOp opGt (wAs (wCons (wVar 5) (wNil)) bLen) (wC (.d (.int 0)))))) (wRet (wAs (wCons (wC (.d (.str "at"))) (wCons (wCall sp__law_pick (wCons (wVar 0) (wCons (wVar 5) (wNil)))) (wCons (wCall sp__law_expr (wCons (wVar 0) (wCons (wVar 1) (wCons (wOp opSub (wVar 2) (wC (.d (.int 1)))) (wNil))))) (wNil)))) tupD)) (wNext)) (wSeq (wIf (wB (wOp opEq (wVar 4) (wC (.d (.int 3))))) (wRet (wAs (wCons (wCall sp__law_pick (wCons (wVar 0) (wCons (wAs (wCons (wC (.d (.str "neg"))) (wCons (wC (.d (.str "inv"))) (wCons (wC (.d (.str "not"))) (wNil)))) lstD) (wNil)))) (wCons (wCall sp__law_expr (wCons (wVar 0) (wCons (wVar 1) (wCons (wOp opSub (wVar 2) (wC (.d (.int 1)))) (wNil))))) (wNil))) tupD)) (wNext)) (wSeq (wSet (wCall sp__law_expr (wCons (wVar 0) (wCons (wVar 1) (wCons (wOp opSub (wVar 2) (wC (.d (.int 1)))) (wNil))))) 6) (wRet (wAs (wCons (wCall sp__law_pick (wCons (wVar 0) (wCons (wVar 3) (wNil)))) (wCons (wVar 6) (wCons (wCall sp__law_expr (wCons (wVar 0) (wCons (wVar 1) (wCons (wOp opSub (wVar 2) (wC (.d (.int 1)))) (wNil))))) (wNil)))) tupD))))))))

/-- _law_two(_law_sign, _law_a, _law_b): _law_sign 0, _law_a 1, _law_b 2, _law_left 3, _law_right 4, _law_rows 5 -/
def w__law_two : DS :=
  wSeq (wIf (wB (wOp opIn (wVar 0) (wAs (wCons (wC (.d (.str "/"))) (wCons (wC (.d (.str "mod"))) (wNil))) lstD))) (wSeq (wIf (wB (wOp opEq (wVar 2) (wC (.d (.int 0))))) (wRet (wOp opIx (wAs (wCons (wC (.d (.int 0))) (wCons (wVar 1) (wNil))) lstD) (wAs (wCons (wOp opEq (wVar 0) (wC (.d (.str "mod")))) (wNil)) bInt))) (wNext)) (wRet (wOp opIx (wAs (wCons (wOp opFdiv (wVar 1) (wVar 2)) (wCons (wOp opMod (wAs (wCons (wVar 1) (wNil)) bInt) (wVar 2)) (wNil))) lstD) (wAs (wCons (wOp opEq (wVar 0) (wC (.d (.str "mod")))) (wNil)) bInt)))) (wNext)) (wSeq (wIf (wB (wOp opEq (wVar 0) (wC (.d (.str "<<"))))) (wRet (wOp opMod (wAs (wCons (wOp opShl (wVar 1) (wOp opMod (wAs (wCons (wVar 2) (wNil)) bInt) (wC (.d (.int 32))))) (wNil)) bInt) (wC (.d (.int 4294967296))))) (wNext)) (wSeq (wIf (wB (wOp opEq (wVar 0) (wC (.d (.str ">>"))))) (wRet (wOp opShr (wVar 1) (wOp opMod (wAs (wCons (wVar 2) (wNil)) bInt) (wC (.d (.int 32)))))) (wNext)) (wSeq (wSet (wVar 1) 3) (wSeq (wSet (wVar 2) 4) (wSeq (wIf (wB (wOp opIn (wVar 0) (wAs (wCons (wC (.d (.str "~<"))) (wCons (wC (.d (.str "~<="))) (wNil))) lstD))) (wSeq (wSet (wOp opMod (wAs (wCons (wOp opAdd (wVar 1) (wC (.d (.int 2147483648)))) (wNil)) bInt) (wC (.d (.int 4294967296)))) 3) (wSet (wOp opMod (wAs (wCons (wOp opAdd (wVar 2) (wC (.d (.int 2147483648)))) (wNil)) bInt) (wC (.d (.int 4294967296)))) 4)) (wNext)) (wSeq (wSet (wDisp (wPCons (wC (.d (.str "+"))) (wOp opAdd (wVar 1) (wVar 2)) (wPCons (wC (.d (.str "-"))) (wOp opSub (wVar 1) (wVar 2)) (wPCons (wC (.d (.str "*"))) (wOp opMul (wVar 1) (wVar 2)) (wPCons (wC (.d (.str "&"))) (wOp opAnd (wVar 1) (wVar 2)) (wPCons (wC (.d (.str "|"))) (wOp opOr (wVar 1) (wVar 2)) (wPCons (wC (.d (.str "^"))) (wOp opXor (wVar 1) (wVar 2)) (wPCons (wC (.d (.str "<"))) (wAs (wCons (wOp opLt (wVar 1) (wVar 2)) (wNil)) bInt) (wPCons (wC (.d (.str "<="))) (wAs (wCons (wOp opLe (wVar 1) (wVar 2)) (wNil)) bInt) (wPCons (wC (.d (.str "~<"))) (wAs (wCons (wOp opLt (wVar 3) (wVar 4)) (wNil)) bInt) (wPCons (wC (.d (.str "~<="))) (wAs (wCons (wOp opLe (wVar 3) (wVar 4)) (wNil)) bInt) (wPCons (wC (.d (.str "=="))) (wAs (wCons (wOp opEq (wVar 1) (wVar 2)) (wNil)) bInt) (wPCons (wC (.d (.str "!="))) (wAs (wCons (wOp opNe (wVar 1) (wVar 2)) (wNil)) bInt) (wPCons (wC (.d (.str "and"))) (wAs (wCons (wAndV (wOp opGt (wVar 1) (wC (.d (.int 0)))) (wOp opGt (wVar 2) (wC (.d (.int 0))))) (wNil)) bInt) (wPCons (wC (.d (.str "or"))) (wAs (wCons (wOrV (wOp opGt (wVar 1) (wC (.d (.int 0)))) (wOp opGt (wVar 2) (wC (.d (.int 0))))) (wNil)) bInt) (wPNil)))))))))))))))) 5) (wRet (wOp opMod (wAs (wCons (wOp opIx (wVar 5) (wVar 0)) (wNil)) bInt) (wC (.d (.int 4294967296)))))))))))

/-- _law_value(_law_e, _law_names): _law_e 0, _law_names 1, _law_left 2, _law_row 3 -/
def w__law_value (sp__law_two sp__law_value : DSp) : DS :=
  wSeq (wIf (wB (wOp opEq (wOp opIx (wVar 0) (wC (.d (.int 0)))) (wC (.d (.str "num"))))) (wRet (wOp opIx (wVar 0) (wC (.d (.int 1))))) (wNext)) (wSeq (wIf (wB (wOp opEq (wOp opIx (wVar 0) (wC (.d (.int 0)))) (wC (.d (.str "cell"))))) (wRet (wOp opIx (wOp opIx (wVar 1) (wOp opIx (wVar 0) (wC (.d (.int 1))))) (wC (.d (.int 0))))) (wNext)) (wSeq (wIf (wB (wOp opEq (wOp opIx (wVar 0) (wC (.d (.int 0)))) (wC (.d (.str "at"))))) (wSeq (wSet (wOp opIx (wVar 1) (wOp opIx (wVar 0) (wC (.d (.int 1))))) 3) (wRet (wOp opIx (wVar 3) (wOp opMod (wAs (wCons (wCall sp__law_value (wCons (wOp opIx (wVar 0) (wC (.d (.int 2)))) (wCons (wVar 1) (wNil)))) (wNil)) bInt) (wAs (wCons (wVar 3) (wNil)) bLen))))) (wNext)) (wSeq (wSet (wCall sp__law_value (wCons (wOp opIx (wVar 0) (wC (.d (.int 1)))) (wCons (wVar 1) (wNil)))) 2) (wSeq (wIf (wB (wOp opIn (wOp opIx (wVar 0) (wC (.d (.int 0)))) (wAs (wCons (wC (.d (.str "neg"))) (wCons (wC (.d (.str "inv"))) (wCons (wC (.d (.str "not"))) (wNil)))) lstD))) (wRet (wOp opIx (wDisp (wPCons (wC (.d (.str "neg"))) (wOp opMod (wAs (wCons (wOp opSub (wC (.d (.int 0))) (wVar 2)) (wNil)) bInt) (wC (.d (.int 4294967296)))) (wPCons (wC (.d (.str "inv"))) (wOp opSub (wC (.d (.int 4294967295))) (wVar 2)) (wPCons (wC (.d (.str "not"))) (wAs (wCons (wOp opEq (wVar 2) (wC (.d (.int 0)))) (wNil)) bInt) (wPNil))))) (wOp opIx (wVar 0) (wC (.d (.int 0)))))) (wNext)) (wRet (wCall sp__law_two (wCons (wOp opIx (wVar 0) (wC (.d (.int 0)))) (wCons (wVar 2) (wCons (wCall sp__law_value (wCons (wOp opIx (wVar 0) (wC (.d (.int 2)))) (wCons (wVar 1) (wNil)))) (wNil))))))))))

/-- wrap(n): n 0 -/
def w_wrap : DS :=
  wRet (wOp opMod (wVar 0) (wC c_MODULUS))

/-- _arithmetic(operator, a, b): operator 0, a 1, b 2 -/
def w__arithmetic (sp_wrap : DSp) : DS :=
  wSeq (wIf (wB (wOp opEq (wVar 0) (wC (.d (.str "+"))))) (wRet (wCall sp_wrap (wCons (wOp opAdd (wVar 1) (wVar 2)) (wNil)))) (wNext)) (wSeq (wIf (wB (wOp opEq (wVar 0) (wC (.d (.str "-"))))) (wRet (wCall sp_wrap (wCons (wOp opSub (wVar 1) (wVar 2)) (wNil)))) (wNext)) (wSeq (wIf (wB (wOp opEq (wVar 0) (wC (.d (.str "*"))))) (wRet (wCall sp_wrap (wCons (wOp opMul (wVar 1) (wVar 2)) (wNil)))) (wNext)) (wSeq (wIf (wB (wOp opEq (wVar 0) (wC (.d (.str "/"))))) (wRet (wIfE (wB (wOp opEq (wVar 2) (wC (.d (.int 0))))) (wC (.d (.int 0))) (wOp opFdiv (wVar 1) (wVar 2)))) (wNext)) (wSeq (wIf (wB (wOp opEq (wVar 0) (wC (.d (.str "mod"))))) (wRet (wIfE (wB (wOp opEq (wVar 2) (wC (.d (.int 0))))) (wVar 1) (wOp opMod (wVar 1) (wVar 2)))) (wNext)) (wRet (wC (.d .none)))))))

/-- _bits(operator, a, b): operator 0, a 1, b 2 -/
def w__bits (sp_wrap : DSp) : DS :=
  wSeq (wIf (wB (wOp opEq (wVar 0) (wC (.d (.str "&"))))) (wRet (wOp opAnd (wVar 1) (wVar 2))) (wNext)) (wSeq (wIf (wB (wOp opEq (wVar 0) (wC (.d (.str "|"))))) (wRet (wOp opOr (wVar 1) (wVar 2))) (wNext)) (wSeq (wIf (wB (wOp opEq (wVar 0) (wC (.d (.str "^"))))) (wRet (wOp opXor (wVar 1) (wVar 2))) (wNext)) (wSeq (wIf (wB (wOp opEq (wVar 0) (wC (.d (.str "<<"))))) (wRet (wCall sp_wrap (wCons (wOp opShl (wVar 1) (wOp opAnd (wVar 2) (wC (.d (.int 31))))) (wNil)))) (wNext)) (wSeq (wIf (wB (wOp opEq (wVar 0) (wC (.d (.str ">>"))))) (wRet (wOp opShr (wVar 1) (wOp opAnd (wVar 2) (wC (.d (.int 31)))))) (wNext)) (wRet (wC (.d .none)))))))

/-- signed(w): w 0 -/
def w_signed : DS :=
  wSeq (wIf (wB (wOp opLt (wVar 0) (wC c_SIGN))) (wRet (wVar 0)) (wNext)) (wRet (wOp opSub (wVar 0) (wC c_MODULUS)))

/-- _truth(operator, a, b): operator 0, a 1, b 2 -/
def w__truth (sp_signed : DSp) : DS :=
  wSeq (wIf (wB (wOp opEq (wVar 0) (wC (.d (.str "<"))))) (wRet (wOp opLt (wVar 1) (wVar 2))) (wNext)) (wSeq (wIf (wB (wOp opEq (wVar 0) (wC (.d (.str "<="))))) (wRet (wOp opLe (wVar 1) (wVar 2))) (wNext)) (wSeq (wIf (wB (wOp opEq (wVar 0) (wC (.d (.str "~<"))))) (wRet (wOp opLt (wCall sp_signed (wCons (wVar 1) (wNil))) (wCall sp_signed (wCons (wVar 2) (wNil))))) (wNext)) (wSeq (wIf (wB (wOp opEq (wVar 0) (wC (.d (.str "~<="))))) (wRet (wOp opLe (wCall sp_signed (wCons (wVar 1) (wNil))) (wCall sp_signed (wCons (wVar 2) (wNil))))) (wNext)) (wSeq (wIf (wB (wOp opEq (wVar 0) (wC (.d (.str "=="))))) (wRet (wOp opEq (wVar 1) (wVar 2))) (wNext)) (wSeq (wIf (wB (wOp opEq (wVar 0) (wC (.d (.str "!="))))) (wRet (wOp opNe (wVar 1) (wVar 2))) (wNext)) (wSeq (wIf (wB (wOp opEq (wVar 0) (wC (.d (.str "and"))))) (wRet (wAndV (wOp opNe (wVar 1) (wC (.d (.int 0)))) (wOp opNe (wVar 2) (wC (.d (.int 0)))))) (wNext)) (wRet (wOrV (wOp opNe (wVar 1) (wC (.d (.int 0)))) (wOp opNe (wVar 2) (wC (.d (.int 0))))))))))))

/-- combine(operator, a, b): operator 0, a 1, b 2, value 3 -/
def w_combine (sp__truth sp__bits sp__arithmetic : DSp) : DS :=
  wSeq (wSet (wCall sp__arithmetic (wCons (wVar 0) (wCons (wVar 1) (wCons (wVar 2) (wNil))))) 3) (wSeq (wIf (wB (wOp opIs (wVar 3) (wC (.d .none)))) (wSet (wCall sp__bits (wCons (wVar 0) (wCons (wVar 1) (wCons (wVar 2) (wNil))))) 3) (wNext)) (wSeq (wIf (wB (wOp opIs (wVar 3) (wC (.d .none)))) (wSet (wAs (wCons (wCall sp__truth (wCons (wVar 0) (wCons (wVar 1) (wCons (wVar 2) (wNil))))) (wNil)) bInt) 3) (wNext)) (wRet (wVar 3))))

/-- alter(operator, a): operator 0, a 1 -/
def w_alter (sp_wrap : DSp) : DS :=
  wSeq (wIf (wB (wOp opEq (wVar 0) (wC (.d (.str "neg"))))) (wRet (wCall sp_wrap (wCons (wUn opNeg (wVar 1)) (wNil)))) (wNext)) (wSeq (wIf (wB (wOp opEq (wVar 0) (wC (.d (.str "inv"))))) (wRet (wOp opXor (wC c_MASK) (wVar 1))) (wNext)) (wRet (wAs (wCons (wOp opEq (wVar 1) (wC (.d (.int 0)))) (wNil)) bInt)))

/-- evaluate(e, names): e 0, names 1, kind 2, left 3, row 4 -/
def w_evaluate (sp_combine sp_evaluate sp_alter : DSp) : DS :=
  wSeq (wSet (wOp opIx (wVar 0) (wC (.d (.int 0)))) 2) (wSeq (wIf (wB (wOp opEq (wVar 2) (wC (.d (.str "num"))))) (wRet (wOp opIx (wVar 0) (wC (.d (.int 1))))) (wNext)) (wSeq (wIf (wB (wOp opEq (wVar 2) (wC (.d (.str "cell"))))) (wRet (wOp opIx (wOp opIx (wVar 1) (wOp opIx (wVar 0) (wC (.d (.int 1))))) (wC (.d (.int 0))))) (wNext)) (wSeq (wIf (wB (wOp opEq (wVar 2) (wC (.d (.str "at"))))) (wSeq (wSet (wOp opIx (wVar 1) (wOp opIx (wVar 0) (wC (.d (.int 1))))) 4) (wRet (wOp opIx (wVar 4) (wOp opMod (wCall sp_evaluate (wCons (wOp opIx (wVar 0) (wC (.d (.int 2)))) (wCons (wVar 1) (wNil)))) (wAs (wCons (wVar 4) (wNil)) bLen))))) (wNext)) (wSeq (wIf (wB (wOp opIn (wVar 2) (wAs (wCons (wC (.d (.str "neg"))) (wCons (wC (.d (.str "inv"))) (wCons (wC (.d (.str "not"))) (wNil)))) tupD))) (wRet (wCall sp_alter (wCons (wVar 2) (wCons (wCall sp_evaluate (wCons (wOp opIx (wVar 0) (wC (.d (.int 1)))) (wCons (wVar 1) (wNil)))) (wNil))))) (wNext)) (wSeq (wSet (wCall sp_evaluate (wCons (wOp opIx (wVar 0) (wC (.d (.int 1)))) (wCons (wVar 1) (wNil)))) 3) (wRet (wCall sp_combine (wCons (wVar 2) (wCons (wVar 3) (wCons (wCall sp_evaluate (wCons (wOp opIx (wVar 0) (wC (.d (.int 2)))) (wCons (wVar 1) (wNil)))) (wNil)))))))))))

/-- law(_law_script): _law_script 0, _law_state_here 1, _law_cells 2, _law_names 3, _law_before 4, _law_k 5, _law_name 6, _law_size 7, _law_e 8, _law_due 9, _law_actual 10 -/
def w_law (sp_evaluate sp__law_value sp__law_expr sp__law_draw sp__law_word sp__law_state : DSp) : DS :=
  wSeq (wSet (wCall sp__law_state (wCons (wVar 0) (wNil))) 1) (wSeq (wSet (wAs (wCons (wAs (wCons (wC (.d (.str "first"))) (wCons (wC (.d (.int 0))) (wNil))) tupD) (wCons (wAs (wCons (wC (.d (.str "row"))) (wCons (wOp opAdd (wC (.d (.int 1))) (wCall sp__law_draw (wCons (wVar 1) (wCons (wC (.d (.int 64))) (wNil))))) (wNil))) tupD) (wCons (wAs (wCons (wC (.d (.str "x"))) (wCons (wC (.d (.int 0))) (wNil))) tupD) (wCons (wAs (wCons (wC (.d (.str "y"))) (wCons (wC (.d (.int 2))) (wNil))) tupD) (wNil))))) lstD) 2) (wSeq (wSet (wDK) 3) (wSeq (wFor (wIt (wVar 2)) (.many [6, 7]) (wPut (wLc false (wRng (wAs (wCons (wC (.d (.int 1))) (wCons (wVar 7) (wNil))) bMax)) (.one 5) (wYes) (wCall sp__law_word (wCons (wVar 1) (wNil))) [5]) (wVar 3) (wVar 6))) (wSeq (wSet (wAs (wCons (wVar 3) (wNil)) bRepr) 4) (wSeq (wFor (wRng (wC (.d (.int 3)))) (.one 5) (wSeq (wSet (wCall sp__law_expr (wCons (wVar 1) (wCons (wAs (wCons (wVar 2) (wCons (wAs (wNil) lstD) (wCons (wAs (wNil) lstD) (wCons (wAs (wNil) lstD) (wCons (wC (.d (.int 0))) (wNil)))))) lstD) (wCons (wOp opAdd (wC (.d (.int 1))) (wCall sp__law_draw (wCons (wVar 1) (wCons (wC (.d (.int 6))) (wNil))))) (wNil))))) 8) (wSeq (wSet (wCall sp__law_value (wCons (wVar 8) (wCons (wVar 3) (wNil)))) 9) (wSeq (wSet (wCall sp_evaluate (wCons (wVar 8) (wCons (wVar 3) (wNil)))) 10) (wIf (wOr (wNot (wTru (wAs (wCons (wVar 10) (wCons (wC (.v (.ty "int"))) (wNil))) bIsi))) (wOr (wTru (wAs (wCons (wVar 10) (wCons (wC (.v (.ty "bool"))) (wNil))) bIsi)) (wB (wOp opNe (wVar 10) (wVar 9))))) (wRet (wC (.d (.bool false)))) (wNext)))))) (wRet (wOp opEq (wAs (wCons (wVar 3) (wNil)) bRepr) (wVar 4))))))))
end K11

set_option Elab.async false
set_option linter.all false
set_option maxRecDepth 100000
set_option maxHeartbeats 4000000
/-! the readings tied to the row (printed by gen.py) -/
namespace K11
open PySem PySem.Spec L2 DL
def top (i : Nat) : Stmt := PySem.Challenge.pw_deadbeat_k11_values_of_expressions.main.body.getD i (.Pass ⟨0, 0, 0, 0⟩)
abbrev s__law_state : Stmt := top 14
abbrev n__law_state : List Str := ["_law_script", "_law_seed", "_law_cell"]
theorem sc__law_state : FnScope n__law_state ["_law_script"] (defScope s__law_state) := ⟨rfl, rfl, rfl, by decide +kernel, rfl, by decide +kernel, by decide +kernel⟩
theorem t__law_state {P : Program} {w : World} {K : PySem.W.Frag} {mg : Str → Option Value} {base : Heap} {f : Addr} {cdv : Value} {A : Around} {outer : List Env} {s : Shared} {H : Hp} {E : XK} {k : Nat} 
    (hr : Room k (A.deeper (PyProof.Rows.envOfC "_law_state" (defScope s__law_state) s.heap.objs.size f cdv))) (m_abs : mg "abs" = none) (m_int : mg "int" = none) :
    PSs (cxOf (L2.CX P w) P w K mg base n__law_state "_law_state" (defScope s__law_state) f cdv A outer s H E) (defBody s__law_state) (LS K (fun cls d _ H' => E cls d H') (w__law_state)) := by
  have nd := sc__law_state.nd
  have hu1 := hu_of hr
  have hu64 := hr.units
  have hu65 := hu65_of hr
  have tk : Takes (cxOf (L2.CX P w) P w K mg base n__law_state "_law_state" (defScope s__law_state) f cdv A outer s H E) (fun cls d _ H' => E cls d H') := takes_of rfl rfl rfl rfl
  have hp : PassesOwn (model P w) (cxOf (L2.CX P w) P w K mg base n__law_state "_law_state" (defScope s__law_state) f cdv A outer s H E).A (cxOf (L2.CX P w) P w K mg base n__law_state "_law_state" (defScope s__law_state) f cdv A outer s H E).env (cxOf (L2.CX P w) P w K mg base n__law_state "_law_state" (defScope s__law_state) f cdv A outer s H E).xe := passes_of rfl
  exact dss_cons (ds_set (i := 1) nd (dint)) (dss_cons (ds_for (g := .one 2) hp rfl (di_seq (dv 0)) (pg_name (i := 2) nd rfl (Or.inl rfl)) (dss_one (ds_set (i := 1) nd (de_op o_mod (de_callTy (b_int) m_int (da_cons (de_op o_add (de_op o_mul (dv 1) (dint)) (dv 2)) (da_nil))) (dint))))) (dss_one (ds_ret (de_lstM (da_cons (de_lc (own := [("_law_cell", 2)]) (g := .one 2) rfl nd (di_seq (dv 0)) (blkOk_by (own := [("_law_cell", 2)]) (N := n__law_state) (sc := defScope s__law_state) (by decide +kernel)) (by decide) (fun _ _ _ _ _ => pg_name (i := 2) nd rfl (Or.inl rfl)) (fun _ _ _ _ _ => dts_nil) (fun _ _ _ _ _ => de_callB (b_abs) m_abs (da_cons (de_callTy (b_int) m_int (da_cons (dv 2) (da_nil))) (da_nil)))) (da_cons (de_op o_add (dv 1) (dint)) (da_nil)))))))

abbrev s__law_draw : Stmt := top 15
abbrev n__law_draw : List Str := ["_law_state_here", "_law_many", "_law_cells", "_law_mixed", "_law_value_here"]
theorem sc__law_draw : FnScope n__law_draw ["_law_state_here", "_law_many"] (defScope s__law_draw) := ⟨rfl, rfl, rfl, by decide +kernel, rfl, by decide +kernel, by decide +kernel⟩
theorem t__law_draw {P : Program} {w : World} {K : PySem.W.Frag} {mg : Str → Option Value} {base : Heap} {f : Addr} {cdv : Value} {A : Around} {outer : List Env} {s : Shared} {H : Hp} {E : XK} {k : Nat} 
    (hr : Room k (A.deeper (PyProof.Rows.envOfC "_law_draw" (defScope s__law_draw) s.heap.objs.size f cdv))) (m_int : mg "int" = none) (m_len : mg "len" = none) :
    PSs (cxOf (L2.CX P w) P w K mg base n__law_draw "_law_draw" (defScope s__law_draw) f cdv A outer s H E) (defBody s__law_draw) (LS K (fun cls d _ H' => E cls d H') (w__law_draw)) := by
  have nd := sc__law_draw.nd
  have hu1 := hu_of hr
  have hu64 := hr.units
  have hu65 := hu65_of hr
  have tk : Takes (cxOf (L2.CX P w) P w K mg base n__law_draw "_law_draw" (defScope s__law_draw) f cdv A outer s H E) (fun cls d _ H' => E cls d H') := takes_of rfl rfl rfl rfl
  have hp : PassesOwn (model P w) (cxOf (L2.CX P w) P w K mg base n__law_draw "_law_draw" (defScope s__law_draw) f cdv A outer s H E).A (cxOf (L2.CX P w) P w K mg base n__law_draw "_law_draw" (defScope s__law_draw) f cdv A outer s H E).env (cxOf (L2.CX P w) P w K mg base n__law_draw "_law_draw" (defScope s__law_draw) f cdv A outer s H E).xe := passes_of rfl
  exact dss_cons (ds_set (i := 2) nd (de_ix (o_ix hu1) (dv 0) (dint))) (dss_cons (ds_while hp (PW.pt (dw_and (dt_cmp (o_gt) (de_callB (b_len) m_len (da_cons (dv 2) (da_nil))) (dint)) (dw_and1 (dt_cmp (o_eq hu64) (de_ix (o_ix hu1) (dv 2) (dint)) (dint))))) (dss_one (ds_expr (de_mt isLst_ok PySem.F.plainAttrs_list PySem.F.slot_list_pop PySem.F.type_list_pop m_pop (dv 2) (da_cons (dint) (da_nil)))))) (dss_cons (ds_if (dt_cmp (o_gt) (de_callB (b_len) m_len (da_cons (dv 2) (da_nil))) (dint)) (dss_cons (ds_set (i := 4) nd (de_ix (o_ix hu1) (dv 2) (dint))) (dss_cons (ds_put hu1 (de_op o_fdiv (dv 4) (dv 1)) (dv 2) (dint)) (dss_one (ds_ret (de_op o_mod (de_callTy (b_int) m_int (da_cons (dv 4) (da_nil))) (dv 1)))))) (dss_nil)) (dss_cons (ds_set (i := 3) nd (de_op o_mod (de_callTy (b_int) m_int (da_cons (de_op o_add (de_op o_mul (de_ix (o_ix hu1) (dv 0) (dint)) (dint)) (dint)) (da_nil))) (dint))) (dss_cons (ds_put hu1 (dv 3) (dv 0) (dint)) (dss_one (ds_ret (de_op o_mod (de_callTy (b_int) m_int (da_cons (de_op o_fdiv (dv 3) (dint)) (da_nil))) (dv 1))))))))

abbrev s__law_pick : Stmt := top 16
abbrev n__law_pick : List Str := ["_law_state_here", "_law_row"]
theorem sc__law_pick : FnScope n__law_pick ["_law_state_here", "_law_row"] (defScope s__law_pick) := ⟨rfl, rfl, rfl, by decide +kernel, rfl, by decide +kernel, by decide +kernel⟩
theorem t__law_pick {P : Program} {w : World} {K : PySem.W.Frag} {mg : Str → Option Value} {base : Heap} {f : Addr} {cdv : Value} {A : Around} {outer : List Env} {s : Shared} {H : Hp} {E : XK} {k : Nat} {sp__law_draw : DSp}
    (hr : Room k (A.deeper (PyProof.Rows.envOfC "_law_pick" (defScope s__law_pick) s.heap.objs.size f cdv))) (F__law_draw : DefOk P w K mg base "_law_draw" ["_law_state_here", "_law_many"] k sp__law_draw) (m_len : mg "len" = none) :
    PSs (cxOf (L2.CX P w) P w K mg base n__law_pick "_law_pick" (defScope s__law_pick) f cdv A outer s H E) (defBody s__law_pick) (LS K (fun cls d _ H' => E cls d H') (w__law_pick sp__law_draw)) := by
  have nd := sc__law_pick.nd
  have hu1 := hu_of hr
  have hu64 := hr.units
  have hu65 := hu65_of hr
  have tk : Takes (cxOf (L2.CX P w) P w K mg base n__law_pick "_law_pick" (defScope s__law_pick) f cdv A outer s H E) (fun cls d _ H' => E cls d H') := takes_of rfl rfl rfl rfl
  have hp : PassesOwn (model P w) (cxOf (L2.CX P w) P w K mg base n__law_pick "_law_pick" (defScope s__law_pick) f cdv A outer s H E).A (cxOf (L2.CX P w) P w K mg base n__law_pick "_law_pick" (defScope s__law_pick) f cdv A outer s H E).env (cxOf (L2.CX P w) P w K mg base n__law_pick "_law_pick" (defScope s__law_pick) f cdv A outer s H E).xe := passes_of rfl
  exact dss_one (ds_ret (de_ix (o_ix hu1) (dv 1) (de_call F__law_draw hr tk (da_cons (dv 0) (da_cons (de_callB (b_len) m_len (da_cons (dv 1) (da_nil))) (da_nil))))))

abbrev s__law_word : Stmt := top 17
abbrev n__law_word : List Str := ["_law_state_here", "_law_edges"]
theorem sc__law_word : FnScope n__law_word ["_law_state_here"] (defScope s__law_word) := ⟨rfl, rfl, rfl, by decide +kernel, rfl, by decide +kernel, by decide +kernel⟩
theorem t__law_word {P : Program} {w : World} {K : PySem.W.Frag} {mg : Str → Option Value} {base : Heap} {f : Addr} {cdv : Value} {A : Around} {outer : List Env} {s : Shared} {H : Hp} {E : XK} {k : Nat} {sp__law_draw sp__law_pick : DSp}
    (hr : Room k (A.deeper (PyProof.Rows.envOfC "_law_word" (defScope s__law_word) s.heap.objs.size f cdv))) (F__law_draw : DefOk P w K mg base "_law_draw" ["_law_state_here", "_law_many"] k sp__law_draw) (F__law_pick : DefOk P w K mg base "_law_pick" ["_law_state_here", "_law_row"] k sp__law_pick) :
    PSs (cxOf (L2.CX P w) P w K mg base n__law_word "_law_word" (defScope s__law_word) f cdv A outer s H E) (defBody s__law_word) (LS K (fun cls d _ H' => E cls d H') (w__law_word sp__law_draw sp__law_pick)) := by
  have nd := sc__law_word.nd
  have hu1 := hu_of hr
  have hu64 := hr.units
  have hu65 := hu65_of hr
  have tk : Takes (cxOf (L2.CX P w) P w K mg base n__law_word "_law_word" (defScope s__law_word) f cdv A outer s H E) (fun cls d _ H' => E cls d H') := takes_of rfl rfl rfl rfl
  have hp : PassesOwn (model P w) (cxOf (L2.CX P w) P w K mg base n__law_word "_law_word" (defScope s__law_word) f cdv A outer s H E).A (cxOf (L2.CX P w) P w K mg base n__law_word "_law_word" (defScope s__law_word) f cdv A outer s H E).env (cxOf (L2.CX P w) P w K mg base n__law_word "_law_word" (defScope s__law_word) f cdv A outer s H E).xe := passes_of rfl
  exact dss_cons (ds_set (i := 1) nd (de_lst (da_cons (dint) (da_cons (dint) (da_cons (dint) (da_cons (dint) (da_cons (dint) (da_cons (dint) (da_cons (dint) (da_cons (dint) (da_nil))))))))))) (dss_cons (ds_if (dt_cmp (o_eq hu64) (de_call F__law_draw hr tk (da_cons (dv 0) (da_cons (dint) (da_nil)))) (dint)) (dss_one (ds_ret (de_call F__law_pick hr tk (da_cons (dv 0) (da_cons (dv 1) (da_nil)))))) (dss_nil)) (dss_one (ds_ret (de_call F__law_draw hr tk (da_cons (dv 0) (da_cons (de_call F__law_pick hr tk (da_cons (dv 0) (da_cons (de_lst (da_cons (dint) (da_cons (dint) (da_nil)))) (da_nil)))) (da_nil)))))))

abbrev s__law_expr : Stmt := top 18
abbrev n__law_expr : List Str := ["_law_state_here", "_law_env", "_law_deep", "_law_signs", "_law_kind", "_law_rows", "_law_first", "_law_name", "_law_size"]
theorem sc__law_expr : FnScope n__law_expr ["_law_state_here", "_law_env", "_law_deep"] (defScope s__law_expr) := ⟨rfl, rfl, rfl, by decide +kernel, rfl, by decide +kernel, by decide +kernel⟩
theorem t__law_expr {P : Program} {w : World} {K : PySem.W.Frag} {mg : Str → Option Value} {base : Heap} {f : Addr} {cdv : Value} {A : Around} {outer : List Env} {s : Shared} {H : Hp} {E : XK} {k : Nat} {sp__law_pick sp__law_expr sp__law_draw sp__law_word : DSp}
    (hr : Room k (A.deeper (PyProof.Rows.envOfC "_law_expr" (defScope s__law_expr) s.heap.objs.size f cdv))) (F__law_pick : DefOk P w K mg base "_law_pick" ["_law_state_here", "_law_row"] k sp__law_pick) (F__law_expr : DefOk P w K mg base "_law_expr" ["_law_state_here", "_law_env", "_law_deep"] k sp__law_expr) (F__law_draw : DefOk P w K mg base "_law_draw" ["_law_state_here", "_law_many"] k sp__law_draw) (F__law_word : DefOk P w K mg base "_law_word" ["_law_state_here"] k sp__law_word) (m_len : mg "len" = none) :
    PSs (cxOf (L2.CX P w) P w K mg base n__law_expr "_law_expr" (defScope s__law_expr) f cdv A outer s H E) (defBody s__law_expr) (LS K (fun cls d _ H' => E cls d H') (w__law_expr sp__law_pick sp__law_expr sp__law_draw sp__law_word)) := by
  have nd := sc__law_expr.nd
  have hu1 := hu_of hr
  have hu64 := hr.units
  have hu65 := hu65_of hr
  have tk : Takes (cxOf (L2.CX P w) P w K mg base n__law_expr "_law_expr" (defScope s__law_expr) f cdv A outer s H E) (fun cls d _ H' => E cls d H') := takes_of rfl rfl rfl rfl
  have hp : PassesOwn (model P w) (cxOf (L2.CX P w) P w K mg base n__law_expr "_law_expr" (defScope s__law_expr) f cdv A outer s H E).A (cxOf (L2.CX P w) P w K mg base n__law_expr "_law_expr" (defScope s__law_expr) f cdv A outer s H E).env (cxOf (L2.CX P w) P w K mg base n__law_expr "_law_expr" (defScope s__law_expr) f cdv A outer s H E).xe := passes_of rfl
  exact dss_cons (ds_set (i := 3) nd (de_lst (da_cons (dstr) (da_cons (dstr) (da_cons (dstr) (da_cons (dstr) (da_cons (dstr) (da_cons (dstr) (da_cons (dstr) (da_cons (dstr) (da_cons (dstr) (da_cons (dstr) (da_cons (dstr) (da_cons (dstr) (da_cons (dstr) (da_cons (dstr) (da_cons (dstr) (da_cons (dstr) (da_cons (dstr) (da_cons (dstr) (da_nil))))))))))))))))))))) (dss_cons (ds_set (i := 4) nd (de_call F__law_draw hr tk (da_cons (dv 0) (da_cons (dint) (da_nil))))) (dss_cons (ds_if (PW.pt (dw_or (dt_cmp (o_le) (dv 2) (dint)) (dw_or1 (dt_cmp (o_lt) (dv 4) (dint))))) (dss_cons (ds_set (i := 5) nd (de_op o_add (de_lc (own := [("_law_name", 7), ("_law_size", 8)]) (g := .many [7, 8]) rfl nd (di_seq (de_ix (o_ix hu1) (dv 1) (dint))) (blkOk_by (own := [("_law_name", 7), ("_law_size", 8)]) (N := n__law_expr) (sc := defScope s__law_expr) (by decide +kernel)) (by decide) (fun _ _ _ _ _ => by exact (pg_tup rfl (pgs_cons (pg_name (i := 7) nd rfl (Or.inl rfl)) (pgs_cons (pg_name (i := 8) nd rfl (Or.inl rfl)) (pgs_nil))))) (fun _ _ _ _ _ => dts_one (dt_cmp (o_eq hu64) (dv 8) (dint))) (fun _ _ _ _ _ => de_tup (da_cons (dstr) (da_cons (dv 7) (da_nil))))) (de_lc (own := [("_law_name", 7)]) (g := .one 7) rfl nd (di_seq (de_ix (o_ix hu1) (dv 1) (dint))) (blkOk_by (own := [("_law_name", 7)]) (N := n__law_expr) (sc := defScope s__law_expr) (by decide +kernel)) (by decide) (fun _ _ _ _ _ => pg_name (i := 7) nd rfl (Or.inl rfl)) (fun _ _ _ _ _ => dts_nil) (fun _ _ _ _ _ => de_tup (da_cons (dstr) (da_cons (dv 7) (da_nil))))))) (dss_cons (ds_if (PW.pt (dw_or (dt_cmp (o_eq hu64) (de_callB (b_len) m_len (da_cons (dv 5) (da_nil))) (dint)) (dw_or1 (dt_cmp (o_eq hu64) (de_call F__law_draw hr tk (da_cons (dv 0) (da_cons (dint) (da_nil)))) (dint))))) (dss_one (ds_ret (de_tup (da_cons (dstr) (da_cons (de_call F__law_word hr tk (da_cons (dv 0) (da_nil))) (da_nil)))))) (dss_nil)) (dss_one (ds_ret (de_call F__law_pick hr tk (da_cons (dv 0) (da_cons (dv 5) (da_nil)))))))) (dss_nil)) (dss_cons (ds_setLc (i := 5) (own := [("_law_name", 7), ("_law_size", 8)]) (g := .many [7, 8]) rfl nd rfl rfl (sw_true rfl rfl rfl (by decide +kernel)) (di_seq (de_ix (o_ix hu1) (dv 1) (dint))) (blkOk_by (own := [("_law_name", 7), ("_law_size", 8)]) (N := n__law_expr) (sc := defScope s__law_expr) (by decide +kernel)) (by decide) (fun _ _ _ _ _ => by exact (pg_tup rfl (pgs_cons (pg_name (i := 7) nd rfl (Or.inl rfl)) (pgs_cons (pg_name (i := 8) nd rfl (Or.inl rfl)) (pgs_nil))))) (fun _ _ _ _ _ => dts_one (dt_cmp (o_gt) (dv 8) (dint))) (fun _ _ _ _ _ => dv 7)) (dss_cons (ds_if (PW.pt (dw_and (dt_cmp (o_eq hu64) (dv 4) (dint)) (dw_and1 (dt_cmp (o_gt) (de_callB (b_len) m_len (da_cons (dv 5) (da_nil))) (dint))))) (dss_one (ds_ret (de_tup (da_cons (dstr) (da_cons (de_call F__law_pick hr tk (da_cons (dv 0) (da_cons (dv 5) (da_nil)))) (da_cons (de_call F__law_expr hr tk (da_cons (dv 0) (da_cons (dv 1) (da_cons (de_op o_sub (dv 2) (dint)) (da_nil))))) (da_nil))))))) (dss_nil)) (dss_cons (ds_if (dt_cmp (o_eq hu64) (dv 4) (dint)) (dss_one (ds_ret (de_tup (da_cons (de_call F__law_pick hr tk (da_cons (dv 0) (da_cons (de_lst (da_cons (dstr) (da_cons (dstr) (da_cons (dstr) (da_nil))))) (da_nil)))) (da_cons (de_call F__law_expr hr tk (da_cons (dv 0) (da_cons (dv 1) (da_cons (de_op o_sub (dv 2) (dint)) (da_nil))))) (da_nil)))))) (dss_nil)) (dss_cons (ds_set (i := 6) nd (de_call F__law_expr hr tk (da_cons (dv 0) (da_cons (dv 1) (da_cons (de_op o_sub (dv 2) (dint)) (da_nil)))))) (dss_one (ds_ret (de_tup (da_cons (de_call F__law_pick hr tk (da_cons (dv 0) (da_cons (dv 3) (da_nil)))) (da_cons (dv 6) (da_cons (de_call F__law_expr hr tk (da_cons (dv 0) (da_cons (dv 1) (da_cons (de_op o_sub (dv 2) (dint)) (da_nil))))) (da_nil)))))))))))))

abbrev s__law_two : Stmt := top 24
abbrev n__law_two : List Str := ["_law_sign", "_law_a", "_law_b", "_law_left", "_law_right", "_law_rows"]
theorem sc__law_two : FnScope n__law_two ["_law_sign", "_law_a", "_law_b"] (defScope s__law_two) := ⟨rfl, rfl, rfl, by decide +kernel, rfl, by decide +kernel, by decide +kernel⟩
theorem t__law_two {P : Program} {w : World} {K : PySem.W.Frag} {mg : Str → Option Value} {base : Heap} {f : Addr} {cdv : Value} {A : Around} {outer : List Env} {s : Shared} {H : Hp} {E : XK} {k : Nat} 
    (hr : Room k (A.deeper (PyProof.Rows.envOfC "_law_two" (defScope s__law_two) s.heap.objs.size f cdv))) (m_int : mg "int" = none) :
    PSs (cxOf (L2.CX P w) P w K mg base n__law_two "_law_two" (defScope s__law_two) f cdv A outer s H E) (defBody s__law_two) (LS K (fun cls d _ H' => E cls d H') (w__law_two)) := by
  have nd := sc__law_two.nd
  have hu1 := hu_of hr
  have hu64 := hr.units
  have hu65 := hu65_of hr
  have tk : Takes (cxOf (L2.CX P w) P w K mg base n__law_two "_law_two" (defScope s__law_two) f cdv A outer s H E) (fun cls d _ H' => E cls d H') := takes_of rfl rfl rfl rfl
  have hp : PassesOwn (model P w) (cxOf (L2.CX P w) P w K mg base n__law_two "_law_two" (defScope s__law_two) f cdv A outer s H E).A (cxOf (L2.CX P w) P w K mg base n__law_two "_law_two" (defScope s__law_two) f cdv A outer s H E).env (cxOf (L2.CX P w) P w K mg base n__law_two "_law_two" (defScope s__law_two) f cdv A outer s H E).xe := passes_of rfl
  exact dss_cons (ds_if (dt_cmp (o_in hu65) (dv 0) (de_lst (da_cons (dstr) (da_cons (dstr) (da_nil))))) (dss_cons (ds_if (dt_cmp (o_eq hu64) (dv 2) (dint)) (dss_one (ds_ret (de_ix (o_ix hu1) (de_lst (da_cons (dint) (da_cons (dv 1) (da_nil)))) (de_callTy (b_int) m_int (da_cons (de_cmp (o_eq hu64) (dv 0) (dstr)) (da_nil)))))) (dss_nil)) (dss_one (ds_ret (de_ix (o_ix hu1) (de_lst (da_cons (de_op o_fdiv (dv 1) (dv 2)) (da_cons (de_op o_mod (de_callTy (b_int) m_int (da_cons (dv 1) (da_nil))) (dv 2)) (da_nil)))) (de_callTy (b_int) m_int (da_cons (de_cmp (o_eq hu64) (dv 0) (dstr)) (da_nil))))))) (dss_nil)) (dss_cons (ds_if (dt_cmp (o_eq hu64) (dv 0) (dstr)) (dss_one (ds_ret (de_op o_mod (de_callTy (b_int) m_int (da_cons (de_op o_shl (dv 1) (de_op o_mod (de_callTy (b_int) m_int (da_cons (dv 2) (da_nil))) (dint))) (da_nil))) (dint)))) (dss_nil)) (dss_cons (ds_if (dt_cmp (o_eq hu64) (dv 0) (dstr)) (dss_one (ds_ret (de_op o_shr (dv 1) (de_op o_mod (de_callTy (b_int) m_int (da_cons (dv 2) (da_nil))) (dint))))) (dss_nil)) (dss_cons (ds_set (i := 3) nd (dv 1)) (dss_cons (ds_set (i := 4) nd (dv 2)) (dss_cons (ds_if (dt_cmp (o_in hu65) (dv 0) (de_lst (da_cons (dstr) (da_cons (dstr) (da_nil))))) (dss_cons (ds_set (i := 3) nd (de_op o_mod (de_callTy (b_int) m_int (da_cons (de_op o_add (dv 1) (dint)) (da_nil))) (dint))) (dss_one (ds_set (i := 4) nd (de_op o_mod (de_callTy (b_int) m_int (da_cons (de_op o_add (dv 2) (dint)) (da_nil))) (dint))))) (dss_nil)) (dss_cons (ds_set (i := 5) nd (de_disp (dps_cons (dstr) (de_op o_add (dv 1) (dv 2)) (dps_cons (dstr) (de_op o_sub (dv 1) (dv 2)) (dps_cons (dstr) (de_op o_mul (dv 1) (dv 2)) (dps_cons (dstr) (de_op o_and (dv 1) (dv 2)) (dps_cons (dstr) (de_op o_or (dv 1) (dv 2)) (dps_cons (dstr) (de_op o_xor (dv 1) (dv 2)) (dps_cons (dstr) (de_callTy (b_int) m_int (da_cons (de_cmp (o_lt) (dv 1) (dv 2)) (da_nil))) (dps_cons (dstr) (de_callTy (b_int) m_int (da_cons (de_cmp (o_le) (dv 1) (dv 2)) (da_nil))) (dps_cons (dstr) (de_callTy (b_int) m_int (da_cons (de_cmp (o_lt) (dv 3) (dv 4)) (da_nil))) (dps_cons (dstr) (de_callTy (b_int) m_int (da_cons (de_cmp (o_le) (dv 3) (dv 4)) (da_nil))) (dps_cons (dstr) (de_callTy (b_int) m_int (da_cons (de_cmp (o_eq hu64) (dv 1) (dv 2)) (da_nil))) (dps_cons (dstr) (de_callTy (b_int) m_int (da_cons (de_cmp (o_ne hu64) (dv 1) (dv 2)) (da_nil))) (dps_cons (dstr) (de_callTy (b_int) m_int (da_cons (de_and (de_cmp (o_gt) (dv 1) (dint)) (de_one (de_cmp (o_gt) (dv 2) (dint)))) (da_nil))) (dps_cons (dstr) (de_callTy (b_int) m_int (da_cons (de_or (de_cmp (o_gt) (dv 1) (dint)) (de_one (de_cmp (o_gt) (dv 2) (dint)))) (da_nil))) (dps_nil))))))))))))))))) (dss_one (ds_ret (de_op o_mod (de_callTy (b_int) m_int (da_cons (de_ix (o_ix hu1) (dv 5) (dv 0)) (da_nil))) (dint))))))))))

abbrev s__law_value : Stmt := top 25
abbrev n__law_value : List Str := ["_law_e", "_law_names", "_law_left", "_law_row"]
theorem sc__law_value : FnScope n__law_value ["_law_e", "_law_names"] (defScope s__law_value) := ⟨rfl, rfl, rfl, by decide +kernel, rfl, by decide +kernel, by decide +kernel⟩
theorem t__law_value {P : Program} {w : World} {K : PySem.W.Frag} {mg : Str → Option Value} {base : Heap} {f : Addr} {cdv : Value} {A : Around} {outer : List Env} {s : Shared} {H : Hp} {E : XK} {k : Nat} {sp__law_two sp__law_value : DSp}
    (hr : Room k (A.deeper (PyProof.Rows.envOfC "_law_value" (defScope s__law_value) s.heap.objs.size f cdv))) (F__law_two : DefOk P w K mg base "_law_two" ["_law_sign", "_law_a", "_law_b"] k sp__law_two) (F__law_value : DefOk P w K mg base "_law_value" ["_law_e", "_law_names"] k sp__law_value) (m_int : mg "int" = none) (m_len : mg "len" = none) :
    PSs (cxOf (L2.CX P w) P w K mg base n__law_value "_law_value" (defScope s__law_value) f cdv A outer s H E) (defBody s__law_value) (LS K (fun cls d _ H' => E cls d H') (w__law_value sp__law_two sp__law_value)) := by
  have nd := sc__law_value.nd
  have hu1 := hu_of hr
  have hu64 := hr.units
  have hu65 := hu65_of hr
  have tk : Takes (cxOf (L2.CX P w) P w K mg base n__law_value "_law_value" (defScope s__law_value) f cdv A outer s H E) (fun cls d _ H' => E cls d H') := takes_of rfl rfl rfl rfl
  have hp : PassesOwn (model P w) (cxOf (L2.CX P w) P w K mg base n__law_value "_law_value" (defScope s__law_value) f cdv A outer s H E).A (cxOf (L2.CX P w) P w K mg base n__law_value "_law_value" (defScope s__law_value) f cdv A outer s H E).env (cxOf (L2.CX P w) P w K mg base n__law_value "_law_value" (defScope s__law_value) f cdv A outer s H E).xe := passes_of rfl
  exact dss_cons (ds_if (dt_cmp (o_eq hu64) (de_ix (o_ix hu1) (dv 0) (dint)) (dstr)) (dss_one (ds_ret (de_ix (o_ix hu1) (dv 0) (dint)))) (dss_nil)) (dss_cons (ds_if (dt_cmp (o_eq hu64) (de_ix (o_ix hu1) (dv 0) (dint)) (dstr)) (dss_one (ds_ret (de_ix (o_ix hu1) (de_ix (o_ix hu1) (dv 1) (de_ix (o_ix hu1) (dv 0) (dint))) (dint)))) (dss_nil)) (dss_cons (ds_if (dt_cmp (o_eq hu64) (de_ix (o_ix hu1) (dv 0) (dint)) (dstr)) (dss_cons (ds_set (i := 3) nd (de_ix (o_ix hu1) (dv 1) (de_ix (o_ix hu1) (dv 0) (dint)))) (dss_one (ds_ret (de_ix (o_ix hu1) (dv 3) (de_op o_mod (de_callTy (b_int) m_int (da_cons (de_call F__law_value hr tk (da_cons (de_ix (o_ix hu1) (dv 0) (dint)) (da_cons (dv 1) (da_nil)))) (da_nil))) (de_callB (b_len) m_len (da_cons (dv 3) (da_nil)))))))) (dss_nil)) (dss_cons (ds_set (i := 2) nd (de_call F__law_value hr tk (da_cons (de_ix (o_ix hu1) (dv 0) (dint)) (da_cons (dv 1) (da_nil))))) (dss_cons (ds_if (dt_cmp (o_in hu65) (de_ix (o_ix hu1) (dv 0) (dint)) (de_lst (da_cons (dstr) (da_cons (dstr) (da_cons (dstr) (da_nil)))))) (dss_one (ds_ret (de_ix (o_ix hu1) (de_disp (dps_cons (dstr) (de_op o_mod (de_callTy (b_int) m_int (da_cons (de_op o_sub (dint) (dv 2)) (da_nil))) (dint)) (dps_cons (dstr) (de_op o_sub (dint) (dv 2)) (dps_cons (dstr) (de_callTy (b_int) m_int (da_cons (de_cmp (o_eq hu64) (dv 2) (dint)) (da_nil))) (dps_nil))))) (de_ix (o_ix hu1) (dv 0) (dint))))) (dss_nil)) (dss_one (ds_ret (de_call F__law_two hr tk (da_cons (de_ix (o_ix hu1) (dv 0) (dint)) (da_cons (dv 2) (da_cons (de_call F__law_value hr tk (da_cons (de_ix (o_ix hu1) (dv 0) (dint)) (da_cons (dv 1) (da_nil)))) (da_nil)))))))))))

abbrev s_wrap : Stmt := top 4
abbrev n_wrap : List Str := ["n"]
theorem sc_wrap : FnScope n_wrap ["n"] (defScope s_wrap) := ⟨rfl, rfl, rfl, by decide +kernel, rfl, by decide +kernel, by decide +kernel⟩
theorem t_wrap {P : Program} {w : World} {K : PySem.W.Frag} {mg : Str → Option Value} {base : Heap} {f : Addr} {cdv : Value} {A : Around} {outer : List Env} {s : Shared} {H : Hp} {E : XK} {k : Nat} 
    (hr : Room k (A.deeper (PyProof.Rows.envOfC "wrap" (defScope s_wrap) s.heap.objs.size f cdv))) (k_MODULUS : KConst K mg "MODULUS" c_MODULUS) :
    PSs (cxOf (L2.CX P w) P w K mg base n_wrap "wrap" (defScope s_wrap) f cdv A outer s H E) (defBody s_wrap) (LS K (fun cls d _ H' => E cls d H') (w_wrap)) := by
  have nd := sc_wrap.nd
  have hu1 := hu_of hr
  have hu64 := hr.units
  have hu65 := hu65_of hr
  have g_MODULUS : ∀ {X : Cx} {W : WX} {pos : Pos}, X.K = K → X.mg = mg → Gl X "MODULUS" → PE X (.Name "MODULUS" pos) (LE X.K W (wC c_MODULUS)) := fun h1 h2 h3 => dconst h1 h2 h3 k_MODULUS (by decide)
  have tk : Takes (cxOf (L2.CX P w) P w K mg base n_wrap "wrap" (defScope s_wrap) f cdv A outer s H E) (fun cls d _ H' => E cls d H') := takes_of rfl rfl rfl rfl
  have hp : PassesOwn (model P w) (cxOf (L2.CX P w) P w K mg base n_wrap "wrap" (defScope s_wrap) f cdv A outer s H E).A (cxOf (L2.CX P w) P w K mg base n_wrap "wrap" (defScope s_wrap) f cdv A outer s H E).env (cxOf (L2.CX P w) P w K mg base n_wrap "wrap" (defScope s_wrap) f cdv A outer s H E).xe := passes_of rfl
  exact dss_one (ds_ret (de_op o_mod (dv 0) ((g_MODULUS rfl rfl rfl))))

abbrev s__arithmetic : Stmt := top 6
abbrev n__arithmetic : List Str := ["operator", "a", "b"]
theorem sc__arithmetic : FnScope n__arithmetic ["operator", "a", "b"] (defScope s__arithmetic) := ⟨rfl, rfl, rfl, by decide +kernel, rfl, by decide +kernel, by decide +kernel⟩
theorem t__arithmetic {P : Program} {w : World} {K : PySem.W.Frag} {mg : Str → Option Value} {base : Heap} {f : Addr} {cdv : Value} {A : Around} {outer : List Env} {s : Shared} {H : Hp} {E : XK} {k : Nat} {sp_wrap : DSp}
    (hr : Room k (A.deeper (PyProof.Rows.envOfC "_arithmetic" (defScope s__arithmetic) s.heap.objs.size f cdv))) (F_wrap : DefOk P w K mg base "wrap" ["n"] k sp_wrap) :
    PSs (cxOf (L2.CX P w) P w K mg base n__arithmetic "_arithmetic" (defScope s__arithmetic) f cdv A outer s H E) (defBody s__arithmetic) (LS K (fun cls d _ H' => E cls d H') (w__arithmetic sp_wrap)) := by
  have nd := sc__arithmetic.nd
  have hu1 := hu_of hr
  have hu64 := hr.units
  have hu65 := hu65_of hr
  have tk : Takes (cxOf (L2.CX P w) P w K mg base n__arithmetic "_arithmetic" (defScope s__arithmetic) f cdv A outer s H E) (fun cls d _ H' => E cls d H') := takes_of rfl rfl rfl rfl
  have hp : PassesOwn (model P w) (cxOf (L2.CX P w) P w K mg base n__arithmetic "_arithmetic" (defScope s__arithmetic) f cdv A outer s H E).A (cxOf (L2.CX P w) P w K mg base n__arithmetic "_arithmetic" (defScope s__arithmetic) f cdv A outer s H E).env (cxOf (L2.CX P w) P w K mg base n__arithmetic "_arithmetic" (defScope s__arithmetic) f cdv A outer s H E).xe := passes_of rfl
  exact dss_cons (ds_if (dt_cmp (o_eq hu64) (dv 0) (dstr)) (dss_one (ds_ret (de_call F_wrap hr tk (da_cons (de_op o_add (dv 1) (dv 2)) (da_nil))))) (dss_nil)) (dss_cons (ds_if (dt_cmp (o_eq hu64) (dv 0) (dstr)) (dss_one (ds_ret (de_call F_wrap hr tk (da_cons (de_op o_sub (dv 1) (dv 2)) (da_nil))))) (dss_nil)) (dss_cons (ds_if (dt_cmp (o_eq hu64) (dv 0) (dstr)) (dss_one (ds_ret (de_call F_wrap hr tk (da_cons (de_op o_mul (dv 1) (dv 2)) (da_nil))))) (dss_nil)) (dss_cons (ds_if (dt_cmp (o_eq hu64) (dv 0) (dstr)) (dss_one (ds_ret (de_if (dt_cmp (o_eq hu64) (dv 2) (dint)) (dint) (de_op o_fdiv (dv 1) (dv 2))))) (dss_nil)) (dss_cons (ds_if (dt_cmp (o_eq hu64) (dv 0) (dstr)) (dss_one (ds_ret (de_if (dt_cmp (o_eq hu64) (dv 2) (dint)) (dv 1) (de_op o_mod (dv 1) (dv 2))))) (dss_nil)) (dss_one (ds_ret (dnon)))))))

abbrev s__bits : Stmt := top 7
abbrev n__bits : List Str := ["operator", "a", "b"]
theorem sc__bits : FnScope n__bits ["operator", "a", "b"] (defScope s__bits) := ⟨rfl, rfl, rfl, by decide +kernel, rfl, by decide +kernel, by decide +kernel⟩
theorem t__bits {P : Program} {w : World} {K : PySem.W.Frag} {mg : Str → Option Value} {base : Heap} {f : Addr} {cdv : Value} {A : Around} {outer : List Env} {s : Shared} {H : Hp} {E : XK} {k : Nat} {sp_wrap : DSp}
    (hr : Room k (A.deeper (PyProof.Rows.envOfC "_bits" (defScope s__bits) s.heap.objs.size f cdv))) (F_wrap : DefOk P w K mg base "wrap" ["n"] k sp_wrap) :
    PSs (cxOf (L2.CX P w) P w K mg base n__bits "_bits" (defScope s__bits) f cdv A outer s H E) (defBody s__bits) (LS K (fun cls d _ H' => E cls d H') (w__bits sp_wrap)) := by
  have nd := sc__bits.nd
  have hu1 := hu_of hr
  have hu64 := hr.units
  have hu65 := hu65_of hr
  have tk : Takes (cxOf (L2.CX P w) P w K mg base n__bits "_bits" (defScope s__bits) f cdv A outer s H E) (fun cls d _ H' => E cls d H') := takes_of rfl rfl rfl rfl
  have hp : PassesOwn (model P w) (cxOf (L2.CX P w) P w K mg base n__bits "_bits" (defScope s__bits) f cdv A outer s H E).A (cxOf (L2.CX P w) P w K mg base n__bits "_bits" (defScope s__bits) f cdv A outer s H E).env (cxOf (L2.CX P w) P w K mg base n__bits "_bits" (defScope s__bits) f cdv A outer s H E).xe := passes_of rfl
  exact dss_cons (ds_if (dt_cmp (o_eq hu64) (dv 0) (dstr)) (dss_one (ds_ret (de_op o_and (dv 1) (dv 2)))) (dss_nil)) (dss_cons (ds_if (dt_cmp (o_eq hu64) (dv 0) (dstr)) (dss_one (ds_ret (de_op o_or (dv 1) (dv 2)))) (dss_nil)) (dss_cons (ds_if (dt_cmp (o_eq hu64) (dv 0) (dstr)) (dss_one (ds_ret (de_op o_xor (dv 1) (dv 2)))) (dss_nil)) (dss_cons (ds_if (dt_cmp (o_eq hu64) (dv 0) (dstr)) (dss_one (ds_ret (de_call F_wrap hr tk (da_cons (de_op o_shl (dv 1) (de_op o_and (dv 2) (dint))) (da_nil))))) (dss_nil)) (dss_cons (ds_if (dt_cmp (o_eq hu64) (dv 0) (dstr)) (dss_one (ds_ret (de_op o_shr (dv 1) (de_op o_and (dv 2) (dint))))) (dss_nil)) (dss_one (ds_ret (dnon)))))))

abbrev s_signed : Stmt := top 5
abbrev n_signed : List Str := ["w"]
theorem sc_signed : FnScope n_signed ["w"] (defScope s_signed) := ⟨rfl, rfl, rfl, by decide +kernel, rfl, by decide +kernel, by decide +kernel⟩
theorem t_signed {P : Program} {w : World} {K : PySem.W.Frag} {mg : Str → Option Value} {base : Heap} {f : Addr} {cdv : Value} {A : Around} {outer : List Env} {s : Shared} {H : Hp} {E : XK} {k : Nat} 
    (hr : Room k (A.deeper (PyProof.Rows.envOfC "signed" (defScope s_signed) s.heap.objs.size f cdv))) (k_MODULUS : KConst K mg "MODULUS" c_MODULUS) (k_SIGN : KConst K mg "SIGN" c_SIGN) :
    PSs (cxOf (L2.CX P w) P w K mg base n_signed "signed" (defScope s_signed) f cdv A outer s H E) (defBody s_signed) (LS K (fun cls d _ H' => E cls d H') (w_signed)) := by
  have nd := sc_signed.nd
  have hu1 := hu_of hr
  have hu64 := hr.units
  have hu65 := hu65_of hr
  have g_MODULUS : ∀ {X : Cx} {W : WX} {pos : Pos}, X.K = K → X.mg = mg → Gl X "MODULUS" → PE X (.Name "MODULUS" pos) (LE X.K W (wC c_MODULUS)) := fun h1 h2 h3 => dconst h1 h2 h3 k_MODULUS (by decide)
  have g_SIGN : ∀ {X : Cx} {W : WX} {pos : Pos}, X.K = K → X.mg = mg → Gl X "SIGN" → PE X (.Name "SIGN" pos) (LE X.K W (wC c_SIGN)) := fun h1 h2 h3 => dconst h1 h2 h3 k_SIGN (by decide)
  have tk : Takes (cxOf (L2.CX P w) P w K mg base n_signed "signed" (defScope s_signed) f cdv A outer s H E) (fun cls d _ H' => E cls d H') := takes_of rfl rfl rfl rfl
  have hp : PassesOwn (model P w) (cxOf (L2.CX P w) P w K mg base n_signed "signed" (defScope s_signed) f cdv A outer s H E).A (cxOf (L2.CX P w) P w K mg base n_signed "signed" (defScope s_signed) f cdv A outer s H E).env (cxOf (L2.CX P w) P w K mg base n_signed "signed" (defScope s_signed) f cdv A outer s H E).xe := passes_of rfl
  exact dss_cons (ds_if (dt_cmp (o_lt) (dv 0) ((g_SIGN rfl rfl rfl))) (dss_one (ds_ret (dv 0))) (dss_nil)) (dss_one (ds_ret (de_op o_sub (dv 0) ((g_MODULUS rfl rfl rfl)))))

abbrev s__truth : Stmt := top 8
abbrev n__truth : List Str := ["operator", "a", "b"]
theorem sc__truth : FnScope n__truth ["operator", "a", "b"] (defScope s__truth) := ⟨rfl, rfl, rfl, by decide +kernel, rfl, by decide +kernel, by decide +kernel⟩
theorem t__truth {P : Program} {w : World} {K : PySem.W.Frag} {mg : Str → Option Value} {base : Heap} {f : Addr} {cdv : Value} {A : Around} {outer : List Env} {s : Shared} {H : Hp} {E : XK} {k : Nat} {sp_signed : DSp}
    (hr : Room k (A.deeper (PyProof.Rows.envOfC "_truth" (defScope s__truth) s.heap.objs.size f cdv))) (F_signed : DefOk P w K mg base "signed" ["w"] k sp_signed) :
    PSs (cxOf (L2.CX P w) P w K mg base n__truth "_truth" (defScope s__truth) f cdv A outer s H E) (defBody s__truth) (LS K (fun cls d _ H' => E cls d H') (w__truth sp_signed)) := by
  have nd := sc__truth.nd
  have hu1 := hu_of hr
  have hu64 := hr.units
  have hu65 := hu65_of hr
  have tk : Takes (cxOf (L2.CX P w) P w K mg base n__truth "_truth" (defScope s__truth) f cdv A outer s H E) (fun cls d _ H' => E cls d H') := takes_of rfl rfl rfl rfl
  have hp : PassesOwn (model P w) (cxOf (L2.CX P w) P w K mg base n__truth "_truth" (defScope s__truth) f cdv A outer s H E).A (cxOf (L2.CX P w) P w K mg base n__truth "_truth" (defScope s__truth) f cdv A outer s H E).env (cxOf (L2.CX P w) P w K mg base n__truth "_truth" (defScope s__truth) f cdv A outer s H E).xe := passes_of rfl
  exact dss_cons (ds_if (dt_cmp (o_eq hu64) (dv 0) (dstr)) (dss_one (ds_ret (de_cmp (o_lt) (dv 1) (dv 2)))) (dss_nil)) (dss_cons (ds_if (dt_cmp (o_eq hu64) (dv 0) (dstr)) (dss_one (ds_ret (de_cmp (o_le) (dv 1) (dv 2)))) (dss_nil)) (dss_cons (ds_if (dt_cmp (o_eq hu64) (dv 0) (dstr)) (dss_one (ds_ret (de_cmp (o_lt) (de_call F_signed hr tk (da_cons (dv 1) (da_nil))) (de_call F_signed hr tk (da_cons (dv 2) (da_nil)))))) (dss_nil)) (dss_cons (ds_if (dt_cmp (o_eq hu64) (dv 0) (dstr)) (dss_one (ds_ret (de_cmp (o_le) (de_call F_signed hr tk (da_cons (dv 1) (da_nil))) (de_call F_signed hr tk (da_cons (dv 2) (da_nil)))))) (dss_nil)) (dss_cons (ds_if (dt_cmp (o_eq hu64) (dv 0) (dstr)) (dss_one (ds_ret (de_cmp (o_eq hu64) (dv 1) (dv 2)))) (dss_nil)) (dss_cons (ds_if (dt_cmp (o_eq hu64) (dv 0) (dstr)) (dss_one (ds_ret (de_cmp (o_ne hu64) (dv 1) (dv 2)))) (dss_nil)) (dss_cons (ds_if (dt_cmp (o_eq hu64) (dv 0) (dstr)) (dss_one (ds_ret (de_and (de_cmp (o_ne hu64) (dv 1) (dint)) (de_one (de_cmp (o_ne hu64) (dv 2) (dint)))))) (dss_nil)) (dss_one (ds_ret (de_or (de_cmp (o_ne hu64) (dv 1) (dint)) (de_one (de_cmp (o_ne hu64) (dv 2) (dint))))))))))))

abbrev s_combine : Stmt := top 9
abbrev n_combine : List Str := ["operator", "a", "b", "value"]
theorem sc_combine : FnScope n_combine ["operator", "a", "b"] (defScope s_combine) := ⟨rfl, rfl, rfl, by decide +kernel, rfl, by decide +kernel, by decide +kernel⟩
theorem t_combine {P : Program} {w : World} {K : PySem.W.Frag} {mg : Str → Option Value} {base : Heap} {f : Addr} {cdv : Value} {A : Around} {outer : List Env} {s : Shared} {H : Hp} {E : XK} {k : Nat} {sp__truth sp__bits sp__arithmetic : DSp}
    (hr : Room k (A.deeper (PyProof.Rows.envOfC "combine" (defScope s_combine) s.heap.objs.size f cdv))) (F__truth : DefOk P w K mg base "_truth" ["operator", "a", "b"] k sp__truth) (F__bits : DefOk P w K mg base "_bits" ["operator", "a", "b"] k sp__bits) (F__arithmetic : DefOk P w K mg base "_arithmetic" ["operator", "a", "b"] k sp__arithmetic) (m_int : mg "int" = none) :
    PSs (cxOf (L2.CX P w) P w K mg base n_combine "combine" (defScope s_combine) f cdv A outer s H E) (defBody s_combine) (LS K (fun cls d _ H' => E cls d H') (w_combine sp__truth sp__bits sp__arithmetic)) := by
  have nd := sc_combine.nd
  have hu1 := hu_of hr
  have hu64 := hr.units
  have hu65 := hu65_of hr
  have tk : Takes (cxOf (L2.CX P w) P w K mg base n_combine "combine" (defScope s_combine) f cdv A outer s H E) (fun cls d _ H' => E cls d H') := takes_of rfl rfl rfl rfl
  have hp : PassesOwn (model P w) (cxOf (L2.CX P w) P w K mg base n_combine "combine" (defScope s_combine) f cdv A outer s H E).A (cxOf (L2.CX P w) P w K mg base n_combine "combine" (defScope s_combine) f cdv A outer s H E).env (cxOf (L2.CX P w) P w K mg base n_combine "combine" (defScope s_combine) f cdv A outer s H E).xe := passes_of rfl
  exact dss_cons (ds_set (i := 3) nd (de_call F__arithmetic hr tk (da_cons (dv 0) (da_cons (dv 1) (da_cons (dv 2) (da_nil)))))) (dss_cons (ds_if (dt_cmp (o_is) (dv 3) (dnon)) (dss_one (ds_set (i := 3) nd (de_call F__bits hr tk (da_cons (dv 0) (da_cons (dv 1) (da_cons (dv 2) (da_nil))))))) (dss_nil)) (dss_cons (ds_if (dt_cmp (o_is) (dv 3) (dnon)) (dss_one (ds_set (i := 3) nd (de_callTy (b_int) m_int (da_cons (de_call F__truth hr tk (da_cons (dv 0) (da_cons (dv 1) (da_cons (dv 2) (da_nil))))) (da_nil))))) (dss_nil)) (dss_one (ds_ret (dv 3)))))

abbrev s_alter : Stmt := top 10
abbrev n_alter : List Str := ["operator", "a"]
theorem sc_alter : FnScope n_alter ["operator", "a"] (defScope s_alter) := ⟨rfl, rfl, rfl, by decide +kernel, rfl, by decide +kernel, by decide +kernel⟩
theorem t_alter {P : Program} {w : World} {K : PySem.W.Frag} {mg : Str → Option Value} {base : Heap} {f : Addr} {cdv : Value} {A : Around} {outer : List Env} {s : Shared} {H : Hp} {E : XK} {k : Nat} {sp_wrap : DSp}
    (hr : Room k (A.deeper (PyProof.Rows.envOfC "alter" (defScope s_alter) s.heap.objs.size f cdv))) (F_wrap : DefOk P w K mg base "wrap" ["n"] k sp_wrap) (m_int : mg "int" = none) (k_MASK : KConst K mg "MASK" c_MASK) :
    PSs (cxOf (L2.CX P w) P w K mg base n_alter "alter" (defScope s_alter) f cdv A outer s H E) (defBody s_alter) (LS K (fun cls d _ H' => E cls d H') (w_alter sp_wrap)) := by
  have nd := sc_alter.nd
  have hu1 := hu_of hr
  have hu64 := hr.units
  have hu65 := hu65_of hr
  have g_MASK : ∀ {X : Cx} {W : WX} {pos : Pos}, X.K = K → X.mg = mg → Gl X "MASK" → PE X (.Name "MASK" pos) (LE X.K W (wC c_MASK)) := fun h1 h2 h3 => dconst h1 h2 h3 k_MASK (by decide)
  have tk : Takes (cxOf (L2.CX P w) P w K mg base n_alter "alter" (defScope s_alter) f cdv A outer s H E) (fun cls d _ H' => E cls d H') := takes_of rfl rfl rfl rfl
  have hp : PassesOwn (model P w) (cxOf (L2.CX P w) P w K mg base n_alter "alter" (defScope s_alter) f cdv A outer s H E).A (cxOf (L2.CX P w) P w K mg base n_alter "alter" (defScope s_alter) f cdv A outer s H E).env (cxOf (L2.CX P w) P w K mg base n_alter "alter" (defScope s_alter) f cdv A outer s H E).xe := passes_of rfl
  exact dss_cons (ds_if (dt_cmp (o_eq hu64) (dv 0) (dstr)) (dss_one (ds_ret (de_call F_wrap hr tk (da_cons (de_un o_neg (dv 1)) (da_nil))))) (dss_nil)) (dss_cons (ds_if (dt_cmp (o_eq hu64) (dv 0) (dstr)) (dss_one (ds_ret (de_op o_xor ((g_MASK rfl rfl rfl)) (dv 1)))) (dss_nil)) (dss_one (ds_ret (de_callTy (b_int) m_int (da_cons (de_cmp (o_eq hu64) (dv 1) (dint)) (da_nil))))))

abbrev s_evaluate : Stmt := top 12
abbrev n_evaluate : List Str := ["e", "names", "kind", "left", "row"]
theorem sc_evaluate : FnScope n_evaluate ["e", "names"] (defScope s_evaluate) := ⟨rfl, rfl, rfl, by decide +kernel, rfl, by decide +kernel, by decide +kernel⟩
theorem t_evaluate {P : Program} {w : World} {K : PySem.W.Frag} {mg : Str → Option Value} {base : Heap} {f : Addr} {cdv : Value} {A : Around} {outer : List Env} {s : Shared} {H : Hp} {E : XK} {k : Nat} {sp_combine sp_evaluate sp_alter : DSp}
    (hr : Room k (A.deeper (PyProof.Rows.envOfC "evaluate" (defScope s_evaluate) s.heap.objs.size f cdv))) (F_combine : DefOk P w K mg base "combine" ["operator", "a", "b"] k sp_combine) (F_evaluate : DefOk P w K mg base "evaluate" ["e", "names"] k sp_evaluate) (F_alter : DefOk P w K mg base "alter" ["operator", "a"] k sp_alter) (m_len : mg "len" = none) :
    PSs (cxOf (L2.CX P w) P w K mg base n_evaluate "evaluate" (defScope s_evaluate) f cdv A outer s H E) (defBody s_evaluate) (LS K (fun cls d _ H' => E cls d H') (w_evaluate sp_combine sp_evaluate sp_alter)) := by
  have nd := sc_evaluate.nd
  have hu1 := hu_of hr
  have hu64 := hr.units
  have hu65 := hu65_of hr
  have tk : Takes (cxOf (L2.CX P w) P w K mg base n_evaluate "evaluate" (defScope s_evaluate) f cdv A outer s H E) (fun cls d _ H' => E cls d H') := takes_of rfl rfl rfl rfl
  have hp : PassesOwn (model P w) (cxOf (L2.CX P w) P w K mg base n_evaluate "evaluate" (defScope s_evaluate) f cdv A outer s H E).A (cxOf (L2.CX P w) P w K mg base n_evaluate "evaluate" (defScope s_evaluate) f cdv A outer s H E).env (cxOf (L2.CX P w) P w K mg base n_evaluate "evaluate" (defScope s_evaluate) f cdv A outer s H E).xe := passes_of rfl
  exact dss_cons (ds_set (i := 2) nd (de_ix (o_ix hu1) (dv 0) (dint))) (dss_cons (ds_if (dt_cmp (o_eq hu64) (dv 2) (dstr)) (dss_one (ds_ret (de_ix (o_ix hu1) (dv 0) (dint)))) (dss_nil)) (dss_cons (ds_if (dt_cmp (o_eq hu64) (dv 2) (dstr)) (dss_one (ds_ret (de_ix (o_ix hu1) (de_ix (o_ix hu1) (dv 1) (de_ix (o_ix hu1) (dv 0) (dint))) (dint)))) (dss_nil)) (dss_cons (ds_if (dt_cmp (o_eq hu64) (dv 2) (dstr)) (dss_cons (ds_set (i := 4) nd (de_ix (o_ix hu1) (dv 1) (de_ix (o_ix hu1) (dv 0) (dint)))) (dss_one (ds_ret (de_ix (o_ix hu1) (dv 4) (de_op o_mod (de_call F_evaluate hr tk (da_cons (de_ix (o_ix hu1) (dv 0) (dint)) (da_cons (dv 1) (da_nil)))) (de_callB (b_len) m_len (da_cons (dv 4) (da_nil)))))))) (dss_nil)) (dss_cons (ds_if (dt_cmp (o_in hu65) (dv 2) (de_tup (da_cons (dstr) (da_cons (dstr) (da_cons (dstr) (da_nil)))))) (dss_one (ds_ret (de_call F_alter hr tk (da_cons (dv 2) (da_cons (de_call F_evaluate hr tk (da_cons (de_ix (o_ix hu1) (dv 0) (dint)) (da_cons (dv 1) (da_nil)))) (da_nil)))))) (dss_nil)) (dss_cons (ds_set (i := 3) nd (de_call F_evaluate hr tk (da_cons (de_ix (o_ix hu1) (dv 0) (dint)) (da_cons (dv 1) (da_nil))))) (dss_one (ds_ret (de_call F_combine hr tk (da_cons (dv 2) (da_cons (dv 3) (da_cons (de_call F_evaluate hr tk (da_cons (de_ix (o_ix hu1) (dv 0) (dint)) (da_cons (dv 1) (da_nil)))) (da_nil))))))))))))

abbrev s_law : Stmt := top 26
abbrev n_law : List Str := ["_law_script", "_law_state_here", "_law_cells", "_law_names", "_law_before", "_law_k", "_law_name", "_law_size", "_law_e", "_law_due", "_law_actual"]
theorem sc_law : FnScope n_law ["_law_script"] (defScope s_law) := ⟨rfl, rfl, rfl, by decide +kernel, rfl, by decide +kernel, by decide +kernel⟩
theorem t_law {P : Program} {w : World} {K : PySem.W.Frag} {mg : Str → Option Value} {base : Heap} {f : Addr} {cdv : Value} {A : Around} {outer : List Env} {s : Shared} {H : Hp} {E : XK} {k : Nat} {sp_evaluate sp__law_value sp__law_expr sp__law_draw sp__law_word sp__law_state : DSp}
    (hr : Room k (A.deeper (PyProof.Rows.envOfC "law" (defScope s_law) s.heap.objs.size f cdv))) (hgd : A.guards = some []) (hsy : ∃ o, base.get? sysModules = some o) (F_evaluate : DefOk P w K mg base "evaluate" ["e", "names"] k sp_evaluate) (F__law_value : DefOk P w K mg base "_law_value" ["_law_e", "_law_names"] k sp__law_value) (F__law_expr : DefOk P w K mg base "_law_expr" ["_law_state_here", "_law_env", "_law_deep"] k sp__law_expr) (F__law_draw : DefOk P w K mg base "_law_draw" ["_law_state_here", "_law_many"] k sp__law_draw) (F__law_word : DefOk P w K mg base "_law_word" ["_law_state_here"] k sp__law_word) (F__law_state : DefOk P w K mg base "_law_state" ["_law_script"] k sp__law_state) (m_repr : mg "repr" = none) (m_range : mg "range" = none) (m_isinstance : mg "isinstance" = none) (m_int : mg "int" = none) (m_bool : mg "bool" = none) (m_max : mg "max" = none) :
    PSs (cxOf (L2.CX P w) P w K mg base n_law "law" (defScope s_law) f cdv A outer s H E) (defBody s_law) (LS K (fun cls d _ H' => E cls d H') (w_law sp_evaluate sp__law_value sp__law_expr sp__law_draw sp__law_word sp__law_state)) := by
  have nd := sc_law.nd
  have hu1 := hu_of hr
  have hu64 := hr.units
  have hu65 := hu65_of hr
  have tk : Takes (cxOf (L2.CX P w) P w K mg base n_law "law" (defScope s_law) f cdv A outer s H E) (fun cls d _ H' => E cls d H') := takes_of rfl rfl rfl rfl
  have hp : PassesOwn (model P w) (cxOf (L2.CX P w) P w K mg base n_law "law" (defScope s_law) f cdv A outer s H E).A (cxOf (L2.CX P w) P w K mg base n_law "law" (defScope s_law) f cdv A outer s H E).env (cxOf (L2.CX P w) P w K mg base n_law "law" (defScope s_law) f cdv A outer s H E).xe := passes_of rfl
  exact dss_cons (ds_set (i := 1) nd (de_call F__law_state hr tk (da_cons (dv 0) (da_nil)))) (dss_cons (ds_set (i := 2) nd (de_lst (da_cons (de_tup (da_cons (dstr) (da_cons (dint) (da_nil)))) (da_cons (de_tup (da_cons (dstr) (da_cons (de_op o_add (dint) (de_call F__law_draw hr tk (da_cons (dv 1) (da_cons (dint) (da_nil))))) (da_nil)))) (da_cons (de_tup (da_cons (dstr) (da_cons (dint) (da_nil)))) (da_cons (de_tup (da_cons (dstr) (da_cons (dint) (da_nil)))) (da_nil))))))) (dss_cons (ds_set (i := 3) nd (de_dK)) (dss_cons (ds_for (g := .many [6, 7]) hp rfl (di_seq (dv 2)) (by exact (pg_tup rfl (pgs_cons (pg_name (i := 6) nd rfl (Or.inl rfl)) (pgs_cons (pg_name (i := 7) nd rfl (Or.inl rfl)) (pgs_nil))))) (dss_one (ds_put hu1 (de_lc (own := [("_law_k", 5)]) (g := .one 5) rfl nd (di_rng m_range (de_callB (b_max rfl) m_max (da_cons (dint) (da_cons (dv 7) (da_nil))))) (blkOk_by (own := [("_law_k", 5)]) (N := n_law) (sc := defScope s_law) (by decide +kernel)) (by decide) (fun _ _ _ _ _ => pg_name (i := 5) nd rfl (Or.inl rfl)) (fun _ _ _ _ _ => dts_nil) (fun _ _ _ _ _ => de_call F__law_word hr takesN (da_cons (dv 1) (da_nil)))) (dv 3) (dv 6)))) (dss_cons (ds_set (i := 4) nd (de_callB (b_repr hgd hsy hu65) m_repr (da_cons (dv 3) (da_nil)))) (dss_cons (ds_for (g := .one 5) hp rfl (di_rng m_range (dint)) (pg_name (i := 5) nd rfl (Or.inl rfl)) (dss_cons (ds_set (i := 8) nd (de_call F__law_expr hr tk (da_cons (dv 1) (da_cons (de_lst (da_cons (dv 2) (da_cons (de_lst (da_nil)) (da_cons (de_lst (da_nil)) (da_cons (de_lst (da_nil)) (da_cons (dint) (da_nil))))))) (da_cons (de_op o_add (dint) (de_call F__law_draw hr tk (da_cons (dv 1) (da_cons (dint) (da_nil))))) (da_nil)))))) (dss_cons (ds_set (i := 9) nd (de_call F__law_value hr tk (da_cons (dv 8) (da_cons (dv 3) (da_nil))))) (dss_cons (ds_set (i := 10) nd (de_call F_evaluate hr tk (da_cons (dv 8) (da_cons (dv 3) (da_nil))))) (dss_one (ds_if (PW.pt (dw_or (dt_not (dt_tru (de_callB (b_isi) m_isinstance (da_cons (dv 10) (da_cons (dty m_int) (da_nil)))))) (dw_or (dt_tru (de_callB (b_isi) m_isinstance (da_cons (dv 10) (da_cons (dty m_bool) (da_nil))))) (dw_or1 (dt_cmp (o_ne hu64) (dv 10) (dv 9)))))) (dss_one (ds_ret (dbl))) (dss_nil))))))) (dss_one (ds_ret (de_cmp (o_eq hu64) (de_callB (b_repr hgd hsy hu65) m_repr (da_cons (dv 3) (da_nil))) (dv 4)))))))))
end K11

set_option Elab.async false
set_option linter.all false
set_option maxRecDepth 100000
set_option maxHeartbeats 400000
namespace K11
open PySem DL
local macro_rules | `(tactic| walk_at "h") => `(tactic| conv => whnf)
def spWrap : DSp := fun xs M Q Z => ∃ n : Int, xs = [.d (.int n)] ∧ Q (.d (.int (n % 4294967296))) M
theorem r_wrap (xs M Q Z) (h : spWrap xs M Q Z) : w_wrap (retD Q) (envD 1 xs Z) M := by
  obtain ⟨n, rfl, q⟩ := h
  unfold w_wrap c_MODULUS
  walk_at "h"
  exact ⟨by decide, q⟩
def signF (n : Int) : Int := if n < 2147483648 then n else n - 4294967296
def spSigned : DSp := fun xs M Q Z => ∃ n : Int, xs = [.d (.int n)] ∧ Q (.d (.int (signF n))) M
theorem r_signed (xs M Q Z) (h : spSigned xs M Q Z) : w_signed (retD Q) (envD 1 xs Z) M := by
  obtain ⟨n, rfl, q⟩ := h
  unfold signF at q
  unfold w_signed c_MODULUS c_SIGN
  walk_at "h"
  refine brD (fun h => ?_) fun h => ?_
  · rwa [if_pos h] at q
  · rwa [if_neg h] at q
def Wd (a : Int) : Prop := 0 ≤ a ∧ a < 4294967296
def arithF (o : Str) (a b : Int) : PyData :=
  if o = "+" then .int ((a + b) % 4294967296) else if o = "-" then .int ((a - b) % 4294967296) else if o = "*" then .int ((a * b) % 4294967296)
  else if o = "/" then (if b = 0 then .int 0 else .int (a / b)) else if o = "mod" then (if b = 0 then .int a else .int (a % b)) else .none
def spArith : DSp := fun xs M Q Z => ∃ (o : Str) (a b : Int), xs = [.d (.str o), .d (.int a), .d (.int b)] ∧ Wd a ∧ Wd b ∧ Q (.d (arithF o a b)) M
theorem r_arith (xs M Q Z) (h : spArith xs M Q Z) : w__arithmetic spWrap (retD Q) (envD 3 xs Z) M := by
  obtain ⟨o, a, b, rfl, ha, hb, q⟩ := h
  unfold Wd at ha hb
  unfold arithF at q
  unfold w__arithmetic
  walk_at "h"
  refine brD (fun h => ?_) fun h => ?_
  · rw [if_pos h] at q; exact ⟨_, rfl, q⟩
  rw [if_neg h] at q
  refine brD (fun h => ?_) fun h => ?_
  · rw [if_pos h] at q; exact ⟨_, rfl, q⟩
  rw [if_neg h] at q
  refine brD (fun h => ?_) fun h => ?_
  · rw [if_pos h] at q; exact ⟨mulOk_left (by omega) (by omega), _, rfl, q⟩
  rw [if_neg h] at q
  refine brD (fun h => ?_) fun h => ?_
  · rw [if_pos h] at q
    refine brD (fun z => ?_) fun z => ?_
    · rwa [if_pos z] at q
    · rw [if_neg z] at q; exact ⟨divOk_small (by omega) (by omega), q⟩
  rw [if_neg h] at q
  refine brD (fun h => ?_) fun h => ?_
  · rw [if_pos h] at q
    refine brD (fun z => ?_) fun z => ?_
    · rwa [if_pos z] at q
    · rw [if_neg z] at q; exact ⟨by omega, q⟩
  rwa [if_neg h] at q

def bitsF (o : Str) (a b : Int) : PyData :=
  if o = "&" then .int (Builtin.bitAnd a b) else if o = "|" then .int (Builtin.bitOr a b) else if o = "^" then .int (Builtin.bitXor a b)
  else if o = "<<" then .int ((a * 2 ^ (Builtin.bitAnd b 31).toNat) % 4294967296) else if o = ">>" then .int (a / 2 ^ (Builtin.bitAnd b 31).toNat) else .none
def spBits : DSp := fun xs M Q Z => ∃ (o : Str) (a b : Int), xs = [.d (.str o), .d (.int a), .d (.int b)] ∧ Wd a ∧ Wd b ∧ Q (.d (bitsF o a b)) M
theorem pow_small (a i : Int) (h : 0 ≤ i) (h' : i < 64) (ha : 0 ≤ a ∧ a < 4294967296) : L2.CPow a i := ⟨h, by omega, by omega⟩
theorem r_bits (xs M Q Z) (h : spBits xs M Q Z) : w__bits spWrap (retD Q) (envD 3 xs Z) M := by
  obtain ⟨o, a, b, rfl, ha, hb, q⟩ := h
  unfold Wd at ha hb
  have hs : 0 ≤ Builtin.bitAnd b 31 ∧ Builtin.bitAnd b 31 < 64 := by rw [PyProof.Rows.bitAnd_m5]; omega
  unfold bitsF at q
  unfold w__bits
  walk_at "h"
  refine brD (fun h => ?_) fun h => ?_
  · rwa [if_pos h] at q
  rw [if_neg h] at q
  refine brD (fun h => ?_) fun h => ?_
  · rwa [if_pos h] at q
  rw [if_neg h] at q
  refine brD (fun h => ?_) fun h => ?_
  · rwa [if_pos h] at q
  rw [if_neg h] at q
  refine brD (fun h => ?_) fun h => ?_
  · rw [if_pos h] at q; exact ⟨pow_small _ _ hs.1 hs.2 ha, _, rfl, q⟩
  rw [if_neg h] at q
  refine brD (fun h => ?_) fun h => ?_
  · rw [if_pos h] at q; exact ⟨hs.1, q⟩
  rwa [if_neg h] at q
def truthF (o : Str) (a b : Int) : Bool :=
  if o = "<" then decide (a < b) else if o = "<=" then decide (a ≤ b) else if o = "~<" then decide (signF a < signF b) else if o = "~<=" then decide (signF a ≤ signF b)
  else if o = "==" then decide (a = b) else if o = "!=" then !decide (a = b) else if o = "and" then (if decide (a = 0) then false else !decide (b = 0)) else (if decide (a = 0) then !decide (b = 0) else true)
def spTruth : DSp := fun xs M Q Z => ∃ (o : Str) (a b : Int), xs = [.d (.str o), .d (.int a), .d (.int b)] ∧ Q (.d (.bool (truthF o a b))) M
theorem r_truth (xs M Q Z) (h : spTruth xs M Q Z) : w__truth spSigned (retD Q) (envD 3 xs Z) M := by
  obtain ⟨o, a, b, rfl, q⟩ := h
  unfold truthF at q
  unfold w__truth
  walk_at "h"
  refine brD (fun h => ?_) fun h => ?_
  · rwa [if_pos h] at q
  rw [if_neg h] at q
  refine brD (fun h => ?_) fun h => ?_
  · rwa [if_pos h] at q
  rw [if_neg h] at q
  refine brD (fun h => ?_) fun h => ?_
  · rw [if_pos h] at q; exact ⟨_, rfl, _, rfl, q⟩
  rw [if_neg h] at q
  refine brD (fun h => ?_) fun h => ?_
  · rw [if_pos h] at q; exact ⟨_, rfl, _, rfl, q⟩
  rw [if_neg h] at q
  refine brD (fun h => ?_) fun h => ?_
  · rwa [if_pos h] at q
  rw [if_neg h] at q
  refine brD (fun h => ?_) fun h => ?_
  · rwa [if_pos h] at q
  rw [if_neg h] at q
  refine brD (fun h => ?_) fun h => ?_
  · rw [if_pos h] at q
    refine brN (fun z => ?_) fun z => ?_
    · rwa [decide_eq_false z, if_neg Bool.false_ne_true] at q
    · rwa [decide_eq_true z, if_pos rfl] at q
  rw [if_neg h] at q
  refine brN (fun z => ?_) fun z => ?_
  · rwa [decide_eq_false z, if_neg Bool.false_ne_true] at q
  · rwa [decide_eq_true z, if_pos rfl] at q
/-- what a sign gives, as the law's page tells it -/
def opF (o : Str) (a b : Int) : Int :=
  if o = "+" then (a + b) % 4294967296 else if o = "-" then (a - b) % 4294967296 else if o = "*" then (a * b) % 4294967296
  else if o = "/" then (if b = 0 then 0 else a / b) else if o = "mod" then (if b = 0 then a else a % b)
  else if o = "&" then Builtin.bitAnd a b else if o = "|" then Builtin.bitOr a b else if o = "^" then Builtin.bitXor a b
  else if o = "<<" then (a * 2 ^ (b % 32).toNat) % 4294967296 else if o = ">>" then a / 2 ^ (b % 32).toNat
  else if truthF o a b then 1 else 0
def signs : List Str := ["+", "-", "*", "/", "mod", "&", "|", "^", "<<", ">>", "<", "<=", "~<", "~<=", "==", "!=", "and", "or"]
theorem band_word {a b : Int} (ha : Wd a) (hb : Wd b) : Wd (Builtin.bitAnd a b) := by
  have := PyProof.Rows.bitAnd_range a hb.1
  unfold Wd at *; omega
theorem or_word {a b : Int} (ha : Wd a) (hb : Wd b) : Wd (Builtin.bitOr a b) := by
  unfold Wd at *
  rw [Bits.bitOr_pp ha.1 hb.1]
  have := Nat.or_lt_two_pow (x := a.toNat) (y := b.toNat) (n := 32) (by omega) (by omega)
  omega
theorem arith_cases (o : Str) (a b : Int) (ha : Wd a) (hb : Wd b) : arithF o a b = .none ∨ arithF o a b = .int (opF o a b) := by
  unfold arithF opF
  split
  · exact .inr rfl
  split
  · exact .inr rfl
  split
  · exact .inr rfl
  split
  · right; split <;> rfl
  split
  · right; split <;> rfl
  exact .inl rfl
theorem bits_cases (o : Str) (a b : Int) (hn : arithF o a b = .none) : bitsF o a b = .none ∧ opF o a b = (if truthF o a b then 1 else 0) ∨ bitsF o a b = .int (opF o a b) := by
  unfold arithF at hn
  unfold bitsF opF
  simp only [PyProof.Rows.bitAnd_m5]
  split at hn
  · cases hn
  rename_i h1
  split at hn
  · cases hn
  rename_i h2
  split at hn
  · cases hn
  rename_i h3
  split at hn
  · split at hn <;> cases hn
  rename_i h4
  split at hn
  · split at hn <;> cases hn
  rename_i h5
  rw [if_neg h1, if_neg h2, if_neg h3, if_neg h4, if_neg h5]
  split
  · exact .inr rfl
  split
  · exact .inr rfl
  split
  · exact .inr rfl
  split
  · exact .inr rfl
  split
  · exact .inr rfl
  exact .inl ⟨rfl, rfl⟩
def spComb : DSp := fun xs M Q Z => ∃ (o : Str) (a b : Int), xs = [.d (.str o), .d (.int a), .d (.int b)] ∧ Wd a ∧ Wd b ∧ Q (.d (.int (opF o a b))) M
theorem r_comb (xs M Q Z) (h : spComb xs M Q Z) : w_combine spTruth spBits spArith (retD Q) (envD 4 xs Z) M := by
  obtain ⟨o, a, b, rfl, ha, hb, q⟩ := h
  unfold w_combine
  walk_at "h"
  refine ⟨o, a, b, rfl, ha, hb, ?_⟩
  rcases arith_cases o a b ha hb with h | h
  · rw [h]
    walk_at "h"
    refine brT rfl ?_
    walk_at "h"
    refine ⟨o, a, b, rfl, ha, hb, ?_⟩
    rcases bits_cases o a b h with ⟨h, e⟩ | h
    · rw [h]
      walk_at "h"
      refine brT rfl ?_
      walk_at "h"
      refine ⟨o, a, b, rfl, ?_⟩
      rwa [e] at q
    · rw [h]
      walk_at "h"
      refine brF rfl ?_
      exact q
  · rw [h]
    walk_at "h"
    refine brF rfl ?_
    walk_at "h"
    refine brF rfl ?_
    exact q
def altF (o : Str) (a : Int) : Int := if o = "neg" then (0 - a) % 4294967296 else if o = "inv" then 4294967295 - a else if a = 0 then 1 else 0
def spAlter : DSp := fun xs M Q Z => ∃ (o : Str) (a : Int), xs = [.d (.str o), .d (.int a)] ∧ Wd a ∧ Q (.d (.int (altF o a))) M
theorem r_alter (xs M Q Z) (h : spAlter xs M Q Z) : w_alter spWrap (retD Q) (envD 2 xs Z) M := by
  obtain ⟨o, a, rfl, ha, q⟩ := h
  unfold Wd at ha
  unfold altF at q
  unfold w_alter c_MASK
  walk_at "h"
  refine brD (fun h => ?_) fun h => ?_
  · rw [if_pos h] at q; exact ⟨_, rfl, by rwa [Int.zero_sub] at q⟩
  rw [if_neg h] at q
  refine brD (fun h => ?_) fun h => ?_
  · rw [if_pos h] at q
    walk_at "h"
    rw [PyProof.Rows.bitXor_and, PyProof.Rows.bitAnd_m32', show 4294967295 + a - 2 * (a % 4294967296) = 4294967295 - a from by omega]
    exact q
  rw [if_neg h] at q
  by_cases z : a = 0
  · rw [if_pos z] at q
    walk_at "h"
    rw [decide_eq_true z]
    exact q
  · rw [if_neg z] at q
    walk_at "h"
    rw [decide_eq_false z]
    exact q
end K11

set_option Elab.async false
set_option linter.all false
set_option maxRecDepth 100000
set_option maxHeartbeats 400000
namespace K11
open PySem DL
local macro_rules | `(tactic| walk_at "h") => `(tactic| conv => whnf)
local macro_rules | `(tactic| walk_at "o") => `(tactic| (refine ⟨by first | decide | omega | assumption | exact Nat.le_of_ble_eq_true rfl | exact mulOk_left (by omega) (by omega) | exact divOk_small (by omega) (by omega), ?_⟩; conv => whnf))
def spTwo : DSp := fun xs M Q Z => ∃ (o : Str) (a b : Int), xs = [.d (.str o), .d (.int a), .d (.int b)] ∧ o ∈ signs ∧ Wd a ∧ Wd b ∧ Q (.d (.int (opF o a b))) M
theorem signs_ok : ∀ o ∈ signs, PyData.strOk o = true := by decide +kernel
def K14 : List L2.Key := [.inr "+", .inr "-", .inr "*", .inr "&", .inr "|", .inr "^", .inr "<", .inr "<=", .inr "~<", .inr "~<=", .inr "==", .inr "!=", .inr "and", .inr "or"]
theorem K14_nodup : K14.Nodup := by decide +kernel
def kvs14 (a b L R : Int) (vA vO : Bool) : List (L2.Key × DV) := [(.inr "+", .d (.int (a + b))), (.inr "-", .d (.int (a - b))), (.inr "*", .d (.int (a * b))), (.inr "&", .d (.int (Builtin.bitAnd a b))), (.inr "|", .d (.int (Builtin.bitOr a b))), (.inr "^", .d (.int (Builtin.bitXor a b))), (.inr "<", .d (.int (if decide (a < b) then 1 else 0))), (.inr "<=", .d (.int (if decide (a ≤ b) then 1 else 0))), (.inr "~<", .d (.int (if decide (L < R) then 1 else 0))), (.inr "~<=", .d (.int (if decide (L ≤ R) then 1 else 0))), (.inr "==", .d (.int (if decide (a = b) then 1 else 0))), (.inr "!=", .d (.int (if !decide (a = b) then 1 else 0))), (.inr "and", .d (.int (if vA then 1 else 0))), (.inr "or", .d (.int (if vO then 1 else 0)))]
theorem kvs14_get {a b L R : Int} {vA vO : Bool} {o : Str} (i : Nat) {x : DV} (h : K14.findIdx? (fun q => decide (q = .inr o)) = some i) (e : ((kvs14 a b L R vA vO).map (·.2))[i]? = some x) : valD (mergeD [] (kvs14 a b L R vA vO)) (.inr o) = some x := by
  rw [mergeD_nil (more := kvs14 a b L R vA vO) K14_nodup]
  exact valD_i (κ := L2.Key) h e
theorem word_mod {v : Int} (h : Wd v) : v % 4294967296 = v := Int.emod_eq_of_lt h.1 h.2
theorem xor_word {a b : Int} (ha : Wd a) (hb : Wd b) : Wd (Builtin.bitXor a b) := by
  have h1 := or_word ha hb
  have h2 := PyProof.Rows.bitOr_and a b
  have h3 := PyProof.Rows.bitXor_and a b
  have h4 := band_word ha hb
  have h5 : Builtin.bitXor a b = Builtin.bitOr a b - Builtin.bitAnd a b := rfl
  have h6 := PyProof.Rows.bitAnd_range a hb.1
  have h7 := PyProof.Rows.bitAnd_range b ha.1
  rw [PyProof.Rows.bitAnd_comm] at h7
  unfold Wd at *
  omega
theorem bit_mod (c : Bool) : (if c = true then (1 : Int) else 0) % 4294967296 = if c = true then 1 else 0 := by cases c <;> rfl
theorem two_leaf {o : Str} {a b L R : Int} {vA vO : Bool} (ho : o ∈ signs) (n1 : ¬ o = "/") (n2 : ¬ o = "mod") (n3 : ¬ o = "<<") (n4 : ¬ o = ">>") (ha : Wd a) (hb : Wd b)
    (hs : o = "~<" ∨ o = "~<=" → L = (a + 2147483648) % 4294967296 ∧ R = (b + 2147483648) % 4294967296) (hA : vA = decide (0 < a ∧ 0 < b)) (hO : vO = decide (0 < a ∨ 0 < b)) :
    ∃ v, valD (mergeD [] (kvs14 a b L R vA vO)) (.inr o) = some (.d (.int v)) ∧ v % 4294967296 = opF o a b := by
  have ha' := ha
  have hb' := hb
  unfold Wd at ha hb
  unfold signs at ho
  simp only [List.mem_cons, List.mem_nil_iff, or_false] at ho
  rcases ho with rfl | rfl | rfl | rfl | rfl | rfl | rfl | rfl | rfl | rfl | rfl | rfl | rfl | rfl | rfl | rfl | rfl | rfl
  · exact ⟨_, kvs14_get 0 (by decide +kernel) rfl, rfl⟩
  · exact ⟨_, kvs14_get 1 (by decide +kernel) rfl, rfl⟩
  · exact ⟨_, kvs14_get 2 (by decide +kernel) rfl, rfl⟩
  · exact absurd rfl n1
  · exact absurd rfl n2
  · exact ⟨_, kvs14_get 3 (by decide +kernel) rfl, word_mod (band_word ha' hb')⟩
  · exact ⟨_, kvs14_get 4 (by decide +kernel) rfl, word_mod (or_word ha' hb')⟩
  · exact ⟨_, kvs14_get 5 (by decide +kernel) rfl, word_mod (xor_word ha' hb')⟩
  · exact absurd rfl n3
  · exact absurd rfl n4
  · exact ⟨_, kvs14_get 6 (by decide +kernel) rfl, bit_mod _⟩
  · exact ⟨_, kvs14_get 7 (by decide +kernel) rfl, bit_mod _⟩
  · refine ⟨_, kvs14_get 8 (by decide +kernel) rfl, (bit_mod _).trans ?_⟩
    obtain ⟨rfl, rfl⟩ := hs (.inl rfl)
    show _ = if decide (signF a < signF b) = true then (1 : Int) else 0
    have : decide ((a + 2147483648) % 4294967296 < (b + 2147483648) % 4294967296) = decide (signF a < signF b) := by
      unfold signF
      rw [decide_eq_decide]
      split <;> split <;> omega
    rw [this]
  · refine ⟨_, kvs14_get 9 (by decide +kernel) rfl, (bit_mod _).trans ?_⟩
    obtain ⟨rfl, rfl⟩ := hs (.inr rfl)
    show _ = if decide (signF a ≤ signF b) = true then (1 : Int) else 0
    have : decide ((a + 2147483648) % 4294967296 ≤ (b + 2147483648) % 4294967296) = decide (signF a ≤ signF b) := by
      unfold signF
      rw [decide_eq_decide]
      split <;> split <;> omega
    rw [this]
  · exact ⟨_, kvs14_get 10 (by decide +kernel) rfl, bit_mod _⟩
  · exact ⟨_, kvs14_get 11 (by decide +kernel) rfl, bit_mod _⟩
  · refine ⟨_, kvs14_get 12 (by decide +kernel) rfl, (bit_mod _).trans ?_⟩
    show _ = if (if decide (a = 0) then false else !decide (b = 0)) = true then (1 : Int) else 0
    subst hA
    by_cases h1 : a = 0
    · subst h1; simp
    · by_cases h2 : b = 0
      · subst h2; simp
      · have : 0 < a ∧ 0 < b := by omega
        simp [h1, h2, this]
  · refine ⟨_, kvs14_get 13 (by decide +kernel) rfl, (bit_mod _).trans ?_⟩
    show _ = if (if decide (a = 0) then !decide (b = 0) else true) = true then (1 : Int) else 0
    subst hO
    by_cases h1 : a = 0
    · by_cases h2 : b = 0
      · subst h2; simp [h1]
      · have : 0 < b := by omega
        simp [h1, h2, this]
    · have : 0 < a := by omega
      simp [h1, this]
theorem r_two (xs M Q Z) (h : spTwo xs M Q Z) : w__law_two (retW Q) (envD 6 xs Z) M := by
  obtain ⟨o, a, b, rfl, ho, ha, hb, q⟩ := h
  have hw := ha
  have hw' := hb
  have hok := signs_ok o ho
  unfold Wd at ha hb
  unfold w__law_two
  walk_at "h"
  walk_at "o"
  obtain ⟨s1, s2, s3⟩ := in_strs ["/", "mod"] hok (by decide +kernel)
  refine ⟨s1, s2, ?_⟩
  erw [s3]
  walk_at "h"
  refine brD (fun h1 => ?_) fun h1 => ?_
  · have h2 : o = "/" ∨ o = "mod" := by simpa using h1
    walk_at "h"
    refine brD (fun hz => ?_) fun hz => ?_
    · walk_at "h"
      walk_at "o"
      rcases h2 with rfl | rfl
      · walk_at "h"
        exact ⟨_, _, .refl _ _, by rw [show opF "/" a b = 0 from by subst hz; rfl] at q; exact q⟩
      · walk_at "h"
        exact ⟨_, _, .refl _ _, by rw [show opF "mod" a b = a from by subst hz; rfl] at q; exact q⟩
    · walk_at "h"
      walk_at "o"
      walk_at "o"
      walk_at "o"
      rcases h2 with rfl | rfl
      · walk_at "h"
        exact ⟨_, _, .refl _ _, by rw [show opF "/" a b = a / b from if_neg hz] at q; exact q⟩
      · walk_at "h"
        exact ⟨_, _, .refl _ _, by rw [show opF "mod" a b = a % b from if_neg hz] at q; exact q⟩
  · have h2 : ¬ o = "/" ∧ ¬ o = "mod" := by simpa using h1
    walk_at "h"
    refine brD (fun hz => ?_) fun hz => ?_
    · subst hz
      walk_at "o"
      refine ⟨pow_small _ _ (by omega) (by omega) ha, ?_⟩
      walk_at "h"
      walk_at "o"
      exact ⟨_, _, .refl _ _, q⟩
    walk_at "h"
    refine brD (fun hz' => ?_) fun hz' => ?_
    · subst hz'
      walk_at "o"
      walk_at "o"
      exact ⟨_, _, .refl _ _, q⟩
    walk_at "h"
    walk_at "o"
    obtain ⟨s1, s2, s3⟩ := in_strs ["~<", "~<="] hok (by decide +kernel)
    refine ⟨s1, s2, ?_⟩
    erw [s3]
    walk_at "h"
    refine brB (fun hc => ?_) fun hc => ?_
    · walk_at "h"
      walk_at "o"
      walk_at "o"
      intro p hp
      walk_at "h"
      walk_at "o"
      refine brD (fun p1 => ?_) fun p1 => ?_
      · walk_at "h"
        refine brD (fun p2 => ?_) fun p2 => ?_
        · walk_at "h"
          refine ⟨mset_same, ?_⟩
          walk_at "h"
          walk_at "o"
          obtain ⟨v, hv, e⟩ := two_leaf (L := (a + 2147483648) % 4294967296) (R := (b + 2147483648) % 4294967296) (vA := decide (0 < b)) (vO := true) ho h2.1 h2.2 hz hz' hw hw' (fun _ => ⟨rfl, rfl⟩) (by simp [p1]) (by simp [p1])
          generalize hK : mergeD [] _ = K
          rw [show mergeD [] (kvs14 _ _ _ _ _ _) = K from hK] at hv
          rw [mset_same]
          walk_at "h"
          rw [hv]
          walk_at "h"
          walk_at "o"
          exact ⟨_, M, .drop2 hp, by rwa [e]⟩
        · exact absurd p1 p2
      · walk_at "h"
        refine brD (fun p2 => ?_) fun p2 => ?_
        · exact absurd p2 p1
        · walk_at "h"
          refine ⟨mset_same, ?_⟩
          walk_at "h"
          walk_at "o"
          obtain ⟨v, hv, e⟩ := two_leaf (L := (a + 2147483648) % 4294967296) (R := (b + 2147483648) % 4294967296) (vA := false) (vO := decide (0 < b)) ho h2.1 h2.2 hz hz' hw hw' (fun _ => ⟨rfl, rfl⟩) (by simp [p1]) (by simp [p1])
          generalize hK : mergeD [] _ = K
          rw [show mergeD [] (kvs14 _ _ _ _ _ _) = K from hK] at hv
          rw [mset_same]
          walk_at "h"
          rw [hv]
          walk_at "h"
          walk_at "o"
          exact ⟨_, M, .drop2 hp, by rwa [e]⟩
    · have hc' : ¬ (o = "~<" ∨ o = "~<=") := by simpa using hc
      walk_at "h"
      intro p hp
      walk_at "h"
      walk_at "o"
      refine brD (fun p1 => ?_) fun p1 => ?_
      · walk_at "h"
        refine brD (fun p2 => ?_) fun p2 => ?_
        · walk_at "h"
          refine ⟨mset_same, ?_⟩
          walk_at "h"
          walk_at "o"
          obtain ⟨v, hv, e⟩ := two_leaf (L := a) (R := b) (vA := decide (0 < b)) (vO := true) ho h2.1 h2.2 hz hz' hw hw' (fun z => absurd z hc') (by simp [p1]) (by simp [p1])
          generalize hK : mergeD [] _ = K
          rw [show mergeD [] (kvs14 _ _ _ _ _ _) = K from hK] at hv
          rw [mset_same]
          walk_at "h"
          rw [hv]
          walk_at "h"
          walk_at "o"
          exact ⟨_, M, .drop2 hp, by rwa [e]⟩
        · exact absurd p1 p2
      · walk_at "h"
        refine brD (fun p2 => ?_) fun p2 => ?_
        · exact absurd p2 p1
        · walk_at "h"
          refine ⟨mset_same, ?_⟩
          walk_at "h"
          walk_at "o"
          obtain ⟨v, hv, e⟩ := two_leaf (L := a) (R := b) (vA := false) (vO := decide (0 < b)) ho h2.1 h2.2 hz hz' hw hw' (fun z => absurd z hc') (by simp [p1]) (by simp [p1])
          generalize hK : mergeD [] _ = K
          rw [show mergeD [] (kvs14 _ _ _ _ _ _) = K from hK] at hv
          rw [mset_same]
          walk_at "h"
          rw [hv]
          walk_at "h"
          walk_at "o"
          exact ⟨_, M, .drop2 hp, by rwa [e]⟩
def spLen0 : DSp := fun _ _ _ _ => False
/-- the cells that a text knows -/
def WsOk (ws : Str → Option (List Int)) : Prop := ∀ s l, ws s = some l → l ≠ [] ∧ (∀ x ∈ l, Wd x) ∧ l.length ≤ sizeLine
inductive Xp where
  | num (n : Int) | cell (s : Str) | ix (s : Str) (e : Xp) | un (o : Str) (e : Xp) | bin (o : Str) (a b : Xp)
def Xp.toD : Xp → PyData
  | .num n => .tuple [.str "num", .int n]
  | .cell s => .tuple [.str "cell", .str s]
  | .ix s e => .tuple [.str "at", .str s, e.toD]
  | .un o e => .tuple [.str o, e.toD]
  | .bin o a b => .tuple [.str o, a.toD, b.toD]
def Xp.dep : Xp → Nat
  | .num _ => 1
  | .cell _ => 1
  | .ix _ e => e.dep + 1
  | .un _ e => e.dep + 1
  | .bin _ a b => max a.dep b.dep + 1
def uns : List Str := ["neg", "inv", "not"]
def Xp.ok (ws : Str → Option (List Int)) : Xp → Prop
  | .num n => Wd n
  | .cell s => ∃ l, ws s = some l
  | .ix s e => (∃ l, ws s = some l) ∧ e.ok ws
  | .un o e => o ∈ uns ∧ e.ok ws
  | .bin o a b => o ∈ signs ∧ a.ok ws ∧ b.ok ws
def cellV (ws : Str → Option (List Int)) (s : Str) (i : Int) : Int := match ws s with
  | some l => l.getD (i % l.length).toNat 0
  | none => 0
def Xp.val (ws : Str → Option (List Int)) : Xp → Int
  | .num n => n
  | .cell s => cellV ws s 0
  | .ix s e => cellV ws s (e.val ws)
  | .un o e => altF o (e.val ws)
  | .bin o a b => opF o (a.val ws) (b.val ws)
theorem cellV_word {ws s i l} (h : WsOk ws) (e : ws s = some l) : Wd (cellV ws s i) ∧ l[(i % l.length).toNat]? = some (cellV ws s i) := by
  obtain ⟨h1, h2, _⟩ := h s l e
  have hl : 0 < l.length := by cases l with
    | nil => exact absurd rfl h1
    | cons _ _ => simp
  have hi : (i % l.length).toNat < l.length := by
    have := Int.emod_lt_of_pos i (show (0 : Int) < l.length by omega)
    have := Int.emod_nonneg i (show (l.length : Int) ≠ 0 by omega)
    omega
  unfold cellV
  rw [e]
  dsimp only
  rw [List.getD_eq_getElem?_getD, List.getElem?_eq_getElem hi]
  exact ⟨h2 _ (List.getElem_mem hi), rfl⟩
theorem opF_word {o : Str} {a b : Int} (ha : Wd a) (hb : Wd b) : Wd (opF o a b) := by
  have h1 := band_word ha hb
  have h2 := or_word ha hb
  have h3 := xor_word ha hb
  have h4 : Wd (a / 2 ^ (b % 32).toNat) := by
    unfold Wd at *
    have hp : (0 : Int) < 2 ^ (b % 32).toNat := Int.pow_pos (by decide)
    refine ⟨Int.ediv_nonneg ha.1 (by omega), ?_⟩
    have := Int.ediv_le_self (2 ^ (b % 32).toNat) ha.1
    omega
  have h5 : b ≠ 0 → Wd (a / b) ∧ Wd (a % b) := fun hz => by
    unfold Wd at *
    have hp : 0 < b := by omega
    have := Int.emod_lt_of_pos a hp
    have := Int.emod_nonneg a hz
    have := Int.ediv_le_self b ha.1
    have := Int.ediv_nonneg ha.1 hb.1
    omega
  have hm : ∀ x : Int, Wd (x % 4294967296) := fun x => ⟨Int.emod_nonneg x (by decide), Int.emod_lt_of_pos x (by decide)⟩
  have h0 : Wd 0 := by unfold Wd; omega
  have h1' : Wd 1 := by unfold Wd; omega
  unfold opF
  repeat' split
  all_goals first | exact hm _ | exact h0 | exact h1' | exact ha | exact h1 | exact h2 | exact h3 | exact h4 | exact (h5 (by assumption)).1 | exact (h5 (by assumption)).2
theorem altF_word {o : Str} {a : Int} (ha : Wd a) : Wd (altF o a) := by
  unfold altF
  unfold Wd at *
  repeat' split
  all_goals omega
theorem Xp.word {ws} (h : WsOk ws) : ∀ {e : Xp}, e.ok ws → Wd (e.val ws)
  | .num _, k => k
  | .cell _, ⟨_, k⟩ => (cellV_word h k).1
  | .ix _ _, ⟨⟨_, k⟩, _⟩ => (cellV_word h k).1
  | .un _ e, ⟨_, k⟩ => altF_word (Xp.word h k)
  | .bin _ _ _, ⟨_, k, l⟩ => opF_word (Xp.word h k) (Xp.word h l)
def EnvOk (ws : Str → Option (List Int)) (kvs : List (L2.Key × DV)) : Prop := ∀ s l, ws s = some l → valD kvs (.inr s) = some (.d (.list (l.map PyData.int)))
end K11

set_option Elab.async false
set_option linter.all false
set_option maxRecDepth 100000
set_option maxHeartbeats 400000
namespace K11
open PySem DL
local macro_rules | `(tactic| walk_at "h") => `(tactic| conv => whnf)
local macro_rules | `(tactic| walk_at "o") => `(tactic| (refine ⟨by first | decide | omega | assumption | exact Nat.le_of_ble_eq_true rfl | exact mulOk_left (by omega) (by omega) | exact divOk_small (by omega) (by omega), ?_⟩; conv => whnf))
def spEval (d : Nat) : DSp := fun xs M Q Z => ∃ (ws : Str → Option (List Int)) (kvs : List (L2.Key × DV)) (e : Xp) (nm : Addr), xs = [.d e.toD, .ob nm] ∧ M nm = some (.dK kvs) ∧ WsOk ws ∧ EnvOk ws kvs ∧ e.ok ws ∧ e.dep ≤ d ∧ Q (.d (.int (e.val ws))) M
theorem signs_ne : ∀ o ∈ signs, ¬ o = "num" ∧ ¬ o = "cell" ∧ ¬ o = "at" ∧ o ∉ uns := by decide +kernel
theorem uns_ne : ∀ o ∈ uns, ¬ o = "num" ∧ ¬ o = "cell" ∧ ¬ o = "at" ∧ PyData.strOk o = true := by decide +kernel
theorem at_cell {ws s i l} (h : WsOk ws) (e : ws s = some l) : L2.atI (l.map PyData.int) (i % (l.length : Int)) = some (.int (cellV ws s i)) := by
  have hl : 0 < l.length := by
    obtain ⟨h1, _⟩ := h s l e
    cases l with
    | nil => exact absurd rfl h1
    | cons _ _ => simp
  refine at_nn (Int.emod_nonneg i (by omega)) ?_
  rw [List.getElem?_map, (cellV_word h e).2]
  rfl
theorem at_cell0 {ws s l} (h : WsOk ws) (e : ws s = some l) : L2.atI (l.map PyData.int) 0 = some (.int (cellV ws s 0)) := by
  have := at_cell (i := 0) h e
  rwa [Int.zero_emod] at this
theorem r_eval (d xs M Q Z) (h : spEval (d + 1) xs M Q Z) : w_evaluate spComb (spEval d) spAlter (retD Q) (envD 5 xs Z) M := by
  obtain ⟨ws, kvs, e, nm, rfl, hm, hw, he, ok, hd, q⟩ := h
  unfold w_evaluate
  cases e with
  | num n =>
    walk_at "h"
    refine brT rfl ?_
    exact q
  | cell s =>
    obtain ⟨l, hl⟩ := ok
    walk_at "h"
    refine brF (by decide +kernel) ?_
    walk_at "h"
    refine brT rfl ?_
    walk_at "h"
    rw [hm]
    walk_at "h"
    rw [he s l hl]
    walk_at "h"
    rw [at_cell0 hw hl]
    exact q
  | ix s e =>
    obtain ⟨⟨l, hl⟩, ok⟩ := ok
    walk_at "h"
    refine brF (by decide +kernel) ?_
    walk_at "h"
    refine brF (by decide +kernel) ?_
    walk_at "h"
    refine brT rfl ?_
    walk_at "h"
    rw [hm]
    walk_at "h"
    rw [he s l hl]
    walk_at "h"
    refine ⟨ws, kvs, e, nm, rfl, hm, hw, he, ok, Nat.le_of_succ_le_succ hd, ?_⟩
    walk_at "h"
    have hp : 0 < l.length := by
      obtain ⟨h1, _⟩ := hw s l hl
      cases l with
      | nil => exact absurd rfl h1
      | cons _ _ => simp
    rw [List.length_map]
    refine ⟨by omega, ?_⟩
    walk_at "h"
    rw [at_cell hw hl]
    exact q
  | un o e =>
    obtain ⟨ho, ok⟩ := ok
    obtain ⟨n1, n2, n3, n4⟩ := uns_ne o ho
    walk_at "h"
    refine brF (decide_eq_false n1) ?_
    walk_at "h"
    refine brF (decide_eq_false n2) ?_
    walk_at "h"
    refine brF (decide_eq_false n3) ?_
    walk_at "h"
    walk_at "o"
    refine ⟨rfl, flat_strs ["neg", "inv", "not"], ?_⟩
    erw [any_str ["neg", "inv", "not"] o]
    walk_at "h"
    refine brT (decide_eq_true ho) ?_
    walk_at "h"
    refine ⟨ws, kvs, e, nm, rfl, hm, hw, he, ok, Nat.le_of_succ_le_succ hd, ?_⟩
    exact ⟨_, _, rfl, Xp.word hw ok, q⟩
  | bin o a b =>
    obtain ⟨ho, oka, okb⟩ := ok
    obtain ⟨n1, n2, n3, n4⟩ := signs_ne o ho
    have hd' : max a.dep b.dep ≤ d := Nat.le_of_succ_le_succ hd
    walk_at "h"
    refine brF (decide_eq_false n1) ?_
    walk_at "h"
    refine brF (decide_eq_false n2) ?_
    walk_at "h"
    refine brF (decide_eq_false n3) ?_
    walk_at "h"
    walk_at "o"
    refine ⟨rfl, flat_strs ["neg", "inv", "not"], ?_⟩
    erw [any_str ["neg", "inv", "not"] o]
    walk_at "h"
    refine brF (decide_eq_false n4) ?_
    walk_at "h"
    refine ⟨ws, kvs, a, nm, rfl, hm, hw, he, oka, by omega, ?_⟩
    walk_at "h"
    refine ⟨ws, kvs, b, nm, rfl, hm, hw, he, okb, by omega, ?_⟩
    exact ⟨_, _, _, rfl, Xp.word hw oka, Xp.word hw okb, q⟩
def kvs3 (v : Int) : List (L2.Key × DV) := [(.inr "neg", .d (.int ((0 - v) % 4294967296))), (.inr "inv", .d (.int (4294967295 - v))), (.inr "not", .d (.int (if decide (v = 0) then 1 else 0)))]
def K3 : List L2.Key := [.inr "neg", .inr "inv", .inr "not"]
theorem K3_nodup : K3.Nodup := by decide +kernel
theorem kvs3_get {v : Int} {o : Str} (i : Nat) {x : DV} (h : K3.findIdx? (fun q => decide (q = .inr o)) = some i) (e : ((kvs3 v).map (·.2))[i]? = some x) : valD (mergeD [] (kvs3 v)) (.inr o) = some x := by
  rw [mergeD_nil (more := kvs3 v) K3_nodup]
  exact valD_i (κ := L2.Key) h e
theorem alt_leaf {o : Str} {v : Int} (ho : o ∈ uns) : valD (mergeD [] (kvs3 v)) (.inr o) = some (.d (.int (altF o v))) := by
  unfold uns at ho
  simp only [List.mem_cons, List.mem_nil_iff, or_false] at ho
  rcases ho with rfl | rfl | rfl
  · exact kvs3_get 0 (by decide +kernel) rfl
  · exact kvs3_get 1 (by decide +kernel) rfl
  · rw [show altF "not" v = if decide (v = 0) = true then 1 else 0 from by unfold altF; rw [if_neg (by decide +kernel), if_neg (by decide +kernel)]; by_cases h : v = 0 <;> simp [h]]
    exact kvs3_get 2 (by decide +kernel) rfl
theorem r_value (d xs M Q Z) (h : spEval (d + 1) xs M Q Z) : w__law_value spTwo (spEval d) (retW Q) (envD 4 xs Z) M := by
  obtain ⟨ws, kvs, e, nm, rfl, hm, hw, he, ok, hd, q⟩ := h
  unfold w__law_value
  cases e with
  | num n =>
    walk_at "h"
    refine brT rfl ?_
    exact ⟨_, _, .refl _ _, q⟩
  | cell s =>
    obtain ⟨l, hl⟩ := ok
    walk_at "h"
    refine brF (by decide +kernel) ?_
    walk_at "h"
    refine brT rfl ?_
    walk_at "h"
    rw [hm]
    walk_at "h"
    rw [he s l hl]
    walk_at "h"
    rw [at_cell0 hw hl]
    exact ⟨_, _, .refl _ _, q⟩
  | ix s e =>
    obtain ⟨⟨l, hl⟩, ok⟩ := ok
    walk_at "h"
    refine brF (by decide +kernel) ?_
    walk_at "h"
    refine brF (by decide +kernel) ?_
    walk_at "h"
    refine brT rfl ?_
    walk_at "h"
    rw [hm]
    walk_at "h"
    rw [he s l hl]
    walk_at "h"
    refine ⟨ws, kvs, e, nm, rfl, hm, hw, he, ok, Nat.le_of_succ_le_succ hd, ?_⟩
    walk_at "h"
    have hp : 0 < l.length := by
      obtain ⟨h1, _⟩ := hw s l hl
      cases l with
      | nil => exact absurd rfl h1
      | cons _ _ => simp
    rw [List.length_map]
    refine ⟨by omega, ?_⟩
    walk_at "h"
    rw [at_cell hw hl]
    exact ⟨_, _, .refl _ _, q⟩
  | un o e =>
    obtain ⟨ho, ok⟩ := ok
    obtain ⟨n1, n2, n3, n4⟩ := uns_ne o ho
    walk_at "h"
    refine brF (decide_eq_false n1) ?_
    walk_at "h"
    refine brF (decide_eq_false n2) ?_
    walk_at "h"
    refine brF (decide_eq_false n3) ?_
    walk_at "h"
    refine ⟨ws, kvs, e, nm, rfl, hm, hw, he, ok, Nat.le_of_succ_le_succ hd, ?_⟩
    walk_at "h"
    walk_at "o"
    obtain ⟨s1, s2, s3⟩ := in_strs ["neg", "inv", "not"] n4 (by decide +kernel)
    refine ⟨s1, s2, ?_⟩
    erw [s3]
    walk_at "h"
    refine brT (decide_eq_true ho) ?_
    walk_at "h"
    intro p hp
    walk_at "h"
    walk_at "o"
    refine ⟨mset_same, ?_⟩
    walk_at "h"
    walk_at "o"
    have hv := alt_leaf (v := e.val ws) ho
    generalize hK : mergeD [] _ = K
    rw [show mergeD [] (kvs3 _) = K from hK] at hv
    rw [mset_same]
    walk_at "h"
    rw [hv]
    walk_at "h"
    exact ⟨_, M, .drop2 hp, q⟩
  | bin o a b =>
    obtain ⟨ho, oka, okb⟩ := ok
    obtain ⟨n1, n2, n3, n4⟩ := signs_ne o ho
    have hd' : max a.dep b.dep ≤ d := Nat.le_of_succ_le_succ hd
    walk_at "h"
    refine brF (decide_eq_false n1) ?_
    walk_at "h"
    refine brF (decide_eq_false n2) ?_
    walk_at "h"
    refine brF (decide_eq_false n3) ?_
    walk_at "h"
    refine ⟨ws, kvs, a, nm, rfl, hm, hw, he, oka, by omega, ?_⟩
    walk_at "h"
    walk_at "o"
    obtain ⟨s1, s2, s3⟩ := in_strs ["neg", "inv", "not"] (signs_ok o ho) (by decide +kernel)
    refine ⟨s1, s2, ?_⟩
    erw [s3]
    walk_at "h"
    refine brF (decide_eq_false n4) ?_
    walk_at "h"
    refine ⟨ws, kvs, b, nm, rfl, hm, hw, he, okb, by omega, ?_⟩
    exact ⟨_, _, _, rfl, ho, Xp.word hw oka, Xp.word hw okb, _, _, .refl _ _, q⟩
end K11

set_option Elab.async false
set_option linter.all false
set_option maxRecDepth 100000
set_option maxHeartbeats 400000
namespace K11
open PySem DL
local macro_rules | `(tactic| walk_at "h") => `(tactic| conv => whnf)
local macro_rules | `(tactic| walk_at "o") => `(tactic| (refine ⟨by first | decide | omega | assumption | exact Nat.le_of_ble_eq_true rfl | exact mulOk_left (by omega) (by omega) | exact divOk_small (by omega) (by omega), ?_⟩; conv => whnf))
theorem r_draw (xs M Q Z) (h : spDrawC xs M Q Z) : w__law_draw (retD Q) (envD 5 xs Z) M := by
  obtain ⟨st, c, n, rfl, ⟨s, ns, h1, h2, h3, h4, h5⟩, hn, hn', q⟩ := h
  have hsc : st ≠ c := fun z => by
    subst z; rw [h1] at h2
    cases ns with
    | nil => cases h2
    | cons _ _ => cases h2
  unfold w__law_draw
  walk_at "h"
  rw [h1]
  walk_at "h"
  refine ⟨fun m de M' => de = ⟨[some (.ob st), some (.d (.int n)), some (.ob c), none, none], fun C fs _ M' => Z C fs M'⟩ ∧ ∃ ns : List Int, ns.length = m ∧ M' st = some (.lst [.ob c, .d (.int s)]) ∧ M' c = some (.lst (ns.map fun n => .d (.int n))) ∧ (∀ n ∈ ns, 0 ≤ n) ∧ ∀ a, a ≠ st → a ≠ c → M' a = M a,
    ⟨_, rfl, ns, rfl, h1, h2, h5, fun _ _ _ => rfl⟩, ?_⟩
  rintro m de M' ⟨rfl, ns, rfl, k1, k2, k3, k4⟩
  walk_at "h"
  rw [k2]
  walk_at "h"
  cases ns with
  | nil =>
    refine brF rfl ?_
    walk_at "h"
    refine brF rfl ?_
    walk_at "h"
    rw [k2]
    walk_at "h"
    refine brF rfl ?_
    walk_at "h"
    rw [k1]
    walk_at "h"
    walk_at "o"
    walk_at "o"
    rw [k1]
    walk_at "h"
    walk_at "o"
    walk_at "o"
    have e0 : ∀ x : Int, 0 ≤ x % 2147483647 ∧ x % 2147483647 < 2147483647 := fun x => ⟨Int.emod_nonneg x (by decide), Int.emod_lt_of_pos x (by decide)⟩
    refine q _ _ (Int.emod_nonneg _ (by omega)) (Int.emod_lt_of_pos _ hn) ⟨_, [], mset_same, ?_, (e0 _).1, ?_, k3⟩ fun a ha hc => ?_
    · rw [mset_ne hsc.symm]; exact k2
    · have := (e0 (s * 48271 + 12345)).2
      omega
    · rw [mset_ne ha]; exact k4 a ha hc
  | cons x r =>
    have hx : 0 ≤ x := k3 x (by simp)
    rw [List.map_cons] at k2
    refine brT (decide_eq_true (by simp only [List.map_cons, List.length_cons]; omega)) ?_
    walk_at "h"
    rw [k2]
    walk_at "h"
    rw [at_0]
    walk_at "h"
    refine brD (fun hz => ?_) fun hz => ?_
    · walk_at "h"
      refine ⟨isLst_of k2, ?_⟩
      walk_at "h"
      rw [k2]
      walk_at "h"
      refine ⟨by decide, ?_⟩
      rw [seq_0]
      walk_at "h"
      refine ⟨r.length, Nat.lt_succ_self _, rfl, r, rfl, ?_, mset_same, fun y hy => k3 y (by simp [hy]), fun a ha hc => ?_⟩
      · rw [mset_ne hsc]; exact k1
      · rw [mset_ne hc]; exact k4 a ha hc
    · walk_at "h"
      rw [k2]
      walk_at "h"
      refine brT (decide_eq_true (by simp only [List.length_cons]; omega)) ?_
      walk_at "h"
      rw [k2]
      walk_at "h"
      rw [at_0]
      walk_at "h"
      walk_at "o"
      rw [k2]
      walk_at "h"
      rw [ix_0]
      walk_at "h"
      walk_at "o"
      refine q _ _ (Int.emod_nonneg _ (by omega)) (Int.emod_lt_of_pos _ hn) ⟨_, (x / n) :: r, ?_, mset_same, h3, h4, ?_⟩ fun a ha hc => ?_
      · rw [mset_ne hsc]; exact k1
      · intro y hy
        rcases List.mem_cons.mp hy with rfl | hy
        · exact Int.ediv_nonneg hx (by omega)
        · exact k3 y (by simp [hy])
      · rw [mset_ne hc]; exact k4 a ha hc
end K11

set_option Elab.async false
set_option linter.all false
set_option maxRecDepth 100000
set_option maxHeartbeats 400000
set_option pp.maxSteps 600
namespace K11
open PySem DL
local macro_rules | `(tactic| walk_at "h") => `(tactic| conv => whnf)
local macro_rules | `(tactic| walk_at "o") => `(tactic| (refine ⟨by first | decide | omega | assumption | exact Nat.le_of_ble_eq_true rfl | exact mulOk_left (by omega) (by omega) | exact divOk_small (by omega) (by omega), ?_⟩; conv => whnf))
def spPick : DSp := fun xs M Q Z => ∃ (st : Addr) (l : List PyData), xs = [.ob st, .d (.list l)] ∧ IsGen M st ∧ l ≠ [] ∧ l.length ≤ sizeLine ∧ ∀ x ∈ l, Q (.d x) M
theorem r_pick (xs M Q Z) (h : spPick xs M Q Z) : w__law_pick spDraw (retD Q) (envD 2 xs Z) M := by
  obtain ⟨st, l, rfl, g, hl, hb, q⟩ := h
  have h0 : 0 < l.length := by cases l with
    | nil => exact absurd rfl hl
    | cons _ _ => simp
  have hs : sizeLine < 2 ^ 40 := by decide
  unfold w__law_pick
  walk_at "h"
  refine ⟨st, _, rfl, g, by omega, by omega, fun r hr hr' => ?_⟩
  walk_at "h"
  have hi : r.toNat < l.length := by omega
  rw [at_nn hr (List.getElem?_eq_getElem hi)]
  exact q _ (List.getElem_mem hi)
def spWord : DSp := fun xs M Q Z => ∃ (st : Addr), xs = [.ob st] ∧ IsGen M st ∧ ∀ n, Wd n → Q (.d (.int n)) M
theorem r_word (xs M Q Z) (h : spWord xs M Q Z) : w__law_word spDraw spPick (retD Q) (envD 2 xs Z) M := by
  obtain ⟨st, rfl, g, q⟩ := h
  unfold w__law_word
  walk_at "h"
  walk_at "o"
  refine ⟨st, _, rfl, g, by decide, by decide, fun r hr hr' => ?_⟩
  walk_at "h"
  refine brD (fun hz => ?_) fun hz => ?_
  · walk_at "h"
    refine ⟨st, _, rfl, g, List.cons_ne_nil _ _, Nat.le_of_ble_eq_true rfl, fun x hx => ?_⟩
    simp only [List.mem_cons, List.mem_nil_iff, or_false] at hx
    rcases hx with rfl | rfl | rfl | rfl | rfl | rfl | rfl | rfl <;> exact q _ (by unfold Wd; omega)
  · walk_at "h"
    walk_at "o"
    refine ⟨st, _, rfl, g, List.cons_ne_nil _ _, Nat.le_of_ble_eq_true rfl, fun x hx => ?_⟩
    simp only [List.mem_cons, List.mem_nil_iff, or_false] at hx
    rcases hx with rfl | rfl
    · exact ⟨st, _, rfl, g, by decide, by decide, fun r hr hr' => q _ (by unfold Wd; omega)⟩
    · exact ⟨st, _, rfl, g, by decide, by decide, fun r hr hr' => q _ (by unfold Wd; omega)⟩
def spState : DSp := fun xs M Q Z => ∃ ns : List Int, xs = [.k (.list (ns.map PyData.int))] ∧ ns.length ≤ 63 ∧ ∀ st c, M st = none → M c = none → st ≠ c → Q (.ob st) (mset (mset M c (some .genB)) st (some (.genA c)))
theorem r_state (xs M Q Z) (h : spState xs M Q Z) : w__law_state (retW Q) (envD 3 xs Z) M := by
  obtain ⟨ns, rfl, hb, q⟩ := h
  unfold w__law_state
  walk_at "h"
  have hk : List.map kEl (List.map PyData.int ns) = ns.map fun n => DV.d (.int n) := by rw [List.map_map]; rfl
  rw [hk]
  refine ⟨fun i de M' => M = M' ∧ ∃ (s : Int) (o : Option DV), de = ⟨[some (.k (.list (ns.map PyData.int))), some (.d (.int s)), o], fun C fs _ M' => Z C fs M'⟩ ∧ 0 ≤ s ∧ s < 1000003, ⟨rfl, 7, none, rfl, by decide, by decide⟩, fun _ _ _ _ _ => trivial, ?_, ?_⟩
  · rintro i x de _ hx ⟨rfl, s, o, rfl, h1, h2⟩
    rw [List.getElem?_map] at hx
    obtain ⟨n, hn, rfl⟩ := Option.map_eq_some_iff.mp hx
    walk_at "h"
    walk_at "o"
    walk_at "o"
    exact ⟨rfl, _, _, rfl, Int.emod_nonneg _ (by decide), Int.emod_lt_of_pos _ (by decide)⟩
  · rintro de _ ⟨rfl, s, o, rfl, h1, h2⟩
    walk_at "h"
    rw [hk]
    intro D hD
    refine ⟨lcI M D fun i acc => ∃ ms : List Int, acc = ms.map (fun n => DV.d (.int n)) ∧ ∀ n ∈ ms, 0 ≤ n, ⟨rfl, Nat.le_refl 0, [], rfl, fun _ h => by cases h⟩, lc_ok fun _ => trivial, by rw [List.length_map]; exact Nat.lt_of_le_of_lt hb (by decide), ?_, ?_⟩
    · rintro i x acc _ hx ⟨rfl, hl, ms, rfl, hm⟩
      rw [List.getElem?_map] at hx
      obtain ⟨n, hn, rfl⟩ := Option.map_eq_some_iff.mp hx
      walk_at "h"
      refine brT rfl ?_
      walk_at "h"
      refine lc_leaf (R := fun i acc => ∃ ms : List Int, acc = ms.map (fun n => DV.d (.int n)) ∧ ∀ n ∈ ms, 0 ≤ n) hl ⟨ms ++ [if n < 0 then -n else n], by simp, ?_⟩
      intro y hy
      rcases List.mem_append.mp hy with hy | hy
      · exact hm y hy
      · rw [List.mem_singleton] at hy
        subst hy
        split <;> omega
    · rintro acc _ ⟨rfl, hl, ms, rfl, hm⟩
      walk_at "h"
      walk_at "o"
      intro st hst
      have hst' : st ≠ D := fun z => by subst z; rw [mset_same] at hst; cases hst
      rw [mset_ne hst'] at hst
      refine ⟨_, _, .gen (st := st) (c := D) (s := s + 1) (ns := ms) mset_same (by rw [mset_ne hst'.symm, mset_same]) (by omega) (by omega) hm _, ?_⟩
      have e : mset (mset (mset (mset M D (some (.lst (ms.map fun n => DV.d (.int n))))) st (some (.lst [.ob D, .d (.int (s + 1))]))) D (some .genB)) st (some (.genA D)) = mset (mset M D (some .genB)) st (some (.genA D)) := by
        funext a
        by_cases y : a = st
        · subst y; rw [mset_same, mset_same]
        · by_cases y' : a = D
          · subst y'; rw [mset_ne y, mset_ne y, mset_same, mset_same]
          · rw [mset_ne y, mset_ne y', mset_ne y, mset_ne y', mset_ne y, mset_ne y']
      rw [e]
      exact q st D hst hD hst'
/-- what the text of an expression knows of the cells -/
def envD5 (cs : List (Str × Int)) : PyData := .list [.list (cs.map fun c => .tuple [.str c.1, .int c.2]), .list [], .list [], .list [], .int 0]
def CsOk (ws : Str → Option (List Int)) (cs : List (Str × Int)) : Prop := (∀ c ∈ cs, ∃ l, ws c.1 = some l) ∧ cs.length ≤ 100
def spExpr (D : Nat) : DSp := fun xs M Q Z => ∃ (d : Nat) (ws : Str → Option (List Int)) (cs : List (Str × Int)) (st : Addr), d ≤ D ∧ xs = [.ob st, .d (envD5 cs), .d (.int d)] ∧ IsGen M st ∧ CsOk ws cs ∧ 1 ≤ d ∧ ∀ e : Xp, e.ok ws → e.dep ≤ d → Q (.d e.toD) M
/-- what the comprehensions over the cells hold -/
def NamesR (cs : List (Str × Int)) (f : Str → PyData) : Nat → List DV → Prop := fun i acc => ∃ ns : List Str, acc = (ns.map f).map DV.d ∧ ns.length ≤ i ∧ ∀ n ∈ ns, ∃ c ∈ cs, c.1 = n
theorem NamesR.nil {cs f} : NamesR cs f 0 [] := ⟨[], rfl, Nat.le_refl 0, fun _ h => by cases h⟩
theorem NamesR.snoc {cs f i acc} (h : NamesR cs f i acc) {c : Str × Int} (hc : c ∈ cs) : NamesR cs f (i + 1) (acc ++ [.d (f c.1)]) := by
  obtain ⟨ns, rfl, h1, h2⟩ := h
  refine ⟨ns ++ [c.1], by simp, by simp; exact h1, fun n hn => ?_⟩
  rcases List.mem_append.mp hn with hn | hn
  · exact h2 n hn
  · rw [List.mem_singleton] at hn
    exact ⟨c, hc, hn.symm⟩
theorem NamesR.skip {cs f i acc} (h : NamesR cs f i acc) : NamesR cs f (i + 1) acc := by
  obtain ⟨ns, rfl, h1, h2⟩ := h
  exact ⟨ns, rfl, by omega, h2⟩
theorem cells_at {cs : List (Str × Int)} {i : Nat} {x : DV} (h : (List.map DV.d (cs.map fun c => PyData.tuple [.str c.1, .int c.2]))[i]? = some x) : ∃ c ∈ cs, x = .d (.tuple [.str c.1, .int c.2]) := by
  rw [List.map_map, List.getElem?_map] at h
  obtain ⟨c, hc, rfl⟩ := Option.map_eq_some_iff.mp h
  exact ⟨c, List.mem_of_getElem? hc, rfl⟩
theorem r_expr (D xs M Q Z) (h : spExpr (D + 1) xs M Q Z) : w__law_expr spPick (spExpr D) spDraw spWord (retD Q) (envD 9 xs Z) M := by
  obtain ⟨d0, ws, cs, st, hD, rfl, g, ⟨hc, hcl⟩, hd, q⟩ := h
  obtain ⟨d, rfl⟩ : ∃ d, d0 = d + 1 := ⟨d0 - 1, by omega⟩
  have h100 : 100 < sizeLine := by decide
  unfold w__law_expr
  walk_at "h"
  walk_at "o"
  refine ⟨st, _, rfl, g, by decide, by decide, fun r hr hr' => ?_⟩
  walk_at "h"
  refine orBr (fun _ => ?_) fun h1 h2 => ?_
  · walk_at "h"
    intro D hD
    refine ⟨lcI M D (NamesR cs fun n => .tuple [.str "cell", .str n]), ⟨rfl, Nat.le_refl 0, NamesR.nil⟩, lc_ok fun _ => trivial, by rw [List.length_map, List.length_map]; exact Nat.lt_of_le_of_lt hcl (by decide), ?_, ?_⟩
    · rintro i x acc _ hx ⟨rfl, hl, ms⟩
      obtain ⟨c, hc', rfl⟩ := cells_at hx
      walk_at "h"
      refine brB (fun _ => ?_) fun _ => ?_
      · walk_at "h"
        walk_at "o"
        exact lc_leaf (R := NamesR cs fun n => .tuple [.str "cell", .str n]) hl (ms.snoc hc')
      · exact lc_skip (R := NamesR cs fun n => .tuple [.str "cell", .str n]) hl ms.skip
    rintro acc _ ⟨rfl, hl, ns, rfl, hns, hin⟩
    walk_at "h"
    rw [frz_map]
    walk_at "h"
    rw [mset_mset, mset_none hD]
    intro D' hD'
    refine ⟨lcI M D' (fun i acc => acc = []), ⟨rfl, Nat.le_refl 0, rfl⟩, lc_ok fun _ => trivial, by decide, fun i x acc M hx => by simp at hx, ?_⟩
    rintro acc _ ⟨rfl, hl, rfl⟩
    walk_at "h"
    rw [mset_mset, mset_none hD']
    rw [List.length_map, List.length_map] at hns
    refine ⟨by simp; omega, ?_⟩
    rw [List.append_nil]
    walk_at "h"
    refine brD (fun hz => ?_) fun hz => ?_
    · walk_at "h"
      refine brT rfl ?_
      walk_at "h"
      refine ⟨st, rfl, g, fun n hn => ?_⟩
      walk_at "h"
      walk_at "o"
      exact q (.num n) hn (by show 1 ≤ d + 1; omega)
    · walk_at "h"
      refine ⟨st, _, rfl, g, by decide, by decide, fun r2 hr2 hr2' => ?_⟩
      walk_at "h"
      refine brD (fun hz2 => ?_) fun hz2 => ?_
      · walk_at "h"
        refine ⟨st, rfl, g, fun n hn => ?_⟩
        walk_at "h"
        walk_at "o"
        exact q (.num n) hn (by show 1 ≤ d + 1; omega)
      · walk_at "h"
        refine ⟨st, _, rfl, g, fun z => hz (by rw [z]; rfl), by rw [List.length_map]; omega, fun x hx => ?_⟩
        obtain ⟨nm, hnm, rfl⟩ := List.mem_map.mp hx
        obtain ⟨c, hc1, rfl⟩ := hin nm hnm
        exact q (.cell c.1) (hc c hc1) (by show 1 ≤ d + 1; omega)
  · have hd1 : 1 ≤ d := by
      have := of_decide_eq_false h1
      omega
    have hm1 : ((d + 1 : Nat) : Int) - 1 = (d : Int) := by omega
    walk_at "h"
    intro D hD
    refine ⟨lcI M D (NamesR cs fun n => .str n), ⟨rfl, Nat.le_refl 0, NamesR.nil⟩, lc_ok fun _ => trivial, by rw [List.length_map, List.length_map]; exact Nat.lt_of_le_of_lt hcl (by decide), ?_, ?_⟩
    · rintro i x acc _ hx ⟨rfl, hl, ms⟩
      obtain ⟨c, hc', rfl⟩ := cells_at hx
      walk_at "h"
      refine brB (fun _ => ?_) fun _ => ?_
      · exact lc_leaf (R := NamesR cs fun n => .str n) hl (ms.snoc hc')
      · exact lc_skip (R := NamesR cs fun n => .str n) hl ms.skip
    rintro acc _ ⟨rfl, hl, ns, rfl, hns, hin⟩
    walk_at "h"
    rw [frz_map]
    walk_at "h"
    rw [mset_mset, mset_none hD]
    rw [List.length_map, List.length_map] at hns
    refine andBr (c2 := decide (0 < ((ns.map PyData.str).length : Int))) (fun k1 k2 => ?_) fun _ => ?_
    · walk_at "h"
      have k3 := of_decide_eq_true k2
      refine ⟨st, _, rfl, g, fun z => (by rw [z] at k3; simp at k3), by rw [List.length_map]; omega, fun x hx => ?_⟩
      obtain ⟨nm, hnm, rfl⟩ := List.mem_map.mp hx
      obtain ⟨c, hc1, rfl⟩ := hin nm hnm
      walk_at "h"
      rw [hm1]
      refine ⟨d, ws, cs, st, by omega, rfl, g, ⟨hc, hcl⟩, hd1, fun e he hde => ?_⟩
      walk_at "h"
      walk_at "o"
      exact q (.ix c.1 e) ⟨hc c hc1, he⟩ (Nat.succ_le_succ hde)
    · walk_at "h"
      refine brD (fun k3 => ?_) fun k3 => ?_
      · walk_at "h"
        walk_at "o"
        refine ⟨st, _, rfl, g, List.cons_ne_nil _ _, Nat.le_of_ble_eq_true rfl, fun x hx => ?_⟩
        have hx' : ∃ o ∈ uns, x = .str o := by
          simp only [List.mem_cons, List.mem_nil_iff, or_false] at hx
          rcases hx with rfl | rfl | rfl
          · exact ⟨"neg", by decide +kernel, rfl⟩
          · exact ⟨"inv", by decide +kernel, rfl⟩
          · exact ⟨"not", by decide +kernel, rfl⟩
        obtain ⟨o, ho, rfl⟩ := hx'
        walk_at "h"
        rw [hm1]
        refine ⟨d, ws, cs, st, by omega, rfl, g, ⟨hc, hcl⟩, hd1, fun e he hde => ?_⟩
        walk_at "h"
        walk_at "o"
        exact q (.un o e) ⟨ho, he⟩ (Nat.succ_le_succ hde)
      · walk_at "h"
        rw [hm1]
        refine ⟨d, ws, cs, st, by omega, rfl, g, ⟨hc, hcl⟩, hd1, fun e1 he1 hde1 => ?_⟩
        walk_at "h"
        refine ⟨st, signs.map PyData.str, rfl, g, List.cons_ne_nil _ _, Nat.le_of_ble_eq_true rfl, fun x hx => ?_⟩
        obtain ⟨o, ho, rfl⟩ := List.mem_map.mp hx
        walk_at "h"
        rw [hm1]
        refine ⟨d, ws, cs, st, by omega, rfl, g, ⟨hc, hcl⟩, hd1, fun e2 he2 hde2 => ?_⟩
        walk_at "h"
        walk_at "o"
        exact q (.bin o e1 e2) ⟨ho, he1, he2⟩ (Nat.succ_le_succ (by omega))
end K11

set_option Elab.async false
set_option linter.all false
set_option maxRecDepth 100000
set_option maxHeartbeats 400000
set_option pp.maxSteps 1500
namespace K11
open PySem DL
local macro_rules | `(tactic| walk_at "h") => `(tactic| conv => whnf)
local macro_rules | `(tactic| walk_at "o") => `(tactic| (refine ⟨by first | decide | omega | assumption | exact Nat.le_of_ble_eq_true rfl | exact mulOk_left (by omega) (by omega) | exact divOk_small (by omega) (by omega), ?_⟩; conv => whnf))
theorem gen_put {M : DM} {st D : Addr} {o : Option MO} (g : IsGen M st) (h1 : ∀ c, M D ≠ some (.genA c)) (h2 : M D ≠ some .genB) : IsGen (mset M D o) st := by
  obtain ⟨c, hst, hc⟩ := g
  have n1 : st ≠ D := fun z => by subst z; exact h1 _ hst
  have n2 : c ≠ D := fun z => by subst z; exact h2 hc
  exact ⟨c, by rw [mset_ne n1]; exact hst, by rw [mset_ne n2]; exact hc⟩
theorem gen_new {M : DM} {st D : Addr} {o : Option MO} (g : IsGen M st) (h : M D = none) : IsGen (mset M D o) st := gen_put g (fun c z => by rw [h] at z; cases z) (by rw [h]; intro z; cases z)
/-- the cells with their words -/
def kvsOf (wl : List (Str × List Int)) : List (L2.Key × DV) := wl.map fun p => (.inr p.1, .d (.list (p.2.map PyData.int)))
def wsOf (wl : List (Str × List Int)) : Str → Option (List Int) := fun s => (wl.find? fun p => decide (p.1 = s)).map (·.2)
def WlOk (wl : List (Str × List Int)) : Prop := ∀ p ∈ wl, p.2 ≠ [] ∧ (∀ x ∈ p.2, Wd x) ∧ p.2.length ≤ 64
theorem wsOf_mem {wl s l} (h : wsOf wl s = some l) : ∃ p ∈ wl, p.1 = s ∧ p.2 = l := by
  unfold wsOf at h
  obtain ⟨p, hp, rfl⟩ := Option.map_eq_some_iff.mp h
  have := List.find?_some hp
  exact ⟨p, List.mem_of_find?_eq_some hp, by simpa using this, rfl⟩
theorem WlOk.ws {wl} (h : WlOk wl) : WsOk (wsOf wl) := fun s l e => by
  obtain ⟨p, hp, rfl, rfl⟩ := wsOf_mem e
  obtain ⟨h1, h2, h3⟩ := h p hp
  exact ⟨h1, h2, Nat.le_trans h3 (by decide)⟩
theorem wl_env (wl : List (Str × List Int)) : EnvOk (wsOf wl) (kvsOf wl) := by
  intro s l e
  induction wl with
  | nil => cases e
  | cons p r ih =>
    unfold wsOf at e
    unfold kvsOf valD
    rw [List.map_cons, List.find?_cons]
    rw [List.find?_cons] at e
    by_cases z : p.1 = s
    · rw [decide_eq_true z] at e
      cases e
      rw [decide_eq_true (by rw [z])]
      rfl
    · rw [decide_eq_false z] at e
      rw [decide_eq_false (fun y => z (Sum.inr.inj y))]
      exact ih e
theorem wsOf_some {wl : List (Str × List Int)} {s : Str} (h : s ∈ wl.map (·.1)) : ∃ l, wsOf wl s = some l := by
  unfold wsOf
  cases e : wl.find? fun p => decide (p.1 = s) with
  | some p => exact ⟨p.2, rfl⟩
  | none =>
    obtain ⟨p, hp, rfl⟩ := List.mem_map.mp h
    have := List.find?_eq_none.mp e p hp
    simp at this
theorem okRs_words : ∀ l : List Int, (∀ x ∈ l, Wd x) → okRs (l.map PyData.int) = true ∧ szRs (l.map PyData.int) = 22 * l.length ∧ PyData.depthAll (l.map PyData.int) ≤ 1
  | [], _ => by rw [List.map_nil, okRs, szRs, PyData.depthAll]; exact ⟨rfl, rfl, by decide⟩
  | x :: r, h => by
    obtain ⟨h1, h2, h3⟩ := okRs_words r fun y hy => h y (List.mem_cons_of_mem _ hy)
    have hx := h x List.mem_cons_self
    unfold Wd at hx
    rw [List.map_cons, okRs, szRs, h1, h2, okR, szR, PyData.depthAll, PyData.depth, List.length_cons, Bool.and_true]
    exact ⟨decide_eq_true (by omega), by omega, by omega⟩
/-- the cells' text is of these data -/
def namesD (wl : List (Str × List Int)) : PyData := .dict (wl.map fun p => (.str p.1, .list (p.2.map PyData.int)))
theorem rep_names {M : DM} {p : Addr} {wl : List (Str × List Int)} (h : M p = some (.dK (kvsOf wl))) : repD M (.ob p) = some (namesD wl) := by
  have e : (kvsOf wl).map (fun q : L2.Key × DV => q.2) = (wl.map fun p => PyData.list (p.2.map PyData.int)).map DV.d := by
    unfold kvsOf
    rw [List.map_map, List.map_map]
    rfl
  have e2 : ((kvsOf wl).map fun q : L2.Key × DV => keyP q.1).zip (wl.map fun p => PyData.list (p.2.map PyData.int)) = wl.map fun p => (PyData.str p.1, PyData.list (p.2.map PyData.int)) := by
    unfold kvsOf
    rw [List.map_map, List.zip_map']
    rfl
  have k : ∀ o : Option MO, o = some (.dK (kvsOf wl)) → (match o with
    | some (.lst xs) => (match dats xs with
      | some ds => some (PyData.list ds)
      | none => none)
    | some (.dK kvs) => (match dats (kvs.map fun q : L2.Key × DV => q.2) with
      | some ds => some (PyData.dict ((kvs.map fun q : L2.Key × DV => keyP q.1).zip ds))
      | none => none)
    | _ => none) = some (namesD wl) := by
    rintro _ rfl
    dsimp only
    rw [e, dats_map]
    dsimp only
    rw [e2]
    rfl
  exact k _ h
theorem names_ok {wl : List (Str × List Int)} (h : WlOk wl) (hn : wl.map (·.1) = (["first", "row", "x", "y"] : List Str)) : (namesD wl).showable = true ∧ (namesD wl).shown.length ≤ sizeLine ∧ (namesD wl).depth ≤ 60 := by
  have key : ∀ (wl : List (Str × List Int)), WlOk wl → (∀ n ∈ wl.map (·.1), PyData.strOk n = true ∧ n.length ≤ 5) → okRk (wl.map fun p => (PyData.str p.1, PyData.list (p.2.map PyData.int))) = true ∧ szRk (wl.map fun p => (PyData.str p.1, PyData.list (p.2.map PyData.int))) ≤ 1500 * wl.length ∧ PyData.depthKv (wl.map fun p => (PyData.str p.1, PyData.list (p.2.map PyData.int))) ≤ 5 := by
    intro wl
    induction wl with
    | nil => intro _ _; rw [List.map_nil, okRk, szRk, PyData.depthKv]; exact ⟨rfl, by decide, by decide⟩
    | cons q r ih =>
      intro h hn
      obtain ⟨h1, h2, h3⟩ := ih (fun p hp => h p (List.mem_cons_of_mem _ hp)) fun n hn' => hn n (List.mem_cons_of_mem _ hn')
      obtain ⟨k1, k2, k3⟩ := h q List.mem_cons_self
      obtain ⟨w1, w2, w3⟩ := okRs_words q.2 k2
      obtain ⟨n1, n2⟩ := hn q.1 List.mem_cons_self
      rw [List.map_cons, okRk, szRk, h1, okR, n1, okR, w1, szR, szR, w2, PyData.depthKv, PyData.depth, PyData.depth, List.length_cons]
      exact ⟨rfl, by omega, by omega⟩
  obtain ⟨a, b, c⟩ := key wl h (by rw [hn]; decide +kernel)
  have hl : wl.length = 4 := by rw [← List.length_map (f := (·.1)), hn]; rfl
  have hs : 6002 ≤ sizeLine := by decide
  obtain ⟨z1, z2⟩ := shown_le (namesD wl) (by unfold namesD; rw [okR]; exact a)
  refine ⟨z2, ?_, ?_⟩
  · unfold namesD at z1 ⊢
    rw [szR] at z1
    omega
  · unfold namesD
    rw [PyData.depth]
    omega
def cells (r : Int) : List (Str × Int) := [("first", 0), ("row", 1 + r), ("x", 0), ("y", 2)]
theorem cells_one (r : Int) (h : 0 ≤ r) (h' : r < 64) {i : Nat} {c : Str × Int} (e : (cells r)[i]? = some c) : 0 ≤ c.2 ∧ c.2 ≤ 64 ∧ c.1 ∉ ((cells r).take i).map (·.1) ∧ ((cells r).take (i + 1)).map (·.1) = ((cells r).take i).map (·.1) ++ [c.1] := by
  rcases i with _ | _ | _ | _ | i
  · cases e; exact ⟨by decide, by decide, (fun z => by cases z), rfl⟩
  · cases e; exact ⟨by show 0 ≤ 1 + r; omega, by show 1 + r ≤ 64; omega, (by decide +kernel : (Str.ofString "row") ∉ ([Str.ofString "first"] : List Str)), rfl⟩
  · cases e; exact ⟨by decide, by decide, (by decide +kernel : (Str.ofString "x") ∉ ([Str.ofString "first", Str.ofString "row"] : List Str)), rfl⟩
  · cases e; exact ⟨by decide, by decide, (by decide +kernel : (Str.ofString "y") ∉ ([Str.ofString "first", Str.ofString "row", Str.ofString "x"] : List Str)), rfl⟩
  · cases e
theorem no_eval (xs : List DV) (M : DM) (Q : DQ) (Z : DXF) : ¬ spEval 0 xs M Q Z := by
  rintro ⟨_, _, e, _, _, _, _, _, _, h, _⟩
  cases e <;> simp [Xp.dep] at h
abbrev spLaw : DSp := spMain 63
theorem r_law (xs M Q Z) (h : spLaw xs M Q Z) : w_law (spEval 6) (spEval 6) (spExpr 6) spDraw spWord spState (retD Q) (envD 11 xs Z) M := by
  obtain ⟨ns, rfl, hb, q⟩ := h
  unfold w_law
  walk_at "h"
  refine ⟨ns, rfl, hb, fun st c hst hc hsc => ?_⟩
  have g : IsGen (mset (mset M c (some .genB)) st (some (.genA c))) st := ⟨c, mset_same, by rw [mset_ne hsc.symm, mset_same]⟩
  generalize hM : mset (mset M c (some .genB)) st (some (.genA c)) = M0 at g
  clear hM hst hc hsc
  walk_at "h"
  walk_at "o"
  refine ⟨st, _, rfl, g, by decide, by decide, fun r hr hr' => ?_⟩
  walk_at "h"
  walk_at "o"
  walk_at "o"
  walk_at "o"
  walk_at "o"
  intro p hp
  walk_at "h"
  have h64 : (100 : Nat) < sizeLine := by decide
  have gp : ∀ o : MO, IsGen (mset M0 p (some o)) st := fun o => gen_new g hp
  refine ⟨fun i de M' => ∃ (wl : List (Str × List Int)) (o6 o7 : Option DV), M' = mset M0 p (some (.dK (kvsOf wl))) ∧ WlOk wl ∧ wl.map (·.1) = ((cells r).take i).map (·.1) ∧
      de = ⟨[some (.k (.list (ns.map PyData.int))), some (.ob st), some (.d (.list ((cells r).map fun c => .tuple [.str c.1, .int c.2]))), some (.ob p), none, none, o6, o7, none, none, none], fun C fs _ M' => Z C fs M'⟩,
    ⟨[], none, none, rfl, fun _ h => (by cases h), rfl, rfl⟩, fun _ _ _ _ _ => trivial, ?_, ?_⟩
  · rintro i x de _ hx ⟨wl, o6, o7, rfl, hwl, hnm, rfl⟩
    have hx' : ((cells r).map fun c => DV.d (.tuple [.str c.1, .int c.2]))[i]? = some x := hx
    rw [List.getElem?_map] at hx'
    obtain ⟨c, hc, rfl⟩ := Option.map_eq_some_iff.mp hx'
    obtain ⟨hc1, hc2, hc3, hc4⟩ := cells_one r hr hr' hc
    walk_at "h"
    have hn : 1 ≤ (if c.2 > 1 then c.2 else 1) ∧ (if c.2 > 1 then c.2 else 1) ≤ 64 := by split <;> omega
    generalize (if c.2 > 1 then c.2 else 1) = n at hn
    refine ⟨by omega, by omega, fun D hD => ?_⟩
    have hpD : p ≠ D := fun z => by subst z; rw [mset_same] at hD; cases hD
    have gD : ∀ o : MO, IsGen (mset (mset M0 p (some (.dK (kvsOf wl)))) D (some o)) st := fun o => gen_new (gp _) hD
    refine ⟨lcI _ D fun i acc => ∃ ws : List Int, acc = (ws.map PyData.int).map DV.d ∧ ws.length = i ∧ ∀ w ∈ ws, Wd w, ⟨rfl, Nat.le_refl 0, [], rfl, rfl, fun _ h => by cases h⟩, lc_ok fun _ => trivial, by rw [List.length_map, List.length_range]; omega, ?_, ?_⟩
    · rintro j y acc _ hy ⟨rfl, hl, ws, rfl, hws, hww⟩
      walk_at "h"
      refine brT rfl ?_
      walk_at "h"
      refine ⟨st, rfl, gD _, fun v hv => ?_⟩
      refine lc_leaf (R := fun i acc => ∃ ws : List Int, acc = (ws.map PyData.int).map DV.d ∧ ws.length = i ∧ ∀ w ∈ ws, Wd w) hl ⟨ws ++ [v], by simp, by simp; exact hws, fun w hw => ?_⟩
      rcases List.mem_append.mp hw with hw | hw
      · exact hww w hw
      · rw [List.mem_singleton] at hw
        subst hw
        exact hv
    · rintro acc _ ⟨rfl, hl, ws, rfl, hws, hww⟩
      rw [List.length_map, List.length_range] at hws
      walk_at "h"
      rw [frz_map]
      walk_at "h"
      rw [mset_mset, mset_none hD, mset_same]
      walk_at "h"
      have hw0 : ws ≠ [] := by
        rintro rfl
        simp at hws
        omega
      have hw1 : ws.length ≤ 64 := by omega
      have hkl : (kvsOf wl).length ≤ 4 := by
        unfold kvsOf
        rw [List.length_map, ← List.length_map (f := (·.1)), hnm, List.length_map, List.length_take]
        exact Nat.min_le_right _ _
      refine ⟨by omega, wl ++ [(c.1, ws)], _, _, ?_, ?_, ?_, rfl⟩
      · rw [mset_mset, putD_new]
        · unfold kvsOf
          rw [List.map_append]
          rfl
        · unfold kvsOf
          rw [List.map_map]
          intro z
          obtain ⟨q, hq, e⟩ := List.mem_map.mp z
          have e' : q.1 = c.1 := Sum.inr.inj e
          refine hc3 ?_
          rw [← hnm, ← e']
          exact List.mem_map_of_mem hq
      · intro q hq
        rcases List.mem_append.mp hq with hq | hq
        · exact hwl q hq
        · rw [List.mem_singleton] at hq
          subst hq
          exact ⟨hw0, hww, hw1⟩
      · rw [List.map_append, hnm, hc4]
        rfl
  · rintro de _ ⟨wl, o6, o7, rfl, hwl, hnm, rfl⟩
    walk_at "h"
    rw [rep_names mset_same]
    walk_at "h"
    refine ⟨names_ok hwl hnm, ?_⟩
    walk_at "h"
    refine ⟨by decide, by decide, ?_⟩
    walk_at "h"
    have gw := gp (.dK (kvsOf wl))
    have gk : (mset M0 p (some (.dK (kvsOf wl)))) p = some (.dK (kvsOf wl)) := mset_same
    generalize mset M0 p (some (.dK (kvsOf wl))) = M1 at gw gk
    refine ⟨fun i de M' => M1 = M' ∧ ∃ o5 o8 o9 o10 : Option DV, de = ⟨[some (.k (.list (ns.map PyData.int))), some (.ob st), some (.d (.list ((cells r).map fun c => .tuple [.str c.1, .int c.2]))), some (.ob p), some (.d (.str (namesD wl).shown)), o5, o6, o7, o8, o9, o10], fun C fs _ M' => Z C fs M'⟩,
      ⟨rfl, _, _, _, _, rfl⟩, fun _ _ _ _ _ => trivial, ?_, ?_⟩
    · rintro i x de _ hx ⟨rfl, o5, o8, o9, o10, rfl⟩
      have csok : CsOk (wsOf wl) (cells r) := ⟨fun c hc => wsOf_some (by rw [hnm]; exact List.mem_map_of_mem hc), by show 4 ≤ 100; decide⟩
      walk_at "h"
      walk_at "o"
      walk_at "o"
      walk_at "o"
      walk_at "o"
      refine ⟨st, _, rfl, gw, by decide, by decide, fun r2 hr2 hr2' => ?_⟩
      walk_at "h"
      have e2 : 1 + r2 = (((1 + r2).toNat : Nat) : Int) := by omega
      rw [e2]
      refine ⟨(1 + r2).toNat, wsOf wl, cells r, st, by omega, rfl, gw, csok, by omega, fun e he hde => ?_⟩
      walk_at "h"
      refine ⟨wsOf wl, kvsOf wl, e, p, rfl, gk, hwl.ws, wl_env wl, he, by omega, ?_⟩
      walk_at "h"
      refine ⟨wsOf wl, kvsOf wl, e, p, rfl, gk, hwl.ws, wl_env wl, he, by omega, ?_⟩
      walk_at "h"
      refine ⟨true, by decide +kernel, ?_⟩
      walk_at "h"
      refine brF rfl ?_
      walk_at "h"
      refine ⟨false, by decide +kernel, ?_⟩
      walk_at "h"
      refine brF rfl ?_
      walk_at "h"
      refine brN (fun z => absurd rfl z) fun _ => ?_
      exact ⟨rfl, _, _, _, _, rfl⟩
    · rintro de _ ⟨rfl, o5, o8, o9, o10, rfl⟩
      walk_at "h"
      rw [rep_names gk]
      walk_at "h"
      refine ⟨names_ok hwl hnm, ?_⟩
      walk_at "h"
      rw [decide_eq_true rfl]
      exact q _
end K11

set_option Elab.async false
set_option linter.all false
set_option maxRecDepth 100000
set_option maxHeartbeats 4000000
/-! joined (printed by asm.py) -/
namespace K11
open PySem PySem.Spec PyProof.Rows L2 DL
def fa : List He.Fa := [.glo "_law_state", .glo "_law_draw", .glo "_law_pick", .glo "_law_word", .glo "_law_expr", .glo "_law_two", .glo "_law_value", .glo "wrap", .glo "_arithmetic", .glo "_bits", .glo "signed", .glo "_truth", .glo "combine", .glo "alter", .glo "evaluate", .glo "law", .free "abs", .free "int", .free "len", .free "repr", .free "range", .free "isinstance", .free "bool", .free "max", .int "MODULUS" (4294967296), .int "SIGN" (2147483648), .int "MASK" (4294967295)]
def fn : List He.DefD := [⟨("_law_state", none), "_law_state", "_law_state", defArgs s__law_state, defBody s__law_state, defScope s__law_state, [], []⟩, ⟨("_law_draw", none), "_law_draw", "_law_draw", defArgs s__law_draw, defBody s__law_draw, defScope s__law_draw, [], []⟩, ⟨("_law_pick", none), "_law_pick", "_law_pick", defArgs s__law_pick, defBody s__law_pick, defScope s__law_pick, [], []⟩, ⟨("_law_word", none), "_law_word", "_law_word", defArgs s__law_word, defBody s__law_word, defScope s__law_word, [], []⟩, ⟨("_law_expr", none), "_law_expr", "_law_expr", defArgs s__law_expr, defBody s__law_expr, defScope s__law_expr, [], []⟩, ⟨("_law_two", none), "_law_two", "_law_two", defArgs s__law_two, defBody s__law_two, defScope s__law_two, [], []⟩, ⟨("_law_value", none), "_law_value", "_law_value", defArgs s__law_value, defBody s__law_value, defScope s__law_value, [], []⟩, ⟨("wrap", none), "wrap", "wrap", defArgs s_wrap, defBody s_wrap, defScope s_wrap, [], []⟩, ⟨("_arithmetic", none), "_arithmetic", "_arithmetic", defArgs s__arithmetic, defBody s__arithmetic, defScope s__arithmetic, [], []⟩, ⟨("_bits", none), "_bits", "_bits", defArgs s__bits, defBody s__bits, defScope s__bits, [], []⟩, ⟨("signed", none), "signed", "signed", defArgs s_signed, defBody s_signed, defScope s_signed, [], []⟩, ⟨("_truth", none), "_truth", "_truth", defArgs s__truth, defBody s__truth, defScope s__truth, [], []⟩, ⟨("combine", none), "combine", "combine", defArgs s_combine, defBody s_combine, defScope s_combine, [], []⟩, ⟨("alter", none), "alter", "alter", defArgs s_alter, defBody s_alter, defScope s_alter, [], []⟩, ⟨("evaluate", none), "evaluate", "evaluate", defArgs s_evaluate, defBody s_evaluate, defScope s_evaluate, [], []⟩, ⟨("law", none), "law", "law", defArgs s_law, defBody s_law, defScope s_law, [], []⟩]
theorem facts {P : Program} {w : World} {K : PySem.W.Frag} {mg : Str → Option Value} {h : Heap} (X : K.In h) (G : h.Ns mainGlobals mg) (c : He.SaysD fa fn K) :
    ∃ fd : FuncData, (∀ (t : Shared) (u : Value), BindsTo t fd ⟨[u], []⟩ [("_law_script", u)]) ∧ ∀ base : Heap, K.In base → base.Ns mainGlobals mg → (∃ o, base.get? sysModules = some o) → At1 P w K mg base callerA (He.ga K "law") fd ["_law_script"] (LSp K (spMain 63)) := by
  obtain ⟨d__law_state, f__law_state⟩ := c.def_ 0 (d := ⟨("_law_state", none), "_law_state", "_law_state", defArgs s__law_state, defBody s__law_state, defScope s__law_state, [], []⟩) rfl
  have g__law_state : mg "_law_state" = some (.ref (He.ga K "_law_state")) := He.glo_ok X G (c.fact 0 (f := .glo "_law_state") rfl)
  have u__law_state : L2.Fun K "_law_state" "_law_state" s__law_state (He.ga K "_law_state") d__law_state := fun_of (st := s__law_state) f__law_state
  have b__law_state : Binds K d__law_state ["_law_script"] [] := FunD.bindsN f__law_state fun _ _ _ _ _ _ us hl => match us, hl with | [_], _ => rfl
  obtain ⟨d__law_draw, f__law_draw⟩ := c.def_ 1 (d := ⟨("_law_draw", none), "_law_draw", "_law_draw", defArgs s__law_draw, defBody s__law_draw, defScope s__law_draw, [], []⟩) rfl
  have g__law_draw : mg "_law_draw" = some (.ref (He.ga K "_law_draw")) := He.glo_ok X G (c.fact 1 (f := .glo "_law_draw") rfl)
  have u__law_draw : L2.Fun K "_law_draw" "_law_draw" s__law_draw (He.ga K "_law_draw") d__law_draw := fun_of (st := s__law_draw) f__law_draw
  have b__law_draw : Binds K d__law_draw ["_law_state_here", "_law_many"] [] := FunD.bindsN f__law_draw fun _ _ _ _ _ _ us hl => match us, hl with | [_, _], _ => rfl
  obtain ⟨d__law_pick, f__law_pick⟩ := c.def_ 2 (d := ⟨("_law_pick", none), "_law_pick", "_law_pick", defArgs s__law_pick, defBody s__law_pick, defScope s__law_pick, [], []⟩) rfl
  have g__law_pick : mg "_law_pick" = some (.ref (He.ga K "_law_pick")) := He.glo_ok X G (c.fact 2 (f := .glo "_law_pick") rfl)
  have u__law_pick : L2.Fun K "_law_pick" "_law_pick" s__law_pick (He.ga K "_law_pick") d__law_pick := fun_of (st := s__law_pick) f__law_pick
  have b__law_pick : Binds K d__law_pick ["_law_state_here", "_law_row"] [] := FunD.bindsN f__law_pick fun _ _ _ _ _ _ us hl => match us, hl with | [_, _], _ => rfl
  obtain ⟨d__law_word, f__law_word⟩ := c.def_ 3 (d := ⟨("_law_word", none), "_law_word", "_law_word", defArgs s__law_word, defBody s__law_word, defScope s__law_word, [], []⟩) rfl
  have g__law_word : mg "_law_word" = some (.ref (He.ga K "_law_word")) := He.glo_ok X G (c.fact 3 (f := .glo "_law_word") rfl)
  have u__law_word : L2.Fun K "_law_word" "_law_word" s__law_word (He.ga K "_law_word") d__law_word := fun_of (st := s__law_word) f__law_word
  have b__law_word : Binds K d__law_word ["_law_state_here"] [] := FunD.bindsN f__law_word fun _ _ _ _ _ _ us hl => match us, hl with | [_], _ => rfl
  obtain ⟨d__law_expr, f__law_expr⟩ := c.def_ 4 (d := ⟨("_law_expr", none), "_law_expr", "_law_expr", defArgs s__law_expr, defBody s__law_expr, defScope s__law_expr, [], []⟩) rfl
  have g__law_expr : mg "_law_expr" = some (.ref (He.ga K "_law_expr")) := He.glo_ok X G (c.fact 4 (f := .glo "_law_expr") rfl)
  have u__law_expr : L2.Fun K "_law_expr" "_law_expr" s__law_expr (He.ga K "_law_expr") d__law_expr := fun_of (st := s__law_expr) f__law_expr
  have b__law_expr : Binds K d__law_expr ["_law_state_here", "_law_env", "_law_deep"] [] := FunD.bindsN f__law_expr fun _ _ _ _ _ _ us hl => match us, hl with | [_, _, _], _ => rfl
  obtain ⟨d__law_two, f__law_two⟩ := c.def_ 5 (d := ⟨("_law_two", none), "_law_two", "_law_two", defArgs s__law_two, defBody s__law_two, defScope s__law_two, [], []⟩) rfl
  have g__law_two : mg "_law_two" = some (.ref (He.ga K "_law_two")) := He.glo_ok X G (c.fact 5 (f := .glo "_law_two") rfl)
  have u__law_two : L2.Fun K "_law_two" "_law_two" s__law_two (He.ga K "_law_two") d__law_two := fun_of (st := s__law_two) f__law_two
  have b__law_two : Binds K d__law_two ["_law_sign", "_law_a", "_law_b"] [] := FunD.bindsN f__law_two fun _ _ _ _ _ _ us hl => match us, hl with | [_, _, _], _ => rfl
  obtain ⟨d__law_value, f__law_value⟩ := c.def_ 6 (d := ⟨("_law_value", none), "_law_value", "_law_value", defArgs s__law_value, defBody s__law_value, defScope s__law_value, [], []⟩) rfl
  have g__law_value : mg "_law_value" = some (.ref (He.ga K "_law_value")) := He.glo_ok X G (c.fact 6 (f := .glo "_law_value") rfl)
  have u__law_value : L2.Fun K "_law_value" "_law_value" s__law_value (He.ga K "_law_value") d__law_value := fun_of (st := s__law_value) f__law_value
  have b__law_value : Binds K d__law_value ["_law_e", "_law_names"] [] := FunD.bindsN f__law_value fun _ _ _ _ _ _ us hl => match us, hl with | [_, _], _ => rfl
  obtain ⟨d_wrap, f_wrap⟩ := c.def_ 7 (d := ⟨("wrap", none), "wrap", "wrap", defArgs s_wrap, defBody s_wrap, defScope s_wrap, [], []⟩) rfl
  have g_wrap : mg "wrap" = some (.ref (He.ga K "wrap")) := He.glo_ok X G (c.fact 7 (f := .glo "wrap") rfl)
  have u_wrap : L2.Fun K "wrap" "wrap" s_wrap (He.ga K "wrap") d_wrap := fun_of (st := s_wrap) f_wrap
  have b_wrap : Binds K d_wrap ["n"] [] := FunD.bindsN f_wrap fun _ _ _ _ _ _ us hl => match us, hl with | [_], _ => rfl
  obtain ⟨d__arithmetic, f__arithmetic⟩ := c.def_ 8 (d := ⟨("_arithmetic", none), "_arithmetic", "_arithmetic", defArgs s__arithmetic, defBody s__arithmetic, defScope s__arithmetic, [], []⟩) rfl
  have g__arithmetic : mg "_arithmetic" = some (.ref (He.ga K "_arithmetic")) := He.glo_ok X G (c.fact 8 (f := .glo "_arithmetic") rfl)
  have u__arithmetic : L2.Fun K "_arithmetic" "_arithmetic" s__arithmetic (He.ga K "_arithmetic") d__arithmetic := fun_of (st := s__arithmetic) f__arithmetic
  have b__arithmetic : Binds K d__arithmetic ["operator", "a", "b"] [] := FunD.bindsN f__arithmetic fun _ _ _ _ _ _ us hl => match us, hl with | [_, _, _], _ => rfl
  obtain ⟨d__bits, f__bits⟩ := c.def_ 9 (d := ⟨("_bits", none), "_bits", "_bits", defArgs s__bits, defBody s__bits, defScope s__bits, [], []⟩) rfl
  have g__bits : mg "_bits" = some (.ref (He.ga K "_bits")) := He.glo_ok X G (c.fact 9 (f := .glo "_bits") rfl)
  have u__bits : L2.Fun K "_bits" "_bits" s__bits (He.ga K "_bits") d__bits := fun_of (st := s__bits) f__bits
  have b__bits : Binds K d__bits ["operator", "a", "b"] [] := FunD.bindsN f__bits fun _ _ _ _ _ _ us hl => match us, hl with | [_, _, _], _ => rfl
  obtain ⟨d_signed, f_signed⟩ := c.def_ 10 (d := ⟨("signed", none), "signed", "signed", defArgs s_signed, defBody s_signed, defScope s_signed, [], []⟩) rfl
  have g_signed : mg "signed" = some (.ref (He.ga K "signed")) := He.glo_ok X G (c.fact 10 (f := .glo "signed") rfl)
  have u_signed : L2.Fun K "signed" "signed" s_signed (He.ga K "signed") d_signed := fun_of (st := s_signed) f_signed
  have b_signed : Binds K d_signed ["w"] [] := FunD.bindsN f_signed fun _ _ _ _ _ _ us hl => match us, hl with | [_], _ => rfl
  obtain ⟨d__truth, f__truth⟩ := c.def_ 11 (d := ⟨("_truth", none), "_truth", "_truth", defArgs s__truth, defBody s__truth, defScope s__truth, [], []⟩) rfl
  have g__truth : mg "_truth" = some (.ref (He.ga K "_truth")) := He.glo_ok X G (c.fact 11 (f := .glo "_truth") rfl)
  have u__truth : L2.Fun K "_truth" "_truth" s__truth (He.ga K "_truth") d__truth := fun_of (st := s__truth) f__truth
  have b__truth : Binds K d__truth ["operator", "a", "b"] [] := FunD.bindsN f__truth fun _ _ _ _ _ _ us hl => match us, hl with | [_, _, _], _ => rfl
  obtain ⟨d_combine, f_combine⟩ := c.def_ 12 (d := ⟨("combine", none), "combine", "combine", defArgs s_combine, defBody s_combine, defScope s_combine, [], []⟩) rfl
  have g_combine : mg "combine" = some (.ref (He.ga K "combine")) := He.glo_ok X G (c.fact 12 (f := .glo "combine") rfl)
  have u_combine : L2.Fun K "combine" "combine" s_combine (He.ga K "combine") d_combine := fun_of (st := s_combine) f_combine
  have b_combine : Binds K d_combine ["operator", "a", "b"] [] := FunD.bindsN f_combine fun _ _ _ _ _ _ us hl => match us, hl with | [_, _, _], _ => rfl
  obtain ⟨d_alter, f_alter⟩ := c.def_ 13 (d := ⟨("alter", none), "alter", "alter", defArgs s_alter, defBody s_alter, defScope s_alter, [], []⟩) rfl
  have g_alter : mg "alter" = some (.ref (He.ga K "alter")) := He.glo_ok X G (c.fact 13 (f := .glo "alter") rfl)
  have u_alter : L2.Fun K "alter" "alter" s_alter (He.ga K "alter") d_alter := fun_of (st := s_alter) f_alter
  have b_alter : Binds K d_alter ["operator", "a"] [] := FunD.bindsN f_alter fun _ _ _ _ _ _ us hl => match us, hl with | [_, _], _ => rfl
  obtain ⟨d_evaluate, f_evaluate⟩ := c.def_ 14 (d := ⟨("evaluate", none), "evaluate", "evaluate", defArgs s_evaluate, defBody s_evaluate, defScope s_evaluate, [], []⟩) rfl
  have g_evaluate : mg "evaluate" = some (.ref (He.ga K "evaluate")) := He.glo_ok X G (c.fact 14 (f := .glo "evaluate") rfl)
  have u_evaluate : L2.Fun K "evaluate" "evaluate" s_evaluate (He.ga K "evaluate") d_evaluate := fun_of (st := s_evaluate) f_evaluate
  have b_evaluate : Binds K d_evaluate ["e", "names"] [] := FunD.bindsN f_evaluate fun _ _ _ _ _ _ us hl => match us, hl with | [_, _], _ => rfl
  obtain ⟨d_law, f_law⟩ := c.def_ 15 (d := ⟨("law", none), "law", "law", defArgs s_law, defBody s_law, defScope s_law, [], []⟩) rfl
  have g_law : mg "law" = some (.ref (He.ga K "law")) := He.glo_ok X G (c.fact 15 (f := .glo "law") rfl)
  have u_law : L2.Fun K "law" "law" s_law (He.ga K "law") d_law := fun_of (st := s_law) f_law
  have b_law : Binds K d_law ["_law_script"] [] := FunD.bindsN f_law fun _ _ _ _ _ _ us hl => match us, hl with | [_], _ => rfl
  have m_abs : mg "abs" = none := He.free_ok X G (c.fact 16 (f := .free "abs") rfl)
  have m_int : mg "int" = none := He.free_ok X G (c.fact 17 (f := .free "int") rfl)
  have m_len : mg "len" = none := He.free_ok X G (c.fact 18 (f := .free "len") rfl)
  have m_repr : mg "repr" = none := He.free_ok X G (c.fact 19 (f := .free "repr") rfl)
  have m_range : mg "range" = none := He.free_ok X G (c.fact 20 (f := .free "range") rfl)
  have m_isinstance : mg "isinstance" = none := He.free_ok X G (c.fact 21 (f := .free "isinstance") rfl)
  have m_bool : mg "bool" = none := He.free_ok X G (c.fact 22 (f := .free "bool") rfl)
  have m_max : mg "max" = none := He.free_ok X G (c.fact 23 (f := .free "max") rfl)
  have k_MODULUS : KConst K mg "MODULUS" c_MODULUS := KConst.int (He.int_ok X G (c.fact 24 (f := .int "MODULUS" (4294967296)) rfl))
  have k_SIGN : KConst K mg "SIGN" c_SIGN := KConst.int (He.int_ok X G (c.fact 25 (f := .int "SIGN" (2147483648)) rfl))
  have k_MASK : KConst K mg "MASK" c_MASK := KConst.int (He.int_ok X G (c.fact 26 (f := .int "MASK" (4294967295)) rfl))
  have bl := FunD.bindsA (ps := ["_law_script"]) f_law fun _ _ _ _ _ _ us hl => match us, hl with | [_], _ => rfl
  refine ⟨d_law, fun t u => bl t [u] rfl, fun base inB nsB hsy => ?_⟩
  have F__law_state : DefOk P w K mg base "_law_state" ["_law_script"] (0 + 1) (spState) := def_okW u__law_state g__law_state sc__law_state b__law_state rfl (fun cdv A outer s H E hr => t__law_state hr m_abs m_int) (by rintro _ _ _ _ ⟨_, rfl, _⟩; rfl) (r_state)
  have F__law_draw : DefOk P w K mg base "_law_draw" ["_law_state_here", "_law_many"] (0 + 1) (spDrawC) := def_okP u__law_draw g__law_draw sc__law_draw b__law_draw rfl (fun cdv A outer s H E hr => t__law_draw hr m_int m_len) (by rintro _ _ _ _ ⟨_, _, _, rfl, _⟩; rfl) (r_draw)
  have F__law_drawA := draw_ok F__law_draw
  have F__law_pick : DefOk P w K mg base "_law_pick" ["_law_state_here", "_law_row"] (1 + 1) (spPick) := def_okP u__law_pick g__law_pick sc__law_pick b__law_pick rfl (fun cdv A outer s H E hr => t__law_pick hr (F__law_drawA.mono (by omega)) m_len) (by rintro _ _ _ _ ⟨_, _, rfl, _⟩; rfl) (r_pick)
  have F__law_word : DefOk P w K mg base "_law_word" ["_law_state_here"] (2 + 1) (spWord) := def_okP u__law_word g__law_word sc__law_word b__law_word rfl (fun cdv A outer s H E hr => t__law_word hr (F__law_drawA.mono (by omega)) (F__law_pick.mono (by omega))) (by rintro _ _ _ _ ⟨_, rfl, _⟩; rfl) (r_word)
  have F__law_expr : ∀ d : Nat, DefOk P w K mg base "_law_expr" ["_law_state_here", "_law_env", "_law_deep"] (3 + d) (spExpr d) := by
    intro d
    induction d with
    | zero => exact def_vac u__law_expr g__law_expr b__law_expr (by rintro _ _ _ _ ⟨d, _, _, _, h1, _, _, _, h2, _⟩; omega)
    | succ d ih => exact def_okP (k := 3 + d) u__law_expr g__law_expr sc__law_expr b__law_expr rfl (fun cdv A outer s H E hr => t__law_expr hr (F__law_pick.mono (by omega)) ih (F__law_drawA.mono (by omega)) (F__law_word.mono (by omega)) m_len) (by rintro _ _ _ _ ⟨_, _, _, _, _, rfl, _⟩; rfl) (r_expr d)
  have F__law_expr := F__law_expr 6
  have F__law_two : DefOk P w K mg base "_law_two" ["_law_sign", "_law_a", "_law_b"] (0 + 1) (spTwo) := def_okW u__law_two g__law_two sc__law_two b__law_two rfl (fun cdv A outer s H E hr => t__law_two hr m_int) (by rintro _ _ _ _ ⟨_, _, _, rfl, _⟩; rfl) (r_two)
  have F__law_value : ∀ d : Nat, DefOk P w K mg base "_law_value" ["_law_e", "_law_names"] (1 + d) (spEval d) := by
    intro d
    induction d with
    | zero => exact def_vac u__law_value g__law_value b__law_value (no_eval)
    | succ d ih => exact def_okW (k := 1 + d) u__law_value g__law_value sc__law_value b__law_value rfl (fun cdv A outer s H E hr => t__law_value hr (F__law_two.mono (by omega)) ih m_int m_len) (by rintro _ _ _ _ ⟨_, _, _, _, rfl, _⟩; rfl) (r_value d)
  have F__law_value := F__law_value 6
  have F_wrap : DefOk P w K mg base "wrap" ["n"] (0 + 1) (spWrap) := def_okP u_wrap g_wrap sc_wrap b_wrap rfl (fun cdv A outer s H E hr => t_wrap hr k_MODULUS) (by rintro _ _ _ _ ⟨_, rfl, _⟩; rfl) (r_wrap)
  have F__arithmetic : DefOk P w K mg base "_arithmetic" ["operator", "a", "b"] (1 + 1) (spArith) := def_okP u__arithmetic g__arithmetic sc__arithmetic b__arithmetic rfl (fun cdv A outer s H E hr => t__arithmetic hr (F_wrap.mono (by omega))) (by rintro _ _ _ _ ⟨_, _, _, rfl, _⟩; rfl) (r_arith)
  have F__bits : DefOk P w K mg base "_bits" ["operator", "a", "b"] (1 + 1) (spBits) := def_okP u__bits g__bits sc__bits b__bits rfl (fun cdv A outer s H E hr => t__bits hr (F_wrap.mono (by omega))) (by rintro _ _ _ _ ⟨_, _, _, rfl, _⟩; rfl) (r_bits)
  have F_signed : DefOk P w K mg base "signed" ["w"] (0 + 1) (spSigned) := def_okP u_signed g_signed sc_signed b_signed rfl (fun cdv A outer s H E hr => t_signed hr k_MODULUS k_SIGN) (by rintro _ _ _ _ ⟨_, rfl, _⟩; rfl) (r_signed)
  have F__truth : DefOk P w K mg base "_truth" ["operator", "a", "b"] (1 + 1) (spTruth) := def_okP u__truth g__truth sc__truth b__truth rfl (fun cdv A outer s H E hr => t__truth hr (F_signed.mono (by omega))) (by rintro _ _ _ _ ⟨_, _, _, rfl, _⟩; rfl) (r_truth)
  have F_combine : DefOk P w K mg base "combine" ["operator", "a", "b"] (2 + 1) (spComb) := def_okP u_combine g_combine sc_combine b_combine rfl (fun cdv A outer s H E hr => t_combine hr (F__truth.mono (by omega)) (F__bits.mono (by omega)) (F__arithmetic.mono (by omega)) m_int) (by rintro _ _ _ _ ⟨_, _, _, rfl, _⟩; rfl) (r_comb)
  have F_alter : DefOk P w K mg base "alter" ["operator", "a"] (1 + 1) (spAlter) := def_okP u_alter g_alter sc_alter b_alter rfl (fun cdv A outer s H E hr => t_alter hr (F_wrap.mono (by omega)) m_int k_MASK) (by rintro _ _ _ _ ⟨_, _, rfl, _⟩; rfl) (r_alter)
  have F_evaluate : ∀ d : Nat, DefOk P w K mg base "evaluate" ["e", "names"] (3 + d) (spEval d) := by
    intro d
    induction d with
    | zero => exact def_vac u_evaluate g_evaluate b_evaluate (no_eval)
    | succ d ih => exact def_okP (k := 3 + d) u_evaluate g_evaluate sc_evaluate b_evaluate rfl (fun cdv A outer s H E hr => t_evaluate hr (F_combine.mono (by omega)) ih (F_alter.mono (by omega)) m_len) (by rintro _ _ _ _ ⟨_, _, _, _, rfl, _⟩; rfl) (r_eval d)
  have F_evaluate := F_evaluate 6
  exact at1_ok (k := 20) (fun_of f_law) sc_law ⟨rfl, by decide, by decide⟩ rfl (by rintro _ _ _ _ ⟨_, rfl, _⟩; rfl) (fun cdv fr t J E hr => t_law hr rfl hsy (F_evaluate.mono (by omega)) (F__law_value.mono (by omega)) (F__law_expr.mono (by omega)) (F__law_drawA.mono (by omega)) (F__law_word.mono (by omega)) (F__law_state.mono (by omega)) m_repr m_range m_isinstance m_int m_bool m_max) r_law
abbrev R : PySem.W.OpenRow := PySem.W.OpenLaw.row PySem.Challenge.rw_deadbeat_k11_values_of_expressions
abbrev hk : PySem.W.Hook := hookR 4 fa fn
def loose0 : List Str := ["MODULUS", "SIGN", "MASK", "wrap", "signed", "_arithmetic", "_bits", "_truth", "combine", "alter", "evaluate", "_law_state", "_law_draw", "_law_pick", "_law_word", "_law_expr", "_law_place", "_law_statement", "_law_body", "_law_objects", "_law_program", "_law_two", "_law_value"]
def loose : List Str := loose0
theorem run (w : World) : HandSHeadRun.RunEq R (PySem.W.view R.prog [26]) hk (obR 4 fa fn) 2000 loose w := by
  intro os
  kernel_rfl
end K11
open PySem PySem.W PySem.Calls PyProof.Rows
theorem PySem.Challenge.cw_deadbeat_k11_values_of_expressions_holds : PySem.Challenge.rw_deadbeat_k11_values_of_expressions.Holds := by
  w_on; o_law
  refine HandSHeadRun.head_any (r := OpenLaw.row PySem.Challenge.rw_deadbeat_k11_values_of_expressions) (q := view (OpenLaw.row PySem.Challenge.rw_deadbeat_k11_values_of_expressions).prog [26]) (H := K11.hk) (ob := DL.obR 4 K11.fa K11.fn) (M := 2000) (loose := K11.loose) (d := HandSHeadRun.topDef (OpenLaw.row PySem.Challenge.rw_deadbeat_k11_values_of_expressions).prog 26) (kwd := []) DL.obR_eq
    (by kernel_rfl) (fun s => by kernel_rfl) K11.run (by kernel_rfl) (by kernel_rfl) (by kernel_rfl) (by rfl) (by first | assumption | decide +kernel) (by decide +kernel) ⟨rfl, rfl, rfl, rfl, rfl, by decide +kernel⟩ ?hw ?hc
  case hw => w_witness2
  case hc =>
    refine DL.walk_law (l := PySem.Challenge.rw_deadbeat_k11_values_of_expressions) (most := 63) (x := "_law_script") rfl (by decide) (by kernel_rfl) fun w K mg f h inK G c hmg => ?_
    have e : (HandSHeadRun.topDef (OpenLaw.row PySem.Challenge.rw_deadbeat_k11_values_of_expressions).prog 26).name = ("law" : PySem.Str) := by kernel_rfl
    rw [e] at hmg
    have e2 := hmg.symm.trans (He.glo_ok inK G (c.fact 15 (f := .glo "law") rfl))
    cases e2
    exact K11.facts inK G c

