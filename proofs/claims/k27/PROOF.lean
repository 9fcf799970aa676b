import PyProof.Rows.All
import Wide.All
import OpenK.AllK
import Wide.FinOn
import PyProof.EqAt
import PyProof.EqKinds
import PyProof.TupleCall
import HandS.ForMost
import HandS.ForExc
import HandS.Wide
import HandS.IsInst
import HandS.TupAny
import HandS.TupMul
import HandS.Conv
import HandS.Zip
import KE.KExcSuper
import KE.KExcIs
import HandS.ExcIs
import HandS.ExcField
import HandS.Ends
import HandS.ExcOwn
import HandS.WordsExc
import HandS.Spec
import HandS.RaiseMore
import HandS.List
import HandS.Style
import HandS.Deep
import HandS.Iter
import HandS.WideMore
import PyProof.ListMulAny
import PySem.Challenge.RW_leasesall_k27_places_of_teams
set_option Elab.async false
set_option linter.all false
set_option maxRecDepth 100000
set_option maxHeartbeats 4000000
/-! DL1: the data layer's ground. Data d : D (PyData) of a value v in a heap F that only grows (Rp); slots and temporaries hold frozen data or an owned list (DV); the relation Rl of such an environment with the hand layer's slots and abstract heap; the monad M. -/
namespace DL
open PySem PySem.Spec PyProof.Rows L2

abbrev D := PyData
/-- the kept part, the module's names -/
structure Frag where
  K : PySem.W.Frag
  G : Str → Option Value

/-! ### data in a heap -/
mutual
inductive Rp (K : Frag) (F : Hp) : V → D → Prop
  | non : Rp K F .non .none
  | bl (b : Bool) : Rp K F (.bl b) (.bool b)
  | int (i : Int) : Rp K F (.int i) (.int i)
  | str (x : Str) : Rp K F (.str x) (.str x)
  | lst {a : Addr} {xs : List V} {ds : List D} : SqL K.K F a xs → RpAll K F xs ds → Rp K F (.ref a) (.list ds)
  | tup {a : Addr} {xs : List V} {ds : List D} : SqT K.K F a xs → RpAll K F xs ds → Rp K F (.ref a) (.tuple ds)
  | dic {a : Addr} {o : Obj} {kvs : List (Key × V)} {ds : List (D × D)} : F a = some (.frz o (.dK kvs)) → RpKv K F kvs ds → Rp K F (.ref a) (.dict ds)
inductive RpAll (K : Frag) (F : Hp) : List V → List D → Prop
  | nil : RpAll K F [] []
  | cons {v : V} {vs : List V} {d : D} {ds : List D} : Rp K F v d → RpAll K F vs ds → RpAll K F (v :: vs) (d :: ds)
inductive RpKv (K : Frag) (F : Hp) : List (Key × V) → List (D × D) → Prop
  | nil : RpKv K F [] []
  | int {i : Int} {v : V} {kvs : List (Key × V)} {d : D} {ds : List (D × D)} : Rp K F v d → RpKv K F kvs ds → RpKv K F ((.inl i, v) :: kvs) ((.int i, d) :: ds)
  | str {x : Str} {v : V} {kvs : List (Key × V)} {d : D} {ds : List (D × D)} : Rp K F v d → RpKv K F kvs ds → RpKv K F ((.inr x, v) :: kvs) ((.str x, d) :: ds)
end

section
variable {K : Frag} {F F' H : Hp}
theorem rd_mono {a : Addr} {u : HO} (e : Same F F') (h : Rd F a u) : Rd F' a u := by
  rcases h with h | ⟨o, h⟩
  · exact .inl (e _ _ h)
  · exact .inr ⟨o, e _ _ h⟩
theorem sql_mono {K : PySem.W.Frag} {a : Addr} {xs : List V} (e : Same F F') (h : SqL K F a xs) : SqL K F' a xs := by
  rcases h with (h | ⟨o, h⟩) | h
  · exact .inl (.inl (e _ _ h))
  · exact .inl (.inr ⟨o, e _ _ h⟩)
  · exact .inr h
theorem sqt_mono {K : PySem.W.Frag} {a : Addr} {xs : List V} (e : Same F F') (h : SqT K F a xs) : SqT K F' a xs := by
  rcases h with (h | ⟨o, h⟩) | h
  · exact .inl (.inl (e _ _ h))
  · exact .inl (.inr ⟨o, e _ _ h⟩)
  · exact .inr h
mutual
theorem Rp.mono (e : Same F F') : ∀ {v : V} {d : D}, Rp K F v d → Rp K F' v d
  | _, _, .non => .non
  | _, _, .bl b => .bl b
  | _, _, .int i => .int i
  | _, _, .str x => .str x
  | _, _, .lst h a => .lst (sql_mono e h) (RpAll.mono e a)
  | _, _, .tup h a => .tup (sqt_mono e h) (RpAll.mono e a)
  | _, _, .dic h a => .dic (e _ _ h) (RpKv.mono e a)
theorem RpAll.mono (e : Same F F') : ∀ {vs : List V} {ds : List D}, RpAll K F vs ds → RpAll K F' vs ds
  | _, _, .nil => .nil
  | _, _, .cons h t => .cons (Rp.mono e h) (RpAll.mono e t)
theorem RpKv.mono (e : Same F F') : ∀ {vs : List (Key × V)} {ds : List (D × D)}, RpKv K F vs ds → RpKv K F' vs ds
  | _, _, .nil => .nil
  | _, _, .int h t => .int (Rp.mono e h) (RpKv.mono e t)
  | _, _, .str h t => .str (Rp.mono e h) (RpKv.mono e t)
end
theorem RpAll.length : ∀ {vs : List V} {ds : List D}, RpAll K F vs ds → vs.length = ds.length
  | _, _, .nil => rfl
  | _, _, .cons _ t => by rw [List.length_cons, List.length_cons, RpAll.length t]
theorem RpAll.get : ∀ {vs : List V} {ds : List D} {i : Nat} {d : D}, RpAll K F vs ds → ds[i]? = some d → ∃ v, vs[i]? = some v ∧ Rp K F v d
  | _, _, _, _, .nil, e => by simp at e
  | _, _, 0, _, .cons h _, e => by
    simp at e; subst e; exact ⟨_, rfl, h⟩
  | _, _, i + 1, _, .cons _ t, e => by
    obtain ⟨v, e1, h1⟩ := RpAll.get (i := i) t (by simpa using e)
    exact ⟨v, by simpa using e1, h1⟩
theorem RpAll.get' : ∀ {vs : List V} {ds : List D} {i : Nat} {v : V}, RpAll K F vs ds → vs[i]? = some v → ∃ d, ds[i]? = some d ∧ Rp K F v d
  | _, _, _, _, .nil, e => by simp at e
  | _, _, 0, _, .cons h _, e => by
    simp at e; subst e; exact ⟨_, rfl, h⟩
  | _, _, i + 1, _, .cons _ t, e => by
    obtain ⟨v, e1, h1⟩ := RpAll.get' (i := i) t (by simpa using e)
    exact ⟨v, by simpa using e1, h1⟩
theorem RpAll.append : ∀ {vs : List V} {ds : List D} {ws : List V} {es : List D}, RpAll K F vs ds → RpAll K F ws es → RpAll K F (vs ++ ws) (ds ++ es)
  | _, _, _, _, .nil, h => h
  | _, _, _, _, .cons h t, u => .cons h (RpAll.append t u)
theorem RpAll.one {v : V} {d : D} (h : Rp K F v d) : RpAll K F [v] [d] := .cons h .nil
theorem RpAll.take : ∀ {vs : List V} {ds : List D} (n : Nat), RpAll K F vs ds → RpAll K F (vs.take n) (ds.take n)
  | _, _, 0, _ => by simpa using RpAll.nil
  | _, _, n + 1, .nil => by simpa using RpAll.nil
  | _, _, n + 1, .cons h t => by simpa using RpAll.cons h (RpAll.take n t)
theorem RpAll.drop : ∀ {vs : List V} {ds : List D} (n : Nat), RpAll K F vs ds → RpAll K F (vs.drop n) (ds.drop n)
  | _, _, 0, h => by simpa using h
  | _, _, n + 1, .nil => by simpa using RpAll.nil
  | _, _, n + 1, .cons _ t => by simpa using RpAll.drop n t
theorem RpAll.set : ∀ {vs : List V} {ds : List D} {v : V} {d : D} (n : Nat), RpAll K F vs ds → Rp K F v d → RpAll K F (vs.set n v) (ds.set n d)
  | _, _, _, _, _, .nil, _ => by simpa using RpAll.nil
  | _, _, _, _, 0, .cons _ t, h => by simpa using RpAll.cons h t
  | _, _, _, _, n + 1, .cons g t, h => by simpa using RpAll.cons g (RpAll.set n t h)
theorem RpAll.erase : ∀ {vs : List V} {ds : List D} (n : Nat), RpAll K F vs ds → RpAll K F (vs.eraseIdx n) (ds.eraseIdx n)
  | _, _, _, .nil => by simpa using RpAll.nil
  | _, _, 0, .cons _ t => by simpa using t
  | _, _, n + 1, .cons h t => by simpa using RpAll.cons h (RpAll.erase n t)
theorem RpAll.reverse {vs : List V} {ds : List D} (h : RpAll K F vs ds) : RpAll K F vs.reverse ds.reverse := by
  induction vs generalizing ds with
  | nil => cases h; exact .nil
  | cons v vs ih =>
    cases h with
    | cons h t => rw [List.reverse_cons, List.reverse_cons]; exact (ih t).append (.one h)
theorem RpAll.ints : ∀ (ns : List Int), RpAll K F (ns.map V.int) (ns.map PyData.int)
  | [] => .nil
  | n :: ns => .cons (.int n) (RpAll.ints ns)

/-! ### slots -/
/-- what a slot (or a temporary) holds: nothing, frozen data, an own list, a list that the caller owns and lends -/
inductive DV where
  | un
  | dat (d : D)
  | lst (ds : List D)
  | bor (ds : List D)
  | exc (c : Str) (d : D)
/-- the list's content, where the slot owns or has borrowed one -/
def DV.own : DV → Option (List D)
  | .lst ds => some ds
  | .bor ds => some ds
  | _ => none

/-- at a lies an exception of the class at C, its dict at dd -/
def ExK (C dd a : Addr) : HO := .ext fun h => ∃ (oe : Obj) (vs : Array Value), h.get? a = some oe ∧ Zc (.ref C) (some dd) oe ∧ oe.data = .fields vs
/-- the value v is an exception of the class named c about d -/
def ExAt (K : Frag) (F : Hp) (v : V) (c : Str) (d : D) : Prop := ∃ (a dd C : Addr) (w : V), v = .ref a ∧ K.G c = some (.ref C) ∧ F a = some (ExK C dd a) ∧ F dd = some (.xd [(("value" : Str), w)]) ∧ Rp K F w d
theorem ExAt.mono {v : V} {c : Str} {d : D} (e : Same F F') (h : ExAt K F v c d) : ExAt K F' v c d := by
  obtain ⟨a, dd, C, w, h1, h2, h3, h4, h5⟩ := h
  exact ⟨a, dd, C, w, h1, h2, e _ _ h3, e _ _ h4, h5.mono e⟩
def SlotOk (K : Frag) (F H : Hp) (v : Option V) : DV → Prop
  | .un => True
  | .dat d => ∃ x, v = some x ∧ Rp K F x d
  | .lst ds => ∃ a xs, v = some (.ref a) ∧ F a = none ∧ H a = some (.lst xs) ∧ RpAll K F xs ds
  | .bor ds => ∃ a xs, v = some (.ref a) ∧ F a = none ∧ H a = some (.lst xs) ∧ RpAll K F xs ds
  | .exc c d => ∃ x, v = some x ∧ ExAt K F x c d

/-- what stays the same within a body: the heap at the entry, the addresses of the lent lists -/
structure Ct where
  Hi : Hp
  F0 : Hp
  B : List (Nat × Addr)
def Ct.ads (c : Ct) : List Addr := c.B.map (·.2)

/-- the environment ρ (slots, then temporaries) lies at the places L in the heap H, its frozen data in F -/
structure Rl (K : Frag) (c : Ct) (F : Hp) (ρ : List DV) (L : List (Option V)) (H : Hp) : Prop where
  len : ρ.length = L.length
  sub : Same F H
  keep : ∀ b o, c.Hi b = some o → b ∉ c.ads → H b = some o
  slot : ∀ (i : Nat) (x : DV) (v : Option V), ρ[i]? = some x → L[i]? = some v → SlotOk K F H v x
  sep : ∀ (i j : Nat) (x y : DV) (a : Addr), ρ[i]? = some x → ρ[j]? = some y → x.own ≠ none → y.own ≠ none → L[i]? = some (some (.ref a)) → L[j]? = some (some (.ref a)) → i = j
  fresh : ∀ (i : Nat) (x : DV) (a : Addr), ρ[i]? = some x → x.own ≠ none → L[i]? = some (some (.ref a)) → c.Hi a = none ∨ a ∈ c.ads
  nobor : ∀ (i : Nat) (ds : List D) (a : Addr), ρ[i]? = some (.lst ds) → L[i]? = some (some (.ref a)) → a ∉ c.ads
  lent : ∀ p ∈ c.B, (∃ ds, ρ[p.1]? = some (.bor ds)) ∧ L[p.1]? = some (some (.ref p.2))
  born : ∀ b o, F b = some o → c.F0 b = some o ∨ c.Hi b = none

theorem SlotOk.mono {v : Option V} {x : DV} {H' : Hp} (h : SlotOk K F H v x) (e : Same F F') (ho : ∀ a xs, v = some (.ref a) → x.own ≠ none → F a = none → H a = some (.lst xs) → F' a = none ∧ H' a = some (.lst xs)) : SlotOk K F' H' v x := by
  cases x with
  | un => trivial
  | dat d => obtain ⟨y, e1, h1⟩ := h; exact ⟨y, e1, h1.mono e⟩
  | lst ds =>
    obtain ⟨a, xs, e1, e2, e3, h1⟩ := h
    obtain ⟨g1, g2⟩ := ho a xs e1 (by simp [DV.own]) e2 e3
    exact ⟨a, xs, e1, g1, g2, h1.mono e⟩
  | bor ds =>
    obtain ⟨a, xs, e1, e2, e3, h1⟩ := h
    obtain ⟨g1, g2⟩ := ho a xs e1 (by simp [DV.own]) e2 e3
    exact ⟨a, xs, e1, g1, g2, h1.mono e⟩
  | exc c d => obtain ⟨y, e1, h1⟩ := h; exact ⟨y, e1, h1.mono e⟩
theorem SlotOk.own {v : Option V} {x : DV} {ds : List D} (h : SlotOk K F H v x) (e : x.own = some ds) : ∃ a xs, v = some (.ref a) ∧ F a = none ∧ H a = some (.lst xs) ∧ RpAll K F xs ds := by
  cases x with
  | un => simp [DV.own] at e
  | dat d => simp [DV.own] at e
  | lst es => simp only [DV.own, Option.some.injEq] at e; subst e; exact h
  | bor es => simp only [DV.own, Option.some.injEq] at e; subst e; exact h
  | exc c d => simp [DV.own] at e

/-! ### the relation goes on -/
section
variable {c : Ct} {ρ : List DV} {L : List (Option V)}
theorem Rl.lentAt {p : Addr} (R : Rl K c F ρ L H) (h : p ∈ c.ads) : ∃ xs, H p = some (.lst xs) := by
  obtain ⟨q, hq, rfl⟩ := List.mem_map.mp h
  obtain ⟨⟨ds, e⟩, l⟩ := R.lent q hq
  obtain ⟨a, xs, e1, _, e3, _⟩ := R.slot _ _ _ e l
  cases e1
  exact ⟨xs, e3⟩
theorem Rl.freshAt {p : Addr} (R : Rl K c F ρ L H) (hp : H p = none) : c.Hi p = none ∧ p ∉ c.ads := by
  have hB : p ∉ c.ads := fun z => by
    obtain ⟨xs, e⟩ := R.lentAt z
    rw [hp] at e; cases e
  refine ⟨?_, hB⟩
  cases q : c.Hi p with
  | none => rfl
  | some o => have := R.keep p o q hB; rw [hp] at this; cases this
/-- a new object that is frozen from the beginning -/
theorem Rl.new {p : Addr} {o : HO} (R : Rl K c F ρ L H) (hp : H p = none) : Rl K c (upd F p o) ρ L (upd H p o) := by
  have hF : F p = none := by
    cases q : F p with
    | none => rfl
    | some u => have := R.sub p u q; rw [hp] at this; cases this
  have eF : Same F (upd F p o) := fun b u q => by rw [upd_ne (ne_of_none q hF)]; exact q
  refine ⟨R.len, fun b u q => ?_, fun b u q n => ?_, fun i x v e1 e2 => ?_, R.sep, R.fresh, R.nobor, R.lent, fun b u q => ?_⟩
  · by_cases hb : b = p
    · subst hb; rw [upd_same] at q ⊢; exact q
    · rw [upd_ne hb] at q ⊢; exact R.sub b u q
  · rw [upd_ne (ne_of_none (R.keep b u q n) hp)]; exact R.keep b u q n
  · refine (R.slot i x v e1 e2).mono eF fun a xs _ _ h1 h2 => ?_
    have : a ≠ p := ne_of_none h2 hp
    exact ⟨by rw [upd_ne this]; exact h1, by rw [upd_ne this]; exact h2⟩
  · by_cases hb : b = p
    · exact .inr (hb ▸ (R.freshAt hp).1)
    · rw [upd_ne hb] at q; exact R.born b u q
/-- a new list, owned by a new temporary -/
theorem Rl.push {p : Addr} {xs : List V} {ds : List D} (R : Rl K c F ρ L H) (hp : H p = none) (h : RpAll K F xs ds) : Rl K c F (ρ ++ [.lst ds]) (L ++ [some (.ref p)]) (upd H p (.lst xs)) := by
  have hF : F p = none := by
    cases q : F p with
    | none => rfl
    | some u => have := R.sub p u q; rw [hp] at this; cases this
  have at_ : ∀ {i : Nat} {x : DV}, (ρ ++ [DV.lst ds])[i]? = some x → (ρ[i]? = some x ∧ i < ρ.length) ∨ (i = ρ.length ∧ x = .lst ds) := fun {i x} e => by
    by_cases hi : i < ρ.length
    · rw [List.getElem?_append_left hi] at e; exact .inl ⟨e, hi⟩
    · rw [List.getElem?_append_right (by omega)] at e
      have : i - ρ.length = 0 := by
        cases q : i - ρ.length with
        | zero => rfl
        | succ k => rw [q] at e; simp at e
      rw [this] at e
      simp at e
      exact .inr ⟨by omega, e.symm⟩
  have lt_ : ∀ {i : Nat} {v : Option V}, i < ρ.length → (L ++ [some (V.ref p)])[i]? = some v → L[i]? = some v := fun {i v} hi e => by
    rw [List.getElem?_append_left (by rw [← R.len]; exact hi)] at e; exact e
  have last_ : ∀ {v : Option V}, (L ++ [some (V.ref p)])[ρ.length]? = some v → v = some (.ref p) := fun {v} e => by
    rw [R.len, List.getElem?_append_right (Nat.le_refl _)] at e
    simp at e
    exact e.symm
  have ne_ : ∀ {i : Nat} {x : DV} {a : Addr}, ρ[i]? = some x → x.own ≠ none → L[i]? = some (some (.ref a)) → a ≠ p := fun {i x a} e o l => by
    cases q : x.own with
    | none => exact absurd q o
    | some es =>
      obtain ⟨a', xs', e1, _, e3, _⟩ := (R.slot i x _ e l).own q
      cases e1
      exact ne_of_none e3 hp
  obtain ⟨hi, hB⟩ := R.freshAt hp
  refine ⟨by rw [List.length_append, List.length_append, R.len] <;> rfl, fun b u q => ?_, fun b u q n => ?_, fun i x v e1 e2 => ?_, fun i j x y a e1 e2 o1 o2 l1 l2 => ?_, fun i x a e1 o1 l1 => ?_, fun i es a e1 l1 => ?_, fun q hq => ?_, R.born⟩
  · rw [upd_ne (ne_of_none (R.sub b u q) hp)]; exact R.sub b u q
  · rw [upd_ne (ne_of_none (R.keep b u q n) hp)]; exact R.keep b u q n
  · rcases at_ e1 with ⟨e1, hl⟩ | ⟨rfl, rfl⟩
    · refine (R.slot i x v e1 (lt_ hl e2)).mono (Same.refl F) fun a ys _ _ h1 h2 => ⟨h1, ?_⟩
      rw [upd_ne (ne_of_none h2 hp)]; exact h2
    · have := last_ e2
      subst this
      exact ⟨p, xs, rfl, hF, upd_same, h⟩
  · rcases at_ e1 with ⟨e1, hl1⟩ | ⟨rfl, rfl⟩
    · rcases at_ e2 with ⟨e2, hl2⟩ | ⟨rfl, rfl⟩
      · exact R.sep i j x y a e1 e2 o1 o2 (lt_ hl1 l1) (lt_ hl2 l2)
      · have q := last_ l2
        cases q
        exact absurd rfl (ne_ e1 o1 (lt_ hl1 l1))
    · rcases at_ e2 with ⟨e2, hl2⟩ | ⟨rfl, rfl⟩
      · have q := last_ l1
        cases q
        exact absurd rfl (ne_ e2 o2 (lt_ hl2 l2))
      · rfl
  · rcases at_ e1 with ⟨e1, hl1⟩ | ⟨rfl, rfl⟩
    · exact R.fresh i x a e1 o1 (lt_ hl1 l1)
    · have q := last_ l1
      cases q
      exact .inl hi
  · rcases at_ e1 with ⟨e1, hl1⟩ | ⟨rfl, q⟩
    · exact R.nobor i es a e1 (lt_ hl1 l1)
    · have q := last_ l1
      cases q
      exact hB
  · obtain ⟨⟨es, e⟩, l⟩ := R.lent q hq
    have h1 : q.1 < ρ.length := (List.getElem?_eq_some_iff.mp e).1
    exact ⟨⟨es, by rw [List.getElem?_append_left h1]; exact e⟩, by rw [List.getElem?_append_left (by rw [← R.len]; exact h1)]; exact l⟩
end
end
end DL

set_option Elab.async false
set_option linter.all false
set_option maxRecDepth 100000
set_option maxHeartbeats 4000000
/-! DL2: the monad M over environments, the judgements (tE, tT, tA, tS) and the rules of plain expressions. -/
namespace DL
open PySem PySem.Spec PyProof.Rows L2

abbrev St := L2.St
/-- an exception: its class's name, its value -/
abbrev Ex := Str × D
/-- a step: stuck, or a value or an exception, with the environment behind it -/
abbrev M (α : Type) := List DV → Option (Except Ex α × List DV)
namespace M
def ok {α : Type} (a : α) : M α := fun ρ => some (.ok a, ρ)
def no {α : Type} : M α := fun _ => none
def rais {α : Type} (x : Ex) : M α := fun ρ => some (.error x, ρ)
def bind {α β : Type} (m : M α) (k : α → M β) : M β := fun ρ => match m ρ with
  | none => none
  | some (.ok a, ρ') => k a ρ'
  | some (.error x, ρ') => some (.error x, ρ')
def opt {α : Type} (o : Option α) : M α := fun ρ => match o with
  | none => none
  | some a => some (.ok a, ρ)
end M
theorem M.bind_ok {α β : Type} {a : α} {k : α → M β} {ρ : List DV} : M.bind (M.ok a) k ρ = k a ρ := rfl
theorem M.bind_no {α β : Type} {k : α → M β} {ρ : List DV} : M.bind M.no k ρ = none := rfl

/-- an expression's value: data, or the list that the position p owns (or has borrowed) -/
inductive DR where
  | dat (d : D)
  | loc (p : Nat)
  | exc (c : Str) (d : D)
/-- its data now -/
def rd (r : DR) : M D := fun ρ => match r with
  | .dat d => some (.ok d, ρ)
  | .loc p => match (ρ[p]?).bind DV.own with
    | some ds => some (.ok (.list ds), ρ)
    | none => none
  | .exc _ _ => none

/-- the static part: the module's names, the wish about exceptions -/
structure Ps where
  K : Frag
  W : WX

def RefV (K : Frag) (F : Hp) (L : List (Option V)) (v : V) : DR → Prop
  | .dat d => Rp K F v d
  | .loc p => L[p]? = some (some v)
  | .exc c d => ExAt K F v c d
theorem RefV.mono {K : Frag} {F F' : Hp} {L : List (Option V)} {v : V} {r : DR} (h : RefV K F L v r) (e : Same F F') : RefV K F' L v r := by
  cases r with
  | dat d => exact Rp.mono e h
  | loc p => exact h
  | exc c d => exact ExAt.mono e h

/-- what is asked of an exception -/
def Er (P : Ps) (c : Ct) (F : Hp) (σ : St) (τ : List (Option V)) (x : Ex) (ρ : List DV) : Prop :=
  ∀ (F' H' : Hp) (C dd : Addr) (v : V), Same F F' → Rl P.K c F' ρ (σ ++ τ) H' → P.K.G x.1 = some (.ref C) → Rp P.K F' v x.2 → H' dd = some (.xd [(("value" : Str), v)]) → c.Hi dd = none → P.W (.ref C) (some dd) σ H'
theorem Er.mono {P : Ps} {c : Ct} {F F' : Hp} {σ : St} {τ : List (Option V)} {x : Ex} {ρ : List DV} (h : Er P c F σ τ x ρ) (e : Same F F') : Er P c F' σ τ x ρ :=
  fun F2 H' C dd v s => h F2 H' C dd v (e.trans s)

/-- the outcome o of a step that began in F, c, σ, τ -/
def Ho {α : Type} (P : Ps) (c : Ct) (F : Hp) (σ : St) (τ : List (Option V)) (o : Option (Except Ex α × List DV)) (Φ : α → List DV → Hp → Hp → Prop) : Prop := match o with
  | none => False
  | some (.ok a, ρ) => ∀ F' H', Same F F' → Rl P.K c F' ρ (σ ++ τ) H' → Φ a ρ F' H'
  | some (.error x, ρ) => Er P c F σ τ x ρ

def tE (P : Ps) (m : M DR) : TE := fun σ H Q => ∃ c F τ ρ, Rl P.K c F ρ (σ ++ τ) H ∧ Ho P c F σ τ (m ρ) fun r _ F' H' => ∀ v, RefV P.K F' (σ ++ τ) v r → Q v H'
def tT (P : Ps) (m : M Bool) : TT := fun σ H Q => ∃ c F τ ρ, Rl P.K c F ρ (σ ++ τ) H ∧ Ho P c F σ τ (m ρ) fun b _ _ H' => Q b H'
def tA (P : Ps) (m : M (List DR)) : TA := fun σ H Q => ∃ c F τ ρ, Rl P.K c F ρ (σ ++ τ) H ∧ Ho P c F σ τ (m ρ) fun rs _ F' H' => ∀ vs, Paired (RefV P.K F' (σ ++ τ)) vs rs → Q vs H'

theorem Ho.mono {α : Type} {P : Ps} {c : Ct} {F : Hp} {σ : St} {τ : List (Option V)} {o : Option (Except Ex α × List DV)} {Φ Ψ : α → List DV → Hp → Hp → Prop} (h : Ho P c F σ τ o Φ) (f : ∀ a ρ F' H', Same F F' → Rl P.K c F' ρ (σ ++ τ) H' → Φ a ρ F' H' → Ψ a ρ F' H') : Ho P c F σ τ o Ψ := by
  match o, h with
  | some (.ok a, ρ), h => exact fun F' H' e R => f a ρ F' H' e R (h F' H' e R)
  | some (.error x, ρ), h => exact h
theorem Ho.from {α : Type} {P : Ps} {c : Ct} {F F1 : Hp} {σ : St} {τ : List (Option V)} {o : Option (Except Ex α × List DV)} {Φ : α → List DV → Hp → Hp → Prop} (h : Ho P c F σ τ o Φ) (e : Same F F1) : Ho P c F1 σ τ o Φ := by
  match o, h with
  | some (.ok a, ρ), h => exact fun F' H' s R => h F' H' (e.trans s) R
  | some (.error x, ρ), h => exact Er.mono h e
/-- a step, then another one -/
theorem Ho.bind {α β : Type} {P : Ps} {c : Ct} {F : Hp} {σ : St} {τ : List (Option V)} {m : M α} {k : α → M β} {ρ : List DV} {Φ : β → List DV → Hp → Hp → Prop} (h : Ho P c F σ τ (M.bind m k ρ) Φ) :
    Ho P c F σ τ (m ρ) fun a ρ1 F1 H1 => Ho P c F1 σ τ (k a ρ1) Φ := by
  unfold M.bind at h
  match q : m ρ with
  | none => rw [q] at h; exact h
  | some (.ok a, ρ1) =>
    rw [q] at h
    exact fun F1 H1 e R => Ho.from h e
  | some (.error x, ρ1) => rw [q] at h; exact h
theorem Ho.now {α : Type} {P : Ps} {c : Ct} {F H : Hp} {σ : St} {τ : List (Option V)} {a : α} {ρ : List DV} {Φ : α → List DV → Hp → Hp → Prop} (h : Ho P c F σ τ (M.ok a ρ) Φ) (R : Rl P.K c F ρ (σ ++ τ) H) : Φ a ρ F H := h F H (Same.refl F) R
/-- a value found without a step -/
theorem Ho.opt {α β : Type} {P : Ps} {c : Ct} {F H : Hp} {σ : St} {τ : List (Option V)} {o : Option α} {k : α → M β} {ρ : List DV} {Φ : β → List DV → Hp → Hp → Prop} (h : Ho P c F σ τ (M.bind (M.opt o) k ρ) Φ) : ∃ a, o = some a ∧ Ho P c F σ τ (k a ρ) Φ := by
  cases o with
  | none => exact (show False from h).elim
  | some a => exact ⟨a, rfl, h⟩
/-- data read -/
theorem Ho.rd {β : Type} {P : Ps} {c : Ct} {F H : Hp} {σ : St} {τ : List (Option V)} {r : DR} {k : D → M β} {ρ : List DV} {v : V} {Φ : β → List DV → Hp → Hp → Prop} (h : Ho P c F σ τ (M.bind (rd r) k ρ) Φ) (R : Rl P.K c F ρ (σ ++ τ) H) (hv : RefV P.K F (σ ++ τ) v r) :
    ∃ d, (rd r ρ = some (.ok d, ρ)) ∧ Ho P c F σ τ (k d ρ) Φ ∧ ((Rp P.K F v d) ∨ ∃ a xs ds, v = .ref a ∧ d = .list ds ∧ F a = none ∧ H a = some (.lst xs) ∧ RpAll P.K F xs ds) := by
  cases r with
  | dat d => exact ⟨d, rfl, h, .inl hv⟩
  | exc c d => exact (show False from h).elim
  | loc p =>
    unfold M.bind DL.rd at h
    dsimp only at h
    cases q : (ρ[p]?).bind DV.own with
    | none => rw [q] at h; exact (show False from h).elim
    | some ds =>
      rw [q] at h
      refine ⟨.list ds, by unfold DL.rd; dsimp only; rw [q], h, .inr ?_⟩
      cases e : ρ[p]? with
      | none => rw [e] at q; simp at q
      | some x =>
        rw [e] at q
        obtain ⟨a, xs, e1, e2, e3, e4⟩ := (R.slot p x _ e hv).own (by simpa using q)
        cases e1
        exact ⟨a, xs, ds, rfl, rfl, e2, e3, e4⟩

section
variable {X : Cx} {P : Ps} {a b e : Expr} {pos : Pos}
theorem _root_.L2.PE.of {X : Cx} {e : Expr} {t t' : TE} (h : PE X e t) (w : ∀ σ H Q, t' σ H Q → t σ H Q) : PE X e t' := ⟨fun pins s σ H Q I q => h.run pins s σ H Q I (w _ _ _ q)⟩
theorem _root_.L2.PT.of {X : Cx} {e : Expr} {t t' : TT} (h : PT X e t) (w : ∀ σ H Q, t' σ H Q → t σ H Q) : PT X e t' := ⟨fun pins s σ H Q I q => h.run pins s σ H Q I (w _ _ _ q)⟩
theorem _root_.L2.PA.of {X : Cx} {es : List Expr} {t t' : TA} (h : PA X es t) (w : ∀ σ H Q, t' σ H Q → t σ H Q) : PA X es t' := ⟨fun pos pins s σ H Q I q => h.run pos pins s σ H Q I (w _ _ _ q)⟩
theorem _root_.L2.PS.of {X : Cx} {st : Stmt} {t t' : TS} (h : PS X st t) (w : ∀ D σ H, t' D σ H → t D σ H) : PS X st t' := ⟨fun pins s σ H D I q => h.run pins s σ H D I (w _ _ _ q)⟩
theorem _root_.L2.PSs.of {X : Cx} {st : List Stmt} {t t' : TS} (h : PSs X st t) (w : ∀ D σ H, t' D σ H → t D σ H) : PSs X st t' := ⟨fun pins s σ H D I q => h.run pins s σ H D I (w _ _ _ q)⟩

/-! ### names, constants -/
def eVar (i : Nat) : M DR := fun ρ => match ρ[i]? with
  | some (.dat d) => some (.ok (.dat d), ρ)
  | some (.lst _) => some (.ok (.loc i), ρ)
  | some (.bor _) => some (.ok (.loc i), ρ)
  | some (.exc c d) => some (.ok (.exc c d), ρ)
  | _ => none
theorem de_var {i : Nat} {x : Str} (hN : X.N[i]? = some x) (hv : Vis X.env.scope x) (hl : ∀ (σ : St), σ.length = X.N.length → i < σ.length := by intro σ h; rw [h]; exact (List.getElem?_eq_some_iff.mp ‹_›).1) (hd : (x == ("__debug__" : Str)) = false := by decide) (hcd : (x == ("__classdict__" : Str)) = false := by decide) : PE X (.Name x pos) (tE P (eVar i)) := by
  refine ⟨fun pins s σ H Q I h => ?_⟩
  refine (pe_var (i := i) hN hv hd hcd).run pins s σ H Q I ?_
  obtain ⟨c, F, τ, ρ, R, h⟩ := h
  have hi : i < σ.length := by rw [I.len]; exact (List.getElem?_eq_some_iff.mp hN).1
  have hL : (σ ++ τ)[i]? = σ[i]? := List.getElem?_append_left hi
  unfold eVar at h
  cases e : ρ[i]? with
  | none => rw [e] at h; exact (show False from h).elim
  | some x =>
    rw [e] at h
    obtain ⟨v, ev⟩ : ∃ v, (σ ++ τ)[i]? = some v := by
      rw [List.getElem?_eq_getElem (by rw [List.length_append]; omega)]; exact ⟨_, rfl⟩
    have sl := R.slot i x v e ev
    cases x with
    | un => exact (show False from h).elim
    | dat d =>
      obtain ⟨y, e1, r⟩ := sl
      subst e1
      exact ⟨y, by rw [← hL]; exact ev, h F H (Same.refl F) R y r⟩
    | lst ds =>
      obtain ⟨a, xs, e1, _⟩ := sl
      subst e1
      exact ⟨.ref a, by rw [← hL]; exact ev, h F H (Same.refl F) R _ ev⟩
    | bor ds =>
      obtain ⟨a, xs, e1, _⟩ := sl
      subst e1
      exact ⟨.ref a, by rw [← hL]; exact ev, h F H (Same.refl F) R _ ev⟩
    | exc c d =>
      obtain ⟨y, e1, r⟩ := sl
      subst e1
      exact ⟨y, by rw [← hL]; exact ev, h F H (Same.refl F) R y r⟩
def eLit (d : D) : M DR := M.ok (.dat d)
theorem de_const {t : TE} {v : V} {d : D} (h : PE X e t) (w : ∀ σ H Q, Q v H → t σ H Q) (r : ∀ F, Rp P.K F v d) : PE X e (tE P (eLit d)) := by
  refine h.of fun σ H Q h => ?_
  obtain ⟨c, F, τ, ρ, R, h⟩ := h
  exact w σ H Q (Ho.now h R v (r F))
theorem de_int {i : Int} {k : Nat} : PE X (.Constant (.int i) k pos) (tE P (eLit (.int i))) := de_const pe_int (fun _ _ _ q => q) fun _ => .int i
theorem de_bool {b : Bool} {k : Nat} : PE X (.Constant (.bool b) k pos) (tE P (eLit (.bool b))) := de_const pe_bl (fun _ _ _ q => q) fun _ => .bl b
theorem de_none {k : Nat} : PE X (.Constant .none k pos) (tE P (eLit .none)) := de_const pe_non (fun _ _ _ q => q) fun _ => .non
theorem de_str {x : Str} {k : Nat} : PE X (.Constant (.str x) k pos) (tE P (eLit (.str x))) := de_const pe_str (fun _ _ _ q => q) fun _ => .str x
/-- a module's constant -/
theorem de_glob {x : Str} {v : V} {u : Value} {d : D} (hg : Gl X x) (hm : X.mg x = some u) (r : RelV v u) (rp : ∀ F, Rp P.K F v d) (hd : (x == ("__debug__" : Str)) = false := by decide) : PE X (.Name x pos) (tE P (eLit d)) :=
  de_const (pe_glob hg hm r hd) (fun _ _ _ q => q) rp

/-! ### two operands -/
/-- an operator on data: f tells the result -/
def eOp2 (f : D → D → Option D) (ma mb : M DR) : M DR := M.bind ma fun x => M.bind mb fun y => M.bind (rd x) fun d => M.bind (rd y) fun e => M.bind (M.opt (f d e)) fun z => M.ok (.dat z)
/-- an operand as data in the heap as it stands -/
inductive Now (K : Frag) (F H : Hp) (v : V) (d : D) : Prop
  | dat (h : Rp K F v d)
  | own {a : Addr} {xs : List V} {ds : List D} (e : v = .ref a) (e' : d = .list ds) (hF : F a = none) (hH : H a = some (.lst xs)) (h : RpAll K F xs ds)
theorem Now.list {K : Frag} {F H : Hp} {v : V} {ds : List D} (n : Now K F H v (.list ds)) (s : Same F H) : ∃ a xs, v = .ref a ∧ SqL K.K H a xs ∧ RpAll K F xs ds := by
  cases n with
  | dat h =>
    cases h with
    | lst hs ha => exact ⟨_, _, rfl, sql_mono s hs, ha⟩
  | own e e' hF hH h =>
    cases e'
    exact ⟨_, _, e, .inl (.inl hH), h⟩
theorem Now.int {K : Frag} {F H : Hp} {v : V} {i : Int} (n : Now K F H v (.int i)) : v = .int i := by
  cases n with
  | dat h => cases h; rfl
  | own e e' => cases e'
theorem Now.str {K : Frag} {F H : Hp} {v : V} {i : Str} (n : Now K F H v (.str i)) : v = .str i := by
  cases n with
  | dat h => cases h; rfl
  | own e e' => cases e'
theorem Now.bool {K : Frag} {F H : Hp} {v : V} {i : Bool} (n : Now K F H v (.bool i)) : v = .bl i := by
  cases n with
  | dat h => cases h; rfl
  | own e e' => cases e'
theorem Now.none {K : Frag} {F H : Hp} {v : V} (n : Now K F H v .none) : v = .non := by
  cases n with
  | dat h => cases h; rfl
  | own e e' => cases e'
theorem Now.tuple {K : Frag} {F H : Hp} {v : V} {ds : List D} (n : Now K F H v (.tuple ds)) (s : Same F H) : ∃ a xs, v = .ref a ∧ SqT K.K H a xs ∧ SqT K.K F a xs ∧ RpAll K F xs ds := by
  cases n with
  | dat h =>
    cases h with
    | tup hs ha => exact ⟨_, _, rfl, sqt_mono s hs, hs, ha⟩
  | own e e' => cases e'
/-- the operator's rule by data -/
def OpD (X : Cx) (P : Ps) (r : R2) (f : D → D → Option D) : Prop :=
  ∀ (c : Ct) (F H : Hp) (L : List (Option V)) (ρ : List DV) (x y : V) (d e z : D) (Q : VK), Rl P.K c F ρ L H → Now P.K F H x d → Now P.K F H y e → f d e = some z →
    (∀ F' H' v, Same F F' → Rl P.K c F' ρ L H' → Rp P.K F' v z → Q v H') → r x y H Q
theorem tE_op2 {r : R2} {f : D → D → Option D} {ma mb : M DR} (h : OpD X P r f) (σ : St) (H : Hp) (Q : VK) (q : tE P (eOp2 f ma mb) σ H Q) : tOp r (tE P ma) (tE P mb) σ H Q := by
  obtain ⟨c, F, τ, ρ, R, q⟩ := q
  refine ⟨c, F, τ, ρ, R, (Ho.bind q).mono fun x ρ1 F1 H1 s1 R1 q1 v hv => ?_⟩
  refine ⟨c, F1, τ, ρ1, R1, (Ho.bind q1).mono fun y ρ2 F2 H2 s2 R2 q2 u hu => ?_⟩
  obtain ⟨d, _, q3, n1⟩ := Ho.rd q2 R2 (hv.mono s2)
  obtain ⟨e, _, q4, n2⟩ := Ho.rd q3 R2 hu
  obtain ⟨z, ez, q5⟩ := Ho.opt (H := H2) q4
  have m1 : Now P.K F2 H2 v d := by
    rcases n1 with n1 | ⟨a, xs, ds, e1, e2, e3, e4, e5⟩
    · exact .dat n1
    · exact .own e1 e2 e3 e4 e5
  have m2 : Now P.K F2 H2 u e := by
    rcases n2 with n2 | ⟨a, xs, ds, e1, e2, e3, e4, e5⟩
    · exact .dat n2
    · exact .own e1 e2 e3 e4 e5
  exact h c F2 H2 (σ ++ τ) ρ2 v u d e z Q R2 m1 m2 ez fun F' H' w s R' rp => q5 F' H' s R' w rp
theorem de_bin {op : Operator} {r : R2} {f : D → D → Option D} {ma mb : M DR} (ho : OpR X (binaryOp op) r) (h : OpD X P r f) (ha : PE X a (tE P ma)) (hb : PE X b (tE P mb)) : PE X (.BinOp a op b pos) (tE P (eOp2 f ma mb)) :=
  (pe_op ho ha hb).of (tE_op2 h)
theorem de_cmp {op : CmpOp} {r : R2} {f : D → D → Option D} {ma mb : M DR} (ho : OpR X (compareOp op) r) (h : OpD X P r f) (ha : PE X a (tE P ma)) (hb : PE X b (tE P mb)) (hm : behindInMarks op b = false) : PE X (.Compare a [op] [b] pos) (tE P (eOp2 f ma mb)) :=
  (pe_cmpR ho ha hb hm).of (tE_op2 h)
/-- a value as a bool -/
def asB (r : DR) : M Bool := fun ρ => match r with
  | .dat (.bool b) => some (.ok b, ρ)
  | _ => none
/-- a test whose value is a bool -/
def eB (m : M DR) : M Bool := M.bind m asB
theorem tT_B {m : M DR} (σ : St) (H : Hp) (Q : Bool → Hp → Prop) (q : tT P (eB m) σ H Q) : (tTest (tE P m)) σ H Q := by
  obtain ⟨c, F, τ, ρ, R, q⟩ := q
  refine ⟨c, F, τ, ρ, R, (Ho.bind q).mono fun x ρ1 F1 H1 s1 R1 q1 v hv => ?_⟩
  cases x with
  | loc p => exact (show False from q1).elim
  | exc c d => exact (show False from q1).elim
  | dat d =>
    cases d with
    | bool b =>
      cases (show Rp P.K F1 v (.bool b) from hv)
      exact ⟨b, rfl, q1 F1 H1 (Same.refl _) R1⟩
    | _ => exact (show False from q1).elim
theorem dt_cmp {op : CmpOp} {r : R2} {f : D → D → Option D} {ma mb : M DR} (ho : OpR X (compareOp op) r) (h : OpD X P r f) (ha : PE X a (tE P ma)) (hb : PE X b (tE P mb)) (hm : behindInMarks op b = false) : PT X (.Compare a [op] [b] pos) (tT P (eB (eOp2 f ma mb))) := by
  refine (pt_cmpR ho ha hb hm).of fun σ H Q q => ?_
  obtain ⟨c, F, τ, ρ, R, q⟩ := tT_B (P := P) σ H Q q
  exact tE_op2 h σ H _ ⟨c, F, τ, ρ, R, q⟩

/-! the operators on ints -/
def intOp (C : Int → Int → Bool) (g : Int → Int → D) : D → D → Option D := fun d e => match d, e with
  | .int i, .int j => if C i j then some (g i j) else none
  | _, _ => none
theorem intOp_some {C : Int → Int → Bool} {g : Int → Int → D} {d e z : D} (h : intOp C g d e = some z) : ∃ i j, d = .int i ∧ e = .int j ∧ C i j = true ∧ z = g i j := by
  unfold intOp at h
  split at h
  · split at h
    · rename_i i j hc
      exact ⟨i, j, rfl, rfl, hc, (Option.some.inj h).symm⟩
    · cases h
  · cases h
theorem opd_int {C : Int → Int → Prop} {C' : Int → Int → Bool} {g : Int → Int → V} {g' : Int → Int → D} (hc : ∀ i j, C' i j = true → C i j) (hg : ∀ F i j, Rp P.K F (g i j) (g' i j)) : OpD X P (rI C g) (intOp C' g') := by
  intro c F H L ρ x y d e z Q R n1 n2 hz q
  obtain ⟨i, j, rfl, rfl, h1, rfl⟩ := intOp_some hz
  exact ⟨i, j, n1.int, n2.int, hc i j h1, q F H _ (Same.refl F) R (hg F i j)⟩
theorem opd_int0 {g : Int → Int → V} {g' : Int → Int → D} (hg : ∀ F i j, Rp P.K F (g i j) (g' i j)) : OpD X P (rI0 g) (intOp (fun _ _ => true) g') := by
  intro c F H L ρ x y d e z Q R n1 n2 hz q
  obtain ⟨i, j, rfl, rfl, _, rfl⟩ := intOp_some hz
  exact ⟨i, j, n1.int, n2.int, q F H _ (Same.refl F) R (hg F i j)⟩
end
end DL

set_option Elab.async false
set_option linter.all false
set_option maxRecDepth 100000
set_option maxHeartbeats 4000000
/-! DL3: rules of expressions, further. -/
namespace DL
open PySem PySem.Spec PyProof.Rows L2
section
variable {X : Cx} {P : Ps} {a b e : Expr} {pos : Pos}

theorem Rd.sql {K : PySem.W.Frag} {H : Hp} {a : Addr} {xs : List V} (h : Rd H a (.lst xs)) : SqL K H a xs := .inl h
theorem wid {α : Type} {a b : α} (h : some a = some b) : b = a := (Option.some.inj h).symm

/-! ### int operators -/
def mulC (i j : Int) : Bool := decide (i.natAbs.log2 + j.natAbs.log2 < 1000000) || (decide (i.natAbs < 2 ^ 64) || decide (j.natAbs < 2 ^ 64))
def CMulX (i j : Int) : Prop := CMulW i j ∨ CMul i j
theorem op_mulX {X : Cx} : OpR X (binaryOp .Mult) (rI CMulX fun i j => .int (i * j)) := fun pins s σ H x y v u Q I rx ry q => by
  obtain ⟨i, j, e1, e2, h, q⟩ := q
  rcases h with h | h
  · exact op_mulW pins s σ H x y v u Q I rx ry ⟨i, j, e1, e2, h, q⟩
  · exact op_mul pins s σ H x y v u Q I rx ry ⟨i, j, e1, e2, h, q⟩
def divC (_ j : Int) : Bool := decide (0 < j) && decide (j.natAbs.log2 < 9000)
def modC (_ j : Int) : Bool := decide (0 < j)
def powC (i j : Int) : Bool := decide (0 ≤ j) && decide (j ≤ 1000000) && decide (i.natAbs < 2 ^ 64)
def subD : D → D → Option D := intOp (fun _ _ => true) fun i j => .int (i - j)
def fdivD : D → D → Option D := intOp divC fun i j => .int (i / j)
def modD : D → D → Option D := intOp modC fun i j => .int (i % j)
def powD : D → D → Option D := intOp powC fun i j => .int (i ^ j.toNat)
def ltD : D → D → Option D := intOp (fun _ _ => true) fun i j => .bool (decide (i < j))
def leD : D → D → Option D := intOp (fun _ _ => true) fun i j => .bool (decide (i ≤ j))
def gtD : D → D → Option D := intOp (fun _ _ => true) fun i j => .bool (decide (j < i))
def geD : D → D → Option D := intOp (fun _ _ => true) fun i j => .bool (decide (j ≤ i))
theorem opd_sub : OpD X P (rI0 fun i j => .int (i - j)) subD := opd_int0 fun _ _ _ => .int _
theorem opd_fdiv : OpD X P (rI CDivW fun i j => .int (i / j)) fdivD := opd_int (fun i j h => by
  unfold divC at h
  simp only [Bool.and_eq_true, decide_eq_true_eq] at h
  exact h) fun _ _ _ => .int _
theorem opd_mod : OpD X P (rI (fun _ j => 0 < j) fun i j => .int (i % j)) modD := opd_int (fun i j h => of_decide_eq_true h) fun _ _ _ => .int _
theorem opd_pow : OpD X P (rI CPow fun i j => .int (i ^ j.toNat)) powD := opd_int (fun i j h => by
  unfold powC at h
  simp only [Bool.and_eq_true, decide_eq_true_eq] at h
  exact ⟨h.1.1, h.1.2, h.2⟩) fun _ _ _ => .int _
theorem opd_lt : OpD X P (rI0 fun i j => .bl (decide (i < j))) ltD := opd_int0 fun _ _ _ => .bl _
theorem opd_le : OpD X P (rI0 fun i j => .bl (decide (i ≤ j))) leD := opd_int0 fun _ _ _ => .bl _
theorem opd_gt : OpD X P (rI0 fun i j => .bl (decide (j < i))) gtD := opd_int0 fun _ _ _ => .bl _
theorem opd_ge : OpD X P (rI0 fun i j => .bl (decide (j ≤ i))) geD := opd_int0 fun _ _ _ => .bl _

/-! ### + : ints, lists, tuples -/
def rCatL (K : PySem.W.Frag) : R2 := fun x y H Q => ∃ l b xs zs, x = .ref l ∧ y = .ref b ∧ SqL K H l xs ∧ SqL K H b zs ∧ xs.length + zs.length ≤ sizeLine ∧ ∀ p, H p = none → Q (.ref p) (upd H p (.lst (xs ++ zs)))
theorem op_catL : OpR X (binaryOp .Add) (rCatL X.K) := by
  intro pins s σ H x y v u Q I rx ry h
  obtain ⟨l, b, xs, zs, rfl, rfl, hH, hB, hz, q⟩ := h
  cases rx
  cases ry
  obtain ⟨its, r, ⟨o, n, ho, hc, _, hd⟩, _⟩ := I.list hH
  obtain ⟨its2, r2, ⟨o2, n2, ho2, hc2, _, hd2⟩, _⟩ := I.list hB
  have l1 := r.length
  have l2 := r2.length
  obtain ⟨c1, dd, d1, sl⟩ := o
  obtain ⟨c2, dd2, d2, sl2⟩ := o2
  dsimp only at hc hd hc2 hd2
  subst hc hd hc2 hd2
  refine concat_meets ⟨_, ho, rfl⟩ ⟨_, ho2, rfl⟩ noFill_list_add seq_list_add PySem.F.slot_list_add PySem.F.entry_list_add (PySem.F.args_list_add_2 _ _) (list_addW l b its.toArray its2.toArray n n2 dd dd2 sl sl2 (by rw [List.size_toArray, List.size_toArray]; omega)) ⟨ho, ho2, ?_⟩
  have ea : its.toArray ++ its2.toArray = (its ++ its2).toArray := by simp
  rw [ea]
  exact ⟨.ref _, _, I.lnew (t' := s.toks) (r.append r2) (by rw [List.length_append]; omega), rfl, q _ I.fresh⟩
def addD : D → D → Option D
  | .int i, .int j => some (.int (i + j))
  | .list xs, .list ys => if xs.length + ys.length ≤ 16777216 then some (.list (xs ++ ys)) else none
  | .tuple xs, .tuple ys => if xs.length + ys.length ≤ 16777216 then some (.tuple (xs ++ ys)) else none
  | _, _ => none
def rAddA (K : PySem.W.Frag) : R2 := fun x y H Q => (rI0 fun i j => .int (i + j)) x y H Q ∨ (rCatL K x y H Q ∨ rCatA K x y H Q)
theorem op_addA : OpR X (binaryOp .Add) (rAddA X.K) := op_add.or (op_catL.or op_catA)
theorem rp_new {K : Frag} {F : Hp} {p : Addr} {xs : List V} {ds : List D} (h : RpAll K F xs ds) (hp : F p = none) : Rp K (upd F p (.lst xs)) (.ref p) (.list ds) :=
  .lst (.inl (.inl upd_same)) (h.mono fun b o q => by rw [upd_ne (ne_of_none q hp)]; exact q)
theorem rp_newT {K : Frag} {F : Hp} {p : Addr} {xs : List V} {ds : List D} (h : RpAll K F xs ds) (hp : F p = none) : Rp K (upd F p (.tup xs)) (.ref p) (.tuple ds) :=
  .tup (.inl (.inl upd_same)) (h.mono fun b o q => by rw [upd_ne (ne_of_none q hp)]; exact q)
theorem Same.upd {H : Hp} {p : Addr} {o : HO} (hp : H p = none) : Same H (upd H p o) := fun b u q => by rw [upd_ne (ne_of_none q hp)]; exact q
theorem opd_add (hK : P.K.K = X.K) : OpD X P (rAddA X.K) addD := by
  intro c F H L ρ x y d e z Q R n1 n2 hz q
  have hs : sizeLine = 16777216 := sizeLine_eq
  unfold addD at hz
  split at hz
  · rename_i i j
    cases wid hz
    exact .inl ⟨i, j, n1.int, n2.int, q F H _ (Same.refl F) R (.int _)⟩
  · rename_i xs ys
    split at hz
    · rename_i hl
      cases wid hz
      obtain ⟨a1, vs, rfl, h1, r1⟩ := n1.list R.sub
      obtain ⟨a2, ws, rfl, h2, r2⟩ := n2.list R.sub
      rw [hK] at h1 h2
      refine .inr (.inl ⟨a1, a2, vs, ws, rfl, rfl, h1, h2, by rw [r1.length, r2.length]; omega, fun p hp => ?_⟩)
      have hF : F p = none := R.sub.free hp
      exact q _ _ _ (Same.upd hF) (R.new hp) (rp_new (r1.append r2) hF)
    · cases hz
  · rename_i xs ys
    split at hz
    · rename_i hl
      cases wid hz
      obtain ⟨a1, vs, rfl, h1, f1, r1⟩ := n1.tuple R.sub
      obtain ⟨a2, ws, rfl, h2, f2, r2⟩ := n2.tuple R.sub
      rw [hK] at h1 h2
      refine .inr (.inr ⟨a1, a2, vs, ws, rfl, rfl, h1, h2, by rw [r1.length, r2.length]; omega, fun e => ?_, fun _ e => ?_, fun _ _ p hp => ?_⟩)
      · subst e
        cases r1
        rw [List.nil_append] at q
        exact q F H _ (Same.refl F) R (.tup f2 r2)
      · subst e
        cases r2
        rw [List.append_nil] at q
        exact q F H _ (Same.refl F) R (.tup f1 r1)
      · have hF : F p = none := R.sub.free hp
        exact q _ _ _ (Same.upd hF) (R.new hp) (rp_newT (r1.append r2) hF)
    · cases hz
  · cases hz

/-! ### * : ints -/
def mulD : D → D → Option D := intOp mulC fun i j => .int (i * j)
theorem opd_mul : OpD X P (rI CMulX fun i j => .int (i * j)) mulD := opd_int (fun i j h => by
  unfold mulC at h
  rw [Bool.or_eq_true, Bool.or_eq_true] at h
  rcases h with h | h | h
  · have h : i.natAbs.log2 + j.natAbs.log2 < 1000000 := of_decide_eq_true h
    exact .inl h
  · have h := of_decide_eq_true h
    exact .inr (.inl ⟨by omega, by omega⟩)
  · have h := of_decide_eq_true h
    exact .inr (.inr ⟨by omega, by omega⟩)) fun _ _ _ => .int _

/-! ### == and != of data -/
mutual
def noDict : D → Bool
  | .dict _ => false
  | .list xs => noDictAll xs
  | .tuple xs => noDictAll xs
  | _ => true
def noDictAll : List D → Bool
  | [] => true
  | x :: xs => noDict x && noDictAll xs
end
mutual
theorem Rp.dp {K : Frag} {F : Hp} : ∀ {v : V} {d : D}, Rp K F v d → d.canLay0 = true → Dp K.K F v d
  | _, _, .non, _ => .non
  | _, _, .bl b, _ => .bl b
  | _, _, .int i, _ => .int i
  | _, _, .str x, _ => .str x
  | _, _, .lst h a, e => .lst h (RpAll.dp a (by simpa [PyData.canLay0] using e))
  | _, _, .tup h a, e => .tup h (RpAll.dp a (by simpa [PyData.canLay0] using e))
  | _, _, .dic h a, e => by simp [PyData.canLay0] at e
theorem RpAll.dp {K : Frag} {F : Hp} : ∀ {v : List V} {d : List D}, RpAll K F v d → PyData.canLayAll0 d = true → DpAll K.K F v d
  | _, _, .nil, _ => .nil
  | _, _, .cons h t, e => by
    simp only [PyData.canLayAll0, Bool.and_eq_true] at e
    exact .cons (Rp.dp h e.1) (RpAll.dp t e.2)
end
theorem rpAll_mono_H {K : Frag} {F H : Hp} (s : Same F H) {xs : List V} {ds : List D} (h : RpAll K F xs ds) : RpAll K H xs ds := h.mono s
theorem Now.dp {K : Frag} {F H : Hp} {v : V} {d : D} (n : Now K F H v d) (s : Same F H) (e : SeqAt.shaped d = true) : Dp K.K H v d := by
  have e' : d.canLay0 = true := by unfold SeqAt.shaped at e; exact (Bool.and_eq_true_iff.mp e).1
  cases n with
  | dat h => exact Rp.dp (h.mono s) e'
  | own e1 e2 hF hH h =>
    subst e1 e2
    exact Rp.dp (.lst (.inl (.inl hH)) (h.mono s)) e'
def eqD (d e : D) : Option D := if SeqAt.shaped d && SeqAt.shaped e then some (.bool (PyData.eqv d e)) else none
def neD (d e : D) : Option D := if SeqAt.shaped d && SeqAt.shaped e then some (.bool (!PyData.eqv d e)) else none
theorem opd_eq (hK : P.K.K = X.K) : OpD X P (rEqD X.K) eqD := by
  intro c F H L ρ x y d e z Q R n1 n2 hz q
  unfold eqD at hz
  split at hz
  · rename_i h
    cases wid hz
    obtain ⟨h1, h2⟩ := Bool.and_eq_true_iff.mp h
    exact ⟨d, e, hK ▸ n1.dp R.sub h1, hK ▸ n2.dp R.sub h2, h1, h2, q F H _ (Same.refl F) R (.bl _)⟩
  · cases hz
theorem opd_ne (hK : P.K.K = X.K) : OpD X P (rNeD X.K) neD := by
  intro c F H L ρ x y d e z Q R n1 n2 hz q
  unfold neD at hz
  split at hz
  · rename_i h
    cases wid hz
    obtain ⟨h1, h2⟩ := Bool.and_eq_true_iff.mp h
    exact ⟨d, e, hK ▸ n1.dp R.sub h1, hK ▸ n2.dp R.sub h2, h1, h2, q F H _ (Same.refl F) R (.bl _)⟩
  · cases hz

/-! ### x[i] -/
def ixD : D → D → Option D
  | .list xs, .int i => atI xs i
  | .tuple xs, .int i => atI xs i
  | _, _ => none
theorem atI_rp {K : Frag} {F : Hp} {xs : List V} {ds : List D} {i : Int} {d : D} (h : RpAll K F xs ds) (e : atI ds i = some d) : ∃ v, atI xs i = some v ∧ Rp K F v d := by
  unfold atI at e ⊢
  rw [h.length]
  cases q : ixN ds.length i with
  | none => rw [q] at e; simp at e
  | some j =>
    rw [q, Option.bind_some] at e
    rw [Option.bind_some]
    exact h.get e
def rIxLT (K : PySem.W.Frag) : R2 := fun x y H Q => rIxL K x y H Q ∨ rIxT K x y H Q
theorem opd_ix (hK : P.K.K = X.K) : OpD X P (rIxLT X.K) ixD := by
  intro c F H L ρ x y d e z Q R n1 n2 hz q
  unfold ixD at hz
  split at hz
  · obtain ⟨a1, vs, rfl, h1, r1⟩ := n1.list R.sub
    obtain ⟨v, e1, r⟩ := atI_rp r1 hz
    exact .inl ⟨a1, vs, _, v, rfl, n2.int, hK ▸ h1, e1, q F H v (Same.refl F) R r⟩
  · obtain ⟨a1, vs, rfl, h1, _, r1⟩ := n1.tuple R.sub
    obtain ⟨v, e1, r⟩ := atI_rp r1 hz
    exact .inr ⟨a1, vs, _, v, rfl, n2.int, hK ▸ h1, e1, q F H v (Same.refl F) R r⟩
  · cases hz
theorem de_ix {ma mb : M DR} (hK : P.K.K = X.K) (ha : PE X a (tE P ma)) (hb : PE X b (tE P mb)) (hs : PlainIx b) : PE X (.Subscript a b pos) (tE P (eOp2 ixD ma mb)) :=
  (pe_ix (ix_list.or ix_tup) ha hb hs).of (tE_op2 (opd_ix hK))

/-! ### one operand -/
def eOp1 (f : D → Option D) (ma : M DR) : M DR := M.bind ma fun x => M.bind (rd x) fun d => M.bind (M.opt (f d)) fun z => M.ok (.dat z)
theorem Ho.now1 {β : Type} {c : Ct} {F H : Hp} {σ : L2.St} {τ : List (Option V)} {r : DR} {k : D → M β} {ρ : List DV} {v : V} {Φ : β → List DV → Hp → Hp → Prop} (h : Ho P c F σ τ (M.bind (DL.rd r) k ρ) Φ) (R : Rl P.K c F ρ (σ ++ τ) H) (hv : RefV P.K F (σ ++ τ) v r) :
    ∃ d, Ho P c F σ τ (k d ρ) Φ ∧ Now P.K F H v d := by
  obtain ⟨d, _, h1, h2⟩ := Ho.rd h R hv
  refine ⟨d, h1, ?_⟩
  rcases h2 with h2 | ⟨a, xs, ds, e1, e2, e3, e4, e5⟩
  · exact .dat h2
  · exact .own e1 e2 e3 e4 e5
def UnD (P : Ps) (r : V → Hp → VK → Prop) (f : D → Option D) : Prop :=
  ∀ (c : Ct) (F H : Hp) (L : List (Option V)) (ρ : List DV) (x : V) (d z : D) (Q : VK), Rl P.K c F ρ L H → Now P.K F H x d → f d = some z →
    (∀ F' H' v, Same F F' → Rl P.K c F' ρ L H' → Rp P.K F' v z → Q v H') → r x H Q
theorem tE_op1 {r : V → Hp → VK → Prop} {f : D → Option D} {ma : M DR} (h : UnD P r f) (σ : L2.St) (H : Hp) (Q : VK) (q : tE P (eOp1 f ma) σ H Q) : tUn r (tE P ma) σ H Q := by
  obtain ⟨c, F, τ, ρ, R, q⟩ := q
  refine ⟨c, F, τ, ρ, R, (Ho.bind q).mono fun x ρ1 F1 H1 s1 R1 q1 v hv => ?_⟩
  obtain ⟨d, q2, n⟩ := Ho.now1 q1 R1 hv
  obtain ⟨z, ez, q3⟩ := Ho.opt (H := H1) q2
  exact h c F1 H1 (σ ++ τ) ρ1 v d z Q R1 n ez fun F' H' w s R' rp => q3 F' H' s R' w rp
def negD : D → Option D
  | .int i => some (.int (-i))
  | _ => none
theorem de_neg {ma : M DR} (ha : PE X a (tE P ma)) : PE X (.UnaryOp .USub a pos) (tE P (eOp1 negD ma)) := (pe_un un_neg ha).of (tE_op1 (by
  intro c F H L ρ x d z Q R n hz q
  unfold negD at hz
  split at hz
  · cases wid hz
    exact ⟨_, n.int, q F H _ (Same.refl F) R (.int _)⟩
  · cases hz))

/-! ### is None -/
def isNoneB : D → Bool
  | .none => true
  | _ => false
def isNoneD (neg : Bool) : D → Option D := fun d => some (.bool (if neg then !isNoneB d else isNoneB d))
theorem Now.isN {K : Frag} {F H : Hp} {v : V} {d : D} (n : Now K F H v d) : decide (v = .non) = isNoneB d := by
  cases n with
  | dat h => cases h <;> rfl
  | own e e' => rw [e, e']; rfl
theorem de_isN {ma : M DR} {j : Nat} {p2 : Pos} (ha : PE X a (tE P ma)) : PE X (.Compare a [.Is] [.Constant .none j p2] pos) (tE P (eOp1 (isNoneD false) ma)) := by
  refine (pe_cmp (pc_isN ha) rfl).of fun σ H Q q => ?_
  obtain ⟨c, F, τ, ρ, R, q⟩ := q
  refine ⟨c, F, τ, ρ, R, (Ho.bind q).mono fun x ρ1 F1 H1 s1 R1 q1 v hv => ?_⟩
  obtain ⟨d, q2, n⟩ := Ho.now1 q1 R1 hv
  obtain ⟨z, ez, q3⟩ := Ho.opt (H := H1) q2
  unfold isNoneD at ez
  cases wid ez
  refine q3 F1 H1 (Same.refl _) R1 _ ?_
  rw [n.isN]
  exact .bl _
theorem de_notN {ma : M DR} {j : Nat} {p2 : Pos} (ha : PE X a (tE P ma)) : PE X (.Compare a [.IsNot] [.Constant .none j p2] pos) (tE P (eOp1 (isNoneD true) ma)) := by
  refine (pe_cmp (pc_notN ha) rfl).of fun σ H Q q => ?_
  obtain ⟨c, F, τ, ρ, R, q⟩ := q
  refine ⟨c, F, τ, ρ, R, (Ho.bind q).mono fun x ρ1 F1 H1 s1 R1 q1 v hv => ?_⟩
  obtain ⟨d, q2, n⟩ := Ho.now1 q1 R1 hv
  obtain ⟨z, ez, q3⟩ := Ho.opt (H := H1) q2
  unfold isNoneD at ez
  cases wid ez
  refine q3 F1 H1 (Same.refl _) R1 _ ?_
  rw [n.isN]
  exact .bl _
theorem tT_tB {m : M DR} {t : TE} (w : ∀ σ H Q, tE P m σ H Q → t σ H Q) (σ : L2.St) (H : Hp) (Q : Bool → Hp → Prop) (q : tT P (eB m) σ H Q) : tB t σ H Q := by
  obtain ⟨c, F, τ, ρ, R, q⟩ := tT_B (P := P) σ H Q q
  exact w σ H _ ⟨c, F, τ, ρ, R, q⟩
theorem dt_isN {ma : M DR} {j : Nat} {p2 : Pos} (ha : PE X a (tE P ma)) : PT X (.Compare a [.Is] [.Constant .none j p2] pos) (tT P (eB (eOp1 (isNoneD false) ma))) := by
  refine (pt_cmp (pc_isN ha) rfl).of fun σ H Q q => tT_tB (t := tIsN (tE P ma)) (fun σ H Q q => ?_) σ H Q q
  obtain ⟨c, F, τ, ρ, R, q⟩ := q
  refine ⟨c, F, τ, ρ, R, (Ho.bind q).mono fun x ρ1 F1 H1 s1 R1 q1 v hv => ?_⟩
  obtain ⟨d, q2, n⟩ := Ho.now1 q1 R1 hv
  obtain ⟨z, ez, q3⟩ := Ho.opt (H := H1) q2
  unfold isNoneD at ez
  cases wid ez
  refine q3 F1 H1 (Same.refl _) R1 _ ?_
  rw [n.isN]
  exact .bl _
theorem dt_notN {ma : M DR} {j : Nat} {p2 : Pos} (ha : PE X a (tE P ma)) : PT X (.Compare a [.IsNot] [.Constant .none j p2] pos) (tT P (eB (eOp1 (isNoneD true) ma))) := by
  refine (pt_cmp (pc_notN ha) rfl).of fun σ H Q q => tT_tB (t := tNotN (tE P ma)) (fun σ H Q q => ?_) σ H Q q
  obtain ⟨c, F, τ, ρ, R, q⟩ := q
  refine ⟨c, F, τ, ρ, R, (Ho.bind q).mono fun x ρ1 F1 H1 s1 R1 q1 v hv => ?_⟩
  obtain ⟨d, q2, n⟩ := Ho.now1 q1 R1 hv
  obtain ⟨z, ez, q3⟩ := Ho.opt (H := H1) q2
  unfold isNoneD at ez
  cases wid ez
  refine q3 F1 H1 (Same.refl _) R1 _ ?_
  rw [n.isN]
  exact .bl _
end
end DL

set_option Elab.async false
set_option linter.all false
set_option maxRecDepth 100000
set_option maxHeartbeats 4000000
/-! DL4: freezing; tests; displays; arguments; calls of built-ins. -/
namespace DL
open PySem PySem.Spec PyProof.Rows L2

/-! ### freezing an own list -/
theorem set_at {α : Type} {l : List α} {i j : Nat} {x y : α} (h : (l.set i x)[j]? = some y) : (j = i ∧ y = x) ∨ (j ≠ i ∧ l[j]? = some y) := by
  by_cases e : i = j
  · subst e
    by_cases hi : i < l.length
    · rw [List.getElem?_set_self hi] at h; exact .inl ⟨rfl, (Option.some.inj h).symm⟩
    · rw [List.getElem?_eq_none (by rw [List.length_set]; omega)] at h; cases h
  · rw [List.getElem?_set_ne e] at h; exact .inr ⟨fun z => e z.symm, h⟩
section
variable {K : Frag} {F F' H : Hp} {c : Ct} {ρ : List DV} {L : List (Option V)}
theorem Rl.freeze {p : Nat} {a : Addr} {xs : List V} {ds : List D} (R : Rl K c F ρ L H) (e : ρ[p]? = some (.lst ds)) (l : L[p]? = some (some (.ref a))) :
    ∃ xs, H a = some (.lst xs) ∧ F a = none ∧ RpAll K F xs ds ∧ Rl K c (upd F a (.lst xs)) (ρ.set p (.dat (.list ds))) L H := by
  obtain ⟨a', xs, e1, e2, e3, e4⟩ := R.slot p _ _ e l
  cases e1
  have eF : Same F (upd F a (.lst xs)) := fun b u q => by rw [upd_ne (ne_of_none q e2)]; exact q
  refine ⟨xs, e3, e2, e4, ⟨by rw [List.length_set]; exact R.len, fun b u q => ?_, R.keep, fun i x v e5 e6 => ?_, fun i j x y b h1 h2 o1 o2 l1 l2 => ?_, fun i x b h1 o1 l1 => ?_, fun i es b h1 l1 => ?_, fun q hq => ?_, fun b u q => ?_⟩⟩
  · by_cases hb : b = a
    · subst hb; rw [upd_same] at q; cases q; exact e3
    · rw [upd_ne hb] at q; exact R.sub b u q
  · rcases set_at e5 with ⟨rfl, rfl⟩ | ⟨hne, e5⟩
    · rw [l] at e6
      cases e6
      exact ⟨.ref a, rfl, .lst (.inl (.inl upd_same)) (e4.mono eF)⟩
    · refine (R.slot i x v e5 e6).mono eF fun b ys hv ho h1 h2 => ⟨?_, h2⟩
      have : b ≠ a := fun z => by
        subst z
        subst hv
        exact hne (R.sep i p x _ b e5 e ho (by simp [DV.own]) e6 l)
      rw [upd_ne this]; exact h1
  · rcases set_at h1 with ⟨_, rfl⟩ | ⟨_, h1⟩
    · exact absurd rfl o1
    · rcases set_at h2 with ⟨_, rfl⟩ | ⟨_, h2⟩
      · exact absurd rfl o2
      · exact R.sep i j x y b h1 h2 o1 o2 l1 l2
  · rcases set_at h1 with ⟨_, rfl⟩ | ⟨_, h1⟩
    · exact absurd rfl o1
    · exact R.fresh i x b h1 o1 l1
  · rcases set_at h1 with ⟨_, q⟩ | ⟨_, h1⟩
    · cases q
    · exact R.nobor i es b h1 l1
  · obtain ⟨⟨es, e'⟩, l'⟩ := R.lent q hq
    refine ⟨⟨es, ?_⟩, l'⟩
    rw [List.getElem?_set_ne (fun z => by rw [z] at e; rw [e] at e'; cases e')]
    exact e'
  · by_cases hb : b = a
    · subst hb
      rcases R.fresh p _ b e (by simp [DV.own]) l with g | g
      · exact .inr g
      · exact absurd g (R.nobor p ds b e l)
    · rw [upd_ne hb] at q; exact R.born b u q
end
def frz (r : DR) : M D := fun ρ => match r with
  | .dat d => some (.ok d, ρ)
  | .loc p => match ρ[p]? with
    | some (.lst ds) => some (.ok (.list ds), ρ.set p (.dat (.list ds)))
    | _ => none
  | .exc _ _ => none
def frzAll : List DR → M (List D)
  | [] => M.ok []
  | r :: rs => M.bind (frz r) fun d => M.bind (frzAll rs) fun ds => M.ok (d :: ds)
section
variable {X : Cx} {P : Ps} {a b e : Expr} {pos : Pos} {c : Ct} {F H : Hp} {σ : L2.St} {τ : List (Option V)}
theorem Ho.frz {β : Type} {r : DR} {k : D → M β} {ρ : List DV} {v : V} {Φ : β → List DV → Hp → Hp → Prop} (h : Ho P c F σ τ (M.bind (DL.frz r) k ρ) Φ) (R : Rl P.K c F ρ (σ ++ τ) H) (hv : RefV P.K F (σ ++ τ) v r) :
    ∃ d F1 ρ1, Same F F1 ∧ Rl P.K c F1 ρ1 (σ ++ τ) H ∧ Rp P.K F1 v d ∧ Ho P c F1 σ τ (k d ρ1) Φ := by
  cases r with
  | dat d => exact ⟨d, F, ρ, Same.refl F, R, hv, h⟩
  | exc c d => exact (show False from h).elim
  | loc p =>
    unfold M.bind DL.frz at h
    dsimp only at h
    cases q : ρ[p]? with
    | none => rw [q] at h; exact (show False from h).elim
    | some x =>
      rw [q] at h
      cases x with
      | lst ds =>
        obtain ⟨a, xs, e1, _⟩ := R.slot p _ _ q hv
        cases e1
        obtain ⟨xs, h1, h2, h3, R'⟩ := R.freeze (xs := xs) q hv
        have sF : Same F (upd F a (.lst xs)) := Same.upd h2
        exact ⟨.list ds, _, _, sF, R', .lst (.inl (.inl upd_same)) (h3.mono sF), Ho.from h sF⟩
      | _ => exact (show False from h).elim
theorem Ho.frzAll {β : Type} : ∀ {rs : List DR} {k : List D → M β} {ρ : List DV} {vs : List V} {F : Hp} {Φ : β → List DV → Hp → Hp → Prop} (h : Ho P c F σ τ (M.bind (DL.frzAll rs) k ρ) Φ) (R : Rl P.K c F ρ (σ ++ τ) H) (hv : Paired (RefV P.K F (σ ++ τ)) vs rs),
    ∃ ds F1 ρ1, Same F F1 ∧ Rl P.K c F1 ρ1 (σ ++ τ) H ∧ RpAll P.K F1 vs ds ∧ Ho P c F1 σ τ (k ds ρ1) Φ
  | [], k, ρ, _, F, Φ, h, R, .nil => ⟨[], F, ρ, Same.refl F, R, .nil, h⟩
  | r :: rs, k, ρ, v :: vs, F, Φ, h, R, .cons h1 h2 => by
    have h' : Ho P c F σ τ (M.bind (DL.frz r) (fun d => M.bind (DL.frzAll rs) fun ds => k (d :: ds)) ρ) Φ := by
      have e : M.bind (DL.frzAll (r :: rs)) k ρ = M.bind (DL.frz r) (fun d => M.bind (DL.frzAll rs) fun ds => k (d :: ds)) ρ := by
        show M.bind (M.bind (DL.frz r) fun d => M.bind (DL.frzAll rs) fun ds => M.ok (d :: ds)) k ρ = _
        unfold M.bind
        cases DL.frz r ρ with
        | none => rfl
        | some o =>
          obtain ⟨o, ρ1⟩ := o
          cases o with
          | error x => rfl
          | ok d =>
            dsimp only
            cases DL.frzAll rs ρ1 with
            | none => rfl
            | some o =>
              obtain ⟨o, ρ2⟩ := o
              cases o <;> rfl
      rw [← e]; exact h
    obtain ⟨d, F1, ρ1, s1, R1, r1, q1⟩ := Ho.frz h' R h1
    obtain ⟨ds, F2, ρ2, s2, R2, r2, q2⟩ := Ho.frzAll q1 R1 (L2.Paired.mapP h2 fun v r x => x.mono s1)
    exact ⟨d :: ds, F2, ρ2, s1.trans s2, R2, .cons (r1.mono s2) r2, q2⟩

/-! ### and, or, not, if -/
def andT (m1 m2 : M Bool) : M Bool := M.bind m1 fun b => if b = true then m2 else M.ok false
def orT (m1 m2 : M Bool) : M Bool := M.bind m1 fun b => if b = true then M.ok true else m2
def notT (m : M Bool) : M Bool := M.bind m fun b => M.ok (!b)
theorem _root_.L2.PW.of {X : Cx} {e : Expr} {t t' : TT} (h : PW X e t) (w : ∀ σ H Q, t' σ H Q → t σ H Q) : PW X e t' := ⟨fun wh pins s σ H Q I q => h.run wh pins s σ H Q I (w _ _ _ q)⟩
section
variable {rest : List Expr} {m1 m2 : M Bool}
theorem dw_and (ha : PT X a (tT P m1)) (hb : PW X (.BoolOp .And (b :: rest) pos) (tT P m2)) : PW X (.BoolOp .And (a :: b :: rest) pos) (tT P (andT m1 m2)) := by
  refine (pw_and ha hb).of fun σ H Q q => ?_
  obtain ⟨c, F, τ, ρ, R, q⟩ := q
  refine ⟨c, F, τ, ρ, R, (Ho.bind q).mono fun x ρ1 F1 H1 s1 R1 q1 => ?_⟩
  cases x with
  | true => exact ⟨c, F1, τ, ρ1, R1, q1⟩
  | false => exact Ho.now q1 R1
theorem dw_or (ha : PT X a (tT P m1)) (hb : PW X (.BoolOp .Or (b :: rest) pos) (tT P m2)) : PW X (.BoolOp .Or (a :: b :: rest) pos) (tT P (orT m1 m2)) := by
  refine (pw_or ha hb).of fun σ H Q q => ?_
  obtain ⟨c, F, τ, ρ, R, q⟩ := q
  refine ⟨c, F, τ, ρ, R, (Ho.bind q).mono fun x ρ1 F1 H1 s1 R1 q1 => ?_⟩
  cases x with
  | true => exact Ho.now q1 R1
  | false => exact ⟨c, F1, τ, ρ1, R1, q1⟩
theorem dt_not (ha : PT X a (tT P m1)) : PT X (.UnaryOp .Not a pos) (tT P (notT m1)) := by
  refine (pt_not ha).of fun σ H Q q => ?_
  obtain ⟨c, F, τ, ρ, R, q⟩ := q
  exact ⟨c, F, τ, ρ, R, (Ho.bind q).mono fun x ρ1 F1 H1 s1 R1 q1 => Ho.now q1 R1⟩
end
/-- as values (bools all but the last) -/
def andV (m1 m2 : M DR) : M DR := M.bind (eB m1) fun b => if b = true then m2 else M.ok (.dat (.bool false))
def orV (m1 m2 : M DR) : M DR := M.bind (eB m1) fun b => if b = true then M.ok (.dat (.bool true)) else m2
def notV (m : M DR) : M DR := M.bind (eB m) fun b => M.ok (.dat (.bool (!b)))
section
variable {rest : List Expr} {m1 m2 : M DR}
theorem Ho.bl {m : M DR} {β : Type} {k : Bool → M β} {ρ : List DV} {Φ : β → List DV → Hp → Hp → Prop} (h : Ho P c F σ τ (M.bind (eB m) k ρ) Φ) :
    Ho P c F σ τ (m ρ) fun r ρ1 F1 H1 => ∀ v, RefV P.K F1 (σ ++ τ) v r → ∃ b, v = .bl b ∧ Ho P c F1 σ τ (k b ρ1) Φ := by
  have h1 := Ho.bind h
  refine (Ho.bind (show Ho P c F σ τ (M.bind m asB ρ) _ from h1)).mono fun r ρ1 F1 H1 s1 R1 q1 v hv => ?_
  cases r with
  | loc p => exact (show False from q1).elim
  | exc c d => exact (show False from q1).elim
  | dat d =>
    cases d with
    | bool b =>
      cases (show Rp P.K F1 v (.bool b) from hv)
      exact ⟨b, rfl, q1 F1 H1 (Same.refl _) R1⟩
    | _ => exact (show False from q1).elim
theorem de_and (ha : PE X a (tE P m1)) (hb : PE X (.BoolOp .And (b :: rest) pos) (tE P m2)) : PE X (.BoolOp .And (a :: b :: rest) pos) (tE P (andV m1 m2)) := by
  refine (pe_and ha hb).of fun σ H Q q => ?_
  obtain ⟨c, F, τ, ρ, R, q⟩ := q
  refine ⟨c, F, τ, ρ, R, (Ho.bl q).mono fun r ρ1 F1 H1 s1 R1 q1 v hv => ?_⟩
  obtain ⟨x, e, q1⟩ := q1 v hv
  refine ⟨x, e, ?_⟩
  cases x with
  | true => exact ⟨c, F1, τ, ρ1, R1, q1⟩
  | false => exact Ho.now q1 R1 _ (.bl false)
theorem de_or (ha : PE X a (tE P m1)) (hb : PE X (.BoolOp .Or (b :: rest) pos) (tE P m2)) : PE X (.BoolOp .Or (a :: b :: rest) pos) (tE P (orV m1 m2)) := by
  refine (pe_or ha hb).of fun σ H Q q => ?_
  obtain ⟨c, F, τ, ρ, R, q⟩ := q
  refine ⟨c, F, τ, ρ, R, (Ho.bl q).mono fun r ρ1 F1 H1 s1 R1 q1 v hv => ?_⟩
  obtain ⟨x, e, q1⟩ := q1 v hv
  refine ⟨x, e, ?_⟩
  cases x with
  | true => exact Ho.now q1 R1 _ (.bl true)
  | false => exact ⟨c, F1, τ, ρ1, R1, q1⟩
theorem de_not (ha : PE X a (tE P m1)) : PE X (.UnaryOp .Not a pos) (tE P (notV m1)) := by
  refine (pe_not ha).of fun σ H Q q => ?_
  obtain ⟨c, F, τ, ρ, R, q⟩ := q
  refine ⟨c, F, τ, ρ, R, (Ho.bl q).mono fun r ρ1 F1 H1 s1 R1 q1 v hv => ?_⟩
  obtain ⟨x, e, q1⟩ := q1 v hv
  exact ⟨x, e, Ho.now q1 R1 _ (.bl _)⟩
/-- any expression whose value is a bool, as a test -/
theorem dt_val {m : M DR} (h : PE X e (tE P m)) (he : ∀ whole, isTrue e X.env whole = (do let v ← whole; standAt e.pos; holding [v] (truthy v))) : PT X e (tT P (eB m)) :=
  (pt_val h he).of fun σ H Q q => tT_B (P := P) σ H Q q
def ifV (mc : M Bool) (m1 m2 : M DR) : M DR := M.bind mc fun b => if b = true then m1 else m2
theorem de_if {c : Expr} {mc : M Bool} (hc : PT X c (tT P mc)) (ha : PE X a (tE P m1)) (hb : PE X b (tE P m2)) : PE X (.IfExp c a b pos) (tE P (ifV mc m1 m2)) := by
  refine (pe_ifExp hc ha hb).of fun σ H Q q => ?_
  obtain ⟨c, F, τ, ρ, R, q⟩ := q
  refine ⟨c, F, τ, ρ, R, (Ho.bind q).mono fun x ρ1 F1 H1 s1 R1 q1 => ?_⟩
  cases x with
  | true => exact ⟨c, F1, τ, ρ1, R1, q1⟩
  | false => exact ⟨c, F1, τ, ρ1, R1, q1⟩
/-- a op1 b op2 c -/
def eChain (f g : D → D → Option D) (ma mb mc : M DR) : M DR := M.bind ma fun x => M.bind mb fun y => M.bind (rd x) fun d => M.bind (rd y) fun e => M.bind (M.opt (f d e)) fun z =>
  match z with
  | .bool true => M.bind mc fun w => M.bind (rd y) fun e => M.bind (rd w) fun u => M.bind (M.opt (g e u)) fun z => M.ok (.dat z)
  | .bool false => M.ok (.dat (.bool false))
  | _ => M.no
theorem tE_chain {r r' : R2} {f g : D → D → Option D} {ma mb mc : M DR} (hf : OpD X P r f) (hg : OpD X P r' g) (σ : L2.St) (H : Hp) (Q : VK) (q : tE P (eChain f g ma mb mc) σ H Q) : tChain r r' (tE P ma) (tE P mb) (tE P mc) σ H Q := by
  obtain ⟨c, F, τ, ρ, R, q⟩ := q
  refine ⟨c, F, τ, ρ, R, (Ho.bind q).mono fun x ρ1 F1 H1 s1 R1 q1 v hv => ?_⟩
  refine ⟨c, F1, τ, ρ1, R1, (Ho.bind q1).mono fun y ρ2 F2 H2 s2 R2 q2 u hu => ?_⟩
  obtain ⟨d, q3, n1⟩ := Ho.now1 q2 R2 (hv.mono s2)
  obtain ⟨e, q4, n2⟩ := Ho.now1 q3 R2 hu
  obtain ⟨z, ez, q5⟩ := Ho.opt (H := H2) q4
  refine hf c F2 H2 (σ ++ τ) ρ2 v u d e z _ R2 n1 n2 ez fun F' H' w s R' rp => ?_
  cases z with
  | bool k =>
    cases rp
    refine ⟨k, rfl, ?_⟩
    cases k with
    | false => exact Ho.now (Ho.from (P := P) q5 s) R' _ (.bl false)
    | true =>
      refine ⟨c, F', τ, ρ2, R', (Ho.bind (Ho.from q5 s)).mono fun y3 ρ3 F3 H3 s3 R3 q6 w3 hw3 => ?_⟩
      obtain ⟨e', q7, n3⟩ := Ho.now1 q6 R3 ((hu.mono s).mono s3)
      obtain ⟨u', q8, n4⟩ := Ho.now1 q7 R3 hw3
      obtain ⟨z', ez', q9⟩ := Ho.opt (H := H3) q8
      exact hg c F3 H3 (σ ++ τ) ρ3 u w3 e' u' z' Q R3 n3 n4 ez' fun F' H' w s R' rp => q9 F' H' s R' w rp
  | _ => exact (show False from q5).elim
theorem de_chain {op op' : CmpOp} {r r' : R2} {f g : D → D → Option D} {cx : Expr} {ma mb mc : M DR} (ho : OpR X (compareOp op) r) (hf : OpD X P r f) (ho' : OpR X (compareOp op') r') (hg : OpD X P r' g) (ha : PE X a (tE P ma)) (hb : PE X b (tE P mb)) (hc : PE X cx (tE P mc))
    (hm : lastMarks [op, op'] [b, cx] = false) : PE X (.Compare a [op, op'] [b, cx] pos) (tE P (eChain f g ma mb mc)) := (pe_chain ho ho' ha hb hc hm).of (tE_chain hf hg)
theorem dt_chain {op op' : CmpOp} {r r' : R2} {f g : D → D → Option D} {cx : Expr} {ma mb mc : M DR} (ho : OpR X (compareOp op) r) (hf : OpD X P r f) (ho' : OpR X (compareOp op') r') (hg : OpD X P r' g) (ha : PE X a (tE P ma)) (hb : PE X b (tE P mb)) (hc : PE X cx (tE P mc))
    (hm : lastMarks [op, op'] [b, cx] = false) : PT X (.Compare a [op, op'] [b, cx] pos) (tT P (eB (eChain f g ma mb mc))) := (pt_chain ho ho' ha hb hc hm).of fun σ H Q q => by
  obtain ⟨c, F, τ, ρ, R, q⟩ := tT_B (P := P) σ H Q q
  exact tE_chain hf hg σ H _ ⟨c, F, τ, ρ, R, q⟩
end

/-! ### arguments, displays -/
def aNil : M (List DR) := M.ok []
def aCons (m : M DR) (ms : M (List DR)) : M (List DR) := M.bind m fun r => M.bind ms fun rs => M.ok (r :: rs)
theorem da_nil : PA X [] (tA P aNil) := pa_nil.of fun σ H Q q => by
  obtain ⟨c, F, τ, ρ, R, q⟩ := q
  exact Ho.now q R [] .nil
theorem paired_mono {P : Ps} {F F' : Hp} {L : List (Option V)} {vs : List V} {rs : List DR} (h : Paired (RefV P.K F L) vs rs) (s : Same F F') : Paired (RefV P.K F' L) vs rs   := L2.Paired.mapP h fun v r x => x.mono s
theorem da_cons {es : List Expr} {m : M DR} {ms : M (List DR)} (ha : PE X e (tE P m)) (hr : PA X es (tA P ms)) (hs : starEach (e :: es) X.env = (false, eval e X.env) :: starEach es X.env) : PA X (e :: es) (tA P (aCons m ms)) := by
  refine (pa_cons ha hr hs).of fun σ H Q q => ?_
  obtain ⟨c, F, τ, ρ, R, q⟩ := q
  refine ⟨c, F, τ, ρ, R, (Ho.bind q).mono fun r ρ1 F1 H1 s1 R1 q1 v hv => ?_⟩
  refine ⟨c, F1, τ, ρ1, R1, (Ho.bind q1).mono fun rs ρ2 F2 H2 s2 R2 q2 vs hvs => ?_⟩
  exact Ho.now q2 R2 (v :: vs) (.cons (hv.mono s2) hvs)
def eTup (ms : M (List DR)) : M DR := M.bind ms fun rs => M.bind (frzAll rs) fun ds => if ds.length ≤ 16777216 then M.ok (.dat (.tuple ds)) else M.no
def eLst (ms : M (List DR)) : M DR := M.bind ms fun rs => M.bind (frzAll rs) fun ds => if ds.length ≤ 16777216 then M.ok (.dat (.list ds)) else M.no
theorem Ho.if_ {α : Type} {p : Prop} [Decidable p] {m : M α} {ρ : List DV} {Φ : α → List DV → Hp → Hp → Prop} (h : Ho P c F σ τ ((if p then m else M.no) ρ) Φ) : p ∧ Ho P c F σ τ (m ρ) Φ := by
  by_cases hp : p
  · rw [if_pos hp] at h; exact ⟨hp, h⟩
  · rw [if_neg hp] at h; exact (show False from h).elim
theorem de_tup {es : List Expr} {k : Nat} {ms : M (List DR)} (h : PA X es (tA P ms)) : PE X (.Tuple es k pos) (tE P (eTup ms)) := by
  refine (pe_tup h).of fun σ H Q q => ?_
  have hs : sizeLine = 16777216 := sizeLine_eq
  obtain ⟨c, F, τ, ρ, R, q⟩ := q
  refine ⟨c, F, τ, ρ, R, (Ho.bind q).mono fun rs ρ1 F1 H1 s1 R1 q1 vs hvs => ?_⟩
  obtain ⟨ds, F2, ρ2, s2, R2, r2, q2⟩ := Ho.frzAll q1 R1 hvs
  obtain ⟨hl, q3⟩ := Ho.if_ q2
  refine ⟨by rw [r2.length]; omega, fun p hp => ?_⟩
  have hF : F2 p = none := R2.sub.free hp
  exact q3 _ _ (Same.upd hF) (R2.new hp) _ (rp_newT r2 hF)
theorem de_lst {es : List Expr} {ms : M (List DR)} (h : PA X es (tA P ms)) : PE X (.List es pos) (tE P (eLst ms)) := by
  refine (pe_lst h).of fun σ H Q q => ?_
  have hs : sizeLine = 16777216 := sizeLine_eq
  obtain ⟨c, F, τ, ρ, R, q⟩ := q
  refine ⟨c, F, τ, ρ, R, (Ho.bind q).mono fun rs ρ1 F1 H1 s1 R1 q1 vs hvs => ?_⟩
  obtain ⟨ds, F2, ρ2, s2, R2, r2, q2⟩ := Ho.frzAll q1 R1 hvs
  obtain ⟨hl, q3⟩ := Ho.if_ q2
  refine ⟨by rw [r2.length]; omega, fun p hp => ?_⟩
  have hF : F2 p = none := R2.sub.free hp
  exact q3 _ _ (Same.upd hF) (R2.new hp) _ (rp_new r2 hF)

/-! ### calls of built-ins -/
def rdAll : List DR → M (List D)
  | [] => M.ok []
  | r :: rs => M.bind (rd r) fun d => M.bind (rdAll rs) fun ds => M.ok (d :: ds)
def eCB (f : List D → Option D) (ms : M (List DR)) : M DR := M.bind ms fun rs => M.bind (rdAll rs) fun ds => M.bind (M.opt (f ds)) fun z => M.ok (.dat z)
theorem M.assoc {α β γ : Type} (m : M α) (k : α → M β) (l : β → M γ) (ρ : List DV) : M.bind (M.bind m k) l ρ = M.bind m (fun a => M.bind (k a) l) ρ := by
  unfold M.bind
  cases m ρ with
  | none => rfl
  | some o =>
    obtain ⟨o, ρ1⟩ := o
    cases o <;> rfl
theorem Ho.rdAll {β : Type} : ∀ {rs : List DR} {k : List D → M β} {ρ : List DV} {vs : List V} {Φ : β → List DV → Hp → Hp → Prop} (h : Ho P c F σ τ (M.bind (DL.rdAll rs) k ρ) Φ) (R : Rl P.K c F ρ (σ ++ τ) H) (hv : Paired (RefV P.K F (σ ++ τ)) vs rs),
    ∃ ds, Paired (Now P.K F H) vs ds ∧ Ho P c F σ τ (k ds ρ) Φ
  | [], k, ρ, _, Φ, h, R, .nil => ⟨[], .nil, h⟩
  | r :: rs, k, ρ, v :: vs, Φ, h, R, .cons h1 h2 => by
    have h' : Ho P c F σ τ (M.bind (DL.rd r) (fun d => M.bind (DL.rdAll rs) fun ds => k (d :: ds)) ρ) Φ := by
      have e : M.bind (DL.rdAll (r :: rs)) k ρ = M.bind (DL.rd r) (fun d => M.bind (DL.rdAll rs) fun ds => k (d :: ds)) ρ := by
        show M.bind (M.bind (DL.rd r) fun d => M.bind (DL.rdAll rs) fun ds => M.ok (d :: ds)) k ρ = _
        rw [M.assoc]
        have z : (fun a => M.bind (M.bind (DL.rdAll rs) fun ds => M.ok (a :: ds)) k) = (fun d => M.bind (DL.rdAll rs) fun ds => k (d :: ds)) := by
          funext d ρ'
          rw [M.assoc]
          rfl
        rw [z]
      rw [← e]; exact h
    obtain ⟨d, q1, n1⟩ := Ho.now1 h' R h1
    obtain ⟨ds, n2, q2⟩ := Ho.rdAll q1 R h2
    exact ⟨d :: ds, .cons n1 n2, q2⟩
/-- a built-in's rule by data -/
def CbD (P : Ps) (r : List V → Hp → VK → Prop) (f : List D → Option D) : Prop :=
  ∀ (c : Ct) (F H : Hp) (L : List (Option V)) (ρ : List DV) (vs : List V) (ds : List D) (z : D) (Q : VK), Rl P.K c F ρ L H → Paired (Now P.K F H) vs ds → f ds = some z →
    (∀ F' H' v, Same F F' → Rl P.K c F' ρ L H' → Rp P.K F' v z → Q v H') → r vs H Q
theorem tE_cb {r : List V → Hp → VK → Prop} {f : List D → Option D} {ms : M (List DR)} (h : CbD P r f) (σ : L2.St) (H : Hp) (Q : VK) (q : tE P (eCB f ms) σ H Q) : tCB r (tA P ms) σ H Q := by
  obtain ⟨c, F, τ, ρ, R, q⟩ := q
  refine ⟨c, F, τ, ρ, R, (Ho.bind q).mono fun rs ρ1 F1 H1 s1 R1 q1 vs hvs => ?_⟩
  obtain ⟨ds, n, q2⟩ := Ho.rdAll q1 R1 hvs
  obtain ⟨z, ez, q3⟩ := Ho.opt (H := H1) q2
  exact h c F1 H1 (σ ++ τ) ρ1 vs ds z Q R1 n ez fun F' H' w s R' rp => q3 F' H' s R' w rp
theorem de_cb {x : Str} {p : Pos} {es : List Expr} {id : String} {r : List V → Hp → VK → Prop} {f : List D → Option D} {ms : M (List DR)} (hc : CallR X (.builtin id) r) (h : CbD P r f) (hg : Gl X x) (hm : X.mg x = none) (hv : bootBuiltins x = some (.builtin id)) (ha : PA X (e :: es) (tA P ms)) (hn : x ≠ "__name__") (hdb : (x == ("__debug__" : Str)) = false)
    (he : starEach (e :: es) X.env = (false, eval e X.env) :: starEach es X.env) (hpl : (backTo pos (starEach es X.env)).any (·.1) = false) : PE X (.Call (.Name x p) (e :: es) [] pos) (tE P (eCB f ms)) := (pe_callB hc hg hm hv ha hn hdb he hpl).of (tE_cb h)
theorem de_cty {x : Str} {p : Pos} {es : List Expr} {T : String} {r : List V → Hp → VK → Prop} {f : List D → Option D} {ms : M (List DR)} (hc : CallR X (.type T) r) (h : CbD P r f) (hg : Gl X x) (hm : X.mg x = none) (hv : bootBuiltins x = some (.type T)) (ha : PA X (e :: es) (tA P ms)) (hn : x ≠ "__name__") (hdb : (x == ("__debug__" : Str)) = false)
    (he : starEach (e :: es) X.env = (false, eval e X.env) :: starEach es X.env) (hpl : (backTo pos (starEach es X.env)).any (·.1) = false) : PE X (.Call (.Name x p) (e :: es) [] pos) (tE P (eCB f ms)) := (pe_callTy hc hg hm hv ha hn hdb he hpl).of (tE_cb h)
def absF : List D → Option D
  | [.int i] => some (.int (if i < 0 then -i else i))
  | _ => none
def maxF : List D → Option D
  | [.int i, .int j] => some (.int (if j > i then j else i))
  | _ => none
def minF : List D → Option D
  | [.int i, .int j] => some (.int (if j < i then j else i))
  | _ => none
def intF : List D → Option D
  | [.int i] => some (.int i)
  | [.bool b] => some (.int (if b then 1 else 0))
  | _ => none
def lenF : List D → Option D
  | [.list xs] => some (.int xs.length)
  | [.tuple xs] => some (.int xs.length)
  | _ => none
theorem now1 {K : Frag} {H : Hp} {vs : List V} {d : D} (h : Paired (Now K F H) vs [d]) : ∃ v, vs = [v] ∧ Now K F H v d := by
  cases h with
  | cons h1 h2 => cases h2; exact ⟨_, rfl, h1⟩
theorem now2 {K : Frag} {H : Hp} {vs : List V} {d e : D} (h : Paired (Now K F H) vs [d, e]) : ∃ v w, vs = [v, w] ∧ Now K F H v d ∧ Now K F H w e := by
  cases h with
  | cons h1 h2 =>
    cases h2 with
    | cons h3 h4 => cases h4; exact ⟨_, _, rfl, h1, h3⟩
theorem cbd_abs : CbD P (fun xs H Q => ∃ i, xs = [.int i] ∧ Q (.int (if i < 0 then -i else i)) H) absF := by
  intro c F H L ρ vs ds z Q R n hz q
  unfold absF at hz
  split at hz
  · cases wid hz
    obtain ⟨v, rfl, n0⟩ := now1 n
    exact ⟨_, by rw [n0.int], q F H _ (Same.refl F) R (.int _)⟩
  · cases hz
theorem cbd_max : CbD P (fun xs H Q => ∃ i j, xs = [.int i, .int j] ∧ Q (.int (if j > i then j else i)) H) maxF := by
  intro c F H L ρ vs ds z Q R n hz q
  unfold maxF at hz
  split at hz
  · cases wid hz
    obtain ⟨v, w, rfl, n1, n2⟩ := now2 n
    exact ⟨_, _, by rw [n1.int, n2.int], q F H _ (Same.refl F) R (.int _)⟩
  · cases hz
theorem cbd_min : CbD P (fun xs H Q => ∃ i j, xs = [.int i, .int j] ∧ Q (.int (if j < i then j else i)) H) minF := by
  intro c F H L ρ vs ds z Q R n hz q
  unfold minF at hz
  split at hz
  · cases wid hz
    obtain ⟨v, w, rfl, n1, n2⟩ := now2 n
    exact ⟨_, _, by rw [n1.int, n2.int], q F H _ (Same.refl F) R (.int _)⟩
  · cases hz
theorem cbd_int : CbD P (fun xs H Q => (∃ i, xs = [.int i] ∧ Q (.int i) H) ∨ ∃ k, xs = [.bl k] ∧ Q (.int (if k then 1 else 0)) H) intF := by
  intro c F H L ρ vs ds z Q R n hz q
  unfold intF at hz
  split at hz
  · cases wid hz
    obtain ⟨v, rfl, n0⟩ := now1 n
    exact .inl ⟨_, by rw [n0.int], q F H _ (Same.refl F) R (.int _)⟩
  · cases wid hz
    obtain ⟨v, rfl, n0⟩ := now1 n
    exact .inr ⟨_, by rw [n0.bool], q F H _ (Same.refl F) R (.int _)⟩
  · cases hz
theorem cbd_len (hK : P.K.K = X.K) : CbD P (fun xs H Q => ∃ p ys, xs = [.ref p] ∧ (SqL X.K H p ys ∨ SqT X.K H p ys) ∧ Q (.int ys.length) H) lenF := by
  intro c F H L ρ vs ds z Q R n hz q
  unfold lenF at hz
  split at hz
  · cases wid hz
    obtain ⟨v, rfl, n0⟩ := now1 n
    obtain ⟨a1, ws, rfl, h1, r1⟩ := n0.list R.sub
    refine ⟨a1, ws, rfl, .inl (hK ▸ h1), q F H _ (Same.refl F) R ?_⟩
    rw [r1.length]; exact .int _
  · cases wid hz
    obtain ⟨v, rfl, n0⟩ := now1 n
    obtain ⟨a1, ws, rfl, h1, _, r1⟩ := n0.tuple R.sub
    refine ⟨a1, ws, rfl, .inr (hK ▸ h1), q F H _ (Same.refl F) R ?_⟩
    rw [r1.length]; exact .int _
  · cases hz
end
end DL

set_option Elab.async false
set_option linter.all false
set_option maxRecDepth 100000
set_option maxHeartbeats 4000000
/-! DL5: statements: stores, if, return, blocks, for, while; lists that are changed. -/
namespace DL
open PySem PySem.Spec PyProof.Rows L2

section
variable {K : Frag} {F F' H : Hp} {c : Ct} {ρ : List DV} {L : List (Option V)}
def DV.isBor : DV → Bool
  | .bor _ => true
  | _ => false
/-- a slot is given data -/
theorem Rl.setD {i : Nat} {v : V} {d : D} (R : Rl K c F ρ L H) (h : Rp K F v d) (hb : ∀ x, ρ[i]? = some x → x.isBor = false) : Rl K c F (ρ.set i (.dat d)) (L.set i (some v)) H := by
  refine ⟨by rw [List.length_set, List.length_set]; exact R.len, R.sub, R.keep, fun j x w e1 e2 => ?_, fun j k x y a e1 e2 o1 o2 l1 l2 => ?_, fun j x a e1 o1 l1 => ?_, fun j es a e1 l1 => ?_, fun q hq => ?_, R.born⟩
  · rcases set_at e1 with ⟨rfl, rfl⟩ | ⟨hne, e1⟩
    · rcases set_at e2 with ⟨_, rfl⟩ | ⟨hne, _⟩
      · exact ⟨v, rfl, h⟩
      · exact absurd rfl hne
    · rcases set_at e2 with ⟨rfl, _⟩ | ⟨_, e2⟩
      · exact absurd rfl hne
      · exact R.slot j x w e1 e2
  · rcases set_at e1 with ⟨_, rfl⟩ | ⟨h1, e1⟩
    · exact absurd rfl o1
    · rcases set_at e2 with ⟨_, rfl⟩ | ⟨h2, e2⟩
      · exact absurd rfl o2
      · rw [List.getElem?_set_ne (fun z => h1 z.symm)] at l1
        rw [List.getElem?_set_ne (fun z => h2 z.symm)] at l2
        exact R.sep j k x y a e1 e2 o1 o2 l1 l2
  · rcases set_at e1 with ⟨_, rfl⟩ | ⟨h1, e1⟩
    · exact absurd rfl o1
    · rw [List.getElem?_set_ne (fun z => h1 z.symm)] at l1
      exact R.fresh j x a e1 o1 l1
  · rcases set_at e1 with ⟨_, q⟩ | ⟨h1, e1⟩
    · cases q
    · rw [List.getElem?_set_ne (fun z => h1 z.symm)] at l1
      exact R.nobor j es a e1 l1
  · obtain ⟨⟨es, e'⟩, l'⟩ := R.lent q hq
    have hne : i ≠ q.1 := fun z => by
      rw [← z] at e'
      exact absurd (hb _ e') (by simp [DV.isBor])
    exact ⟨⟨es, by rw [List.getElem?_set_ne hne]; exact e'⟩, by rw [List.getElem?_set_ne hne]; exact l'⟩
/-- the last temporary becomes the slot i's -/
theorem Rl.popTo {i : Nat} {v : V} {ds : List D} (R : Rl K c F (ρ ++ [.lst ds]) (L ++ [some v]) H) (hl : ρ.length = L.length) (hb : ∀ x, ρ[i]? = some x → x.isBor = false) : Rl K c F (ρ.set i (.lst ds)) (L.set i (some v)) H := by
  have lt_ : ∀ {j : Nat} {x : DV}, ρ[j]? = some x → (ρ ++ [DV.lst ds])[j]? = some x := fun {j x} e => by
    rw [List.getElem?_append_left (List.getElem?_eq_some_iff.mp e).1]; exact e
  have ltL : ∀ {j : Nat} {x : Option V}, L[j]? = some x → (L ++ [some v])[j]? = some x := fun {j x} e => by
    rw [List.getElem?_append_left (List.getElem?_eq_some_iff.mp e).1]; exact e
  have last1 : (ρ ++ [DV.lst ds])[ρ.length]? = some (.lst ds) := by rw [List.getElem?_append_right (Nat.le_refl _)]; simp
  have last2 : (L ++ [some v])[ρ.length]? = some (some v) := by rw [hl, List.getElem?_append_right (Nat.le_refl _)]; simp
  have ne_ : ∀ {j : Nat} {x : DV}, ρ[j]? = some x → j ≠ ρ.length := fun {j x} e => Nat.ne_of_lt (List.getElem?_eq_some_iff.mp e).1
  refine ⟨by rw [List.length_set, List.length_set]; exact hl, R.sub, R.keep, fun j x w e1 e2 => ?_, fun j k x y a e1 e2 o1 o2 l1 l2 => ?_, fun j x a e1 o1 l1 => ?_, fun j es a e1 l1 => ?_, fun q hq => ?_, R.born⟩
  · rcases set_at e1 with ⟨rfl, rfl⟩ | ⟨hne, e1⟩
    · rcases set_at e2 with ⟨_, rfl⟩ | ⟨hne, _⟩
      · exact R.slot _ _ _ last1 last2
      · exact absurd rfl hne
    · rcases set_at e2 with ⟨rfl, _⟩ | ⟨_, e2⟩
      · exact absurd rfl hne
      · exact R.slot j x w (lt_ e1) (ltL e2)
  · rcases set_at e1 with ⟨rfl, rfl⟩ | ⟨h1, g1⟩
    · rcases set_at e2 with ⟨rfl, rfl⟩ | ⟨h2, e2⟩
      · rfl
      · rw [List.getElem?_set_ne (fun z => h2 z.symm)] at l2
        rcases set_at l1 with ⟨_, z⟩ | ⟨hne, _⟩
        · cases z
          exact absurd (R.sep _ _ _ _ a (lt_ e2) last1 o2 (by simp [DV.own]) (ltL l2) last2) (ne_ e2)
        · exact absurd rfl hne
    · rw [List.getElem?_set_ne (fun z => h1 z.symm)] at l1
      rcases set_at e2 with ⟨rfl, rfl⟩ | ⟨h2, g2⟩
      · rcases set_at l2 with ⟨_, z⟩ | ⟨hne, _⟩
        · cases z
          exact absurd (R.sep _ _ _ _ a (lt_ g1) last1 o1 (by simp [DV.own]) (ltL l1) last2) (ne_ g1)
        · exact absurd rfl hne
      · rw [List.getElem?_set_ne (fun z => h2 z.symm)] at l2
        exact R.sep j k x y a (lt_ g1) (lt_ g2) o1 o2 (ltL l1) (ltL l2)
  · rcases set_at e1 with ⟨rfl, rfl⟩ | ⟨h1, e1⟩
    · rcases set_at l1 with ⟨_, z⟩ | ⟨hne, _⟩
      · cases z
        exact R.fresh _ _ a last1 (by simp [DV.own]) last2
      · exact absurd rfl hne
    · rw [List.getElem?_set_ne (fun z => h1 z.symm)] at l1
      exact R.fresh j x a (lt_ e1) o1 (ltL l1)
  · rcases set_at e1 with ⟨rfl, z⟩ | ⟨h1, e1⟩
    · rcases set_at l1 with ⟨_, z⟩ | ⟨hne, _⟩
      · cases z
        exact R.nobor _ ds a last1 last2
      · exact absurd rfl hne
    · rw [List.getElem?_set_ne (fun z => h1 z.symm)] at l1
      exact R.nobor j es a (lt_ e1) (ltL l1)
  · obtain ⟨⟨es, e'⟩, l'⟩ := R.lent q hq
    have hlt : q.1 < ρ.length := by
      rcases Nat.lt_or_ge q.1 ρ.length with h | h
      · exact h
      · have e3 := (List.getElem?_eq_some_iff.mp e').1
        rw [List.length_append] at e3
        have : q.1 = ρ.length := by simp at e3; omega
        rw [this, last1] at e'
        cases e'
    rw [List.getElem?_append_left hlt] at e'
    rw [List.getElem?_append_left (by rw [← hl]; exact hlt)] at l'
    have hne : i ≠ q.1 := fun z => by
      rw [← z] at e'
      exact absurd (hb _ e') (by simp [DV.isBor])
    exact ⟨⟨es, by rw [List.getElem?_set_ne hne]; exact e'⟩, by rw [List.getElem?_set_ne hne]; exact l'⟩
/-- an own (or lent) list is changed -/
def DV.put (x : DV) (ds : List D) : DV := match x with
  | .lst _ => .lst ds
  | .bor _ => .bor ds
  | y => y
theorem DV.put_own {x : DV} {ds es : List D} (h : x.own = some es) : (x.put ds).own = some ds := by
  cases x <;> simp_all [DV.put, DV.own]
theorem Rl.write {p : Nat} {x : DV} {a : Addr} {ds es : List D} {xs : List V} (R : Rl K c F ρ L H) (e : ρ[p]? = some x) (o : x.own = some es) (l : L[p]? = some (some (.ref a))) (h : RpAll K F xs ds) : Rl K c F (ρ.set p (x.put ds)) L (upd H a (.lst xs)) := by
  obtain ⟨a', ys, q1, hF, hH, _⟩ := (R.slot p x _ e l).own o
  cases q1
  have hp : p < ρ.length := (List.getElem?_eq_some_iff.mp e).1
  have at_ : ∀ {j : Nat} {y : DV}, (ρ.set p (x.put ds))[j]? = some y → y.own ≠ none → ∃ z, ρ[j]? = some z ∧ z.own ≠ none := fun {j y} e1 o1 => by
    rcases set_at e1 with ⟨rfl, rfl⟩ | ⟨_, e1⟩
    · exact ⟨x, e, by rw [o]; simp⟩
    · exact ⟨y, e1, o1⟩
  refine ⟨by rw [List.length_set]; exact R.len, fun b u q => ?_, fun b u q n => ?_, fun j y w e1 e2 => ?_, fun j k y z b e1 e2 o1 o2 l1 l2 => ?_, fun j y b e1 o1 l1 => ?_, fun j fs b e1 l1 => ?_, fun q hq => ?_, R.born⟩
  · have : b ≠ a := fun z => by rw [z, hF] at q; cases q
    rw [upd_ne this]; exact R.sub b u q
  · have : b ≠ a := fun z => by
      rcases R.fresh p x a e (by rw [o]; simp) l with g | g
      · rw [z, g] at q; cases q
      · exact n (z ▸ g)
    rw [upd_ne this]; exact R.keep b u q n
  · rcases set_at e1 with ⟨rfl, rfl⟩ | ⟨hne, e1⟩
    · rw [l] at e2
      cases e2
      cases x with
      | lst _ => exact ⟨a, xs, rfl, hF, upd_same, h⟩
      | bor _ => exact ⟨a, xs, rfl, hF, upd_same, h⟩
      | _ => simp [DV.own] at o
    · refine (R.slot j y w e1 e2).mono (Same.refl F) fun b zs hv ho h1 h2 => ⟨h1, ?_⟩
      have : b ≠ a := fun z => by
        subst z hv
        exact hne (R.sep j p y x b e1 e ho (by rw [o]; simp) e2 l)
      rw [upd_ne this]; exact h2
  · obtain ⟨y', e1', o1'⟩ := at_ e1 o1
    obtain ⟨z', e2', o2'⟩ := at_ e2 o2
    exact R.sep j k y' z' b e1' e2' o1' o2' l1 l2
  · obtain ⟨y', e1', o1'⟩ := at_ e1 o1
    exact R.fresh j y' b e1' o1' l1
  · rcases set_at e1 with ⟨rfl, q⟩ | ⟨_, e1⟩
    · cases x with
      | lst es' => exact R.nobor _ es' b e l1
      | _ => simp [DV.put] at q
    · exact R.nobor j fs b e1 l1
  · obtain ⟨⟨fs, e'⟩, l'⟩ := R.lent q hq
    by_cases hq' : p = q.1
    · rw [← hq'] at e'
      rw [e] at e'
      cases e'
      exact ⟨⟨ds, by rw [← hq', List.getElem?_set_self hp]; rfl⟩, l'⟩
    · exact ⟨⟨fs, by rw [List.getElem?_set_ne hq']; exact e'⟩, l'⟩
end

/-! ### statements -/
inductive RV where
  | dat (d : D)
  | new (ds : List D)
inductive Fl where
  | nx
  | brk
  | cnt
  | ret (r : RV)
def RetV (K : Frag) (c : Ct) (F H : Hp) (v : V) : RV → Prop
  | .dat d => Rp K F v d
  | .new ds => ∃ a xs, v = .ref a ∧ F a = none ∧ c.Hi a = none ∧ a ∉ c.ads ∧ H a = some (.lst xs) ∧ RpAll K F xs ds
def HoS (P : Ps) (c : Ct) (F : Hp) (o : Option (Except Ex Fl × List DV)) (D : Ends) : Prop := match o with
  | none => False
  | some (.ok .nx, ρ) => ∀ σ F' H, Same F F' → Rl P.K c F' ρ σ H → D.nx σ H
  | some (.ok .brk, ρ) => ∀ σ F' H, Same F F' → Rl P.K c F' ρ σ H → D.bk σ H
  | some (.ok .cnt, ρ) => ∀ σ F' H, Same F F' → Rl P.K c F' ρ σ H → D.ct σ H
  | some (.ok (.ret r), ρ) => ∀ v σ F' H, Same F F' → Rl P.K c F' ρ σ H → RetV P.K c F' H v r → D.rt v H
  | some (.error x, ρ) => ∀ σ, Er P c F σ [] x ρ
theorem HoS.from {P : Ps} {c : Ct} {F F1 : Hp} {o : Option (Except Ex Fl × List DV)} {D : Ends} (h : HoS P c F o D) (s : Same F F1) : HoS P c F1 o D := by
  match o, h with
  | some (.ok .nx, ρ), h => exact fun σ F' H e R => h σ F' H (s.trans e) R
  | some (.ok .brk, ρ), h => exact fun σ F' H e R => h σ F' H (s.trans e) R
  | some (.ok .cnt, ρ), h => exact fun σ F' H e R => h σ F' H (s.trans e) R
  | some (.ok (.ret r), ρ), h => exact fun v σ F' H e R => h v σ F' H (s.trans e) R
  | some (.error x, ρ), h => exact fun σ => (h σ).mono s
def tS (P : Ps) (m : M Fl) : TS := fun D σ H => ∃ c F ρ, Rl P.K c F ρ σ H ∧ HoS P c F (m ρ) D

section
variable {X : Cx} {P : Ps} {a b e : Expr} {pos : Pos} {c : Ct} {F H : Hp} {σ : L2.St}
/-- an expression's step within a statement -/
theorem HoS.bind {α : Type} {m : M α} {k : α → M Fl} {ρ : List DV} {D : Ends} (σ : L2.St) (h : HoS P c F (M.bind m k ρ) D) :
    Ho P c F σ [] (m ρ) fun a ρ1 F1 _ => HoS P c F1 (k a ρ1) D := by
  unfold M.bind at h
  match q : m ρ with
  | none => rw [q] at h; exact h
  | some (.ok a, ρ1) =>
    rw [q] at h
    exact fun F1 H1 s R => HoS.from h s
  | some (.error x, ρ1) => rw [q] at h; exact h σ
theorem HoS.frz {r : DR} {k : D → M Fl} {ρ : List DV} {v : V} {D : Ends} (h : HoS P c F (M.bind (DL.frz r) k ρ) D) (R : Rl P.K c F ρ σ H) (hv : RefV P.K F σ v r) :
    ∃ d F1 ρ1, Same F F1 ∧ Rl P.K c F1 ρ1 σ H ∧ Rp P.K F1 v d ∧ HoS P c F1 (k d ρ1) D ∧ (∀ (i : Nat) (x : DV), ρ1[i]? = some x → x.isBor = true → ∃ y : DV, ρ[i]? = some y ∧ y.isBor = true) := by
  cases r with
  | dat d => exact ⟨d, F, ρ, Same.refl F, R, hv, h, fun i x e b => ⟨x, e, b⟩⟩
  | exc c d => exact (show False from h).elim
  | loc p =>
    unfold M.bind DL.frz at h
    dsimp only at h
    cases q : ρ[p]? with
    | none => rw [q] at h; exact (show False from h).elim
    | some x =>
      rw [q] at h
      cases x with
      | lst ds =>
        obtain ⟨a, xs, e1, _⟩ := R.slot p _ _ q hv
        cases e1
        obtain ⟨xs, h1, h2, h3, R'⟩ := R.freeze (xs := xs) q hv
        have sF : Same F (upd F a (.lst xs)) := Same.upd h2
        exact ⟨.list ds, _, _, sF, R', .lst (.inl (.inl upd_same)) (h3.mono sF), HoS.from h sF, fun i x e b => by
          rcases set_at e with ⟨_, rfl⟩ | ⟨_, e⟩
          · simp [DV.isBor] at b
          · exact ⟨x, e, b⟩⟩
      | _ => exact (show False from h).elim
theorem nilτ {K : Frag} {c : Ct} {F : Hp} {ρ : List DV} {σ : L2.St} {H : Hp} (R : Rl K c F ρ σ H) : Rl K c F ρ (σ ++ []) H := by rw [List.append_nil]; exact R
theorem nilτ' {K : Frag} {c : Ct} {F : Hp} {ρ : List DV} {σ : L2.St} {H : Hp} (R : Rl K c F ρ (σ ++ []) H) : Rl K c F ρ σ H := by rw [List.append_nil] at R; exact R

def sNil : M Fl := M.ok .nx
def sCons (m1 m2 : M Fl) : M Fl := M.bind m1 fun f => match f with
  | .nx => m2
  | f => M.ok f
theorem ds_nil : PSs X [] (tS P sNil) := pss_nil.of fun D σ H q => by
  obtain ⟨c, F, ρ, R, q⟩ := q
  exact q σ F H (Same.refl F) R
theorem ds_cons {st : Stmt} {rest : List Stmt} {m1 m2 : M Fl} (h1 : PS X st (tS P m1)) (h2 : PSs X rest (tS P m2)) : PSs X (st :: rest) (tS P (sCons m1 m2)) := (pss_cons h1 h2).of fun D σ H q => by
  obtain ⟨c, F, ρ, R, q⟩ := q
  refine ⟨c, F, ρ, R, ?_⟩
  unfold sCons M.bind at q
  match z : m1 ρ with
  | none => rw [z] at q; exact q
  | some (.ok .nx, ρ1) => rw [z] at q; exact fun σ1 F1 H1 s R1 => ⟨c, F1, ρ1, R1, HoS.from q s⟩
  | some (.ok .brk, ρ1) => rw [z] at q; exact q
  | some (.ok .cnt, ρ1) => rw [z] at q; exact q
  | some (.ok (.ret r), ρ1) => rw [z] at q; exact q
  | some (.error x, ρ1) => rw [z] at q; exact q
/-- a statement that is never reached -/
def sNever : M Fl := M.no
theorem ds_never {st : Stmt} : PS X st (tS P sNever) := ⟨fun _ _ _ _ _ _ ⟨_, _, _, _, h⟩ => (show False from h).elim⟩
def sPass : M Fl := M.ok .nx
theorem ds_pass : PS X (.Pass pos) (tS P sPass) := ps_pass.of fun D σ H q => by
  obtain ⟨c, F, ρ, R, q⟩ := q
  exact q σ F H (Same.refl F) R
def sBrk : M Fl := M.ok .brk
theorem ds_brk : PS X (.Break pos) (tS P sBrk) := ps_break.of fun D σ H q => by
  obtain ⟨c, F, ρ, R, q⟩ := q
  exact q σ F H (Same.refl F) R
def sCnt : M Fl := M.ok .cnt
theorem ds_cnt : PS X (.Continue pos) (tS P sCnt) := ps_continue.of fun D σ H q => by
  obtain ⟨c, F, ρ, R, q⟩ := q
  exact q σ F H (Same.refl F) R
def sExpr (m : M DR) : M Fl := M.bind m fun _ => M.ok .nx
theorem ds_expr {m : M DR} (h : PE X e (tE P m)) (hs : swapsWith e none pos.line X.env = pure false) : PS X (.Expr e pos) (tS P (sExpr m)) := (ps_expr h hs).of fun D σ H q => by
  obtain ⟨c, F, ρ, R, q⟩ := q
  refine ⟨c, F, [], ρ, nilτ R, (HoS.bind σ q).mono fun r ρ1 F1 H1 s R1 q1 v hv => ?_⟩
  exact q1 σ F1 H1 (Same.refl _) (nilτ' R1)
def sIf (mc : M Bool) (m1 m2 : M Fl) : M Fl := M.bind mc fun b => if b = true then m1 else m2
theorem ds_if {cx : Expr} {s1 s2 : List Stmt} {mc : M Bool} {m1 m2 : M Fl} (hc : PT X cx (tT P mc)) (h1 : PSs X s1 (tS P m1)) (h2 : PSs X s2 (tS P m2)) : PS X (.If cx s1 s2 pos) (tS P (sIf mc m1 m2)) := (ps_if hc h1 h2).of fun D σ H q => by
  obtain ⟨c, F, ρ, R, q⟩ := q
  refine ⟨c, F, [], ρ, nilτ R, (HoS.bind σ q).mono fun r ρ1 F1 H1 s R1 q1 => ?_⟩
  cases r with
  | true => exact ⟨c, F1, ρ1, nilτ' R1, q1⟩
  | false => exact ⟨c, F1, ρ1, nilτ' R1, q1⟩
/-- return of data -/
def sRet (m : M DR) : M Fl := M.bind m fun r => M.bind (frz r) fun d => M.ok (.ret (.dat d))
theorem ds_ret {m : M DR} (h : PE X e (tE P m)) : PS X (.Return (some e) pos) (tS P (sRet m)) := (ps_ret h).of fun D σ H q => by
  obtain ⟨c, F, ρ, R, q⟩ := q
  refine ⟨c, F, [], ρ, nilτ R, (HoS.bind σ q).mono fun r ρ1 F1 H1 s R1 q1 v hv => ?_⟩
  obtain ⟨d, F2, ρ2, s2, R2, r2, q2, _⟩ := HoS.frz q1 (nilτ' R1) (by rw [List.append_nil] at hv; exact hv)
  exact q2 v σ F2 H1 (Same.refl _) R2 r2
/-- return of an own list -/
def sRetOwn (i : Nat) : M Fl := fun ρ => match ρ[i]? with
  | some (.lst ds) => some (.ok (.ret (.new ds)), ρ)
  | _ => none
theorem ds_retOwn {i : Nat} {x : Str} {p2 : Pos} (hN : X.N[i]? = some x) (hv : Vis X.env.scope x) (hd : (x == ("__debug__" : Str)) = false := by decide) (hcd : (x == ("__classdict__" : Str)) = false := by decide) : PS X (.Return (some (.Name x p2)) pos) (tS P (sRetOwn i)) := by
  refine ⟨fun pins s σ H D I q => (ps_ret (pe_var (i := i) hN hv hd hcd)).run pins s σ H D I ?_⟩
  obtain ⟨c, F, ρ, R, q⟩ := q
  have hi : i < σ.length := by rw [I.len]; exact (List.getElem?_eq_some_iff.mp hN).1
  unfold sRetOwn at q
  cases z : ρ[i]? with
  | none => rw [z] at q; exact (show False from q).elim
  | some y =>
    rw [z] at q
    cases y with
    | lst ds =>
      obtain ⟨v, ev⟩ : ∃ v, σ[i]? = some v := by rw [List.getElem?_eq_getElem hi]; exact ⟨_, rfl⟩
      obtain ⟨a, xs, e1, e2, e3, e4⟩ := R.slot i _ v z ev
      subst e1
      refine ⟨.ref a, ev, q _ σ F H (Same.refl F) R ⟨a, xs, rfl, e2, ?_, R.nobor i ds a z ev, e3, e4⟩⟩
      rcases R.fresh i _ a z (by simp [DV.own]) ev with g | g
      · exact g
      · exact absurd g (R.nobor i ds a z ev)
    | _ => exact (show False from q).elim
/-- x = e, data -/
def setD (i : Nat) (d : D) : M Unit := fun ρ => match ρ[i]? with
  | some x => if x.isBor then none else some (.ok (), ρ.set i (.dat d))
  | none => none
def sSet (i : Nat) (m : M DR) : M Fl := M.bind m fun r => M.bind (frz r) fun d => M.bind (setD i d) fun _ => M.ok .nx
theorem setD_some {i : Nat} {d : D} {ρ : List DV} {o : Except Ex Unit × List DV} (h : setD i d ρ = some o) : o = (.ok (), ρ.set i (.dat d)) ∧ ∀ x, ρ[i]? = some x → x.isBor = false := by
  unfold setD at h
  split at h
  · rename_i x e
    split at h
    · cases h
    · rename_i hb
      refine ⟨(Option.some.inj h).symm, fun y ey => ?_⟩
      rw [e] at ey
      cases ey
      exact Bool.eq_false_iff.mpr hb
  · cases h
theorem HoS.setD {i : Nat} {d : D} {k : Unit → M Fl} {ρ : List DV} {v : V} {D : Ends} (h : HoS P c F (M.bind (DL.setD i d) k ρ) D) (R : Rl P.K c F ρ σ H) (hv : Rp P.K F v d) :
    ∃ ρ1, Rl P.K c F ρ1 (σ.set i (some v)) H ∧ HoS P c F (k () ρ1) D := by
  unfold M.bind at h
  cases q : DL.setD i d ρ with
  | none => rw [q] at h; exact (show False from h).elim
  | some o =>
    obtain ⟨e, hb⟩ := setD_some q
    subst e
    rw [q] at h
    exact ⟨_, R.setD hv hb, h⟩
theorem ds_setK {i : Nat} {t : TE} {m : M DR} (w : ∀ σ H Q, tE P m σ H Q → t σ H Q) (D : Ends) (σ : L2.St) (H : Hp) (q : tS P (sSet i m) D σ H) : tAsg t (gName i) D σ H := by
  obtain ⟨c, F, ρ, R, q⟩ := q
  refine w σ H _ ⟨c, F, [], ρ, nilτ R, (HoS.bind σ q).mono fun r ρ1 F1 H1 s R1 q1 v hv => ?_⟩
  obtain ⟨d, F2, ρ2, s2, R2, r2, q2, _⟩ := HoS.frz q1 (nilτ' R1) (by rw [List.append_nil] at hv; exact hv)
  obtain ⟨ρ3, R3, q3⟩ := HoS.setD q2 R2 r2
  exact q3 _ F2 H1 (Same.refl _) R3
theorem ds_set {i : Nat} {x : Str} {p2 : Pos} {m : M DR} (hN : X.N.Nodup) (hi : X.N[i]? = some x) (hx : Loc X.env.scope x) (he : PE X e (tE P m)) (hs : swapsWith e (some (.Name x p2)) pos.line X.env = pure false) (hf : X.fn x = true ∨ X.env.scope.names.lookup x = some .local) :
    PS X (.Assign [.Name x p2] e pos) (tS P (sSet i m)) := (ps_set hN hi hx he hs hf).of (ds_setK fun _ _ _ q => q)

/-! ### new lists that a slot owns -/
def HoN (P : Ps) (c : Ct) (F : Hp) (σ : L2.St) (τ : List (Option V)) (o : Option (Except Ex Unit × List DV)) (Φ : List DV → Hp → Hp → V → Prop) : Prop := match o with
  | none => False
  | some (.ok _, ρ) => ∀ F' H' v, Same F F' → Rl P.K c F' ρ (σ ++ τ ++ [some v]) H' → Φ ρ F' H' v
  | some (.error x, ρ) => Er P c F σ τ x ρ
/-- an expression that makes a list of its own: it lies behind as the last temporary -/
def tN (P : Ps) (m : M Unit) : TE := fun σ H Q => ∃ c F τ ρ, Rl P.K c F ρ (σ ++ τ) H ∧ HoN P c F σ τ (m ρ) fun _ _ H' v => Q v H'
def push (ds : List D) : M Unit := fun ρ => some (.ok (), ρ ++ [.lst ds])
theorem Ho.push {τ : List (Option V)} {ρ : List DV} {ds : List D} {Φ : List DV → Hp → Hp → V → Prop} (h : HoN P c F σ τ (DL.push ds ρ) Φ) (R : Rl P.K c F ρ (σ ++ τ) H) {p : Addr} {xs : List V} (hp : H p = none) (r : RpAll P.K F xs ds) : Φ (ρ ++ [.lst ds]) F (upd H p (.lst xs)) (.ref p) :=
  h F _ _ (Same.refl F) (R.push hp r)
theorem HoN.bind {α : Type} {m : M α} {k : α → M Unit} {τ : List (Option V)} {ρ : List DV} {Φ : List DV → Hp → Hp → V → Prop} (h : HoN P c F σ τ (M.bind m k ρ) Φ) :
    Ho P c F σ τ (m ρ) fun a ρ1 F1 _ => HoN P c F1 σ τ (k a ρ1) Φ := by
  unfold M.bind at h
  match q : m ρ with
  | none => rw [q] at h; exact h
  | some (.ok a, ρ1) =>
    rw [q] at h
    dsimp only at h
    intro F1 H1 s R
    match z : k a ρ1 with
    | none => rw [z] at h; exact h
    | some (.ok u, ρ2) => rw [z] at h; exact fun F' H' v s' R' => h F' H' v (s.trans s') R'
    | some (.error x, ρ2) => rw [z] at h; exact Er.mono h s
  | some (.error x, ρ1) => rw [q] at h; exact h
def nLst (ms : M (List DR)) : M Unit := M.bind ms fun rs => M.bind (frzAll rs) fun ds => if ds.length ≤ 16777216 then push ds else M.no
theorem dn_lst {es : List Expr} {ms : M (List DR)} (h : PA X es (tA P ms)) : PE X (.List es pos) (tN P (nLst ms)) := by
  refine (pe_lst h).of fun σ H Q q => ?_
  have hs : sizeLine = 16777216 := sizeLine_eq
  obtain ⟨c, F, τ, ρ, R, q⟩ := q
  refine ⟨c, F, τ, ρ, R, (HoN.bind q).mono fun rs ρ1 F1 H1 s1 R1 q1 vs hvs => ?_⟩
  have q1' : Ho P c F1 σ τ (M.bind (frzAll rs) (fun ds => M.ok ds) ρ1) fun ds ρ2 F2 _ => HoN P c F2 σ τ ((if ds.length ≤ 16777216 then push ds else M.no) ρ2) fun _ _ H' v => Q v H' := by
    have := HoN.bind q1
    have e : M.bind (frzAll rs) (fun ds => M.ok ds) ρ1 = frzAll rs ρ1 := by
      unfold M.bind
      cases frzAll rs ρ1 with
      | none => rfl
      | some o => obtain ⟨o, r⟩ := o; cases o <;> rfl
    rw [e]; exact this
  obtain ⟨ds, F2, ρ2, s2, R2, r2, q2⟩ := Ho.frzAll q1' R1 hvs
  have q3 := Ho.now q2 R2
  by_cases hl : ds.length ≤ 16777216
  · rw [if_pos hl] at q3
    refine ⟨by rw [r2.length]; omega, fun p hp => ?_⟩
    exact Ho.push q3 R2 hp r2
  · rw [if_neg hl] at q3
    exact (show False from q3).elim
/-- x = a new list that x owns -/
def popTo (i : Nat) : M Unit := fun ρ => match ρ.getLast? with
  | some (.lst ds) => match ρ.dropLast[i]? with
    | some x => if x.isBor then none else some (.ok (), ρ.dropLast.set i (.lst ds))
    | none => none
  | _ => none
def sSetN (i : Nat) (m : M Unit) : M Fl := M.bind m fun _ => M.bind (popTo i) fun _ => M.ok .nx
theorem popTo_rl {K : Frag} {c : Ct} {F H : Hp} {ρ : List DV} {L : List (Option V)} {v : V} {i : Nat} {o : Except Ex Unit × List DV} (h : popTo i ρ = some o) (R : Rl K c F ρ (L ++ [some v]) H) : ∃ ρ1, o = (.ok (), ρ1) ∧ Rl K c F ρ1 (L.set i (some v)) H := by
  unfold popTo at h
  split at h
  · rename_i ds hl
    split at h
    · rename_i x hx
      split at h
      · cases h
      · rename_i hb
        cases h
        refine ⟨_, rfl, ?_⟩
        obtain ⟨ys, rfl⟩ := List.getLast?_eq_some_iff.mp hl
        rw [List.dropLast_concat] at hx ⊢
        have hlen : ys.length = L.length := by
          have := R.len
          simp only [List.length_append, List.length_singleton] at this
          omega
        refine Rl.popTo R hlen fun y hy => ?_
        rw [hx] at hy
        cases hy
        exact Bool.eq_false_iff.mpr hb
    · cases h
  · cases h
theorem ds_setNK {i : Nat} {t : TE} {m : M Unit} (w : ∀ σ H Q, tN P m σ H Q → t σ H Q) (D : Ends) (σ : L2.St) (H : Hp) (q : tS P (sSetN i m) D σ H) : tAsg t (gName i) D σ H := by
  obtain ⟨c, F, ρ, R, q⟩ := q
  refine w σ H _ ⟨c, F, [], ρ, nilτ R, ?_⟩
  unfold sSetN M.bind at q
  match z : m ρ with
  | none => rw [z] at q; exact q
  | some (.error x, ρ1) => rw [z] at q; exact q σ
  | some (.ok u, ρ1) =>
    rw [z] at q
    intro F' H' v s R1
    rw [List.append_nil] at R1
    dsimp only at q
    cases y : popTo i ρ1 with
    | none => rw [y] at q; exact (show False from q).elim
    | some o =>
      obtain ⟨ρ2, e, R2⟩ := popTo_rl y R1
      subst e
      rw [y] at q
      exact q _ F' H' s R2
theorem ds_setN {i : Nat} {x : Str} {p2 : Pos} {m : M Unit} (hN : X.N.Nodup) (hi : X.N[i]? = some x) (hx : Loc X.env.scope x) (he : PE X e (tN P m)) (hs : swapsWith e (some (.Name x p2)) pos.line X.env = pure false) (hf : X.fn x = true ∨ X.env.scope.names.lookup x = some .local) :
    PS X (.Assign [.Name x p2] e pos) (tS P (sSetN i m)) := (ps_set hN hi hx he hs hf).of (ds_setNK fun _ _ _ q => q)
/-- return of a new list -/
def sRetN (m : M Unit) : M Fl := M.bind m fun _ => fun ρ => match ρ.getLast? with
  | some (.lst ds) => some (.ok (.ret (.new ds)), ρ.dropLast)
  | _ => none
end
end DL

set_option Elab.async false
set_option linter.all false
set_option maxRecDepth 100000
set_option maxHeartbeats 4000000
/-! DL6: a def's promise by data, and its calls. -/
namespace DL
open PySem PySem.Spec PyProof.Rows L2

/-- what a def does by data: the lent list's content (the first parameter's, where it has one), the other arguments; the result, the content behind -/
abbrev Fsp := List D → List D → Option (Except Ex RV × List D)
def Lent (K : Frag) (F H : Hp) (oa : Option Addr) (w : List D) : Prop := match oa with
  | none => True
  | some a => F a = none ∧ ∃ xs, H a = some (.lst xs) ∧ RpAll K F xs w
def Frm (oa : Option Addr) (H H' : Hp) : Prop := ∀ b o, H b = some o → oa ≠ some b → H' b = some o
def New (F H F' : Hp) : Prop := ∀ b o, F' b = some o → F b = some o ∨ H b = none
def RvOk (K : Frag) (F' H H' : Hp) (v : V) : RV → Prop
  | .dat d => Rp K F' v d
  | .new ds => ∃ a xs, v = .ref a ∧ F' a = none ∧ H a = none ∧ H' a = some (.lst xs) ∧ RpAll K F' xs ds
def argV (oa : Option Addr) (us : List V) : List V := match oa with
  | none => us
  | some a => .ref a :: us
/-- the promise -/
def spD (K : Frag) (own : Bool) (n : Nat) (f : Fsp) : Sp := fun vs H Q E => vs.length = n ∧ ∃ (F : Hp) (oa : Option Addr) (us : List V) (w ds : List D), oa.isSome = own ∧ vs = argV oa us ∧ Same F H ∧ Lent K F H oa w ∧ RpAll K F us ds ∧
  match f w ds with
  | none => False
  | some (.ok r, w') => ∀ v F' H', Same F F' → Same F' H' → New F H F' → Frm oa H H' → Lent K F' H' oa w' → RvOk K F' H H' v r → Q v H'
  | some (.error x, w') => ∀ C dd v F' H', Same F F' → Same F' H' → New F H F' → Frm oa H H' → Lent K F' H' oa w' → K.G x.1 = some (.ref C) → Rp K F' v x.2 → H' dd = some (.xd [(("value" : Str), v)]) → H dd = none → E (.ref C) (some dd) H'

section
variable {K : Frag} {F F' H H' : Hp} {c : Ct} {ρ : List DV} {L : List (Option V)}
theorem New.refl (F H : Hp) : New F H F := fun _ _ e => .inl e
/-- behind a call that was lent nothing -/
theorem Rl.call0 (R : Rl K c F ρ L H) (s : Same F F') (s' : Same F' H') (n : New F H F') (fr : Frm none H H') : Rl K c F' ρ L H' := by
  have keepH : ∀ b o, H b = some o → H' b = some o := fun b o e => fr b o e (fun z => nomatch z)
  refine ⟨R.len, s', fun b o q nb => keepH b o (R.keep b o q nb), fun i x v e1 e2 => (R.slot i x v e1 e2).mono s fun a xs _ _ h1 h2 => ⟨?_, keepH _ _ h2⟩, R.sep, R.fresh, R.nobor, R.lent, fun b o q => ?_⟩
  · cases q : F' a with
    | none => rfl
    | some o =>
      rcases n a o q with g | g
      · rw [h1] at g; cases g
      · rw [h2] at g; cases g
  · rcases n b o q with g | g
    · exact R.born b o g
    · exact .inr (R.freshAt g).1
/-- behind a call that was lent the list of the position p -/
theorem Rl.call1 {p : Nat} {x : DV} {a : Addr} {es w : List D} (R : Rl K c F ρ L H) (e : ρ[p]? = some x) (o : x.own = some es) (l : L[p]? = some (some (.ref a))) (s : Same F F') (s' : Same F' H') (n : New F H F') (fr : Frm (some a) H H')
    (lt : Lent K F' H' (some a) w) : Rl K c F' (ρ.set p (x.put w)) L H' := by
  obtain ⟨hF', xs, hH', hxs⟩ := lt
  obtain ⟨a', ys, q1, hF, hH, _⟩ := (R.slot p x _ e l).own o
  cases q1
  have hp : p < ρ.length := (List.getElem?_eq_some_iff.mp e).1
  have keepH : ∀ b o, b ≠ a → H b = some o → H' b = some o := fun b o hb e => fr b o e (fun z => hb (Option.some.inj z).symm)
  have at_ : ∀ {j : Nat} {y : DV}, (ρ.set p (x.put w))[j]? = some y → y.own ≠ none → ∃ z, ρ[j]? = some z ∧ z.own ≠ none := fun {j y} e1 o1 => by
    rcases set_at e1 with ⟨rfl, rfl⟩ | ⟨_, e1⟩
    · exact ⟨x, e, by rw [o]; simp⟩
    · exact ⟨y, e1, o1⟩
  refine ⟨by rw [List.length_set]; exact R.len, s', fun b u q nb => ?_, fun j y v e1 e2 => ?_, fun j k y z b e1 e2 o1 o2 l1 l2 => ?_, fun j y b e1 o1 l1 => ?_, fun j fs b e1 l1 => ?_, fun q hq => ?_, fun b u q => ?_⟩
  · refine keepH b u (fun z => ?_) (R.keep b u q nb)
    rcases R.fresh p x a e (by rw [o]; simp) l with g | g
    · rw [z, g] at q; cases q
    · exact nb (z ▸ g)
  · rcases set_at e1 with ⟨rfl, rfl⟩ | ⟨hne, e1⟩
    · rw [l] at e2
      cases e2
      cases x with
      | lst _ => exact ⟨a, xs, rfl, hF', hH', hxs⟩
      | bor _ => exact ⟨a, xs, rfl, hF', hH', hxs⟩
      | _ => simp [DV.own] at o
    · refine (R.slot j y v e1 e2).mono s fun b zs hv ho h1 h2 => ⟨?_, keepH b _ (fun z => ?_) h2⟩
      · cases q : F' b with
        | none => rfl
        | some u =>
          rcases n b u q with g | g
          · rw [h1] at g; cases g
          · rw [h2] at g; cases g
      · subst z hv
        exact hne (R.sep j p y x b e1 e ho (by rw [o]; simp) e2 l)
  · obtain ⟨y', e1', o1'⟩ := at_ e1 o1
    obtain ⟨z', e2', o2'⟩ := at_ e2 o2
    exact R.sep j k y' z' b e1' e2' o1' o2' l1 l2
  · obtain ⟨y', e1', o1'⟩ := at_ e1 o1
    exact R.fresh j y' b e1' o1' l1
  · rcases set_at e1 with ⟨rfl, q⟩ | ⟨_, e1⟩
    · cases x with
      | lst es' => exact R.nobor _ es' b e l1
      | _ => simp [DV.put] at q
    · exact R.nobor j fs b e1 l1
  · obtain ⟨⟨fs, e'⟩, l'⟩ := R.lent q hq
    by_cases hq' : p = q.1
    · rw [← hq'] at e'
      rw [e] at e'
      cases e'
      exact ⟨⟨w, by rw [← hq', List.getElem?_set_self hp]; rfl⟩, l'⟩
    · exact ⟨⟨fs, by rw [List.getElem?_set_ne hq']; exact e'⟩, l'⟩
  · rcases n b u q with g | g
    · exact R.born b u g
    · exact .inr (R.freshAt g).1
/-- a list that came back new is owned by a new temporary -/
theorem Rl.pushAt {a : Addr} {xs : List V} {ds : List D} {H0 : Hp} (R : Rl K c F ρ L H) (hF : F a = none) (hH : H a = some (.lst xs)) (h : RpAll K F xs ds) (h0 : c.Hi a = none) (hB : a ∉ c.ads) (hno : ∀ (i : Nat) (x : DV), ρ[i]? = some x → x.own ≠ none → L[i]? ≠ some (some (.ref a))) :
    Rl K c F (ρ ++ [.lst ds]) (L ++ [some (.ref a)]) H := by
  have at_ : ∀ {i : Nat} {x : DV}, (ρ ++ [DV.lst ds])[i]? = some x → (ρ[i]? = some x ∧ i < ρ.length) ∨ (i = ρ.length ∧ x = .lst ds) := fun {i x} e => by
    by_cases hi : i < ρ.length
    · rw [List.getElem?_append_left hi] at e; exact .inl ⟨e, hi⟩
    · rw [List.getElem?_append_right (by omega)] at e
      have : i - ρ.length = 0 := by
        cases q : i - ρ.length with
        | zero => rfl
        | succ k => rw [q] at e; simp at e
      rw [this] at e
      simp at e
      exact .inr ⟨by omega, e.symm⟩
  have lt_ : ∀ {i : Nat} {v : Option V}, i < ρ.length → (L ++ [some (V.ref a)])[i]? = some v → L[i]? = some v := fun {i v} hi e => by
    rw [List.getElem?_append_left (by rw [← R.len]; exact hi)] at e; exact e
  have last_ : ∀ {v : Option V}, (L ++ [some (V.ref a)])[ρ.length]? = some v → v = some (.ref a) := fun {v} e => by
    rw [R.len, List.getElem?_append_right (Nat.le_refl _)] at e
    simp at e
    exact e.symm
  refine ⟨by rw [List.length_append, List.length_append, R.len] <;> rfl, R.sub, R.keep, fun i x v e1 e2 => ?_, fun i j x y b e1 e2 o1 o2 l1 l2 => ?_, fun i x b e1 o1 l1 => ?_, fun i es b e1 l1 => ?_, fun q hq => ?_, R.born⟩
  · rcases at_ e1 with ⟨e1, hl⟩ | ⟨rfl, rfl⟩
    · exact R.slot i x v e1 (lt_ hl e2)
    · have := last_ e2
      subst this
      exact ⟨a, xs, rfl, hF, hH, h⟩
  · rcases at_ e1 with ⟨e1, hl1⟩ | ⟨rfl, rfl⟩
    · rcases at_ e2 with ⟨e2, hl2⟩ | ⟨rfl, rfl⟩
      · exact R.sep i j x y b e1 e2 o1 o2 (lt_ hl1 l1) (lt_ hl2 l2)
      · have q := last_ l2
        cases q
        exact absurd (lt_ hl1 l1) (hno i x e1 o1)
    · rcases at_ e2 with ⟨e2, hl2⟩ | ⟨rfl, rfl⟩
      · have q := last_ l1
        cases q
        exact absurd (lt_ hl2 l2) (hno j y e2 o2)
      · rfl
  · rcases at_ e1 with ⟨e1, hl1⟩ | ⟨rfl, rfl⟩
    · exact R.fresh i x b e1 o1 (lt_ hl1 l1)
    · have q := last_ l1
      cases q
      exact .inl h0
  · rcases at_ e1 with ⟨e1, hl1⟩ | ⟨rfl, q⟩
    · exact R.nobor i es b e1 (lt_ hl1 l1)
    · have q := last_ l1
      cases q
      exact hB
  · obtain ⟨⟨es, e⟩, l⟩ := R.lent q hq
    have h1 : q.1 < ρ.length := (List.getElem?_eq_some_iff.mp e).1
    exact ⟨⟨es, by rw [List.getElem?_append_left h1]; exact e⟩, by rw [List.getElem?_append_left (by rw [← R.len]; exact h1)]; exact l⟩
/-- .. or frozen -/
theorem Rl.frzAt {a : Addr} {xs : List V} (R : Rl K c F ρ L H) (hF : F a = none) (hH : H a = some (.lst xs)) (h0 : c.Hi a = none) (hno : ∀ (i : Nat) (x : DV), ρ[i]? = some x → x.own ≠ none → L[i]? ≠ some (some (.ref a))) :
    Rl K c (upd F a (.lst xs)) ρ L H := by
  have sF : Same F (upd F a (.lst xs)) := Same.upd hF
  refine ⟨R.len, fun b o q => ?_, R.keep, fun i x v e1 e2 => (R.slot i x v e1 e2).mono sF fun b zs hv ho h1 h2 => ⟨?_, h2⟩, R.sep, R.fresh, R.nobor, R.lent, fun b o q => ?_⟩
  · by_cases hb : b = a
    · subst hb; rw [upd_same] at q; cases q; exact hH
    · rw [upd_ne hb] at q; exact R.sub b o q
  · rw [upd_ne (fun z => by subst z hv; exact hno i x e1 ho e2)]; exact h1
  · by_cases hb : b = a
    · exact .inr (hb ▸ h0)
    · rw [upd_ne hb] at q; exact R.born b o q
end

/-! ### the call within a body -/
/-- the result in an expression (a new list is frozen) -/
def rvD : RV → D
  | .dat d => d
  | .new ds => .list ds
def callD (f : Fsp) (ds : List D) : M RV := fun ρ => match f [] ds with
  | none => none
  | some (.ok r, _) => some (.ok r, ρ)
  | some (.error x, _) => some (.error x, ρ)
def callO (f : Fsp) (p : Nat) (ds : List D) : M RV := fun ρ => match ρ[p]? with
  | none => none
  | some x => match x.own with
    | none => none
    | some w => match f w ds with
      | none => none
      | some (.ok r, w') => some (.ok r, ρ.set p (x.put w'))
      | some (.error z, w') => some (.error z, ρ.set p (x.put w'))
def callA (own : Bool) (f : Fsp) (rs : List DR) : M RV := if own then (match rs with
    | .loc p :: rs => M.bind (frzAll rs) fun ds => callO f p ds
    | _ => M.no) else M.bind (frzAll rs) fun ds => callD f ds
def eCall (own : Bool) (f : Fsp) (ms : M (List DR)) : M DR := M.bind ms fun rs => M.bind (callA own f rs) fun r => M.ok (.dat (rvD r))
def nCall (own : Bool) (f : Fsp) (ms : M (List DR)) : M Unit := M.bind ms fun rs => M.bind (callA own f rs) fun r => match r with
  | .new ds => push ds
  | .dat _ => M.no
section
variable {X : Cx} {P : Ps} {e : Expr} {es : List Expr} {pos : Pos} {c : Ct} {F H : Hp} {σ : L2.St} {τ : List (Option V)}
theorem paired_refv {K : Frag} {F : Hp} {L : List (Option V)} {p : Nat} {rs : List DR} {vs : List V} (h : Paired (RefV K F L) vs (.loc p :: rs)) : ∃ v us, vs = v :: us ∧ L[p]? = some (some v) ∧ Paired (RefV K F L) us rs := by
  cases h with
  | cons h1 h2 => exact ⟨_, _, rfl, h1, h2⟩
/-- what a call's promise asks, from the step: Φ the rest -/
theorem callA_sp {own : Bool} {n : Nat} {f : Fsp} {rs : List DR} {vs : List V} {ρ : List DV} {Φ : RV → List DV → Hp → Hp → Prop} {Q : VK} {E : XK} (hn : vs.length = n) (h : Ho P c F σ τ (callA own f rs ρ) Φ) (R : Rl P.K c F ρ (σ ++ τ) H) (hv : Paired (RefV P.K F (σ ++ τ)) vs rs)
    (hq : ∀ r ρ1 F1 H1 F2 v, Same F F2 → (∀ (Ψ : Hp → Prop), (∀ F1 H1, Same F2 F1 → Rl P.K c F1 ρ1 (σ ++ τ) H1 → Φ r ρ1 F1 H1) → True) → Rl P.K c F1 ρ1 (σ ++ τ) H1 → Same F2 F1 → (∀ F3 H3, Same F1 F3 → Rl P.K c F3 ρ1 (σ ++ τ) H3 → Φ r ρ1 F3 H3) →
      (match r with | .dat d => Rp P.K F1 v d | .new ds => ∃ a xs, v = .ref a ∧ F1 a = none ∧ c.Hi a = none ∧ a ∉ c.ads ∧ H1 a = some (.lst xs) ∧ RpAll P.K F1 xs ds ∧ ∀ (i : Nat) (x : DV), ρ1[i]? = some x → x.own ≠ none → (σ ++ τ)[i]? ≠ some (some (.ref a))) → Q v H1)
    (he : ∀ cls d H', P.W cls d σ H' → E cls d H') : spD P.K own n f vs H Q E := by
  have fin : ∀ {oa : Option Addr} {F1 : Hp} {ρ1 ρ2 : List DV} {us : List V} {w w' ds : List D} {r : RV}, Rl P.K c F1 ρ1 (σ ++ τ) H → Same F F1 → (∀ F3 H3, Same F1 F3 → Rl P.K c F3 ρ2 (σ ++ τ) H3 → Φ r ρ2 F3 H3) →
      (∀ F' H', Same F1 F' → Same F' H' → New F1 H F' → Frm oa H H' → Lent P.K F' H' oa w' → Rl P.K c F' ρ2 (σ ++ τ) H') → (∀ (i : Nat) (x : DV), ρ2[i]? = some x → x.own ≠ none → ∃ y, ρ1[i]? = some y ∧ y.own ≠ none) →
      ∀ v F' H', Same F1 F' → Same F' H' → New F1 H F' → Frm oa H H' → Lent P.K F' H' oa w' → RvOk P.K F' H H' v r → Q v H' := by
    intro oa F1 ρ1 ρ2 us w w' ds r R1 s1 hΦ hR hown v F' H' s s' n fr lt rv
    have R2 := hR F' H' s s' n fr lt
    refine hq r ρ2 F' H' F1 v s1 (fun _ _ => trivial) R2 s (fun F3 H3 s3 R3 => hΦ F3 H3 (s.trans s3) R3) ?_
    cases r with
    | dat d => exact rv
    | new es =>
      obtain ⟨a, xs, e1, e2, e3, e4, e5⟩ := rv
      obtain ⟨g1, g2⟩ := R1.freshAt e3
      refine ⟨a, xs, e1, e2, g1, g2, e4, e5, fun i x ex ox el => ?_⟩
      obtain ⟨y, ey, oy⟩ := hown i x ex ox
      cases oy' : y.own with
      | none => exact oy oy'
      | some zs =>
        obtain ⟨a', xs', q1, _, q3, _⟩ := (R1.slot i y _ ey el).own oy'
        cases q1
        rw [e3] at q3
        cases q3
  cases own with
  | false =>
    have h' : Ho P c F σ τ (M.bind (frzAll rs) (fun ds => callD f ds) ρ) Φ := h
    obtain ⟨ds, F1, ρ1, s1, R1, r1, q1⟩ := Ho.frzAll h' R hv
    refine ⟨hn, F1, none, vs, [], ds, rfl, rfl, R1.sub, trivial, r1, ?_⟩
    unfold callD at q1
    match z : f [] ds with
    | none => rw [z] at q1; exact q1
    | some (.ok r, w') =>
      rw [z] at q1
      exact fin (oa := none) (w' := w') (us := vs) (w := []) (ds := ds) R1 s1 q1 (fun F' H' s s' n fr lt => R1.call0 s s' n fr) (fun i x ex ox => ⟨x, ex, ox⟩)
    | some (.error x, w') =>
      rw [z] at q1
      exact fun C dd v F' H' s s' n fr lt g rp hx hn => he _ _ _ (q1 F' H' C dd v s (R1.call0 s s' n fr) g rp hx (R1.freshAt hn).1)
  | true =>
    cases rs with
    | nil => exact (show False from h).elim
    | cons r0 rs =>
      cases r0 with
      | dat d => exact (show False from h).elim
      | exc c d => exact (show False from h).elim
      | loc p =>
        have h' : Ho P c F σ τ (M.bind (frzAll rs) (fun ds => callO f p ds) ρ) Φ := h
        obtain ⟨v, us, rfl, lv, hus⟩ := paired_refv hv
        obtain ⟨ds, F1, ρ1, s1, R1, r1, q1⟩ := Ho.frzAll h' R hus
        unfold callO at q1
        cases ex : ρ1[p]? with
        | none => rw [ex] at q1; exact (show False from q1).elim
        | some x =>
          rw [ex] at q1
          dsimp only at q1
          cases ox : x.own with
          | none => rw [ox] at q1; exact (show False from q1).elim
          | some w =>
            rw [ox] at q1
            dsimp only at q1
            obtain ⟨a, xs, e1, e2, e3, e4⟩ := (R1.slot p x _ ex lv).own ox
            cases e1
            refine ⟨hn, F1, some a, us, w, ds, rfl, rfl, R1.sub, ⟨e2, xs, e3, e4⟩, r1, ?_⟩
            match z : f w ds with
            | none => rw [z] at q1; exact q1
            | some (.ok r, w') =>
              rw [z] at q1
              refine fin (oa := some a) (w' := w') (us := us) (w := w) (ds := ds) R1 s1 q1 (fun F' H' s s' n fr lt => R1.call1 ex ox lv s s' n fr lt) (fun i y ey oy => ?_)
              rcases set_at ey with ⟨rfl, rfl⟩ | ⟨_, ey⟩
              · exact ⟨x, ex, by rw [ox]; simp⟩
              · exact ⟨y, ey, oy⟩
            | some (.error y, w') =>
              rw [z] at q1
              exact fun C dd v F' H' s s' n fr lt g rp hx hn => he _ _ _ (q1 F' H' C dd v s (R1.call1 ex ox lv s s' n fr lt) g rp hx (R1.freshAt hn).1)
theorem tE_call {own : Bool} {n : Nat} {f : Fsp} {ms : M (List DR)} {t : TA} (ht : ∀ σ H Q, t σ H Q → tA P ms σ H fun vs H' => vs.length = n ∧ Q vs H') (σ : L2.St) (H : Hp) (Q : VK) : True := trivial
theorem tE_callS {own : Bool} {n : Nat} {f : Fsp} {ms : M (List DR)} (hl : ∀ ρ rs ρ', ms ρ = some (.ok rs, ρ') → rs.length = n) (σ : L2.St) (H : Hp) (Q : VK) (q : tE P (eCall own f ms) σ H Q) : tCallS (spD P.K own n f) (WE P.W) (tA P ms) σ H Q := by
  obtain ⟨c, F, τ, ρ, R, q⟩ := q
  refine ⟨c, F, τ, ρ, R, ?_⟩
  have q' := Ho.bind q
  match z : ms ρ with
  | none => rw [z] at q'; exact q'
  | some (.error x, ρ1) => rw [z] at q'; exact q'
  | some (.ok rs, ρ1) =>
    rw [z] at q'
    intro F1 H1 s1 R1 vs hvs
    have q1 := q' F1 H1 s1 R1
    have hn : vs.length = n := by rw [← hl ρ rs ρ1 z]; exact Paired.length hvs
    refine callA_sp hn (Ho.bind q1) R1 hvs (fun r ρ2 F2 H2 F1' v _ _ R2 s2 hΦ hr => ?_) fun cls d H' w => w
    have q2 := hΦ F2 H2 (Same.refl _) R2
    cases r with
    | dat d => exact q2 F2 H2 (Same.refl _) R2 v hr
    | new es =>
      obtain ⟨a, xs, e1, e2, e3, e4, e5, e6, e7⟩ := hr
      subst e1
      exact q2 _ H2 (Same.upd e2) (R2.frzAt e2 e5 e3 e7) _ (.lst (.inl (.inl upd_same)) (e6.mono (Same.upd e2)))
theorem tN_callS {own : Bool} {n : Nat} {f : Fsp} {ms : M (List DR)} (hl : ∀ ρ rs ρ', ms ρ = some (.ok rs, ρ') → rs.length = n) (σ : L2.St) (H : Hp) (Q : VK) (q : tN P (nCall own f ms) σ H Q) : tCallS (spD P.K own n f) (WE P.W) (tA P ms) σ H Q := by
  obtain ⟨c, F, τ, ρ, R, q⟩ := q
  refine ⟨c, F, τ, ρ, R, ?_⟩
  have q' := HoN.bind q
  match z : ms ρ with
  | none => rw [z] at q'; exact q'
  | some (.error x, ρ1) => rw [z] at q'; exact q'
  | some (.ok rs, ρ1) =>
    rw [z] at q'
    intro F1 H1 s1 R1 vs hvs
    have q1 := q' F1 H1 s1 R1
    have hn : vs.length = n := by rw [← hl ρ rs ρ1 z]; exact Paired.length hvs
    refine callA_sp hn (HoN.bind q1) R1 hvs (fun r ρ2 F2 H2 F1' v _ _ R2 s2 hΦ hr => ?_) fun cls d H' w => w
    have q2 := hΦ F2 H2 (Same.refl _) R2
    cases r with
    | dat d => exact (show False from q2).elim
    | new es =>
      obtain ⟨a, xs, e1, e2, e3, e4, e5, e6, e7⟩ := hr
      subst e1
      exact q2 F2 H2 _ (Same.refl _) (Rl.pushAt (H0 := H2) R2 e2 e5 e6 e3 e4 e7)
/-- how many arguments a written list has -/
def ALen (ms : M (List DR)) (n : Nat) : Prop := ∀ ρ rs ρ', ms ρ = some (.ok rs, ρ') → rs.length = n
theorem alen_nil : ALen aNil 0 := fun ρ rs ρ' e => by
  cases e
  rfl
theorem alen_cons {m : M DR} {ms : M (List DR)} {n : Nat} (h : ALen ms n) : ALen (aCons m ms) (n + 1) := fun ρ rs ρ' e => by
  unfold aCons M.bind at e
  split at e
  · cases e
  · rename_i r ρ1 _
    dsimp only at e
    split at e
    · cases e
    · rename_i rs' ρ2 e2
      cases e
      rw [List.length_cons, h _ _ _ e2]
    · cases e
  · cases e
theorem de_call {own : Bool} {n k : Nat} {f : Fsp} {ms : M (List DR)} {x : Str} {p : Pos} {fa : Addr} {fd : FuncData} {ps : List Str} (F : FnOk X.prog X.w X.K X.mg X.base (L2.CX X.prog X.w) k fa fd ps (spD P.K own n f)) (hr : Room k X.A) (hg : Gl X x) (hm : X.mg x = some (.ref fa)) (hk : PySem.W.keepIn X.K (.ref fa) = true)
    (hb : Binds X.K fd ps []) (tk : Takes X P.W) (ha : PA X (e :: es) (tA P ms)) (hl : ALen ms n) (hdb : (x == ("__debug__" : Str)) = false) (he : starEach (e :: es) X.env = (false, eval e X.env) :: starEach es X.env) (hpl : (backTo pos (starEach es X.env)).any (·.1) = false) :
    PE X (.Call (.Name x p) (e :: es) [] pos) (tE P (eCall own f ms)) := (pe_callS F hr hg hm hk hb (fun σ => passAt tk σ) ha hdb he hpl).of (tE_callS hl)
theorem dn_call {own : Bool} {n k : Nat} {f : Fsp} {ms : M (List DR)} {x : Str} {p : Pos} {fa : Addr} {fd : FuncData} {ps : List Str} (F : FnOk X.prog X.w X.K X.mg X.base (L2.CX X.prog X.w) k fa fd ps (spD P.K own n f)) (hr : Room k X.A) (hg : Gl X x) (hm : X.mg x = some (.ref fa)) (hk : PySem.W.keepIn X.K (.ref fa) = true)
    (hb : Binds X.K fd ps []) (tk : Takes X P.W) (ha : PA X (e :: es) (tA P ms)) (hl : ALen ms n) (hdb : (x == ("__debug__" : Str)) = false) (he : starEach (e :: es) X.env = (false, eval e X.env) :: starEach es X.env) (hpl : (backTo pos (starEach es X.env)).any (·.1) = false) :
    PE X (.Call (.Name x p) (e :: es) [] pos) (tN P (nCall own f ms)) := (pe_callS F hr hg hm hk hb (fun σ => passAt tk σ) ha hdb he hpl).of (tN_callS hl)
end
end DL

set_option Elab.async false
set_option linter.all false
set_option maxRecDepth 100000
set_option maxHeartbeats 4000000
/-! DL7: a body keeps its promise; calls with keywords; walks; for. -/
namespace DL
open PySem PySem.Spec PyProof.Rows L2

/-! ### a def -/
def initE (own : Bool) (nN : Nat) (w ds : List D) : List DV := (if own then [DV.bor w] else []) ++ ds.map DV.dat ++ List.replicate (nN - (ds.length + (if own then 1 else 0))) .un
def lent0 : Option DV → List D
  | some (.bor w) => w
  | _ => []
def lentOf (own : Bool) (ρ : List DV) : List D := if own then lent0 ρ[0]? else []
def BOf : Option Addr → List (Nat × Addr)
  | none => []
  | some a => [(0, a)]
/-- what a body does, as a def's promise -/
def runF (own : Bool) (nN : Nat) (m : M Fl) : Fsp := fun w ds => match m (initE own nN w ds) with
  | some (.ok .nx, ρ) => some (.ok (.dat .none), lentOf own ρ)
  | some (.ok (.ret r), ρ) => some (.ok r, lentOf own ρ)
  | some (.error x, ρ) => some (.error x, lentOf own ρ)
  | _ => none
theorem lent_of {K : Frag} {c : Ct} {F H : Hp} {ρ : List DV} {σ : L2.St} {oa : Option Addr} (R : Rl K c F ρ σ H) (hB : c.B = BOf oa) : Lent K F H oa (lentOf oa.isSome ρ) := by
  cases oa with
  | none => trivial
  | some a =>
    obtain ⟨⟨ds, e⟩, l⟩ := R.lent (0, a) (by rw [hB]; exact List.mem_singleton.mpr rfl)
    obtain ⟨a', xs, e1, e2, e3, e4⟩ := R.slot 0 _ _ e l
    cases e1
    refine ⟨e2, xs, e3, ?_⟩
    have z : lentOf true ρ = ds := by
      show lent0 ρ[0]? = ds
      rw [show ρ[0]? = some (DV.bor ds) from e]
      rfl
    show RpAll K F xs (lentOf true ρ)
    rw [z]; exact e4
theorem rl_init {K : Frag} {F H : Hp} {oa : Option Addr} {us : List V} {w ds : List D} {N : List Str} (s : Same F H) (lt : Lent K F H oa w) (r : RpAll K F us ds) (hn : (argV oa us).length ≤ N.length) :
    Rl K ⟨H, F, BOf oa⟩ F (initE oa.isSome N.length w ds) (L2.start N (argV oa us)) H := by
  have hlen := r.length
  have slots : ∀ (i : Nat) (x : DV) (v : Option V), (initE oa.isSome N.length w ds)[i]? = some x → (L2.start N (argV oa us))[i]? = some v → (x = .un) ∨ (∃ y d, v = some y ∧ x = .dat d ∧ Rp K F y d) ∨ (∃ a, oa = some a ∧ i = 0 ∧ v = some (.ref a) ∧ x = .bor w) := by
    intro i x v e1 e2
    unfold initE at e1
    unfold L2.start at e2
    cases oa with
    | none =>
      simp only [Option.isSome_none, Bool.false_eq_true, if_false, List.nil_append, argV] at e1 e2
      by_cases hi : i < ds.length
      · rw [List.getElem?_append_left (by simpa using hi), List.getElem?_map] at e1
        rw [List.getElem?_append_left (by simpa using (by omega : i < us.length)), List.getElem?_map] at e2
        cases q : ds[i]? with
        | none => rw [q] at e1; simp at e1
        | some d =>
          obtain ⟨y, ey, ry⟩ := r.get q
          rw [q] at e1
          rw [ey] at e2
          simp at e1 e2
          exact .inr (.inl ⟨y, d, e2.symm, e1.symm, ry⟩)
      · rw [List.getElem?_append_right (by simpa using hi), List.getElem?_replicate] at e1
        split at e1
        · exact .inl (Option.some.inj e1).symm
        · cases e1
    | some a =>
      simp only [Option.isSome_some, if_true, argV] at e1 e2
      cases i with
      | zero =>
        simp at e1 e2
        exact .inr (.inr ⟨a, rfl, rfl, e2.symm, e1.symm⟩)
      | succ i =>
        simp only [List.cons_append, List.nil_append, List.getElem?_cons_succ, List.map_cons] at e1 e2
        by_cases hi : i < ds.length
        · rw [List.getElem?_append_left (by simpa using hi), List.getElem?_map] at e1
          rw [List.getElem?_append_left (by simpa using (by omega : i < us.length)), List.getElem?_map] at e2
          cases q : ds[i]? with
          | none => rw [q] at e1; simp at e1
          | some d =>
            obtain ⟨y, ey, ry⟩ := r.get q
            rw [q] at e1
            rw [ey] at e2
            simp at e1 e2
            exact .inr (.inl ⟨y, d, e2.symm, e1.symm, ry⟩)
        · rw [List.getElem?_append_right (by simpa using hi), List.getElem?_replicate] at e1
          split at e1
          · exact .inl (Option.some.inj e1).symm
          · cases e1
  have own_ : ∀ (i : Nat) (x : DV) (a : Addr), (initE oa.isSome N.length w ds)[i]? = some x → x.own ≠ none → (L2.start N (argV oa us))[i]? = some (some (.ref a)) → oa = some a ∧ i = 0 ∧ x = .bor w := by
    intro i x a e1 o1 e2
    rcases slots i x _ e1 e2 with rfl | ⟨y, d, _, rfl, _⟩ | ⟨a', h1, h2, h3, h4⟩
    · exact absurd rfl o1
    · exact absurd rfl o1
    · cases h3
      exact ⟨h1, h2, h4⟩
  refine ⟨?_, s, fun b o e _ => e, fun i x v e1 e2 => ?_, fun i j x y a e1 e2 o1 o2 l1 l2 => ?_, fun i x a e1 o1 l1 => ?_, fun i es a e1 l1 => ?_, fun q hq => ?_, fun b o e => .inl e⟩
  · unfold initE L2.start
    cases oa with
    | none =>
      simp only [argV] at hn
      simp [argV]
      omega
    | some a =>
      simp only [argV, List.length_cons] at hn
      simp [argV]
      omega
  · rcases slots i x v e1 e2 with rfl | ⟨y, d, h1, rfl, h2⟩ | ⟨a, h1, h2, h3, rfl⟩
    · trivial
    · exact ⟨y, h1, h2⟩
    · subst h1
      obtain ⟨g1, xs, g2, g3⟩ := lt
      exact ⟨a, xs, h3, g1, g2, g3⟩
  · rw [(own_ i x a e1 o1 l1).2.1, (own_ j y a e2 o2 l2).2.1]
  · refine .inr ?_
    obtain ⟨h1, _, _⟩ := own_ i x a e1 o1 l1
    subst h1
    exact List.mem_map.mpr ⟨(0, a), List.mem_singleton.mpr rfl, rfl⟩
  · have z := (own_ i _ a e1 (by simp [DV.own]) l1).2.2
    cases z
  · cases oa with
    | none => exact absurd hq (by simp [BOf])
    | some a =>
      cases (List.mem_singleton.mp hq)
      exact ⟨⟨w, by simp [initE]⟩, by simp [L2.start, argV]⟩
section
variable {Pg : Program} {wd : World} {K : PySem.W.Frag} {mg : Str → Option Value} {base : Heap}
theorem fn_ok {x qual : Str} {st : Stmt} {fa : Addr} {fd : FuncData} {N ps : List Str} {k : Nat} {own : Bool} {m : M Fl} (F : Fun K x qual st fa fd) (S : FnScope N ps (defScope st))
    (hbody : ∀ (cdv : Value) (A : Around) (outer : List Env) (s : Shared) (H : Hp) (E : XK), Room k (A.deeper (envOfC qual (defScope st) s.heap.objs.size fa cdv)) →
      Takes (cxOf (L2.CX Pg wd) Pg wd K mg base N qual (defScope st) fa cdv A outer s H E) (fun cls d _ H => E cls d H) →
      PSs (cxOf (L2.CX Pg wd) Pg wd K mg base N qual (defScope st) fa cdv A outer s H E) (defBody st) (tS ⟨⟨K, mg⟩, fun cls d _ H => E cls d H⟩ m)) :
    FnOk Pg wd K mg base (L2.CX Pg wd) (k + 1) fa fd ps (spD ⟨K, mg⟩ own ps.length (runF own N.length m)) := by
  refine F.okX S (fun vs H Q E h => h.1) fun cdv A outer s H vs Q E hr h => ?_
  refine ⟨tS ⟨⟨K, mg⟩, fun cls d _ H => E cls d H⟩ m, hbody cdv A outer s H E hr (takes_of rfl rfl rfl rfl), ?_⟩
  obtain ⟨hn, F0, oa, us, w, ds, ho, rfl, sF, lt, r, h⟩ := h
  subst ho
  have hpl : ps.length ≤ N.length := by have := congrArg List.length S.pre; rw [List.length_take] at this; omega
  have R0 := rl_init (N := N) sF lt r (by rw [hn]; exact hpl)
  have fr : ∀ {ρ : List DV} {σ : L2.St} {F' H' : Hp}, Rl ⟨K, mg⟩ ⟨H, F0, BOf oa⟩ F' ρ σ H' → Frm oa H H' := fun {ρ σ F' H'} R b o e hb => R.keep b o e (fun z => by
    cases oa with
    | none => exact absurd z (by simp [Ct.ads, BOf])
    | some a =>
      have : b = a := by simpa [Ct.ads, BOf] using z
      exact hb (by rw [this]))
  refine ⟨_, F0, _, R0, ?_⟩
  unfold runF at h
  match z : m (initE oa.isSome N.length w ds) with
  | none => rw [z] at h; exact h
  | some (.ok .nx, ρ) =>
    rw [z] at h
    exact fun σ F' H' s R => h .non F' H' s R.sub R.born (fr R) (lent_of R rfl) .non
  | some (.ok (.ret rv), ρ) =>
    rw [z] at h
    refine fun v σ F' H' s R rr => h v F' H' s R.sub R.born (fr R) (lent_of R rfl) ?_
    cases rv with
    | dat d => exact rr
    | new es =>
      obtain ⟨a, xs, e1, e2, e3, e4, e5, e6⟩ := rr
      exact ⟨a, xs, e1, e2, e3, e5, e6⟩
  | some (.ok .brk, ρ) => rw [z] at h; exact h.elim
  | some (.ok .cnt, ρ) => rw [z] at h; exact h.elim
  | some (.error x, ρ) =>
    rw [z] at h
    exact fun σ F' H' C dd v s R g rp hx hn => by
      rw [List.append_nil] at R
      exact h C dd v F' H' s R.sub R.born (fr R) (lent_of R rfl) g rp hx hn
end

/-! ### f(k = v, ..) -/
section
variable {X : Cx} {P : Ps} {e : Expr} {es : List Expr} {pos : Pos}
theorem run_fnkS {CX : CXT} {k : Nat} {f : Addr} {fd : FuncData} {ps ks : List Str} {sp : Sp} {E : XK} {g : List Value → List Value → List Value} {gV : List V → List V → List V} {pins : List (Addr × Obj)} {σ : L2.St} {H : Hp} {s : Shared} {Q : VK} {us ws : List Value} {vs zs : List V} (F : FnOk X.prog X.w X.K X.mg X.base CX k f fd ps sp) (hr : Room k X.A) (hb : KBinds X.K fd ps ks g gV) (hx : PassesAt CX X σ E)
    (I : Inv X pins σ H s) (r : Vals vs us) (rz : Vals zs ws) (h : sp (gV vs zs) H Q E) : wpAny (model X.prog X.w) X.A (call (.ref f) us (ks.zip ws)) (EP X pins σ Q) X.xe s := by
  have r2 := hb.rel r rz
  have hl : (g us ws).length = ps.length := by rw [← r2.length]; exact F.len _ _ _ _ h
  refine wpAny_call (codeAny_mono (F.run X.A X.stack s H ⟨us, ks.zip ws⟩ (g us ws) (gV vs zs) Q E hr I.env0 (hb.to s us ws I.kIn hl) r2 h) fun r s' hq => ?_)
  cases r with
  | error e => exact hx pins H s e s' I hq
  | ok fl =>
    cases fl with
    | ret u => exact I.after hq
    | next => exact False.elim hq
    | brk => exact False.elim hq
    | cont => exact False.elim hq
def tCallKS (sp : Sp) (gV : List V → List V → List V) (E : L2.St → XK) (tk : TA) : TE := fun σ H Q => tk σ H fun zs H2 => sp (gV [] zs) H2 Q (E σ)
theorem pe_callKS {CX : CXT} {k : Nat} {f : Addr} {fd : FuncData} {ps ks : List Str} {sp : Sp} {E : L2.St → XK} {x : Str} {p : Pos} {kws : List Keyword} {tk : TA} {g : List Value → List Value → List Value} {gV : List V → List V → List V} (F : FnOk X.prog X.w X.K X.mg X.base CX k f fd ps sp) (hr : Room k X.A) (hg : Gl X x) (hm : X.mg x = some (.ref f)) (hk : PySem.W.keepIn X.K (.ref f) = true) (hb : KBinds X.K fd ps ks g gV) (hx : ∀ σ, PassesAt CX X σ (E σ))
    (hkw : PK X kws tk) (hall : (backToKw pos (keywordEach kws X.env)).all (·.1.isSome) = true) (hks : (backToKw pos (keywordEach kws X.env)).filterMap (·.1) = ks)
    (hdb : (x == ("__debug__" : Str)) = false) (hpl : ((backTo pos (starEach [] X.env)).any (·.1) || (backToKw pos (keywordEach kws X.env)).any (·.1.isNone)) = false) :
    PE X (.Call (.Name x p) [] kws pos) (tCallKS sp gV E tk) := by
  refine ⟨fun pins s σ H Q I h => ?_⟩
  refine wpAny_Call_Name_kw (ld_glob I hg hm ?_ hdb)
  refine PySem.W.callWith_KW0 (h₀ := X.base) I.ok.mod.kin hk hall ?_ hpl
  refine thn (hkw.run pos pins s σ H _ I h) fun ws s2 ⟨zs, H2, I2, rz, q2⟩ => ⟨I2.kIn, ?_⟩
  rw [hks]
  exact run_fnkS F hr hb (hx σ) I2 .nil rz q2
theorem dk_nil : PK X [] (tA P aNil) := ⟨fun pos pins s σ H Q I q => pk_nil.run pos pins s σ H Q I (by
  obtain ⟨c, F, τ, ρ, R, q⟩ := q
  exact Ho.now q R [] .nil)⟩
theorem dk_cons {kws : List Keyword} {m : M DR} {ms : M (List DR)} {nm : Option Str} {kpos : Pos} (ha : PE X e (tE P m)) (hr : PK X kws (tA P ms)) : PK X (⟨nm, e, kpos⟩ :: kws) (tA P (aCons m ms)) := ⟨fun pos pins s σ H Q I q => (pk_cons ha hr).run pos pins s σ H Q I (by
  obtain ⟨c, F, τ, ρ, R, q⟩ := q
  refine ⟨c, F, τ, ρ, R, (Ho.bind q).mono fun r ρ1 F1 H1 s1 R1 q1 v hv => ?_⟩
  refine ⟨c, F1, τ, ρ1, R1, (Ho.bind q1).mono fun rs ρ2 F2 H2 s2 R2 q2 vs hvs => ?_⟩
  exact Ho.now q2 R2 (v :: vs) (.cons (hv.mono s2) hvs))⟩
/-- the values by the keywords, put in the parameters' order -/
def permR {α : Type} (π : List Nat) (l : List α) : List α := π.filterMap fun i => l[i]?
def eCallK (π : List Nat) (f : Fsp) (ms : M (List DR)) : M DR := M.bind ms fun rs => M.bind (frzAll rs) fun ds => M.bind (callD f (permR π ds)) fun r => M.ok (.dat (rvD r))
theorem RpAll.perm {K : Frag} {F : Hp} {vs : List V} {ds : List D} (h : RpAll K F vs ds) : ∀ π : List Nat, RpAll K F (permR π vs) (permR π ds)
  | [] => .nil
  | i :: π => by
    unfold permR
    rw [List.filterMap_cons, List.filterMap_cons]
    cases q : ds[i]? with
    | none =>
      have : vs[i]? = none := by
        rw [List.getElem?_eq_none_iff] at q ⊢
        rw [h.length]; exact q
      rw [this]
      exact RpAll.perm h π
    | some d =>
      obtain ⟨v, e, r⟩ := h.get q
      rw [e]
      exact .cons r (RpAll.perm h π)
theorem tE_callK {n nk : Nat} {π : List Nat} {f : Fsp} {ms : M (List DR)} (hl : ALen ms nk) (hπ : ∀ (vs : List V), vs.length = nk → (permR π vs).length = n) (σ : L2.St) (H : Hp) (Q : VK) (q : tE P (eCallK π f ms) σ H Q) : tCallKS (spD P.K false n f) (fun _ zs => permR π zs) (WE P.W) (tA P ms) σ H Q := by
  obtain ⟨c, F, τ, ρ, R, q⟩ := q
  refine ⟨c, F, τ, ρ, R, ?_⟩
  have q' := Ho.bind q
  match z : ms ρ with
  | none => rw [z] at q'; exact q'
  | some (.error x, ρ1) => rw [z] at q'; exact q'
  | some (.ok rs, ρ1) =>
    rw [z] at q'
    intro F1 H1 s1 R1 vs hvs
    have q1 := q' F1 H1 s1 R1
    have hn : vs.length = nk := by rw [← hl ρ rs ρ1 z]; exact Paired.length hvs
    obtain ⟨ds, F2, ρ2, s2, R2, r2, q2⟩ := Ho.frzAll q1 R1 hvs
    have q3 := Ho.bind q2
    unfold callD at q3
    refine ⟨hπ vs hn, F2, none, permR π vs, [], permR π ds, rfl, rfl, R2.sub, trivial, r2.perm π, ?_⟩
    match y : f [] (permR π ds) with
    | none => rw [y] at q3; exact q3
    | some (.ok r, w') =>
      rw [y] at q3
      intro v F' H' s s' n fr lt rv
      have R3 := R2.call0 s s' n fr
      have q4 := q3 F' H' s R3
      cases r with
      | dat d => exact q4 F' H' (Same.refl _) R3 v rv
      | new es =>
        obtain ⟨a, xs, e1, e2, e3, e4, e5⟩ := rv
        subst e1
        obtain ⟨g1, g2⟩ := R2.freshAt e3
        refine q4 _ H' (Same.upd e2) (R3.frzAt e2 e4 g1 fun i x ex ox el => ?_) _ (.lst (.inl (.inl upd_same)) (e5.mono (Same.upd e2)))
        cases oy : x.own with
        | none => exact ox oy
        | some zs =>
          obtain ⟨a', xs', q1, _, q3, _⟩ := (R2.slot i x _ ex el).own oy
          cases q1
          rw [e3] at q3
          cases q3
    | some (.error x, w') =>
      rw [y] at q3
      exact fun C dd v F' H' s s' n fr lt g rp hx hn => q3 F' H' C dd v s (R2.call0 s s' n fr) g rp hx (R2.freshAt hn).1
theorem de_callK {n nk k : Nat} {π : List Nat} {f : Fsp} {ms : M (List DR)} {x : Str} {p : Pos} {fa : Addr} {fd : FuncData} {ps ks : List Str} {kws : List Keyword} {g : List Value → List Value → List Value} (F : FnOk X.prog X.w X.K X.mg X.base (L2.CX X.prog X.w) k fa fd ps (spD P.K false n f)) (hr : Room k X.A) (hg : Gl X x) (hm : X.mg x = some (.ref fa)) (hk : PySem.W.keepIn X.K (.ref fa) = true)
    (hb : KBinds X.K fd ps ks g (fun _ zs => permR π zs)) (tk : Takes X P.W) (hkw : PK X kws (tA P ms)) (hl : ALen ms nk) (hπ : ∀ (vs : List V), vs.length = nk → (permR π vs).length = n) (hall : (backToKw pos (keywordEach kws X.env)).all (·.1.isSome) = true) (hks : (backToKw pos (keywordEach kws X.env)).filterMap (·.1) = ks)
    (hdb : (x == ("__debug__" : Str)) = false) (hpl : ((backTo pos (starEach [] X.env)).any (·.1) || (backToKw pos (keywordEach kws X.env)).any (·.1.isNone)) = false) :
    PE X (.Call (.Name x p) [] kws pos) (tE P (eCallK π f ms)) := (pe_callKS F hr hg hm hk hb (fun σ => passAt tk σ) hkw hall hks hdb hpl).of (tE_callK hl hπ)
end
end DL

set_option Elab.async false
set_option linter.all false
set_option maxRecDepth 100000
set_option maxHeartbeats 4000000
/-! DL8: what is walked; targets; for; list comprehensions. -/
namespace DL
open PySem PySem.Spec PyProof.Rows L2

theorem _root_.L2.PE.ofL {X : Cx} {e : Expr} {t t' : TE} (h : PE X e t) (w : ∀ σ H Q, σ.length = X.N.length → t' σ H Q → t σ H Q) : PE X e t' := ⟨fun pins s σ H Q I q => h.run pins s σ H Q I (w _ _ _ I.len q)⟩
theorem _root_.L2.PS.ofL {X : Cx} {st : Stmt} {t t' : TS} (h : PS X st t) (w : ∀ D σ H, σ.length = X.N.length → t' D σ H → t D σ H) : PS X st t' := ⟨fun pins s σ H D I q => h.run pins s σ H D I (w _ _ _ I.len q)⟩
theorem _root_.L2.PI.of {X : Cx} {tg iter : Expr} {t t' : TI} (h : PI X tg iter t) (w : ∀ σ H R, t' σ H R → t σ H R) : PI X tg iter t' := ⟨fun pins s σ H R I q => h.run pins s σ H R I (w _ _ _ q)⟩

/-! ### slots changed pointwise -/
theorem Rl.patch {K : Frag} {c : Ct} {F H : Hp} {ρ ρ' : List DV} {L L' : List (Option V)} (R : Rl K c F ρ' L' H) (hl : ρ.length = L.length)
    (h : ∀ (i : Nat) (x : DV) (v : Option V), ρ[i]? = some x → L[i]? = some v → (ρ'[i]? = some x ∧ L'[i]? = some v) ∨ (x.own = none ∧ SlotOk K F H v x))
    (hb : ∀ p ∈ c.B, ρ[p.1]? = ρ'[p.1]? ∧ L[p.1]? = L'[p.1]?) : Rl K c F ρ L H := by
  have same : ∀ {i : Nat} {x : DV} {v : Option V}, ρ[i]? = some x → x.own ≠ none → L[i]? = some v → ρ'[i]? = some x ∧ L'[i]? = some v := fun {i x v} e o l => by
    rcases h i x v e l with g | ⟨g, _⟩
    · exact g
    · exact absurd g o
  refine ⟨hl, R.sub, R.keep, fun i x v e1 e2 => ?_, fun i j x y a e1 e2 o1 o2 l1 l2 => ?_, fun i x a e1 o1 l1 => ?_, fun i es a e1 l1 => ?_, fun q hq => ?_, R.born⟩
  · rcases h i x v e1 e2 with ⟨g1, g2⟩ | ⟨_, g⟩
    · exact R.slot i x v g1 g2
    · exact g
  · exact R.sep i j x y a (same e1 o1 l1).1 (same e2 o2 l2).1 o1 o2 (same e1 o1 l1).2 (same e2 o2 l2).2
  · exact R.fresh i x a (same e1 o1 l1).1 o1 (same e1 o1 l1).2
  · exact R.nobor i es a (same e1 (by simp [DV.own]) l1).1 (same e1 (by simp [DV.own]) l1).2
  · obtain ⟨h1, h2⟩ := hb q hq
    rw [h1, h2]; exact R.lent q hq

/-! ### what a loop walks -/
structure WalkD (K : Frag) (F : Hp) (J : It) (ds : List D) : Prop where
  go : ∀ i H1, Same F H1 → i < ds.length → J.go i H1
  stop : ∀ i H1, Same F H1 → ds.length ≤ i → J.stop i H1
  yld : ∀ i H1 x H2, Same F H1 → i < ds.length → J.yld i H1 x H2 → ∃ d, ds[i]? = some d ∧ ((H2 = H1 ∧ Rp K F x d) ∨ ∃ T xs es, x = .ref T ∧ H1 T = none ∧ H2 = upd H1 T (.tup xs) ∧ d = .tuple es ∧ RpAll K F xs es)
def tI (P : Ps) (m : M (List D)) : TI := fun σ H R => ∃ c F τ ρ, Rl P.K c F ρ (σ ++ τ) H ∧ Ho P c F σ τ (m ρ) fun ds _ F' H' => ∀ J, WalkD P.K F' J ds → R J H'
def itemsD : D → Option (List D)
  | .list ds => some ds
  | .tuple ds => some ds
  | _ => none
def iDat (m : M DR) : M (List D) := M.bind m fun r => M.bind (frz r) fun d => M.opt (itemsD d)
theorem walkD_list {K : Frag} {F : Hp} {a : Addr} {xs : List V} {ds : List D} (h : SqL K.K F a xs) (r : RpAll K F xs ds) : WalkD K F (Itl K.K a) ds where
  go := fun i H1 s hi => by
    obtain ⟨v, e, _⟩ := r.get (List.getElem?_eq_getElem hi)
    exact ⟨xs, v, sql_mono s h, e⟩
  stop := fun i H1 s hi => ⟨xs, sql_mono s h, by rw [r.length]; exact hi⟩
  yld := fun i H1 x H2 s hi y => by
    obtain ⟨e, y⟩ := y
    obtain ⟨d, e', r'⟩ := r.get' (y xs (sql_mono s h))
    exact ⟨d, e', .inl ⟨e, r'⟩⟩
theorem walkD_tup {K : Frag} {F : Hp} {a : Addr} {xs : List V} {ds : List D} (h : SqT K.K F a xs) (r : RpAll K F xs ds) : WalkD K F (Itt K.K a) ds where
  go := fun i H1 s hi => by
    obtain ⟨v, e, _⟩ := r.get (List.getElem?_eq_getElem hi)
    exact ⟨xs, v, sqt_mono s h, e⟩
  stop := fun i H1 s hi => ⟨xs, sqt_mono s h, by rw [r.length]; exact hi⟩
  yld := fun i H1 x H2 s hi y => by
    obtain ⟨e, y⟩ := y
    obtain ⟨d, e', r'⟩ := r.get' (y xs (sqt_mono s h))
    exact ⟨d, e', .inl ⟨e, r'⟩⟩
def iLT (K : PySem.W.Frag) (tl : TE) : TI := fun σ H R => tl σ H fun x H1 => ∃ a, x = .ref a ∧ ((∃ xs, SqL K H1 a xs ∧ R (Itl K a) H1) ∨ ∃ xs, SqT K H1 a xs ∧ R (Itt K a) H1)
section
variable {X : Cx} {P : Ps} {tg e : Expr} {pos : Pos} {c : Ct} {F H : Hp} {σ : L2.St} {τ : List (Option V)}
theorem pi_lt {l : Expr} {tl : TE} (hl : PE X l tl) : PI X tg l (iLT X.K tl) := by
  refine ⟨fun pins s σ H R I h => ?_⟩
  refine thn (hl.run pins s σ H _ I h) fun v s1 ⟨x, H1, I1, r1, q1⟩ => ?_
  obtain ⟨a, e, q1⟩ := q1
  subst e
  cases r1
  have fr : ∀ b ∈ [s1.heap.objs.size], FpOk X pins H1 b := fun b hb => by
    have e : b = s1.heap.objs.size := by simpa using hb
    subst e
    exact I1.fpOk (Nat.le_refl _) (I1.hok.fresh (Nat.le_refl _))
  rcases q1 with ⟨xs, hq, q⟩ | ⟨xs, hq, q⟩
  · obtain ⟨its, rv, p, hz⟩ := I1.list hq
    refine wpAny_pyIter_list p.isList ?_
    exact ⟨s1.heap.objs.size, [s1.heap.objs.size], _, _, H1, rfl, I1.kept (t' := s1.toks) fun b o e => Heap.get?_push_of_some _ e, turn_list a _, ⟨_, Heap.get?_push_size _ rfl, rfl, rfl⟩, fr, q⟩
  · obtain ⟨its, rv, p, hz⟩ := I1.tuple hq
    refine wpAny_pyIter_tuple (show s1.heap.IsTuple a its.toArray from p) ?_
    exact ⟨s1.heap.objs.size, [s1.heap.objs.size], _, _, H1, rfl, I1.kept (t' := s1.toks) fun b o e => Heap.get?_push_of_some _ e, turn_tuple a _, ⟨_, Heap.get?_push_size _ rfl, rfl, rfl⟩, fr, q⟩
theorem di_dat {m : M DR} (hK : P.K.K = X.K) (h : PE X e (tE P m)) : PI X tg e (tI P (iDat m)) := (pi_lt h).of fun σ H R q => by
  obtain ⟨c, F, τ, ρ, Rr, q⟩ := q
  refine ⟨c, F, τ, ρ, Rr, (Ho.bind q).mono fun r ρ1 F1 H1 s1 R1 q1 v hv => ?_⟩
  obtain ⟨d, F2, ρ2, s2, R2, r2, q2⟩ := Ho.frz q1 R1 hv
  unfold M.opt at q2
  cases z : itemsD d with
  | none => rw [z] at q2; exact (show False from q2).elim
  | some ds =>
    rw [z] at q2
    have q3 := q2 F2 H1 (Same.refl _) R2
    cases d with
    | list es =>
      cases z
      cases r2 with
      | lst h1 h2 => exact ⟨_, rfl, .inl ⟨_, hK ▸ sql_mono R2.sub h1, q3 _ (hK ▸ walkD_list h1 h2)⟩⟩
    | tuple es =>
      cases z
      cases r2 with
      | tup h1 h2 => exact ⟨_, rfl, .inr ⟨_, hK ▸ sqt_mono R2.sub h1, q3 _ (hK ▸ walkD_tup h1 h2)⟩⟩
    | _ => cases z
/-- range(n), range(a, b) -/
def rangeD (a b : Int) : List D := (List.range (b - a).toNat).map fun i => .int (a + (i : Nat))
def okR (i : Int) : Bool := decide (-(2 ^ 62) ≤ i) && decide (i < 2 ^ 62)
def rngF : List D → Option (List D)
  | [.int j] => if okR j then some (rangeD 0 j) else none
  | [.int i, .int j] => if okR i && okR j then some (rangeD i j) else none
  | _ => none
def iRng (ms : M (List DR)) : M (List D) := M.bind ms fun rs => M.bind (rdAll rs) fun ds => M.opt (rngF ds)
theorem rangeD_length (a b : Int) : (rangeD a b).length = (b - a).toNat := by unfold rangeD; rw [List.length_map, List.length_range]
theorem walkD_range {K : Frag} {F : Hp} (a b : Int) : WalkD K F (Itr a (b - a).toNat) (rangeD a b) where
  go := fun i H1 s hi => by rw [rangeD_length] at hi; exact hi
  stop := fun i H1 s hi => by rw [rangeD_length] at hi; exact hi
  yld := fun i H1 x H2 s hi y => by
    obtain ⟨e, y⟩ := y
    subst y
    rw [rangeD_length] at hi
    refine ⟨.int (a + (i : Nat)), ?_, .inl ⟨e, .int _⟩⟩
    unfold rangeD
    rw [List.getElem?_map, List.getElem?_range hi]
    rfl
theorem okR_of {i : Int} (h : okR i = true) : -(2 ^ 62) ≤ i ∧ i < 2 ^ 62 := by
  unfold okR at h
  simp only [Bool.and_eq_true, decide_eq_true_eq] at h
  exact h
theorem di_rng1 {a : Expr} {p : Pos} {ms : M (List DR)} (hl : ALen ms 1) (hg : Gl X "range") (hm : X.mg "range" = none) (ha : PA X [a] (tA P ms)) (hs : starEach [a] X.env = [(false, eval a X.env)]) : PI X tg (.Call (.Name "range" p) [a] [] pos) (tI P (iRng ms)) :=
  (pi_range1 hg hm ha hs).of fun σ H R q => by
    obtain ⟨c, F, τ, ρ, Rr, q⟩ := q
    refine ⟨c, F, τ, ρ, Rr, ?_⟩
    have q' := Ho.bind q
    match z : ms ρ with
    | none => rw [z] at q'; exact q'
    | some (.error x, ρ1) => rw [z] at q'; exact q'
    | some (.ok rs, ρ1) =>
      rw [z] at q'
      intro F1 H1 s1 R1 vs hvs
      obtain ⟨ds, n, q2⟩ := Ho.rdAll (q' F1 H1 s1 R1) R1 hvs
      unfold M.opt at q2
      cases y : rngF ds with
      | none => rw [y] at q2; exact (show False from q2).elim
      | some es =>
        rw [y] at q2
        have q3 := q2 F1 H1 (Same.refl _) R1
        have hn : ds.length = 1 := by rw [← Paired.length n, Paired.length hvs, hl _ _ _ z]
        unfold rngF at y
        split at y
        · split at y
          · rename_i j hj
            cases y
            obtain ⟨v, rfl, n0⟩ := now1 n
            have w := walkD_range (K := P.K) (F := F1) 0 j
            obtain ⟨g1, g2⟩ := okR_of hj
            refine ⟨_, by rw [n0.int], g1, g2, ?_⟩
            have e := q3 _ w
            rw [Int.sub_zero] at e
            exact e
          · cases y
        · simp at hn
        · cases y
theorem di_rng2 {a b : Expr} {p : Pos} {ms : M (List DR)} (hl : ALen ms 2) (hg : Gl X "range") (hm : X.mg "range" = none) (ha : PA X [a, b] (tA P ms)) (hs : starEach [a, b] X.env = [(false, eval a X.env), (false, eval b X.env)]) (hs2 : starEach [b] X.env = [(false, eval b X.env)]) : PI X tg (.Call (.Name "range" p) [a, b] [] pos) (tI P (iRng ms)) :=
  (pi_range2 hg hm ha hs hs2).of fun σ H R q => by
    obtain ⟨c, F, τ, ρ, Rr, q⟩ := q
    refine ⟨c, F, τ, ρ, Rr, ?_⟩
    have q' := Ho.bind q
    match z : ms ρ with
    | none => rw [z] at q'; exact q'
    | some (.error x, ρ1) => rw [z] at q'; exact q'
    | some (.ok rs, ρ1) =>
      rw [z] at q'
      intro F1 H1 s1 R1 vs hvs
      obtain ⟨ds, n, q2⟩ := Ho.rdAll (q' F1 H1 s1 R1) R1 hvs
      unfold M.opt at q2
      cases y : rngF ds with
      | none => rw [y] at q2; exact (show False from q2).elim
      | some es =>
        rw [y] at q2
        have q3 := q2 F1 H1 (Same.refl _) R1
        have hn : ds.length = 2 := by rw [← Paired.length n, Paired.length hvs, hl _ _ _ z]
        unfold rngF at y
        split at y
        · simp at hn
        · split at y
          · rename_i i j hj
            cases y
            obtain ⟨v, w, rfl, n1, n2⟩ := now2 n
            obtain ⟨h1, h2⟩ := Bool.and_eq_true_iff.mp hj
            exact ⟨i, j, by rw [n1.int, n2.int], ⟨(okR_of h1).1, (okR_of h1).2, (okR_of h2).1, (okR_of h2).2⟩, q3 _ (walkD_range i j)⟩
          · cases y
        · cases y

/-! ### targets -/
inductive DT where
  | nm (i : Nat)
  | tp (is : List Nat)
def DT.slots : DT → List Nat
  | .nm i => [i]
  | .tp is => is
def setDs : List Nat → List D → M Unit
  | [], [] => M.ok ()
  | i :: is, d :: ds => M.bind (setD i d) fun _ => setDs is ds
  | _, _ => M.no
def setT : DT → D → M Unit
  | .nm i, d => setD i d
  | .tp is, .tuple ds => setDs is ds
  | .tp _, _ => M.no
def Tch (ws : List Nat) (σ σ' : L2.St) : Prop := σ'.length = σ.length ∧ ∀ (j : Nat), j ∉ ws → σ'[j]? = σ[j]?
def gT (P : Ps) (t : DT) : TG := fun v σ H Q => ∃ c F τ ρ d, Rl P.K c F ρ (σ ++ τ) H ∧ Rp P.K F v d ∧ ∃ ρ', setT t d ρ = some (.ok (), ρ') ∧ ∀ σ' F' H', Same F F' → Rl P.K c F' ρ' (σ' ++ τ) H' → Tch t.slots σ σ' → Q σ' H'
theorem dg_name {i : Nat} {x : Str} {p : Pos} (hN : X.N.Nodup) (hi : X.N[i]? = some x) (hx : Loc X.env.scope x) (hf : X.fn x = true ∨ X.env.scope.names.lookup x = some .local) : PG X (.Name x p) (gT P (.nm i)) := by
  refine ⟨fun pins s σ H v u Q I r h => (pg_name hN hi hx hf).run pins s σ H v u Q I r ?_⟩
  obtain ⟨c, F, τ, ρ, d, R, rp, ρ', e, h⟩ := h
  have hl : i < σ.length := by rw [I.len]; exact (List.getElem?_eq_some_iff.mp hi).1
  obtain ⟨e1, hb⟩ := setD_some e
  cases e1
  refine h _ F H (Same.refl F) ?_ ⟨by rw [List.length_set], fun j hj => by rw [List.getElem?_set_ne (fun z => hj (by simp [DT.slots, z]))]⟩
  have := R.setD rp hb
  rw [List.set_append_left (h := hl)] at this
  exact this
def gTs (P : Ps) (is : List Nat) : TGs := fun vs σ H Q => ∃ c F τ ρ ds, Rl P.K c F ρ (σ ++ τ) H ∧ RpAll P.K F vs ds ∧ ∃ ρ', setDs is ds ρ = some (.ok (), ρ') ∧ ∀ σ' F' H', Same F F' → Rl P.K c F' ρ' (σ' ++ τ) H' → Tch is σ σ' → Q σ' H'
theorem _root_.L2.PGs.ofL {X : Cx} {es : List Expr} {t t' : TGs} (h : PGs X es t) (w : ∀ vs σ H Q, σ.length = X.N.length → t' vs σ H Q → t vs σ H Q) : PGs X es t' := ⟨fun pins s σ H vs us Q I r q => h.run pins s σ H vs us Q I r (w _ _ _ _ I.len q)⟩
theorem dgs_nil : PGs X [] (gTs P []) := pgs_nil.ofL fun vs σ H Q _ h => by
  obtain ⟨c, F, τ, ρ, ds, R, rp, ρ', e, h⟩ := h
  cases rp with
  | nil =>
    cases e
    exact ⟨rfl, h σ F H (Same.refl F) R ⟨rfl, fun _ _ => rfl⟩⟩
  | cons _ _ => cases e
theorem dgs_cons {i : Nat} {is : List Nat} {x : Str} {p : Pos} {es : List Expr} (hN : X.N.Nodup) (hi : X.N[i]? = some x) (hx : Loc X.env.scope x) (hf : X.fn x = true ∨ X.env.scope.names.lookup x = some .local) (hr : PGs X es (gTs P is))
    (hs : (assignEach (.Name x p :: es) X.env).map (·.2) = assign (.Name x p) X.env :: (assignEach es X.env).map (·.2)) : PGs X (.Name x p :: es) (gTs P (i :: is)) :=
  (pgs_cons (pg_name hN hi hx hf) hr hs).ofL fun vs σ H Q hlen h => by
    obtain ⟨c, F, τ, ρ, ds, R, rp, ρ', e, h⟩ := h
    have hl : i < σ.length := by rw [hlen]; exact (List.getElem?_eq_some_iff.mp hi).1
    cases rp with
    | nil => cases e
    | cons r1 r2 =>
      unfold setDs M.bind at e
      split at e
      · cases e
      · rename_i u ρ1 e1
        obtain ⟨e2, hb⟩ := setD_some e1
        cases e2
        have R1 := R.setD r1 hb
        rw [List.set_append_left (h := hl)] at R1
        refine ⟨_, _, rfl, c, F, τ, _, _, R1, r2, ρ', e, fun σ' F' H' s R' tc => h σ' F' H' s R' ⟨by rw [tc.1, List.length_set], fun j hj => ?_⟩⟩
        rw [tc.2 j (fun z => hj (List.mem_cons_of_mem _ z)), List.getElem?_set_ne (fun z => hj (by rw [z]; exact List.mem_cons_self))]
      · cases e
theorem dg_tup {es : List Expr} {k : Nat} {is : List Nat} (hK : P.K.K = X.K) (hc : X.calm = true) (h : PGs X es (gTs P is)) (hn : (assignEach es X.env).length = is.length) (hst : (assignEach es X.env).findIdx? (·.1) = none) : PG X (.Tuple es k pos) (gT P (.tp is)) := by
  refine ⟨fun pins s σ H v u Q I r q => (pg_tup hc h hn hst).run pins s σ H v u Q I r ?_⟩
  obtain ⟨c, F, τ, ρ, d, R, rp, ρ', e, q⟩ := q
  cases d with
  | tuple ds =>
    cases rp with
    | tup h1 h2 =>
      refine ⟨_, _, rfl, hK ▸ sqt_mono R.sub h1, ?_, c, F, τ, ρ, ds, R, h2, ρ', e, q⟩
      rw [h2.length]
      have z : ∀ (is : List Nat) (ds : List D) (ρ ρ' : List DV), setDs is ds ρ = some (.ok (), ρ') → ds.length = is.length := by
        intro is
        induction is with
        | nil => intro ds ρ ρ' e; cases ds with
          | nil => rfl
          | cons _ _ => cases e
        | cons i is ih =>
          intro ds ρ ρ' e
          cases ds with
          | nil => cases e
          | cons d ds =>
            unfold setDs M.bind at e
            split at e
            · cases e
            · rw [List.length_cons, List.length_cons, ih _ _ _ e]
            · cases e
      exact z is ds ρ ρ' e
  | _ => cases e

/-! ### for -/
def forM_ (b : D → M Fl) : List D → M Fl
  | [] => M.ok .nx
  | d :: ds => M.bind (b d) fun f => match f with
    | .nx => forM_ b ds
    | .cnt => forM_ b ds
    | .brk => M.ok .nx
    | .ret r => M.ok (.ret r)
def sFor (mi : M (List D)) (t : DT) (mb : M Fl) : M Fl := M.bind mi fun ds => forM_ (fun d => M.bind (setT t d) fun _ => mb) ds
theorem setT_ok {t : DT} {d : D} {ρ : List DV} {o : Except Ex Unit × List DV} (h : setT t d ρ = some o) : ∃ ρ', o = (.ok (), ρ') := by
  have z : ∀ (is : List Nat) (ds : List D) (ρ : List DV) (o : Except Ex Unit × List DV), setDs is ds ρ = some o → ∃ ρ', o = (.ok (), ρ') := by
    intro is
    induction is with
    | nil => intro ds ρ o e; cases ds with
      | nil => cases e; exact ⟨_, rfl⟩
      | cons _ _ => cases e
    | cons i is ih =>
      intro ds ρ o e
      cases ds with
      | nil => cases e
      | cons d ds =>
        unfold setDs M.bind at e
        split at e
        · cases e
        · exact ih _ _ _ e
        · rename_i x ρ' e1
          cases (setD_some e1).1
  cases t with
  | nm i => exact ⟨_, (setD_some h).1⟩
  | tp is =>
    cases d with
    | tuple ds => exact z is ds ρ o h
    | _ => cases h
theorem ds_forK {wi : TI} {mi : M (List D)} {t : DT} {mb : M Fl} (D : Ends) (σ : L2.St) (H : Hp) (q : tS P (sFor mi t mb) D σ H) : tFor (tI P mi) (gT P t) (tS P mb) D σ H := by
  obtain ⟨c, F, ρ, R, q⟩ := q
  refine ⟨c, F, [], ρ, nilτ R, (HoS.bind σ q).mono fun ds ρ1 F1 H1 s1 R1 q1 J wk => ?_⟩
  have R1' := nilτ' R1
  refine ⟨fun i m σ H => m = ds.length - i ∧ i ≤ ds.length ∧ ∃ F2 ρ2, Same F1 F2 ∧ Rl P.K c F2 ρ2 σ H ∧ HoS P c F2 (forM_ (fun d => M.bind (setT t d) fun _ => mb) (ds.drop i) ρ2) D,
    ⟨ds.length, by simp, Nat.zero_le _, F1, ρ1, Same.refl _, R1', by simpa using q1⟩, ?_⟩
  rintro i m σ2 H2 ⟨rfl, hi, F2, ρ2, s2, R2, q2⟩
  have sH : Same F1 H2 := s2.trans R2.sub
  by_cases hlt : i < ds.length
  · refine .inr ⟨wk.go i H2 sH hlt, fun σ' H' => ∃ F3 ρ3, Same F1 F3 ∧ Rl P.K c F3 ρ3 σ' H' ∧ HoS P c F3 (forM_ (fun d => M.bind (setT t d) fun _ => mb) (ds.drop (i + 1)) ρ3) D, fun σ' H' ⟨F3, ρ3, a1, a2, a3⟩ => ⟨ds.length - (i + 1), by omega, rfl, hlt, F3, ρ3, a1, a2, a3⟩, fun x H' y => ?_⟩
    obtain ⟨d, ed, y⟩ := wk.yld i H2 x H' sH hlt y
    have e : ds.drop i = d :: ds.drop (i + 1) := by
      rw [List.drop_eq_getElem_cons hlt]
      rw [List.getElem?_eq_getElem hlt] at ed
      cases ed
      rfl
    rw [e] at q2
    -- the item in a heap F3
    obtain ⟨F3, s3, R3, r3⟩ : ∃ F3, Same F2 F3 ∧ Rl P.K c F3 ρ2 σ2 H' ∧ Rp P.K F3 x d := by
      rcases y with ⟨rfl, r⟩ | ⟨T, xs, es, rfl, hT, rfl, rfl, r⟩
      · exact ⟨F2, Same.refl _, R2, r.mono s2⟩
      · have hF : F2 T = none := R2.sub.free hT
        exact ⟨_, Same.upd hF, R2.new hT, rp_newT (r.mono s2) hF⟩
    have q3 : HoS P c F3 (M.bind (M.bind (setT t d) fun _ => mb) (fun f => match f with
      | .nx => forM_ (fun d => M.bind (setT t d) fun _ => mb) (ds.drop (i + 1))
      | .cnt => forM_ (fun d => M.bind (setT t d) fun _ => mb) (ds.drop (i + 1))
      | .brk => M.ok .nx
      | .ret r => M.ok (.ret r)) ρ2) D := HoS.from q2 s3
    rw [M.assoc] at q3
    have q4 := HoS.bind σ2 q3
    match z : setT t d ρ2 with
    | none => rw [z] at q4; exact (show False from q4).elim
    | some o =>
      obtain ⟨ρ3, rfl⟩ := setT_ok z
      unfold M.bind at q3
      rw [z] at q3
      dsimp only at q3
      refine ⟨c, F3, [], ρ2, d, nilτ R3, r3, ρ3, z, fun σ4 F4 H4 s4 R4 _ => ⟨c, F4, ρ3, nilτ' R4, ?_⟩⟩
      have back : Same F1 F4 := (s2.trans s3).trans s4
      match y2 : mb ρ3 with
      | none => rw [y2] at q3; exact q3
      | some (.error x, ρ5) => rw [y2] at q3; exact fun σ => Er.mono (q3 σ) s4
      | some (.ok .nx, ρ5) => rw [y2] at q3; exact fun σ5 F5 H5 s5 R5 => ⟨F5, ρ5, back.trans s5, R5, HoS.from (HoS.from q3 s4) s5⟩
      | some (.ok .cnt, ρ5) => rw [y2] at q3; exact fun σ5 F5 H5 s5 R5 => ⟨F5, ρ5, back.trans s5, R5, HoS.from (HoS.from q3 s4) s5⟩
      | some (.ok .brk, ρ5) => rw [y2] at q3; exact fun σ5 F5 H5 s5 R5 => q3 σ5 F5 H5 (s4.trans s5) R5
      | some (.ok (.ret r), ρ5) => rw [y2] at q3; exact fun v σ5 F5 H5 s5 R5 rr => q3 v σ5 F5 H5 (s4.trans s5) R5 rr
  · have e : i = ds.length := by omega
    subst e
    rw [List.drop_length] at q2
    exact .inl ⟨wk.stop _ H2 sH (Nat.le_refl _), q2 σ2 F2 H2 (Same.refl _) R2⟩
theorem ds_for {iter : Expr} {body : List Stmt} {mi : M (List D)} {t : DT} {mb : M Fl} (hp : PassesOwn (model X.prog X.w) X.A X.env X.xe) (hc : X.calm = true) (hi : PI X tg iter (tI P mi)) (hg : PG X tg (gT P t)) (hb : PSs X body (tS P mb)) (hs : ∀ x, foldedSetIterable iter X.env x = pure x) :
    PS X (.For tg iter body [] pos) (tS P (sFor mi t mb)) := (ps_for hp hc hi hg hb hs).of (ds_forK (wi := tI P mi))
end
end DL

set_option Elab.async false
set_option linter.all false
set_option maxRecDepth 100000
set_option maxHeartbeats 4000000
/-! DL9: list comprehensions; lists that are changed. -/
namespace DL
open PySem PySem.Spec PyProof.Rows L2

/-! ### comprehensions -/
abbrev Ps.quiet (P : Ps) : Ps := { P with W := fun _ _ _ _ => False }
/-- the block's own slots forgotten -/
def wipeOk (vs : List Nat) (ρ : List DV) : Bool := vs.all fun i => match ρ[i]? with
  | some .un => true
  | some (.dat _) => true
  | _ => false
def wipeD (vs : List Nat) (ρ : List DV) : List DV := ρ.mapIdx fun i x => if vs.contains i then .un else x
def mWipe (vs : List Nat) : M Unit := fun ρ => if wipeOk vs ρ then some (.ok (), wipeD vs ρ) else none
def restD (vs : List Nat) (ρ0 ρ : List DV) : List DV := ρ.mapIdx fun i x => if vs.contains i then (ρ0[i]?).getD x else x
def accAdd (y : D) : M Unit := fun ρ => match ρ.getLast? with
  | some (.lst acc) => if acc.length < 16777216 then some (.ok (), ρ.dropLast ++ [.lst (acc ++ [y])]) else none
  | _ => none
def lcTurn (t : DT) (mt : M Bool) (me : M DR) (vs : List Nat) (d : D) : M Unit := M.bind (setT t d) fun _ => M.bind mt fun b => M.bind (if b = true then M.bind me fun r => M.bind (frz r) fun y => accAdd y else M.ok ()) fun _ => mWipe vs
def lcGo (t : DT) (mt : M Bool) (me : M DR) (vs : List Nat) : List D → M Unit
  | [] => M.ok ()
  | d :: ds => M.bind (lcTurn t mt me vs d) fun _ => lcGo t mt me vs ds
def lcRun (t : DT) (mt : M Bool) (me : M DR) (vs : List Nat) (ds : List D) : M Unit := fun ρ => match (M.bind (mWipe vs) fun _ => lcGo t mt me vs ds) ρ with
  | some (.ok _, ρ') => some (.ok (), restD vs ρ ρ')
  | _ => none
def nLc (mi : M (List D)) (t : DT) (mt : M Bool) (me : M DR) (vs : List Nat) : M Unit := M.bind mi fun ds => M.bind (push []) fun _ => lcRun t mt me vs ds
/-- the last temporary, frozen -/
def popD : M DR := fun ρ => match ρ.getLast? with
  | some (.lst ds) => some (.ok (.dat (.list ds)), ρ.dropLast)
  | _ => none
def eLc (mi : M (List D)) (t : DT) (mt : M Bool) (me : M DR) (vs : List Nat) : M DR := M.bind (nLc mi t mt me vs) fun _ => popD

theorem wipe_get (σ : L2.St) : ∀ (vs : List Nat) (i : Nat), (wipe σ vs)[i]? = if vs.contains i then (σ[i]?).map (fun _ => none) else σ[i]?
  | [], i => by simp [wipe]
  | v :: vs, i => by
    show ((wipe σ vs).set v none)[i]? = _
    by_cases h : v = i
    · subst h
      have : (List.contains (v :: vs) v) = true := by simp
      rw [this, if_pos rfl]
      by_cases hv : v < (wipe σ vs).length
      · rw [List.getElem?_set_self hv]
        rw [wipe_length] at hv
        rw [List.getElem?_eq_getElem hv]
        rfl
      · rw [List.getElem?_eq_none (by rw [List.length_set]; omega)]
        rw [wipe_length] at hv
        rw [List.getElem?_eq_none (by omega)]
        rfl
    · rw [List.getElem?_set_ne h, wipe_get σ vs i]
      have : (List.contains (v :: vs) i) = vs.contains i := by
        rw [List.contains_cons]
        have : (i == v) = false := by simpa using fun z => h z.symm
        rw [this, Bool.false_or]
      rw [this]
theorem wipeD_get (vs : List Nat) (ρ : List DV) (i : Nat) : (wipeD vs ρ)[i]? = (ρ[i]?).map fun x => if vs.contains i then .un else x := by
  unfold wipeD
  rw [List.getElem?_mapIdx]
theorem restD_get (vs : List Nat) (ρ0 ρ : List DV) (i : Nat) : (restD vs ρ0 ρ)[i]? = (ρ[i]?).map fun x => if vs.contains i then (ρ0[i]?).getD x else x := by
  unfold restD
  rw [List.getElem?_mapIdx]
theorem wipeOk_at {vs : List Nat} {ρ : List DV} (h : wipeOk vs ρ = true) {i : Nat} (hi : vs.contains i = true) : ρ[i]? = some .un ∨ ∃ d, ρ[i]? = some (.dat d) := by
  have := List.all_eq_true.mp h i (by simpa using hi)
  split at this
  · exact .inl (by assumption)
  · exact .inr ⟨_, by assumption⟩
  · cases this
section
variable {K : Frag} {c : Ct} {F F' H H' : Hp} {ρ ρ' : List DV} {σ σ2 : L2.St} {τ : List (Option V)}
theorem Rl.wiped {vs : List Nat} (R : Rl K c F ρ (σ ++ τ) H) (hv : ∀ i ∈ vs, i < σ.length) (h : wipeOk vs ρ = true) : Rl K c F (wipeD vs ρ) (wipe σ vs ++ τ) H := by
  have hl : ρ.length = σ.length + τ.length := by rw [R.len, List.length_append]
  have getL : ∀ i, (wipe σ vs ++ τ)[i]? = if vs.contains i then ((σ ++ τ)[i]?).map (fun _ => none) else (σ ++ τ)[i]? := fun i => by
    by_cases hi : i < σ.length
    · rw [List.getElem?_append_left (by rw [wipe_length]; exact hi), List.getElem?_append_left hi, wipe_get]
    · rw [List.getElem?_append_right (by rw [wipe_length]; omega), List.getElem?_append_right (by omega), wipe_length]
      have : vs.contains i = false := by
        cases q : vs.contains i with
        | false => rfl
        | true => exact absurd (hv i (by simpa using q)) hi
      rw [this]
      rfl
  refine R.patch (by unfold wipeD; rw [List.length_mapIdx, List.length_append, wipe_length]; omega) (fun i x v e1 e2 => ?_) fun p hp => ?_
  · rw [wipeD_get] at e1
    rw [getL] at e2
    cases q : vs.contains i with
    | true =>
      rw [q] at e1 e2
      rw [if_pos rfl] at e2
      cases z : ρ[i]? with
      | none => rw [z] at e1; cases e1
      | some y =>
        rw [z] at e1
        simp at e1
        subst e1
        exact .inr ⟨rfl, trivial⟩
    | false =>
      rw [q] at e1 e2
      simp at e1 e2
      exact .inl ⟨by simpa using e1, e2⟩
  · obtain ⟨⟨ds, e⟩, l⟩ := R.lent p hp
    have : vs.contains p.1 = false := by
      cases q : vs.contains p.1 with
      | false => rfl
      | true =>
        rcases wipeOk_at h q with g | ⟨d, g⟩
        · rw [g] at e; cases e
        · rw [g] at e; cases e
    rw [wipeD_get, getL, this, e]
    exact ⟨rfl, rfl⟩
theorem Rl.restored {vs : List Nat} {H0 : Hp} {ρ0 : List DV} {τ0 : List (Option V)} {F0 : Hp} (R : Rl K c F ρ (wipe σ vs ++ τ) H) (R0 : Rl K c F0 ρ0 (σ ++ τ0) H0) (s : Same F0 F) (hv : ∀ i ∈ vs, i < σ.length) (h : wipeOk vs ρ0 = true) : Rl K c F (restD vs ρ0 ρ) (σ ++ τ) H := by
  have getL : ∀ i, vs.contains i = false → (wipe σ vs ++ τ)[i]? = (σ ++ τ)[i]? := fun i hi => by
    by_cases hl : i < σ.length
    · rw [List.getElem?_append_left (by rw [wipe_length]; exact hl), List.getElem?_append_left hl, wipe_get, hi]
      rfl
    · rw [List.getElem?_append_right (by rw [wipe_length]; omega), List.getElem?_append_right (by omega), wipe_length]
  refine R.patch (by unfold restD; rw [List.length_mapIdx, R.len, List.length_append, List.length_append, wipe_length]) (fun i x v e1 e2 => ?_) fun p hp => ?_
  · rw [restD_get] at e1
    cases q : vs.contains i with
    | false =>
      rw [q] at e1
      simp at e1
      exact .inl ⟨e1, by rw [getL i q]; exact e2⟩
    | true =>
      rw [q] at e1
      cases z : ρ[i]? with
      | none => rw [z] at e1; cases e1
      | some y =>
        rw [z] at e1
        have hi : i < σ.length := hv i (by simpa using q)
        rw [List.getElem?_append_left hi] at e2
        have e3 : (σ ++ τ0)[i]? = some v := by rw [List.getElem?_append_left hi]; exact e2
        rcases wipeOk_at h q with g | ⟨d, g⟩
        · rw [g] at e1
          simp at e1
          subst e1
          exact .inr ⟨rfl, trivial⟩
        · rw [g] at e1
          simp at e1
          subst e1
          obtain ⟨w, hw, rw'⟩ := R0.slot i _ v g e3
          exact .inr ⟨rfl, w, hw, rw'.mono s⟩
  · obtain ⟨⟨ds, e⟩, l⟩ := R.lent p hp
    have : vs.contains p.1 = false := by
      cases q : vs.contains p.1 with
      | false => rfl
      | true =>
        have hi : p.1 < σ.length := hv p.1 (by simpa using q)
        rw [List.getElem?_append_left (by rw [wipe_length]; exact hi), wipe_get, q, if_pos rfl] at l
        cases z : σ[p.1]? with
        | none => rw [z] at l; cases l
        | some y => rw [z] at l; cases l
    rw [restD_get, getL _ this, this, e]
    exact ⟨rfl, rfl⟩
theorem tch_wipe {ws vs : List Nat} (h : Tch ws σ σ2) (hs : ∀ i ∈ ws, i ∈ vs) : wipe σ2 vs = wipe σ vs := by
  apply List.ext_getElem?
  intro i
  rw [wipe_get, wipe_get]
  cases q : vs.contains i with
  | false => rw [h.2 i (fun z => by rw [show vs.contains i = true by simpa using hs i z] at q; cases q)]
  | true =>
    rw [if_pos rfl, if_pos rfl]
    have : (σ2[i]?).isSome = (σ[i]?).isSome := by
      cases e1 : σ2[i]? with
      | none =>
        have := List.getElem?_eq_none_iff.mp e1
        rw [List.getElem?_eq_none (by rw [← h.1]; exact this)]
      | some a =>
        have := (List.getElem?_eq_some_iff.mp e1).1
        rw [List.getElem?_eq_getElem (by rw [← h.1]; exact this)]
        rfl
    cases e1 : σ2[i]? <;> cases e2 : σ[i]? <;> simp_all
end
section
variable {X : Cx} {P : Ps} {e : Expr} {pos : Pos} {c : Ct} {F H : Hp} {σ : L2.St} {τ : List (Option V)}
theorem ho_quiet {α : Type} {o : Option (Except Ex α × List DV)} {a : α} {ρ : List DV} (h : o = some (.ok a, ρ)) (Φ : α → List DV → Hp → Hp → Prop) (q : ∀ F' H', Same F F' → Rl P.K c F' ρ (σ ++ τ) H' → Φ a ρ F' H') : Ho P.quiet c F σ τ o Φ := by
  subst h; exact q
theorem mbind_ok {α β : Type} {m : M α} {k : α → M β} {ρ : List DV} {b : β} {ρ' : List DV} (h : M.bind m k ρ = some (.ok b, ρ')) : ∃ a ρ1, m ρ = some (.ok a, ρ1) ∧ k a ρ1 = some (.ok b, ρ') := by
  unfold M.bind at h
  split at h
  · cases h
  · exact ⟨_, _, by assumption, h⟩
  · cases h
theorem accAdd_rl {K : Frag} {c : Ct} {F H : Hp} {ρ ρ' : List DV} {L : List (Option V)} {D : Addr} {v : V} {y : PyData} (h : accAdd y ρ = some (.ok (), ρ')) (R : Rl K c F ρ (L ++ [some (.ref D)]) H) (rp : Rp K F v y) :
    ∃ xs, H D = some (.lst xs) ∧ xs.length < sizeLine ∧ Rl K c F ρ' (L ++ [some (.ref D)]) (upd H D (.lst (xs ++ [v]))) := by
  have hs : sizeLine = 16777216 := sizeLine_eq
  unfold accAdd at h
  split at h
  · rename_i acc hl
    split at h
    · rename_i hz
      cases h
      obtain ⟨ys, rfl⟩ := List.getLast?_eq_some_iff.mp hl
      have hlen : ys.length = L.length := by
        have := R.len
        simp only [List.length_append, List.length_singleton] at this
        omega
      have e : (ys ++ [DV.lst acc])[ys.length]? = some (.lst acc) := by rw [List.getElem?_append_right (Nat.le_refl _)]; simp
      have l : (L ++ [some (V.ref D)])[ys.length]? = some (some (.ref D)) := by rw [hlen, List.getElem?_append_right (Nat.le_refl _)]; simp
      obtain ⟨a, xs, e1, e2, e3, e4⟩ := R.slot _ _ _ e l
      cases e1
      refine ⟨xs, e3, by rw [e4.length]; omega, ?_⟩
      have := R.write e (es := acc) rfl l (e4.append (.one rp))
      rw [List.dropLast_concat]
      have z : (ys ++ [DV.lst acc]).set ys.length ((DV.lst acc).put (acc ++ [y])) = ys ++ [DV.lst (acc ++ [y])] := by
        rw [List.set_append_right (h := Nat.le_refl _)]
        simp [DV.put]
      rw [z] at this
      exact this
    · cases h
  · cases h
theorem tN_lc {mi : M (List D)} {t : DT} {mt : M Bool} {me : M DR} {vs : List Nat} (hvs : ∀ i ∈ t.slots, i ∈ vs) (hN : ∀ i ∈ vs, i < X.N.length) (σ : L2.St) (H : Hp) (Q : VK) (hσ : σ.length = X.N.length) (q : tN P (nLc mi t mt me vs) σ H Q) :
    tLc (tI P mi) (gT P.quiet t) (tT P.quiet mt) (tE P.quiet me) vs σ H Q := by
  obtain ⟨c, F, τ, ρ, R, q⟩ := q
  have hv : ∀ i ∈ vs, i < σ.length := fun i hi => by rw [hσ]; exact hN i hi
  refine ⟨c, F, τ, ρ, R, (HoN.bind q).mono fun ds ρ1 F1 H1 s1 R1 q1 J wk Dl hD => ?_⟩
  -- the new list lies as the last temporary
  have Rp0 : Rl P.K c F1 (ρ1 ++ [.lst []]) (σ ++ τ ++ [some (.ref Dl)]) (upd H1 Dl (.lst [])) := R1.push hD .nil
  have q2 : HoN P c F1 σ τ (lcRun t mt me vs ds (ρ1 ++ [.lst []])) fun _ _ H' v => Q v H' := q1
  unfold lcRun at q2
  match z : (M.bind (mWipe vs) fun _ => lcGo t mt me vs ds) (ρ1 ++ [.lst []]) with
  | none => rw [z] at q2; exact (show False from q2).elim
  | some (.error x, ρ2) => rw [z] at q2; exact (show False from q2).elim
  | some (.ok u, ρe) =>
    rw [z] at q2
    have q3 : ∀ F' H', Same F1 F' → Rl P.K c F' ρe (wipe σ vs ++ (τ ++ [some (.ref Dl)])) H' → wipeOk vs (ρ1 ++ [.lst []]) = true → Q (.ref Dl) H' := fun F' H' s R' hw => by
      refine q2 F' H' (.ref Dl) s ?_
      have Rp0' : Rl P.K c F1 (ρ1 ++ [.lst []]) (σ ++ (τ ++ [some (.ref Dl)])) (upd H1 Dl (.lst [])) := by rw [← List.append_assoc]; exact Rp0
      have := R'.restored Rp0' s hv hw
      rw [← List.append_assoc] at this
      exact this
    obtain ⟨u1, ρw, zw, zg⟩ := mbind_ok z
    unfold mWipe at zw
    split at zw
    · rename_i hw
      cases zw
      have Rw : Rl P.K c F1 (wipeD vs (ρ1 ++ [.lst []])) (wipe σ vs ++ (τ ++ [some (.ref Dl)])) (upd H1 Dl (.lst [])) := Rl.wiped (by rw [← List.append_assoc]; exact Rp0) hv hw
      refine ⟨fun i m H => m = ds.length - i ∧ i ≤ ds.length ∧ ∃ F2 ρ2, Same F1 F2 ∧ Rl P.K c F2 ρ2 (wipe σ vs ++ (τ ++ [some (.ref Dl)])) H ∧ lcGo t mt me vs (ds.drop i) ρ2 = some (.ok u, ρe),
        ⟨ds.length, by simp, Nat.zero_le _, F1, _, Same.refl _, Rw, by simpa using zg⟩, ?_⟩
      rintro i m H2 ⟨rfl, hi, F2, ρ2, s2, R2, g2⟩
      have sH : Same F1 H2 := s2.trans R2.sub
      by_cases hlt : i < ds.length
      · refine .inr ⟨wk.go i H2 sH hlt, fun H' => ∃ F3 ρ3, Same F1 F3 ∧ Rl P.K c F3 ρ3 (wipe σ vs ++ (τ ++ [some (.ref Dl)])) H' ∧ lcGo t mt me vs (ds.drop (i + 1)) ρ3 = some (.ok u, ρe),
          fun H' ⟨F3, ρ3, a1, a2, a3⟩ => ⟨ds.length - (i + 1), by omega, rfl, hlt, F3, ρ3, a1, a2, a3⟩, fun x H' y => ?_⟩
        obtain ⟨d, ed, y⟩ := wk.yld i H2 x H' sH hlt y
        have e : ds.drop i = d :: ds.drop (i + 1) := by
          rw [List.drop_eq_getElem_cons hlt]
          rw [List.getElem?_eq_getElem hlt] at ed
          cases ed
          rfl
        rw [e] at g2
        obtain ⟨F3, s3, R3, r3⟩ : ∃ F3, Same F2 F3 ∧ Rl P.K c F3 ρ2 (wipe σ vs ++ (τ ++ [some (.ref Dl)])) H' ∧ Rp P.K F3 x d := by
          rcases y with ⟨rfl, r⟩ | ⟨T, xs, es, rfl, hT, rfl, rfl, r⟩
          · exact ⟨F2, Same.refl _, R2, r.mono s2⟩
          · have hF : F2 T = none := R2.sub.free hT
            exact ⟨_, Same.upd hF, R2.new hT, rp_newT (r.mono s2) hF⟩
        obtain ⟨u2, ρ9, g3, g4⟩ := mbind_ok g2
        obtain ⟨u3, ρ3, g5, g6⟩ := mbind_ok g3
        refine ⟨c, F3, τ ++ [some (.ref Dl)], ρ2, d, R3, r3, ρ3, g5, fun σ4 F4 H4 s4 R4 tc => ⟨tch_wipe tc hvs |>.trans (by
          apply List.ext_getElem?
          intro j
          rw [wipe_get, wipe_get]
          cases vs.contains j with
          | false => rfl
          | true =>
            cases σ[j]? <;> rfl), ?_⟩⟩
        have hσ4 : σ4.length = σ.length := by rw [tc.1, wipe_length]
        have hw4 : wipe σ4 vs = wipe σ vs := tch_wipe tc hvs |>.trans (by
          apply List.ext_getElem?
          intro j
          rw [wipe_get, wipe_get]
          cases vs.contains j with
          | false => rfl
          | true =>
            cases σ[j]? <;> rfl)
        obtain ⟨b, ρ5, g7, g8⟩ := mbind_ok g6
        have b34 : Same F1 F4 := (s2.trans s3).trans s4
        -- behind the turn
        have fin : ∀ {F7 : Hp} {ρ7 : List DV} {H7 : Hp}, Same F4 F7 → Rl P.K c F7 ρ7 (σ4 ++ (τ ++ [some (.ref Dl)])) H7 → mWipe vs ρ7 = some (.ok u2, ρ9) → ∃ F3 ρ3, Same F1 F3 ∧ Rl P.K c F3 ρ3 (wipe σ vs ++ (τ ++ [some (.ref Dl)])) H7 ∧ lcGo t mt me vs (ds.drop (i + 1)) ρ3 = some (.ok u, ρe) := fun {F7 ρ7 H7} s7 R7 g9 => by
          unfold mWipe at g9
          split at g9
          · rename_i hw7
            cases g9
            refine ⟨F7, _, b34.trans s7, ?_, g4⟩
            have := R7.wiped (fun i hi => by rw [hσ4]; exact hv i hi) hw7
            rw [hw4] at this
            exact this
          · cases g9
        refine ⟨c, F4, τ ++ [some (.ref Dl)], ρ3, R4, ho_quiet (P := P) g7 _ fun F5 H5 s5 R5 => ?_⟩
        cases b with
        | false =>
          rw [if_neg Bool.false_ne_true]
          obtain ⟨u4, ρ6, g9, g10⟩ := mbind_ok g8
          rw [if_neg Bool.false_ne_true] at g9
          cases g9
          exact fin s5 R5 g10
        | true =>
          rw [if_pos rfl]
          obtain ⟨u4, ρ6, g9, g10⟩ := mbind_ok g8
          rw [if_pos rfl] at g9
          obtain ⟨r, ρ7, g11, g12⟩ := mbind_ok g9
          refine ⟨c, F5, τ ++ [some (.ref Dl)], ρ5, R5, ho_quiet (P := P) g11 _ fun F6 H6 s6 R6 v hvr => ?_⟩
          obtain ⟨y, ρ8, g13, g14⟩ := mbind_ok g12
          have hfz : Ho P c F6 σ4 (τ ++ [some (.ref Dl)]) (M.bind (frz r) (fun d => M.ok d) ρ7) fun d ρ8' F7 H7 => d = y ∧ ρ8' = ρ8 := by
            unfold M.bind
            rw [g13]
            exact fun _ _ _ _ => ⟨rfl, rfl⟩
          obtain ⟨d', F7, ρ8', s7, R7, r7, q7⟩ := Ho.frz hfz R6 hvr
          obtain ⟨rfl, rfl⟩ := Ho.now q7 R7
          obtain ⟨xs, h1, h2, h3⟩ := accAdd_rl (L := σ4 ++ τ) g14 (by rw [List.append_assoc]; exact R7) r7
          refine ⟨xs, h1, h2, fin ((s5.trans s6).trans s7) (by rw [← List.append_assoc]; exact h3) g10⟩
      · have e : i = ds.length := by omega
        subst e
        rw [List.drop_length] at g2
        cases g2
        exact .inl ⟨wk.stop _ H2 sH (Nat.le_refl _), q3 F2 H2 s2 R2 hw⟩
    · cases zw
theorem dn_lc {tg iter elt : Expr} {ifs : List Expr} {scope : Scope} {own : List (Str × Nat)} {mi : M (List D)} {t : DT} {mt : M Bool} {me : M DR} (hc : X.calm = true) (hN : X.N.Nodup) (hi : PI X tg iter (tI P mi)) (ok : BlkOk X.N X.env.scope scope own)
    (hg : ∀ (s : Shared) (H : Hp) (C : Addr) (cl : List (Str × Addr)) (fp : List Addr), PG (X.blk s H scope (compEnvC scope cl C X.env) fp) tg (gT P.quiet t)) (ht : ∀ (s : Shared) (H : Hp) (C : Addr) (cl : List (Str × Addr)) (fp : List Addr), PTs (X.blk s H scope (compEnvC scope cl C X.env) fp) ifs (tT P.quiet mt))
    (he : ∀ (s : Shared) (H : Hp) (C : Addr) (cl : List (Str × Addr)) (fp : List Addr), PE (X.blk s H scope (compEnvC scope cl C X.env) fp) elt (tE P.quiet me)) (hs : ∀ x, foldedSetIterable iter X.env x = pure x) (hv : ∀ i ∈ t.slots, i ∈ own.map (·.2)) :
    PE X (.ListComp elt [⟨tg, iter, ifs, 0⟩] scope pos) (tN P (nLc mi t mt me (own.map (·.2)))) :=
  (pe_lc hc hN hi ok hg ht he hs).ofL fun σ H Q hσ q => tN_lc (X := X) hv (fun i hi => by
    obtain ⟨p, hp, rfl⟩ := List.mem_map.mp hi
    exact (List.getElem?_eq_some_iff.mp (ok.ix p hp)).1) σ H Q hσ q
theorem popD_rl {K : Frag} {c : Ct} {F H : Hp} {ρ : List DV} {L : List (Option V)} {v : V} (R : Rl K c F ρ (L ++ [some v]) H) {o : Except Ex DR × List DV} (h : popD ρ = some o) : ∃ ds ρ1 F1, o = (.ok (.dat (.list ds)), ρ1) ∧ Same F F1 ∧ Rl K c F1 ρ1 L H ∧ Rp K F1 v (.list ds) := by
  unfold popD at h
  split at h
  · rename_i ds hl
    cases h
    obtain ⟨ys, rfl⟩ := List.getLast?_eq_some_iff.mp hl
    have hlen : ys.length = L.length := by
      have := R.len
      simp only [List.length_append, List.length_singleton] at this
      omega
    have e : (ys ++ [DV.lst ds])[ys.length]? = some (.lst ds) := by rw [List.getElem?_append_right (Nat.le_refl _)]; simp
    have l : (L ++ [some v])[ys.length]? = some (some v) := by rw [hlen, List.getElem?_append_right (Nat.le_refl _)]; simp
    obtain ⟨a, xs, e1, e2, e3, e4⟩ := R.slot _ _ _ e l
    cases e1
    obtain ⟨xs', h1, h2, h3, R'⟩ := R.freeze (xs := xs) e l
    rw [List.dropLast_concat]
    refine ⟨ds, _, _, rfl, Same.upd h2, ?_, .lst (.inl (.inl upd_same)) (h3.mono (Same.upd h2))⟩
    have z : (ys ++ [DV.lst ds]).set ys.length (DV.dat (.list ds)) = ys ++ [DV.dat (.list ds)] := by
      rw [List.set_append_right (h := Nat.le_refl _)]
      simp
    rw [z] at R'
    refine R'.patch hlen (fun i x w e5 e6 => .inl ⟨?_, ?_⟩) fun p hp => ?_
    · rw [List.getElem?_append_left (List.getElem?_eq_some_iff.mp e5).1]; exact e5
    · rw [List.getElem?_append_left (List.getElem?_eq_some_iff.mp e6).1]; exact e6
    · obtain ⟨⟨fs, g1⟩, g2⟩ := R'.lent p hp
      have hp1 : p.1 < ys.length := by
        rcases Nat.lt_or_ge p.1 ys.length with h | h
        · exact h
        · rw [List.getElem?_append_right h] at g1
          have := (List.getElem?_eq_some_iff.mp g1).1
          have : p.1 - ys.length = 0 := by simp at this; omega
          rw [this] at g1
          cases g1
      rw [List.getElem?_append_left hp1, List.getElem?_append_left (by omega)]
      exact ⟨rfl, rfl⟩
  · cases h
/-- a new list, frozen -/
theorem tE_of_tN {m : M Unit} {t : TE} (w : ∀ σ H Q, tN P m σ H Q → t σ H Q) (σ : L2.St) (H : Hp) (Q : VK) (q : tE P (M.bind m fun _ => popD) σ H Q) : t σ H Q := by
  obtain ⟨c, F, τ, ρ, R, q⟩ := q
  refine w σ H Q ⟨c, F, τ, ρ, R, ?_⟩
  unfold M.bind at q
  match z : m ρ with
  | none => rw [z] at q; exact (show False from q).elim
  | some (.error x, ρ1) => rw [z] at q; exact q
  | some (.ok u, ρ1) =>
    rw [z] at q
    intro F' H' v s R1
    dsimp only at q
    cases y : popD ρ1 with
    | none => rw [y] at q; exact (show False from q).elim
    | some o =>
      obtain ⟨ds, ρ2, F1, e, s1, R2, r⟩ := popD_rl R1 y
      subst e
      rw [y] at q
      exact q F1 H' (s.trans s1) R2 v r
theorem dts_nil : PTs X [] (tT P (M.ok true)) := ⟨fun pins s σ H Q I q => pts_nil.run pins s σ H Q I (by
  obtain ⟨c, F, τ, ρ, R, q⟩ := q
  exact Ho.now q R)⟩
theorem dts_one {cx : Expr} {m : M Bool} (h : PT X cx (tT P m)) : PTs X [cx] (tT P m) := pts_one h

/-! ### x[i] = e, x.append(e) on own lists -/
def wrAt (p : Nat) (f : List D → Option (List D)) : M Unit := fun ρ => match ρ[p]? with
  | none => none
  | some x => match x.own with
    | none => none
    | some ds => match f ds with
      | none => none
      | some es => some (.ok (), ρ.set p (x.put es))
theorem wrAt_some {p : Nat} {f : List D → Option (List D)} {ρ : List DV} {o : Except Ex Unit × List DV} (h : wrAt p f ρ = some o) : ∃ x ds es, ρ[p]? = some x ∧ x.own = some ds ∧ f ds = some es ∧ o = (.ok (), ρ.set p (x.put es)) := by
  unfold wrAt at h
  split at h
  · cases h
  · split at h
    · cases h
    · split at h
      · cases h
      · cases h
        exact ⟨_, _, _, by assumption, by assumption, by assumption, rfl⟩
/-- o[i] = e: e first, then o, i -/
def storeK (d : D) : DR → D → M Fl
  | .loc p, .int k => M.bind (wrAt p fun ds => (ixN ds.length k).map fun j => ds.set j d) fun _ => M.ok .nx
  | _, _ => M.no
def sStore (me mo mi : M DR) : M Fl := M.bind me fun r => M.bind (frz r) fun d => M.bind mo fun ro => M.bind mi fun ri => M.bind (rd ri) fun k => storeK d ro k
theorem ds_store {o i : Expr} {tpos : Pos} {me mo mi : M DR} (he : PE X e (tE P me)) (ho : PE X o (tE P mo)) (hi : PE X i (tE P mi)) (hs : swapsWithSole [.Subscript o i tpos] e pos.line X.env = pure false) (hw : swappedStores [.Subscript o i tpos] e X.env = pure none)
    (h1 : (assignEach [.Subscript o i tpos] X.env).map (·.2) = [assign (.Subscript o i tpos) X.env]) (ha : ∀ v, assign (.Subscript o i tpos) X.env v = (do
      let ov ← holding [v] (eval o X.env)
      let iv ← holding [v, ov] (eval i X.env)
      standAt tpos
      holding [v, ov, iv] (setItem ov iv v)
      release [v, ov, iv] [])) : PS X (.Assign [.Subscript o i tpos] e pos) (tS P (sStore me mo mi)) := (ps_asg he (pg_sub ho hi set_list ha) hs hw h1).of fun D σ H q => by
  obtain ⟨c, F, ρ, R, q⟩ := q
  refine ⟨c, F, [], ρ, nilτ R, (HoS.bind σ q).mono fun r ρ1 F1 H1 s1 R1 q1 v hv => ?_⟩
  obtain ⟨d, F2, ρ2, s2, R2, r2, q2, _⟩ := HoS.frz q1 (nilτ' R1) (by rw [List.append_nil] at hv; exact hv)
  refine ⟨c, F2, [], ρ2, nilτ R2, (HoS.bind σ q2).mono fun ro ρ3 F3 H3 s3 R3 q3 vo hvo => ?_⟩
  refine ⟨c, F3, [], ρ3, R3, (HoS.bind σ q3).mono fun ri ρ4 F4 H4 s4 R4 q4 vi hvi => ?_⟩
  have q5 := HoS.bind σ q4
  cases ri with
  | loc p' =>
    have q6 : Ho P c F4 σ [] (M.bind (rd (.loc p')) (fun k => M.ok k) ρ4) fun k ρ5 F5 _ => HoS P c F5 (storeK d ro k ρ5) D := by
      have e : M.bind (rd (.loc p')) (fun k => M.ok k) ρ4 = rd (.loc p') ρ4 := by
        unfold M.bind
        cases rd (.loc p') ρ4 with
        | none => rfl
        | some o => obtain ⟨o, r⟩ := o; cases o <;> rfl
      rw [e]; exact q5
    obtain ⟨k, e1, q7, n⟩ := Ho.rd q6 R4 hvi
    rcases n with n | ⟨a, xs, ds, _, rfl, _⟩
    · unfold rd at e1
      dsimp only at e1
      split at e1
      · cases e1
        have q8 := Ho.now q7 R4
        cases ro <;> exact (show False from q8).elim
      · cases e1
    · have q8 := Ho.now q7 R4
      cases ro <;> exact (show False from q8).elim
  | exc c d => exact (show False from q5).elim
  | dat di =>
    have q8 := q5 F4 H4 (Same.refl _) R4
    cases ro with
    | dat d' => cases di <;> exact (show False from q8).elim
    | exc c d => cases di <;> exact (show False from q8).elim
    | loc p =>
      cases di with
      | int k =>
        cases hvi
        unfold storeK M.bind at q8
        dsimp only at q8
        cases z : wrAt p (fun ds => (ixN ds.length k).map fun j => ds.set j d) ρ4 with
        | none => rw [z] at q8; exact (show False from q8).elim
        | some o =>
          obtain ⟨x, ds, es, ex, ox, fx, rfl⟩ := wrAt_some z
          rw [z] at q8
          cases y : ixN ds.length k with
          | none => rw [y] at fx; cases fx
          | some j =>
            rw [y] at fx
            cases fx
            obtain ⟨a, xs, e1, e2, e3, e4⟩ := (R4.slot p x _ ex hvo).own ox
            cases e1
            refine ⟨a, xs, k, j, rfl, rfl, e3, by rw [e4.length]; exact y, ?_⟩
            exact q8 σ F4 _ (Same.refl _) (nilτ' (R4.write ex ox hvo (e4.set j ((r2.mono s3).mono s4))))
      | _ => exact (show False from q8).elim
/-- o.append(e), as an expression -/
def eApp (mo me : M DR) : M DR := M.bind mo fun ro => match ro with
  | .loc p => M.bind me fun r => M.bind (frz r) fun d => M.bind (wrAt p fun ds => if ds.length < 16777216 then some (ds ++ [d]) else none) fun _ => M.ok (.dat .none)
  | _ => M.no
end
end DL

set_option Elab.async false
set_option linter.all false
set_option maxRecDepth 100000
set_option maxHeartbeats 4000000
/-! DX1: LeaseError's own __init__ (super().__init__("leasesall"); self.value = value), run on a fresh exception of it or of a class under it. -/
namespace PySem
namespace LeX
open PySem.W PySem.Calls PyProof.Rows PySem.HandSPX
def iA (p1 p2 : Pos) : Arguments := { posonlyargs := [], args := [{ arg := "self", annotation := none, pos := p1 }, { arg := "value", annotation := none, pos := p2 }], vararg := none, kwonlyargs := [], kw_defaults := [], kwarg := none, defaults := [] }
theorem su_ev (q1 q2 q3 q4 q5 : Pos) (env : Env) (hl : (q3.endLine == q5.line) = true) : eval (.Call (.Attribute (.Call (.Name "super" q1) [] [] q2) "__init__" q3) [.Constant (.str "leasesall") 0 q4] [] q5) env = (do
      let ov ← attributeBase (.Call (.Name "super" q1) [] [] q2) "__init__" env (eval (.Call (.Name "super" q1) [] [] q2) env)
      standAt q3.atName
      let (f, first) ← holding [ov] (getMethod ov "__init__" (do return (← importBound (.Call (.Name "super" q1) [] [] q2) env).getD true))
      callWith q5 f first (backTo q5 (starEach [.Constant (.str "leasesall") 0 q4] env)) []) := by
  have hpos : methodCallPos true (.Call (.Name "super" q1) [] [] q2) env q3 q5 = pure q5 := by unfold methodCallPos; simp [hl]
  have hform : methodCallForm (([.Constant (.str "leasesall") 0 q4] : List Expr).length + ([] : List Keyword).length) (backTo q5 (starEach [.Constant (.str "leasesall") 0 q4] env)) (backToKw q5 (keywordEach [] env)) = true := rfl
  rw [arm_eval_Call]
  unfold methodCall
  rw [hform, hpos]
  rfl
structure IP where
  (a b q1 q2 q3 q4 q5 q6 q7 q8 q9 q10 : Pos)
  l : (q3.endLine == q5.line) = true
def iB (p : IP) : List Stmt := [.Expr (.Call (.Attribute (.Call (.Name "super" p.q1) [] [] p.q2) "__init__" p.q3) [.Constant (.str "leasesall") 0 p.q4] [] p.q5) p.q6, .Assign [.Attribute (.Name "self" p.q7) "value" p.q8] (.Name "value" p.q9) p.q10]
def iS : Scope := { kind := .function, names := [(PySem.Str.ofString "self", .local), (PySem.Str.ofString "value", .local), (PySem.Str.ofString "__class__", .free), (PySem.Str.ofString "super", .globalImplicit)], isGenerator := false, isCoroutine := false, more := [] }
/-- what the written part says of LeaseError, at D, and its __init__, at fI -/
structure LeTxt (K : Frag) (mg : Str → Option Value) (prog : Program) (D fI : Addr) : Prop where
  fn : ∃ (cc cda : Addr) (oc : Value) (od : Option Addr) (doc pm : Value) (an : Option Addr) (ct : Value) (osl : Array (Option Value)) (p : IP),
    K.lookup fI = some ⟨oc, od, .func (ksFn "__init__" "LeaseError.__init__" (iA p.a p.b) (iB p) iS .none .none doc pm an (.ref cda) ct cc), osl⟩ ∧ codeIn K (.ref cda) "LeaseError.__init__" = true ∧
    (∃ (ccl : Value) (cdd : Option Addr) (vs : Array Value) (ccs : Array (Option Value)) (file : Str) (tf : Tok), K.lookup cda = some ⟨ccl, cdd, .fields vs, ccs⟩ ∧ vs[2]? = some (.str file tf) ∧ ((prog.main.file : Str) == file) = true) ∧
    ∃ (cl : Value) (cld : Option Addr) (csl : Array (Option Value)), K.lookup cc = some ⟨cl, cld, .cell (some (.ref D)), csl⟩
  isD : (clsIn K D).isSome = true
  sup : mg "super" = none
  any : nsIn K cStatics "thirdparty.any" = some none
  top : (prog.main.scope.names.lookup ("super" : Str)).isSome = false
/-- .. of a class at C, LeaseError's or under it -/
structure LcTxt (K : Frag) (D fI C : Addr) : Prop where
  cls : ∃ nm q N bs bm sn sub ab col dd k0 k1 k2 k3 k5, K.lookup C = some (excClassObj nm q C N bs bm true sn sub ab col dd k0 k1 k2 k3 k5 "ValueError.__new__") ∧ refsVE bm = true
  sa : findIn K (.ref C) "__setattr__" = some (some (.builtin "object.__setattr__"))
  ga : findIn K (.ref C) "__getattribute__" = some (some (.builtin "BaseException.__getattribute__"))
  gg : findIn K (.ref C) "__getattr__" = some none
  noN : findIn K (.ref C) "value" = some none
  iC : findIn K (.ref C) "__init__" = some (some (.ref fI))
  tC : typeIn K (.ref fI) = some (.type "function")
  kC : keepIn K (.ref C) = true
  exC : subIn K (.ref C) (.type "BaseException") = some true
  tyC : typeIn K (.ref C) = some (.type "type")
  hdC : hasDictIn K C = true
  suD : mroIn K C (.ref D) = some true
  suI : ks_superIn K C D "__init__" = some (some (.builtin "ValueError.__init__"))
  suV : subIn K (.ref C) (.type "ValueError") = some true
theorem one_size (v : Value) : [v].length ≤ sizeLine := by
  rw [sizeLine_eq]
  exact (by decide : 1 ≤ 16777216)
/-- what __init__ leaves of a fresh exception at x -/
structure InitEnd (h h' : Heap) (x C dx t1 : Addr) (v : Value) : Prop where
  keep : ∀ b o, b ≠ x → h.get? b = some o → h'.get? b = some o
  obj : h'.get? x = some { cls := .ref C, dict := some dx, data := .fields #[.ref t1, .none, .none, .none, .bool false, .none] }
  dbig : h.objs.size ≤ dx
  dne : dx ≠ x
  ns : h'.Ns1 dx (fun y => if y = "value" then some v else none)
section
variable {prog : Program} {w : World} {A : Around} {E : Value → Shared → Prop} {R : Result → Shared → Prop} {s : Shared} {K : Frag} {mg : Str → Option Value} {D fI C : Addr}
theorem le_init (T : LeTxt K mg prog D fI) (U : LcTxt K D fI C) {x t0 : Addr} {v : Value} (X : K.In s.heap) (hlim : s.heap.NoLimit) (G : s.heap.Ns mainGlobals mg) (hb : ∃ mb, s.heap.Ns builtinsNs mb ∧ mb "super" = bootBuiltins "super")
    (hx : s.heap.get? x = some (excO C t0)) (hnx : K.lookup x = none) (hroom : A.depth < recursionLimit)
    (hq : ∀ h' tk dx t1, InitEnd s.heap h' x C dx t1 v → R (.ok (.ret .none)) { s with heap := h', toks := tk }) :
    codeAny (model prog w) A (.call (.ref fI) ⟨[.ref x, v], []⟩) R s := by
  obtain ⟨cc, cda, oc, od, doc, pm, an, ct, osl, p, ho, hcd, ⟨ccl, cdd, vs, ccs, file, tf, hcode, hvs, hfile⟩, cl, cld, csl, hcell⟩ := T.fn
  obtain ⟨nm, q, N, bs, bm, sn, sub, ab, col, dd, k0, k1, k2, k3, k5, hC, hbm⟩ := U.cls
  obtain ⟨cdD, hD⟩ := Option.isSome_iff_exists.mp T.isD
  have hcl : clsIn K C = some { name := nm, bases := bs, mro := .ref C :: bm, ns := N, qualname := q, hasDict := true, slotNames := sn, subclasses := sub, abstract := ab, collection := col, hasDel := false } := by unfold clsIn; rw [hC] <;> rfl
  have hD' : ∃ oD, K.lookup D = some oD ∧ oD.data = .cls cdD := by
    unfold clsIn at hD
    split at hD
    · rename_i c d cd' sl ho
      cases hD
      exact ⟨_, ho, rfl⟩
    · cases hD
  obtain ⟨oD, hD1, hD2⟩ := hD'
  obtain ⟨mb, hbn, hbs⟩ := hb
  have hxC : x ≠ C := fun z => by rw [z, hC] at hnx; cases hnx
  obtain ⟨hp, g, d, t, os⟩ := s
  refine ks_codeAny_call_defAt (fd := ksFn "__init__" "LeaseError.__init__" (iA p.a p.b) (iB p) iS .none .none doc pm an (.ref cda) ct cc) (body := iB p) (binds := [("self", .ref x), ("value", v)]) hroom (X _ _ ho) rfl hlim (codeRec_of X hcd) rfl
    (BindsTo.of_eq (by first | rfl | with_unfolding_all rfl)) (by show ∀ x ∈ iS.names, x.2 ≠ .cell; decide) (fun y hy => by
      show iS.names.lookup y.1 = some .local
      rcases List.mem_cons.mp hy with rfl | hy
      · exact (by decide : iS.names.lookup (PySem.Str.ofString "self") = some .local)
      · cases List.mem_singleton.mp hy; exact (by decide : iS.names.lookup (PySem.Str.ofString "value") = some .local)) (fun h₁ hns hk => ?_)
  show _root_.PySem.wpAt (model prog w) (A.deeper (ksEnv "LeaseError.__init__" iS hp.objs.size fI (.ref cda) cc)) (.func (iB p) (ksEnv "LeaseError.__init__" iS hp.objs.size fI (.ref cda) cc)) (execs (iB p) (ksEnv "LeaseError.__init__" iS hp.objs.size fI (.ref cda) cc)) _ _ _
  have X₁ : K.In h₁ := X.keeps hk
  refine ks_wpAt_execs_cons (ks_wpAt_Expr_any (ks_wpAt_MethodCall ?_ (su_ev _ _ _ _ _ _ p.l)))
  refine ks_wpAt_super_base (f := fI) (cc := cda) (ar := { arg := "self", annotation := none, pos := p.a }) rfl rfl rfl rfl (X₁ _ _ ho) rfl rfl rfl (X₁ _ _ hcode) rfl hvs hfile T.top ?_
  refine ks_loadName_global rfl rfl (loadGlobal_builtin (G.keeps hk) T.sup (hbn.keeps hk) (hbs.trans (by decide +kernel)) ⟨rfl, ?_⟩)
  refine wpAny_loadName_free rfl rfl rfl ⟨_, X₁ _ _ hcell, rfl⟩ ?_
  refine wpAny_loadName_local rfl rfl hns (v := .ref x) (by first | rfl | with_unfolding_all rfl | kernel_rfl) ?_
  refine ks_wpAny_isType_cls (X₁ _ _ hD1) hD2 ⟨rfl, ?_⟩
  refine ks_wpAny_call_super (X₁ _ _ hD1) hD2 (hk _ _ hx) rfl (fun c e => by cases e) (looks_mroIn X₁ U.suD) (fun h₂ e₂ kk₂ => ?_)
  have X₂ : K.In h₂ := X₁.keeps kk₂
  have hx₂ := kk₂ _ _ (hk _ _ hx)
  have I₂ : InstAt h₂ x (excO C t0) C none := ⟨hx₂, rfl, rfl, trivial⟩
  have hI : Looks (model prog w) h₂ (isInstance (.ref x) (.type "ValueError")) true := I₂.type.andThen (looks_subIn X₂ U.suV)
  refine kxs_getMethod kxs_ValueError e₂ (looks_opaque X₂ T.any) (l₀ := .ref C :: bm) (fun A Q E s k q => wpAny_bind ((looks_clsIn X₂ hcl) A _ E s k (wpAny_pure q))) rfl X₂ (by have z := U.suI; unfold ks_superIn at z; rw [hcl] at z; exact z) hI hxC rfl ?_
  show wpAny _ _ (callWith _ (Value.ref h₂.objs.size) [] (backTo _ (starEach [Expr.Constant (.str "leasesall") 0 p.q4] _)) []) _ _ _
  have hu : (h₂.push (kxs_mw "ValueError.__init__" x)).get? h₂.objs.size = some (kxs_mw "ValueError.__init__" x) := Heap.get?_push_at rfl rfl
  refine kxs_callWith (i := "ValueError.__init__") (x := x) (by rfl) ?_
  have hx₃ : (h₂.push (kxs_mw "ValueError.__init__" x)).get? x = some (excO C t0) := Heap.get?_push_of_some _ hx₂
  have X₃ : K.In (h₂.push (kxs_mw "ValueError.__init__" x)) := X₂.keeps fun b o e => Heap.get?_push_of_some _ e
  refine evalArgs_plain ?_
  show wpAny _ _ (spliced ((false, eval (Expr.Constant (.str "leasesall") 0 p.q4) _) :: [])) _ _ _
  refine Calls.spliced_cons (wpAny_Constant_str (Calls.spliced_nil ⟨hu, ?_⟩))
  show wpAny _ _ (call (.ref h₂.objs.size) [Value.str "leasesall" _]) _ _ _
  refine wpAny_call (codeAny_of_tree ?_)
  show wpAny _ _ (callAny (.ref h₂.objs.size) ⟨[Value.str "leasesall" _], []⟩) _ _ _
  simp only [callAny]
  refine wpAny_bind (wpAny_load hu ?_)
  simp only [kxs_mw, show (Value.type "method-wrapper" == Value.type "method" || Value.type "method-wrapper" == Value.type "builtin_function_or_method" || Value.type "method-wrapper" == Value.type "method-wrapper") = true by decide, if_true]
  refine W.KFB.if_so (by decide) ?_
  refine wpAny_bind (check_bound_init F.excBase_ValueError.toExcCallFacts (X₃ _ _ hC) hx₃ rfl ?_)
  refine wpAny_bind (wpAny_pure (wpAny_pure ?_))
  refine ⟨plainId_quiet F.excBase_ValueError.init.plain _, codeAny_builtin F.excBase_ValueError.initEntry ?_⟩
  refine exc_init_tree (cls := .ref C) (t0 := t0) (dv := none) (c2 := .none) (c3 := .none) (b4 := .bool false) hx₃ (one_size _) fun h₄ k₄ e₄ t₄ => ?_
  have X₄ : K.In h₄ := fun a o e => k₄ a o (fun z => by rw [z, hnx] at e; cases e) (X₃ a o e)
  have hxL : hp.objs.size ≠ x := Nat.ne_of_gt (Heap.lt_size hx)
  have k₁₃ : ∀ b o, h₁.get? b = some o → (h₂.push (kxs_mw "ValueError.__init__" x)).get? b = some o := fun b o e => Heap.get?_push_of_some _ (kk₂ b o e)
  have hn₄ : h₄.Ns hp.objs.size (fun y => List.lookup y ([(PySem.Str.ofString "self", Value.ref x), (PySem.Str.ofString "value", v)] : List (Str × Value)).reverse) := hns.at fun o e => k₄ _ _ hxL (k₁₃ _ _ e)
  show _root_.PySem.wpAt _ _ _ _ _ _ _
  refine _root_.PySem.wpAt_of_wpAny ?_
  refine wpAny_execs_cons (plainObj_wpAny_Assign_Attribute ?_)
  refine wpAny_Name (wpAny_loadName_local rfl rfl hn₄ (v := v) (by first | rfl | with_unfolding_all rfl | kernel_rfl) ?_) (by decide)
  refine wpAny_Name (wpAny_loadName_local rfl rfl hn₄ (v := .ref x) (by first | rfl | with_unfolding_all rfl | kernel_rfl) ?_) (by decide)
  refine set_plain X₄ (ox := excO C (h₂.push (kxs_mw "ValueError.__init__" x)).objs.size) (od := none) ⟨e₄, rfl, rfl, trivial⟩ U.sa ?_
  refine exc_osa X₄ e₄ hcl (show refsVE (.ref C :: bm) = true from hbm) rfl U.noN (fun h₅ tk₅ dx k₅ dn dne hx₅ hn₅ => ?_)
  show wpAny _ _ (execs _ _) _ _ _
  have z1 : hp.objs.size < h₄.objs.size := hn₄.lt
  refine wpAny_execs_nil (hq h₅ tk₅ dx _ ⟨fun b o hb e => k₅ b o hb (k₄ b o hb (k₁₃ b o (hk b o e))), hx₅, Nat.le_of_lt (Nat.lt_of_lt_of_le z1 dn), dne, hn₅⟩)
/-- a made error -/
structure OwnMade (h h' : Heap) (e C d : Addr) (v : Value) : Prop where
  keep : ∀ b o, h.get? b = some o → h'.get? b = some o
  new : h.objs.size ≤ e
  obj : ∃ oe vs, h'.get? e = some oe ∧ oe.cls = .ref C ∧ oe.dict = some d ∧ oe.data = .fields vs ∧ vs[1]? = some .none
  dbig : h.objs.size ≤ d
  dne : d ≠ e
  ns : h'.Ns1 d (fun y => if y = "value" then some v else none)
theorem le_made (T : LeTxt K mg prog D fI) (U : LcTxt K D fI C) {v : Value} (X : K.In s.heap) (hlim : s.heap.NoLimit) (G : s.heap.Ns mainGlobals mg) (hb : ∃ mb, s.heap.Ns builtinsNs mb ∧ mb "super" = bootBuiltins "super") (hroom : A.depth + 1 < recursionLimit)
    (hq : ∀ h' tk e d, OwnMade s.heap h' e C d v → R (.ok (.ret (.ref e))) { s with heap := h', toks := tk }) :
    codeAny (model prog w) A (.call (.ref C) ⟨[v], []⟩) R s := by
  obtain ⟨nm, q, N, bs, bm, sn, sub, ab, col, dd, k0, k1, k2, k3, k5, hC, hbm⟩ := U.cls
  obtain ⟨hp, g, dr, tk, os⟩ := s
  have k : ∀ b o, hp.get? b = some o → ((hp.push (kdv_tup [v])).push (excO C hp.objs.size)).get? b = some o := fun b o e => Heap.get?_push_of_some _ (Heap.get?_push_of_some _ e)
  have hget : ((hp.push (kdv_tup [v])).push (excO C hp.objs.size)).get? (hp.objs.size + 1) = some (excO C hp.objs.size) := by heap_get
  have hnx : K.lookup (hp.objs.size + 1) = none := by
    cases e : K.lookup (hp.objs.size + 1) with
    | none => rfl
    | some o =>
      have z : hp.get? (hp.objs.size + 1) = some o := X _ _ e
      exact absurd (Nat.lt_of_succ_lt (Heap.lt_size z)) (Nat.lt_irrefl _)
  obtain ⟨mb, hb1, hb2⟩ := hb
  refine call_own F.excBase_ValueError (fun X => refsVE_contains X bm hbm) (X _ _ hC) (looks_findIn X U.iC) (fun self => bind_fn X self U.tC) (one_size v) ?_
  refine le_init (s := ⟨(hp.push (kdv_tup [v])).push (excO C hp.objs.size), g, dr, tk, os⟩) T U (X.keeps k) (hlim.keeps k) (G.keeps k) ⟨mb, hb1.keeps k, hb2⟩ hget hnx ?_ fun h' tk' dx t1 ⟨k', hx, dn, dne, hns⟩ => ?_
  · show A.depth + 1 < recursionLimit
    exact hroom
  · have old : ∀ b o, hp.get? b = some o → h'.get? b = some o := fun b o e => k' b o (Nat.ne_of_lt (Nat.lt_succ_of_lt (Heap.lt_size e))) (k b o e)
    have z : hp.objs.size + 1 + 1 ≤ dx := by
      first
        | (simpa only [Heap.size_push] using dn)
        | exact dn
        | (have q := dn; rw [Heap.size_push, Heap.size_push] at q; exact q)
    exact ⟨rfl, hq h' tk' (hp.objs.size + 1) dx ⟨old, Nat.le_succ _, ⟨_, _, hx, rfl, rfl, rfl, rfl⟩, Nat.le_trans (Nat.le_trans (Nat.le_succ _) (Nat.le_succ _)) z, dne, hns⟩⟩
end
end LeX
end PySem
namespace DL
open PySem PySem.Spec PyProof.Rows L2
theorem relO_val {v : V} {v' : Value} (r : RelV v v') (f : Str) : RelO (List.lookup f [(("value" : Str), v)]) (if f = "value" then some v' else none) := by
  by_cases hw : f = "value"
  · subst hw
    rw [if_pos rfl]
    have q : List.lookup ("value" : Str) [(("value" : Str), v)] = some v := by simp [List.lookup]
    rw [q]
    exact r
  · rw [if_neg hw]
    have qw : (f == ("value" : Str)) = false := by simpa using hw
    have q2 : List.lookup f [(("value" : Str), v)] = none := by simp [List.lookup, qw]
    rw [q2]
    trivial
section
variable {X : Cx} {C D fI : Addr} {P : Ps}
/-- C(e) -/
def tMkLe (C : Addr) (te : TE) : L2.St → Hp → XK → Prop := fun σ H Q => te σ H fun v H1 => ∀ d, H1 d = none → Q (.ref C) (some d) (upd H1 d (.xd [(("value" : Str), v)]))
theorem pmk_le {x : Str} {a : Expr} {te : TE} {p pos : Pos} {k : Nat} (T : PySem.LeX.LeTxt X.K X.mg X.prog D fI) (U : PySem.LeX.LcTxt X.K D fI C) (gC : X.mg x = some (.ref C)) (hr : Room (k + 1) X.A) (ha : PE X a te) (hg : Gl X x) (hdb : (x == ("__debug__" : Str)) = false)
    (he : starEach (a :: []) X.env = (false, eval a X.env) :: starEach [] X.env) (hpl : (backTo pos (starEach [] X.env)).any (·.1) = false) :
    PMk X (.Call (.Name x p) [a] [] pos) (tMkLe C te) := by
  intro pins s σ H Q I h
  refine wpAny_Call_Name_kw (ld_glob I hg gC ?_ hdb)
  refine PySem.W.callWith_K (h₀ := X.base) I.ok.mod.kin U.kC ?_ he hpl
  rw [he]
  show wpAny _ _ (spliced ((false, eval a X.env) :: backTo pos (starEach [] X.env))) _ _ s
  refine Calls.spliced_cons (thn (ha.run pins s σ H _ I h) fun v' s1 ⟨v, H1, I1, rv, q1⟩ => ?_)
  refine Calls.spliced_nil ⟨I1.kIn, ?_⟩
  show wpAny _ _ (call (.ref C) [v']) _ _ _
  have hlim := I1.nolimit
  have G := I1.mod.glob.keeps I1.bk
  obtain ⟨mb, hb1, hb2⟩ := I1.mod.blt
  have hb : ∃ mb, s1.heap.Ns builtinsNs mb ∧ mb "super" = bootBuiltins "super" := ⟨mb, hb1.keeps I1.bk, hb2 _ (by decide)⟩
  obtain ⟨hp, g, dr, tk, os⟩ := s1
  refine wpAny_call (PySem.LeX.le_made T U I1.kIn hlim G hb (by have := hr.dp; omega) fun h' tk' e d M => ?_)
  show MkP X pins σ Q (.ref e) ⟨h', g, dr, tk', os⟩
  obtain ⟨oe, fv, hoe, hc, hd, hdat, h1⟩ := M.obj
  have hns := M.ns
  obtain ⟨G', g1, g2⟩ := restrict h' fun b => decide (b ≠ e)
  have gk : ∀ b, b ≠ e → G'.get? b = h'.get? b := fun b hb => g1 b (decide_eq_true hb)
  have ge : G'.get? e = none := g2 e (by simp)
  have old : ∀ b o, hp.get? b = some o → G'.get? b = some o := fun b o q => (gk b (Nat.ne_of_lt (Nat.lt_of_lt_of_le (Heap.lt_size q) M.new))).trans (M.keep b o q)
  have ob : ObjOk X.prog X.w (upd H1 d (.xd [(("value" : Str), v)])) G' d (.xd [(("value" : Str), v)]) :=
    ⟨_, hns.at (fun o q => (gk d M.dne).trans q), fun f => relO_val rv f⟩
  have J : Inv X pins σ (upd H1 d (.xd [(("value" : Str), v)])) ⟨G', g, dr, tk', os⟩ := I1.laid (t' := tk') old M.dbig ob
  refine ⟨e, oe, fv, ⟨G', g, dr, tk', os⟩, _, .ref C, some d, rfl, J, fun b o q => ?_, ge, hoe, ⟨hc, hd⟩, hdat, h1, ?_, rfl, I1.bare, raises_own U.exC U.tyC, q1 d (I1.hok.fresh M.dbig)⟩
  · by_cases hb : b = e
    · have q' : G'.get? b = some o := q
      rw [hb, ge] at q'; cases q'
    · exact (gk b hb).symm.trans q
  · rw [upd_ne (Ne.symm M.dne)]
    exact I1.hok.fresh M.new
/-- raise x(e) -/
def sRaise (x : Str) (m : M DR) : M Fl := M.bind m fun r => M.bind (frz r) fun d => M.rais (x, d)
theorem ds_raise {x : Str} {a : Expr} {m : M DR} {p pos pos2 : Pos} {k : Nat} (T : PySem.LeX.LeTxt X.K X.mg X.prog D fI) (U : PySem.LeX.LcTxt X.K D fI C) (gC : X.mg x = some (.ref C)) (gP : P.K.G x = some (.ref C)) (hc : X.calm = true) (hr : Room (k + 1) X.A) (tk : Takes X P.W) (ha : PE X a (tE P m)) (hg : Gl X x) (hdb : (x == ("__debug__" : Str)) = false)
    (he : starEach (a :: []) X.env = (false, eval a X.env) :: starEach [] X.env) (hpl : (backTo pos (starEach [] X.env)).any (·.1) = false) :
    PS X (.Raise (some (.Call (.Name x p) [a] [] pos)) none pos2) (tS P (sRaise x m)) :=
  (ps_raise hc tk (pmk_le T U gC hr ha hg hdb he hpl)).of fun De σ H q => by
    obtain ⟨c, F, ρ, R, q⟩ := q
    refine ⟨c, F, [], ρ, nilτ R, (HoS.bind σ q).mono fun r ρ1 F1 H1 s1 R1 q1 v hv dd hdd => ?_⟩
    obtain ⟨d, F2, ρ2, s2, R2, r2, q2, _⟩ := HoS.frz q1 (nilτ' R1) (by rw [List.append_nil] at hv; exact hv)
    have q3 := q2 σ
    have R3 := R2.new (o := .xd [(("value" : Str), v)]) hdd
    have hFd : F2 dd = none := by
      cases z : F2 dd with
      | none => rfl
      | some u => have := R2.sub dd u z; rw [hdd] at this; cases this
    exact q3 _ _ C dd v (Same.upd hFd) (nilτ R3) gP (r2.mono (Same.upd hFd)) upd_same (R2.freshAt hdd).1
end
end DL

set_option Elab.async false
set_option linter.all false
set_option maxRecDepth 100000
set_option maxHeartbeats 4000000
/-! DX2: try .. except C as n: the exception lies in the slot n as a tracked object; it may be stored and asked later. -/
namespace DL
open PySem PySem.Spec PyProof.Rows L2

section
variable {X : Cx} {pins : List (Addr × Obj)} {σ : L2.St} {H : Hp} {s : Shared}
theorem exK_ok {P : Program} {w : World} {H : Hp} {h : Heap} {a C dd : Addr} {oe : Obj} {vs : Array Value} (e : h.get? a = some oe) (z : Zc (.ref C) (some dd) oe) (d : oe.data = .fields vs) : ObjOk P w H h a (ExK C dd a) :=
  ⟨⟨oe, vs, e, z, d⟩, ⟨oe, e⟩, fun _ _ ⟨o, v, q, r⟩ k => ⟨o, v, k o q, r⟩⟩
theorem Inv.track {a C dd : Addr} {oe : Obj} {vs : Array Value} (I : Inv X pins σ H s) (young : X.s_0.heap.get? a = none) (at_ : s.heap.get? a = some oe) (z : Zc (.ref C) (some dd) oe) (flds : oe.data = .fields vs)
    (na : H a = none) (apart : a ≠ X.env.locals) (unpinned : ∀ p ∈ X.pn ++ pins, p.1 ≠ a) : Inv X pins σ (upd H a (ExK C dd a)) s := by
  have same : ∀ {b : Addr}, b ≠ a → upd H a (ExK C dd a) b = H b := fun n => upd_ne n
  have keepS : ∀ {b : Addr} {u : HO}, H b = some u → upd H a (ExK C dd a) b = some u := fun q => (same (ne_of_none q na)).trans q
  have base' : ∀ b o, X.s_0.heap.get? b = some o → b ≠ a := by
    rintro b o q rfl
    rw [young] at q
    cases q
  have cellApart : ∀ x c, X.env.cells.lookup x = some c → c ≠ a := by
    rintro x c q rfl
    obtain ⟨_, o, ho, isCell⟩ := I.cell x c q
    obtain rfl := Option.some.inj (at_.symm.trans ho)
    rw [flds] at isCell
    cases isCell
  exact { I with
    base := { I.base with
      free := fun b o q n nx => (same (base' b o q)).trans (I.base.free b o q n nx)
      tups := fun b xs q => keepS (I.base.tups b xs q)
      frzs := fun b o u q => keepS (I.base.frzs b o u q)
      tbls := fun b ps q => (I.base.tbls b ps q).imp fun _ r => keepS r }
    free := (same (Ne.symm apart)).trans I.free
    freeC := fun x c q => (same (cellApart x c q)).trans (I.freeC x c q)
    pin := fun p m => by
      obtain ⟨q1, q2, more⟩ := I.pin p m
      exact ⟨q1, (same (unpinned p m)).trans q2, more⟩
    hok := fun b o q => by
      by_cases at_a : b = a
      · obtain rfl := at_a
        obtain rfl := Option.some.inj (upd_same.symm.trans q)
        exact exK_ok at_ z flds
      · exact (I.hok b o ((same at_a).symm.trans q)).stay (fun _ _ _ r => r) (fun _ => keepS) fun _ _ => keepS }
/-- into the clause with nothing pinned anew, and out of it -/
theorem Inv.suiteK (I : Inv X pins σ H s) (a : Addr) : Inv (X.suite a (X.pn ++ pins)) [] σ H s :=
  { I with ok := I.ok.suite _ _, pin := fun p m => I.pin p ((List.mem_append.mp m).elim id fun z => nomatch z) }
theorem Inv.unsuiteK {a : Addr} {more : List (Addr × Obj)} (I : Inv (X.suite a (X.pn ++ pins)) more σ H s) (ok : X.Ok) : Inv X pins σ H s :=
  { I with ok := ok, pin := fun p m => I.pin p (List.mem_append.mpr (.inl m)) }
theorem gone_s0 {a : Addr} (I : Inv X pins σ H s) (none_ : X.ex = []) (nb : s.heap.get? a = none) : X.s_0.heap.get? a = none := by
  match e : X.s_0.heap.get? a with
  | none => rfl
  | some o =>
    obtain ⟨_, q⟩ := I.base.there a o e (by rw [none_]; exact List.not_mem_nil)
    rw [nb] at q
    cases q
end
/-- what the clause wishes: the exception, tracked, in slot i -/
def wKeep (K : PySem.W.Frag) (c : Value) (i : Nat) (ts : TS) (Wout : WX) (D : Ends) : WX := fun cls d σ H =>
  ∃ b, PySem.W.exmOne K cls c = some b ∧ (b = true → ∃ C dd, cls = .ref C ∧ d = some dd ∧ ∀ a, H a = none → ts { nx := fun σ' H' => D.nx (σ'.set i none) H', rt := D.rt, bk := fun σ' H' => D.bk (σ'.set i none) H', ct := fun σ' H' => D.ct (σ'.set i none) H' } (σ.set i (some (.ref a))) (upd H a (ExK C dd a))) ∧
    (b = false → Wout cls d σ H)
/-! the ways of a try, one by one -/
section
variable {X : Cx} {B : Heap} {a : Addr} {cls : Value} {d : Option Addr} {pins pn : List (Addr × Obj)} {D : Ends} {t : Shared}
theorem off_frames {h : Heap} {o : Obj} {vs : Array Value} {es : List Env} (ff : h.FunFrames B es) (at_ : h.get? a = some o) (fl : o.data = .fields vs) : a ∉ frs es := by
  intro m
  obtain ⟨_, o', q, no⟩ := ff.mem m
  obtain rfl := Option.some.inj (at_.symm.trans q)
  exact no vs fl
theorem off_here (hf : X.env.frame = some X.env.locals) (n : a ∉ frs (X.env :: X.outer)) : a ≠ X.env.locals := by
  rintro rfl
  exact n (List.mem_filterMap.mpr ⟨_, .head _, hf⟩)
theorem off_rest (n : a ∉ frs (X.env :: X.outer)) : a ∉ X.fs := by
  intro m
  have ⟨v, mv, q⟩ := List.mem_filterMap.mp m
  exact n (List.mem_filterMap.mpr ⟨v, .tail _ mv, q⟩)
/-- the body came to an end of its own -/
theorem sp_plain {xe : Value → Shared → Prop} (ok : X.Ok) : ∀ fl : Flow, SP (X.tr (X.pn ++ pins) xe) [] D fl t → SP X pins D fl t
  | .next, ⟨_, _, J, q⟩ => ⟨_, _, J.ofTry ok, q⟩
  | .brk, ⟨_, _, J, q⟩ => ⟨_, _, J.ofTry ok, q⟩
  | .cont, ⟨_, _, J, q⟩ => ⟨_, _, J.ofTry ok, q⟩
  | .ret _, ⟨_, _, _, J, r, q⟩ => ⟨_, _, _, J.ofTry ok, r, q⟩
/-- the name of the clause's class is read while a flies -/
theorem class_read {x : Str} {c : Value} {np : Pos} {o : Obj} {σ : L2.St} {H : Hp} {Q E : Value → Shared → Prop} (hc : Names X x c) (S : Inv (X.suite a ((a, o) :: pn)) [] σ H t) (q : Q c t) :
    wpAny (model X.prog X.w) (X.A.mark (some (.ref a))) (eval (.Name x np) X.env) Q E t := by
  rcases hc with ⟨g, nd, own | ⟨noOwn, boot, no⟩⟩
  · exact ld_glob (X := X.suite a _) S g own q nd
  · exact ld_blt (X := X.suite a _) S g noOwn boot q no nd
/-- no clause is left: it flies on, noted at this frame -/
theorem flies_on (hf : X.env.frame = some X.env.locals) (fl : HandSPX.FlyingZ B (X.env :: X.outer) a (Zc cls d) t.heap)
    (out : ∀ g, HandSPX.HeldZ B (X.env :: X.outer) a (Zc cls d) X.env.locals g → t.heap.UpToSlots g → X.xe (.ref a) { t with heap := g }) :
    wpAny (model X.prog X.w) X.A (handleBy (.ref a) X.env []) (SP X pins D) X.xe t := by
  have up : wpAny (model X.prog X.w) X.A (setFlight (.ref a) X.env.frame) (fun _ u => wpAny (model X.prog X.w) X.A (throw (.ref a) : Sem Flow) (SP X pins D) X.xe u) X.xe t := by
    rw [hf]
    exact HandSPX.setFlight_upZ fl fun g held u => wpAny_throw (out g held u)
  have ⟨_, _, _, oe, vs, T, _, _, at_, _, flds, tb, _⟩ := fl
  apply wpAny_handleBy_nil
  unfold PySem.passOn
  apply wpAny_bind
  apply wpAny_field at_ flds tb
  have there : ¬ (Value.ref T == Value.none) = true := Bool.false_ne_true
  rw [if_neg there]
  first
    | exact wpAny_bind up
    | exact wpAny_bind (wpAny_pure (wpAny_bind up))
end
section
variable {X : Cx} {x n : Str} {c : Value} {i : Nat} {body suite : List Stmt} {b₀ : Stmt} {np pos pos' : Pos} {tb : WX → TS} {ts : TS} {Wout : WX}
theorem ps_try_keep (hs : X.stack = X.env :: X.outer) (hf : X.env.frame = some X.env.locals) (hex : X.ex = []) (hN : X.N.Nodup) (hi : X.N[i]? = some n) (hln : X.env.kindOf n = some .local) (hc : Names X x c) (tk : Takes X Wout)
    (hb : ∀ (W : WX) (pn : List (Addr × Obj)) (xe : Value → Shared → Prop), Takes (X.tr pn xe) W → PassesOwn (model X.prog X.w) X.A X.env xe →
      PSs (X.tr pn xe) body (tb W))
    (hsu : ∀ (a : Addr) (pn : List (Addr × Obj)), PSs (X.suite a pn) (b₀ :: suite) ts) : PS X (.Try body [.ExceptHandler (some (.Name x np)) (some n) (b₀ :: suite) pos'] [] [] pos) (fun D σ H => tb (wKeep X.K c i ts Wout D) D σ H) where
  run pins s σ H D I h := by
    have ok := I.ok
    let meets : Value → Shared → Prop := fun e t => wpAny (model X.prog X.w) X.A (noteFrame e X.env)
      (fun _ t => wpAny (model X.prog X.w) X.A (setFlight e none) (fun _ t => wpAny (model X.prog X.w) X.A (handleBy e X.env [.ExceptHandler (some (.Name x np)) (some n) (b₀ :: suite) pos']) (SP X pins D) X.xe t) X.xe t) X.xe t
    have caught : Takes (X.tr (X.pn ++ pins) meets) (wKeep X.K c i ts Wout D) := by
      intro _ t xx
      obtain ⟨a, B, sI, _, σ', H', cls, d, rfl, Jt, new, up, sky, na, os, ag, b, isB, yes, no⟩ := xx
      have J : Inv X pins σ' H' sI := Jt.ofTry ok
      show wpAny (model X.prog X.w) X.A (noteFrame (.ref a) X.env) _ _ _
      apply Sky.land Zc.steady (by rw [ok.frames, hs]) hf (hs ▸ sky)
      intro g fl upg
      have ⟨o, vs, at_, zo, flds⟩ := fl.there
      have off := off_frames fl.2.2.1 at_ flds
      have Jg : Inv X pins σ' H' { t with heap := g } := J.landed new fl.1 (up.trans upg) os ag
      have fresh : sI.heap.get? a = none := by
        match z : sI.heap.get? a with
        | none => rfl
        | some o' =>
          have was := new a o' z (by rw [hs]; exact off)
          rw [fl.2.1] at was
          cases was
      refine wpAny_handleBy_cons (codeAny_handlers_test ?_) (by rintro ⟨⟩)
      refine class_read hc (Jg.suite at_ flds na (off_here hf off) (off_rest off)) ?_
      have typed : PySem.W.Looks (model X.prog X.w) g (typeOf (.ref a)) cls := fun _ _ _ _ k q => wpAny_typeOf_ref (k a o at_) (zo.1.symm ▸ q)
      apply (PySem.W.exm_one (M := model X.prog X.w) Jg.kIn typed isB).here
      match b, yes, no with
      | false, _, no =>
        exact flies_on hf fl fun g' held up' => tk _ _ ⟨a, B, sI, pins, σ', H', cls, d, rfl, J, new, (up.trans upg).trans up', .inr (.inr (by rw [hs]; exact held)), na, os, ag, no rfl⟩
      | true, yes, _ =>
        obtain ⟨C, dd, rfl, rfl, wish⟩ := yes rfl
        apply codeAny_handlers_suite_as
        apply HandSPX.lands_againZ fl
        intro g' fl' up'
        have ⟨o', vs', at', zo', flds'⟩ := fl'.there
        have Jg' : Inv X pins σ' H' { t with heap := g' } := J.landed new fl'.1 ((up.trans upg).trans up') os ag
        have unpinned : ∀ p ∈ X.pn ++ pins, p.1 ≠ a := by
          rintro p m rfl
          have q := (J.pin p m).1
          rw [fresh] at q
          cases q
        have Kept := Inv.suiteK (Inv.track Jg' (gone_s0 J hex fresh) at' zo' flds' na (off_here hf off) unpinned) a
        apply store_ok (X := X.suite a (X.pn ++ pins)) (v := .ref a) Kept hN hi (.inl hln) rfl ?_ (.inr hln)
        intro t5 S5
        refine wpAny_mono ((hsu a (X.pn ++ pins)).run [] t5 _ _ _ S5 (wish a na)) ?_ (fun _ _ z => z.elim)
        rintro (_ | _ | _ | u) t6 ends
        · obtain ⟨_, _, S6, q⟩ := ends
          exact gone_ok (Inv.unsuiteK S6 ok) hN hi hln fun _ J7 => ⟨_, _, J7, q⟩
        · obtain ⟨_, _, S6, q⟩ := ends
          exact gone_ok (Inv.unsuiteK S6 ok) hN hi hln fun _ J7 => ⟨_, _, J7, q⟩
        · obtain ⟨_, _, S6, q⟩ := ends
          exact gone_ok (Inv.unsuiteK S6 ok) hN hi hln fun _ J7 => ⟨_, _, J7, q⟩
        · obtain ⟨_, _, _, S6, r, q⟩ := ends
          exact gone_ok (Inv.unsuiteK S6 ok) hN hi hln fun _ J7 => ⟨_, _, _, J7, r, q⟩
    apply wpAny_Try_except
    refine wpAny_mono ((hb _ (X.pn ++ pins) meets caught PassesOwn.looking).run [] s σ H D (I.toTry _) h) ?_ (fun _ _ z => z)
    rintro (_ | _ | _ | u) t ends
    · exact wpAny_execs_nil (sp_plain ok .next ends)
    · exact sp_plain ok .brk ends
    · exact sp_plain ok .cont ends
    · exact sp_plain ok (.ret u) ends
end
end DL

set_option Elab.async false
set_option linter.all false
set_option maxRecDepth 100000
set_option maxHeartbeats 4000000
/-! DX3: try by data; isinstance; e.value; stores of exceptions. -/
namespace DL
open PySem PySem.Spec PyProof.Rows L2

section
variable {K : Frag} {F F' H : Hp} {c : Ct} {ρ : List DV} {L : List (Option V)}
theorem Rl.setV {i : Nat} {v : Option V} {x : DV} (R : Rl K c F ρ L H) (h : SlotOk K F H v x) (hx : x.own = none) (hb : ∀ x, ρ[i]? = some x → x.isBor = false) : Rl K c F (ρ.set i x) (L.set i v) H := by
  refine ⟨by rw [List.length_set, List.length_set]; exact R.len, R.sub, R.keep, fun j y w e1 e2 => ?_, fun j k y z a e1 e2 o1 o2 l1 l2 => ?_, fun j y a e1 o1 l1 => ?_, fun j es a e1 l1 => ?_, fun q hq => ?_, R.born⟩
  · rcases set_at e1 with ⟨rfl, rfl⟩ | ⟨hne, e1⟩
    · rcases set_at e2 with ⟨_, rfl⟩ | ⟨hne, _⟩
      · exact h
      · exact absurd rfl hne
    · rcases set_at e2 with ⟨rfl, _⟩ | ⟨_, e2⟩
      · exact absurd rfl hne
      · exact R.slot j y w e1 e2
  · rcases set_at e1 with ⟨_, rfl⟩ | ⟨h1, e1⟩
    · exact absurd hx o1
    · rcases set_at e2 with ⟨_, rfl⟩ | ⟨h2, e2⟩
      · exact absurd hx o2
      · rw [List.getElem?_set_ne (fun z => h1 z.symm)] at l1
        rw [List.getElem?_set_ne (fun z => h2 z.symm)] at l2
        exact R.sep j k y z a e1 e2 o1 o2 l1 l2
  · rcases set_at e1 with ⟨_, rfl⟩ | ⟨h1, e1⟩
    · exact absurd hx o1
    · rw [List.getElem?_set_ne (fun z => h1 z.symm)] at l1
      exact R.fresh j y a e1 o1 l1
  · rcases set_at e1 with ⟨_, rfl⟩ | ⟨h1, e1⟩
    · cases hx
    · rw [List.getElem?_set_ne (fun z => h1 z.symm)] at l1
      exact R.nobor j es a e1 l1
  · obtain ⟨⟨es, e'⟩, l'⟩ := R.lent q hq
    have hne : i ≠ q.1 := fun z => by
      rw [← z] at e'
      exact absurd (hb _ e') (by simp [DV.isBor])
    exact ⟨⟨es, by rw [List.getElem?_set_ne hne]; exact e'⟩, by rw [List.getElem?_set_ne hne]; exact l'⟩
/-- an object that is no list is frozen -/
theorem Rl.frzO {p : Addr} {o : HO} (R : Rl K c F ρ L H) (hH : H p = some o) (ho : ∀ xs, o ≠ .lst xs) (h0 : c.Hi p = none) : Rl K c (upd F p o) ρ L H ∧ Same F (upd F p o) := by
  have sF : Same F (upd F p o) := fun b u q => by
    by_cases hb : b = p
    · subst hb
      have := R.sub b u q
      rw [hH] at this
      cases this
      exact upd_same
    · rw [upd_ne hb]; exact q
  refine ⟨⟨R.len, fun b u q => ?_, R.keep, fun i x v e1 e2 => (R.slot i x v e1 e2).mono sF fun b zs hv hox h1 h2 => ⟨?_, h2⟩, R.sep, R.fresh, R.nobor, R.lent, fun b u q => ?_⟩, sF⟩
  · by_cases hb : b = p
    · subst hb; rw [upd_same] at q; cases q; exact hH
    · rw [upd_ne hb] at q; exact R.sub b u q
  · rw [upd_ne (fun z => by subst z; rw [hH] at h2; exact ho zs (Option.some.inj h2))]; exact h1
  · by_cases hb : b = p
    · exact .inr (hb ▸ h0)
    · rw [upd_ne hb] at q; exact R.born b u q
end
def setV (i : Nat) (x : DV) : M Unit := fun ρ => match ρ[i]? with
  | some y => if y.isBor then none else some (.ok (), ρ.set i x)
  | none => none
theorem setV_some {i : Nat} {x : DV} {ρ : List DV} {o : Except Ex Unit × List DV} (h : setV i x ρ = some o) : o = (.ok (), ρ.set i x) ∧ ∀ y, ρ[i]? = some y → y.isBor = false := by
  unfold setV at h
  split at h
  · rename_i y e
    split at h
    · cases h
    · rename_i hb
      refine ⟨(Option.some.inj h).symm, fun z ez => ?_⟩
      rw [e] at ez
      cases ez
      exact Bool.eq_false_iff.mpr hb
  · cases h
/-- try: mb / except ..: as slot i: ms; ca tells which classes are taken -/
def sTry (ca : Str → Option Bool) (i : Nat) (mb ms : M Fl) : M Fl := fun ρ => match mb ρ with
  | none => none
  | some (.ok fl, ρ1) => some (.ok fl, ρ1)
  | some (.error x, ρ1) => match ca x.1 with
    | none => none
    | some false => some (.error x, ρ1)
    | some true => match setV i (.exc x.1 x.2) ρ1 with
      | none => none
      | some (_, ρ2) => match ms ρ2 with
        | some (.ok fl, ρ3) => match setV i .un ρ3 with
          | some (_, ρ4) => some (.ok fl, ρ4)
          | none => none
        | _ => none
theorem exK_lst {C dd a : Addr} {xs : List V} : ExK C dd a ≠ .lst xs := fun z => by
  have z' : HO.ext _ = HO.lst xs := z
  cases z'
section
variable {X : Cx} {P : Ps} {a b e : Expr} {pos : Pos} {c : Ct} {F H : Hp} {σ : L2.St}
theorem ds_try {x n : Str} {cv : Value} {i : Nat} {body suite : List Stmt} {b₀ : Stmt} {np pos pos' : Pos} {ca : Str → Option Bool} {mb ms : M Fl} (hK : P.K.K = X.K) (hs : X.stack = X.env :: X.outer) (hf : X.env.frame = some X.env.locals) (hex : X.ex = []) (hN : X.N.Nodup) (hi : X.N[i]? = some n) (hln : X.env.kindOf n = some .local)
    (hc : Names X x cv) (tk : Takes X P.W) (hca : ∀ y b C, ca y = some b → P.K.G y = some (.ref C) → PySem.W.exmOne X.K (.ref C) cv = some b)
    (hb : ∀ (W : WX) (pn : List (Addr × Obj)) (xe : Value → Shared → Prop), Takes (X.tr pn xe) W → PassesOwn (model X.prog X.w) X.A X.env xe → PSs (X.tr pn xe) body (tS ⟨P.K, W⟩ mb))
    (hsu : ∀ (a : Addr) (pn : List (Addr × Obj)), PSs (X.suite a pn) (b₀ :: suite) (tS ⟨P.K, fun _ _ _ _ => False⟩ ms)) :
    PS X (.Try body [.ExceptHandler (some (.Name x np)) (some n) (b₀ :: suite) pos'] [] [] pos) (tS P (sTry ca i mb ms)) := by
  refine (ps_try_keep hs hf hex hN hi hln hc tk hb hsu).of fun D σ H q => ?_
  obtain ⟨c, F, ρ, R, q⟩ := q
  refine ⟨c, F, ρ, R, ?_⟩
  unfold sTry at q
  match z : mb ρ with
  | none => rw [z] at q; exact q
  | some (.ok .nx, ρ1) => rw [z] at q; exact q
  | some (.ok .brk, ρ1) => rw [z] at q; exact q
  | some (.ok .cnt, ρ1) => rw [z] at q; exact q
  | some (.ok (.ret r), ρ1) => rw [z] at q; exact q
  | some (.error x, ρ1) =>
    rw [z] at q
    dsimp only at q
    intro σ1 F' H' C dd v sF R1 gC rp hdd h0
    cases y : ca x.1 with
    | none => rw [y] at q; exact (show False from q).elim
    | some b =>
      rw [y] at q
      refine ⟨b, hca _ _ _ y gC, fun hb => ?_, fun hb => ?_⟩
      · subst hb
        refine ⟨C, dd, rfl, rfl, fun a na => ?_⟩
        dsimp only at q
        obtain ⟨R2, s2⟩ := R1.frzO hdd (fun xs z => by cases z) h0
        have nFa : upd F' dd (.xd [(("value" : Str), v)]) a = none := by
          cases w : upd F' dd (.xd [(("value" : Str), v)]) a with
          | none => rfl
          | some u => have := R2.sub a u w; rw [na] at this; cases this
        have R3 := R2.new (o := ExK C dd a) na
        have s3 : Same (upd F' dd (.xd [(("value" : Str), v)])) (upd (upd F' dd (.xd [(("value" : Str), v)])) a (ExK C dd a)) := Same.upd nFa
        have hne : dd ≠ a := fun w => by rw [w, na] at hdd; cases hdd
        have at1 : ExAt P.K (upd (upd F' dd (.xd [(("value" : Str), v)])) a (ExK C dd a)) (.ref a) x.1 x.2 := ⟨a, dd, C, v, rfl, gC, upd_same, by rw [upd_ne hne, upd_same], (rp.mono s2).mono s3⟩
        cases w : setV i (.exc x.1 x.2) ρ1 with
        | none => rw [w] at q; exact (show False from q).elim
        | some o =>
          obtain ⟨rfl, hb⟩ := setV_some w
          rw [w] at q
          dsimp only at q
          have R4 := (nilτ' R3).setV (i := i) (v := some (.ref a)) (x := .exc x.1 x.2) ⟨_, rfl, at1⟩ rfl hb
          refine ⟨c, _, _, R4, ?_⟩
          match w2 : ms (ρ1.set i (.exc x.1 x.2)) with
          | none => rw [w2] at q; exact q
          | some (.error x', ρ3) => rw [w2] at q; exact (show False from q).elim
          | some (.ok fl, ρ3) =>
            rw [w2] at q
            dsimp only at q
            cases w3 : setV i .un ρ3 with
            | none => rw [w3] at q; exact (show False from q).elim
            | some o =>
              obtain ⟨rfl, hb3⟩ := setV_some w3
              rw [w3] at q
              have st : Same F (upd (upd F' dd (.xd [(("value" : Str), v)])) a (ExK C dd a)) := (sF.trans s2).trans s3
              have fin : ∀ {σ5 : L2.St} {F5 H5 : Hp}, Rl P.K c F5 ρ3 σ5 H5 → Rl P.K c F5 (ρ3.set i .un) (σ5.set i none) H5 := fun R5 => R5.setV (v := none) (x := .un) trivial rfl hb3
              cases fl with
              | nx => exact fun σ5 F5 H5 s5 R5 => q _ F5 H5 (st.trans s5) (fin R5)
              | brk => exact fun σ5 F5 H5 s5 R5 => q _ F5 H5 (st.trans s5) (fin R5)
              | cnt => exact fun σ5 F5 H5 s5 R5 => q _ F5 H5 (st.trans s5) (fin R5)
              | ret r => exact fun v5 σ5 F5 H5 s5 R5 rv => q v5 _ F5 H5 (st.trans s5) (fin R5) rv
      · subst hb
        exact (q σ1) F' H' C dd v sF R1 gC rp hdd h0
/-- x = e, data or an exception -/
def sSetX (i : Nat) (m : M DR) : M Fl := M.bind m fun r => match r with
  | .exc y d => M.bind (setV i (.exc y d)) fun _ => M.ok .nx
  | r => M.bind (frz r) fun d => M.bind (setD i d) fun _ => M.ok .nx
theorem ds_setXK {i : Nat} {t : TE} {m : M DR} (w : ∀ σ H Q, tE P m σ H Q → t σ H Q) (D : Ends) (σ : L2.St) (H : Hp) (q : tS P (sSetX i m) D σ H) : tAsg t (gName i) D σ H := by
  obtain ⟨c, F, ρ, R, q⟩ := q
  refine w σ H _ ⟨c, F, [], ρ, nilτ R, (HoS.bind σ q).mono fun r ρ1 F1 H1 s R1 q1 v hv => ?_⟩
  rw [List.append_nil] at hv
  cases r with
  | exc y d =>
    dsimp only at q1
    unfold M.bind at q1
    cases z : setV i (.exc y d) ρ1 with
    | none => rw [z] at q1; exact (show False from q1).elim
    | some o =>
      obtain ⟨rfl, hb⟩ := setV_some z
      rw [z] at q1
      exact q1 _ F1 H1 (Same.refl _) ((nilτ' R1).setV ⟨v, rfl, hv⟩ rfl hb)
  | dat d0 =>
    obtain ⟨d, F2, ρ2, s2, R2, r2, q2, _⟩ := HoS.frz (r := .dat d0) q1 (nilτ' R1) hv
    obtain ⟨ρ3, R3, q3⟩ := HoS.setD q2 R2 r2
    exact q3 _ F2 H1 (Same.refl _) R3
  | loc p =>
    obtain ⟨d, F2, ρ2, s2, R2, r2, q2, _⟩ := HoS.frz (r := .loc p) q1 (nilτ' R1) hv
    obtain ⟨ρ3, R3, q3⟩ := HoS.setD q2 R2 r2
    exact q3 _ F2 H1 (Same.refl _) R3
theorem ds_setX {i : Nat} {x : Str} {p2 : Pos} {m : M DR} (hN : X.N.Nodup) (hi : X.N[i]? = some x) (hx : Loc X.env.scope x) (he : PE X e (tE P m)) (hs : swapsWith e (some (.Name x p2)) pos.line X.env = pure false) (hf : X.fn x = true ∨ X.env.scope.names.lookup x = some .local) :
    PS X (.Assign [.Name x p2] e pos) (tS P (sSetX i m)) := (ps_set hN hi hx he hs hf).of (ds_setXK fun _ _ _ q => q)

/-! ### isinstance -/
def tyD : D → String
  | .none => "NoneType"
  | .bool _ => "bool"
  | .int _ => "int"
  | .str _ => "str"
  | .list _ => "list"
  | .tuple _ => "tuple"
  | .dict _ => "dict"
theorem Now.tyX {K : Frag} {F H : Hp} {v : V} {d : D} (n : Now K F H v d) (s : Same F H) : TyX K.K H v (.type (tyD d)) := by
  cases n with
  | own e e' hF hH h => subst e e'; exact .base (.lst hH)
  | dat h =>
    cases h with
    | non => exact .base .non
    | bl b => exact .base (.bl b)
    | int i => exact .base (.int i)
    | str x => exact .base (.str x)
    | lst h1 _ =>
      rcases h1 with (h1 | ⟨o, h1⟩) | ⟨o, its, k, h1, h2, _⟩
      · exact .base (.lst (s _ _ h1))
      · exact .base (.frz (s _ _ h1))
      · exact .kList h1 h2
    | tup h1 _ =>
      rcases h1 with (h1 | ⟨o, h1⟩) | ⟨o, its, k, h1, h2, _⟩
      · exact .base (.tup (s _ _ h1))
      · exact .fTuple (s _ _ h1)
      · exact .kTuple h1 h2
    | dic h1 _ => exact .fDict (s _ _ h1)
/-- isinstance of data, of a tracked exception -/
def rIsG (K : PySem.W.Frag) : List V → Hp → VK → Prop := fun xs H Q => ∃ (x c : V) (u : Value), xs = [x, c] ∧ ClsV c u ∧
  ((∃ t b, TyX K H x t ∧ PySem.W.kitOne K t u = some b ∧ Q (.bl b) H) ∨ ∃ (a C dd : Addr) (fs : List (Str × V)) (b : Bool), x = .ref a ∧ H a = some (ExK C dd a) ∧ H dd = some (.xd fs) ∧ ExcC K C ∧ PySem.W.kitOne K (.ref C) u = some b ∧ Q (.bl b) H)
theorem exK_at {P : Program} {w : World} {H : Hp} {h : Heap} {a C dd : Addr} (hok : HOk P w H h) (e : H a = some (ExK C dd a)) : ∃ (oe : Obj) (vs : Array Value), h.get? a = some oe ∧ Zc (.ref C) (some dd) oe ∧ oe.data = .fields vs :=
  (show ObjOk P w H h a (.ext fun h => ∃ (oe : Obj) (vs : Array Value), h.get? a = some oe ∧ Zc (.ref C) (some dd) oe ∧ oe.data = .fields vs) from hok a _ e).1
theorem call_isG : CallR X (.builtin "isinstance") (rIsG X.K) := by
  intro pins s σ H xs us Q I r h
  obtain ⟨x, c, u, rfl, k, h⟩ := h
  obtain ⟨u1, u2, rfl, r1, r2⟩ := vals2 r
  have e2 := k.eq r2
  subst e2
  rcases h with ⟨t, b, ty, e, q⟩ | ⟨a, C, dd, fs, b, rfl, ha, hdd, EC, e, q⟩
  · obtain ⟨P, Z, p, hx⟩ := kit_of I r1 ty
    exact PySem.W.kia_one Z I.kIn p e hx fun tk => ⟨.bl b, H, I.tok tk, rfl, q⟩
  · cases r1
    obtain ⟨oe, vs, he, hz, hd⟩ := exK_at I.hok ha
    have hx : ObjOk X.prog X.w H s.heap dd (.xd fs) := I.hok dd _ hdd
    obtain ⟨mA, hns, hr⟩ := hx
    obtain ⟨od, ho, hl⟩ := lookIn_ns hns
    have J : PySem.W.InstAt s.heap a oe C (some od) := ⟨he, hz.1, by unfold PySem.W.notCls; rw [hd] <;> rfl, by rw [hz.2]; exact ho⟩
    have hcl : (PySem.W.clsIn X.K C).isSome = true := by
      obtain ⟨cd, h1, _⟩ := PySem.W.any_some EC.hd
      rw [h1]; rfl
    exact PySem.W.kia_one (PySem.W.kitx_exc hcl EC.hg EC.hk EC.hs EC.ha EC.hn EC.ht EC.hm) I.kIn J e (fun z => nomatch z) fun tk => ⟨.bl b, H, I.tok tk, rfl, q⟩
def isR (fd : D → Option Bool) (fx : Str → Option Bool) : DR → M DR := fun r => match r with
  | .exc y _ => M.bind (M.opt (fx y)) fun b => M.ok (.dat (.bool b))
  | r => M.bind (rd r) fun d => M.bind (M.opt (fd d)) fun b => M.ok (.dat (.bool b))
def eIs (fd : D → Option Bool) (fx : Str → Option Bool) (m : M DR) : M DR := M.bind m (isR fd fx)
theorem de_isG {tn : Str} {p p2 : Pos} {m : M DR} {cv : V} {u : Value} {fd : D → Option Bool} {fx : Str → Option Bool} (hK : P.K.K = X.K) (hg : Gl X "isinstance") (hm : X.mg "isinstance" = none) (ha : PE X a (tE P m)) (hc : PE X (.Name tn p2) (tC cv)) (hcv : ClsV cv u)
    (hfd : ∀ d b, fd d = some b → PySem.W.kitOne X.K (.type (tyD d)) u = some b) (hfx : ∀ y b C, fx y = some b → P.K.G y = some (.ref C) → ExcC X.K C ∧ PySem.W.kitOne X.K (.ref C) u = some b)
    (he : starEach (a :: [.Name tn p2]) X.env = (false, eval a X.env) :: starEach [.Name tn p2] X.env) (he2 : starEach ([.Name tn p2] : List Expr) X.env = (false, eval (.Name tn p2) X.env) :: starEach [] X.env) (hpl : (backTo pos (starEach [.Name tn p2] X.env)).any (·.1) = false) :
    PE X (.Call (.Name "isinstance" p) [a, .Name tn p2] [] pos) (tE P (eIs fd fx m)) := by
  refine (pe_callB (id := "isinstance") call_isG hg hm (by decide +kernel) (pa_cons ha (pa_cons hc pa_nil he2) he) (by decide) (by decide) he hpl).of fun σ H Q q => ?_
  obtain ⟨c, F, τ, ρ, R, q⟩ := q
  refine ⟨c, F, τ, ρ, R, (Ho.bind q).mono fun r ρ1 F1 H1 s1 R1 q1 v hv => ?_⟩
  have dat : ∀ {r : DR}, RefV P.K F1 (σ ++ τ) v r → Ho P c F1 σ τ (M.bind (rd r) (fun d => M.bind (M.opt (fd d)) fun b => M.ok (.dat (.bool b))) ρ1) (fun r _ F' H' => ∀ v, RefV P.K F' (σ ++ τ) v r → Q v H') →
      tC cv σ H1 (fun w H2 => tNil σ H2 fun ws H3 => rIsG X.K (v :: w :: ws) H3 Q) := fun {r} hv q1 => by
    obtain ⟨d, q2, n⟩ := Ho.now1 q1 R1 hv
    obtain ⟨b, eb, q3⟩ := Ho.opt (H := H1) q2
    exact ⟨v, cv, u, rfl, hcv, .inl ⟨_, b, hK ▸ n.tyX R1.sub, hfd d b eb, Ho.now q3 R1 _ (.bl b)⟩⟩
  cases r with
  | dat d => exact dat hv q1
  | loc p => exact dat hv q1
  | exc y d =>
    obtain ⟨b, eb, q2⟩ := Ho.opt (H := H1) (k := fun b => M.ok (DR.dat (.bool b))) (o := fx y) (ρ := ρ1) q1
    obtain ⟨a, dd, C, w, rfl, g, e1, e2, e3⟩ := (show ExAt P.K F1 v y d from hv)
    obtain ⟨EC, ek⟩ := hfx y b C eb g
    exact ⟨_, cv, u, rfl, hcv, .inr ⟨a, C, dd, _, b, rfl, R1.sub _ _ e1, R1.sub _ _ e2, EC, ek, Ho.now q2 R1 _ (.bl b)⟩⟩

/-! ### e.value -/
def valR (ok : Str → Bool) : DR → M DR := fun r => match r with
  | .exc y d => if ok y then M.ok (.dat d) else M.no
  | _ => M.no
def eVal (ok : Str → Bool) (m : M DR) : M DR := M.bind m (valR ok)
theorem de_val {m : M DR} {ok : Str → Bool} (hK : P.K.K = X.K) (he : PE X e (tE P m)) (hok : ∀ y C, ok y = true → P.K.G y = some (.ref C) → XfC X.K C ∧ PySem.W.findIn X.K (.ref C) "value" = some none) (hb : attributeBase e "value" X.env (eval e X.env) = eval e X.env) :
    PE X (.Attribute e "value" pos) (tE P (eVal ok m)) := by
  refine ⟨fun pins s σ H Q I h => ?_⟩
  have h2 : tE P m σ H fun v H1 => ∃ F1 y d, ok y = true ∧ ExAt P.K F1 v y d ∧ Same F1 H1 ∧ ∀ w, Rp P.K F1 w d → Q w H1 := by
    obtain ⟨c, F, τ, ρ, R, q⟩ := h
    refine ⟨c, F, τ, ρ, R, (Ho.bind q).mono fun r ρ1 F1 H1 s1 R1 q1 v hv => ?_⟩
    cases r with
    | dat d => exact (show False from q1).elim
    | loc p => exact (show False from q1).elim
    | exc y d =>
      unfold valR at q1
      dsimp only at q1
      cases z : ok y with
      | false => rw [z] at q1; exact (show False from q1).elim
      | true =>
        rw [z] at q1
        exact ⟨F1, y, d, z, hv, R1.sub, fun w hw => Ho.now (a := DR.dat d) q1 R1 w hw⟩
  refine attr_of hb (thn (he.run pins s σ H _ I h2) fun u s1 hh => ?_)
  obtain ⟨x, H1, I1, rx, F1, y, d, z, ⟨a, dd, C, w, rfl, g, e1, e2, e3⟩, sF, q⟩ := hh
  obtain rfl : u = Value.ref a := rx
  obtain ⟨T, hno⟩ := hok y C z g
  have ha := sF _ _ e1
  have hd2 := sF _ _ e2
  obtain ⟨oe, vs, he, hz, hd⟩ := exK_at I1.hok ha
  have hx : ObjOk X.prog X.w H1 s1.heap dd (.xd [(("value" : Str), w)]) := I1.hok dd _ hd2
  obtain ⟨mA, hns, hr⟩ := hx
  obtain ⟨od, ho, hl⟩ := lookIn_ns hns
  have l : List.lookup ("value" : Str) [(("value" : Str), w)] = some w := by simp [List.lookup]
  obtain ⟨u, hu, ru⟩ := RelO.some_of (v := w) (o := mA "value") (by rw [← l]; exact hr "value")
  have J : PySem.W.InstAt s1.heap a oe C (some od) := ⟨he, hz.1, by unfold PySem.W.notCls; rw [hd] <;> rfl, by rw [hz.2]; exact ho⟩
  exact HandSPX.exc_get I1.kIn J T.ga T.gg T.exC (PySem.W.findObj_own T.hdC hno rfl (by rw [hl, hu])) (handed_of ru) ⟨w, H1, I1.tok _, ru, q w e3⟩
end
end DL

set_option Elab.async false
set_option linter.all false
set_option maxRecDepth 100000
set_option maxHeartbeats 4000000
/-! DX4: a def's promise where no repr is under way (guards = []), its calls, the law's end. -/
namespace DL
open PySem PySem.Spec PyProof.Rows L2
/-- what a def keeps to when it is called where no repr is under way. The argument values us are those its parameters ps get. -/
structure FnOkG (P : Program) (w : World) (K : PySem.W.Frag) (mg : Str → Option Value) (base : Heap) (CX : CXT) (k : Nat) (f : Addr) (fd : FuncData) (ps : List Str) (sp : Sp) : Prop where
  len : ∀ (xs : List V) (G : Hp) (W : VK) (Y : XK), sp xs G W Y → xs.length = ps.length
  run : ∀ (A : Around) (outer : List Env) (t : Shared) (G : Hp) (given : Args) (us : List Value) (xs : List V) (W : VK) (Y : XK), Room k A → A.guards = some [] →
    Env0 P w K mg base A outer t G → BindsTo t fd given (ps.zip us) → Vals xs us → sp xs G W Y → codeAny (model P w) A (.call (.ref f) given) (CR CX outer P w G t W Y) t
section
variable {P : Program} {w : World} {K : PySem.W.Frag} {mg : Str → Option Value} {base : Heap} {CX : CXT} {j k : Nat} {f : Addr} {ps : List Str} {sp sp' : Sp}
theorem FnOkG.mono {fd : FuncData} (F : FnOkG P w K mg base CX j f fd ps sp) (h : j ≤ k) : FnOkG P w K mg base CX k f fd ps sp where
  len := F.len
  run A outer t G given us xs W Y room := F.run A outer t G given us xs W Y (room.mono h)
theorem FnOkG.imp {fd : FuncData} (F : FnOkG P w K mg base CX k f fd ps sp) (h : ∀ xs G W Y, sp' xs G W Y → sp xs G W Y) : FnOkG P w K mg base CX k f fd ps sp' where
  len xs G W Y q := F.len xs G W Y (h xs G W Y q)
  run A outer t G given us xs W Y room still at0 to rel q := F.run A outer t G given us xs W Y room still at0 to rel (h xs G W Y q)
/-- a parameter has a slot or a cell of the new environment -/
theorem par_slot {N : List Str} {scope : Scope} {b0 : Nat} {us : List Value} (S : FnScope N ps scope) (y : Str × Value) (m : y ∈ ps.zip us) :
    scope.names.lookup y.1 = some .local ∨ scope.names.lookup y.1 = some .cell ∧ ((cellsFrom b0 scope.names []).lookup y.1).isSome = true := by
  have z := S.par y.1 (List.of_mem_zip (show (y.1, y.2) ∈ ps.zip us from m)).1
  exact z.imp id fun c => ⟨c, PySem.W.cellsFrom_some _ _ _ (.inl c)⟩
/-- the body's end is the call's end -/
theorem body_end {N : List Str} {qual : Str} {scope : Scope} {cdv : Value} {A : Around} {outer : List Env} {t t' : Shared} {G : Hp} {W : VK} {Y : XK} :
    ∀ (fl : Flow), SP (cxOf CX P w K mg base N qual scope f cdv A outer t G Y) [] { nx := fun _ G' => W .non G', rt := W } fl t' →
      CR CX outer P w G t W Y (.ok (.ret (match fl with | .ret v => v | _ => .none))) t'
  | .next, ⟨_, G', J, q⟩ => ⟨.non, G', J.os, J.bare, J.base, J.hok, rfl, q⟩
  | .ret _, ⟨v, _, G', J, rv, q⟩ => ⟨v, G', J.os, J.bare, J.base, J.hok, rv, q⟩
  | .brk, ⟨_, _, _, q⟩ => False.elim q
  | .cont, ⟨_, _, _, q⟩ => False.elim q
theorem fn_ofG {name qual : Str} {params : Arguments} {body : List Stmt} {scope : Scope} {dV kV doc pm cdv ct oc : Value} {an od : Option Addr} {osl : Array (Option Value)} {N : List Str}
    (lk : K.lookup f = some ⟨oc, od, .func (PySem.W.fnOf name qual params body scope dV kV doc pm an cdv ct), osl⟩)
    (hcd : PySem.W.codeIn K cdv qual = true) (S : FnScope N ps scope) (len : ∀ (xs : List V) (G : Hp) (W : VK) (Y : XK), sp xs G W Y → xs.length = ps.length)
    (hbody : ∀ (A : Around) (outer : List Env) (t : Shared) (G : Hp) (xs : List V) (W : VK) (Y : XK), Room k (A.deeper (envOfC qual scope t.heap.objs.size f cdv)) → A.guards = some [] → sp xs G W Y →
      ∃ β, PSs (cxOf CX P w K mg base N qual scope f cdv A outer t G Y) body β ∧ β { nx := fun _ G' => W .non G', rt := W } (start N xs) G) :
    FnOkG P w K mg base CX (k + 1) f (PySem.W.fnOf name qual params body scope dV kV doc pm an cdv ct) ps sp where
  len := len
  run A outer t G given us xs W Y room still at0 to rel q := by
    have old : ∀ (b : Addr) (o : Obj), base.get? b = some o → t.heap.get? b = some o := fun b o z => (at0.bs b o z).1
    have kin := at0.mod.kin.keeps old
    obtain ⟨β, hβ, ends⟩ := hbody A outer t G xs W Y (room.deeper _) still q
    apply codeAny_call_function room.depth (kin _ _ lk) rfl S.co S.gen rfl (PySem.W.codeRec_of kin hcd)
    apply to
    apply wpAny_newFunctionEnv_cells S.kind (par_slot S)
    rintro _ rfl t1 made
    constructor
    · exact (at0.mod.nolimit.keeps old).keeps made.toInCall.keep
    · apply codeAny_func
      exact wpAny_mono (hβ.run [] t1 _ G _ (inv_start S room.hd at0 (len _ _ _ _ q) rel made) ends) (fun fl t' z => body_end fl z) fun _ _ z => z
end
section
variable {X : Cx} {CX : CXT} {k : Nat} {f C : Addr} {fd : FuncData} {ps : List Str} {sp : Sp} {E : L2.St → XK} {x m : Str} {p pos apos : Pos} {e o : Expr} {es : List Expr} {ta : TE} {t : TA}
/-- a call with whatever arguments, once it is known what the parameters get -/
theorem run_given {pins : List (Addr × Obj)} {σ : L2.St} {H : Hp} {s : Shared} {Q : VK} {Y : XK} {given : Args} {us : List Value} {vs : List V} (F : FnOkG X.prog X.w X.K X.mg X.base CX k f fd ps sp) (hr : Room k X.A) (hG : X.A.guards = some []) (hx : PassesAt CX X σ Y) (I : Inv X pins σ H s)
    (to : BindsTo s fd given (ps.zip us)) (r : Vals vs us) (h : sp vs H Q Y) : codeAny (model X.prog X.w) X.A (.call (.ref f) given) (fun r s' => match r with | .ok (.ret u) => EP X pins σ Q u s' | .ok _ => False | .error e => X.xe e s') s :=
  codeAny_mono (F.run X.A X.stack s H given us vs Q Y hr hG I.env0 to r h) fun
    | .ok (.ret _), _, q => I.after q
    | .error e, s', q => hx pins H s e s' I q
    | .ok .next, _, q => False.elim q
    | .ok .brk, _, q => False.elim q
    | .ok .cont, _, q => False.elim q
theorem run_fnSG {pins : List (Addr × Obj)} {σ : L2.St} {H : Hp} {s : Shared} {Q : VK} {us : List Value} {vs : List V} (F : FnOkG X.prog X.w X.K X.mg X.base CX k f fd ps sp) (hr : Room k X.A) (hG : X.A.guards = some []) (hb : Binds X.K fd ps []) (hx : PassesAt CX X σ (E σ)) (I : Inv X pins σ H s)
    (r : Vals vs us) (h : sp vs H Q (E σ)) : wpAny (model X.prog X.w) X.A (call (.ref f) us) (EP X pins σ Q) X.xe s := by
  have to := hb s us I.kIn (by rw [List.append_nil, ← r.length]; exact F.len vs H Q (E σ) h)
  have to' : BindsTo s fd ⟨us, []⟩ (ps.zip us) := by rwa [List.append_nil] at to
  exact wpAny_call (codeAny_mono (run_given F hr hG hx I to' r h) fun
    | .ok (.ret _), _, q => q
    | .error _, _, q => q
    | .ok .next, _, q => False.elim q
    | .ok .brk, _, q => False.elim q
    | .ok .cont, _, q => False.elim q)
theorem pe_callSG (F : FnOkG X.prog X.w X.K X.mg X.base CX k f fd ps sp) (hr : Room k X.A) (hG : X.A.guards = some []) (hg : Gl X x) (hm : X.mg x = some (.ref f)) (hk : PySem.W.keepIn X.K (.ref f) = true) (hb : Binds X.K fd ps []) (hx : ∀ σ, PassesAt CX X σ (E σ))
    (ha : PA X (e :: es) t) (hdb : (x == ("__debug__" : Str)) = false := by decide) (he : starEach (e :: es) X.env = (false, eval e X.env) :: starEach es X.env := by rfl) (hpl : (backTo pos (starEach es X.env)).any (·.1) = false := by rfl) :
    PE X (.Call (.Name x p) (e :: es) [] pos) (tCallS sp E t) := by
  refine ⟨fun pins s σ H Q I h => ?_⟩
  refine wpAny_Call_Name_kw (ld_glob I hg hm ?_ hdb)
  refine PySem.W.callWith_K (h₀ := X.base) I.ok.mod.kin hk (thn (ha.run pos pins s σ H _ I h) fun us s1 ⟨vs, H1, I1, r, q⟩ => ⟨I1.kIn, ?_⟩) he hpl
  exact run_fnSG F hr hG hb (hx σ) I1 r q
end
section
variable {X : Cx} {P : Ps} {e : Expr} {es : List Expr} {pos : Pos}
theorem run_fnkSG {CX : CXT} {k : Nat} {f : Addr} {fd : FuncData} {ps ks : List Str} {sp : Sp} {E : XK} {g : List Value → List Value → List Value} {gV : List V → List V → List V} {pins : List (Addr × Obj)} {σ : L2.St} {H : Hp} {s : Shared} {Q : VK} {us ws : List Value} {vs zs : List V} (F : FnOkG X.prog X.w X.K X.mg X.base CX k f fd ps sp)
    (hr : Room k X.A) (hG : X.A.guards = some []) (hb : KBinds X.K fd ps ks g gV) (hx : PassesAt CX X σ E) (I : Inv X pins σ H s) (r : Vals vs us) (rz : Vals zs ws)
    (h : sp (gV vs zs) H Q E) : wpAny (model X.prog X.w) X.A (call (.ref f) us (ks.zip ws)) (EP X pins σ Q) X.xe s := by
  have both := hb.rel r rz
  have to := hb.to s us ws I.kIn (by rw [← both.length]; exact F.len _ H Q E h)
  exact wpAny_call (codeAny_mono (run_given F hr hG hx I to both h) fun
    | .ok (.ret _), _, q => q
    | .error _, _, q => q
    | .ok .next, _, q => False.elim q
    | .ok .brk, _, q => False.elim q
    | .ok .cont, _, q => False.elim q)
theorem pe_callKSG {CX : CXT} {k : Nat} {f : Addr} {fd : FuncData} {ps ks : List Str} {sp : Sp} {E : L2.St → XK} {x : Str} {p : Pos} {kws : List Keyword} {tk : TA} {g : List Value → List Value → List Value} {gV : List V → List V → List V} (F : FnOkG X.prog X.w X.K X.mg X.base CX k f fd ps sp) (hr : Room k X.A) (hG : X.A.guards = some []) (hg : Gl X x) (hm : X.mg x = some (.ref f)) (hk : PySem.W.keepIn X.K (.ref f) = true) (hb : KBinds X.K fd ps ks g gV) (hx : ∀ σ, PassesAt CX X σ (E σ))
    (hkw : PK X kws tk) (hall : (backToKw pos (keywordEach kws X.env)).all (·.1.isSome) = true) (hks : (backToKw pos (keywordEach kws X.env)).filterMap (·.1) = ks)
    (hdb : (x == ("__debug__" : Str)) = false) (hpl : ((backTo pos (starEach [] X.env)).any (·.1) || (backToKw pos (keywordEach kws X.env)).any (·.1.isNone)) = false) :
    PE X (.Call (.Name x p) [] kws pos) (tCallKS sp gV E tk) := by
  refine ⟨fun pins s σ H Q I h => ?_⟩
  refine wpAny_Call_Name_kw (ld_glob I hg hm ?_ hdb)
  refine PySem.W.callWith_KW0 (h₀ := X.base) I.ok.mod.kin hk hall ?_ hpl
  refine thn (hkw.run pos pins s σ H _ I h) fun ws s2 ⟨zs, H2, I2, rz, q2⟩ => ⟨I2.kIn, ?_⟩
  rw [hks]
  exact run_fnkSG F hr hG hb (hx σ) I2 .nil rz q2
theorem de_callG {own : Bool} {n k : Nat} {f : Fsp} {ms : M (List DR)} {x : Str} {p : Pos} {fa : Addr} {fd : FuncData} {ps : List Str} (F : FnOkG X.prog X.w X.K X.mg X.base (L2.CX X.prog X.w) k fa fd ps (spD P.K own n f)) (hr : Room k X.A) (hG : X.A.guards = some []) (hg : Gl X x) (hm : X.mg x = some (.ref fa)) (hk : PySem.W.keepIn X.K (.ref fa) = true)
    (hb : Binds X.K fd ps []) (tk : Takes X P.W) (ha : PA X (e :: es) (tA P ms)) (hl : ALen ms n) (hdb : (x == ("__debug__" : Str)) = false) (he : starEach (e :: es) X.env = (false, eval e X.env) :: starEach es X.env) (hpl : (backTo pos (starEach es X.env)).any (·.1) = false) :
    PE X (.Call (.Name x p) (e :: es) [] pos) (tE P (eCall own f ms)) := (pe_callSG F hr hG hg hm hk hb (fun σ => passAt tk σ) ha hdb he hpl).of (tE_callS hl)
theorem dn_callG {own : Bool} {n k : Nat} {f : Fsp} {ms : M (List DR)} {x : Str} {p : Pos} {fa : Addr} {fd : FuncData} {ps : List Str} (F : FnOkG X.prog X.w X.K X.mg X.base (L2.CX X.prog X.w) k fa fd ps (spD P.K own n f)) (hr : Room k X.A) (hG : X.A.guards = some []) (hg : Gl X x) (hm : X.mg x = some (.ref fa)) (hk : PySem.W.keepIn X.K (.ref fa) = true)
    (hb : Binds X.K fd ps []) (tk : Takes X P.W) (ha : PA X (e :: es) (tA P ms)) (hl : ALen ms n) (hdb : (x == ("__debug__" : Str)) = false) (he : starEach (e :: es) X.env = (false, eval e X.env) :: starEach es X.env) (hpl : (backTo pos (starEach es X.env)).any (·.1) = false) :
    PE X (.Call (.Name x p) (e :: es) [] pos) (tN P (nCall own f ms)) := (pe_callSG F hr hG hg hm hk hb (fun σ => passAt tk σ) ha hdb he hpl).of (tN_callS hl)
theorem de_callKG {n nk k : Nat} {π : List Nat} {f : Fsp} {ms : M (List DR)} {x : Str} {p : Pos} {fa : Addr} {fd : FuncData} {ps ks : List Str} {kws : List Keyword} {g : List Value → List Value → List Value} (F : FnOkG X.prog X.w X.K X.mg X.base (L2.CX X.prog X.w) k fa fd ps (spD P.K false n f)) (hr : Room k X.A) (hG : X.A.guards = some []) (hg : Gl X x) (hm : X.mg x = some (.ref fa)) (hk : PySem.W.keepIn X.K (.ref fa) = true)
    (hb : KBinds X.K fd ps ks g (fun _ zs => permR π zs)) (tk : Takes X P.W) (hkw : PK X kws (tA P ms)) (hl : ALen ms nk) (hπ : ∀ (vs : List V), vs.length = nk → (permR π vs).length = n) (hall : (backToKw pos (keywordEach kws X.env)).all (·.1.isSome) = true) (hks : (backToKw pos (keywordEach kws X.env)).filterMap (·.1) = ks)
    (hdb : (x == ("__debug__" : Str)) = false) (hpl : ((backTo pos (starEach [] X.env)).any (·.1) || (backToKw pos (keywordEach kws X.env)).any (·.1.isNone)) = false) :
    PE X (.Call (.Name x p) [] kws pos) (tE P (eCallK π f ms)) := (pe_callKSG F hr hG hg hm hk hb (fun σ => passAt tk σ) hkw hall hks hdb hpl).of (tE_callK hl hπ)
end
section
variable {Pg : Program} {wd : World} {K : PySem.W.Frag} {mg : Str → Option Value} {base : Heap}
theorem fn_okG {x qual : Str} {st : Stmt} {fa : Addr} {fd : FuncData} {N ps : List Str} {k : Nat} {own : Bool} {m : M Fl} (F : Fun K x qual st fa fd) (S : FnScope N ps (defScope st))
    (hbody : ∀ (cdv : Value) (A : Around) (outer : List Env) (s : Shared) (H : Hp) (E : XK), Room k (A.deeper (envOfC qual (defScope st) s.heap.objs.size fa cdv)) → (A.deeper (envOfC qual (defScope st) s.heap.objs.size fa cdv)).guards = some [] →
      Takes (cxOf (L2.CX Pg wd) Pg wd K mg base N qual (defScope st) fa cdv A outer s H E) (fun cls d _ H => E cls d H) →
      PSs (cxOf (L2.CX Pg wd) Pg wd K mg base N qual (defScope st) fa cdv A outer s H E) (defBody st) (tS ⟨⟨K, mg⟩, fun cls d _ H => E cls d H⟩ m)) :
    FnOkG Pg wd K mg base (L2.CX Pg wd) (k + 1) fa fd ps (spD ⟨K, mg⟩ own ps.length (runF own N.length m)) := by
  obtain ⟨oc, od, kV, doc, pm, an, cdv, ct, osl, rfl, lk, hcd⟩ := F.ex
  refine fn_ofG lk hcd S (fun vs H Q E h => h.1) fun A outer s H vs Q E hr hG h => ?_
  refine ⟨tS ⟨⟨K, mg⟩, fun cls d _ H => E cls d H⟩ m, hbody cdv A outer s H E hr hG (takes_of rfl rfl rfl rfl), ?_⟩
  obtain ⟨hn, F0, oa, us, w, ds, ho, rfl, sF, lt, r, h⟩ := h
  subst ho
  have hpl : ps.length ≤ N.length := by have := congrArg List.length S.pre; rw [List.length_take] at this; omega
  have R0 := rl_init (N := N) sF lt r (by rw [hn]; exact hpl)
  have fr : ∀ {ρ : List DV} {σ : L2.St} {F' H' : Hp}, Rl ⟨K, mg⟩ ⟨H, F0, BOf oa⟩ F' ρ σ H' → Frm oa H H' := fun {ρ σ F' H'} R b o e hb => R.keep b o e (fun z => by
    cases oa with
    | none => exact absurd z (by simp [Ct.ads, BOf])
    | some a =>
      have : b = a := by simpa [Ct.ads, BOf] using z
      exact hb (by rw [this]))
  refine ⟨_, F0, _, R0, ?_⟩
  unfold runF at h
  match z : m (initE oa.isSome N.length w ds) with
  | none => rw [z] at h; exact h
  | some (.ok .nx, ρ) =>
    rw [z] at h
    exact fun σ F' H' s R => h .non F' H' s R.sub R.born (fr R) (lent_of R rfl) .non
  | some (.ok (.ret rv), ρ) =>
    rw [z] at h
    refine fun v σ F' H' s R rr => h v F' H' s R.sub R.born (fr R) (lent_of R rfl) ?_
    cases rv with
    | dat d => exact rr
    | new es =>
      obtain ⟨a, xs, e1, e2, e3, e4, e5, e6⟩ := rr
      exact ⟨a, xs, e1, e2, e3, e5, e6⟩
  | some (.ok .brk, ρ) => rw [z] at h; exact h.elim
  | some (.ok .cnt, ρ) => rw [z] at h; exact h.elim
  | some (.error x, ρ) =>
    rw [z] at h
    exact fun σ F' H' C dd v s R g rp hx hn => by
      rw [List.append_nil] at R
      exact h C dd v F' H' s R.sub R.born (fr R) (lent_of R rfl) g rp hx hn
end
/-! the law's end: the script is the one argument, so the library's argH of that one address is the abstract heap to start from -/
theorem toV_ints : ∀ {us : List Value} {is : List Int}, IntsAre us is → us.map toV = is.map V.int
  | _, _, .nil => rfl
  | _, _, .cons n _ h => congrArg (V.int n :: ·) (toV_ints h)
theorem okU_ints {B : List Addr} : ∀ {us : List Value} {is : List Int}, IntsAre us is → ∀ u ∈ us, OkU B u
  | _, _, .nil, _, m => nomatch m
  | _, _, .cons _ _ h, u, m => by
    rcases List.mem_cons.mp m with rfl | m
    · trivial
    · exact okU_ints h u m
abbrev seqO (us : List Value) : Obj := { cls := .type "list", data := .seq us.toArray }
section
variable {K : PySem.W.Frag} {h : Heap} {a b : Addr} {us : List Value}
theorem argH_off (n : b ≠ a) : argH K h [a] b = none := by
  match z : argH K h [a] b with
  | none => rfl
  | some _ => exact absurd (List.mem_singleton.mp (of_argH z).1) n
theorem argH_known {o : Obj} (lk : K.lookup b = some o) : argH K h [a] b = none := by
  match z : argH K h [a] b with
  | none => rfl
  | some _ => rw [(of_argH z).2] at lk; cases lk
theorem argH_Only (at_ : h.get? a = some (seqO us)) : Only (argH K h [a]) := fun b => by
  match z : argH K h [a] b with
  | none => exact .inl rfl
  | some _ =>
    obtain ⟨m, nk⟩ := of_argH z
    obtain rfl := List.mem_singleton.mp m
    exact .inr ⟨seqO us, us.map toV, by rw [← z, argH_at m nk at_, hoOf_lst]⟩
theorem ns_behind {ms : Str → Option Value} (at_ : h.get? a = some (seqO us)) (ns : h.Ns b ms) : (hidT h (argH K h [a])).Ns b ms := by
  obtain ⟨o, es, ep, e, d, more⟩ := ns
  have apart : b ≠ a := by
    rintro rfl
    obtain rfl := Option.some.inj (e.symm.trans at_)
    exact Data.noConfusion (show Data.seq us.toArray = Data.dict es ep from d)
  exact ⟨o, es, ep, hidT_get e (argH_off apart), d, more⟩
end
theorem law_callG {P : Program} {w : World} {K : PySem.W.Frag} {mg mb : Str → Option Value} {CX : CXT} {k : Nat} {fa a : Addr} {fd : FuncData} {x : Str} {sp : Sp} {t : Shared} {us : List Value} {is : List Int} (inn : K.In t.heap) (gs : t.heap.Ns mainGlobals mg) (bs : t.heap.Ns builtinsNs mb)
    (boot : ∀ y : Str, y ≠ "__name__" → mb y = bootBuiltins y) (free : t.heap.NoLimit) (calm : t.gens = #[]) (at_ : t.heap.get? a = some (seqO us)) (nums : IntsAre us is) (short : is.length ≤ sizeLine) (room : Room k callerA)
    (F : ∀ base : Heap, K.In base → base.Ns mainGlobals mg → FnOkG P w K mg base CX k fa fd [x] sp) (to : ∀ (t : Shared) (u : Value), BindsTo t fd ⟨[u], []⟩ [(x, u)])
    (yes : ∀ G : Hp, Only G → SqL K G a (is.map V.int) → sp [.ref a] G (fun v _ => v = .bl true) fun _ _ _ => False) (none_ : ∀ G e t', CX [] G t (fun _ _ _ => False) e t' → False) :
    codeAny (model P w) callerA (.call (.ref fa) ⟨[.ref a], []⟩) (fun r t' => r = .ok (.ret (.bool true)) ∧ OldK t.heap t'.heap ∧ t'.os = t.os ∧ AllBare t'.gens) t := by
  have area : ∀ b ∈ [a], ArgOb t.heap [a] b := fun b m => by
    obtain rfl := List.mem_singleton.mp m
    exact ⟨us, by rw [nums.length]; exact short, okU_ints nums, .inl at_⟩
  have seq := (argL inn area (List.mem_singleton.mpr rfl) at_).2
  rw [toV_ints nums] at seq
  have only : Only (argH K t.heap [a]) := argH_Only at_
  have good : HOk P w (argH K t.heap [a]) t.heap := argH_ok area
  have inn' : K.In (hidT t.heap (argH K t.heap [a])) := fun b o lk => hidT_get (inn b o lk) (argH_known lk)
  have gs' := ns_behind (K := K) at_ gs
  have free' : (hidT t.heap (argH K t.heap [a])).NoLimit := by
    obtain ⟨mc, q1, q2⟩ := free
    exact ⟨mc, ns_behind at_ q1, q2⟩
  have at0 : Env0 P w K mg (hidT t.heap (argH K t.heap [a])) callerA [] t (argH K t.heap [a]) :=
    { frames := rfl, mod := ⟨inn', gs', ⟨mb, ns_behind at_ bs, boot⟩, free'⟩, bs := fun _ _ => of_hidT, bsz := by rw [hidT_size]; exact Nat.le_refl _, funs := trivial, frf := fun _ m => (nomatch m), hok := good, bare := .of_eq calm }
  have one : Vals [V.ref a] [Value.ref a] := .cons rfl .nil
  refine codeAny_mono ((F _ inn' gs').run callerA [] t _ _ _ _ _ _ room rfl at0 (to t _) one (yes _ only seq)) fun
    | .error e, t', q => (none_ _ e t' q).elim
    | .ok .next, _, q => False.elim q
    | .ok .brk, _, q => False.elim q
    | .ok .cont, _, q => False.elim q
    | .ok (.ret u), t', ⟨v, G', os, bare, un, good', rv, (isT : v = .bl true)⟩ => ?_
  subst isT
  cases (show u = Value.bool true from rv)
  refine ⟨rfl, OldK.of_keep fun b o e => ?_, os, bare⟩
  rcases only b with z | ⟨ob, xs, z⟩
  · exact un.keep b o e z (fun m => (nomatch m)) List.not_mem_nil
  · have before := (good b _ z).1
    have after := (good' b _ (un.frzs b ob _ z)).1
    exact after.trans (before.symm.trans e)
section
variable {l : PySem.W.OpenLaw} {n k : Nat} {q : Program} {loose : List Str} {XP : (Str → Option Value) → Heap → Prop} {YP : World → Heap → Prop} {d : DefRec} {K : Params → PySem.W.Frag} {CX : World → CXT} {sp : World → Sp} {x : Str}
/-- from the law def's promise to the row's walk -/
theorem walk_ofG (most : l.most = some n) (small : n ≤ sizeLine) (bare : d.params.defaults = []) (room : Room k callerA) (part : ∀ (w : World) (g : Heap), YP w g → (K w.params).In g)
    (F : ∀ (w : World) (mg : Str → Option Value) (fa : Addr) (g : Heap), (K w.params).In g → g.Ns mainGlobals mg → mg d.name = some (.ref fa) → ∃ fd : FuncData, (∀ (t : Shared) (u : Value), BindsTo t fd ⟨[u], []⟩ [(x, u)]) ∧
      ∀ base : Heap, (K w.params).In base → base.Ns mainGlobals mg → FnOkG l.prog w (K w.params) mg base (CX w) k fa fd [x] (sp w))
    (yes : ∀ (w : World) (G : Hp) (a : Addr) (is : List Int), is.length ≤ n → Only G → SqL (K w.params) G a (is.map V.int) → sp w [.ref a] G (fun v _ => v = .bl true) fun _ _ _ => False)
    (none_ : ∀ (w : World) (G : Hp) (t : Shared) (e : Value) (t' : Shared), CX w [] G t (fun _ _ _ => False) e t' → False) : PySem.W.WalkO q loose XP YP l.row.toRowW d [] (fun f us => PySem.call f us) := by
  apply Att.attach_call most bare
  intro w _ t mg mb fa _ _ _ _ a us is Gd Y _ _ _ glob at_ nums short calm
  have inn := part w _ Y
  obtain ⟨fd, to, promise⟩ := F w mg fa _ inn Gd.T.g glob
  exact law_callG inn Gd.T.g Gd.T.b Gd.T.builtins Gd.T.nolimit calm at_ nums (Nat.le_trans short small) room promise to (fun G only => yes w G a is short only) (fun G => none_ w G t)
end
end DL

set_option Elab.async false
set_option linter.all false
set_option maxRecDepth 100000
set_option maxHeartbeats 4000000
/-! DX5: repr; list(x), tuple(x), list(range(..)); max, min, sum, all, any of a list; is None of exceptions; tuple stores. -/
namespace DL
open PySem PySem.Spec PyProof.Rows L2

section
variable {X : Cx} {P : Ps} {a b e : Expr} {es : List Expr} {pos : Pos} {c : Ct} {F H : Hp} {σ : L2.St} {τ : List (Option V)}
theorem de_never {m : M DR} : PE X e (tE P (M.no)) := ⟨fun _ _ _ _ _ _ ⟨_, _, _, _, _, h⟩ => (show False from h).elim⟩

/-! ### repr -/
mutual
/-- no less than the length of repr's text -/
def rz : D → Nat
  | .none => 4
  | .bool _ => 5
  | .int i => i.natAbs.log2 + 2
  | .str x => (reprText x).length
  | .list ds => rzAll ds + 2
  | .tuple ds => rzAll ds + 3
  | .dict _ => 0
def rzAll : List D → Nat
  | [] => 0
  | d :: ds => rz d + 2 + rzAll ds
end
theorem textFrom_le : ∀ (ts : List Str) (k : Nat) (acc : Str), (textFrom k acc ts).length ≤ acc.length + piled ts
  | [], k, acc => by show acc.length ≤ _; omega
  | t :: r, k, acc => by
    have h := textFrom_le r (k + 1) (acc ++ (if k > 0 then ", " else "" : String) ++ t)
    have e : (acc ++ (if k > 0 then ", " else "" : String) ++ t).length ≤ acc.length + 2 + t.length := by
      rw [strLen_append, strLen_append]
      by_cases hk : k > 0
      · rw [if_pos hk]; show _ + 2 + _ ≤ _; omega
      · rw [if_neg hk]; show _ + 0 + _ ≤ _; omega
    rw [piled_cons]
    show (textFrom (k + 1) (acc ++ (if k > 0 then ", " else "" : String) ++ t) r).length ≤ _
    omega
theorem listText_le (ts : List Str) : (listText ts).length ≤ piled ts + 2 := by
  unfold listText
  rw [strLen_append]
  have := textFrom_le ts 0 "["
  have e1 : (("[" : String) : Str).length = 1 := rfl
  have e2 : (("]" : String) : Str).length = 1 := rfl
  omega
theorem tupleText_le (ts : List Str) : (tupleText ts).length ≤ piled ts + 3 := by
  unfold tupleText
  rw [strLen_append, strLen_append]
  have e1 : (("(" : String) : Str).length = 1 := rfl
  have hj : (Str.join ", " ts).length ≤ piled ts := by
    by_cases h : ts = []
    · subst h; exact Nat.le_of_eq rfl
    · have := join_length_add ts h; omega
  by_cases h : (ts.length == 1) = true
  · rw [if_pos h]
    have e2 : ((",)" : String) : Str).length = 2 := rfl
    omega
  · rw [if_neg h]
    have e2 : ((")" : String) : Str).length = 1 := rfl
    omega
mutual
theorem shown_le : ∀ d : D, d.hasDict = false → d.shown.length ≤ rz d
  | .none, _ => by simp only [PyData.shown, rz]; exact Nat.le_of_eq rfl
  | .bool true, _ => by simp only [PyData.shown, rz]; exact (by decide : (4 : Nat) ≤ 5)
  | .bool false, _ => by simp only [PyData.shown, rz]; exact Nat.le_of_eq rfl
  | .int i, _ => by
    simp only [PyData.shown, rz]
    rw [PySem.ofString_length]
    exact int_text_length_le (k := i.natAbs.log2 + 1) (Nat.succ_pos _) (Nat.lt_succ_self _)
  | .str x, _ => by simp only [PyData.shown, rz]; exact Nat.le_refl _
  | .list ds, h => by
    simp only [PyData.shown, rz]
    have := listText_le (PyData.shownAll ds)
    have := shownAll_le ds (by simpa only [PyData.hasDict] using h)
    omega
  | .tuple ds, h => by
    simp only [PyData.shown, rz]
    have := tupleText_le (PyData.shownAll ds)
    have := shownAll_le ds (by simpa only [PyData.hasDict] using h)
    omega
  | .dict _, h => by simp [PyData.hasDict] at h
theorem shownAll_le : ∀ ds : List D, PyData.hasDictAll ds = false → piled (PyData.shownAll ds) ≤ rzAll ds
  | [], _ => Nat.le_refl _
  | d :: ds, h => by
    simp only [PyData.hasDictAll, Bool.or_eq_false_iff] at h
    simp only [PyData.shownAll, rzAll, piled_cons]
    have := shown_le d h.1
    have := shownAll_le ds h.2
    omega
end
def reprOk (d : D) : Bool := d.showable && SeqAt.shaped d && decide (d.depth ≤ 64) && decide (rz d ≤ 16777216)
def reprF : List D → Option D
  | [d] => if reprOk d then some (.str d.shown) else none
  | _ => none
theorem call_reprG (hG : X.A.guards = some []) (hu : X.A.units + 200 < cLine) : CallR X (.builtin "repr") (fun xs H Q => ∃ x d, xs = [x] ∧ Dp X.K H x d ∧ d.showable = true ∧ d.hasDict = false ∧ d.depth ≤ 64 ∧ d.shown.length ≤ sizeLine ∧ Q (.str d.shown) H) := by
  intro pins s σ H xs us Q I r h
  obtain ⟨x, d, rfl, hd, hs, hnd, h64, hz, q⟩ := h
  obtain ⟨u, rfl, rx⟩ := vals1 r
  obtain ⟨as, rd⟩ := Dp.reads I d x u hd rx
  have ref : ∀ a, u = .ref a → wpAny (model X.prog X.w) X.A (call (.builtin "repr") [u]) (EP X pins σ Q) X.xe s := fun a e => by
    subst e
    exact repr_of_reads' rd hs (PyData.noDict_hsm hnd) hG (by omega) (fun _ _ e => e) (fun h' u tk hk => ⟨.str d.shown, H, I.kept hk, ⟨_, rfl⟩, q⟩) hz
  cases hd with
  | non => cases (show u = Value.none from rx); exact PySem.P.repr_of_none ⟨.str _, H, I.tok _, ⟨_, rfl⟩, by simpa only [PyData.shown] using q⟩
  | bl k => cases (show u = Value.bool k from rx); exact PySem.P.repr_of_bool ⟨.str _, H, I.tok _, ⟨_, rfl⟩, by simpa only [PyData.shown] using q⟩
  | int i =>
    obtain ⟨t, e⟩ := (show ∃ t, u = Value.int i t from rx)
    subst e
    exact PySem.P.repr_of_int (by simpa only [PyData.showable, decide_eq_true_eq] using hs) ⟨.str _, H, I.tok _, ⟨_, rfl⟩, by simpa only [PyData.shown] using q⟩
  | str y =>
    obtain ⟨t, e⟩ := (show ∃ t, u = Value.str y t from rx)
    subst e
    exact PySem.P.repr_of_str ⟨.str _, H, I.tok _, ⟨_, rfl⟩, by simpa only [PyData.shown] using q⟩ (by simpa only [PyData.shown] using hz)
  | lst _ _ => exact ref _ rx
  | tup _ _ => exact ref _ rx
theorem cbd_repr (hK : P.K.K = X.K) : CbD P (fun xs H Q => ∃ x d, xs = [x] ∧ Dp X.K H x d ∧ d.showable = true ∧ d.hasDict = false ∧ d.depth ≤ 64 ∧ d.shown.length ≤ sizeLine ∧ Q (.str d.shown) H) reprF := by
  intro c F H L ρ vs ds z Q R n hz q
  have hs : sizeLine = 16777216 := sizeLine_eq
  unfold reprF at hz
  split at hz
  · rename_i d
    split at hz
    · rename_i hok
      cases wid hz
      obtain ⟨v, rfl, n0⟩ := now1 n
      unfold reprOk at hok
      simp only [Bool.and_eq_true, decide_eq_true_eq] at hok
      obtain ⟨⟨⟨h1, h2⟩, h3⟩, h4⟩ := hok
      have hnd := PyData.hasDict_of_canLay d (SeqAt.canLay_of_shaped h2)
      exact ⟨v, d, rfl, hK ▸ n0.dp R.sub h2, h1, hnd, h3, by have := shown_le d hnd; omega, q F H _ (Same.refl F) R (.str _)⟩
    · cases hz
  · cases hz

/-! ### list(x), tuple(x) of data -/
def listF : List D → Option D
  | [.list ds] => some (.list ds)
  | [.tuple ds] => some (.list ds)
  | _ => none
def tupleF : List D → Option D
  | [.list ds] => some (.tuple ds)
  | [.tuple ds] => some (.tuple ds)
  | _ => none
theorem fresh_of {K : Frag} {c : Ct} {F H : Hp} {ρ : List DV} {L : List (Option V)} (R : Rl K c F ρ L H) {p : Addr} (hp : H p = none) : F p = none := by
  cases z : F p with
  | none => rfl
  | some u => have := R.sub p u z; rw [hp] at this; cases this
theorem cbd_list (hK : P.K.K = X.K) : CbD P (fun xs H Q => ∃ p ys, xs = [.ref p] ∧ (SqL X.K H p ys ∨ SqT X.K H p ys) ∧ ∀ l, H l = none → Q (.ref l) (upd H l (.lst ys))) listF := by
  intro c F H L ρ vs ds z Q R n hz q
  unfold listF at hz
  split at hz
  · cases wid hz
    obtain ⟨v, rfl, n0⟩ := now1 n
    obtain ⟨a1, ws, rfl, h1, r1⟩ := n0.list R.sub
    refine ⟨a1, ws, rfl, .inl (hK ▸ h1), fun l hl => ?_⟩
    exact q _ _ _ (Same.upd (fresh_of R hl)) (R.new hl) (.lst (.inl (.inl upd_same)) (r1.mono (Same.upd (fresh_of R hl))))
  · cases wid hz
    obtain ⟨v, rfl, n0⟩ := now1 n
    obtain ⟨a1, ws, rfl, h1, h2, r1⟩ := n0.tuple R.sub
    refine ⟨a1, ws, rfl, .inr (hK ▸ h1), fun l hl => ?_⟩
    exact q _ _ _ (Same.upd (fresh_of R hl)) (R.new hl) (.lst (.inl (.inl upd_same)) (r1.mono (Same.upd (fresh_of R hl))))
  · cases hz
theorem cbd_tuple (hK : P.K.K = X.K) : CbD P (fun xs H Q => ∃ p ys, xs = [.ref p] ∧ ((SqL X.K H p ys ∧ ∀ l, H l = none → Q (.ref l) (upd H l (.tup ys))) ∨ (SqT X.K H p ys ∧ Q (.ref p) H))) tupleF := by
  intro c F H L ρ vs ds z Q R n hz q
  unfold tupleF at hz
  split at hz
  · cases wid hz
    obtain ⟨v, rfl, n0⟩ := now1 n
    obtain ⟨a1, ws, rfl, h1, r1⟩ := n0.list R.sub
    exact ⟨a1, ws, rfl, .inl ⟨hK ▸ h1, fun l hl => q _ _ _ (Same.upd (fresh_of R hl)) (R.new hl) (.tup (.inl (.inl upd_same)) (r1.mono (Same.upd (fresh_of R hl))))⟩⟩
  · cases wid hz
    obtain ⟨v, rfl, n0⟩ := now1 n
    obtain ⟨a1, ws, rfl, h1, h2, r1⟩ := n0.tuple R.sub
    exact ⟨a1, ws, rfl, .inr ⟨hK ▸ h1, q _ _ _ (Same.refl F) R (.tup h2 r1)⟩⟩
  · cases hz

/-! ### max, min, sum, all, any of a list -/
def asInts : List D → Option (List Int)
  | [] => some []
  | .int i :: ds => (asInts ds).map (i :: ·)
  | _ => none
theorem asInts_some : ∀ {ds : List D} {ns : List Int}, asInts ds = some ns → ds = ns.map PyData.int
  | [], ns, h => by cases h; rfl
  | .int i :: ds, ns, h => by
    cases e : asInts ds with
    | none => simp [asInts, e] at h
    | some ms =>
      simp [asInts, e] at h
      subst h
      rw [List.map_cons, ← asInts_some e]
  | .none :: _, _, h => by cases h
  | .bool _ :: _, _, h => by cases h
  | .str _ :: _, _, h => by cases h
  | .list _ :: _, _, h => by cases h
  | .tuple _ :: _, _, h => by cases h
  | .dict _ :: _, _, h => by cases h
def asBools : List D → Option (List Bool)
  | [] => some []
  | .bool i :: ds => (asBools ds).map (i :: ·)
  | _ => none
theorem asBools_some : ∀ {ds : List D} {ns : List Bool}, asBools ds = some ns → ds = ns.map PyData.bool
  | [], ns, h => by cases h; rfl
  | .bool i :: ds, ns, h => by
    cases e : asBools ds with
    | none => simp [asBools, e] at h
    | some ms =>
      simp [asBools, e] at h
      subst h
      rw [List.map_cons, ← asBools_some e]
  | .none :: _, _, h => by cases h
  | .int _ :: _, _, h => by cases h
  | .str _ :: _, _, h => by cases h
  | .list _ :: _, _, h => by cases h
  | .tuple _ :: _, _, h => by cases h
  | .dict _ :: _, _, h => by cases h
theorem rp_ints : ∀ {K : Frag} {F : Hp} {vs : List V} {ns : List Int}, RpAll K F vs (ns.map PyData.int) → vs = ns.map V.int
  | _, _, _, [], .nil => rfl
  | _, _, _, _ :: _, .cons h t => by cases h; rw [rp_ints t]; rfl
theorem rp_bools : ∀ {K : Frag} {F : Hp} {vs : List V} {ns : List Bool}, RpAll K F vs (ns.map PyData.bool) → vs = ns.map V.bl
  | _, _, _, [], .nil => rfl
  | _, _, _, _ :: _, .cons h t => by cases h; rw [rp_bools t]; rfl
def maxN : List Int → Int
  | [] => 0
  | [i] => i
  | i :: ns => if maxN ns ≤ i then i else maxN ns
def minN : List Int → Int
  | [] => 0
  | [i] => i
  | i :: ns => if i ≤ minN ns then i else minN ns
theorem maxN_is : ∀ {ns : List Int}, 0 < ns.length → maxN ns ∈ ns ∧ ∀ y ∈ ns, y ≤ maxN ns
  | [], h => by simp at h
  | [i], _ => by simp [maxN]
  | i :: j :: ns, _ => by
    obtain ⟨h1, h2⟩ := maxN_is (ns := j :: ns) (by simp)
    unfold maxN
    by_cases hc : maxN (j :: ns) ≤ i
    · rw [if_pos hc]
      refine ⟨List.mem_cons_self, fun y hy => ?_⟩
      rcases List.mem_cons.mp hy with rfl | hy
      · exact Int.le_refl _
      · exact Int.le_trans (h2 y hy) hc
    · rw [if_neg hc]
      refine ⟨List.mem_cons_of_mem _ h1, fun y hy => ?_⟩
      rcases List.mem_cons.mp hy with rfl | hy
      · omega
      · exact h2 y hy
theorem minN_is : ∀ {ns : List Int}, 0 < ns.length → minN ns ∈ ns ∧ ∀ y ∈ ns, minN ns ≤ y
  | [], h => by simp at h
  | [i], _ => by simp [minN]
  | i :: j :: ns, _ => by
    obtain ⟨h1, h2⟩ := minN_is (ns := j :: ns) (by simp)
    unfold minN
    by_cases hc : i ≤ minN (j :: ns)
    · rw [if_pos hc]
      refine ⟨List.mem_cons_self, fun y hy => ?_⟩
      rcases List.mem_cons.mp hy with rfl | hy
      · exact Int.le_refl _
      · exact Int.le_trans hc (h2 y hy)
    · rw [if_neg hc]
      refine ⟨List.mem_cons_of_mem _ h1, fun y hy => ?_⟩
      rcases List.mem_cons.mp hy with rfl | hy
      · omega
      · exact h2 y hy
def lInt (f : List Int → Option D) : List D → Option D
  | [.list ds] => (asInts ds).bind f
  | _ => none
def lBool (f : List Bool → D) : List D → Option D
  | [.list ds] => (asBools ds).map f
  | _ => none
def maxLF : List D → Option D := lInt fun ns => if ns.isEmpty then none else some (.int (maxN ns))
def minLF : List D → Option D := lInt fun ns => if ns.isEmpty then none else some (.int (minN ns))
def sumF : List D → Option D := lInt fun ns => some (.int ns.sum)
def allF : List D → Option D := lBool fun bs => .bool (bs.all id)
def anyF : List D → Option D := lBool fun bs => .bool (bs.any id)
theorem lInt_some {f : List Int → Option D} {ds : List D} {z : D} (h : lInt f ds = some z) : ∃ ns : List Int, ds = [.list (ns.map PyData.int)] ∧ f ns = some z := by
  unfold lInt at h
  split at h
  · rename_i es
    cases e : asInts es with
    | none => rw [e] at h; cases h
    | some ns => rw [e] at h; exact ⟨ns, by rw [asInts_some e], h⟩
  · cases h
theorem lBool_some {f : List Bool → D} {ds : List D} {z : D} (h : lBool f ds = some z) : ∃ ns : List Bool, ds = [.list (ns.map PyData.bool)] ∧ z = f ns := by
  unfold lBool at h
  split at h
  · rename_i es
    cases e : asBools es with
    | none => rw [e] at h; cases h
    | some ns => rw [e] at h; exact ⟨ns, by rw [asBools_some e], (Option.some.inj h).symm⟩
  · cases h
theorem cbd_maxL (hK : P.K.K = X.K) : CbD P (rMax X.K) maxLF := by
  intro c F H L ρ vs ds z Q R n hz q
  obtain ⟨ns, rfl, h⟩ := lInt_some hz
  obtain ⟨v, rfl, n0⟩ := now1 n
  obtain ⟨a1, ws, rfl, h1, r1⟩ := n0.list R.sub
  cases hne : ns.isEmpty with
  | true => rw [hne] at h; cases h
  | false =>
    rw [hne] at h
    cases h
    have hpos : 0 < ns.length := by cases ns with | nil => simp at hne | cons _ _ => simp
    rw [rp_ints r1] at h1
    refine ⟨a1, ns, rfl, hK ▸ h1, hpos, fun m m1 m2 => q F H _ (Same.refl F) R ?_⟩
    obtain ⟨k1, k2⟩ := maxN_is hpos
    have : m = maxN ns := Int.le_antisymm (k2 m m1) (m2 _ k1)
    rw [this]; exact .int _
theorem cbd_minL (hK : P.K.K = X.K) : CbD P (rMin X.K) minLF := by
  intro c F H L ρ vs ds z Q R n hz q
  obtain ⟨ns, rfl, h⟩ := lInt_some hz
  obtain ⟨v, rfl, n0⟩ := now1 n
  obtain ⟨a1, ws, rfl, h1, r1⟩ := n0.list R.sub
  cases hne : ns.isEmpty with
  | true => rw [hne] at h; cases h
  | false =>
    rw [hne] at h
    cases h
    have hpos : 0 < ns.length := by cases ns with | nil => simp at hne | cons _ _ => simp
    rw [rp_ints r1] at h1
    refine ⟨a1, ns, rfl, hK ▸ h1, hpos, fun m m1 m2 => q F H _ (Same.refl F) R ?_⟩
    obtain ⟨k1, k2⟩ := minN_is hpos
    have : m = minN ns := Int.le_antisymm (m2 _ k1) (k2 m m1)
    rw [this]; exact .int _
theorem cbd_sum (hK : P.K.K = X.K) : CbD P (rSum X.K) sumF := by
  intro c F H L ρ vs ds z Q R n hz q
  obtain ⟨ns, rfl, h⟩ := lInt_some hz
  obtain ⟨v, rfl, n0⟩ := now1 n
  obtain ⟨a1, ws, rfl, h1, r1⟩ := n0.list R.sub
  cases h
  rw [rp_ints r1] at h1
  exact ⟨a1, ns, rfl, hK ▸ h1, q F H _ (Same.refl F) R (.int _)⟩
theorem cbd_all (hK : P.K.K = X.K) : CbD P (rAll X.K) allF := by
  intro c F H L ρ vs ds z Q R n hz q
  obtain ⟨ns, rfl, rfl⟩ := lBool_some hz
  obtain ⟨v, rfl, n0⟩ := now1 n
  obtain ⟨a1, ws, rfl, h1, r1⟩ := n0.list R.sub
  rw [rp_bools r1] at h1
  exact ⟨a1, ns, rfl, hK ▸ h1, q F H _ (Same.refl F) R (.bl _)⟩
theorem cbd_any (hK : P.K.K = X.K) : CbD P (rAny X.K) anyF := by
  intro c F H L ρ vs ds z Q R n hz q
  obtain ⟨ns, rfl, rfl⟩ := lBool_some hz
  obtain ⟨v, rfl, n0⟩ := now1 n
  obtain ⟨a1, ws, rfl, h1, r1⟩ := n0.list R.sub
  rw [rp_bools r1] at h1
  exact ⟨a1, ns, rfl, hK ▸ h1, q F H _ (Same.refl F) R (.bl _)⟩

/-! ### a, b = (x, y) -/
theorem HoS.frzAll {rs : List DR} {k : List D → M Fl} {ρ : List DV} {vs : List V} {De : Ends} (h : HoS P c F (M.bind (DL.frzAll rs) k ρ) De) (R : Rl P.K c F ρ σ H) (hv : Paired (RefV P.K F σ) vs rs) :
    ∃ ds F1 ρ1, Same F F1 ∧ Rl P.K c F1 ρ1 σ H ∧ RpAll P.K F1 vs ds ∧ HoS P c F1 (k ds ρ1) De := by
  have h1 := HoS.bind σ h
  have e : M.bind (DL.frzAll rs) (fun ds => M.ok ds) ρ = DL.frzAll rs ρ := by
    unfold M.bind
    cases DL.frzAll rs ρ with
    | none => rfl
    | some o => obtain ⟨o, r⟩ := o; cases o <;> rfl
  rw [← e] at h1
  obtain ⟨ds, F1, ρ1, s1, R1, r1, q1⟩ := Ho.frzAll h1 (nilτ R) (by rw [List.append_nil]; exact hv)
  exact ⟨ds, F1, ρ1, s1, nilτ' R1, r1, Ho.now q1 R1⟩
theorem setDs_ok : ∀ {is : List Nat} {ds : List D} {ρ : List DV} {o : Except Ex Unit × List DV}, setDs is ds ρ = some o → ∃ ρ', o = (.ok (), ρ') ∧ ds.length = is.length
  | [], [], ρ, o, h => by cases h; exact ⟨ρ, rfl, rfl⟩
  | [], _ :: _, _, _, h => by cases h
  | _ :: _, [], _, _, h => by cases h
  | i :: is, d :: ds, ρ, o, h => by
    unfold setDs M.bind at h
    cases z : setD i d ρ with
    | none => rw [z] at h; cases h
    | some o1 =>
      obtain ⟨e, _⟩ := setD_some z
      subst e
      rw [z] at h
      obtain ⟨ρ', e1, e2⟩ := setDs_ok (show setDs is ds _ = some o from h)
      exact ⟨ρ', e1, by rw [List.length_cons, List.length_cons, e2]⟩
def sPar (is : List Nat) (ms : M (List DR)) : M Fl := M.bind ms fun rs => M.bind (frzAll rs) fun ds => M.bind (setDs is ds) fun _ => M.ok .nx
theorem HoS.setDs {is : List Nat} {ds : List D} {k : Unit → M Fl} {ρ : List DV} {De : Ends} (h : HoS P c F (M.bind (DL.setDs is ds) k ρ) De) : ∃ ρ', DL.setDs is ds ρ = some (.ok (), ρ') ∧ ds.length = is.length ∧ HoS P c F (k () ρ') De := by
  unfold M.bind at h
  cases z : DL.setDs is ds ρ with
  | none => rw [z] at h; exact (show False from h).elim
  | some o =>
    obtain ⟨ρ', e1, e2⟩ := setDs_ok z
    subst e1
    rw [z] at h
    exact ⟨ρ', rfl, e2, h⟩
theorem ds_par2 {i j : Nat} {x y : Str} {px py pt : Pos} {kt k2 pt2} {ms : M (List DR)} (hc : X.calm = true) (hN : X.N.Nodup) (hi : X.N[i]? = some x) (hj : X.N[j]? = some y) (hij : i ≠ j)
    (hx : X.env.scope.names.lookup x = some .local) (hy : X.env.scope.names.lookup y = some .local) (ha : PA X [a, b] (tA P ms))
    (hw : swappedStores [.Tuple [.Name x px, .Name y py] kt pt] (.Tuple [a, b] k2 pt2) X.env = pure (some [x, y]))
    (hs : swapsWithSole [.Tuple [.Name x px, .Name y py] kt pt] (.Tuple [a, b] k2 pt2) pos.line X.env = pure false) :
    PS X (.Assign [.Tuple [.Name x px, .Name y py] kt pt] (.Tuple [a, b] k2 pt2) pos) (tS P (sPar [i, j] ms)) := (ps_par hc hN hi hj hij hx hy ha hw hs).of fun De σ H q => by
  obtain ⟨c, F, ρ, R, q⟩ := q
  refine ⟨c, F, [], ρ, nilτ R, (HoS.bind σ q).mono fun rs ρ1 F1 H1 s1 R1 q1 vs hvs => ?_⟩
  obtain ⟨ds, F2, ρ2, s2, R2, r2, q2⟩ := HoS.frzAll q1 (nilτ' R1) (by rw [List.append_nil] at hvs; exact hvs)
  obtain ⟨ρ3, e3, hl, q3⟩ := HoS.setDs q2
  match ds, hl, r2 with
  | [d, f], _, .cons (v := v) rv (.cons (v := w) rw' .nil) =>
    refine ⟨v, w, rfl, ?_⟩
    unfold DL.setDs M.bind at e3
    cases z : setD i d ρ2 with
    | none => rw [z] at e3; cases e3
    | some o =>
      obtain ⟨e, hb⟩ := setD_some z
      subst e
      rw [z] at e3
      dsimp only at e3
      unfold DL.setDs M.bind at e3
      cases z2 : setD j f (ρ2.set i (.dat d)) with
      | none => rw [z2] at e3; cases e3
      | some o =>
        obtain ⟨e, hb2⟩ := setD_some z2
        subst e
        rw [z2] at e3
        cases e3
        exact q3 _ F2 H1 (Same.refl _) ((R2.setD rv hb).setD rw' hb2)
theorem ds_par3 {i j l : Nat} {x y w : Str} {px py pz pt : Pos} {kt k2 pt2} {e3 : Expr} {ms : M (List DR)} (hc : X.calm = true) (hN : X.N.Nodup) (hi : X.N[i]? = some x) (hj : X.N[j]? = some y) (hl : X.N[l]? = some w) (hij : i ≠ j) (hil : i ≠ l) (hjl : j ≠ l)
    (hx : X.env.scope.names.lookup x = some .local) (hy : X.env.scope.names.lookup y = some .local) (hz : X.env.scope.names.lookup w = some .local) (ha : PA X [a, b, e3] (tA P ms))
    (hw : swappedStores [.Tuple [.Name x px, .Name y py, .Name w pz] kt pt] (.Tuple [a, b, e3] k2 pt2) X.env = pure (some [x, y, w]))
    (hs : swapsWithSole [.Tuple [.Name x px, .Name y py, .Name w pz] kt pt] (.Tuple [a, b, e3] k2 pt2) pos.line X.env = pure false) :
    PS X (.Assign [.Tuple [.Name x px, .Name y py, .Name w pz] kt pt] (.Tuple [a, b, e3] k2 pt2) pos) (tS P (sPar [i, j, l] ms)) := (ps_par3 hc hN hi hj hl hij hil hjl hx hy hz ha hw hs).of fun De σ H q => by
  obtain ⟨c, F, ρ, R, q⟩ := q
  refine ⟨c, F, [], ρ, nilτ R, (HoS.bind σ q).mono fun rs ρ1 F1 H1 s1 R1 q1 vs hvs => ?_⟩
  obtain ⟨ds, F2, ρ2, s2, R2, r2, q2⟩ := HoS.frzAll q1 (nilτ' R1) (by rw [List.append_nil] at hvs; exact hvs)
  obtain ⟨ρ3, e3, hl, q3⟩ := HoS.setDs q2
  match ds, hl, r2 with
  | [d, f, g], _, .cons (v := v) rv (.cons (v := w) rw' (.cons (v := u) ru .nil)) =>
    refine ⟨v, w, u, rfl, ?_⟩
    unfold DL.setDs M.bind at e3
    cases z : setD i d ρ2 with
    | none => rw [z] at e3; cases e3
    | some o =>
      obtain ⟨e, hb⟩ := setD_some z
      subst e
      rw [z] at e3
      dsimp only at e3
      unfold DL.setDs M.bind at e3
      cases z2 : setD j f (ρ2.set i (.dat d)) with
      | none => rw [z2] at e3; cases e3
      | some o =>
        obtain ⟨e, hb2⟩ := setD_some z2
        subst e
        rw [z2] at e3
        dsimp only at e3
        unfold DL.setDs M.bind at e3
        cases z3 : setD l g ((ρ2.set i (.dat d)).set j (.dat f)) with
        | none => rw [z3] at e3; cases e3
        | some o =>
          obtain ⟨e, hb3⟩ := setD_some z3
          subst e
          rw [z3] at e3
          cases e3
          exact q3 _ F2 H1 (Same.refl _) (((R2.setD rv hb).setD rw' hb2).setD ru hb3)
/-- the ordinary path: a tuple is made, then taken apart -/
theorem ds_parT {tes : List Expr} {is : List Nat} {kt k2 : Nat} {pt pt2 : Pos} {ms : M (List DR)} (hK : P.K.K = X.K) (hc : X.calm = true) (ha : PA X es (tA P ms)) (hg : PGs X tes (gTs P is)) (hn : (assignEach tes X.env).length = is.length) (hst : (assignEach tes X.env).findIdx? (·.1) = none) (hsz : is.length ≤ 1000)
    (hs : swapsWithSole [.Tuple tes kt pt] (.Tuple es k2 pt2) pos.line X.env = pure false) (hw : swappedStores [.Tuple tes kt pt] (.Tuple es k2 pt2) X.env = pure none) (h1 : (assignEach [.Tuple tes kt pt] X.env).map (·.2) = [assign (.Tuple tes kt pt) X.env]) :
    PS X (.Assign [.Tuple tes kt pt] (.Tuple es k2 pt2) pos) (tS P (sPar is ms)) := (ps_asg (pe_tup ha) (pg_tup hc hg hn hst) hs hw h1).of fun De σ H q => by
  have hz : sizeLine = 16777216 := sizeLine_eq
  obtain ⟨c, F, ρ, R, q⟩ := q
  refine ⟨c, F, [], ρ, nilτ R, (HoS.bind σ q).mono fun rs ρ1 F1 H1 s1 R1 q1 vs hvs => ?_⟩
  obtain ⟨ds, F2, ρ2, s2, R2, r2, q2⟩ := HoS.frzAll q1 (nilτ' R1) (by rw [List.append_nil] at hvs; exact hvs)
  obtain ⟨ρ3, e3, hl, q3⟩ := HoS.setDs q2
  have hlen : vs.length = is.length := by rw [r2.length, hl]
  refine ⟨by rw [hlen]; omega, fun p hp => ?_⟩
  have R3 := R2.new (o := .tup vs) hp
  have s3 : Same F2 (upd F2 p (.tup vs)) := Same.upd (fresh_of R2 hp)
  exact ⟨p, vs, rfl, .inl (.inl upd_same), hlen, c, _, [], ρ2, ds, nilτ R3, r2.mono s3, ρ3, e3, fun σ' F' H' s R' _ => q3 σ' F' H' (s3.trans s) (nilτ' R')⟩
/-- a, b = e, a tuple -/
def sUnp (is : List Nat) (m : M DR) : M Fl := M.bind m fun r => match r with
  | .dat (.tuple ds) => M.bind (setDs is ds) fun _ => M.ok .nx
  | _ => M.no
theorem ds_unp {tes : List Expr} {is : List Nat} {kt : Nat} {pt : Pos} {m : M DR} (hK : P.K.K = X.K) (hc : X.calm = true) (he : PE X e (tE P m)) (hg : PGs X tes (gTs P is)) (hn : (assignEach tes X.env).length = is.length) (hst : (assignEach tes X.env).findIdx? (·.1) = none)
    (hs : swapsWithSole [.Tuple tes kt pt] e pos.line X.env = pure false) (hw : swappedStores [.Tuple tes kt pt] e X.env = pure none) (h1 : (assignEach [.Tuple tes kt pt] X.env).map (·.2) = [assign (.Tuple tes kt pt) X.env]) :
    PS X (.Assign [.Tuple tes kt pt] e pos) (tS P (sUnp is m)) := (ps_asg he (pg_tup hc hg hn hst) hs hw h1).of fun De σ H q => by
  obtain ⟨c, F, ρ, R, q⟩ := q
  refine ⟨c, F, [], ρ, nilτ R, (HoS.bind σ q).mono fun r ρ1 F1 H1 s1 R1 q1 v hv => ?_⟩
  match r, hv, q1 with
  | .dat (.tuple ds), hv, q1 =>
    obtain ⟨ρ3, e3, hl, q3⟩ := HoS.setDs (show HoS P c F1 (M.bind (DL.setDs is ds) (fun _ => M.ok .nx) ρ1) De from q1)
    have hv' : Rp P.K F1 v (.tuple ds) := hv
    cases hv' with
    | @tup a xs _ h1 h2 =>
      exact ⟨a, xs, rfl, hK ▸ sqt_mono R1.sub h1, by rw [h2.length, hl], c, F1, [], ρ1, ds, R1, h2, ρ3, e3, fun σ' F' H' s R' _ => q3 σ' F' H' s (nilτ' R')⟩
/-- is None, of an exception too -/
def isNR (neg : Bool) : DR → M DR := fun r => match r with
  | .exc _ _ => M.ok (.dat (.bool neg))
  | r => M.bind (rd r) fun d => M.ok (.dat (.bool (if neg then !isNoneB d else isNoneB d)))
def eIsN (neg : Bool) (m : M DR) : M DR := M.bind m (isNR neg)
theorem isN_step {neg : Bool} {r : DR} {ρ1 : List DV} {v : V} {Q : VK} (R1 : Rl P.K c F ρ1 (σ ++ τ) H) (hv : RefV P.K F (σ ++ τ) v r) (q1 : Ho P c F σ τ (isNR neg r ρ1) fun r _ F' H' => ∀ v, RefV P.K F' (σ ++ τ) v r → Q v H') : Q (.bl (if neg then !decide (v = .non) else decide (v = .non))) H := by
  have dat : ∀ {r : DR}, RefV P.K F (σ ++ τ) v r → Ho P c F σ τ (M.bind (rd r) (fun d => M.ok (.dat (.bool (if neg then !isNoneB d else isNoneB d)))) ρ1) (fun r _ F' H' => ∀ v, RefV P.K F' (σ ++ τ) v r → Q v H') → Q (.bl (if neg then !decide (v = .non) else decide (v = .non))) H := fun {r} hv q1 => by
    obtain ⟨d, q2, n⟩ := Ho.now1 q1 R1 hv
    rw [n.isN]
    exact Ho.now q2 R1 _ (.bl _)
  cases r with
  | dat d => exact dat hv q1
  | loc p => exact dat hv q1
  | exc y d =>
    obtain ⟨a, dd, C, w, rfl, _⟩ := (show ExAt P.K F v y d from hv)
    have e : decide (V.ref a = V.non) = false := decide_eq_false (fun z => nomatch z)
    rw [e]
    have := Ho.now (a := DR.dat (.bool neg)) q1 R1 (.bl neg) (.bl neg)
    cases neg <;> exact this
theorem de_isNx {ma : M DR} {j : Nat} {p2 : Pos} (ha : PE X a (tE P ma)) : PE X (.Compare a [.Is] [.Constant .none j p2] pos) (tE P (eIsN false ma)) := (pe_cmp (pc_isN ha) rfl).of fun σ H Q q => by
  obtain ⟨c, F, τ, ρ, R, q⟩ := q
  exact ⟨c, F, τ, ρ, R, (Ho.bind q).mono fun x ρ1 F1 H1 s1 R1 q1 v hv => isN_step R1 hv q1⟩
theorem de_notNx {ma : M DR} {j : Nat} {p2 : Pos} (ha : PE X a (tE P ma)) : PE X (.Compare a [.IsNot] [.Constant .none j p2] pos) (tE P (eIsN true ma)) := (pe_cmp (pc_notN ha) rfl).of fun σ H Q q => by
  obtain ⟨c, F, τ, ρ, R, q⟩ := q
  exact ⟨c, F, τ, ρ, R, (Ho.bind q).mono fun x ρ1 F1 H1 s1 R1 q1 v hv => isN_step R1 hv q1⟩
theorem dt_isNx {ma : M DR} {j : Nat} {p2 : Pos} (ha : PE X a (tE P ma)) : PT X (.Compare a [.Is] [.Constant .none j p2] pos) (tT P (eB (eIsN false ma))) := (pt_cmp (pc_isN ha) rfl).of fun σ H Q q => tT_tB (t := tIsN (tE P ma)) (fun σ H Q q => by
  obtain ⟨c, F, τ, ρ, R, q⟩ := q
  exact ⟨c, F, τ, ρ, R, (Ho.bind q).mono fun x ρ1 F1 H1 s1 R1 q1 v hv => isN_step R1 hv q1⟩) σ H Q q
theorem dt_notNx {ma : M DR} {j : Nat} {p2 : Pos} (ha : PE X a (tE P ma)) : PT X (.Compare a [.IsNot] [.Constant .none j p2] pos) (tT P (eB (eIsN true ma))) := (pt_cmp (pc_notN ha) rfl).of fun σ H Q q => tT_tB (t := tNotN (tE P ma)) (fun σ H Q q => by
  obtain ⟨c, F, τ, ρ, R, q⟩ := q
  exact ⟨c, F, τ, ρ, R, (Ho.bind q).mono fun x ρ1 F1 H1 s1 R1 q1 v hv => isN_step R1 hv q1⟩) σ H Q q

/-! ### list(range(a, b)) -/
theorem rp_map {K : Frag} {F : Hp} {α : Type} (f : α → V) (g : α → D) (h : ∀ x, Rp K F (f x) (g x)) : ∀ l : List α, RpAll K F (l.map f) (l.map g)
  | [] => .nil
  | x :: l => .cons (h x) (rp_map f g h l)
def rgOk (i j : Int) : Bool := okR i && okR j && decide ((j - i).toNat ≤ 2 ^ 24)
def rgLF (d e : D) : Option D := match d, e with
  | .int i, .int j => if rgOk i j then some (.list (rangeD i j)) else none
  | _, _ => none
def rLrg : R2 := fun x y H Q => ∃ i j, x = .int i ∧ y = .int j ∧ RgOk i j ∧ ∀ q, H q = none → Q (.ref q) (upd H q (.lst (rgV i j)))
theorem rgOk_of {i j : Int} (h : rgOk i j = true) : RgOk i j := by
  unfold rgOk at h
  simp only [Bool.and_eq_true, decide_eq_true_eq] at h
  obtain ⟨⟨h1, h2⟩, h3⟩ := h
  exact ⟨(okR_of h1).1, (okR_of h1).2, (okR_of h2).1, (okR_of h2).2, h3⟩
theorem rg_rp {K : Frag} {F : Hp} (i j : Int) : RpAll K F (rgV i j) (rangeD i j) := rp_map _ _ (fun _ => .int _) _
theorem opd_lrg : OpD X P rLrg rgLF := by
  intro c F H L ρ x y d e z Q R n1 n2 hz q
  unfold rgLF at hz
  split at hz
  · split at hz
    · rename_i i j hok
      cases wid hz
      exact ⟨i, j, n1.int, n2.int, rgOk_of hok, fun p hp => q _ _ _ (Same.upd (fresh_of R hp)) (R.new hp) (.lst (.inl (.inl upd_same)) (rg_rp i j))⟩
    · cases hz
  · cases hz
theorem de_lrg2 {p p2 pos2 : Pos} {ma mb : M DR} (hc : X.calm = true) (hg : Gl X "list") (hm : X.mg "list" = none) (hg2 : Gl X "range") (hm2 : X.mg "range" = none) (ha : PE X a (tE P ma)) (hb : PE X b (tE P mb))
    (n1 : starEach [a, b] X.env = (false, eval a X.env) :: starEach [b] X.env) (n2 : starEach [b] X.env = (false, eval b X.env) :: starEach [] X.env) (n3 : starEach [Expr.Call (.Name "range" p2) [a, b] [] pos2] X.env = (false, eval (Expr.Call (.Name "range" p2) [a, b] [] pos2) X.env) :: starEach [] X.env) (hp : (backTo pos2 (starEach [b] X.env)).any (·.1) = false) :
    PE X (.Call (.Name "list" p) [.Call (.Name "range" p2) [a, b] [] pos2] [] pos) (tE P (eOp2 rgLF ma mb)) :=
  (pe_listRg hc hg hm (prg_2 hg2 hm2 ha hb n1 n2 hp) n3).of fun σ H Q q => by
    obtain ⟨c, F, τ, ρ, R, q⟩ := tE_op2 (X := X) (opd_lrg (X := X)) σ H Q q
    refine ⟨c, F, τ, ρ, R, q.mono fun r ρ1 F1 H1 s1 R1 q1 v hv => ?_⟩
    obtain ⟨c2, F2, τ2, ρ2, R2, q2⟩ := q1 v hv
    refine ⟨c2, F2, τ2, ρ2, R2, q2.mono fun r2 ρ3 F3 H3 s3 R3 q3 w hw => ?_⟩
    obtain ⟨i, j, e1, e2, e3, e4⟩ := q3 w hw
    exact ⟨i, j, e1, e2, e3, e4⟩
end
end DL

set_option Elab.async false
set_option linter.all false
set_option maxRecDepth 100000
set_option maxHeartbeats 4000000
/-! DX6: return of a new list; x = [.. for ..] on one line; append; small helps for printed proofs. -/
namespace DL
open PySem PySem.Spec PyProof.Rows L2

section
variable {K : Frag} {c : Ct} {F H : Hp} {ρ : List DV} {L : List (Option V)}
/-- the last temporary is let go -/
theorem Rl.dropLast {x : DV} {v : Option V} (R : Rl K c F (ρ ++ [x]) (L ++ [v]) H) (hl : ρ.length = L.length) (hb : x.isBor = false) : Rl K c F ρ L H := by
  refine Rl.patch R hl (fun i y w e1 e2 => .inl ⟨?_, ?_⟩) fun p hp => ?_
  · rw [List.getElem?_append_left (List.getElem?_eq_some_iff.mp e1).1]; exact e1
  · rw [List.getElem?_append_left (List.getElem?_eq_some_iff.mp e2).1]; exact e2
  · obtain ⟨⟨fs, g1⟩, g2⟩ := R.lent p hp
    have hp1 : p.1 < ρ.length := by
      rcases Nat.lt_or_ge p.1 ρ.length with h | h
      · exact h
      · rw [List.getElem?_append_right h] at g1
        have h1 := (List.getElem?_eq_some_iff.mp g1).1
        have h2 : p.1 - ρ.length = 0 := by simp at h1; omega
        rw [h2] at g1
        cases g1
        simp [DV.isBor] at hb
    rw [List.getElem?_append_left hp1, List.getElem?_append_left (by omega)]
    exact ⟨rfl, rfl⟩
end
section
variable {X : Cx} {P : Ps} {a b e : Expr} {es : List Expr} {pos : Pos} {c : Ct} {F H : Hp} {σ : L2.St} {τ : List (Option V)}
theorem _root_.L2.PW.fin {X : Cx} {e : Expr} {t : TT} (h : PW X e t) : PT X e t := h.pt
/-- return of a list that was made just now -/
theorem ds_retN {m : M Unit} (h : PE X e (tN P m)) : PS X (.Return (some e) pos) (tS P (sRetN m)) := (ps_ret h).of fun De σ H q => by
  obtain ⟨c, F, ρ, R, q⟩ := q
  refine ⟨c, F, [], ρ, nilτ R, ?_⟩
  unfold sRetN M.bind at q
  match z : m ρ with
  | none => rw [z] at q; exact q
  | some (.error x, ρ1) => rw [z] at q; exact q σ
  | some (.ok u, ρ1) =>
    rw [z] at q
    intro F' H' v s R1
    rw [List.append_nil] at R1
    dsimp only at q
    split at q
    · rename_i ds hl
      obtain ⟨ys, rfl⟩ := List.getLast?_eq_some_iff.mp hl
      rw [List.dropLast_concat] at q
      have hlen : ys.length = σ.length := by
        have := R1.len
        simp only [List.length_append, List.length_singleton] at this
        omega
      have ex : (ys ++ [DV.lst ds])[ys.length]? = some (.lst ds) := by rw [List.getElem?_append_right (Nat.le_refl _)]; simp
      have ev : (σ ++ [some v])[ys.length]? = some (some v) := by rw [hlen, List.getElem?_append_right (Nat.le_refl _)]; simp
      obtain ⟨a, xs, e1, e2, e3, e4⟩ := R1.slot _ _ _ ex ev
      cases e1
      refine q _ σ F' H' s (R1.dropLast hlen rfl) ⟨a, xs, rfl, e2, ?_, R1.nobor _ ds a ex ev, e3, e4⟩
      rcases R1.fresh _ _ a ex (by simp [DV.own]) ev with g | g
      · exact g
      · exact absurd g (R1.nobor _ ds a ex ev)
    · exact (show False from q).elim
theorem ds_setLc {i : Nat} {y : Str} {py : Pos} {elt tg iter : Expr} {ifs : List Expr} {scope : Scope} {own : List (Str × Nat)} {spos : Pos} {mi : M (List D)} {t : DT} {mt : M Bool} {me : M DR} (hc : X.calm = true) (hN : X.N.Nodup) (hy : X.N[i]? = some y) (hyl : X.env.scope.names.lookup y = some .local)
    (hsw : swapsWith (.ListComp elt [⟨tg, iter, ifs, 0⟩] scope pos) (some (.Name y py)) spos.line X.env = pure true) (hi : PI X tg iter (tI P mi)) (ok : BlkOk X.N X.env.scope scope own)
    (hg : ∀ (s : Shared) (H : Hp) (C : Addr) (cl : List (Str × Addr)) (fp : List Addr), PG (X.blk s H scope (compEnvC scope cl C X.env) fp) tg (gT P.quiet t)) (ht : ∀ (s : Shared) (H : Hp) (C : Addr) (cl : List (Str × Addr)) (fp : List Addr), PTs (X.blk s H scope (compEnvC scope cl C X.env) fp) ifs (tT P.quiet mt))
    (he : ∀ (s : Shared) (H : Hp) (C : Addr) (cl : List (Str × Addr)) (fp : List Addr), PE (X.blk s H scope (compEnvC scope cl C X.env) fp) elt (tE P.quiet me)) (hs : ∀ x, foldedSetIterable iter X.env x = pure x) (hv : ∀ i ∈ t.slots, i ∈ own.map (·.2)) :
    PS X (.Assign [.Name y py] (.ListComp elt [⟨tg, iter, ifs, 0⟩] scope pos) spos) (tS P (sSetN i (nLc mi t mt me (own.map (·.2))))) :=
  (ps_setLc hc hN hy hyl hsw hi ok hg ht he hs).ofL fun De σ H hσ q =>
    ds_setNK (t := fun σ H Q => σ.length = X.N.length → _) (fun σ H Q q hσ => tN_lc (X := X) hv (fun i hi => by
      obtain ⟨p, hp, rfl⟩ := List.mem_map.mp hi
      exact (List.getElem?_eq_some_iff.mp (ok.ix p hp)).1) σ H Q hσ q) De σ H q hσ
theorem ds_setLcX {i : Nat} {y : Str} {py : Pos} {elt tg iter : Expr} {ifs : List Expr} {scope : Scope} {own : List (Str × Nat)} {spos : Pos} {mi : M (List D)} {t : DT} {mt : M Bool} {me : M DR} (hc : X.calm = true) (hN : X.N.Nodup) (hy : X.N[i]? = some y) (hyl : X.env.scope.names.lookup y = some .local)
    (hsw : swapsWith (.ListComp elt [⟨tg, iter, ifs, 0⟩] scope pos) (some (.Name y py)) spos.line X.env = pure true) (hi : PI X tg iter (tI P mi)) (ok : BlkOk X.N X.env.scope scope own)
    (hg : ∀ (s : Shared) (H : Hp) (C : Addr) (cl : List (Str × Addr)) (fp : List Addr), PG (X.blk s H scope (compEnvC scope cl C X.env) fp) tg (gT P.quiet t)) (ht : ∀ (s : Shared) (H : Hp) (C : Addr) (cl : List (Str × Addr)) (fp : List Addr), PTs (X.blk s H scope (compEnvC scope cl C X.env) fp) ifs (tT P.quiet mt))
    (he : ∀ (s : Shared) (H : Hp) (C : Addr) (cl : List (Str × Addr)) (fp : List Addr), PE (X.blk s H scope (compEnvC scope cl C X.env) fp) elt (tE P.quiet me)) (hs : ∀ x, foldedSetIterable iter X.env x = pure x) (hv : ∀ i ∈ t.slots, i ∈ own.map (·.2)) :
    PS X (.Assign [.Name y py] (.ListComp elt [⟨tg, iter, ifs, 0⟩] scope pos) spos) (tS P (sSetX i (eLc mi t mt me (own.map (·.2))))) :=
  (ps_setLc hc hN hy hyl hsw hi ok hg ht he hs).ofL fun De σ H hσ q =>
    ds_setXK (t := fun σ H Q => σ.length = X.N.length → _) (fun σ H Q q hσ => tE_of_tN (P := P) (t := fun σ H Q => σ.length = X.N.length → _) (fun σ H Q q hσ => tN_lc (X := X) hv (fun i hi => by
      obtain ⟨p, hp, rfl⟩ := List.mem_map.mp hi
      exact (List.getElem?_eq_some_iff.mp (ok.ix p hp)).1) σ H Q hσ q) σ H Q q hσ) De σ H q hσ
theorem de_lc {tg iter elt : Expr} {ifs : List Expr} {scope : Scope} {own : List (Str × Nat)} {mi : M (List D)} {t : DT} {mt : M Bool} {me : M DR} (hc : X.calm = true) (hN : X.N.Nodup) (hi : PI X tg iter (tI P mi)) (ok : BlkOk X.N X.env.scope scope own)
    (hg : ∀ (s : Shared) (H : Hp) (C : Addr) (cl : List (Str × Addr)) (fp : List Addr), PG (X.blk s H scope (compEnvC scope cl C X.env) fp) tg (gT P.quiet t)) (ht : ∀ (s : Shared) (H : Hp) (C : Addr) (cl : List (Str × Addr)) (fp : List Addr), PTs (X.blk s H scope (compEnvC scope cl C X.env) fp) ifs (tT P.quiet mt))
    (he : ∀ (s : Shared) (H : Hp) (C : Addr) (cl : List (Str × Addr)) (fp : List Addr), PE (X.blk s H scope (compEnvC scope cl C X.env) fp) elt (tE P.quiet me)) (hs : ∀ x, foldedSetIterable iter X.env x = pure x) (hv : ∀ i ∈ t.slots, i ∈ own.map (·.2)) :
    PE X (.ListComp elt [⟨tg, iter, ifs, 0⟩] scope pos) (tE P (eLc mi t mt me (own.map (·.2)))) :=
  (dn_lc hc hN hi ok hg ht he hs hv).of (tE_of_tN (P := P) fun _ _ _ q => q)
theorem de_v {i : Nat} {x : Str} (hN : X.N[i]? = some x) (hv : Vis X.env.scope x) (hd : (x == ("__debug__" : Str)) = false := by decide) (hcd : (x == ("__classdict__" : Str)) = false := by decide) : PE X (.Name x pos) (tE P (eVar i)) :=
  de_var hN hv (fun σ h => by rw [h]; exact (List.getElem?_eq_some_iff.mp hN).1) hd hcd
/-- units for repr -/
theorem room_u64 {k : Nat} {A : Around} (r : Room k A) : A.units + 64 < cLine := by have := r.un; omega
theorem room_u {k : Nat} {A : Around} (r : Room k A) : A.units + 200 < cLine := by have := r.un; omega
theorem gl_of {X : Cx} {x : Str} {sc : Scope} (h : sc.names.lookup x = some .globalImplicit) (e : X.env.scope = sc) : Gl X x := by
  subst e; exact h
/-- the answers of isinstance for a built-in type -/
def isTy (t : String) : D → Option Bool := fun d => kitB (tyD d) t
theorem paired_len {α β : Type} {r : α → β → Prop} : ∀ {xs : List α} {ys : List β}, Paired r xs ys → xs.length = ys.length
  | _, _, .nil => rfl
  | _, _, .cons _ t => by rw [List.length_cons, List.length_cons, paired_len t]
theorem paired_at {α β : Type} {r : α → β → Prop} : ∀ {xs : List α} {ys : List β} {i : Nat} {x : α}, Paired r xs ys → xs[i]? = some x → ∃ y, ys[i]? = some y ∧ r x y
  | _, _, _, _, .nil, e => by simp at e
  | _, _, 0, _, .cons h _, e => by simp at e; subst e; exact ⟨_, rfl, h⟩
  | _, _, i + 1, _, .cons _ t, e => by
    obtain ⟨y, e1, h1⟩ := paired_at (i := i) t (by simpa using e)
    exact ⟨y, by simpa using e1, h1⟩
theorem paired_perm {α β : Type} {r : α → β → Prop} {xs : List α} {ys : List β} (h : Paired r xs ys) : ∀ π : List Nat, Paired r (permR π xs) (permR π ys)
  | [] => .nil
  | i :: π => by
    have ih := paired_perm h π
    show Paired r ((i :: π).filterMap fun i => xs[i]?) ((i :: π).filterMap fun i => ys[i]?)
    cases e : xs[i]? with
    | none =>
      have e2 : ys[i]? = none := by
        rw [List.getElem?_eq_none_iff] at e ⊢
        rw [← paired_len h]; exact e
      rw [List.filterMap_cons_none e, List.filterMap_cons_none e2]
      exact ih
    | some x =>
      obtain ⟨y, e2, hr⟩ := paired_at h e
      rw [List.filterMap_cons_some e, List.filterMap_cons_some e2]
      exact .cons hr ih
/-- how a call by names binds: π puts the written values in the parameters' order -/
def KwB (fd : FuncData) (ps ks : List Str) (π : List Nat) : Prop := ∀ (s : Shared) (ws : List Value), ws.length = ks.length → BindsTo s fd ⟨[], ks.zip ws⟩ (ps.zip (permR π ws))
theorem kwB_of {K : PySem.W.Frag} {x qual : Str} {st : Stmt} {f : Addr} {fd : FuncData} {ps ks : List Str} {π : List Nat} (F : Fun K x qual st f fd)
    (h : ∀ (kV doc pm : Value) (an : Option Addr) (cdv ct : Value) (ws : List Value), ws.length = ks.length → bindArgs (PySem.W.fnOf x qual (defArgs st) (defBody st) (defScope st) .none kV doc pm an cdv ct) ⟨[], ks.zip ws⟩ = pure (ps.zip (permR π ws))) : KwB fd ps ks π := by
  obtain ⟨oc, od, kV, doc, pm, an, cdv, ct, osl, rfl, lk, hcd⟩ := F.ex
  exact fun s ws hl => .of_eq (h kV doc pm an cdv ct ws hl)
theorem de_kw {n nk k : Nat} {π : List Nat} {f : Fsp} {ms : M (List DR)} {x : Str} {p : Pos} {fa : Addr} {fd : FuncData} {ps ks : List Str} {kws : List Keyword} (F : FnOkG X.prog X.w X.K X.mg X.base (L2.CX X.prog X.w) k fa fd ps (spD P.K false n f)) (hr : Room k X.A) (hG : X.A.guards = some []) (hg : Gl X x) (hm : X.mg x = some (.ref fa)) (hk : PySem.W.keepIn X.K (.ref fa) = true)
    (hb : KwB fd ps ks π) (tk : Takes X P.W) (hkw : PK X kws (tA P ms)) (hl : ALen ms nk) (hkl : ks.length = nk) (hπ : ∀ (vs : List V), vs.length = nk → (permR π vs).length = n) (hall : (backToKw pos (keywordEach kws X.env)).all (·.1.isSome) = true) (hks : (backToKw pos (keywordEach kws X.env)).filterMap (·.1) = ks)
    (hdb : (x == ("__debug__" : Str)) = false) (hpl : ((backTo pos (starEach [] X.env)).any (·.1) || (backToKw pos (keywordEach kws X.env)).any (·.1.isNone)) = false) :
    PE X (.Call (.Name x p) [] kws pos) (tE P (eCallK π f ms)) := by
  refine ⟨fun pins s σ H Q I h => ?_⟩
  have h2 : (fun σ H Q => (tA P ms) σ H fun zs H2 => zs.length = nk ∧ spD P.K false n f (permR π zs) H2 Q (WE P.W σ)) σ H Q := by
    have h3 := tE_callK (P := P) hl hπ σ H Q h
    obtain ⟨c, F0, τ, ρ, R, q⟩ := h3
    refine ⟨c, F0, τ, ρ, R, ?_⟩
    match z : ms ρ with
    | none => rw [z] at q; exact q
    | some (.error x, ρ1) => rw [z] at q; exact q
    | some (.ok rs, ρ1) =>
      rw [z] at q
      exact fun F1 H1 s1 R1 vs hvs => ⟨by rw [paired_len hvs, hl _ _ _ z], q F1 H1 s1 R1 vs hvs⟩
  refine wpAny_Call_Name_kw (ld_glob I hg hm ?_ hdb)
  refine PySem.W.callWith_KW0 (h₀ := X.base) I.ok.mod.kin hk hall ?_ hpl
  refine thn (hkw.run pos pins s σ H _ I h2) fun ws s2 ⟨zs, H2, I2, rz, hz, q2⟩ => ⟨I2.kIn, ?_⟩
  rw [hks]
  have r2 := paired_perm rz π
  refine wpAny_call (codeAny_mono (F.run X.A X.stack s2 H2 ⟨[], ks.zip ws⟩ (permR π ws) (permR π zs) Q _ hr hG I2.env0 (hb s2 ws (by rw [← paired_len rz, hz, hkl])) r2 q2) fun r s' hq => ?_)
  cases r with
  | error e => exact passAt tk σ pins H2 s2 e s' I2 hq
  | ok fl =>
    cases fl with
    | ret u => exact I2.after hq
    | next => exact False.elim hq
    | brk => exact False.elim hq
    | cont => exact False.elim hq
/-- == of texts of any signs, of other data -/
def eqX : D → D → Option D
  | .str x, .str y => some (.bool (x == y))
  | d, e => eqD d e
def neX : D → D → Option D
  | .str x, .str y => some (.bool (!(x == y)))
  | d, e => neD d e
theorem opd_eqX (hK : P.K.K = X.K) : OpD X P (fun x y H Q => rEq x y H Q ∨ rEqD X.K x y H Q) eqX := by
  intro c F H L ρ x y d e z Q R n1 n2 hz q
  unfold eqX at hz
  split at hz
  · rename_i a b
    cases wid hz
    rw [n1.str, n2.str]
    refine .inl ⟨rfl, ?_⟩
    rw [dec_str]
    exact q F H _ (Same.refl F) R (.bl _)
  · exact .inr (opd_eq hK c F H L ρ x y d e z Q R n1 n2 hz q)
theorem opd_neX (hK : P.K.K = X.K) : OpD X P (fun x y H Q => rNe x y H Q ∨ rNeD X.K x y H Q) neX := by
  intro c F H L ρ x y d e z Q R n1 n2 hz q
  unfold neX at hz
  split at hz
  · rename_i a b
    cases wid hz
    rw [n1.str, n2.str]
    refine .inl ⟨rfl, ?_⟩
    rw [dec_str]
    exact q F H _ (Same.refl F) R (.bl _)
  · exact .inr (opd_ne hK c F H L ρ x y d e z Q R n1 n2 hz q)
end
end DL

set_option Elab.async false
set_option linter.all false
set_option maxRecDepth 100000
set_option maxHeartbeats 4000000
/-! DX7: slices; in, not in; loops over zip, enumerate. -/
namespace DL
open PySem PySem.Spec PyProof.Rows L2 RZ

section
variable {X : Cx} {P : Ps} {a b e : Expr} {pos p2 : Pos}
/-! ### parts of slices -/
def intOf : D → Option Int
  | .int i => some i
  | _ => none
def mPart : Option (M DR) → M (Option Int)
  | none => M.ok none
  | some m => M.bind m fun r => M.bind (rd r) fun d => M.bind (M.opt (intOf d)) fun i => M.ok (some i)
def tO (P : Ps) (m : M (Option Int)) : TO := fun σ H Q => ∃ c F τ ρ, Rl P.K c F ρ (σ ++ τ) H ∧ Ho P c F σ τ (m ρ) fun o _ _ H' => Q o H'
theorem _root_.L2.PO.of {X : Cx} {e : Option Expr} {t t' : TO} (h : PO X e t) (w : ∀ σ H Q, t' σ H Q → t σ H Q) : PO X e t' :=
  ⟨fun pins s σ H Q I q => h.run pins s σ H Q I (w σ H Q q)⟩
theorem dp_none : PO X none (tO P (mPart none)) := po_none.of fun σ H Q ⟨_, _, _, _, R, q⟩ => Ho.now q R
theorem dp_some {m : M DR} (h : PE X e (tE P m)) : PO X (some e) (tO P (mPart (some m))) := (po_some h).of fun σ H Q ⟨c, F, τ, ρ, R, q⟩ =>
  ⟨c, F, τ, ρ, R, (Ho.bind q).mono fun r ρ1 F1 H1 s1 R1 q1 v hv => by
    obtain ⟨d, q2, n⟩ := Ho.now1 q1 R1 hv
    obtain ⟨i, ei, q3⟩ := Ho.opt (H := H1) q2
    cases d with
    | int j =>
      obtain rfl := Option.some.inj ei
      exact ⟨j, n.int, Ho.now q3 R1⟩
    | _ => cases ei⟩
/-! ### a[lo:hi] -/
def cutD (ds : List D) (lo hi : Option Int) : List D := (ds.drop (HT.sIx ds.length 0 lo)).take (HT.sIx ds.length ds.length hi - HT.sIx ds.length 0 lo)
def slF (d : D) (lo hi : Option Int) : Option D := match d with
  | .list ds => some (.list (cutD ds lo hi))
  | .tuple ds => some (.tuple (cutD ds lo hi))
  | _ => none
theorem cut_rp {K : Frag} {F : Hp} {xs : List V} {ds : List D} (lo hi : Option Int) (r : RpAll K F xs ds) : RpAll K F (cutV xs lo hi) (cutD ds lo hi) := by
  unfold cutV cutD
  rw [r.length]
  exact (r.drop _).take _
theorem cutD_whole {ds : List D} {lo hi : Option Int} (h : HT.sIx ds.length 0 lo = 0 ∧ HT.sIx ds.length ds.length hi = ds.length) : cutD ds lo hi = ds := by
  unfold cutD
  rw [h.1, h.2, List.drop_zero, Nat.sub_zero, List.take_length]
def eSl (m : M DR) (ml mh : M (Option Int)) : M DR := M.bind m fun x => M.bind ml fun lo => M.bind mh fun hi => M.bind (rd x) fun d => M.bind (M.opt (slF d lo hi)) fun z => M.ok (.dat z)
theorem tE_sl {m : M DR} {ml mh : M (Option Int)} (hK : P.K.K = X.K) (σ : L2.St) (H : Hp) (Q : VK) (q : tE P (eSl m ml mh) σ H Q) :
    tSl (fun x lo hi H Q => rSlL X.K x lo hi H Q ∨ rSlA X.K x lo hi H Q) (tE P m) (tO P ml) (tO P mh) σ H Q := by
  obtain ⟨c, F, τ, ρ, R, q⟩ := q
  refine ⟨c, F, τ, ρ, R, (Ho.bind q).mono fun x ρ1 F1 H1 s1 R1 q1 v hv => ?_⟩
  refine ⟨c, F1, τ, ρ1, R1, (Ho.bind q1).mono fun lo ρ2 F2 H2 s2 R2 q2 => ?_⟩
  refine ⟨c, F2, τ, ρ2, R2, (Ho.bind q2).mono fun hi ρ3 F3 H3 s3 R3 q3 => ?_⟩
  obtain ⟨d, q4, n⟩ := Ho.now1 q3 R3 ((hv.mono s2).mono s3)
  obtain ⟨z, ez, q5⟩ := Ho.opt (H := H3) q4
  cases d with
  | list ds =>
    obtain rfl := Option.some.inj ez
    obtain ⟨a1, ws, rfl, h1, r1⟩ := n.list R3.sub
    refine .inl ⟨a1, ws, rfl, hK ▸ h1, fun p hp => ?_⟩
    have up : Same F3 (upd F3 p (.lst (cutV ws lo hi))) := Same.upd (fresh_of R3 hp)
    exact q5 _ _ up (R3.new hp) _ (.lst (.inl (.inl upd_same)) ((cut_rp lo hi r1).mono up))
  | tuple ds =>
    obtain rfl := Option.some.inj ez
    obtain ⟨a1, ws, rfl, h1, h2, r1⟩ := n.tuple R3.sub
    refine .inr ⟨a1, ws, rfl, hK ▸ h1, fun w => ?_, fun _ p hp => ?_⟩
    · rw [r1.length] at w
      exact q5 _ _ (Same.refl _) R3 _ (by rw [cutD_whole w]; exact .tup h2 r1)
    · have up : Same F3 (upd F3 p (.tup (cutV ws lo hi))) := Same.upd (fresh_of R3 hp)
      exact q5 _ _ up (R3.new hp) _ (.tup (.inl (.inl upd_same)) ((cut_rp lo hi r1).mono up))
  | _ => cases ez
theorem de_sl {lo hi : Option Expr} {m : M DR} {ml mh : M (Option Int)} (hK : P.K.K = X.K) (ha : PE X a (tE P m)) (hl : PO X lo (tO P ml)) (hh : PO X hi (tO P mh)) :
    PE X (.Subscript a (.Slice lo hi none p2) pos) (tE P (eSl m ml mh)) := (pe_slice (sl_list.or sl_tupA) ha hl hh).of (tE_sl hK)
/-! ### in, not in, of a list -/
def inD (d e : D) : Option D := match e with
  | .list ds => if SeqAt.shaped d && SeqAt.shaped (.list ds) then some (.bool (ds.any fun z => PyData.eqv z d)) else none
  | _ => none
def ninD (d e : D) : Option D := match e with
  | .list ds => if SeqAt.shaped d && SeqAt.shaped (.list ds) then some (.bool (!ds.any fun z => PyData.eqv z d)) else none
  | _ => none
theorem opd_in (hK : P.K.K = X.K) : OpD X P (rInD X.K) inD := by
  intro c F H L ρ x y d e z Q R n1 n2 hz q
  cases e with
  | list ds =>
    unfold inD at hz
    dsimp only at hz
    split at hz
    · rename_i h
      cases wid hz
      obtain ⟨h1, h2⟩ := Bool.and_eq_true_iff.mp h
      exact ⟨d, ds, hK ▸ n1.dp R.sub h1, hK ▸ n2.dp R.sub h2, h1, h2, q F H _ (Same.refl F) R (.bl _)⟩
    · cases hz
  | _ => cases hz
theorem opd_nin (hK : P.K.K = X.K) : OpD X P (rNotInD X.K) ninD := by
  intro c F H L ρ x y d e z Q R n1 n2 hz q
  cases e with
  | list ds =>
    unfold ninD at hz
    dsimp only at hz
    split at hz
    · rename_i h
      cases wid hz
      obtain ⟨h1, h2⟩ := Bool.and_eq_true_iff.mp h
      exact ⟨d, ds, hK ▸ n1.dp R.sub h1, hK ▸ n2.dp R.sub h2, h1, h2, q F H _ (Same.refl F) R (.bl _)⟩
    · cases hz
  | _ => cases hz
theorem room_u65 {k : Nat} {A : Around} (r : Room k A) : A.units + 65 < cLine := by have := r.un; omega
end
/-! ### zip, enumerate -/
def zipD : List D → List D → List D
  | d :: ds, e :: es => .tuple [d, e] :: zipD ds es
  | _, _ => []
theorem zipD_length : ∀ (ds es : List D), (zipD ds es).length = min ds.length es.length
  | [], _ => by simp [zipD]
  | _ :: _, [] => by simp [zipD]
  | _ :: ds, _ :: es => by rw [zipD, List.length_cons, zipD_length ds es, List.length_cons, List.length_cons]; omega
theorem zipD_get : ∀ {ds es : List D} {i : Nat} {d e : D}, ds[i]? = some d → es[i]? = some e → (zipD ds es)[i]? = some (.tuple [d, e])
  | _ :: _, _ :: _, 0, _, _, h1, h2 => by cases h1; cases h2; rfl
  | _ :: ds, _ :: es, i + 1, d, e, h1, h2 => zipD_get (ds := ds) (es := es) (i := i) (d := d) (e := e) h1 h2
  | [], _, _, _, _, h1, _ => nomatch h1
  | _ :: _, [], _, _, _, _, h2 => nomatch h2
def enumD : Nat → List D → List D
  | _, [] => []
  | k, d :: ds => .tuple [.int (k : Nat), d] :: enumD (k + 1) ds
theorem enumD_length : ∀ (k : Nat) (ds : List D), (enumD k ds).length = ds.length
  | _, [] => rfl
  | k, _ :: ds => by rw [enumD, List.length_cons, enumD_length (k + 1) ds, List.length_cons]
theorem enumD_get : ∀ {k : Nat} {ds : List D} {i : Nat} {d : D}, ds[i]? = some d → (enumD k ds)[i]? = some (.tuple [.int ((k + i : Nat) : Int), d])
  | _, _ :: _, 0, _, h => by cases h; rfl
  | k, _ :: ds, i + 1, _, h => by
    have q := enumD_get (k := k + 1) (show ds[i]? = _ from h)
    rw [show k + 1 + i = k + (i + 1) by omega] at q
    exact q
  | _, [], _, _, h => nomatch h
theorem walkD_zip {K : Frag} {F : Hp} {a b : Addr} {xs ys : List V} {ds es : List D} (h1 : SqL K.K F a xs) (h2 : SqL K.K F b ys) (r1 : RpAll K F xs ds) (r2 : RpAll K F ys es) : WalkD K F (Itz K.K a b) (zipD ds es) where
  go i H1 s hi := by
    rw [zipD_length] at hi
    obtain ⟨x, ex, _⟩ := r1.get (List.getElem?_eq_getElem (show i < ds.length by omega))
    obtain ⟨y, ey, _⟩ := r2.get (List.getElem?_eq_getElem (show i < es.length by omega))
    exact ⟨xs, ys, x, y, sql_mono s h1, sql_mono s h2, ex, ey⟩
  stop i H1 s hi := by
    rw [zipD_length] at hi
    exact ⟨xs, ys, sql_mono s h1, sql_mono s h2, by rw [r1.length, r2.length]; omega⟩
  yld i H1 x H2 s hi y := by
    obtain ⟨T, u, v, rfl, fresh, rfl, q1, q2⟩ := y
    obtain ⟨d, ed, rd⟩ := r1.get' (q1 xs (sql_mono s h1))
    obtain ⟨e, ee, re⟩ := r2.get' (q2 ys (sql_mono s h2))
    exact ⟨_, zipD_get ed ee, .inr ⟨T, _, _, rfl, fresh, rfl, rfl, .cons rd (.cons re .nil)⟩⟩
theorem walkD_zipT {K : Frag} {F : Hp} {a b : Addr} {xs ys : List V} {ds es : List D} (h1 : SqT K.K F a xs) (h2 : SqT K.K F b ys) (r1 : RpAll K F xs ds) (r2 : RpAll K F ys es) : WalkD K F (ItzT K.K a b) (zipD ds es) where
  go i H1 s hi := by
    rw [zipD_length] at hi
    obtain ⟨x, ex, _⟩ := r1.get (List.getElem?_eq_getElem (show i < ds.length by omega))
    obtain ⟨y, ey, _⟩ := r2.get (List.getElem?_eq_getElem (show i < es.length by omega))
    exact ⟨xs, ys, x, y, sqt_mono s h1, sqt_mono s h2, ex, ey⟩
  stop i H1 s hi := by
    rw [zipD_length] at hi
    exact ⟨xs, ys, sqt_mono s h1, sqt_mono s h2, by rw [r1.length, r2.length]; omega⟩
  yld i H1 x H2 s hi y := by
    obtain ⟨T, u, v, rfl, fresh, rfl, q1, q2⟩ := y
    obtain ⟨d, ed, rd⟩ := r1.get' (q1 xs (sqt_mono s h1))
    obtain ⟨e, ee, re⟩ := r2.get' (q2 ys (sqt_mono s h2))
    exact ⟨_, zipD_get ed ee, .inr ⟨T, _, _, rfl, fresh, rfl, rfl, .cons rd (.cons re .nil)⟩⟩
theorem walkD_enum {K : Frag} {F : Hp} {a : Addr} {xs : List V} {ds : List D} (h : SqL K.K F a xs) (r : RpAll K F xs ds) : WalkD K F (Ite K.K a) (enumD 0 ds) where
  go i H1 s hi := by
    rw [enumD_length] at hi
    obtain ⟨x, ex, _⟩ := r.get (List.getElem?_eq_getElem hi)
    exact ⟨xs, x, sql_mono s h, ex⟩
  stop i H1 s hi := by
    rw [enumD_length] at hi
    exact ⟨xs, sql_mono s h, by rw [r.length]; exact hi⟩
  yld i H1 x H2 s hi y := by
    obtain ⟨T, u, rfl, fresh, rfl, q⟩ := y
    obtain ⟨d, ed, rd⟩ := r.get' (q xs (sql_mono s h))
    have z := enumD_get (k := 0) ed
    rw [Nat.zero_add] at z
    exact ⟨_, z, .inr ⟨T, _, _, rfl, fresh, rfl, rfl, .cons (.int _) (.cons rd .nil)⟩⟩
def zipF : List D → Option (List D)
  | [.list ds, .list es] => some (zipD ds es)
  | [.tuple ds, .tuple es] => some (zipD ds es)
  | _ => none
def enumF : List D → Option (List D)
  | [.list ds] => some (enumD 0 ds)
  | _ => none
def iZip (ms : M (List DR)) : M (List D) := M.bind ms fun rs => M.bind (frzAll rs) fun ds => M.opt (zipF ds)
def iEnm (ms : M (List DR)) : M (List D) := M.bind ms fun rs => M.bind (frzAll rs) fun ds => M.opt (enumF ds)
section
variable {X : Cx} {P : Ps} {e e2 : Expr} {p pos tpos : Pos} {elts : List Expr} {kk : Nat} {ms : M (List DR)}
theorem Ho.optEnd {α : Type} {c : Ct} {F H : Hp} {σ : L2.St} {τ : List (Option V)} {o : Option α} {ρ : List DV} {Φ : α → List DV → Hp → Hp → Prop} (h : Ho P c F σ τ (M.opt o ρ) Φ) (R : Rl P.K c F ρ (σ ++ τ) H) : ∃ z, o = some z ∧ Φ z ρ F H := by
  cases o with
  | none => exact (show False from h).elim
  | some z => exact ⟨z, rfl, h F H (Same.refl F) R⟩
theorem di_zip (hK : P.K.K = X.K) (hg : Gl X "zip") (hm : X.mg "zip" = none) (ha : PA X [e, e2] (tA P ms)) (hs : starEach [e, e2] X.env = (false, eval e X.env) :: starEach [e2] X.env) (hpl : (backTo pos (starEach [e2] X.env)).any (·.1) = false) :
    PI X (.Tuple elts kk tpos) (.Call (.Name "zip" p) [e, e2] [] pos) (tI P (iZip ms)) := (pi_zipA hg hm ha hs hpl).of fun σ H R ⟨c, F, τ, ρ, Rr, q⟩ => by
  refine ⟨c, F, τ, ρ, Rr, (Ho.bind q).mono fun rs ρ1 F1 H1 s1 R1 q1 vs hvs => ?_⟩
  obtain ⟨ds, F2, ρ2, s2, R2, r2, q2⟩ := Ho.frzAll q1 R1 hvs
  obtain ⟨z, ez, q3⟩ := Ho.optEnd q2 R2
  unfold zipF at ez
  split at ez
  · obtain rfl := Option.some.inj ez
    match r2 with
    | .cons (.lst h1 a1) (.cons (.lst h2 a2) .nil) =>
      exact ⟨_, _, _, _, rfl, .inl ⟨hK ▸ sql_mono R2.sub h1, hK ▸ sql_mono R2.sub h2, q3 _ (hK ▸ walkD_zip h1 h2 a1 a2)⟩⟩
  · obtain rfl := Option.some.inj ez
    match r2 with
    | .cons (.tup h1 a1) (.cons (.tup h2 a2) .nil) =>
      exact ⟨_, _, _, _, rfl, .inr ⟨hK ▸ sqt_mono R2.sub h1, hK ▸ sqt_mono R2.sub h2, q3 _ (hK ▸ walkD_zipT h1 h2 a1 a2)⟩⟩
  · cases ez
theorem di_enum (hK : P.K.K = X.K) (hg : Gl X "enumerate") (hm : X.mg "enumerate" = none) (ha : PA X [e] (tA P ms)) (hs : starEach [e] X.env = [(false, eval e X.env)]) :
    PI X (.Tuple elts kk tpos) (.Call (.Name "enumerate" p) [e] [] pos) (tI P (iEnm ms)) := (pi_enum hg hm ha hs).of fun σ H R ⟨c, F, τ, ρ, Rr, q⟩ => by
  refine ⟨c, F, τ, ρ, Rr, (Ho.bind q).mono fun rs ρ1 F1 H1 s1 R1 q1 vs hvs => ?_⟩
  obtain ⟨ds, F2, ρ2, s2, R2, r2, q2⟩ := Ho.frzAll q1 R1 hvs
  obtain ⟨z, ez, q3⟩ := Ho.optEnd q2 R2
  unfold enumF at ez
  split at ez
  · obtain rfl := Option.some.inj ez
    match r2 with
    | .cons (.lst h1 a1) .nil =>
      exact ⟨_, _, rfl, hK ▸ sql_mono R2.sub h1, q3 _ (hK ▸ walkD_enum h1 a1)⟩
  · cases ez
end
end DL

set_option Elab.async false
set_option linter.all false
set_option maxRecDepth 100000
set_option maxHeartbeats 4000000
/-! DX8: append, pop of lists that a def owns. -/
namespace DL
open PySem PySem.Spec PyProof.Rows L2

/-- the position holds a list that may be changed -/
def ownAt (p : Nat) : M (List D) := fun ρ => match (ρ[p]?).bind DV.own with
  | some ds => some (.ok ds, ρ)
  | none => none
def eAp (mo me : M DR) : M DR := M.bind mo fun ro => match ro with
  | .loc p => M.bind (ownAt p) fun _ => M.bind me fun r => M.bind (frz r) fun d => M.bind (wrAt p fun ds => if ds.length < 16777216 then some (ds ++ [d]) else none) fun _ => M.ok (.dat .none)
  | _ => M.no
def ePop (mo : M DR) : M DR := M.bind mo fun ro => match ro with
  | .loc p => M.bind (ownAt p) fun ds => M.bind (M.opt ds[ds.length - 1]?) fun d => M.bind (wrAt p fun ds => some ds.dropLast) fun _ => M.ok (.dat d)
  | _ => M.no
section
variable {X : Cx} {P : Ps} {o e : Expr} {apos cpos : Pos} {c : Ct} {F H : Hp} {σ : L2.St} {τ : List (Option V)}
theorem Ho.wrAt {β : Type} {p : Nat} {f : List D → Option (List D)} {k : Unit → M β} {ρ : List DV} {Φ : β → List DV → Hp → Hp → Prop} (h : Ho P c F σ τ (M.bind (DL.wrAt p f) k ρ) Φ) :
    ∃ x ds es, ρ[p]? = some x ∧ x.own = some ds ∧ f ds = some es ∧ Ho P c F σ τ (k () (ρ.set p (x.put es))) Φ := by
  unfold M.bind at h
  cases z : DL.wrAt p f ρ with
  | none => rw [z] at h; exact (show False from h).elim
  | some r =>
    obtain ⟨x, ds, es, h1, h2, h3, rfl⟩ := wrAt_some z
    rw [z] at h
    exact ⟨x, ds, es, h1, h2, h3, h⟩
theorem Ho.ownAt {β : Type} {p : Nat} {k : List D → M β} {ρ : List DV} {Φ : β → List DV → Hp → Hp → Prop} (h : Ho P c F σ τ (M.bind (DL.ownAt p) k ρ) Φ) :
    ∃ x ds, ρ[p]? = some x ∧ x.own = some ds ∧ Ho P c F σ τ (k ds ρ) Φ := by
  unfold M.bind DL.ownAt at h
  cases z : ρ[p]? with
  | none => rw [z] at h; exact (show False from h).elim
  | some x =>
    cases y : x.own with
    | none => rw [z] at h; dsimp only [Option.bind] at h; rw [y] at h; exact (show False from h).elim
    | some ds => rw [z] at h; dsimp only [Option.bind] at h; rw [y] at h; exact ⟨x, ds, rfl, y, h⟩
theorem de_app {mo me : M DR} (hK : P.K.K = X.K) (ho : PE X o (tE P mo)) (he : PE X e (tE P me)) (hbase : attributeBase o "append" X.env (eval o X.env) = eval o X.env)
    (hfew : ((backTo cpos (starEach [e] X.env)).all (fun x => !x.1) && (backToKw cpos (keywordEach [] X.env)).all (fun x => x.1.isSome) && decide ([e].length + ([] : List Keyword).length + (if ([] : List Keyword).isEmpty then 0 else 1) < 30)) = true)
    (hline : (apos.endLine == cpos.line) = true) (hs : starEach [e] X.env = (false, eval e X.env) :: starEach [] X.env) (hpl : (backTo cpos (starEach [] X.env)).any (·.1) = false) :
    PE X (.Call (.Attribute o "append" apos) [e] [] cpos) (tE P (eAp mo me)) :=
  (pe_bm PySem.F.plainAttrs_list PySem.F.slot_list_append PySem.F.type_list_append mt_append ho (pa_cons he pa_nil hs) hbase hfew hline hs hpl).of fun σ H Q ⟨c, F, τ, ρ, R, q⟩ => by
    refine ⟨c, F, τ, ρ, R, (Ho.bind q).mono fun ro ρ1 F1 H1 s1 R1 q1 v hv => ?_⟩
    cases ro with
    | dat d => exact (show False from q1).elim
    | exc c d => exact (show False from q1).elim
    | loc p =>
      obtain ⟨x, ds, ex, ox, q2⟩ := Ho.ownAt q1
      obtain ⟨a, xs, e1, _, e3, _⟩ := (R1.slot p x _ ex hv).own ox
      cases e1
      refine ⟨.inl ⟨rfl, xs, hK ▸ .inl (.inl e3)⟩, c, F1, τ, ρ1, R1, (Ho.bind q2).mono fun r ρ2 F2 H2 s2 R2 q3 w hw => ?_⟩
      obtain ⟨d, F3, ρ3, s3, R3, r3, q4⟩ := Ho.frz q3 R2 hw
      obtain ⟨x', es, es', ex', ox', fx, q5⟩ := Ho.wrAt q4
      obtain ⟨a', ys, z1, _, z3, z4⟩ := (R3.slot p x' _ ex' hv).own ox'
      cases z1
      by_cases hl : es.length < 16777216
      · rw [if_pos hl] at fx
        obtain rfl := Option.some.inj fx
        refine ⟨a, ys, w, rfl, rfl, z3, by rw [z4.length, sizeLine_eq]; exact hl, ?_⟩
        exact Ho.now q5 (R3.write ex' ox' hv (z4.append (.one r3))) _ .non
      · rw [if_neg hl] at fx
        cases fx
theorem de_pop {mo : M DR} (hK : P.K.K = X.K) (ho : PE X o (tE P mo)) (hbase : attributeBase o "pop" X.env (eval o X.env) = eval o X.env) (hline : (apos.endLine == cpos.line) = true) :
    PE X (.Call (.Attribute o "pop" apos) [] [] cpos) (tE P (ePop mo)) :=
  (pe_bm0 PySem.F.plainAttrs_list PySem.F.slot_list_pop PySem.F.type_list_pop mt_pop ho hbase hline).of fun σ H Q ⟨c, F, τ, ρ, R, q⟩ => by
    refine ⟨c, F, τ, ρ, R, (Ho.bind q).mono fun ro ρ1 F1 H1 s1 R1 q1 v hv => ?_⟩
    cases ro with
    | dat d => exact (show False from q1).elim
    | exc c d => exact (show False from q1).elim
    | loc p =>
      obtain ⟨x, ds, ex, ox, q2⟩ := Ho.ownAt q1
      obtain ⟨a, xs, e1, _, e3, e4⟩ := (R1.slot p x _ ex hv).own ox
      cases e1
      obtain ⟨d, ed, q3⟩ := Ho.opt (H := H1) q2
      obtain ⟨x', es, es', ex', ox', fx, q5⟩ := Ho.wrAt q3
      cases ex.symm.trans ex'
      cases ox.symm.trans ox'
      obtain rfl := Option.some.inj fx
      obtain ⟨w, ew, rw'⟩ := e4.get ed
      refine ⟨.inl ⟨rfl, xs, hK ▸ .inl (.inl e3)⟩, a, xs, w, rfl, rfl, e3, by rw [e4.length]; exact ew, ?_⟩
      have cut : RpAll P.K F1 xs.dropLast ds.dropLast := by
        rw [List.dropLast_eq_take, List.dropLast_eq_take, e4.length]
        exact e4.take _
      exact Ho.now q5 (R1.write ex ox hv cut) _ rw'
end
end DL

set_option Elab.async false
set_option linter.all false
set_option maxRecDepth 100000
set_option maxHeartbeats 4000000
/-! DX9: x op= e of data; a, b = [..], e with a list of its own. -/
namespace DL
open PySem PySem.Spec PyProof.Rows L2

def sAug (i : Nat) (f : D → D → Option D) (me : M DR) : M Fl := fun ρ => match ρ[i]? with
  | some (.dat d0) => M.bind me (fun r => M.bind (rd r) fun d => M.bind (M.opt (f d0 d)) fun z => M.bind (setD i z) fun _ => M.ok .nx) ρ
  | _ => none
section
variable {X : Cx} {P : Ps} {e : Expr} {pos pos' : Pos}
theorem ds_aug {i : Nat} {x : Str} {op : Operator} {r : R2} {f : D → D → Option D} {me : M DR} (hop : OpR X (inplaceOp op) r) (hd : OpD X P r f) (hN : X.N.Nodup) (hi : X.N[i]? = some x) (hx : Loc X.env.scope x) (he : PE X e (tE P me))
    (hf : X.fn x = true ∨ X.env.scope.names.lookup x = some .local) : PS X (.AugAssign (.Name x pos') op e pos) (tS P (sAug i f me)) := (ps_aug hN hi hx he (show PIp X op r from hop) hf).of fun De σ H ⟨c, F, ρ, R, q⟩ => by
  unfold sAug at q
  cases z : ρ[i]? with
  | none => rw [z] at q; exact (show False from q).elim
  | some y =>
    rw [z] at q
    cases y with
    | dat d0 =>
      have hl : i < σ.length := by rw [← R.len]; exact (List.getElem?_eq_some_iff.mp z).1
      obtain ⟨x0, e0, r0⟩ := R.slot i _ _ z (List.getElem?_eq_getElem hl)
      refine ⟨x0, (List.getElem?_eq_getElem hl).trans (congrArg some e0), c, F, [], ρ, nilτ R, (HoS.bind σ q).mono fun w ρ1 F1 H1 s1 R1 q1 v hv => ?_⟩
      have q1' : Ho P c F1 σ [] (M.bind (rd w) (fun d => M.ok d) ρ1) fun d ρ2 F2 _ => HoS P c F2 (M.bind (M.opt (f d0 d)) (fun z => M.bind (setD i z) fun _ => M.ok .nx) ρ2) De := by
        have e1 : M.bind (rd w) (fun d => M.ok d) ρ1 = rd w ρ1 := by
          unfold M.bind
          cases rd w ρ1 with
          | none => rfl
          | some o => obtain ⟨o, r⟩ := o; cases o <;> rfl
        rw [e1]
        exact HoS.bind σ q1
      obtain ⟨d, q2, n⟩ := Ho.now1 q1' R1 hv
      have q3 := Ho.now q2 R1
      cases ez : f d0 d with
      | none => rw [ez] at q3; exact (show False from q3).elim
      | some zz =>
        rw [ez] at q3
        refine hd c F1 H1 (σ ++ []) ρ1 x0 v d0 d zz _ R1 (.dat (r0.mono s1)) n ez fun F2 H2 u s2 R2 ru => ?_
        obtain ⟨ρ3, R3, q4⟩ := HoS.setD (HoS.from q3 s2) (nilτ' R2) ru
        exact q4 _ F2 H2 (Same.refl _) R3
    | _ => exact (show False from q).elim
end
/-! ### the operators in place -/
def imulC (i j : Int) : Bool := decide (i.natAbs < 2 ^ 64) || decide (j.natAbs < 2 ^ 64)
def imulD : D → D → Option D := intOp imulC fun i j => .int (i * j)
def iaddD : D → D → Option D := intOp (fun _ _ => true) fun i j => .int (i + j)
theorem opd_imul {X : Cx} {P : Ps} : OpD X P (rI CMul fun i j => .int (i * j)) imulD := opd_int (fun i j h => by
  unfold imulC at h
  rw [Bool.or_eq_true] at h
  rcases h with h | h
  · exact .inl ⟨by have := of_decide_eq_true h; omega, by have := of_decide_eq_true h; omega⟩
  · exact .inr ⟨by have := of_decide_eq_true h; omega, by have := of_decide_eq_true h; omega⟩) fun _ _ _ => .int _
theorem opd_iadd {X : Cx} {P : Ps} : OpD X P (rI0 fun i j => .int (i + j)) iaddD := opd_int0 fun _ _ _ => .int _
/-! ### a, b = [..], e -/
/-- a step that must not raise -/
def calmly {α : Type} (m : M α) : M α := fun ρ => match m ρ with
  | some (.ok a, ρ') => some (.ok a, ρ')
  | _ => none
def sPN (i j : Nat) (mn : M Unit) (me : M DR) : M Fl := M.bind mn fun _ => M.bind (calmly me) fun r => M.bind (frz r) fun d => M.bind (setD j d) fun _ => M.bind (popTo i) fun _ => M.ok .nx
section
variable {X : Cx} {P : Ps} {a b : Expr} {pos : Pos}
theorem HoS.calm {α : Type} {c : Ct} {F : Hp} {m : M α} {k : α → M Fl} {ρ : List DV} {De : Ends} (σ : L2.St) (τ : List (Option V)) (h : HoS P c F (M.bind (calmly m) k ρ) De) : Ho P c F σ τ (m ρ) fun a ρ1 F1 _ => HoS P c F1 (k a ρ1) De := by
  unfold M.bind calmly at h
  match q : m ρ with
  | none => rw [q] at h; exact h
  | some (.ok a, ρ1) => rw [q] at h; exact fun F1 _ s _ => HoS.from h s
  | some (.error x, ρ1) => rw [q] at h; exact (show False from h).elim
theorem ds_parN {i j : Nat} {x y : Str} {px py pt : Pos} {kt k2 pt2} {mn : M Unit} {me : M DR} (hc : X.calm = true) (hN : X.N.Nodup) (hi : X.N[i]? = some x) (hj : X.N[j]? = some y) (hij : i ≠ j)
    (hx : X.env.scope.names.lookup x = some .local) (hy : X.env.scope.names.lookup y = some .local) (ha : PE X a (tN P mn)) (hb : PE X b (tE P me))
    (hs1 : starEach [a, b] X.env = (false, eval a X.env) :: starEach [b] X.env) (hs2 : starEach [b] X.env = (false, eval b X.env) :: starEach [] X.env)
    (hw : swappedStores [.Tuple [.Name x px, .Name y py] kt pt] (.Tuple [a, b] k2 pt2) X.env = pure (some [x, y]))
    (hs : swapsWithSole [.Tuple [.Name x px, .Name y py] kt pt] (.Tuple [a, b] k2 pt2) pos.line X.env = pure false) :
    PS X (.Assign [.Tuple [.Name x px, .Name y py] kt pt] (.Tuple [a, b] k2 pt2) pos) (tS P (sPN i j mn me)) :=
  (ps_par hc hN hi hj hij hx hy (pa_cons ha (pa_cons hb pa_nil hs2) hs1) hw hs).ofL fun De σ H len ⟨c, F, ρ, R, q⟩ => by
  have jl : j < σ.length := by rw [len]; exact (List.getElem?_eq_some_iff.mp hj).1
  refine ⟨c, F, [], ρ, nilτ R, ?_⟩
  unfold sPN at q
  match z : mn ρ with
  | none => unfold M.bind at q; rw [z] at q; exact q
  | some (.error e, ρ1) => unfold M.bind at q; rw [z] at q; exact q σ
  | some (.ok u, ρ1) =>
    have q1 : HoS P c F (M.bind (calmly me) (fun r => M.bind (frz r) fun d => M.bind (setD j d) fun _ => M.bind (popTo i) fun _ => M.ok .nx) ρ1) De := by
      rw [show M.bind mn _ ρ = _ from rfl] at q
      unfold M.bind at q
      rw [z] at q
      exact q
    intro F1 H1 v s1 R1
    rw [List.append_nil] at R1
    refine ⟨c, F1, [some v], ρ1, R1, (HoS.calm σ [some v] (HoS.from q1 s1)).mono fun r ρ2 F2 H2 s2 R2 q2 w hw' => ⟨v, w, rfl, ?_⟩⟩
    obtain ⟨d, F3, ρ3, s3, R3, r3, q3, _⟩ := HoS.frz q2 R2 hw'
    obtain ⟨ρ4, R4, q4⟩ := HoS.setD q3 R3 r3
    rw [List.set_append_left _ _ jl] at R4
    unfold M.bind at q4
    cases y2 : popTo i ρ4 with
    | none => rw [y2] at q4; exact (show False from q4).elim
    | some o =>
      obtain ⟨ρ5, rfl, R5⟩ := popTo_rl y2 R4
      rw [y2] at q4
      rw [List.set_comm _ _ (Ne.symm hij)] at R5
      exact q4 _ F3 H2 (Same.refl _) R5
end
end DL

set_option Elab.async false
set_option linter.all false
set_option maxRecDepth 100000
set_option maxHeartbeats 4000000
/-! DX10: extend of a list that a def owns by a list made anew. -/
namespace DL
open PySem PySem.Spec PyProof.Rows L2

/-- the last temporary goes to the end of the list at p -/
def extAt (p : Nat) : M DR := fun ρ => match ρ.getLast? with
  | some (.lst es) => match ρ.dropLast[p]? with
    | some x => match x.own with
      | some ds => if ds.length + es.length ≤ 16777216 then some (.ok (.dat .none), ρ.dropLast.set p (x.put (ds ++ es))) else none
      | none => none
    | none => none
  | _ => none
theorem extAt_some {p : Nat} {ρ : List DV} {o : Except Ex DR × List DV} (h : extAt p ρ = some o) :
    ∃ ys es x ds, ρ = ys ++ [.lst es] ∧ ys[p]? = some x ∧ x.own = some ds ∧ ds.length + es.length ≤ 16777216 ∧ o = (.ok (.dat .none), ys.set p (x.put (ds ++ es))) := by
  unfold extAt at h
  split at h
  · rename_i es hl
    obtain ⟨ys, rfl⟩ := List.getLast?_eq_some_iff.mp hl
    rw [List.dropLast_concat] at h
    split at h
    · rename_i x hx
      split at h
      · rename_i ds hd
        split at h
        · rename_i hz
          exact ⟨ys, es, x, ds, rfl, hx, hd, hz, (Option.some.inj h).symm⟩
        · cases h
      · cases h
    · cases h
  · cases h
def eExt (mo : M DR) (mn : M Unit) : M DR := M.bind mo fun ro => match ro with
  | .loc p => M.bind (ownAt p) fun _ => M.bind mn fun _ => extAt p
  | _ => M.no
section
variable {X : Cx} {P : Ps} {o e : Expr} {apos cpos : Pos}
theorem de_ext {mo : M DR} {mn : M Unit} (hK : P.K.K = X.K) (ho : PE X o (tE P mo)) (he : PE X e (tN P mn)) (hbase : attributeBase o "extend" X.env (eval o X.env) = eval o X.env)
    (hfew : ((backTo cpos (starEach [e] X.env)).all (fun x => !x.1) && (backToKw cpos (keywordEach [] X.env)).all (fun x => x.1.isSome) && decide ([e].length + ([] : List Keyword).length + (if ([] : List Keyword).isEmpty then 0 else 1) < 30)) = true)
    (hline : (apos.endLine == cpos.line) = true) (hs : starEach [e] X.env = (false, eval e X.env) :: starEach [] X.env) (hpl : (backTo cpos (starEach [] X.env)).any (·.1) = false) :
    PE X (.Call (.Attribute o "extend" apos) [e] [] cpos) (tE P (eExt mo mn)) :=
  (pe_bm PySem.F.plainAttrs_list PySem.F.slot_list_extend PySem.F.type_list_extend mt_extend ho (pa_cons he pa_nil hs) hbase hfew hline hs hpl).of fun σ H Q ⟨c, F, τ, ρ, R, q⟩ => by
    refine ⟨c, F, τ, ρ, R, (Ho.bind q).mono fun ro ρ1 F1 H1 s1 R1 q1 v hv => ?_⟩
    cases ro with
    | dat d => exact (show False from q1).elim
    | exc c d => exact (show False from q1).elim
    | loc p =>
      obtain ⟨x, ds, ex, ox, q2⟩ := Ho.ownAt q1
      obtain ⟨a, xs, e1, _, e3, _⟩ := (R1.slot p x _ ex hv).own ox
      cases e1
      refine ⟨.inl ⟨rfl, xs, hK ▸ .inl (.inl e3)⟩, c, F1, τ, ρ1, R1, ?_⟩
      unfold M.bind at q2
      match z : mn ρ1 with
      | none => rw [z] at q2; exact q2
      | some (.error e, ρ2) => rw [z] at q2; exact q2
      | some (.ok u, ρ2) =>
        rw [z] at q2
        intro F2 H2 w s2 R2
        dsimp only at q2
        match y : extAt p ρ2 with
        | none => rw [y] at q2; exact (show False from q2).elim
        | some r =>
          obtain ⟨ys, es, x', ds', rfl, ex', ox', hz, rfl⟩ := extAt_some y
          rw [y] at q2
          have hlen : ys.length = (σ ++ τ).length := by
            have := R2.len
            simp only [List.length_append, List.length_singleton] at this ⊢
            omega
          have pl : p < ys.length := (List.getElem?_eq_some_iff.mp ex').1
          have hv2 : (σ ++ τ ++ [some w])[p]? = some (some (.ref a)) := by rw [List.getElem?_append_left (by rw [← hlen]; exact pl)]; exact hv
          obtain ⟨a', xs', z1, _, z3, z4⟩ := (R2.slot p x' _ (by rw [List.getElem?_append_left pl]; exact ex') hv2).own ox'
          cases z1
          obtain ⟨b, zs, w1, _, w3, w4⟩ := (R2.slot ys.length (.lst es) (some w) (by simp) (by rw [hlen]; simp)).own (ds := es) rfl
          cases w1
          refine ⟨a, b, xs', zs, rfl, rfl, z3, w3, by rw [z4.length, w4.length, sizeLine_eq]; exact hz, ?_⟩
          have R3 := R2.write (by rw [List.getElem?_append_left pl]; exact ex') ox' hv2 (z4.append w4)
          rw [List.set_append_left _ _ pl] at R3
          exact q2 F2 _ s2 (Rl.dropLast R3 (by rw [List.length_set]; exact hlen) rfl) _ .non
end
end DL

set_option Elab.async false
set_option linter.all false
set_option maxRecDepth 100000
set_option maxHeartbeats 4000000
/-! DX11: lists the other way round. -/
namespace DL
open PySem PySem.Spec PyProof.Rows L2
def revD : D → Option D
  | .list ds => some (.list ds.reverse)
  | _ => none
section
variable {X : Cx} {P : Ps} {e : Expr}
theorem de_revL {k : Nat} {p1 p2 p3 pos : Pos} {m : M DR} (hK : P.K.K = X.K) (he : PE X e (tE P m)) : PE X (.Subscript e (.Slice none none (some (.UnaryOp .USub (.Constant (.int 1) k p1) p2)) p3) pos) (tE P (eOp1 revD m)) :=
  (pe_revL he).of (tE_op1 (r := fun x H Q => ∃ a xs, x = .ref a ∧ SqL X.K H a xs ∧ ∀ p, H p = none → Q (.ref p) (upd H p (.lst xs.reverse))) (by
    intro c F H L ρ x d z Q R n hz q
    cases d with
    | list ds =>
      obtain rfl := Option.some.inj hz
      obtain ⟨a, ws, rfl, h1, r1⟩ := n.list R.sub
      refine ⟨a, ws, rfl, hK ▸ h1, fun p hp => ?_⟩
      have up : Same F (upd F p (.lst ws.reverse)) := Same.upd (fresh_of R hp)
      exact q _ _ _ up (R.new hp) (.lst (.inl (.inl upd_same)) (r1.reverse.mono up))
    | _ => cases hz))
end
end DL

set_option Elab.async false
set_option linter.all false
set_option maxRecDepth 100000
set_option maxHeartbeats 4000000
/-! DX12: in, not in of tuples of flat items. -/
namespace DL
open PySem PySem.Spec PyProof.Rows L2
def flatD : D → Bool
  | .none => true
  | .bool _ => true
  | .int _ => true
  | .str _ => true
  | _ => false
def vOf : D → V
  | .bool b => .bl b
  | .int i => .int i
  | .str x => .str x
  | _ => .non
theorem rp_flat {K : Frag} {F : Hp} {v : V} {d : D} (r : Rp K F v d) (f : flatD d = true) : v = vOf d := by
  cases r <;> first | rfl | cases f
theorem flat_vOf {d : D} : flatV (vOf d) = true := by cases d <;> rfl
theorem eqV_vOf {d e : D} (f : flatD d = true) (g : flatD e = true) : eqV (vOf d) (vOf e) = PyData.eqv d e := by
  cases d <;> first | cases f | skip
  all_goals (cases e <;> first | cases g | skip)
  all_goals first
    | rfl
    | simp [vOf, eqV, PyData.eqv]
theorem rp_flats {K : Frag} {F : Hp} : ∀ {vs : List V} {ds : List D}, RpAll K F vs ds → ds.all flatD = true → vs = ds.map vOf
  | _, _, .nil, _ => rfl
  | _, _, .cons r t, f => by
    rw [List.all_cons, Bool.and_eq_true] at f
    rw [rp_flat r f.1, rp_flats t f.2]
    rfl
theorem inV_flats {d : D} (f : flatD d = true) : ∀ {ds : List D}, ds.all flatD = true → inV (vOf d) (ds.map vOf) = ds.any fun z => PyData.eqv z d
  | [], _ => rfl
  | e :: ds, g => by
    rw [List.all_cons, Bool.and_eq_true] at g
    have z := inV_flats f g.2
    unfold inV at z ⊢
    rw [List.map_cons, List.any_cons, List.any_cons, z, eqV_vOf g.1 f]
def inX (d e : D) : Option D := match e with
  | .tuple ds => if flatD d && ds.all flatD then some (.bool (ds.any fun z => PyData.eqv z d)) else none
  | _ => inD d e
def ninX (d e : D) : Option D := match e with
  | .tuple ds => if flatD d && ds.all flatD then some (.bool (!ds.any fun z => PyData.eqv z d)) else none
  | _ => ninD d e
section
variable {X : Cx} {P : Ps}
theorem now_flat {K : Frag} {F H : Hp} {v : V} {d : D} (n : Now K F H v d) (f : flatD d = true) : v = vOf d := by
  cases n with
  | dat h => exact rp_flat h f
  | own e e' => subst e'; cases f
theorem opd_inX (hK : P.K.K = X.K) : OpD X P (fun x y H Q => rInD X.K x y H Q ∨ rIn X.K false x y H Q) inX := by
  intro c F H L ρ x y d e z Q R n1 n2 hz q
  cases e with
  | tuple ds =>
    unfold inX at hz
    dsimp only at hz
    split at hz
    · rename_i h
      cases wid hz
      obtain ⟨h1, h2⟩ := Bool.and_eq_true_iff.mp h
      obtain ⟨a, ws, rfl, q1, _, r1⟩ := n2.tuple R.sub
      obtain rfl := now_flat n1 h1
      obtain rfl := rp_flats r1 h2
      refine .inr ⟨a, _, rfl, .inr (hK ▸ q1), flat_vOf, ?_, ?_⟩
      · rw [List.all_map]
        exact List.all_eq_true.mpr fun _ _ => flat_vOf
      · show Q (.bl (inV (vOf d) (ds.map vOf))) H
        rw [inV_flats h1 h2]
        exact q F H _ (Same.refl F) R (.bl _)
    · cases hz
  | _ => exact .inl (opd_in hK c F H L ρ x y d _ z Q R n1 n2 hz q)
theorem opd_ninX (hK : P.K.K = X.K) : OpD X P (fun x y H Q => rNotInD X.K x y H Q ∨ rIn X.K true x y H Q) ninX := by
  intro c F H L ρ x y d e z Q R n1 n2 hz q
  cases e with
  | tuple ds =>
    unfold ninX at hz
    dsimp only at hz
    split at hz
    · rename_i h
      cases wid hz
      obtain ⟨h1, h2⟩ := Bool.and_eq_true_iff.mp h
      obtain ⟨a, ws, rfl, q1, _, r1⟩ := n2.tuple R.sub
      obtain rfl := now_flat n1 h1
      obtain rfl := rp_flats r1 h2
      refine .inr ⟨a, _, rfl, .inr (hK ▸ q1), flat_vOf, ?_, ?_⟩
      · rw [List.all_map]
        exact List.all_eq_true.mpr fun _ _ => flat_vOf
      · show Q (.bl (!inV (vOf d) (ds.map vOf))) H
        rw [inV_flats h1 h2]
        exact q F H _ (Same.refl F) R (.bl _)
    · cases hz
  | _ => exact .inl (opd_nin hK c F H L ρ x y d _ z Q R n1 n2 hz q)
end
end DL

set_option Elab.async false
set_option linter.all false
set_option maxRecDepth 100000
set_option maxHeartbeats 4000000
/-! DX13: tuples the other way round. -/
namespace DL
open PySem PySem.Spec PyProof.Rows L2
theorem fm_congr {α β : Type} {f g : α → Option β} : ∀ {l : List α}, (∀ x ∈ l, f x = g x) → l.filterMap f = l.filterMap g
  | [], _ => rfl
  | a :: l, h => by rw [List.filterMap_cons, List.filterMap_cons, h a (List.mem_cons_self ..), fm_congr fun x m => h x (List.mem_cons_of_mem _ m)]
theorem back_all (xs : List Value) : (List.range xs.length).filterMap (fun k => xs[xs.length - 1 - k]?) = xs.reverse := by
  have all : ∀ ys : List Value, (List.range ys.length).filterMap (fun k => ys[k]?) = ys := by
    intro ys
    apply List.ext_getElem?
    intro i
    have e : (List.range ys.length).filterMap (fun k => ys[k]?) = (List.range ys.length).filterMap (fun k => some (ys.getD k .none)) := by
      apply fm_congr
      intro k hk
      rw [List.getElem?_eq_getElem (List.mem_range.mp hk), List.getD_eq_getElem?_getD, List.getElem?_eq_getElem (List.mem_range.mp hk)]
      rfl
    rw [e, List.filterMap_eq_map', List.getElem?_map]
    by_cases h : i < ys.length
    · rw [List.getElem?_range h, List.getElem?_eq_getElem h]
      show some (ys.getD i .none) = _
      rw [List.getD_eq_getElem?_getD, List.getElem?_eq_getElem h]
      rfl
    · rw [List.getElem?_eq_none (by rw [List.length_range]; omega), List.getElem?_eq_none (by omega)]
      rfl
  have q := all xs.reverse
  rw [List.length_reverse] at q
  rw [← q]
  apply fm_congr
  intro k hk
  rw [List.getElem?_reverse (List.mem_range.mp hk)]
theorem pick_back (items : Array Value) : ((List.range items.size).filterMap fun (k : Nat) => items[(((items.size : Int) - 1) + (k : Int) * (-1)).toNat]?).toArray = items.toList.reverse.toArray := by
  obtain ⟨xs⟩ := items
  refine congrArg List.toArray (Eq.trans (fm_congr fun k hk => ?_) (back_all xs))
  have e : (((xs.length : Int) - 1) + (k : Int) * (-1)).toNat = xs.length - 1 - k := by
    have := List.mem_range.mp hk
    show _ = _
    omega
  exact (congrArg (fun j : Nat => xs.toArray[j]?) e).trans (by simp)
theorem adjust_back (n : Nat) : Builtin.Slice.sliceAdjust none none (-1) (n : Int) = ((n : Int) - 1, -1) := rfl
theorem places_back (n : Nat) : Builtin.Slice.slicePlaces ((n : Int) - 1) (-1) (-1) = n := by
  unfold Builtin.Slice.slicePlaces
  rw [if_neg (by decide)]
  by_cases h : (n : Int) - 1 > -1
  · rw [if_pos h]
    have : ((n : Int) - 1 - -1 - 1) / (- -1) = (n : Int) - 1 := by
      rw [show (- -1 : Int) = 1 from rfl, Int.ediv_one]
      omega
    rw [this]
    omega
  · rw [if_neg h]
    omega
section
variable {prog : Program} {w : World} {A : Around} {E : Value → Shared → Prop} {s : Shared}
theorem applied_back {sl : Addr} {t : Tok} {n : Nat} {Q : Int × Int × Nat → Shared → Prop} (hs : s.heap.IsSliceOf sl .none .none (.int (-1) t)) (h : Q ((n : Int) - 1, -1, n) s) :
    wpAny (model prog w) A (Builtin.Slice.sliceApplied (.ref sl) (pure (n : Int))) Q E s := by
  obtain ⟨os, hos, hcs, hds⟩ := id hs
  unfold Builtin.Slice.sliceApplied Builtin.Slice.sliceFields
  refine wpAny_bind (wpAny_bind (wpAny_field hos hds (x := .none) rfl (wpAny_bind (wpAny_field hos hds (x := .none) rfl (wpAny_bind (wpAny_field hos hds (x := .int (-1) t) rfl (wpAny_pure ?_)))))))
  refine wpAny_bind (HT.slicePart_ (.int (-1) t) ?_)
  show wpAny _ _ (if ((-1 : Int) == 0) = true then _ else _) _ _ s
  rw [if_neg (by decide)]
  refine wpAny_bind (HT.slicePart_ .none (wpAny_bind (HT.slicePart_ .none (wpAny_bind (wpAny_pure ?_)))))
  show wpAny _ _ (pure ((n : Int) - 1, (-1 : Int), Builtin.Slice.slicePlaces ((n : Int) - 1) (-1) (-1))) _ _ s
  rw [places_back]
  exact wpAny_pure h
end
section
open PySem.SeqAt PySem.MeetsSeq PySem.MeetsSeq2 PySem.MeetsSeq3
theorem getItem_back {prog : Program} {w : World} {A : Around} {E : Value → Shared → Prop} {s : Shared} {t sl : Addr} {items : Array Value} {tk : Tok} {Q : Value → Shared → Prop} (ht : IsTup s.heap t items) (hs : s.heap.IsSliceOf sl .none .none (.int (-1) tk)) (hsz : items.size ≤ sizeLine)
    (h : Q (.ref s.heap.objs.size) { s with heap := s.heap.push { cls := .type "tuple", data := .seq items.toList.reverse.toArray } }) : wpAny (model prog w) A (getItem (.ref t) (.ref sl)) Q E s := by
  have fits : sizeOk (.seq items.toList.reverse.toArray) := by
    show items.toList.reverse.toArray.size ≤ sizeLine
    rw [List.size_toArray, List.length_reverse, Array.length_toList]
    exact hsz
  obtain ⟨os, hos, hcs, hds⟩ := id hs
  have isSl : s.TypeIs (.ref sl) "slice" := ⟨os, hos, hcs⟩
  unfold getItem
  try with_reducible refine wpAny_holding ?_
  first | refine wpAny_bind (wpAny_pure ?_) | skip
  refine wpAny_bind (wpAny_sequenceKey ht.typeIs (by decide) ?_)
  refine wpAny_bind (wpAny_callSpecial?_slot (name := Str.ofString "__getitem__") ht.typeIs PyProof.Rows.slot_tuple_getitem
    (wpAny_call_entry PyProof.Rows.slot_tuple_getitem ht.typeIs entry_tuple_getitem ?_ (args_tuple_getitem _ _)))
  show wpAny _ _ (Builtin.Tuple.tupleItemsOf (.ref t) >>= _) _ _ s
  refine wpAny_bind (tupleItemsOf_ ht ?_)
  refine wpAny_bind (wpAny_typeOf isSl ?_)
  rw [if_pos (by decide)]
  refine wpAny_bind (applied_back hs ?_)
  have other : ¬ ((((items.size : Int) - 1) == 0 && (-1 : Int) == 1 && items.size == items.size) = true) := by
    rw [show ((-1 : Int) == 1) = false from rfl, Bool.and_false, Bool.false_and]
    exact Bool.false_ne_true
  show wpAny _ _ (if (((items.size : Int) - 1) == 0 && (-1 : Int) == 1 && items.size == items.size) = true then _ else _) _ _ s
  rw [if_neg other, pick_back]
  first
    | exact wpAny_bind (m := Builtin.Tuple.tupleExact _) (wpAny_newObj_type (wpAny_pure ⟨_, rfl, wpAny_pure h⟩) fits)
    | exact wpAny_bind (m := Builtin.Tuple.tupleExact _) (wpAny_newObj_type (wpAny_bind (wpAny_pure (wpAny_pure ⟨_, rfl, wpAny_pure h⟩))) fits)
    | exact wpAny_bind (wpAny_bind (m := Builtin.Tuple.tupleExact _) (wpAny_newObj_type (wpAny_pure (wpAny_pure ⟨_, rfl, wpAny_pure h⟩)) fits))
    | exact wpAny_bind (wpAny_bind (m := Builtin.Tuple.tupleExact _) (wpAny_newObj_type (wpAny_pure ⟨_, rfl, wpAny_pure h⟩) fits))
end
end DL

set_option Elab.async false
set_option linter.all false
set_option maxRecDepth 100000
set_option maxHeartbeats 4000000
/-! DX14: x[::-1] of lists and tuples. -/
namespace DL
open PySem PySem.Spec PyProof.Rows L2
def rRev (K : PySem.W.Frag) : V → Hp → VK → Prop := fun x H Q => ∃ a xs, x = .ref a ∧ ((SqL K H a xs ∧ ∀ p, H p = none → Q (.ref p) (upd H p (.lst xs.reverse))) ∨ (SqT K H a xs ∧ ∀ p, H p = none → Q (.ref p) (upd H p (.tup xs.reverse))))
def revX : D → Option D
  | .list ds => some (.list ds.reverse)
  | .tuple ds => some (.tuple ds.reverse)
  | _ => none
section
variable {X : Cx} {P : Ps} {e : Expr} {te : TE} {k : Nat} {p1 p2 p3 pos : Pos}
theorem pe_rev (he : PE X e te) : PE X (.Subscript e (.Slice none none (some (.UnaryOp .USub (.Constant (.int 1) k p1) p2)) p3) pos) (tUn (rRev X.K) te) where
  run pins s σ H Q I h := by
    have step : PO X (some (.UnaryOp .USub (.Constant (.int 1) k p1) p2)) (tPart (tUn (rU fun i => .int (-i)) (tC (.int 1)))) := po_some (pe_un un_neg pe_int)
    apply Subscript_
    refine thn (he.run pins s σ H _ I h) fun v s1 ⟨x, H1, I1, r1, a, xs, ex, q⟩ => ?_
    subst ex
    obtain rfl : v = Value.ref a := r1
    apply wpAny_Slice
    refine thn (po_none.run pins s1 σ H1 (fun o G => o = none ∧ G = H1) I1 ⟨rfl, rfl⟩) ?_
    rintro vl s2 ⟨_, _, I2, pl, rfl, rfl⟩
    refine thn (po_none.run pins s2 σ _ (fun o G => o = none ∧ G = _) I2 ⟨rfl, rfl⟩) ?_
    rintro vu s3 ⟨_, _, I3, pu, rfl, rfl⟩
    refine thn (step.run pins s3 σ _ (fun o G => o = some (-1) ∧ G = _) I3 ⟨1, rfl, -1, rfl, rfl, rfl⟩) ?_
    rintro vs s4 ⟨_, G, I4, ps, rfl, rfl⟩
    cases pl
    cases pu
    cases ps with
    | int _ tk =>
      have I5 : Inv X pins σ G { s4 with heap := s4.heap.push { cls := .type "slice", data := .fields #[.none, .none, .int (-1) tk] } } := I4.kept (t' := s4.toks) fun _ _ z => Heap.get?_push_of_some _ z
      show wpAny (model X.prog X.w) X.A (subscriptTail e (.Slice none none (some (.UnaryOp .USub (.Constant (.int 1) k p1) p2)) p3) (.ref a) (.ref s4.heap.objs.size)) (EP X pins σ Q) X.xe { s4 with heap := s4.heap.push { cls := .type "slice", data := .fields #[.none, .none, .int (-1) tk] } }
      rcases q with ⟨hq, q⟩ | ⟨hq, q⟩
      · obtain ⟨its, r, at_, fits⟩ := I5.list hq
        refine tail_any (ops := [.ref a, .ref s4.heap.objs.size]) at_.isList.typeIs PySem.slot_list_getitem.lookup ?_ (by with_unfolding_all rfl)
        refine wpAny_getItem_list_slice at_.isList (Heap.IsSliceOf.new _ .none .none (.int (-1) tk)) .none .none (.int (-1) tk) (by decide) ?_ (by rw [List.size_toArray, ← r.length]; exact fits)
        rw [PySem.W.krv_pick]
        exact ⟨.ref _, _, I5.laid (t' := s4.toks) (o := .lst xs.reverse) (fun _ _ z => Heap.get?_push_of_some _ z) (Nat.le_refl _) ⟨by rw [List.length_reverse]; exact fits, _, 0, r.reverse, Heap.get?_push_size _ rfl⟩, rfl, q _ (I5.hok.fresh (Nat.le_refl _))⟩
      · obtain ⟨its, r, at_, fits⟩ := I5.tuple hq
        refine tail_any (ops := [.ref a, .ref s4.heap.objs.size]) at_.typeIs PyProof.Rows.slot_tuple_getitem.lookup ?_ (by with_unfolding_all rfl)
        refine getItem_back at_ (Heap.IsSliceOf.new _ .none .none (.int (-1) tk)) (by rw [List.size_toArray, ← r.length]; exact fits) ?_
        exact ⟨.ref _, _, I5.laid (t' := s4.toks) (o := .tup xs.reverse) (fun _ _ z => Heap.get?_push_of_some _ z) (Nat.le_refl _) ⟨by rw [List.length_reverse]; exact fits, _, r.reverse, ⟨_, Heap.get?_push_size _ rfl, rfl, _, rfl⟩⟩, rfl, q _ (I5.hok.fresh (Nat.le_refl _))⟩
theorem de_rev {m : M DR} (hK : P.K.K = X.K) (he : PE X e (tE P m)) : PE X (.Subscript e (.Slice none none (some (.UnaryOp .USub (.Constant (.int 1) k p1) p2)) p3) pos) (tE P (eOp1 revX m)) := (pe_rev he).of (tE_op1 (by
  intro c F H L ρ x d z Q R n hz q
  cases d with
  | list ds =>
    obtain rfl := Option.some.inj hz
    obtain ⟨a, ws, rfl, h1, r1⟩ := n.list R.sub
    refine ⟨a, ws, rfl, .inl ⟨hK ▸ h1, fun p hp => ?_⟩⟩
    have up : Same F (upd F p (.lst ws.reverse)) := Same.upd (fresh_of R hp)
    exact q _ _ _ up (R.new hp) (.lst (.inl (.inl upd_same)) (r1.reverse.mono up))
  | tuple ds =>
    obtain rfl := Option.some.inj hz
    obtain ⟨a, ws, rfl, h1, _, r1⟩ := n.tuple R.sub
    refine ⟨a, ws, rfl, .inr ⟨hK ▸ h1, fun p hp => ?_⟩⟩
    have up : Same F (upd F p (.tup ws.reverse)) := Same.upd (fresh_of R hp)
    exact q _ _ _ up (R.new hp) (.tup (.inl (.inl upd_same)) (r1.reverse.mono up))
  | _ => cases hz))
end
end DL

set_option Elab.async false
set_option linter.all false
set_option maxRecDepth 100000
set_option maxHeartbeats 4000000
/-! DX15: lists and tuples * int, any count. -/
namespace DL
open PySem PySem.Spec PyProof.Rows L2 Builtin

/-- t * 1, () * n: the tuple itself -/
theorem tup_mul_same (l : Addr) (items : Array Value) (n : Nat) (dd : Option Addr) (sl : Array (Option Value)) (x : Int) (u : Tok) (c0 : (decide (x < -(2 ^ 63)) || decide (x ≥ 2 ^ 63)) = false) (c1 : (items.isEmpty || x == 1) = true) :
    Meets (Builtin.«tuple.__mul__» ⟨[.ref l, .int x u], []⟩) (fun _ R s => s.heap.get? l = some { cls := .type "tuple", dict := dd, data := .seq items n, slots := sl } ∧ R (.ok (.ret (Value.ref l))) s) :=
  .of_wp fun prog w A R s h => by
    obtain ⟨hp, g, d, tk, os⟩ := s
    obtain ⟨hl, h⟩ := h
    have f1 := AutoSeq1.idx_int
    wp_walk using wpAny_loadPart' hl
    repeat (first
      | (refine wpAny_ite_false (decide_eq_false (by rw [c0]; exact Bool.false_ne_true)) ?_; wp_walk using wpAny_loadPart' hl)
      | (refine wpAny_ite_true (decide_eq_true (by rw [c1])) ?_; wp_walk using wpAny_loadPart' hl))
    exact ⟨_, rfl, h⟩
/-- t * 0, t * -1: a new empty tuple -/
theorem tup_mul_none (l : Addr) (items : Array Value) (n : Nat) (dd : Option Addr) (sl : Array (Option Value)) (x : Int) (u : Tok) (c0 : (decide (x < -(2 ^ 63)) || decide (x ≥ 2 ^ 63)) = false) (c1 : (items.isEmpty || x == 1) = false) (c2 : (decide (x ≤ 0) || items.isEmpty) = true) :
    Meets (Builtin.«tuple.__mul__» ⟨[.ref l, .int x u], []⟩) (fun _ R s => s.heap.get? l = some { cls := .type "tuple", dict := dd, data := .seq items n, slots := sl } ∧
      R (.ok (.ret (Value.ref s.heap.objs.size))) { s with heap := s.heap.push { cls := Value.type "tuple", data := Data.seq #[] }, toks := s.toks }) :=
  .of_wp fun prog w A R s h => by
    obtain ⟨hp, g, d, tk, os⟩ := s
    obtain ⟨hl, h⟩ := h
    have f1 := AutoSeq1.idx_int
    wp_walk using wpAny_loadPart' hl
    repeat (first
      | (refine wpAny_ite_false (decide_eq_false (by rw [c0]; exact Bool.false_ne_true)) ?_; wp_walk using wpAny_loadPart' hl)
      | (refine wpAny_ite_false (decide_eq_false (by rw [c1]; exact Bool.false_ne_true)) ?_; wp_walk using wpAny_loadPart' hl)
      | (refine wpAny_ite_true (decide_eq_true (by rw [c2])) ?_; wp_walk using wpAny_loadPart' hl))
    exact ⟨_, rfl, h⟩
def repV (k : Int) (xs : List V) : List V := (List.replicate k.toNat xs).flatten
def rRepS (K : PySem.W.Frag) : R2 := fun x y H Q => ∃ l k xs, x = .ref l ∧ y = .int k ∧ SqT K H l xs ∧ -1000 ≤ k ∧ k ≤ 1000 ∧ xs.length ≤ 1000 ∧
  ((xs = [] ∨ k = 1) → Q (.ref l) H) ∧ (xs ≠ [] → k ≠ 1 → ∀ p, H p = none → Q (.ref p) (upd H p (.tup (repV k xs))))
def rRepL (K : PySem.W.Frag) : R2 := fun x y H Q => ∃ l k xs, x = .ref l ∧ y = .int k ∧ SqL K H l xs ∧ -1000 ≤ k ∧ k ≤ 1000 ∧ xs.length ≤ 1000 ∧ ∀ p, H p = none → Q (.ref p) (upd H p (.lst (repV k xs)))
section
variable {X : Cx}
theorem op_repS : OpR X (binaryOp .Mult) (rRepS X.K) := by
  intro pins s σ H x y v u Q I rx ry h
  obtain ⟨l, k, xs, rfl, rfl, hT, h1, h2, hz, q1, q2⟩ := h
  by_cases hb : xs ≠ [] ∧ 2 ≤ k
  · exact op_repT pins s σ H _ _ v u Q I rx ry ⟨l, k, xs, rfl, rfl, hT, hb.1, hb.2, h2, hz, q2 hb.1 (by omega)⟩
  · cases rx
    obtain ⟨t, rfl⟩ := ry
    obtain ⟨its, r, ⟨⟨cls, dd, data, sl⟩, ho, hc, n, hd⟩, hs⟩ := I.tuple hT
    simp only at hc hd
    subst hc hd
    have hle : its.length = xs.length := r.length.symm
    have c0 : (decide (k < -(2 ^ 63)) || decide (k ≥ 2 ^ 63)) = false := by
      rw [decide_eq_false (by omega), decide_eq_false (by omega)] <;> rfl
    by_cases hsame : xs = [] ∨ k = 1
    · have c1 : (its.toArray.isEmpty || k == 1) = true := by
        rcases hsame with rfl | rfl
        · cases r; rfl
        · simp
      refine wpAny_binaryOp_repeat_ref (T := "tuple") (U := "int") (by decide) ⟨_, ho, rfl⟩ (fun s' => typeIs_int s' k t) noFill_tuple_mul F.fills_int_mul F.slot_int_rmul repeat_tuple F.slot_int_index.lookup
        (call_meets F.slot_int_rmul (typeIs_int s k t) F.entry_int_rmul (F.args_int_rmul_2 _ _) (int_rmul_tuple k t l its.toArray n dd sl)
          ⟨ho, rfl, ⟨_, ho, rfl⟩, call_meets F.slot_tuple_mul ⟨_, ho, rfl⟩ F.entry_tuple_mul (F.args_tuple_mul_2 _ _) (tup_mul_same l its.toArray n dd sl k t c0 c1) ⟨ho, ?_⟩⟩)
      exact ⟨.ref l, H, I, rfl, q1 hsame⟩
    · have hx : xs ≠ [] := fun e => hsame (.inl e)
      have hk : k ≠ 1 := fun e => hsame (.inr e)
      have hk0 : k ≤ 0 := by
        have : ¬ 2 ≤ k := fun e => hb ⟨hx, e⟩
        omega
      have hi : its.toArray.isEmpty = false := by
        cases its with
        | nil => exact absurd (List.eq_nil_of_length_eq_zero hle.symm) hx
        | cons a b => rfl
      have c1 : (its.toArray.isEmpty || k == 1) = false := by
        rw [hi, Bool.false_or]; exact beq_eq_false_iff_ne.mpr hk
      have c2 : (decide (k ≤ 0) || its.toArray.isEmpty) = true := by rw [decide_eq_true hk0]; rfl
      refine wpAny_binaryOp_repeat_ref (T := "tuple") (U := "int") (by decide) ⟨_, ho, rfl⟩ (fun s' => typeIs_int s' k t) noFill_tuple_mul F.fills_int_mul F.slot_int_rmul repeat_tuple F.slot_int_index.lookup
        (call_meets F.slot_int_rmul (typeIs_int s k t) F.entry_int_rmul (F.args_int_rmul_2 _ _) (int_rmul_tuple k t l its.toArray n dd sl)
          ⟨ho, rfl, ⟨_, ho, rfl⟩, call_meets F.slot_tuple_mul ⟨_, ho, rfl⟩ F.entry_tuple_mul (F.args_tuple_mul_2 _ _) (tup_mul_none l its.toArray n dd sl k t c0 c1 c2) ⟨ho, ?_⟩⟩)
      have e0 : repV k xs = [] := by
        unfold repV
        have : k.toNat = 0 := by omega
        rw [this]; rfl
      have q := q2 hx hk
      rw [e0] at q
      refine ⟨.ref s.heap.objs.size, _, I.laid (t' := s.toks) (o := .tup []) (fun b ob q => Heap.get?_push_of_some _ q) (Nat.le_refl _) ?_, rfl, q _ (I.hok.fresh (Nat.le_refl _))⟩
      exact ⟨by rw [sizeLine_eq]; exact Nat.zero_le _, _, .nil, IsTup.new _ _⟩
theorem op_repL : OpR X (binaryOp .Mult) (rRepL X.K) := by
  intro pins s σ H x y v u Q I rx ry h
  obtain ⟨l, k, xs, rfl, rfl, hL, h1, h2, hz, q⟩ := h
  cases rx
  obtain ⟨t, rfl⟩ := ry
  obtain ⟨its, r, ⟨⟨cls, dd, data, sl⟩, n, ho, hc, _, hd⟩, _⟩ := I.list hL
  dsimp only at hc hd
  subst hc hd
  have hle : its.length = xs.length := r.length.symm
  have hm : its.toArray.size * k.toNat ≤ 1000 * 1000 := Nat.mul_le_mul (by rw [List.size_toArray, hle]; exact hz) (by omega)
  have flen : (List.replicate k.toNat its).flatten.length ≤ sizeLine := by
    rw [PyProof.Rows.lm_len_rep_flat, hle, sizeLine_eq]
    have a1 : k.toNat * xs.length ≤ 1000 * 1000 := Nat.mul_le_mul (by omega) hz
    omega
  have hc0 : ¬(!Builtin.List.listFitsIndex k) = true := by
    unfold Builtin.List.listFitsIndex
    simp
    omega
  have hc2 : ¬Builtin.List.listTooLong (its.toArray.size * k.toNat) = true := by
    unfold Builtin.List.listTooLong
    rw [sizeLine_eq]
    simp only [decide_eq_true_eq]
    omega
  refine wpAny_binaryOp_repeat_ref (T := "list") (U := "int") (by decide) ⟨_, ho, rfl⟩ (fun s' => typeIs_int s' k t) noFill_list_mul F.fills_int_mul F.slot_int_rmul repeat_list F.slot_int_index.lookup
    (call_meets F.slot_int_rmul (typeIs_int s k t) F.entry_int_rmul (F.args_int_rmul_2 _ _) (lm_int_rmul_list_any k t l its.toArray n dd sl)
      ⟨ho, rfl, ⟨_, ho, rfl⟩, call_meets F.slot_list_mul ⟨_, ho, rfl⟩ F.entry_list_mul (F.args_list_mul_2 _ _) (lm_list_mul_any l its.toArray n dd sl k t hc0 (by omega) hc2) ⟨ho, ?_⟩⟩)
  have e1 : (List.foldl (fun x1 x2 => x1 ++ x2) #[] (List.replicate (if its.toArray.isEmpty = true then 0 else k.toNat) its.toArray)) = (List.replicate k.toNat its).flatten.toArray := by
    by_cases he : its = []
    · subst he
      simp
    · rw [if_neg (by simpa using he), size_rep]
  rw [e1]
  exact ⟨.ref _, _, I.lnew (t' := s.toks) (r.rep k.toNat) (by rw [r.length] at hle; rw [PyProof.Rows.lm_len_rep_flat, r.length, ← PyProof.Rows.lm_len_rep_flat]; exact flen), rfl, q _ I.fresh⟩
end
/-! by data -/
theorem RpAll.rep {K : Frag} {F : Hp} {vs : List V} {ds : List D} (h : RpAll K F vs ds) : ∀ k : Nat, RpAll K F (List.replicate k vs).flatten (List.replicate k ds).flatten
  | 0 => by simpa using RpAll.nil
  | k + 1 => by simpa [List.replicate_succ] using h.append (RpAll.rep h k)
def repD (k : Int) (ds : List D) : List D := (List.replicate k.toNat ds).flatten
def mulX (d e : D) : Option D := match d, e with
  | .list ds, .int k => if -1000 ≤ k ∧ k ≤ 1000 ∧ ds.length ≤ 1000 then some (.list (repD k ds)) else none
  | .tuple ds, .int k => if -1000 ≤ k ∧ k ≤ 1000 ∧ ds.length ≤ 1000 then some (.tuple (repD k ds)) else none
  | d, e => mulD d e
def rMulA (K : PySem.W.Frag) : R2 := fun x y H Q => (rI CMulX fun i j => .int (i * j)) x y H Q ∨ (rRepL K x y H Q ∨ rRepS K x y H Q)
theorem op_mulA {X : Cx} : OpR X (binaryOp .Mult) (rMulA X.K) := op_mulX.or (op_repL.or op_repS)
theorem repD_1 {ds : List D} : repD 1 ds = ds := by
  unfold repD
  simp
theorem repD_0 {k : Int} : repD k [] = [] := by
  unfold repD
  simp
theorem mulX_int {d e : D} (h1 : ∀ ds, d ≠ .list ds) (h2 : ∀ ds, d ≠ .tuple ds) : mulX d e = mulD d e := by
  cases d with
  | list ds => exact absurd rfl (h1 ds)
  | tuple ds => exact absurd rfl (h2 ds)
  | _ => rfl
theorem opd_mulA {X : Cx} {P : Ps} (hK : P.K.K = X.K) : OpD X P (rMulA X.K) mulX := by
  intro c F H L ρ x y d e z Q R n1 n2 hz q
  cases d with
  | list ds =>
    cases e with
    | int k =>
      unfold mulX at hz
      dsimp only at hz
      split at hz
      case isFalse => cases hz
      rename_i h
      cases wid hz
      obtain ⟨a1, vs, rfl, h1, r1⟩ := n1.list R.sub
      rw [hK] at h1
      refine .inr (.inl ⟨a1, k, vs, rfl, n2.int, h1, h.1, h.2.1, by rw [r1.length]; exact h.2.2, fun p hp => ?_⟩)
      have hF : F p = none := R.sub.free hp
      exact q _ _ _ (Same.upd hF) (R.new hp) (rp_new (r1.rep k.toNat) hF)
    | _ => unfold mulX mulD intOp at hz; cases hz
  | tuple ds =>
    cases e with
    | int k =>
      unfold mulX at hz
      dsimp only at hz
      split at hz
      case isFalse => cases hz
      rename_i h
      cases wid hz
      obtain ⟨a1, vs, rfl, h1, f1, r1⟩ := n1.tuple R.sub
      rw [hK] at h1
      refine .inr (.inr ⟨a1, k, vs, rfl, n2.int, h1, h.1, h.2.1, by rw [r1.length]; exact h.2.2, fun e => ?_, fun _ _ p hp => ?_⟩)
      · have : repD k ds = ds := by
          rcases e with rfl | rfl
          · cases r1; exact repD_0
          · exact repD_1
        rw [this] at q
        exact q F H _ (Same.refl F) R (.tup f1 r1)
      · have hF : F p = none := R.sub.free hp
        exact q _ _ _ (Same.upd hF) (R.new hp) (rp_newT (r1.rep k.toNat) hF)
    | _ => unfold mulX mulD intOp at hz; cases hz
  | _ =>
    rw [mulX_int (fun _ h => by cases h) (fun _ h => by cases h)] at hz
    exact .inl (opd_mul (X := X) c F H L ρ x y _ e z Q R n1 n2 hz q)
end DL

set_option Elab.async false
set_option linter.all false
set_option maxRecDepth 100000
set_option maxHeartbeats 4000000
/-! PF1: what a reading computes, as a plain function: results R, patterns of environments, one judgement a construct. -/
namespace DL
open PySem PySem.Spec PyProof.Rows L2

theorem nr {α : Sort u} {a b : α} (h : a = b) : a = b := h
/-! ### results -/
abbrev R (α : Type) := Option (Except Ex α)
def Rk {α : Type} (a : α) : R α := some (.ok a)
def Rx {α : Type} (x : Ex) : R α := some (.error x)
def bd {α β : Type} (x : R α) (f : α → R β) : R β := match x with
  | none => none
  | some (.ok a) => f a
  | some (.error e) => some (.error e)
def lf {α : Type} (o : Option α) : R α := match o with
  | none => none
  | some a => some (.ok a)
section
variable {α β γ : Type}
@[simp] theorem bd_ok {a : α} {f : α → R β} : bd (Rk a) f = f a := nr rfl
@[simp] theorem bd_er {x : Ex} {f : α → R β} : bd (Rx x) f = Rx x := nr rfl
@[simp] theorem bd_no {f : α → R β} : bd (none : R α) f = none := nr rfl
@[simp] theorem lf_some {a : α} : lf (some a) = Rk a := nr rfl
@[simp] theorem lf_none : lf (none : Option α) = none := nr rfl
theorem bd_assoc (x : R α) (f : α → R β) (g : β → R γ) : bd (bd x f) g = bd x fun a => bd (f a) g := by
  match x with
  | none => rfl
  | some (.ok a) => rfl
  | some (.error e) => rfl
theorem bd_ite {c : Prop} [Decidable c] (x y : R α) (f : α → R β) : bd (if c then x else y) f = if c then bd x f else bd y f := by
  split <;> rfl
theorem Rk_inj {a b : α} : (Rk a = Rk b) ↔ a = b := ⟨fun h => by cases h; rfl, fun h => h ▸ rfl⟩
theorem bd_Rk {x : R α} {f : α → R β} {b : β} : bd x f = Rk b ↔ ∃ a, x = Rk a ∧ f a = Rk b := by
  match x with
  | none => exact ⟨fun h => (by cases h), fun ⟨_, h, _⟩ => (by cases h)⟩
  | some (.ok a) => exact ⟨fun h => ⟨a, rfl, h⟩, fun ⟨_, h, k⟩ => (by cases h; exact k)⟩
  | some (.error e) => exact ⟨fun h => (by cases h), fun ⟨_, h, _⟩ => (by cases h)⟩
/-- errors count as nothing -/
def quiet (x : R α) : R α := match x with
  | some (.error _) => none
  | o => o
@[simp] theorem quiet_ok {a : α} : quiet (Rk a) = Rk a := nr rfl
@[simp] theorem quiet_no : quiet (none : R α) = none := nr rfl
end

/-- an outcome goes as a result says -/
def Go {α β : Type} (o : Option (Except Ex α × List DV)) (p : R β) (Φ : β → α → List DV → Prop) (E : List DV → Prop) : Prop := match p with
  | none => True
  | some (.ok b) => ∃ a ρ, o = some (.ok a, ρ) ∧ Φ b a ρ
  | some (.error x) => ∃ ρ, o = some (.error x, ρ) ∧ E ρ
section
variable {α β γ δ : Type} {E : List DV → Prop} {ρ : List DV}
theorem Go.bind {m : M α} {l : α → M γ} {p : R β} {q : β → R δ} {Φ : β → α → List DV → Prop} {Ψ : δ → γ → List DV → Prop} (h : Go (m ρ) p Φ E) (k : ∀ b a ρ', Φ b a ρ' → Go (l a ρ') (q b) Ψ E) : Go (M.bind m l ρ) (bd p q) Ψ E := by
  match p, h with
  | none, _ => trivial
  | some (.ok b), ⟨a, ρ', e, f⟩ =>
    have := k b a ρ' f
    unfold M.bind; rw [e]; exact this
  | some (.error x), ⟨ρ', e, f⟩ =>
    exact ⟨ρ', by unfold M.bind; rw [e], f⟩
theorem Go.mono {o : Option (Except Ex α × List DV)} {p : R β} {Φ Ψ : β → α → List DV → Prop} (h : Go o p Φ E) (k : ∀ b a ρ', Φ b a ρ' → Ψ b a ρ') : Go o p Ψ E := by
  match p, h with
  | none, _ => trivial
  | some (.ok b), ⟨a, ρ', e, f⟩ => exact ⟨a, ρ', e, k _ _ _ f⟩
  | some (.error x), h => exact h
theorem bind_at {m : M α} {l : α → M γ} {a : α} {ρ' : List DV} (e : m ρ = some (.ok a, ρ')) : M.bind m l ρ = l a ρ' := by unfold M.bind; rw [e]
theorem Go.ok {a : α} {b : β} {Φ : β → α → List DV → Prop} (h : Φ b a ρ) : Go (M.ok a ρ) (Rk b) Φ E := ⟨a, ρ, rfl, h⟩
/-- a result gone on with, by what the step leaves -/
theorem Go.then {m : M α} {l : α → M γ} {p : R β} {q : R δ} {Ψ : δ → γ → List DV → Prop} {a : α} {ρ' : List DV} (e : m ρ = some (.ok a, ρ')) (h : Go (l a ρ') q Ψ E) : Go (M.bind m l ρ) q Ψ E := by
  unfold M.bind; rw [e]; exact h
theorem Go.map {m : M α} {l : α → M γ} {p : R β} {Φ : β → α → List DV → Prop} {Ψ : β → γ → List DV → Prop} (h : Go (m ρ) p Φ E) (k : ∀ b a ρ', Φ b a ρ' → ∃ c ρ2, l a ρ' = some (.ok c, ρ2) ∧ Ψ b c ρ2) : Go (M.bind m l ρ) p Ψ E := by
  match p, h with
  | none, _ => trivial
  | some (.ok b), ⟨a, ρ', e, f⟩ =>
    obtain ⟨c, ρ2, e2, g⟩ := k b a ρ' f
    exact ⟨c, ρ2, by unfold M.bind; rw [e]; exact e2, g⟩
  | some (.error x), ⟨ρ', e, f⟩ => exact ⟨ρ', by unfold M.bind; rw [e], f⟩
theorem Go.lf {o : Option β} {l : β → M γ} {q : β → R δ} {Ψ : δ → γ → List DV → Prop} (h : ∀ b, Go (l b ρ) (q b) Ψ E) : Go (M.bind (M.opt o) l ρ) (bd (lf o) q) Ψ E := by
  cases o with
  | none => trivial
  | some b => exact h b
end

/-! ### patterns -/
inductive PV where
  | any
  | nb
  | is (x : DV)
  | xx (x : DV)
def Sm (x : DV) : PV → Prop
  | .any => x = .un ∨ ∃ d, x = .dat d
  | .nb => x.isBor = false
  | .is y => x = y
  | .xx y => x = y ∧ x.isBor = false ∧ x.own = none
def Sees : List DV → List PV → Prop
  | [], [] => True
  | x :: ρ, p :: pt => Sm x p ∧ Sees ρ pt
  | _, _ => False
def PV.wr : PV → Bool
  | .is x => !x.isBor
  | _ => true
inductive Pl1 : PV → PV → Prop
  | r {p : PV} : Pl1 p p
  | a {d : D} : Pl1 (.is (.dat d)) .any
  | u : Pl1 (.is .un) .any
  | d {d : D} : Pl1 (.is (.dat d)) .nb
  | l {ds : List D} : Pl1 (.is (.lst ds)) .nb
  | e {c : Str} {d : D} : Pl1 (.is (.exc c d)) .nb
  | an : Pl1 .any .nb
  | x {y : DV} : Pl1 (.xx y) .nb
  | dx {d : D} : Pl1 (.is (.dat d)) (.xx (.dat d))
  | ex {c : Str} {d : D} : Pl1 (.is (.exc c d)) (.xx (.exc c d))
inductive PLe : List PV → List PV → Prop
  | n : PLe [] []
  | c {p q : PV} {ps qs : List PV} : Pl1 p q → PLe ps qs → PLe (p :: ps) (q :: qs)
section
variable {x : DV} {p q : PV} {ρ ρ2 : List DV} {pt ps qs : List PV} {i : Nat}
theorem Sm.weak (h : Sm x p) (l : Pl1 p q) : Sm x q := by
  cases l with
  | r => exact h
  | a => exact .inr ⟨_, h⟩
  | u => exact .inl h
  | d => cases h; rfl
  | l => cases h; rfl
  | e => cases h; rfl
  | an =>
    rcases h with rfl | ⟨d, rfl⟩ <;> rfl
  | x => exact h.2.1
  | dx => cases h; exact ⟨rfl, rfl, rfl⟩
  | ex => cases h; exact ⟨rfl, rfl, rfl⟩
theorem Sees.weak : ∀ {ρ : List DV} {ps qs : List PV}, Sees ρ ps → PLe ps qs → Sees ρ qs
  | [], _, _, _, .n => trivial
  | _ :: _, _, _, h, .n => h
  | [], _, _, h, .c _ _ => h.elim
  | _ :: _, _, _, h, .c a b => ⟨h.1.weak a, Sees.weak h.2 b⟩
theorem PLe.refl : ∀ ps : List PV, PLe ps ps
  | [] => .n
  | _ :: ps => .c .r (PLe.refl ps)
theorem Sm.wr (h : Sm x p) (w : p.wr = true) : x.isBor = false := by
  cases p with
  | any => rcases h with rfl | ⟨d, rfl⟩ <;> rfl
  | nb => exact h
  | is y => cases h; simpa [PV.wr] using w
  | xx y => exact h.2.1
theorem Sees.at : ∀ {ρ : List DV} {pt : List PV} {i : Nat} {p : PV}, Sees ρ pt → pt[i]? = some p → ∃ x, ρ[i]? = some x ∧ Sm x p
  | [], [], _, _, _, e => by simp at e
  | [], _ :: _, _, _, h, _ => h.elim
  | _ :: _, [], _, _, h, _ => h.elim
  | x :: ρ, q :: pt, 0, p, h, e => ⟨x, rfl, by simp at e; exact e ▸ h.1⟩
  | x :: ρ, q :: pt, i + 1, p, h, e => by
    obtain ⟨y, e1, h1⟩ := Sees.at (i := i) h.2 (by simpa using e)
    exact ⟨y, by simpa using e1, h1⟩
theorem Sees.is {y : DV} (h : Sees ρ pt) (e : pt[i]? = some (.is y)) : ρ[i]? = some y := by
  obtain ⟨x, e1, h1⟩ := h.at e
  cases h1; exact e1
theorem Sees.xx {y : DV} (h : Sees ρ pt) (e : pt[i]? = some (.xx y)) : ρ[i]? = some y := by
  obtain ⟨x, e1, h1⟩ := h.at e
  cases h1.1; exact e1
theorem Sees.set : ∀ {ρ : List DV} {pt : List PV} {i : Nat} {x : DV} {q : PV}, Sees ρ pt → Sm x q → Sees (ρ.set i x) (pt.set i q)
  | [], [], _, _, _, _, _ => trivial
  | [], _ :: _, _, _, _, h, _ => h.elim
  | _ :: _, [], _, _, _, h, _ => h.elim
  | _ :: _, _ :: _, 0, _, _, h, k => ⟨k, h.2⟩
  | _ :: _, _ :: _, i + 1, _, _, h, k => ⟨h.1, Sees.set (i := i) h.2 k⟩
theorem Sees.app : ∀ {ρ : List DV} {pt : List PV}, Sees ρ pt → Sees ρ2 ps → Sees (ρ ++ ρ2) (pt ++ ps)
  | [], [], _, k => k
  | [], _ :: _, h, _ => h.elim
  | _ :: _, [], h, _ => h.elim
  | _ :: _, _ :: _, h, k => ⟨h.1, Sees.app h.2 k⟩
theorem Sees.snoc (h : Sees ρ pt) (k : Sm x q) : Sees (ρ ++ [x]) (pt ++ [q]) := h.app ⟨k, trivial⟩
theorem Sees.unsnoc : ∀ {ρ : List DV} {pt : List PV}, Sees ρ (pt ++ [q]) → ∃ ρ0 x, ρ = ρ0 ++ [x] ∧ Sees ρ0 pt ∧ Sm x q
  | [], [], h => h.elim
  | [], _ :: _, h => h.elim
  | x :: ρ, [], h => by
    cases ρ with
    | nil => exact ⟨[], x, rfl, trivial, h.1⟩
    | cons y ρ => exact h.2.elim
  | x :: ρ, p :: pt, h => by
    obtain ⟨ρ0, y, e, h1, h2⟩ := Sees.unsnoc (ρ := ρ) (pt := pt) h.2
    exact ⟨x :: ρ0, y, by rw [e]; rfl, ⟨h.1, h1⟩, h2⟩
theorem Sees.unis {y : DV} (h : Sees ρ (pt ++ [.is y])) : ∃ ρ0, ρ = ρ0 ++ [y] ∧ Sees ρ0 pt := by
  obtain ⟨ρ0, x, e, h1, h2⟩ := h.unsnoc
  cases h2; exact ⟨ρ0, e, h1⟩
theorem Sees.len : ∀ {ρ : List DV} {pt : List PV}, Sees ρ pt → ρ.length = pt.length
  | [], [], _ => rfl
  | [], _ :: _, h => h.elim
  | _ :: _, [], h => h.elim
  | _ :: _, _ :: _, h => by rw [List.length_cons, List.length_cons, Sees.len h.2]
theorem Sees.setD {d : D} (h : Sees ρ pt) (hw : (pt[i]?).map PV.wr = some true) : DL.setD i d ρ = some (.ok (), ρ.set i (.dat d)) := by
  cases e : pt[i]? with
  | none => rw [e] at hw; cases hw
  | some p =>
    rw [e] at hw
    obtain ⟨x, e1, h1⟩ := h.at e
    unfold DL.setD
    rw [e1]
    dsimp only
    rw [h1.wr (by simpa using hw)]
    rfl
end

/-! ### expressions -/
/-- a value as data, an own list by its place -/
def Vr (r : DR) (pt : List PV) (d : D) : Prop := r = .dat d ∨ ∃ i x ds, r = .loc i ∧ pt[i]? = some (.is x) ∧ x.own = some ds ∧ d = .list ds
theorem Vr.rd {r : DR} {pt : List PV} {d : D} {ρ : List DV} (h : Vr r pt d) (s : Sees ρ pt) : DL.rd r ρ = some (.ok d, ρ) := by
  rcases h with rfl | ⟨i, x, ds, rfl, e, o, rfl⟩
  · rfl
  · unfold DL.rd
    dsimp only
    rw [s.is e, Option.bind_some, o]
section
variable {α β γ δ σ : Type}
/-- m is the datum that p tells; own lists may be frozen -/
def XF (m : M DR) (pt : List PV) (p : R D) (pt' : List PV) (E : List DV → Prop) : Prop := ∀ ρ, Sees ρ pt → Go (m ρ) p (fun d r ρ' => r = .dat d ∧ Sees ρ' pt') E
/-- m is the datum that p tells, nothing changes -/
abbrev XE (m : M DR) (pt : List PV) (p : R D) (E : List DV → Prop) : Prop := XF m pt p pt E
/-- the same, or an own list -/
def XR (m : M DR) (pt : List PV) (p : R D) (E : List DV → Prop) : Prop := ∀ ρ, Sees ρ pt → Go (m ρ) p (fun d r ρ' => Vr r pt d ∧ Sees ρ' pt) E
/-- m is the datum that p tells; own lists change -/
def XI (m : M DR) (pc : σ → List PV) (s : σ) (p : R (D × σ)) (E : List DV → Prop) : Prop := ∀ ρ, Sees ρ (pc s) → Go (m ρ) p (fun b r ρ' => r = .dat b.1 ∧ Sees ρ' (pc b.2)) E
/-- m is the datum d at once -/
def At (m : M DR) (pt : List PV) (d : D) : Prop := ∀ ρ, Sees ρ pt → ∃ r, m ρ = some (.ok r, ρ) ∧ Vr r pt d
def AtS (m : M DR) (pt : List PV) (d : D) : Prop := ∀ ρ, Sees ρ pt → m ρ = some (.ok (.dat d), ρ)
variable {m ma mb mc : M DR} {pt : List PV} {pa pb pc : R D} {E : List DV → Prop} {d x y : D} {i : Nat}
theorem XE.r (h : XE m pt pa E) : XR m pt pa E := fun ρ s => (h ρ s).mono fun _ _ _ k => ⟨.inl k.1, k.2⟩
theorem AtS.a (h : AtS m pt d) : At m pt d := fun ρ s => ⟨_, h ρ s, .inl rfl⟩
theorem At.r (h : At m pt d) : XR m pt (Rk d) E := fun ρ s => by
  obtain ⟨r, e, v⟩ := h ρ s
  exact ⟨r, ρ, e, v, s⟩
theorem AtS.e (h : AtS m pt d) : XE m pt (Rk d) E := fun ρ s => ⟨_, ρ, h ρ s, rfl, s⟩
theorem at_var (e : pt[i]? = some (.is (.dat d))) : AtS (eVar i) pt d := fun ρ s => by
  unfold eVar; rw [s.is e]
theorem at_own {x : DV} {ds : List D} (e : pt[i]? = some (.is x)) (o : x.own = some ds) : At (eVar i) pt (.list ds) := fun ρ s => by
  refine ⟨.loc i, ?_, .inr ⟨i, x, ds, rfl, e, o, rfl⟩⟩
  unfold eVar; rw [s.is e]
  cases x <;> first | rfl | cases o
theorem at_lit : AtS (eLit d) pt d := fun _ _ => rfl
/-! operators -/
theorem eOp2_go {f : D → D → Option D} {ρ : List DV} (ha : XR ma pt pa E) (hb : XR mb pt pb E) (s : Sees ρ pt) : Go (eOp2 f ma mb ρ) (bd pa fun a => bd pb fun b => lf (f a b)) (fun d r ρ' => r = .dat d ∧ Sees ρ' pt) E := by
  unfold eOp2
  refine (ha ρ s).bind fun a r1 ρ1 h1 => (hb ρ1 h1.2).bind fun b r2 ρ2 h2 => ?_
  refine Go.then (p := Rk a) (h1.1.rd h2.2) (Go.then (p := Rk b) (h2.1.rd h2.2) ?_)
  cases f a b with
  | none => trivial
  | some z => exact ⟨_, ρ2, rfl, rfl, h2.2⟩
theorem x_op2 {f : D → D → Option D} (ha : XR ma pt pa E) (hb : XR mb pt pb E) : XE (eOp2 f ma mb) pt (bd pa fun a => bd pb fun b => lf (f a b)) E := fun ρ s => eOp2_go ha hb s
theorem x_op2a {f : D → D → Option D} (ha : At ma pt x) (hb : XR mb pt pb E) : XE (eOp2 f ma mb) pt (bd pb fun b => lf (f x b)) E := fun ρ s => eOp2_go (ha.r (E := E)) hb s
theorem x_op2b {f : D → D → Option D} (ha : XR ma pt pa E) (hb : At mb pt y) : XE (eOp2 f ma mb) pt (bd pa fun a => lf (f a y)) E := fun ρ s => eOp2_go ha (hb.r (E := E)) s
theorem x_op2c {f : D → D → Option D} (ha : At ma pt x) (hb : At mb pt y) : XE (eOp2 f ma mb) pt (lf (f x y)) E := fun ρ s => eOp2_go (ha.r (E := E)) (hb.r (E := E)) s
theorem eOp1_go {f : D → Option D} {ρ : List DV} (ha : XR ma pt pa E) (s : Sees ρ pt) : Go (eOp1 f ma ρ) (bd pa fun a => lf (f a)) (fun d r ρ' => r = .dat d ∧ Sees ρ' pt) E := by
  unfold eOp1
  refine (ha ρ s).bind fun a r1 ρ1 h1 => ?_
  refine Go.then (p := Rk a) (h1.1.rd h1.2) ?_
  cases f a with
  | none => trivial
  | some z => exact ⟨_, ρ1, rfl, rfl, h1.2⟩
theorem x_op1 {f : D → Option D} (ha : XR ma pt pa E) : XE (eOp1 f ma) pt (bd pa fun a => lf (f a)) E := fun ρ s => eOp1_go ha s
theorem x_op1a {f : D → Option D} (ha : At ma pt x) : XE (eOp1 f ma) pt (lf (f x)) E := fun ρ s => eOp1_go (ha.r (E := E)) s
/-! truth -/
def bl (d : D) : R Bool := match d with
  | .bool b => Rk b
  | _ => none
@[simp] theorem bl_b {b : Bool} : bl (.bool b) = Rk b := nr rfl
theorem asB_go {d : D} {ρ : List DV} {Φ : Bool → Bool → List DV → Prop} (h : ∀ b, d = .bool b → Φ b b ρ) : Go (asB (.dat d) ρ) (bl d) Φ E := by
  cases d with
  | bool b => exact ⟨b, ρ, rfl, h b rfl⟩
  | _ => trivial
def TE (m : M Bool) (pt : List PV) (p : R Bool) (E : List DV → Prop) : Prop := ∀ ρ, Sees ρ pt → Go (m ρ) p (fun b c ρ' => c = b ∧ Sees ρ' pt) E
def TI (m : M Bool) (pc : σ → List PV) (s : σ) (p : R (Bool × σ)) (E : List DV → Prop) : Prop := ∀ ρ, Sees ρ (pc s) → Go (m ρ) p (fun b c ρ' => c = b.1 ∧ Sees ρ' (pc b.2)) E
variable {m1 m2 : M Bool} {p1 p2 : R Bool}
theorem t_b (h : XE m pt pa E) : TE (eB m) pt (bd pa bl) E := fun ρ s => by
  unfold eB
  refine (h ρ s).bind fun d r ρ' k => ?_
  obtain ⟨rfl, k⟩ := k
  exact asB_go fun b e => ⟨rfl, k⟩
theorem t_and (h1 : TE m1 pt p1 E) (h2 : TE m2 pt p2 E) : TE (andT m1 m2) pt (bd p1 fun b => if b = true then p2 else Rk false) E := fun ρ s => by
  unfold andT
  refine (h1 ρ s).bind fun b c ρ' k => ?_
  obtain ⟨rfl, k⟩ := k
  cases c with
  | true => exact h2 ρ' k
  | false => exact ⟨false, ρ', rfl, rfl, k⟩
theorem t_or (h1 : TE m1 pt p1 E) (h2 : TE m2 pt p2 E) : TE (orT m1 m2) pt (bd p1 fun b => if b = true then Rk true else p2) E := fun ρ s => by
  unfold orT
  refine (h1 ρ s).bind fun b c ρ' k => ?_
  obtain ⟨rfl, k⟩ := k
  cases c with
  | false => exact h2 ρ' k
  | true => exact ⟨true, ρ', rfl, rfl, k⟩
theorem t_not (h1 : TE m1 pt p1 E) : TE (notT m1) pt (bd p1 fun b => Rk (!b)) E := fun ρ s => by
  unfold notT
  refine (h1 ρ s).bind fun b c ρ' k => ?_
  obtain ⟨rfl, k⟩ := k
  exact ⟨!c, ρ', rfl, rfl, k⟩
theorem x_and (h1 : XE ma pt pa E) (h2 : XE mb pt pb E) : XE (andV ma mb) pt (bd pa fun a => bd (bl a) fun b => if b = true then pb else Rk (.bool false)) E := fun ρ s => by
  unfold andV
  have h := t_b h1 ρ s
  rw [← bd_assoc]
  refine h.bind fun b c ρ' k => ?_
  obtain ⟨rfl, k⟩ := k
  cases c with
  | true => exact h2 ρ' k
  | false => exact ⟨_, ρ', rfl, rfl, k⟩
theorem x_or (h1 : XE ma pt pa E) (h2 : XE mb pt pb E) : XE (orV ma mb) pt (bd pa fun a => bd (bl a) fun b => if b = true then Rk (.bool true) else pb) E := fun ρ s => by
  unfold orV
  have h := t_b h1 ρ s
  rw [← bd_assoc]
  refine h.bind fun b c ρ' k => ?_
  obtain ⟨rfl, k⟩ := k
  cases c with
  | false => exact h2 ρ' k
  | true => exact ⟨_, ρ', rfl, rfl, k⟩
theorem x_not (h1 : XE ma pt pa E) : XE (notV ma) pt (bd pa fun a => bd (bl a) fun b => Rk (.bool (!b))) E := fun ρ s => by
  unfold notV
  have h := t_b h1 ρ s
  rw [← bd_assoc]
  refine h.bind fun b c ρ' k => ?_
  obtain ⟨rfl, k⟩ := k
  exact ⟨_, ρ', rfl, rfl, k⟩
theorem x_if (h1 : TE m1 pt p1 E) (h2 : XE ma pt pa E) (h3 : XE mb pt pb E) : XE (ifV m1 ma mb) pt (bd p1 fun b => if b = true then pa else pb) E := fun ρ s => by
  unfold ifV
  refine (h1 ρ s).bind fun b c ρ' k => ?_
  obtain ⟨rfl, k⟩ := k
  cases c with
  | true => exact h2 ρ' k
  | false => exact h3 ρ' k
theorem x_chain {f g : D → D → Option D} (ha : XR ma pt pa E) (hb : XR mb pt pb E) (hc : XR mc pt pc E) :
    XE (eChain f g ma mb mc) pt (bd pa fun a => bd pb fun b => bd (lf (f a b)) fun z => bd (bl z) fun t => if t = true then bd pc fun c => lf (g b c) else Rk (.bool false)) E := fun ρ s => by
  unfold eChain
  refine (ha ρ s).bind fun a r1 ρ1 h1 => (hb ρ1 h1.2).bind fun b r2 ρ2 h2 => ?_
  refine Go.then (p := Rk a) (h1.1.rd h2.2) (Go.then (p := Rk b) (h2.1.rd h2.2) ?_)
  refine Go.lf fun z => ?_
  cases z with
  | bool t =>
    cases t with
    | false => exact ⟨_, ρ2, rfl, rfl, h2.2⟩
    | true =>
      refine (hc ρ2 h2.2).bind fun c r3 ρ3 h3 => ?_
      refine Go.then (p := Rk b) (h2.1.rd h3.2) (Go.then (p := Rk c) (h3.1.rd h3.2) ?_)
      cases g b c with
      | none => trivial
      | some z => exact ⟨_, ρ3, rfl, rfl, h3.2⟩
  | _ => trivial
/-! exceptions as values -/
def dvR : DV → Option DR
  | .dat d => some (.dat d)
  | .exc c d => some (.exc c d)
  | _ => none
def isXd (fd : D → Option Bool) (d : D) : R D := bd (lf (fd d)) fun b => Rk (.bool b)
def isXv (fd : D → Option Bool) (fx : Str → Option Bool) : DV → R D
  | .dat d => isXd fd d
  | .exc y _ => bd (lf (fx y)) fun b => Rk (.bool b)
  | _ => none
def isNv (neg : Bool) : DV → R D
  | .dat d => Rk (.bool (if neg then !isNoneB d else isNoneB d))
  | .exc _ _ => Rk (.bool neg)
  | _ => none
def valV (ok : Str → Bool) : DV → R D
  | .exc y d => if ok y then Rk d else none
  | _ => none
theorem x_is {fd : D → Option Bool} {fx : Str → Option Bool} (ha : XR ma pt pa E) : XE (eIs fd fx ma) pt (bd pa (isXd fd)) E := fun ρ s => by
  unfold eIs
  refine (ha ρ s).bind fun a r1 ρ1 h1 => ?_
  have e : isR fd fx r1 ρ1 = M.bind (rd r1) (fun d => M.bind (M.opt (fd d)) fun b => M.ok (.dat (.bool b))) ρ1 := by
    rcases h1.1 with rfl | ⟨i, x, ds, rfl, e, o, rfl⟩ <;> rfl
  rw [e]
  refine Go.then (p := Rk a) (h1.1.rd h1.2) ?_
  unfold isXd
  refine Go.lf fun b => ⟨_, ρ1, rfl, rfl, h1.2⟩
theorem x_isN {neg : Bool} (ha : XR ma pt pa E) : XE (eIsN neg ma) pt (bd pa fun d => Rk (.bool (if neg then !isNoneB d else isNoneB d))) E := fun ρ s => by
  unfold eIsN
  refine (ha ρ s).bind fun a r1 ρ1 h1 => ?_
  have e : isNR neg r1 ρ1 = M.bind (rd r1) (fun d => M.ok (.dat (.bool (if neg then !isNoneB d else isNoneB d)))) ρ1 := by
    rcases h1.1 with rfl | ⟨i, x, ds, rfl, e, o, rfl⟩ <;> rfl
  rw [e]
  refine Go.then (p := Rk a) (h1.1.rd h1.2) ?_
  exact ⟨_, ρ1, rfl, rfl, h1.2⟩
theorem x_isV {fd : D → Option Bool} {fx : Str → Option Bool} {v : DV} (e : pt[i]? = some (.xx v)) : XE (eIs fd fx (eVar i)) pt (isXv fd fx v) E := fun ρ s => by
  unfold eIs M.bind eVar
  rw [s.xx e]
  cases v with
  | dat d =>
    show Go (M.bind (M.opt (fd d)) (fun b => M.ok (DR.dat (PyData.bool b))) ρ) (bd (DL.lf (fd d)) fun b => Rk (PyData.bool b)) _ _
    exact Go.lf fun b => ⟨_, ρ, rfl, rfl, s⟩
  | exc c d =>
    show Go (isR fd fx (.exc c d) ρ) _ _ _
    exact Go.lf fun b => ⟨_, ρ, rfl, rfl, s⟩
  | _ => trivial
theorem x_isNV {neg : Bool} {v : DV} (e : pt[i]? = some (.xx v)) : XE (eIsN neg (eVar i)) pt (isNv neg v) E := fun ρ s => by
  unfold eIsN M.bind eVar
  rw [s.xx e]
  cases v with
  | dat d => exact ⟨_, ρ, rfl, rfl, s⟩
  | exc c d => exact ⟨_, ρ, rfl, rfl, s⟩
  | _ => trivial
theorem x_valV {ok : Str → Bool} {v : DV} (e : pt[i]? = some (.xx v)) : XE (eVal ok (eVar i)) pt (valV ok v) E := fun ρ s => by
  unfold eVal M.bind eVar
  rw [s.xx e]
  cases v with
  | dat d => trivial
  | exc c d =>
    show Go (valR ok (.exc c d) ρ) (if ok c = true then Rk d else none) _ _
    by_cases h : ok c = true
    · rw [if_pos h]
      refine ⟨.dat d, ρ, ?_, rfl, s⟩
      unfold valR; dsimp only; rw [if_pos h]; rfl
    · rw [if_neg h]; trivial
  | _ => trivial
/-! arguments -/
/-- arguments that are data, nothing changes -/
def GS (ms : M (List DR)) (pt : List PV) (q : R δ) (K : List D → R δ) (E : List DV → Prop) : Prop :=
  ∀ (γ : Type) (k : List DR → M γ) (Ψ : δ → γ → List DV → Prop) (ρ : List DV), Sees ρ pt → (∀ ds ρ', Sees ρ' pt → Go (k (ds.map .dat) ρ') (K ds) Ψ E) → Go (M.bind ms k ρ) q Ψ E
/-- arguments, own lists frozen -/
def GA (ms : M (List DR)) (pt : List PV) (q : R δ) (K : List D → R δ) (pt' : List PV) (E : List DV → Prop) : Prop :=
  ∀ (γ : Type) (k : List D → M γ) (Ψ : δ → γ → List DV → Prop) (ρ : List DV), Sees ρ pt → (∀ ds ρ', Sees ρ' pt' → Go (k ds ρ') (K ds) Ψ E) → Go (M.bind ms (fun rs => M.bind (frzAll rs) k) ρ) q Ψ E
variable {ms : M (List DR)} {K : List D → R δ} {pt' : List PV}
theorem frzAll_dats : ∀ (ds : List D) (ρ : List DV), frzAll (ds.map .dat) ρ = some (.ok ds, ρ)
  | [], ρ => rfl
  | d :: ds, ρ => by
    show M.bind (M.ok d) (fun d => M.bind (frzAll (ds.map .dat)) fun ds => M.ok (d :: ds)) ρ = _
    show M.bind (frzAll (ds.map .dat)) (fun ds => M.ok (d :: ds)) ρ = _
    unfold M.bind
    rw [frzAll_dats ds ρ]; rfl
theorem rdAll_dats : ∀ (ds : List D) (ρ : List DV), rdAll (ds.map .dat) ρ = some (.ok ds, ρ)
  | [], ρ => rfl
  | d :: ds, ρ => by
    show M.bind (M.ok d) (fun d => M.bind (rdAll (ds.map .dat)) fun ds => M.ok (d :: ds)) ρ = _
    show M.bind (rdAll (ds.map .dat)) (fun ds => M.ok (d :: ds)) ρ = _
    unfold M.bind
    rw [rdAll_dats ds ρ]; rfl
theorem gs_nil : GS aNil pt (K []) K E := fun γ k Ψ ρ s h => h [] ρ s
theorem gs_at {q : R δ} (ha : AtS m pt x) (h : GS ms pt q (fun ds => K (x :: ds)) E) : GS (aCons m ms) pt q K E := fun γ k Ψ ρ s hk => by
  have e : M.bind (aCons m ms) k ρ = M.bind ms (fun rs => k (.dat x :: rs)) ρ := by
    unfold aCons
    rw [M.assoc]
    rw [bind_at (ha ρ s), M.assoc]
    rfl
  rw [e]
  exact h _ _ Ψ ρ s fun ds ρ' s' => hk (x :: ds) ρ' s'
theorem gs_cons {q : D → R δ} (ha : XE m pt pa E) (h : ∀ a, GS ms pt (q a) (fun ds => K (a :: ds)) E) : GS (aCons m ms) pt (bd pa q) K E := fun γ k Ψ ρ s hk => by
  unfold aCons
  rw [M.assoc]
  refine (ha ρ s).bind fun a r ρ1 h1 => ?_
  obtain ⟨rfl, h1⟩ := h1
  rw [M.assoc]
  exact h a _ (fun rs => M.bind (M.ok (DR.dat a :: rs)) k) Ψ ρ1 h1 fun ds ρ' s' => hk (a :: ds) ρ' s'
theorem GS.a {q : R δ} (h : GS ms pt q K E) : GA ms pt q K pt E := fun γ k Ψ ρ s hk => h _ _ Ψ ρ s fun ds ρ' s' => Go.then (p := Rk ds) (frzAll_dats ds ρ') (hk ds ρ' s')
theorem ga_frz {q : R δ} {ds0 : List D} (e : pt[i]? = some (.is (.lst ds0))) (h : GS ms pt q (fun ds => K (.list ds0 :: ds)) E) : GA (aCons (eVar i) ms) pt q K (pt.set i (.is (.dat (.list ds0)))) E := fun γ k Ψ ρ s hk => by
  have e1 : M.bind (aCons (eVar i) ms) (fun rs => M.bind (frzAll rs) k) ρ = M.bind ms (fun rs => M.bind (frzAll (.loc i :: rs)) k) ρ := by
    unfold aCons
    rw [M.assoc]
    have : eVar i ρ = some (.ok (.loc i), ρ) := by unfold eVar; rw [s.is e]
    rw [bind_at this, M.assoc]
    rfl
  rw [e1]
  refine h _ _ Ψ ρ s fun ds ρ' s' => ?_
  refine Go.then (p := Rk ds) (a := .list ds0 :: ds) (ρ' := ρ'.set i (.dat (.list ds0))) ?_ (hk _ _ (s'.set rfl))
  show M.bind (frz (.loc i)) (fun d => M.bind (frzAll (ds.map .dat)) fun ds => M.ok (d :: ds)) ρ' = _
  have : frz (.loc i) ρ' = some (.ok (.list ds0), ρ'.set i (.dat (.list ds0))) := by unfold frz; dsimp only; rw [s'.is e]
  unfold M.bind
  rw [this]
  dsimp only
  rw [frzAll_dats]; rfl
theorem ga_at {q : R δ} (ha : AtS m pt x) (h : GA ms pt q (fun ds => K (x :: ds)) pt' E) : GA (aCons m ms) pt q K pt' E := fun γ k Ψ ρ s hk => by
  have e : M.bind (aCons m ms) (fun rs => M.bind (frzAll rs) k) ρ = M.bind ms (fun rs => M.bind (frzAll rs) (fun ds => k (x :: ds))) ρ := by
    unfold aCons
    rw [M.assoc]
    rw [bind_at (ha ρ s), M.assoc]
    have e2 : (fun a => M.bind (M.ok (DR.dat x :: a)) fun rs => M.bind (frzAll rs) k) = fun rs => M.bind (frzAll rs) fun ds => k (x :: ds) := by
      funext rs ρ'
      show M.bind (M.bind (frzAll rs) fun ds => M.ok (x :: ds)) k ρ' = _
      rw [M.assoc]; rfl
    rw [e2]
  rw [e]
  exact h _ _ Ψ ρ s fun ds ρ' s' => hk (x :: ds) ρ' s'
theorem ga_cons {q : D → R δ} (ha : XE m pt pa E) (h : ∀ a, GA ms pt (q a) (fun ds => K (a :: ds)) pt' E) : GA (aCons m ms) pt (bd pa q) K pt' E := fun γ k Ψ ρ s hk => by
  unfold aCons
  rw [M.assoc]
  refine (ha ρ s).bind fun a r ρ1 h1 => ?_
  obtain ⟨rfl, h1⟩ := h1
  rw [M.assoc]
  have e2 : (fun rs => M.bind (M.ok (DR.dat a :: rs)) fun rs => M.bind (frzAll rs) k) = fun rs => M.bind (frzAll rs) fun ds => k (a :: ds) := by
    funext rs ρ'
    show M.bind (M.bind (frzAll rs) fun ds => M.ok (a :: ds)) k ρ' = _
    rw [M.assoc]; rfl
  rw [e2]
  exact h a _ _ Ψ ρ1 h1 fun ds ρ' s' => hk (a :: ds) ρ' s'
/-- displays: their length is below the limit -/
def tupR (ds : List D) : R D := if ds.length ≤ 16777216 then Rk (.tuple ds) else none
def lstR (ds : List D) : R D := if ds.length ≤ 16777216 then Rk (.list ds) else none
def capR (ds : List D) : R (List D) := if ds.length ≤ 16777216 then Rk ds else none
@[simp] theorem tupR_0 : tupR [] = Rk (.tuple []) := nr rfl
theorem tupR_ok {ds : List D} (h : ds.length ≤ 16777216) : tupR ds = Rk (.tuple ds) := if_pos h
theorem lstR_ok {ds : List D} (h : ds.length ≤ 16777216) : lstR ds = Rk (.list ds) := if_pos h
theorem capR_ok {ds : List D} (h : ds.length ≤ 16777216) : capR ds = Rk ds := if_pos h
theorem x_tup {q : R D} (h : GA ms pt q tupR pt' E) : XF (eTup ms) pt q pt' E := fun ρ s => by
  unfold eTup
  refine h _ _ _ ρ s fun ds ρ' s' => ?_
  unfold tupR
  by_cases hl : ds.length ≤ 16777216
  · rw [if_pos hl, if_pos hl]; exact ⟨_, ρ', rfl, rfl, s'⟩
  · rw [if_neg hl, if_neg hl]; trivial
theorem x_lst {q : R D} (h : GA ms pt q lstR pt' E) : XF (eLst ms) pt q pt' E := fun ρ s => by
  unfold eLst
  refine h _ _ _ ρ s fun ds ρ' s' => ?_
  unfold lstR
  by_cases hl : ds.length ≤ 16777216
  · rw [if_pos hl, if_pos hl]; exact ⟨_, ρ', rfl, rfl, s'⟩
  · rw [if_neg hl, if_neg hl]; trivial
theorem x_cb {f : List D → Option D} {q : R D} (h : GS ms pt q (fun ds => lf (f ds)) E) : XE (eCB f ms) pt q E := fun ρ s => by
  unfold eCB
  refine h _ _ _ ρ s fun ds ρ' s' => Go.then (p := Rk ds) (rdAll_dats ds ρ') ?_
  show Go _ (DL.lf (f ds)) _ _
  cases f ds with
  | none => trivial
  | some z => exact ⟨_, ρ', rfl, rfl, s'⟩
/-- one argument, an own list too -/
theorem x_cb1 {f : List D → Option D} (ha : XR m pt pa E) : XE (eCB f (aCons m aNil)) pt (bd pa fun a => lf (f [a])) E := fun ρ s => by
  unfold eCB aCons
  rw [M.assoc]
  refine (ha ρ s).bind fun a r ρ1 h1 => ?_
  show Go (M.bind (rdAll [r]) (fun ds => M.bind (M.opt (f ds)) fun z => M.ok (DR.dat z)) ρ1) _ _ _
  refine Go.then (p := Rk [a]) (a := [a]) (ρ' := ρ1) ?_ ?_
  · show M.bind (rd r) (fun d => M.bind (rdAll []) fun ds => M.ok (d :: ds)) ρ1 = _
    unfold M.bind
    rw [h1.1.rd h1.2]; rfl
  · cases f [a] with
    | none => trivial
    | some z => exact ⟨_, ρ1, rfl, rfl, h1.2⟩
theorem x_cb1a {f : List D → Option D} (ha : At m pt x) : XE (eCB f (aCons m aNil)) pt (lf (f [x])) E := fun ρ s => x_cb1 (ha.r (E := E)) ρ s
/-! slices -/
def PP (mp : M (Option Int)) (pt : List PV) (p : R (Option Int)) (E : List DV → Prop) : Prop := ∀ ρ, Sees ρ pt → Go (mp ρ) p (fun o c ρ' => c = o ∧ Sees ρ' pt) E
theorem pp_none : PP (mPart none) pt (Rk none) E := fun ρ s => ⟨none, ρ, rfl, rfl, s⟩
def itR (d : D) : R (Option Int) := match d with
  | .int i => Rk (some i)
  | _ => none
@[simp] theorem itR_i {i : Int} : itR (.int i) = Rk (some i) := nr rfl
theorem pp_some (h : XR m pt pa E) : PP (mPart (some m)) pt (bd pa itR) E := fun ρ s => by
  unfold mPart
  refine (h ρ s).bind fun a r ρ1 h1 => Go.then (p := Rk a) (h1.1.rd h1.2) ?_
  cases a with
  | int i => exact ⟨some i, ρ1, rfl, rfl, h1.2⟩
  | _ => trivial
theorem x_sl {ml mh : M (Option Int)} {pl ph : R (Option Int)} (ha : XR m pt pa E) (hl : PP ml pt pl E) (hh : PP mh pt ph E) : XE (eSl m ml mh) pt (bd pa fun a => bd pl fun l => bd ph fun h => lf (slF a l h)) E := fun ρ s => by
  unfold eSl
  refine (ha ρ s).bind fun a r ρ1 h1 => (hl ρ1 h1.2).bind fun l l' ρ2 h2 => ?_
  obtain ⟨rfl, h2⟩ := h2
  refine (hh ρ2 h2).bind fun h h' ρ3 h3 => ?_
  obtain ⟨rfl, h3⟩ := h3
  refine Go.then (p := Rk a) (h1.1.rd h3) ?_
  cases slF a l' h' with
  | none => trivial
  | some z => exact ⟨_, ρ3, rfl, rfl, h3⟩
/-! calls -/
def FG (o : Option (Except Ex RV × List D)) (p : R β) (Ψ : β → RV → List D → Prop) : Prop := match p with
  | none => True
  | some (.ok b) => ∃ r w, o = some (.ok r, w) ∧ Ψ b r w
  | some (.error x) => ∃ w, o = some (.error x, w)
def ΨD (t : D) (r : RV) (_ : List D) : Prop := rvD r = t
def ΨN (t : List D) (r : RV) (_ : List D) : Prop := r = .new t
def ΨDo (t : D × List D) (r : RV) (w : List D) : Prop := rvD r = t.1 ∧ w = t.2
def ΨNo (t : List D × List D) (r : RV) (w : List D) : Prop := r = .new t.1 ∧ w = t.2
theorem callD_go {F : Fsp} {p : R β} {Ψ : β → RV → List D → Prop} {ds : List D} {ρ : List DV} {Φ : β → RV → List DV → Prop} (h : FG (F [] ds) p Ψ) (k : ∀ b r w, Ψ b r w → Φ b r ρ) (hE : E ρ) : Go (callD F ds ρ) p Φ E := by
  match p, h with
  | none, _ => trivial
  | some (.ok b), ⟨r, w, e, q⟩ => exact ⟨r, ρ, by unfold callD; rw [e], k b r w q⟩
  | some (.error x), ⟨w, e⟩ => exact ⟨ρ, by unfold callD; rw [e], hE⟩
theorem x_call {F : Fsp} {P : List D → R D} {q : R D} (hf : ∀ ds, FG (F [] ds) (P ds) ΨD) (h : GA ms pt q P pt' E) (hE : ∀ ρ, Sees ρ pt' → E ρ) : XF (eCall false F ms) pt q pt' E := fun ρ s => by
  unfold eCall callA
  have e : (fun rs => M.bind (if false = true then (match rs with | .loc p :: rs => M.bind (frzAll rs) fun ds => callO F p ds | _ => M.no) else M.bind (frzAll rs) fun ds => callD F ds) fun r => M.ok (DR.dat (rvD r))) = fun rs => M.bind (frzAll rs) fun ds => M.bind (callD F ds) fun r => M.ok (.dat (rvD r)) := by
    funext rs ρ'
    show M.bind (M.bind (frzAll rs) fun ds => callD F ds) _ ρ' = _
    rw [M.assoc]
  refine (show Go (M.bind ms (fun rs => M.bind (frzAll rs) fun ds => M.bind (callD F ds) fun r => M.ok (DR.dat (rvD r))) ρ) q _ E from h _ _ _ ρ s fun ds ρ' s' => ?_) |> fun z => by rw [← e] at z; exact z
  refine Go.map (Φ := fun d r ρ'' => rvD r = d ∧ Sees ρ'' pt') ?_ fun b r ρ2 k => ⟨_, ρ2, rfl, by rw [k.1], k.2⟩
  exact callD_go (hf ds) (fun b r w q => ⟨q, s'⟩) (hE ρ' s')
theorem x_callK {π : List Nat} {F : Fsp} {P : List D → R D} {q : R D} (hf : ∀ ds, FG (F [] ds) (P ds) ΨD) (h : GA ms pt q (fun ds => P (permR π ds)) pt' E) (hE : ∀ ρ, Sees ρ pt' → E ρ) : XF (eCallK π F ms) pt q pt' E := fun ρ s => by
  unfold eCallK
  refine h _ _ _ ρ s fun ds ρ' s' => ?_
  refine Go.map (Φ := fun d r ρ'' => rvD r = d ∧ Sees ρ'' pt') ?_ fun b r ρ2 k => ⟨_, ρ2, rfl, by rw [k.1], k.2⟩
  exact callD_go (hf _) (fun b r w q => ⟨q, s'⟩) (hE ρ' s')
/-- a def that makes a new list, as data -/
def nD (P : List D → R (List D)) (ds : List D) : R D := bd (P ds) fun l => Rk (.list l)
theorem nD_fg {F : Fsp} {P : List D → R (List D)} (hf : ∀ ds, FG (F [] ds) (P ds) ΨN) (ds : List D) : FG (F [] ds) (nD P ds) ΨD := by
  have h := hf ds
  unfold nD
  match P ds, h with
  | none, _ => trivial
  | some (.ok b), h =>
    obtain ⟨r, w, e, rfl⟩ := h
    exact ⟨_, w, e, rfl⟩
  | some (.error x), h => exact h
end
end DL

set_option Elab.async false
set_option linter.all false
set_option maxRecDepth 100000
set_option maxHeartbeats 4000000
/-! PF2: what is walked, comprehensions, new lists. -/
namespace DL
open PySem PySem.Spec PyProof.Rows L2
section
variable {α β γ δ σ : Type} {m ma mb mc : M DR} {pt pt' : List PV} {pa pb pc : R D} {E : List DV → Prop} {d x y : D} {i : Nat} {ms : M (List DR)}
/-! ### what is walked -/
def IE (mi : M (List D)) (pt : List PV) (p : R (List D)) (pt' : List PV) (E : List DV → Prop) : Prop := ∀ ρ, Sees ρ pt → Go (mi ρ) p (fun ds es ρ' => es = ds ∧ Sees ρ' pt') E
def itR' (d : D) : R (List D) := lf (itemsD d)
@[simp] theorem itR'_l {ds : List D} : itR' (.list ds) = Rk ds := nr rfl
@[simp] theorem itR'_t {ds : List D} : itR' (.tuple ds) = Rk ds := nr rfl
theorem optL_go {o : Option (List D)} {ρ : List DV} (s : Sees ρ pt) : Go (M.opt o ρ) (lf o) (fun ds es ρ' => es = ds ∧ Sees ρ' pt) E := by
  cases o with
  | none => trivial
  | some z => exact ⟨z, ρ, rfl, rfl, s⟩
theorem i_rng {q : R (List D)} (h : GS ms pt q (fun ds => lf (rngF ds)) E) : IE (iRng ms) pt q pt E := fun ρ s => by
  unfold iRng
  refine h _ _ _ ρ s fun ds ρ' s' => Go.then (p := Rk ds) (rdAll_dats ds ρ') ?_
  exact optL_go s'
theorem i_dat (h : XF m pt pa pt' E) : IE (iDat m) pt (bd pa itR') pt' E := fun ρ s => by
  unfold iDat
  refine (h ρ s).bind fun d r ρ' k => ?_
  obtain ⟨rfl, k⟩ := k
  refine Go.then (p := Rk d) (a := d) (ρ' := ρ') rfl ?_
  exact optL_go k
theorem i_at (h : AtS m pt x) : IE (iDat m) pt (itR' x) pt E := fun ρ s => i_dat (h.e (E := E)) ρ s
theorem i_own {ds : List D} (e : pt[i]? = some (.is (.lst ds))) : IE (iDat (eVar i)) pt (Rk ds) (pt.set i (.is (.dat (.list ds)))) E := fun ρ s => by
  refine ⟨ds, ρ.set i (.dat (.list ds)), ?_, rfl, s.set rfl⟩
  unfold iDat
  have h1 : eVar i ρ = some (.ok (.loc i), ρ) := by unfold eVar; rw [s.is e]
  have h2 : frz (.loc i) ρ = some (.ok (.list ds), ρ.set i (.dat (.list ds))) := by unfold frz; dsimp only; rw [s.is e]
  rw [bind_at h1, bind_at h2]; rfl
theorem i_zip {q : R (List D)} (h : GA ms pt q (fun ds => lf (zipF ds)) pt' E) : IE (iZip ms) pt q pt' E := fun ρ s => by
  unfold iZip
  exact h _ _ _ ρ s fun ds ρ' s' => optL_go s'
theorem i_enm {q : R (List D)} (h : GA ms pt q (fun ds => lf (enumF ds)) pt' E) : IE (iEnm ms) pt q pt' E := fun ρ s => by
  unfold iEnm
  exact h _ _ _ ρ s fun ds ρ' s' => optL_go s'

/-! ### targets -/
def un2 (d : D) : R (D × D) := match d with
  | .tuple [a, b] => Rk (a, b)
  | _ => none
def un3 (d : D) : R (D × D × D) := match d with
  | .tuple [a, b, c] => Rk (a, b, c)
  | _ => none
def un4 (d : D) : R (D × D × D × D) := match d with
  | .tuple [a, b, c, e] => Rk (a, b, c, e)
  | _ => none
@[simp] theorem un2_t {a b : D} : un2 (.tuple [a, b]) = Rk (a, b) := nr rfl
@[simp] theorem un3_t {a b c : D} : un3 (.tuple [a, b, c]) = Rk (a, b, c) := nr rfl
@[simp] theorem un4_t {a b c e : D} : un4 (.tuple [a, b, c, e]) = Rk (a, b, c, e) := nr rfl
def WrAt (pt : List PV) (i : Nat) : Prop := (pt[i]?).map PV.wr = some true
/-- a target stored: what is seen behind it hangs on t -/
def SE (g : M Unit) (pt : List PV) (p : R β) (pt' : β → List PV) (E : List DV → Prop) : Prop := ∀ ρ, Sees ρ pt → Go (g ρ) p (fun b _ ρ' => Sees ρ' (pt' b)) E
theorem s_nm (w : WrAt pt i) : SE (setT (.nm i) d) pt (Rk d) (fun d => pt.set i (.is (.dat d))) E := fun ρ s => ⟨(), _, s.setD w, s.set rfl⟩
theorem sees_set2 {ρ : List DV} {i j : Nat} {a b : D} (s : Sees ρ pt) (w1 : WrAt pt i) (w2 : WrAt (pt.set i (.is (.dat a))) j) :
    setDs [i, j] [a, b] ρ = some (.ok (), (ρ.set i (.dat a)).set j (.dat b)) ∧ Sees ((ρ.set i (.dat a)).set j (.dat b)) ((pt.set i (.is (.dat a))).set j (.is (.dat b))) := by
  have s1 : Sees (ρ.set i (.dat a)) (pt.set i (.is (.dat a))) := s.set rfl
  refine ⟨?_, s1.set rfl⟩
  show M.bind (setD i a) (fun _ => M.bind (setD j b) fun _ => M.ok ()) ρ = _
  rw [bind_at (s.setD w1), bind_at (s1.setD w2)]; rfl
theorem sees_set3 {ρ : List DV} {i j l : Nat} {a b c : D} (s : Sees ρ pt) (w1 : WrAt pt i) (w2 : WrAt (pt.set i (.is (.dat a))) j) (w3 : WrAt ((pt.set i (.is (.dat a))).set j (.is (.dat b))) l) :
    setDs [i, j, l] [a, b, c] ρ = some (.ok (), ((ρ.set i (.dat a)).set j (.dat b)).set l (.dat c)) ∧ Sees (((ρ.set i (.dat a)).set j (.dat b)).set l (.dat c)) (((pt.set i (.is (.dat a))).set j (.is (.dat b))).set l (.is (.dat c))) := by
  have s1 : Sees (ρ.set i (.dat a)) (pt.set i (.is (.dat a))) := s.set rfl
  have s2 : Sees ((ρ.set i (.dat a)).set j (.dat b)) ((pt.set i (.is (.dat a))).set j (.is (.dat b))) := s1.set rfl
  refine ⟨?_, s2.set rfl⟩
  show M.bind (setD i a) (fun _ => M.bind (setD j b) fun _ => M.bind (setD l c) fun _ => M.ok ()) ρ = _
  rw [bind_at (s.setD w1), bind_at (s1.setD w2), bind_at (s2.setD w3)]; rfl
theorem sees_set4 {ρ : List DV} {i j l n : Nat} {a b c e : D} (s : Sees ρ pt) (w1 : WrAt pt i) (w2 : WrAt (pt.set i (.is (.dat a))) j) (w3 : WrAt ((pt.set i (.is (.dat a))).set j (.is (.dat b))) l) (w4 : WrAt (((pt.set i (.is (.dat a))).set j (.is (.dat b))).set l (.is (.dat c))) n) :
    setDs [i, j, l, n] [a, b, c, e] ρ = some (.ok (), (((ρ.set i (.dat a)).set j (.dat b)).set l (.dat c)).set n (.dat e)) ∧ Sees ((((ρ.set i (.dat a)).set j (.dat b)).set l (.dat c)).set n (.dat e)) ((((pt.set i (.is (.dat a))).set j (.is (.dat b))).set l (.is (.dat c))).set n (.is (.dat e))) := by
  have s1 : Sees (ρ.set i (.dat a)) (pt.set i (.is (.dat a))) := s.set rfl
  have s2 : Sees ((ρ.set i (.dat a)).set j (.dat b)) ((pt.set i (.is (.dat a))).set j (.is (.dat b))) := s1.set rfl
  have s3 : Sees (((ρ.set i (.dat a)).set j (.dat b)).set l (.dat c)) (((pt.set i (.is (.dat a))).set j (.is (.dat b))).set l (.is (.dat c))) := s2.set rfl
  refine ⟨?_, s3.set rfl⟩
  show M.bind (setD i a) (fun _ => M.bind (setD j b) fun _ => M.bind (setD l c) fun _ => M.bind (setD n e) fun _ => M.ok ()) ρ = _
  rw [bind_at (s.setD w1), bind_at (s1.setD w2), bind_at (s2.setD w3), bind_at (s3.setD w4)]; rfl
theorem s_tp2 {i j : Nat} (w1 : WrAt pt i) (w2 : ∀ a, WrAt (pt.set i (.is (.dat a))) j) : SE (setT (.tp [i, j]) d) pt (un2 d) (fun t => (pt.set i (.is (.dat t.1))).set j (.is (.dat t.2))) E := fun ρ s => by
  unfold un2
  split
  · rename_i a b
    obtain ⟨e, s'⟩ := sees_set2 (b := b) s w1 (w2 a)
    exact ⟨(), _, e, s'⟩
  · trivial
theorem s_tp3 {i j l : Nat} (w1 : WrAt pt i) (w2 : ∀ a, WrAt (pt.set i (.is (.dat a))) j) (w3 : ∀ a b, WrAt ((pt.set i (.is (.dat a))).set j (.is (.dat b))) l) : SE (setT (.tp [i, j, l]) d) pt (un3 d) (fun t => ((pt.set i (.is (.dat t.1))).set j (.is (.dat t.2.1))).set l (.is (.dat t.2.2))) E := fun ρ s => by
  unfold un3
  split
  · rename_i a b c
    obtain ⟨e, s'⟩ := sees_set3 (c := c) s w1 (w2 a) (w3 a b)
    exact ⟨(), _, e, s'⟩
  · trivial
theorem s_tp4 {i j l n : Nat} (w1 : WrAt pt i) (w2 : ∀ a, WrAt (pt.set i (.is (.dat a))) j) (w3 : ∀ a b, WrAt ((pt.set i (.is (.dat a))).set j (.is (.dat b))) l) (w4 : ∀ a b c, WrAt (((pt.set i (.is (.dat a))).set j (.is (.dat b))).set l (.is (.dat c))) n) :
    SE (setT (.tp [i, j, l, n]) d) pt (un4 d) (fun t => (((pt.set i (.is (.dat t.1))).set j (.is (.dat t.2.1))).set l (.is (.dat t.2.2.1))).set n (.is (.dat t.2.2.2))) E := fun ρ s => by
  unfold un4
  split
  · rename_i a b c e
    obtain ⟨z, s'⟩ := sees_set4 (e := e) s w1 (w2 a) (w3 a b) (w4 a b c)
    exact ⟨(), _, z, s'⟩
  · trivial

/-! ### comprehensions -/
/-- a comprehension: its turns thread what changes -/
def lcI (f : σ → D → R (Option D × σ)) : σ → List D → R (List D × σ)
  | s, [] => Rk ([], s)
  | s, d :: ds => bd (quiet (f s d)) fun o => bd (lcI f o.2 ds) fun es => Rk (match o.1 with
    | some y => y :: es.1
    | none => es.1, es.2)
def capI (b : List D × σ) : R (List D × σ) := if b.1.length ≤ 16777216 then Rk b else none
/-- a turn's test and element -/
def lcEl (mt : M Bool) (me : M DR) : M (Option D) := M.bind mt fun b => if b = true then M.bind me fun r => M.bind (frz r) fun y => M.ok (some y) else M.ok none
/-- the slots of a comprehension's own names, while it runs -/
def wipeP (vs : List Nat) : Nat → List PV → List PV
  | _, [] => []
  | k, p :: pt => (if vs.contains k then .any else p) :: wipeP vs (k + 1) pt
def PV.wip : PV → Bool
  | .any => true
  | .is .un => true
  | .is (.dat _) => true
  | _ => false
def canWipe (vs : List Nat) : Nat → List PV → Bool
  | _, [] => true
  | k, p :: pt => (!vs.contains k || p.wip) && canWipe vs (k + 1) pt
theorem PV.wip_le {p : PV} (h : p.wip = true) : Pl1 p .any := by
  cases p with
  | any => exact .r
  | is x => cases x <;> first | exact .u | exact .a | cases h
  | _ => cases h
theorem wipe_le {vs : List Nat} : ∀ {k : Nat} {pt : List PV}, canWipe vs k pt = true → PLe pt (wipeP vs k pt)
  | _, [], _ => .n
  | k, p :: pt, h => by
    unfold canWipe at h
    rw [Bool.and_eq_true, Bool.or_eq_true] at h
    refine .c ?_ (wipe_le h.2)
    by_cases hc : vs.contains k = true
    · rw [if_pos hc]
      rcases h.1 with h1 | h1
      · rw [hc] at h1; cases h1
      · exact PV.wip_le h1
    · rw [if_neg hc]; exact .r
theorem wipeP_len {vs : List Nat} : ∀ {k : Nat} {pt : List PV}, (wipeP vs k pt).length = pt.length
  | _, [] => rfl
  | k, p :: pt => by show (_ :: wipeP vs (k + 1) pt).length = _; rw [List.length_cons, List.length_cons, wipeP_len]
theorem wipeP_at {vs : List Nat} : ∀ {k : Nat} {pt : List PV} {i : Nat} {p : PV}, pt[i]? = some p → (wipeP vs k pt)[i]? = some (if vs.contains (k + i) then .any else p)
  | _, [], _, _, e => by simp at e
  | k, q :: pt, 0, p, e => by simp at e; subst e; rfl
  | k, q :: pt, i + 1, p, e => by
    have := wipeP_at (vs := vs) (k := k + 1) (i := i) (by simpa using e)
    show (wipeP vs (k + 1) pt)[i]? = _
    rw [this, Nat.add_assoc, Nat.add_comm 1 i]
theorem sees_iff : ∀ {ρ : List DV} {pt : List PV}, Sees ρ pt ↔ ρ.length = pt.length ∧ ∀ (i : Nat) (x : DV) (p : PV), ρ[i]? = some x → pt[i]? = some p → Sm x p
  | [], [] => ⟨fun _ => ⟨rfl, fun i x p e => by simp at e⟩, fun _ => trivial⟩
  | [], _ :: _ => ⟨fun h => h.elim, fun h => by simp at h⟩
  | _ :: _, [] => ⟨fun h => h.elim, fun h => by simp at h⟩
  | x :: ρ, p :: pt => by
    constructor
    · intro h
      refine ⟨by rw [List.length_cons, List.length_cons, h.2.len], fun i y q e1 e2 => ?_⟩
      cases i with
      | zero => simp at e1 e2; subst e1 e2; exact h.1
      | succ i => exact (sees_iff.mp h.2).2 i y q (by simpa using e1) (by simpa using e2)
    · intro h
      refine ⟨h.2 0 x p rfl rfl, sees_iff.mpr ⟨by have := h.1; simpa using this, fun i y q e1 e2 => h.2 (i + 1) y q (by simpa using e1) (by simpa using e2)⟩⟩
theorem Sees.at' {ρ : List DV} {x : DV} (s : Sees ρ pt) (e : ρ[i]? = some x) : ∃ p, pt[i]? = some p ∧ Sm x p := by
  have hi : i < pt.length := by rw [← s.len]; exact (List.getElem?_eq_some_iff.mp e).1
  exact ⟨pt[i], List.getElem?_eq_getElem hi, (sees_iff.mp s).2 i x _ e (List.getElem?_eq_getElem hi)⟩
theorem any_wip {ρ : List DV} {x : DV} (h : Sm x .any) : (match some x with | some .un => true | some (.dat _) => true | _ => false) = true := by
  rcases h with rfl | ⟨d, rfl⟩ <;> rfl
/-- the own slots can be wiped, and then lie as the pattern says -/
theorem Sees.wipe {ρ ρ2 : List DV} {vs : List Nat} (s : Sees ρ (wipeP vs 0 pt)) (hv : ∀ i ∈ vs, i < pt.length) : mWipe vs (ρ ++ ρ2) = some (.ok (), wipeD vs (ρ ++ ρ2)) ∧ ∃ ρ', wipeD vs (ρ ++ ρ2) = ρ' ++ ρ2 ∧ Sees ρ' (wipeP vs 0 pt) := by
  have hl : ρ.length = pt.length := by rw [s.len, wipeP_len]
  constructor
  · unfold mWipe
    rw [if_pos]
    unfold wipeOk
    rw [List.all_eq_true]
    intro i hi
    have hi' := hv i hi
    obtain ⟨x, e, k⟩ := s.at (wipeP_at (vs := vs) (k := 0) (List.getElem?_eq_getElem hi'))
    rw [Nat.zero_add, if_pos (by simpa using hi)] at k
    rw [List.getElem?_append_left (by omega), e]
    exact any_wip (ρ := ρ) k
  · refine ⟨wipeD vs ρ, ?_, ?_⟩
    · unfold wipeD
      apply List.ext_getElem?
      intro i
      rw [List.getElem?_mapIdx]
      by_cases hi : i < ρ.length
      · rw [List.getElem?_append_left hi, List.getElem?_append_left (by rw [List.length_mapIdx]; exact hi), List.getElem?_mapIdx]
      · rw [List.getElem?_append_right (by omega), List.getElem?_append_right (by rw [List.length_mapIdx]; omega), List.length_mapIdx]
        have hc : ¬ vs.contains i = true := fun z => by
          have := hv i (by simpa using z)
          omega
        cases ρ2[i - ρ.length]? with
        | none => rfl
        | some x => simp only [Option.map_some]; rw [if_neg hc]
    · rw [sees_iff]
      refine ⟨by unfold wipeD; rw [List.length_mapIdx, s.len], fun i x p e1 e2 => ?_⟩
      unfold wipeD at e1
      rw [List.getElem?_mapIdx] at e1
      cases h1 : ρ[i]? with
      | none => rw [h1] at e1; cases e1
      | some y =>
        rw [h1] at e1
        simp only [Option.map_some, Option.some.injEq] at e1
        obtain ⟨q, e3, k⟩ := s.at' h1
        rw [e2] at e3; cases e3
        by_cases hc : vs.contains i = true
        · rw [if_pos hc] at e1; subst e1
          have hi : i < pt.length := hv i (by simpa using hc)
          rw [wipeP_at (vs := vs) (k := 0) (List.getElem?_eq_getElem hi), Nat.zero_add, if_pos hc] at e2
          cases e2; exact .inl rfl
        · rw [if_neg hc] at e1; subst e1; exact k
/-- behind it the own slots lie as before -/
theorem Sees.rest {ρ ρ' : List DV} {vs : List Nat} {pt0 ptF : List PV} {x y : DV} (s : Sees ρ pt0) (s' : Sees ρ' (wipeP vs 0 ptF)) (hl : pt0.length = ptF.length) (hv : ∀ i ∈ vs, i < ptF.length) (h : vs.map (fun i => ptF[i]?) = vs.map (fun i => pt0[i]?)) :
    ∃ ρ2, restD vs (ρ ++ [x]) (ρ' ++ [y]) = ρ2 ++ [y] ∧ Sees ρ2 ptF := by
  have hl1 : ρ.length = ptF.length := by rw [s.len, hl]
  have hl2 : ρ'.length = ptF.length := by rw [s'.len, wipeP_len]
  refine ⟨restD vs ρ ρ', ?_, ?_⟩
  · unfold restD
    apply List.ext_getElem?
    intro i
    rw [List.getElem?_mapIdx]
    by_cases hi : i < ρ'.length
    · have a1 : (ρ' ++ [y])[i]? = ρ'[i]? := List.getElem?_append_left hi
      have a2 : (ρ ++ [x])[i]? = ρ[i]? := List.getElem?_append_left (by omega)
      rw [a1, a2, List.getElem?_append_left (l₁ := List.mapIdx _ _) (by rw [List.length_mapIdx]; exact hi), List.getElem?_mapIdx]
    · have a1 : (ρ' ++ [y])[i]? = [y][i - ρ'.length]? := List.getElem?_append_right (by omega)
      rw [a1, List.getElem?_append_right (l₁ := List.mapIdx _ _) (by rw [List.length_mapIdx]; omega), List.length_mapIdx]
      have hc : ¬ vs.contains i = true := fun z => by
        have := hv i (by simpa using z)
        omega
      cases ([y] : List DV)[i - ρ'.length]? with
      | none => rfl
      | some x => simp only [Option.map_some]; rw [if_neg hc]
  · rw [sees_iff]
    refine ⟨by unfold restD; rw [List.length_mapIdx, hl2], fun i x p e1 e2 => ?_⟩
    unfold restD at e1
    rw [List.getElem?_mapIdx] at e1
    cases h1 : ρ'[i]? with
    | none => rw [h1] at e1; cases e1
    | some y =>
      rw [h1] at e1
      simp only [Option.map_some, Option.some.injEq] at e1
      by_cases hc : vs.contains i = true
      · rw [if_pos hc] at e1
        have hi : i ∈ vs := by simpa using hc
        have e3 : ptF[i]? = pt0[i]? := List.map_inj_left.mp h i hi
        rw [e2] at e3
        obtain ⟨z, ez, sz⟩ := s.at e3.symm
        rw [ez, Option.getD_some] at e1
        subst e1; exact sz
      · rw [if_neg hc] at e1
        subst e1
        obtain ⟨q, e3, k⟩ := s'.at' h1
        rw [wipeP_at (vs := vs) (k := 0) e2, Nat.zero_add, if_neg hc] at e3
        cases e3; exact k
/-- a turn of a comprehension, seen by patterns -/
def LT (t : DT) (mt : M Bool) (me : M DR) (P : σ → List PV) (s : σ) (d : D) (p : R (Option D × σ)) (E : List DV → Prop) : Prop :=
  ∀ ρ, Sees ρ (P s) → Go (M.bind (setT t d) (fun _ => lcEl mt me) ρ) p (fun b o ρ' => o = b.1 ∧ Sees ρ' (P b.2)) E
theorem lcTurn_eq {t : DT} {mt : M Bool} {me : M DR} {vs : List Nat} {d : D} (ρ : List DV) : lcTurn t mt me vs d ρ = M.bind (M.bind (setT t d) fun _ => lcEl mt me) (fun o => M.bind (match o with | some y => accAdd y | none => M.ok ()) fun _ => mWipe vs) ρ := by
  unfold lcTurn lcEl
  rw [M.assoc]
  unfold M.bind
  cases setT t d ρ with
  | none => rfl
  | some o =>
    obtain ⟨o, ρ1⟩ := o
    cases o with
    | error e => rfl
    | ok u =>
      dsimp only
      cases mt ρ1 with
      | none => rfl
      | some o =>
        obtain ⟨o, ρ2⟩ := o
        cases o with
        | error e => rfl
        | ok b =>
          cases b with
          | false => rfl
          | true =>
            dsimp only
            rw [if_pos rfl, if_pos rfl]
            cases me ρ2 with
            | none => rfl
            | some o =>
              obtain ⟨o, ρ3⟩ := o
              cases o with
              | error e => rfl
              | ok r =>
                dsimp only
                cases frz r ρ3 with
                | none => rfl
                | some o =>
                  obtain ⟨o, ρ4⟩ := o
                  cases o <;> rfl
theorem accAdd_at {ρ : List DV} {acc : List D} {y : D} (h : acc.length < 16777216) : accAdd y (ρ ++ [.lst acc]) = some (.ok (), ρ ++ [.lst (acc ++ [y])]) := by
  unfold accAdd
  rw [List.getLast?_append]
  simp [h]
theorem lcGo_go {f : σ → D → R (Option D × σ)} {t : DT} {mt : M Bool} {me : M DR} {vs : List Nat} {pc : σ → List PV} {E : List DV → Prop} (hv : ∀ s, ∀ i ∈ vs, i < (pc s).length)
    (hb : ∀ s d acc, LT t mt me (fun s => wipeP vs 0 (pc s) ++ [.is (.lst acc)]) s d (f s d) E) : ∀ (ds : List D) (s : σ) (acc : List D) (ρ : List DV) (es : List D) (s' : σ), Sees ρ (wipeP vs 0 (pc s)) → lcI f s ds = Rk (es, s') → acc.length + es.length ≤ 16777216 →
      ∃ ρ', lcGo t mt me vs ds (ρ ++ [.lst acc]) = some (.ok (), ρ' ++ [.lst (acc ++ es)]) ∧ Sees ρ' (wipeP vs 0 (pc s'))
  | [], s, acc, ρ, es, s', S, h, hl => by
    cases h
    exact ⟨ρ, by rw [List.append_nil]; rfl, S⟩
  | d :: ds, s, acc, ρ, es, s', S, h, hl => by
    unfold lcI at h
    obtain ⟨o, h1, h2⟩ := bd_Rk.mp h
    obtain ⟨es2, h3, h4⟩ := bd_Rk.mp h2
    have g := hb s d acc (ρ ++ [.lst acc]) (S.snoc (x := .lst acc) (q := .is (.lst acc)) rfl)
    have ef : f s d = Rk o := by
      cases q : f s d with
      | none => rw [q] at h1; cases h1
      | some z =>
        cases z with
        | error e => rw [q] at h1; cases h1
        | ok b => rw [q] at h1; exact h1
    rw [ef] at g
    obtain ⟨o', ρ1, e1, rfl, S1⟩ := g
    obtain ⟨ρ2, rfl, S2⟩ := S1.unis
    rw [Rk_inj] at h4
    cases h4
    show ∃ ρ', M.bind (lcTurn t mt me vs d) (fun _ => lcGo t mt me vs ds) _ = _ ∧ _
    cases ho : o.1 with
    | none =>
      rw [ho] at e1 hl
      obtain ⟨w1, ρ3, w2, S3⟩ := S2.wipe (ρ2 := [.lst acc]) (hv o.2)
      have e2 : lcTurn t mt me vs d (ρ ++ [.lst acc]) = some (.ok (), ρ3 ++ [.lst acc]) := by
        rw [lcTurn_eq, bind_at e1]
        show mWipe vs _ = _
        rw [w1, w2]
      rw [bind_at e2]
      exact lcGo_go hv hb ds o.2 acc ρ3 es2.1 es2.2 S3 h3 hl
    | some y =>
      rw [ho] at e1 hl
      have hl' : acc.length + (es2.1.length + 1) ≤ 16777216 := by simpa using hl
      obtain ⟨w1, ρ3, w2, S3⟩ := S2.wipe (ρ2 := [.lst (acc ++ [y])]) (hv o.2)
      have e2 : lcTurn t mt me vs d (ρ ++ [.lst acc]) = some (.ok (), ρ3 ++ [.lst (acc ++ [y])]) := by
        rw [lcTurn_eq, bind_at e1]
        show M.bind (accAdd y) (fun _ => mWipe vs) _ = _
        rw [bind_at (accAdd_at (by omega)), w1, w2]
      rw [bind_at e2]
      have := lcGo_go hv hb ds o.2 (acc ++ [y]) ρ3 es2.1 es2.2 S3 h3 (by rw [List.length_append]; simp; omega)
      rw [List.append_assoc] at this
      exact this
/-- a new list: it lies behind the others -/
def NI (m : M Unit) (pt : List PV) (p : R (List D × σ)) (pc : σ → List PV) (E : List DV → Prop) : Prop := ∀ ρ, Sees ρ pt → Go (m ρ) p (fun b _ ρ' => ∃ ρ0, ρ' = ρ0 ++ [.lst b.1] ∧ Sees ρ0 (pc b.2)) E
def NE (m : M Unit) (pt : List PV) (p : R (List D)) (pt' : List PV) (E : List DV → Prop) : Prop := ∀ ρ, Sees ρ pt → Go (m ρ) p (fun b _ ρ' => ∃ ρ0, ρ' = ρ0 ++ [.lst b] ∧ Sees ρ0 pt') E
theorem n_lcI {f : σ → D → R (Option D × σ)} {mi : M (List D)} {t : DT} {mt : M Bool} {me : M DR} {vs : List Nat} {pc : σ → List PV} {s0 : σ} {pi : R (List D)} {E2 : List DV → Prop}
    (hi : IE mi pt pi (pc s0) E) (hw : canWipe vs 0 (pc s0) = true) (hv : ∀ s, ∀ i ∈ vs, i < (pc s).length) (hp : ∀ s, (pc s0).length = (pc s).length ∧ vs.map (fun i => (pc s)[i]?) = vs.map (fun i => (pc s0)[i]?))
    (hb : ∀ s d acc, LT t mt me (fun s => wipeP vs 0 (pc s) ++ [.is (.lst acc)]) s d (f s d) E2) : NI (nLc mi t mt me vs) pt (bd pi fun ds => bd (lcI f s0 ds) capI) pc E := fun ρ S => by
  unfold nLc
  refine (hi ρ S).bind fun ds es ρ1 k => ?_
  obtain ⟨rfl, S1⟩ := k
  refine Go.then (p := Rk ()) (a := ()) (ρ' := ρ1 ++ [.lst []]) rfl ?_
  match q : bd (lcI f s0 es) capI with
  | none => trivial
  | some (.error x) =>
    exfalso
    have : ∀ (ds : List D) (s : σ) (x : Ex), lcI f s ds ≠ some (.error x) := by
      intro ds
      induction ds with
      | nil => intro s x h; cases h
      | cons d ds ih =>
        intro s x h
        unfold lcI at h
        match z : quiet (f s d) with
        | none => rw [z] at h; cases h
        | some (.error y) => unfold quiet at z; split at z <;> first | cases z | (rename_i h2; exact h2 _ z)
        | some (.ok o) =>
          rw [z] at h
          match z2 : lcI f o.2 ds with
          | none => simp only [bd, z2] at h; cases h
          | some (.error y) => exact ih _ _ z2
          | some (.ok w) => simp only [bd, z2] at h; cases h
    match z : lcI f s0 es with
    | none => rw [z] at q; cases q
    | some (.error y) => exact this _ _ _ z
    | some (.ok w) =>
      rw [z] at q
      change capI w = _ at q
      unfold capI at q
      split at q <;> cases q
  | some (.ok b) =>
    obtain ⟨w, h1, h2⟩ := bd_Rk.mp (show bd (lcI f s0 es) capI = Rk b from q)
    unfold capI at h2
    split at h2
    case isFalse => cases h2
    rename_i hl
    rw [Rk_inj] at h2
    subst h2
    have S2 := S1.weak (wipe_le hw)
    obtain ⟨w1, ρ2, w2, S3⟩ := S2.wipe (ρ2 := [.lst []]) (hv s0)
    obtain ⟨ρ3, e3, S4⟩ := lcGo_go hv hb es s0 [] ρ2 w.1 w.2 S3 h1 (by simpa using hl)
    obtain ⟨ρ4, e4, S5⟩ := S1.rest (x := .lst []) (y := .lst w.1) S4 (hp w.2).1 (hv w.2) (hp w.2).2
    refine ⟨(), ρ4 ++ [.lst w.1], ?_, ρ4, rfl, S5⟩
    unfold lcRun
    rw [bind_at w1, w2, e3]
    dsimp only
    rw [List.nil_append, e4]
/-! without change -/
def lcP (f : D → R (Option D)) : List D → R (List D)
  | [] => Rk []
  | d :: ds => bd (quiet (f d)) fun o => bd (lcP f ds) fun es => Rk (match o with
    | some y => y :: es
    | none => es)
def lcR (f : D → R (Option D)) (ds : List D) : R (List D) := bd (lcP f ds) capR
def mapR (g : D → R D) (ds : List D) : R (List D) := lcR (fun d => bd (g d) fun y => Rk (some y)) ds
def selR (c : R Bool) (e : R D) : R (Option D) := bd c fun b => if b = true then bd e fun y => Rk (some y) else Rk none
theorem lcI_unit {f : D → R (Option D)} : ∀ ds : List D, lcI (fun (_ : Unit) d => bd (f d) fun o => Rk (o, ())) () ds = bd (lcP f ds) fun es => Rk (es, ())
  | [] => rfl
  | d :: ds => by
    unfold lcI lcP
    match f d with
    | none => rfl
    | some (.error x) => rfl
    | some (.ok o) =>
      show bd (lcI _ () ds) _ = bd (bd (lcP f ds) _) _
      rw [lcI_unit ds, bd_assoc, bd_assoc]; rfl
theorem n_lc {f : D → R (Option D)} {mi : M (List D)} {t : DT} {mt : M Bool} {me : M DR} {vs : List Nat} {pi : R (List D)} {E2 : List DV → Prop}
    (hi : IE mi pt pi pt' E) (hw : canWipe vs 0 pt' = true) (hv : ∀ i ∈ vs, i < pt'.length)
    (hb : ∀ d acc, LT t mt me (fun (_ : Unit) => wipeP vs 0 pt' ++ [.is (.lst acc)]) () d (bd (f d) fun o => Rk (o, ())) E2) : NE (nLc mi t mt me vs) pt (bd pi fun ds => lcR f ds) pt' E := fun ρ S => by
  have h := n_lcI (σ := Unit) (pc := fun _ => pt') (s0 := ()) hi hw (fun _ => hv) (fun _ => ⟨rfl, rfl⟩) (fun _ d acc => hb d acc) ρ S
  have e : (bd pi fun ds => bd (lcI (fun (_ : Unit) d => bd (f d) fun o => Rk (o, ())) () ds) capI) = bd (bd pi fun ds => lcR f ds) fun es => Rk (es, ()) := by
    rw [bd_assoc]
    congr 1
    funext ds
    rw [lcI_unit, bd_assoc]
    unfold lcR
    rw [bd_assoc]
    congr 1
    funext es
    show capI (es, ()) = bd (capR es) _
    unfold capI capR
    split <;> rfl
  rw [e] at h
  match bd pi fun ds => lcR f ds, h with
  | none, _ => trivial
  | some (.error x), h => exact h
  | some (.ok b), h => exact h
theorem lt_map {pt2' : β → List PV} {t : DT} {ps : R β} {ptt : β → List PV} {me : M DR} {pe : β → R D} (hs : SE (setT t d) pt ps ptt E) (he : ∀ b, XF me (ptt b) (pe b) (pt2' b) E) (hw : ∀ b, PLe (pt2' b) pt) : LT t (M.ok true) me (fun (_ : Unit) => pt) () d (bd (bd (bd ps fun b => pe b) fun y => Rk (some y)) fun o => Rk (o, ())) E := fun ρ S => by
  rw [bd_assoc, bd_assoc]
  refine (hs ρ S).bind fun b _ ρ1 S1 => ?_
  show Go (M.bind me (fun r => M.bind (frz r) fun y => M.ok (some y)) ρ1) _ _ _
  refine (he b ρ1 S1).bind fun y r ρ2 k => ?_
  obtain ⟨rfl, S2⟩ := k
  exact ⟨some y, ρ2, rfl, rfl, S2.weak (hw b)⟩
theorem lt_sel {pt2' : β → List PV} {t : DT} {ps : R β} {ptt : β → List PV} {mt : M Bool} {me : M DR} {pt1 : β → R Bool} {pe : β → R D} (hs : SE (setT t d) pt ps ptt E) (ht : ∀ b, TE mt (ptt b) (pt1 b) E) (he : ∀ b, XF me (ptt b) (pe b) (pt2' b) E) (hw : ∀ b, PLe (pt2' b) pt) (hw2 : ∀ b, PLe (ptt b) pt) :
    LT t mt me (fun (_ : Unit) => pt) () d (bd (bd ps fun b => selR (pt1 b) (pe b)) fun o => Rk (o, ())) E := fun ρ S => by
  rw [bd_assoc]
  refine (hs ρ S).bind fun b _ ρ1 S1 => ?_
  unfold selR lcEl
  rw [bd_assoc]
  refine (ht b ρ1 S1).bind fun c c' ρ2 k => ?_
  obtain ⟨rfl, S2⟩ := k
  cases c' with
  | false => exact ⟨none, ρ2, rfl, rfl, S2.weak (hw2 b)⟩
  | true =>
    rw [if_pos rfl, if_pos rfl, bd_assoc]
    refine (he b ρ2 S2).bind fun y r ρ3 k => ?_
    obtain ⟨rfl, S3⟩ := k
    exact ⟨some y, ρ3, rfl, rfl, S3.weak (hw b)⟩
theorem n_map {g : D → R D} {mi : M (List D)} {t : DT} {mt : M Bool} {me : M DR} {vs : List Nat} {pi : R (List D)} {E2 : List DV → Prop}
    (hi : IE mi pt pi pt' E) (hw : canWipe vs 0 pt' = true) (hv : ∀ i ∈ vs, i < pt'.length)
    (hb : ∀ d acc, LT t mt me (fun (_ : Unit) => wipeP vs 0 pt' ++ [.is (.lst acc)]) () d (bd (bd (g d) fun y => Rk (some y)) fun o => Rk (o, ())) E2) : NE (nLc mi t mt me vs) pt (bd pi fun ds => mapR g ds) pt' E := n_lc hi hw hv hb
theorem x_lc {mi : M (List D)} {t : DT} {mt : M Bool} {me : M DR} {vs : List Nat} {q : R (List D)} (h : NE (nLc mi t mt me vs) pt q pt' E) : XF (eLc mi t mt me vs) pt (bd q fun l => Rk (.list l)) pt' E := fun ρ S => by
  unfold eLc
  refine (h ρ S).bind fun l _ ρ1 k => ?_
  obtain ⟨ρ0, rfl, S1⟩ := k
  exact ⟨.dat (.list l), ρ0, by unfold popD; simp, rfl, S1⟩
theorem n_lst {q : R (List D)} (h : GA ms pt q capR pt' E) : NE (nLst ms) pt q pt' E := fun ρ s => by
  unfold nLst
  refine h _ _ _ ρ s fun ds ρ' s' => ?_
  unfold capR
  by_cases hl : ds.length ≤ 16777216
  · rw [if_pos hl, if_pos hl]; exact ⟨(), _, rfl, ρ', rfl, s'⟩
  · rw [if_neg hl, if_neg hl]; trivial
theorem n_call {F : Fsp} {P : List D → R (List D)} {q : R (List D)} (hf : ∀ ds, FG (F [] ds) (P ds) ΨN) (h : GA ms pt q P pt' E) (hE : ∀ ρ, Sees ρ pt' → E ρ) : NE (nCall false F ms) pt q pt' E := fun ρ s => by
  unfold nCall callA
  have e : (fun rs => M.bind (if false = true then (match rs with | .loc p :: rs => M.bind (frzAll rs) fun ds => callO F p ds | _ => M.no) else M.bind (frzAll rs) fun ds => callD F ds) fun r => match r with | .new ds => push ds | .dat _ => M.no) = fun rs => M.bind (frzAll rs) fun ds => M.bind (callD F ds) fun r => match r with | .new ds => push ds | .dat _ => M.no := by
    funext rs ρ'
    show M.bind (M.bind (frzAll rs) fun ds => callD F ds) _ ρ' = _
    rw [M.assoc]
  refine (show Go (M.bind ms (fun rs => M.bind (frzAll rs) fun ds => M.bind (callD F ds) fun r => match r with | .new ds => push ds | .dat _ => M.no) ρ) q _ E from h _ _ _ ρ s fun ds ρ' s' => ?_) |> fun z => by rw [← e] at z; exact z
  refine Go.map (Φ := fun d r ρ'' => r = .new d ∧ Sees ρ'' pt') ?_ fun b r ρ2 k => ⟨(), ρ2 ++ [.lst b], by rw [k.1]; rfl, ρ2, rfl, k.2⟩
  exact callD_go (hf ds) (fun b r w q => ⟨q, s'⟩) (hE ρ' s')
end
end DL

set_option Elab.async false
set_option linter.all false
set_option maxRecDepth 100000
set_option maxHeartbeats 4000000
/-! PF3: expressions that change own lists, statements, loops, defs. -/
namespace DL
open PySem PySem.Spec PyProof.Rows L2
section
variable {α β γ δ σ τ : Type} {m ma mb mc : M DR} {pt pt1 pt2 pt' : List PV} {pa pb pc' : R D} {E : List DV → Prop} {d x y : D} {i j : Nat} {ms : M (List DR)} {pc : σ → List PV} {s : σ}
/-! ### with change -/
theorem XF.imp (h : XE m (pc s) pa E) : XI m pc s (bd pa fun a => Rk (a, s)) E := fun ρ S => by
  have := h ρ S
  match pa, this with
  | none, _ => trivial
  | some (.ok a), ⟨r, ρ', e, k⟩ => exact ⟨r, ρ', e, k⟩
  | some (.error x), h => exact h
theorem TE.imp {m : M Bool} {p : R Bool} (h : TE m (pc s) p E) : TI m pc s (bd p fun a => Rk (a, s)) E := fun ρ S => by
  have := h ρ S
  match p, this with
  | none, _ => trivial
  | some (.ok a), ⟨r, ρ', e, k⟩ => exact ⟨r, ρ', e, k⟩
  | some (.error x), h => exact h
theorem lfI {f : Option D} {ρ : List DV} (S : Sees ρ (pc s)) : Go (M.bind (M.opt f) (fun z => M.ok (DR.dat z)) ρ) (bd (lf f) fun z => Rk (z, s)) (fun (b : D × σ) r ρ' => r = .dat b.1 ∧ Sees ρ' (pc b.2)) E := by
  cases f with
  | none => trivial
  | some z => exact ⟨_, ρ, rfl, rfl, S⟩
theorem xi_op2l {f : D → D → Option D} {p : R (D × σ)} {q : D × σ → R D} (ha : XI ma pc s p E) (hb : ∀ a : D × σ, XR mb (pc a.2) (q a) E) : XI (eOp2 f ma mb) pc s (bd p fun a => bd (q a) fun b => bd (lf (f a.1 b)) fun z => Rk (z, a.2)) E := fun ρ S => by
  unfold eOp2
  refine (ha ρ S).bind fun a r1 ρ1 h1 => (hb a ρ1 h1.2).bind fun b r2 ρ2 h2 => ?_
  obtain ⟨rfl, _⟩ := h1
  refine Go.then (p := Rk a.1) (a := a.1) (ρ' := ρ2) rfl (Go.then (p := Rk b) (h2.1.rd h2.2) ?_)
  exact lfI h2.2
theorem xi_op2r {f : D → D → Option D} {p : R D} {q : D → R (D × σ)} (ha : XE ma (pc s) p E) (hb : ∀ a, XI mb pc s (q a) E) : XI (eOp2 f ma mb) pc s (bd p fun a => bd (q a) fun b => bd (lf (f a b.1)) fun z => Rk (z, b.2)) E := fun ρ S => by
  unfold eOp2
  refine (ha ρ S).bind fun a r1 ρ1 h1 => (hb a ρ1 h1.2).bind fun b r2 ρ2 h2 => ?_
  obtain ⟨rfl, _⟩ := h1
  obtain ⟨rfl, S2⟩ := h2
  refine Go.then (p := Rk a) (a := a) (ρ' := ρ2) rfl (Go.then (p := Rk b.1) (a := b.1) (ρ' := ρ2) rfl ?_)
  exact lfI S2
theorem xi_op2a {f : D → D → Option D} {q : R (D × σ)} (ha : AtS ma (pc s) x) (hb : XI mb pc s q E) : XI (eOp2 f ma mb) pc s (bd q fun b => bd (lf (f x b.1)) fun z => Rk (z, b.2)) E := fun ρ S => xi_op2r (E := E) ha.e (fun _ => hb) ρ S
theorem xi_op2b {f : D → D → Option D} {p : R (D × σ)} (ha : XI ma pc s p E) (hb : ∀ s, At mb (pc s) y) : XI (eOp2 f ma mb) pc s (bd p fun a => bd (lf (f a.1 y)) fun z => Rk (z, a.2)) E := fun ρ S => xi_op2l (E := E) ha (fun a => (hb a.2).r) ρ S
/-- an own list that stays, at the left -/
theorem xi_op2o {f : D → D → Option D} {q : R (D × σ)} {v : DV} {ds : List D} (e : ∀ s, (pc s)[i]? = some (.is v)) (o : v.own = some ds) (hb : XI mb pc s q E) : XI (eOp2 f (eVar i) mb) pc s (bd q fun b => bd (lf (f (.list ds) b.1)) fun z => Rk (z, b.2)) E := fun ρ S => by
  unfold eOp2
  have e1 : eVar i ρ = some (.ok (.loc i), ρ) := by
    unfold eVar; rw [S.is (e s)]
    cases v <;> first | rfl | cases o
  rw [bind_at e1]
  refine (hb ρ S).bind fun b r2 ρ2 h2 => ?_
  obtain ⟨rfl, S2⟩ := h2
  have e2 : rd (.loc i) ρ2 = some (.ok (.list ds), ρ2) := by unfold rd; dsimp only; rw [S2.is (e b.2), Option.bind_some, o]
  refine Go.then (p := Rk (PyData.list ds)) e2 (Go.then (p := Rk b.1) (a := b.1) (ρ' := ρ2) rfl ?_)
  exact lfI S2
theorem xi_op2 {f : D → D → Option D} {p : R (D × σ)} {q : D × σ → R (D × σ)} (ha : XI ma pc s p E) (hb : ∀ a : D × σ, XI mb pc a.2 (q a) E) : XI (eOp2 f ma mb) pc s (bd p fun a => bd (q a) fun b => bd (lf (f a.1 b.1)) fun z => Rk (z, b.2)) E := fun ρ S => by
  unfold eOp2
  refine (ha ρ S).bind fun a r1 ρ1 h1 => (hb a ρ1 h1.2).bind fun b r2 ρ2 h2 => ?_
  obtain ⟨rfl, _⟩ := h1
  obtain ⟨rfl, S2⟩ := h2
  refine Go.then (p := Rk a.1) (a := a.1) (ρ' := ρ2) rfl (Go.then (p := Rk b.1) (a := b.1) (ρ' := ρ2) rfl ?_)
  exact lfI S2
theorem xi_op1 {f : D → Option D} {p : R (D × σ)} (ha : XI ma pc s p E) : XI (eOp1 f ma) pc s (bd p fun a => bd (lf (f a.1)) fun z => Rk (z, a.2)) E := fun ρ S => by
  unfold eOp1
  refine (ha ρ S).bind fun a r1 ρ1 h1 => ?_
  obtain ⟨rfl, S1⟩ := h1
  refine Go.then (p := Rk a.1) (a := a.1) (ρ' := ρ1) rfl ?_
  exact lfI S1
theorem xi_isN {neg : Bool} {p : R (D × σ)} (ha : XI ma pc s p E) : XI (eIsN neg ma) pc s (bd p fun a => Rk (.bool (if neg then !isNoneB a.1 else isNoneB a.1), a.2)) E := fun ρ S => by
  unfold eIsN
  refine (ha ρ S).bind fun a r1 ρ1 h1 => ?_
  obtain ⟨rfl, S1⟩ := h1
  exact ⟨_, ρ1, rfl, rfl, S1⟩
theorem ti_b {p : R (D × σ)} (h : XI m pc s p E) : TI (eB m) pc s (bd p fun a => bd (bl a.1) fun b => Rk (b, a.2)) E := fun ρ S => by
  unfold eB
  refine (h ρ S).bind fun a r ρ' k => ?_
  obtain ⟨rfl, k⟩ := k
  match a, k with
  | (d, s'), k =>
    cases d with
    | bool b => exact ⟨b, ρ', rfl, rfl, k⟩
    | _ => trivial
theorem ti_and {m1 m2 : M Bool} {p1 : R (Bool × σ)} {p2 : Bool × σ → R (Bool × σ)} (h1 : TI m1 pc s p1 E) (h2 : ∀ a : Bool × σ, TI m2 pc a.2 (p2 a) E) : TI (andT m1 m2) pc s (bd p1 fun a => if a.1 = true then p2 a else Rk (false, a.2)) E := fun ρ S => by
  unfold andT
  refine (h1 ρ S).bind fun b c ρ' k => ?_
  obtain ⟨rfl, k⟩ := k
  match b, k with
  | (true, s'), k => exact h2 (true, s') ρ' k
  | (false, s'), k => exact ⟨false, ρ', rfl, rfl, k⟩
theorem ti_or {m1 m2 : M Bool} {p1 : R (Bool × σ)} {p2 : Bool × σ → R (Bool × σ)} (h1 : TI m1 pc s p1 E) (h2 : ∀ a : Bool × σ, TI m2 pc a.2 (p2 a) E) : TI (orT m1 m2) pc s (bd p1 fun a => if a.1 = true then Rk (true, a.2) else p2 a) E := fun ρ S => by
  unfold orT
  refine (h1 ρ S).bind fun b c ρ' k => ?_
  obtain ⟨rfl, k⟩ := k
  match b, k with
  | (false, s'), k => exact h2 (false, s') ρ' k
  | (true, s'), k => exact ⟨true, ρ', rfl, rfl, k⟩
theorem ti_not {m1 : M Bool} {p1 : R (Bool × σ)} (h1 : TI m1 pc s p1 E) : TI (notT m1) pc s (bd p1 fun a => Rk (!a.1, a.2)) E := fun ρ S => by
  unfold notT
  refine (h1 ρ S).bind fun b c ρ' k => ?_
  obtain ⟨rfl, k⟩ := k
  exact ⟨!b.1, ρ', rfl, rfl, k⟩
theorem xi_if {m1 : M Bool} {p1 : R (Bool × σ)} {qa qb : Bool × σ → R (D × σ)} (h1 : TI m1 pc s p1 E) (h2 : ∀ a : Bool × σ, XI ma pc a.2 (qa a) E) (h3 : ∀ a : Bool × σ, XI mb pc a.2 (qb a) E) : XI (ifV m1 ma mb) pc s (bd p1 fun a => if a.1 = true then qa a else qb a) E := fun ρ S => by
  unfold ifV
  refine (h1 ρ S).bind fun b c ρ' k => ?_
  obtain ⟨rfl, k⟩ := k
  match b, k with
  | (true, s'), k => exact h2 (true, s') ρ' k
  | (false, s'), k => exact h3 (false, s') ρ' k
/-! arguments that change own lists -/
def AI (ms : M (List DR)) (pc : σ → List PV) (s : σ) (q : R δ) (K : List D → σ → R δ) (E : List DV → Prop) : Prop :=
  ∀ (γ : Type) (k : List DR → M γ) (Ψ : δ → γ → List DV → Prop) (ρ : List DV), Sees ρ (pc s) → (∀ ds s' ρ', Sees ρ' (pc s') → Go (k (ds.map .dat) ρ') (K ds s') Ψ E) → Go (M.bind ms k ρ) q Ψ E
variable {K : List D → σ → R δ}
theorem ai_nil {q : R δ} (e : q = K [] s) : AI aNil pc s q K E := fun γ k Ψ ρ S h => e ▸ h [] s ρ S
theorem ai_at {q : R δ} (ha : AtS m (pc s) x) (h : AI ms pc s q (fun ds s => K (x :: ds) s) E) : AI (aCons m ms) pc s q K E := fun γ k Ψ ρ S hk => by
  have e : M.bind (aCons m ms) k ρ = M.bind ms (fun rs => k (.dat x :: rs)) ρ := by
    unfold aCons
    rw [M.assoc]
    rw [bind_at (ha ρ S), M.assoc]
    rfl
  rw [e]
  exact h _ _ Ψ ρ S fun ds s' ρ' S' => hk (x :: ds) s' ρ' S'
theorem ai_e {q : D → R δ} (ha : XE m (pc s) pa E) (h : ∀ a, AI ms pc s (q a) (fun ds s => K (a :: ds) s) E) : AI (aCons m ms) pc s (bd pa q) K E := fun γ k Ψ ρ S hk => by
  unfold aCons
  rw [M.assoc]
  refine (ha ρ S).bind fun a r ρ1 h1 => ?_
  obtain ⟨rfl, h1⟩ := h1
  rw [M.assoc]
  exact h a _ (fun rs => M.bind (M.ok (DR.dat a :: rs)) k) Ψ ρ1 h1 fun ds s' ρ' S' => hk (a :: ds) s' ρ' S'
theorem ai_i {p : R (D × σ)} {q : D × σ → R δ} (ha : XI m pc s p E) (h : ∀ a : D × σ, AI ms pc a.2 (q a) (fun ds s => K (a.1 :: ds) s) E) : AI (aCons m ms) pc s (bd p q) K E := fun γ k Ψ ρ S hk => by
  unfold aCons
  rw [M.assoc]
  refine (ha ρ S).bind fun a r ρ1 h1 => ?_
  obtain ⟨rfl, h1⟩ := h1
  rw [M.assoc]
  exact h a _ (fun rs => M.bind (M.ok (DR.dat a.1 :: rs)) k) Ψ ρ1 h1 fun ds s' ρ' S' => hk (a.1 :: ds) s' ρ' S'
theorem xi_tup {q : R (D × σ)} (h : AI ms pc s q (fun ds s => bd (tupR ds) fun d => Rk (d, s)) E) : XI (eTup ms) pc s q E := fun ρ S => by
  unfold eTup
  refine h _ _ _ ρ S fun ds s' ρ' S' => Go.then (p := Rk ds) (frzAll_dats ds ρ') ?_
  dsimp only
  unfold tupR
  by_cases hl : ds.length ≤ 16777216
  · rw [if_pos hl, if_pos hl]; exact ⟨_, ρ', rfl, rfl, S'⟩
  · rw [if_neg hl, if_neg hl]; trivial
theorem xi_lst {q : R (D × σ)} (h : AI ms pc s q (fun ds s => bd (lstR ds) fun d => Rk (d, s)) E) : XI (eLst ms) pc s q E := fun ρ S => by
  unfold eLst
  refine h _ _ _ ρ S fun ds s' ρ' S' => Go.then (p := Rk ds) (frzAll_dats ds ρ') ?_
  dsimp only
  unfold lstR
  by_cases hl : ds.length ≤ 16777216
  · rw [if_pos hl, if_pos hl]; exact ⟨_, ρ', rfl, rfl, S'⟩
  · rw [if_neg hl, if_neg hl]; trivial
theorem xi_cb {f : List D → Option D} {q : R (D × σ)} (h : AI ms pc s q (fun ds s => bd (lf (f ds)) fun d => Rk (d, s)) E) : XI (eCB f ms) pc s q E := fun ρ S => by
  unfold eCB
  refine h _ _ _ ρ S fun ds s' ρ' S' => Go.then (p := Rk ds) (rdAll_dats ds ρ') ?_
  exact lfI S'
theorem callA_f {F : Fsp} {ds : List D} {ρ : List DV} : callA false F (ds.map .dat) ρ = callD F ds ρ := by
  unfold callA
  show M.bind (frzAll (ds.map .dat)) (fun ds => callD F ds) ρ = _
  rw [bind_at (frzAll_dats ds ρ)]
theorem xi_call {F : Fsp} {P : List D → R D} {q : R (D × σ)} (hf : ∀ ds, FG (F [] ds) (P ds) ΨD) (h : AI ms pc s q (fun ds s => bd (P ds) fun d => Rk (d, s)) E) (hE : ∀ ρ s, Sees ρ (pc s) → E ρ) : XI (eCall false F ms) pc s q E := fun ρ S => by
  unfold eCall
  refine h _ _ _ ρ S fun ds s' ρ' S' => ?_
  have e : M.bind (callA false F (ds.map .dat)) (fun r => M.ok (DR.dat (rvD r))) ρ' = M.bind (callD F ds) (fun r => M.ok (.dat (rvD r))) ρ' := by unfold M.bind; rw [callA_f]
  rw [e]
  refine (callD_go (Φ := fun d r ρ'' => rvD r = d ∧ Sees ρ'' (pc s')) (hf ds) (fun b r w q => ⟨q, S'⟩) (hE ρ' s' S')).bind fun b r ρ2 k => ⟨_, ρ2, rfl, by rw [k.1], k.2⟩
/-- a call that is lent an own list -/
theorem xi_callO {F : Fsp} {P : List D → List D → R (D × List D)} {q : R (D × σ)} {g : σ → List D} {u : σ → List D → σ} (hf : ∀ w ds, FG (F w ds) (P w ds) ΨDo) (hg : ∀ s, ∃ x, (pc s)[i]? = some (.is x) ∧ x.own = some (g s) ∧ ∀ w, (pc s).set i (.is (x.put w)) = pc (u s w))
    (h : AI ms pc s q (fun ds s => bd (P (g s) ds) fun b => Rk (b.1, u s b.2)) E) (hE : ∀ ρ, E ρ) : XI (eCall true F (aCons (eVar i) ms)) pc s q E := fun ρ S => by
  obtain ⟨v, ev, ov, _⟩ := hg s
  have e1 : eVar i ρ = some (.ok (.loc i), ρ) := by
    unfold eVar; rw [S.is ev]
    cases v <;> first | rfl | cases ov
  unfold eCall aCons
  rw [M.assoc, bind_at e1, M.assoc]
  refine h _ (fun rs => M.bind (M.ok (DR.loc i :: rs)) fun rs => M.bind (callA true F rs) fun r => M.ok (DR.dat (rvD r))) _ ρ S fun ds s' ρ' S' => ?_
  obtain ⟨v2, ev2, ov2, pv2⟩ := hg s'
  show Go (M.bind (callA true F (.loc i :: ds.map .dat)) (fun r => M.ok (DR.dat (rvD r))) ρ') _ _ E
  have e2 : callA true F (.loc i :: ds.map .dat) ρ' = callO F i ds ρ' := by
    show M.bind (frzAll (ds.map .dat)) (fun ds => callO F i ds) ρ' = _
    rw [bind_at (frzAll_dats ds ρ')]
  have e3 : M.bind (callA true F (.loc i :: ds.map .dat)) (fun r => M.ok (DR.dat (rvD r))) ρ' = M.bind (callO F i ds) (fun r => M.ok (.dat (rvD r))) ρ' := by unfold M.bind; rw [e2]
  rw [e3]
  have hc := hf (g s') ds
  have ec : callO F i ds ρ' = match F (g s') ds with
      | none => none
      | some (.ok r, w') => some (.ok r, ρ'.set i (v2.put w'))
      | some (.error z, w') => some (.error z, ρ'.set i (v2.put w')) := by
    unfold callO; rw [S'.is ev2]; dsimp only; rw [ov2] <;> rfl
  dsimp only
  match P (g s') ds, hc with
  | none, _ => trivial
  | some (.ok b), ⟨r, w, e, k1, k2⟩ =>
    refine ⟨.dat (rvD r), ρ'.set i (v2.put w), ?_, by rw [k1], ?_⟩
    · unfold M.bind; rw [ec, e]; try rfl
    · have := S'.set (i := i) (x := v2.put w) (q := .is (v2.put w)) rfl
      rw [pv2] at this
      rw [← k2]; exact this
  | some (.error x), ⟨w, e⟩ => exact ⟨ρ'.set i (v2.put w), by unfold M.bind; rw [ec, e], hE _⟩
/-- own.pop() -/
def popR (ds : List D) : R (D × List D) := match ds[ds.length - 1]? with
  | some d => Rk (d, ds.dropLast)
  | none => none
theorem xi_pop {g : σ → List D} {u : σ → List D → σ} (hg : ∀ s, ∃ x, (pc s)[i]? = some (.is x) ∧ x.own = some (g s) ∧ ∀ w, (pc s).set i (.is (x.put w)) = pc (u s w)) : XI (ePop (eVar i)) pc s (bd (popR (g s)) fun b => Rk (b.1, u s b.2)) E := fun ρ S => by
  obtain ⟨v, ev, ov, pv⟩ := hg s
  have e1 : eVar i ρ = some (.ok (.loc i), ρ) := by
    unfold eVar; rw [S.is ev]
    cases v <;> first | rfl | cases ov
  unfold ePop
  rw [bind_at e1]
  have e2 : ownAt i ρ = some (.ok (g s), ρ) := by unfold ownAt; rw [S.is ev, Option.bind_some, ov]
  dsimp only
  rw [bind_at e2]
  unfold popR
  cases q : (g s)[(g s).length - 1]? with
  | none => trivial
  | some d =>
    refine ⟨.dat d, ρ.set i (v.put (g s).dropLast), ?_, rfl, ?_⟩
    · have e3 : wrAt i (fun ds => some ds.dropLast) ρ = some (.ok (), ρ.set i (v.put (g s).dropLast)) := by unfold wrAt; rw [S.is ev]; dsimp only; rw [ov]
      show M.bind (wrAt i fun ds => some ds.dropLast) (fun _ => M.ok (DR.dat d)) ρ = _
      rw [bind_at e3]; rfl
    · have := S.set (i := i) (x := v.put (g s).dropLast) (q := .is (v.put (g s).dropLast)) rfl
      rw [pv] at this
      exact this
def II (mi : M (List D)) (pc : σ → List PV) (s : σ) (p : R (List D × σ)) (E : List DV → Prop) : Prop := ∀ ρ, Sees ρ (pc s) → Go (mi ρ) p (fun b es ρ' => es = b.1 ∧ Sees ρ' (pc b.2)) E
theorem ii_rng {q : R (List D × σ)} (h : AI ms pc s q (fun ds s => bd (lf (rngF ds)) fun l => Rk (l, s)) E) : II (iRng ms) pc s q E := fun ρ S => by
  unfold iRng
  refine h _ _ _ ρ S fun ds s' ρ' S' => Go.then (p := Rk ds) (rdAll_dats ds ρ') ?_
  show Go _ (bd (DL.lf (rngF ds)) _) _ _
  cases rngF ds with
  | none => trivial
  | some z => exact ⟨z, ρ', rfl, rfl, S'⟩
theorem ii_dat {p : R (D × σ)} (h : XI m pc s p E) : II (iDat m) pc s (bd p fun b => bd (itR' b.1) fun l => Rk (l, b.2)) E := fun ρ S => by
  unfold iDat
  refine (h ρ S).bind fun b r ρ' k => ?_
  obtain ⟨rfl, k⟩ := k
  refine Go.then (p := Rk b.1) (a := b.1) (ρ' := ρ') rfl ?_
  unfold itR'
  cases itemsD b.1 with
  | none => trivial
  | some z => exact ⟨z, ρ', rfl, rfl, k⟩
theorem ni_lst {q : R (List D × σ)} (h : AI ms pc s q (fun ds s => bd (capR ds) fun l => Rk (l, s)) E) : NI (nLst ms) (pc s) q pc E := fun ρ S => by
  unfold nLst
  refine h _ _ _ ρ S fun ds s' ρ' S' => Go.then (p := Rk ds) (frzAll_dats ds ρ') ?_
  dsimp only
  unfold capR
  by_cases hl : ds.length ≤ 16777216
  · rw [if_pos hl, if_pos hl]; exact ⟨(), _, rfl, ρ', rfl, S'⟩
  · rw [if_neg hl, if_neg hl]; trivial
theorem xi_lc {mi : M (List D)} {t : DT} {mt : M Bool} {me : M DR} {vs : List Nat} {q : R (List D × σ)} (h : NI (nLc mi t mt me vs) (pc s) q pc E) : XI (eLc mi t mt me vs) pc s (bd q fun b => Rk (.list b.1, b.2)) E := fun ρ S => by
  unfold eLc
  refine (h ρ S).bind fun l _ ρ1 k => ?_
  obtain ⟨ρ0, rfl, S1⟩ := k
  exact ⟨.dat (.list l.1), ρ0, by unfold popD; simp, rfl, S1⟩
/-! turns of comprehensions that change own lists -/
theorem lti_map {t : DT} {ps : R β} {ptt : β → List PV} {P : σ → List PV} {me : M DR} {P2 : β → σ → List PV} {pe : β → R (D × σ)} (hs : SE (setT t d) (P s) ps ptt E) (h0 : ∀ b, ptt b = P2 b s) (he : ∀ b, XI me (P2 b) s (pe b) E) (hw : ∀ b s, PLe (P2 b s) (P s)) :
    LT t (M.ok true) me P s d (bd ps fun b => bd (pe b) fun y => Rk (some y.1, y.2)) E := fun ρ S => by
  refine (hs ρ S).bind fun b _ ρ1 S1 => ?_
  show Go (M.bind me (fun r => M.bind (frz r) fun y => M.ok (some y)) ρ1) _ _ _
  refine (he b ρ1 (h0 b ▸ S1)).bind fun y r ρ2 k => ?_
  obtain ⟨rfl, S2⟩ := k
  exact ⟨some y.1, ρ2, rfl, rfl, S2.weak (hw b y.2)⟩
theorem lti_sel {t : DT} {ps : R β} {ptt : β → List PV} {P : σ → List PV} {mt : M Bool} {me : M DR} {P2 : β → σ → List PV} {pc : β → R (Bool × σ)} {pe : β → σ → R (D × σ)} (hs : SE (setT t d) (P s) ps ptt E) (h0 : ∀ b, ptt b = P2 b s) (ht : ∀ b, TI mt (P2 b) s (pc b) E) (he : ∀ b s, XI me (P2 b) s (pe b s) E) (hw : ∀ b s, PLe (P2 b s) (P s)) :
    LT t mt me P s d (bd ps fun b => bd (pc b) fun c => if c.1 = true then bd (pe b c.2) fun y => Rk (some y.1, y.2) else Rk (none, c.2)) E := fun ρ S => by
  refine (hs ρ S).bind fun b _ ρ1 S1 => ?_
  unfold lcEl
  refine (ht b ρ1 (h0 b ▸ S1)).bind fun c c' ρ2 k => ?_
  obtain ⟨rfl, S2⟩ := k
  match c, S2 with
  | (false, s'), S2 => exact ⟨none, ρ2, rfl, rfl, S2.weak (hw b s')⟩
  | (true, s'), S2 =>
    refine (he b s' ρ2 S2).bind fun y r ρ3 k => ?_
    obtain ⟨rfl, S3⟩ := k
    exact ⟨some y.1, ρ3, rfl, rfl, S3.weak (hw b y.2)⟩
end
end DL

set_option Elab.async false
set_option linter.all false
set_option maxRecDepth 100000
set_option maxHeartbeats 4000000
/-! PF4: statements, loops, defs. -/
namespace DL
open PySem PySem.Spec PyProof.Rows L2
/-- how a turn of a loop, or a block, ends -/
inductive Lo (σ τ : Type) where
  | nx (s : σ)
  | brk (s : σ)
  | ret (t : τ)
section
variable {α β γ δ σ τ : Type} {m ma mb mc : M DR} {pt pt1 pt2 pt' : List PV} {pa pb pc' : R D} {E : List DV → Prop} {d x y : D} {i j : Nat} {ms : M (List DR)} {pc : σ → List PV} {s : σ}
def ST (m : M Fl) (pt : List PV) (p : R β) (Φ : β → Fl → List DV → Prop) (E : List DV → Prop) : Prop := ∀ ρ, Sees ρ pt → Go (m ρ) p Φ E
variable {rest : M Fl} {Φ : β → Fl → List DV → Prop}
theorem sc_at {m1 m2 : M Fl} {ρ ρ' : List DV} (e : m1 ρ = some (.ok .nx, ρ')) : sCons m1 m2 ρ = m2 ρ' := by
  unfold sCons; rw [bind_at e]
theorem sc_go {m1 : M Fl} {ρ : List DV} {p : R α} {k : α → R β} {Q : α → List DV → Prop} (h : Go (m1 ρ) p (fun b fl ρ' => fl = .nx ∧ Q b ρ') E) (hk : ∀ b ρ', Q b ρ' → Go (rest ρ') (k b) Φ E) : Go (sCons m1 rest ρ) (bd p k) Φ E := by
  unfold sCons
  refine h.bind fun b fl ρ' q => ?_
  obtain ⟨rfl, q⟩ := q
  exact hk b ρ' q
theorem sc_stop {m1 : M Fl} {ρ : List DV} {p : R β} {Φ' : β → Fl → List DV → Prop} (h : Go (m1 ρ) p Φ' E) (hk : ∀ b fl ρ', Φ' b fl ρ' → fl ≠ .nx ∧ Φ b fl ρ') : Go (sCons m1 rest ρ) p Φ E := by
  unfold sCons
  refine Go.map h fun b fl ρ' q => ?_
  obtain ⟨n, q⟩ := hk b fl ρ' q
  cases fl with
  | nx => exact (n rfl).elim
  | _ => exact ⟨_, ρ', rfl, q⟩
theorem st_assoc {a b c : M Fl} {p : R β} (h : ST (sCons a (sCons b c)) pt p Φ E) : ST (sCons (sCons a b) c) pt p Φ E := fun ρ S => by
  have e : sCons (sCons a b) c ρ = sCons a (sCons b c) ρ := by
    unfold sCons
    rw [M.assoc]
    unfold M.bind
    cases a ρ with
    | none => rfl
    | some o =>
      obtain ⟨o, ρ1⟩ := o
      cases o with
      | error e => rfl
      | ok fl => cases fl <;> rfl
  rw [e]; exact h ρ S
theorem st_nilr {p : R β} (h : ST rest pt p Φ E) : ST (sCons sNil rest) pt p Φ E := fun ρ S => by
  rw [sc_at (m1 := sNil) (ρ' := ρ) rfl]; exact h ρ S
theorem st_nx {b : β} (h : ∀ ρ, Sees ρ pt → Φ b .nx ρ) : ST sNil pt (Rk b) Φ E := fun ρ S => ⟨.nx, ρ, rfl, h ρ S⟩
theorem st_pass {p : R β} (h : ST rest pt p Φ E) : ST (sCons sPass rest) pt p Φ E := st_nilr h
theorem st_never : ST (sCons sNever rest) pt (none : R β) Φ E := fun ρ S => trivial
theorem st_weak {m : M Fl} {p : R β} (w : PLe pt pt1) (h : ST m pt1 p Φ E) : ST m pt p Φ E := fun ρ S => h ρ (S.weak w)
/-! stores -/
theorem sSetX_dat {ρ : List DV} (e : m ρ = some (.ok (.dat d), ρ')) (S : Sees ρ' pt1) (w : WrAt pt1 i) : sSetX i m ρ = some (.ok .nx, ρ'.set i (.dat d)) := by
  unfold sSetX
  rw [bind_at e]
  show M.bind (frz (.dat d)) (fun d => M.bind (setD i d) fun _ => M.ok Fl.nx) ρ' = _
  rw [bind_at (show frz (.dat d) ρ' = some (.ok d, ρ') from rfl), bind_at (S.setD w)]; rfl
theorem st_set {k : D → R β} (h : XF m pt pa pt1 E) (w : WrAt pt1 i) (hk : ∀ d, ST rest (pt1.set i (.is (.dat d))) (k d) Φ E) : ST (sCons (sSetX i m) rest) pt (bd pa k) Φ E := fun ρ S => by
  refine sc_go (Q := fun d ρ' => Sees ρ' (pt1.set i (.is (.dat d)))) ?_ hk
  have := h ρ S
  match pa, this with
  | none, _ => trivial
  | some (.ok a), ⟨r, ρ', e, er, S1⟩ => subst er; exact ⟨.nx, _, sSetX_dat e S1 w, rfl, S1.set rfl⟩
  | some (.error x), ⟨ρ', e, hE⟩ => exact ⟨ρ', by unfold sSetX M.bind; rw [e], hE⟩
theorem st_setA {p : R β} (h : AtS m pt x) (w : WrAt pt i) (hk : ST rest (pt.set i (.is (.dat x))) p Φ E) : ST (sCons (sSetX i m) rest) pt p Φ E := fun ρ S => by
  rw [sc_at (sSetX_dat (h ρ S) S w)]
  exact hk _ (S.set rfl)
theorem st_setI {p : R (D × σ)} {k : D × σ → R β} (h : XI m pc s p E) (w : ∀ s, WrAt (pc s) i) (hk : ∀ b : D × σ, ST rest ((pc b.2).set i (.is (.dat b.1))) (k b) Φ E) : ST (sCons (sSetX i m) rest) (pc s) (bd p k) Φ E := fun ρ S => by
  refine sc_go (Q := fun b ρ' => Sees ρ' ((pc b.2).set i (.is (.dat b.1)))) ?_ hk
  have := h ρ S
  match p, this with
  | none, _ => trivial
  | some (.ok a), ⟨r, ρ', e, er, S1⟩ => subst er; exact ⟨.nx, _, sSetX_dat e S1 (w _), rfl, S1.set rfl⟩
  | some (.error x), ⟨ρ', e, hE⟩ => exact ⟨ρ', by unfold sSetX M.bind; rw [e], hE⟩
/-- x = own -/
theorem st_setO {p : R β} {ds : List D} (e : pt[j]? = some (.is (.lst ds))) (w : WrAt (pt.set j (.is (.dat (.list ds)))) i) (hk : ST rest ((pt.set j (.is (.dat (.list ds)))).set i (.is (.dat (.list ds)))) p Φ E) : ST (sCons (sSetX i (eVar j)) rest) pt p Φ E := fun ρ S => by
  have e1 : eVar j ρ = some (.ok (.loc j), ρ) := by unfold eVar; rw [S.is e]
  have e2 : frz (.loc j) ρ = some (.ok (.list ds), ρ.set j (.dat (.list ds))) := by unfold frz; dsimp only; rw [S.is e]
  have S1 : Sees (ρ.set j (.dat (.list ds))) (pt.set j (.is (.dat (.list ds)))) := S.set rfl
  have e3 : sSetX i (eVar j) ρ = some (.ok .nx, (ρ.set j (.dat (.list ds))).set i (.dat (.list ds))) := by
    unfold sSetX
    rw [bind_at e1]
    show M.bind (frz (.loc j)) (fun d => M.bind (setD i d) fun _ => M.ok Fl.nx) ρ = _
    rw [bind_at e2, bind_at (S1.setD w)]; rfl
  rw [sc_at e3]
  exact hk _ (S1.set rfl)
theorem Sees.setV {ρ : List DV} {v : DV} (h : Sees ρ pt) (hw : WrAt pt i) : DL.setV i v ρ = some (.ok (), ρ.set i v) := by
  unfold WrAt at hw
  cases e : pt[i]? with
  | none => rw [e] at hw; cases hw
  | some p =>
    rw [e] at hw
    obtain ⟨x, e1, h1⟩ := h.at e
    unfold DL.setV
    rw [e1]
    dsimp only
    rw [h1.wr (by simpa using hw)]
    rfl
/-- x = e, an exception -/
theorem st_setE {p : R β} {c : Str} (e : pt[j]? = some (.is (.exc c d))) (w : WrAt pt i) (hk : ST rest (pt.set i (.is (.exc c d))) p Φ E) : ST (sCons (sSetX i (eVar j)) rest) pt p Φ E := fun ρ S => by
  have e1 : eVar j ρ = some (.ok (.exc c d), ρ) := by unfold eVar; rw [S.is e]
  have e3 : sSetX i (eVar j) ρ = some (.ok .nx, ρ.set i (.exc c d)) := by
    unfold sSetX
    rw [bind_at e1]
    show M.bind (DL.setV i (.exc c d)) (fun _ => M.ok Fl.nx) ρ = _
    rw [bind_at (S.setV w)]; rfl
  rw [sc_at e3]
  exact hk _ (S.set rfl)
theorem popTo_at {ρ0 : List DV} {l : List D} (S : Sees ρ0 pt1) (w : WrAt pt1 i) : popTo i (ρ0 ++ [.lst l]) = some (.ok (), ρ0.set i (.lst l)) := by
  unfold popTo
  unfold WrAt at w
  cases e : pt1[i]? with
  | none => rw [e] at w; cases w
  | some p =>
    rw [e] at w
    obtain ⟨x, e1, h1⟩ := S.at e
    simp only [List.getLast?_append, List.getLast?_singleton, Option.or_some, List.dropLast_concat, e1]
    rw [h1.wr (by simpa using w)]
    rfl
theorem st_setN {mn : M Unit} {p : R (List D)} {k : List D → R β} (h : NE mn pt p pt1 E) (w : WrAt pt1 i) (hk : ∀ l, ST rest (pt1.set i (.is (.lst l))) (k l) Φ E) : ST (sCons (sSetN i mn) rest) pt (bd p k) Φ E := fun ρ S => by
  refine sc_go (Q := fun l ρ' => Sees ρ' (pt1.set i (.is (.lst l)))) ?_ hk
  have := h ρ S
  match p, this with
  | none, _ => trivial
  | some (.ok l), ⟨_, ρ', e, ρ0, er, S1⟩ =>
    subst er
    refine ⟨.nx, ρ0.set i (.lst l), ?_, rfl, S1.set rfl⟩
    unfold sSetN
    rw [bind_at e, bind_at (popTo_at S1 w)]; rfl
  | some (.error x), ⟨ρ', e, hE⟩ => exact ⟨ρ', by unfold sSetN M.bind; rw [e], hE⟩
theorem st_setNI {mn : M Unit} {p : R (List D × σ)} {k : List D × σ → R β} (h : NI mn pt p pc E) (w : ∀ s, WrAt (pc s) i) (hk : ∀ b : List D × σ, ST rest ((pc b.2).set i (.is (.lst b.1))) (k b) Φ E) : ST (sCons (sSetN i mn) rest) pt (bd p k) Φ E := fun ρ S => by
  refine sc_go (Q := fun b ρ' => Sees ρ' ((pc b.2).set i (.is (.lst b.1)))) ?_ hk
  have := h ρ S
  match p, this with
  | none, _ => trivial
  | some (.ok b), ⟨_, ρ', e, ρ0, er, S1⟩ =>
    subst er
    refine ⟨.nx, ρ0.set i (.lst b.1), ?_, rfl, S1.set rfl⟩
    unfold sSetN
    rw [bind_at e, bind_at (popTo_at S1 (w _))]; rfl
  | some (.error x), ⟨ρ', e, hE⟩ => exact ⟨ρ', by unfold sSetN M.bind; rw [e], hE⟩
/-! several at once -/
def pr2 (ds : List D) : R (D × D) := match ds with
  | [a, b] => Rk (a, b)
  | _ => none
def pr3 (ds : List D) : R (D × D × D) := match ds with
  | [a, b, c] => Rk (a, b, c)
  | _ => none
def pr4 (ds : List D) : R (D × D × D × D) := match ds with
  | [a, b, c, e] => Rk (a, b, c, e)
  | _ => none
@[simp] theorem pr2_t {a b : D} : pr2 [a, b] = Rk (a, b) := nr rfl
@[simp] theorem pr3_t {a b c : D} : pr3 [a, b, c] = Rk (a, b, c) := nr rfl
@[simp] theorem pr4_t {a b c e : D} : pr4 [a, b, c, e] = Rk (a, b, c, e) := nr rfl
theorem st_par2 {q : R (D × D)} {k : D × D → R β} {i j : Nat} (h : GA ms pt q pr2 pt1 E) (w1 : WrAt pt1 i) (w2 : ∀ a, WrAt (pt1.set i (.is (.dat a))) j) (hk : ∀ t : D × D, ST rest ((pt1.set i (.is (.dat t.1))).set j (.is (.dat t.2))) (k t) Φ E) : ST (sCons (sPar [i, j] ms) rest) pt (bd q k) Φ E := fun ρ S => by
  refine sc_go (Q := fun t ρ' => Sees ρ' ((pt1.set i (.is (.dat t.1))).set j (.is (.dat t.2)))) ?_ hk
  unfold sPar
  refine h _ _ _ ρ S fun ds ρ' S' => ?_
  unfold pr2
  split
  · rename_i a b
    obtain ⟨e, S2⟩ := sees_set2 (b := b) S' w1 (w2 a)
    exact ⟨.nx, _, by rw [bind_at e]; rfl, rfl, S2⟩
  · trivial
theorem st_par3 {q : R (D × D × D)} {k : D × D × D → R β} {i j l : Nat} (h : GA ms pt q pr3 pt1 E) (w1 : WrAt pt1 i) (w2 : ∀ a, WrAt (pt1.set i (.is (.dat a))) j) (w3 : ∀ a b, WrAt ((pt1.set i (.is (.dat a))).set j (.is (.dat b))) l)
    (hk : ∀ t : D × D × D, ST rest (((pt1.set i (.is (.dat t.1))).set j (.is (.dat t.2.1))).set l (.is (.dat t.2.2))) (k t) Φ E) : ST (sCons (sPar [i, j, l] ms) rest) pt (bd q k) Φ E := fun ρ S => by
  refine sc_go (Q := fun t ρ' => Sees ρ' (((pt1.set i (.is (.dat t.1))).set j (.is (.dat t.2.1))).set l (.is (.dat t.2.2)))) ?_ hk
  unfold sPar
  refine h _ _ _ ρ S fun ds ρ' S' => ?_
  unfold pr3
  split
  · rename_i a b c
    obtain ⟨e, S2⟩ := sees_set3 (c := c) S' w1 (w2 a) (w3 a b)
    exact ⟨.nx, _, by rw [bind_at e]; rfl, rfl, S2⟩
  · trivial
theorem st_par4 {q : R (D × D × D × D)} {k : D × D × D × D → R β} {i j l n : Nat} (h : GA ms pt q pr4 pt1 E) (w1 : WrAt pt1 i) (w2 : ∀ a, WrAt (pt1.set i (.is (.dat a))) j) (w3 : ∀ a b, WrAt ((pt1.set i (.is (.dat a))).set j (.is (.dat b))) l) (w4 : ∀ a b c, WrAt (((pt1.set i (.is (.dat a))).set j (.is (.dat b))).set l (.is (.dat c))) n)
    (hk : ∀ t : D × D × D × D, ST rest ((((pt1.set i (.is (.dat t.1))).set j (.is (.dat t.2.1))).set l (.is (.dat t.2.2.1))).set n (.is (.dat t.2.2.2))) (k t) Φ E) : ST (sCons (sPar [i, j, l, n] ms) rest) pt (bd q k) Φ E := fun ρ S => by
  refine sc_go (Q := fun t ρ' => Sees ρ' ((((pt1.set i (.is (.dat t.1))).set j (.is (.dat t.2.1))).set l (.is (.dat t.2.2.1))).set n (.is (.dat t.2.2.2)))) ?_ hk
  unfold sPar
  refine h _ _ _ ρ S fun ds ρ' S' => ?_
  unfold pr4
  split
  · rename_i a b c e
    obtain ⟨z, S2⟩ := sees_set4 (e := e) S' w1 (w2 a) (w3 a b) (w4 a b c)
    exact ⟨.nx, _, by rw [bind_at z]; rfl, rfl, S2⟩
  · trivial
theorem st_par2I {q : R ((D × D) × σ)} {k : (D × D) × σ → R β} {i j : Nat} (h : AI ms pc s q (fun ds s => bd (pr2 ds) fun t => Rk (t, s)) E) (w1 : ∀ s, WrAt (pc s) i) (w2 : ∀ s a, WrAt ((pc s).set i (.is (.dat a))) j)
    (hk : ∀ b : (D × D) × σ, ST rest (((pc b.2).set i (.is (.dat b.1.1))).set j (.is (.dat b.1.2))) (k b) Φ E) : ST (sCons (sPar [i, j] ms) rest) (pc s) (bd q k) Φ E := fun ρ S => by
  refine sc_go (Q := fun b ρ' => Sees ρ' (((pc b.2).set i (.is (.dat b.1.1))).set j (.is (.dat b.1.2)))) ?_ hk
  unfold sPar
  refine h _ _ _ ρ S fun ds s' ρ' S' => Go.then (p := Rk ds) (frzAll_dats ds ρ') ?_
  dsimp only
  unfold pr2
  split
  · rename_i a b
    obtain ⟨e, S2⟩ := sees_set2 (b := b) S' (w1 s') (w2 s' a)
    exact ⟨.nx, _, by rw [bind_at e]; rfl, rfl, S2⟩
  · trivial
theorem st_par3I {q : R ((D × D × D) × σ)} {k : (D × D × D) × σ → R β} {i j l : Nat} (h : AI ms pc s q (fun ds s => bd (pr3 ds) fun t => Rk (t, s)) E) (w1 : ∀ s, WrAt (pc s) i) (w2 : ∀ s a, WrAt ((pc s).set i (.is (.dat a))) j) (w3 : ∀ s a b, WrAt (((pc s).set i (.is (.dat a))).set j (.is (.dat b))) l)
    (hk : ∀ b : (D × D × D) × σ, ST rest ((((pc b.2).set i (.is (.dat b.1.1))).set j (.is (.dat b.1.2.1))).set l (.is (.dat b.1.2.2))) (k b) Φ E) : ST (sCons (sPar [i, j, l] ms) rest) (pc s) (bd q k) Φ E := fun ρ S => by
  refine sc_go (Q := fun b ρ' => Sees ρ' ((((pc b.2).set i (.is (.dat b.1.1))).set j (.is (.dat b.1.2.1))).set l (.is (.dat b.1.2.2)))) ?_ hk
  unfold sPar
  refine h _ _ _ ρ S fun ds s' ρ' S' => Go.then (p := Rk ds) (frzAll_dats ds ρ') ?_
  dsimp only
  unfold pr3
  split
  · rename_i a b c
    obtain ⟨e, S2⟩ := sees_set3 (c := c) S' (w1 s') (w2 s' a) (w3 s' a b)
    exact ⟨.nx, _, by rw [bind_at e]; rfl, rfl, S2⟩
  · trivial
theorem st_unp2 {p : R D} {k : D × D → R β} {i j : Nat} (h : XF m pt p pt1 E) (w1 : WrAt pt1 i) (w2 : ∀ a, WrAt (pt1.set i (.is (.dat a))) j) (hk : ∀ t : D × D, ST rest ((pt1.set i (.is (.dat t.1))).set j (.is (.dat t.2))) (k t) Φ E) : ST (sCons (sUnp [i, j] m) rest) pt (bd p fun d => bd (un2 d) k) Φ E := fun ρ S => by
  rw [← bd_assoc]
  refine sc_go (Q := fun t ρ' => Sees ρ' ((pt1.set i (.is (.dat t.1))).set j (.is (.dat t.2)))) ?_ hk
  unfold sUnp
  refine (h ρ S).bind fun d r ρ1 k => ?_
  obtain ⟨rfl, S1⟩ := k
  unfold un2
  split
  · rename_i a b
    obtain ⟨e, S2⟩ := sees_set2 (b := b) S1 w1 (w2 a)
    exact ⟨.nx, _, by dsimp only; rw [bind_at e]; rfl, rfl, S2⟩
  · trivial
theorem st_unp3 {p : R D} {k : D × D × D → R β} {i j l : Nat} (h : XF m pt p pt1 E) (w1 : WrAt pt1 i) (w2 : ∀ a, WrAt (pt1.set i (.is (.dat a))) j) (w3 : ∀ a b, WrAt ((pt1.set i (.is (.dat a))).set j (.is (.dat b))) l) (hk : ∀ t : D × D × D, ST rest (((pt1.set i (.is (.dat t.1))).set j (.is (.dat t.2.1))).set l (.is (.dat t.2.2))) (k t) Φ E) : ST (sCons (sUnp [i, j, l] m) rest) pt (bd p fun d => bd (un3 d) k) Φ E := fun ρ S => by
  rw [← bd_assoc]
  refine sc_go (Q := fun t ρ' => Sees ρ' (((pt1.set i (.is (.dat t.1))).set j (.is (.dat t.2.1))).set l (.is (.dat t.2.2)))) ?_ hk
  unfold sUnp
  refine (h ρ S).bind fun d r ρ1 k => ?_
  obtain ⟨rfl, S1⟩ := k
  unfold un3
  split
  · rename_i a b c
    obtain ⟨e, S2⟩ := sees_set3 (c := c) S1 w1 (w2 a) (w3 a b)
    exact ⟨.nx, _, by dsimp only; rw [bind_at e]; rfl, rfl, S2⟩
  · trivial
theorem st_unp4 {p : R D} {k : D × D × D × D → R β} {i j l n : Nat} (h : XF m pt p pt1 E) (w1 : WrAt pt1 i) (w2 : ∀ a, WrAt (pt1.set i (.is (.dat a))) j) (w3 : ∀ a b, WrAt ((pt1.set i (.is (.dat a))).set j (.is (.dat b))) l) (w4 : ∀ a b c, WrAt (((pt1.set i (.is (.dat a))).set j (.is (.dat b))).set l (.is (.dat c))) n) (hk : ∀ t : D × D × D × D, ST rest ((((pt1.set i (.is (.dat t.1))).set j (.is (.dat t.2.1))).set l (.is (.dat t.2.2.1))).set n (.is (.dat t.2.2.2))) (k t) Φ E) : ST (sCons (sUnp [i, j, l, n] m) rest) pt (bd p fun d => bd (un4 d) k) Φ E := fun ρ S => by
  rw [← bd_assoc]
  refine sc_go (Q := fun t ρ' => Sees ρ' ((((pt1.set i (.is (.dat t.1))).set j (.is (.dat t.2.1))).set l (.is (.dat t.2.2.1))).set n (.is (.dat t.2.2.2)))) ?_ hk
  unfold sUnp
  refine (h ρ S).bind fun d r ρ1 k => ?_
  obtain ⟨rfl, S1⟩ := k
  unfold un4
  split
  · rename_i a b c e
    obtain ⟨z, S2⟩ := sees_set4 (e := e) S1 w1 (w2 a) (w3 a b) (w4 a b c)
    exact ⟨.nx, _, by dsimp only; rw [bind_at z]; rfl, rfl, S2⟩
  · trivial
theorem st_unp2I {p : R (D × σ)} {k : (D × D) × σ → R β} {i j : Nat} (h : XI m pc s p E) (w1 : ∀ s, WrAt (pc s) i) (w2 : ∀ s a, WrAt ((pc s).set i (.is (.dat a))) j) (hk : ∀ b : (D × D) × σ, ST rest (((pc b.2).set i (.is (.dat b.1.1))).set j (.is (.dat b.1.2))) (k b) Φ E) : ST (sCons (sUnp [i, j] m) rest) (pc s) (bd p fun d => bd (un2 d.1) fun t => k (t, d.2)) Φ E := fun ρ S => by
  have e0 : (bd p fun d => bd (un2 d.1) fun t => k (t, d.2)) = bd (bd p fun d => bd (un2 d.1) fun t => Rk (t, d.2)) k := by
    rw [bd_assoc]; congr 1; funext d; rw [bd_assoc]; rfl
  rw [e0]
  refine sc_go (Q := fun b ρ' => Sees ρ' (((pc b.2).set i (.is (.dat b.1.1))).set j (.is (.dat b.1.2)))) ?_ hk
  unfold sUnp
  refine (h ρ S).bind fun d r ρ1 k => ?_
  obtain ⟨rfl, S1⟩ := k
  unfold un2
  split
  · rename_i a b he
    obtain ⟨e, S2⟩ := sees_set2 (b := b) S1 (w1 _) (w2 _ a)
    rw [he]
    exact ⟨.nx, _, by dsimp only; rw [bind_at e]; rfl, rfl, S2⟩
  · trivial
/-! own lists -/
def stR (ds : List D) (d k : D) : R (List D) := match k with
  | .int k => match ixN ds.length k with
    | some j => Rk (ds.set j d)
    | none => none
  | _ => none
def appR (ds : List D) (d : D) : R (List D) := if ds.length < 16777216 then Rk (ds ++ [d]) else none
theorem eVar_own {ρ : List DV} {v : DV} {ds : List D} (S : Sees ρ pt) (e : pt[i]? = some (.is v)) (o : v.own = some ds) : eVar i ρ = some (.ok (.loc i), ρ) := by
  unfold eVar; rw [S.is e]
  cases v <;> first | rfl | cases o
theorem wrAt_at {ρ : List DV} {v : DV} {ds es : List D} {f : List D → Option (List D)} (S : Sees ρ pt) (e : pt[i]? = some (.is v)) (o : v.own = some ds) (hf : f ds = some es) : wrAt i f ρ = some (.ok (), ρ.set i (v.put es)) := by
  unfold wrAt; rw [S.is e]; dsimp only; rw [o]; dsimp only; rw [hf]
theorem store_go {ρ : List DV} {v : DV} {ds : List D} {k : D} (S : Sees ρ pt) (e : pt[i]? = some (.is v)) (o : v.own = some ds) : Go (storeK d (.loc i) k ρ) (stR ds d k) (fun l fl ρ' => fl = .nx ∧ Sees ρ' (pt.set i (.is (v.put l)))) E := by
  unfold stR
  cases k with
  | int k =>
    dsimp only
    cases q : ixN ds.length k with
    | none => trivial
    | some j =>
      refine ⟨.nx, ρ.set i (v.put (ds.set j d)), ?_, rfl, S.set rfl⟩
      show M.bind (wrAt i fun ds => (ixN ds.length k).map fun j => ds.set j d) (fun _ => M.ok Fl.nx) ρ = _
      rw [bind_at (wrAt_at S e o (es := ds.set j d) (by rw [q]; rfl))]; rfl
  | _ => trivial
theorem st_store {v : DV} {ds : List D} {mi : M DR} {k : List D → R β} {pk : R D} (he : XF m pt pa pt1 E) (hi : XR mi pt1 pk E) (e : pt1[i]? = some (.is v)) (o : v.own = some ds) (hk : ∀ l, ST rest (pt1.set i (.is (v.put l))) (k l) Φ E) : ST (sCons (sStore m (eVar i) mi) rest) pt (bd pa fun d => bd pk fun n => bd (stR ds d n) k) Φ E := fun ρ S => by
  have e0 : (bd pa fun d => bd pk fun n => bd (stR ds d n) k) = bd (bd pa fun d => bd pk fun n => stR ds d n) k := by
    rw [bd_assoc]; congr 1; funext d; rw [bd_assoc]
  rw [e0]
  refine sc_go (Q := fun l ρ' => Sees ρ' (pt1.set i (.is (v.put l)))) ?_ hk
  unfold sStore
  refine (he ρ S).bind fun d r ρ1 h1 => ?_
  obtain ⟨rfl, S1⟩ := h1
  refine Go.then (p := Rk d) (a := d) (ρ' := ρ1) rfl ?_
  refine Go.then (p := Rk d) (eVar_own S1 e o) ?_
  refine (hi ρ1 S1).bind fun n r ρ2 h2 => ?_
  refine Go.then (p := Rk n) (h2.1.rd h2.2) ?_
  exact store_go h2.2 e o
/-- what is stored changes own lists -/
theorem st_storeI {g : σ → List D} {vv : σ → DV} {mi : M DR} {k : List D × σ → R β} {p : R (D × σ)} {pk : D × σ → R D} (he : XI m pc s p E) (hi : ∀ a : D × σ, XR mi (pc a.2) (pk a) E) (e : ∀ s, (pc s)[i]? = some (.is (vv s))) (o : ∀ s, (vv s).own = some (g s)) (hk : ∀ b : List D × σ, ST rest ((pc b.2).set i (.is ((vv b.2).put b.1))) (k b) Φ E) :
    ST (sCons (sStore m (eVar i) mi) rest) (pc s) (bd p fun d => bd (pk d) fun n => bd (stR (g d.2) d.1 n) fun l => k (l, d.2)) Φ E := fun ρ S => by
  have e0 : (bd p fun d => bd (pk d) fun n => bd (stR (g d.2) d.1 n) fun l => k (l, d.2)) = bd (bd p fun d => bd (pk d) fun n => bd (stR (g d.2) d.1 n) fun l => Rk (l, d.2)) k := by
    rw [bd_assoc]; congr 1; funext d; rw [bd_assoc]; congr 1; funext n; rw [bd_assoc]; rfl
  rw [e0]
  refine sc_go (Q := fun b ρ' => Sees ρ' ((pc b.2).set i (.is ((vv b.2).put b.1)))) ?_ hk
  unfold sStore
  refine (he ρ S).bind fun d r ρ1 h1 => ?_
  obtain ⟨rfl, S1⟩ := h1
  refine Go.then (p := Rk d.1) (a := d.1) (ρ' := ρ1) rfl ?_
  refine Go.then (p := Rk d.1) (eVar_own S1 (e _) (o _)) ?_
  refine (hi d ρ1 S1).bind fun n r ρ2 h2 => ?_
  refine Go.then (p := Rk n) (h2.1.rd h2.2) ?_
  have := store_go (d := d.1) (k := n) (E := E) h2.2 (e _) (o _)
  match stR (g d.2) d.1 n, this with
  | none, _ => trivial
  | some (.error x), h => exact h
  | some (.ok l), h => exact h
theorem app_go {ρ : List DV} {v : DV} {ds : List D} (S : Sees ρ pt) (e : pt[i]? = some (.is v)) (o : v.own = some ds) : Go (M.bind (wrAt i fun ds => if ds.length < 16777216 then some (ds ++ [d]) else none) (fun _ => M.ok (DR.dat .none)) ρ) (appR ds d) (fun l r ρ' => r = .dat .none ∧ Sees ρ' (pt.set i (.is (v.put l)))) E := by
  unfold appR
  by_cases h : ds.length < 16777216
  · rw [if_pos h]
    refine ⟨.dat .none, ρ.set i (v.put (ds ++ [d])), ?_, rfl, S.set rfl⟩
    rw [bind_at (wrAt_at S e o (es := ds ++ [d]) (if_pos h))]; rfl
  · rw [if_neg h]; trivial
theorem st_app {v : DV} {ds : List D} {k : List D → R β} (he : XF m pt pa pt1 E) (e0 : pt[i]? = some (.is v)) (e : pt1[i]? = some (.is v)) (o : v.own = some ds) (hk : ∀ l, ST rest (pt1.set i (.is (v.put l))) (k l) Φ E) : ST (sCons (sExpr (eAp (eVar i) m)) rest) pt (bd pa fun d => bd (appR ds d) k) Φ E := fun ρ S => by
  rw [← bd_assoc]
  refine sc_go (Q := fun l ρ' => Sees ρ' (pt1.set i (.is (v.put l)))) ?_ hk
  unfold sExpr
  refine Go.map (Φ := fun l r ρ' => Sees ρ' (pt1.set i (.is (v.put l)))) ?_ fun b a ρ' k => ⟨_, ρ', rfl, rfl, k⟩
  unfold eAp
  refine Go.then (p := Rk PyData.none) (eVar_own S e0 o) ?_
  have e2 : ownAt i ρ = some (.ok ds, ρ) := by unfold ownAt; rw [S.is e0, Option.bind_some, o]
  refine Go.then (p := Rk PyData.none) e2 ?_
  refine (he ρ S).bind fun d r ρ1 h1 => ?_
  obtain ⟨rfl, S1⟩ := h1
  refine Go.then (p := Rk d) (a := d) (ρ' := ρ1) rfl ?_
  exact (app_go S1 e o).mono fun _ _ _ k => k.2
theorem st_appI {g : σ → List D} {vv : σ → DV} {k : List D × σ → R β} {p : R (D × σ)} (he : XI m pc s p E) (e : ∀ s, (pc s)[i]? = some (.is (vv s))) (o : ∀ s, (vv s).own = some (g s)) (hk : ∀ b : List D × σ, ST rest ((pc b.2).set i (.is ((vv b.2).put b.1))) (k b) Φ E) :
    ST (sCons (sExpr (eAp (eVar i) m)) rest) (pc s) (bd p fun d => bd (appR (g d.2) d.1) fun l => k (l, d.2)) Φ E := fun ρ S => by
  have e0 : (bd p fun d => bd (appR (g d.2) d.1) fun l => k (l, d.2)) = bd (bd p fun d => bd (appR (g d.2) d.1) fun l => Rk (l, d.2)) k := by
    rw [bd_assoc]; congr 1; funext d; rw [bd_assoc]; rfl
  rw [e0]
  refine sc_go (Q := fun b ρ' => Sees ρ' ((pc b.2).set i (.is ((vv b.2).put b.1)))) ?_ hk
  unfold sExpr
  refine Go.map (Φ := fun (b : List D × σ) r ρ' => Sees ρ' ((pc b.2).set i (.is ((vv b.2).put b.1)))) ?_ fun b a ρ' k => ⟨_, ρ', rfl, rfl, k⟩
  unfold eAp
  refine Go.then (p := Rk PyData.none) (eVar_own S (e _) (o _)) ?_
  have e2 : ownAt i ρ = some (.ok (g s), ρ) := by unfold ownAt; rw [S.is (e _), Option.bind_some, o]
  refine Go.then (p := Rk PyData.none) e2 ?_
  refine (he ρ S).bind fun d r ρ1 h1 => ?_
  obtain ⟨rfl, S1⟩ := h1
  refine Go.then (p := Rk d.1) (a := d.1) (ρ' := ρ1) rfl ?_
  have := app_go (d := d.1) (E := E) S1 (e _) (o _)
  match appR (g d.2) d.1, this with
  | none, _ => trivial
  | some (.error x), h => exact h
  | some (.ok l), ⟨r, ρ', e, k⟩ => exact ⟨r, ρ', e, k.2⟩
/-- own.extend(a new list) -/
def extR (ds es : List D) : R (List D) := if ds.length + es.length ≤ 16777216 then Rk (ds ++ es) else none
theorem st_ext {v : DV} {ds : List D} {mn : M Unit} {k : List D → R β} {p : R (List D)} (he : NE mn pt p pt1 E) (e0 : pt[i]? = some (.is v)) (e : pt1[i]? = some (.is v)) (o : v.own = some ds) (hk : ∀ l, ST rest (pt1.set i (.is (v.put l))) (k l) Φ E) : ST (sCons (sExpr (eExt (eVar i) mn)) rest) pt (bd p fun es => bd (extR ds es) k) Φ E := fun ρ S => by
  rw [← bd_assoc]
  refine sc_go (Q := fun l ρ' => Sees ρ' (pt1.set i (.is (v.put l)))) ?_ hk
  unfold sExpr
  refine Go.map (Φ := fun l r ρ' => Sees ρ' (pt1.set i (.is (v.put l)))) ?_ fun b a ρ' k => ⟨_, ρ', rfl, rfl, k⟩
  unfold eExt
  refine Go.then (p := Rk PyData.none) (eVar_own S e0 o) ?_
  have e2 : ownAt i ρ = some (.ok ds, ρ) := by unfold ownAt; rw [S.is e0, Option.bind_some, o]
  refine Go.then (p := Rk PyData.none) e2 ?_
  refine (he ρ S).bind fun es _ ρ1 h1 => ?_
  obtain ⟨ρ0, rfl, S1⟩ := h1
  unfold extR
  by_cases h : ds.length + es.length ≤ 16777216
  · rw [if_pos h]
    refine ⟨.dat .none, ρ0.set i (v.put (ds ++ es)), ?_, S1.set rfl⟩
    unfold extAt
    simp only [List.getLast?_append, List.getLast?_singleton, Option.or_some, List.dropLast_concat, S1.is e, o]
    exact if_pos h
  · rw [if_neg h]; trivial
theorem st_extI {g : σ → List D} {vv : σ → DV} {mn : M Unit} {k : List D × σ → R β} {p : R (List D × σ)} (he : NI mn (pc s) p pc E) (e : ∀ s, (pc s)[i]? = some (.is (vv s))) (o : ∀ s, (vv s).own = some (g s)) (hk : ∀ b : List D × σ, ST rest ((pc b.2).set i (.is ((vv b.2).put b.1))) (k b) Φ E) :
    ST (sCons (sExpr (eExt (eVar i) mn)) rest) (pc s) (bd p fun d => bd (extR (g d.2) d.1) fun l => k (l, d.2)) Φ E := fun ρ S => by
  have e0 : (bd p fun d => bd (extR (g d.2) d.1) fun l => k (l, d.2)) = bd (bd p fun d => bd (extR (g d.2) d.1) fun l => Rk (l, d.2)) k := by
    rw [bd_assoc]; congr 1; funext d; rw [bd_assoc]; rfl
  rw [e0]
  refine sc_go (Q := fun b ρ' => Sees ρ' ((pc b.2).set i (.is ((vv b.2).put b.1)))) ?_ hk
  unfold sExpr
  refine Go.map (Φ := fun (b : List D × σ) r ρ' => Sees ρ' ((pc b.2).set i (.is ((vv b.2).put b.1)))) ?_ fun b a ρ' k => ⟨_, ρ', rfl, rfl, k⟩
  unfold eExt
  refine Go.then (p := Rk PyData.none) (eVar_own S (e _) (o _)) ?_
  have e2 : ownAt i ρ = some (.ok (g s), ρ) := by unfold ownAt; rw [S.is (e _), Option.bind_some, o]
  refine Go.then (p := Rk PyData.none) e2 ?_
  refine (he ρ S).bind fun es _ ρ1 h1 => ?_
  obtain ⟨ρ0, rfl, S1⟩ := h1
  unfold extR
  by_cases h : (g es.2).length + es.1.length ≤ 16777216
  · rw [if_pos h]
    refine ⟨.dat .none, ρ0.set i ((vv es.2).put (g es.2 ++ es.1)), ?_, S1.set rfl⟩
    unfold extAt
    simp only [List.getLast?_append, List.getLast?_singleton, Option.or_some, List.dropLast_concat, S1.is (e _), o]
    exact if_pos h
  · rw [if_neg h]; trivial
theorem st_aug {f : D → D → Option D} {d0 : D} {k : D → R β} (e : pt[i]? = some (.is (.dat d0))) (h : XR m pt pa E) (hk : ∀ z, ST rest (pt.set i (.is (.dat z))) (k z) Φ E) : ST (sCons (sAug i f m) rest) pt (bd pa fun d => bd (lf (f d0 d)) k) Φ E := fun ρ S => by
  rw [← bd_assoc]
  refine sc_go (Q := fun z ρ' => Sees ρ' (pt.set i (.is (.dat z)))) ?_ hk
  unfold sAug
  rw [S.is e]
  dsimp only
  refine (h ρ S).bind fun d r ρ1 h1 => ?_
  refine Go.then (p := Rk d) (h1.1.rd h1.2) ?_
  cases f d0 d with
  | none => trivial
  | some z =>
    refine ⟨.nx, ρ1.set i (.dat z), ?_, rfl, h1.2.set rfl⟩
    have w : WrAt pt i := by unfold WrAt; rw [e]; rfl
    show M.bind (setD i z) (fun _ => M.ok Fl.nx) ρ1 = _
    rw [bind_at (h1.2.setD w)]; rfl
theorem st_augI {f : D → D → Option D} {d0 : D} {k : D × σ → R β} {p : R (D × σ)} (e : ∀ s, (pc s)[i]? = some (.is (.dat d0))) (h : XI m pc s p E) (hk : ∀ z : D × σ, ST rest ((pc z.2).set i (.is (.dat z.1))) (k z) Φ E) : ST (sCons (sAug i f m) rest) (pc s) (bd p fun d => bd (lf (f d0 d.1)) fun z => k (z, d.2)) Φ E := fun ρ S => by
  have e0 : (bd p fun d => bd (lf (f d0 d.1)) fun z => k (z, d.2)) = bd (bd p fun d => bd (lf (f d0 d.1)) fun z => Rk (z, d.2)) k := by
    rw [bd_assoc]; congr 1; funext d; rw [bd_assoc]; rfl
  rw [e0]
  refine sc_go (Q := fun z ρ' => Sees ρ' ((pc z.2).set i (.is (.dat z.1)))) ?_ hk
  unfold sAug
  rw [S.is (e s)]
  dsimp only
  refine (h ρ S).bind fun d r ρ1 h1 => ?_
  obtain ⟨rfl, S1⟩ := h1
  refine Go.then (p := Rk d.1) (a := d.1) (ρ' := ρ1) rfl ?_
  cases f d0 d.1 with
  | none => trivial
  | some z =>
    refine ⟨.nx, ρ1.set i (.dat z), ?_, rfl, S1.set rfl⟩
    have w : WrAt (pc d.2) i := by unfold WrAt; rw [e]; rfl
    show M.bind (setD i z) (fun _ => M.ok Fl.nx) ρ1 = _
    rw [bind_at (S1.setD w)]; rfl
theorem st_expr {k : D → R β} (h : XF m pt pa pt1 E) (hk : ∀ d, ST rest pt1 (k d) Φ E) : ST (sCons (sExpr m) rest) pt (bd pa k) Φ E := fun ρ S => by
  refine sc_go (Q := fun _ ρ' => Sees ρ' pt1) ?_ fun d ρ' S' => hk d ρ' S'
  unfold sExpr
  exact Go.map (h ρ S) fun b a ρ' k => ⟨_, ρ', rfl, rfl, k.2⟩
theorem st_exprI {p : R (D × σ)} {k : D × σ → R β} (h : XI m pc s p E) (hk : ∀ b : D × σ, ST rest (pc b.2) (k b) Φ E) : ST (sCons (sExpr m) rest) (pc s) (bd p k) Φ E := fun ρ S => by
  refine sc_go (Q := fun b ρ' => Sees ρ' (pc b.2)) ?_ fun b ρ' S' => hk b ρ' S'
  unfold sExpr
  exact Go.map (h ρ S) fun b a ρ' k => ⟨_, ρ', rfl, rfl, k.2⟩
end
end DL

set_option Elab.async false
set_option linter.all false
set_option maxRecDepth 100000
set_option maxHeartbeats 4000000
/-! PF5: ways, loops, ends of defs. -/
namespace DL
open PySem PySem.Spec PyProof.Rows L2
section
variable {α β γ δ σ τ : Type} {m ma mb mc : M DR} {pt pt1 pt2 pt' : List PV} {pa pb pc' : R D} {E : List DV → Prop} {d x y : D} {i j : Nat} {ms : M (List DR)} {pc : σ → List PV} {s : σ} {rest : M Fl} {Φ : β → Fl → List DV → Prop}
/-! ### ways -/
theorem st_if {mc : M Bool} {m1 m2 : M Fl} {p : R Bool} {p1 p2 : R β} (h : TE mc pt p E) (h1 : ST (sCons m1 rest) pt p1 Φ E) (h2 : ST (sCons m2 rest) pt p2 Φ E) : ST (sCons (sIf mc m1 m2) rest) pt (bd p fun b => if b = true then p1 else p2) Φ E := fun ρ S => by
  have e : sCons (sIf mc m1 m2) rest ρ = M.bind mc (fun b => if b = true then sCons m1 rest else sCons m2 rest) ρ := by
    unfold sCons sIf
    rw [M.assoc]
    unfold M.bind
    cases mc ρ with
    | none => rfl
    | some o =>
      obtain ⟨o, ρ1⟩ := o
      cases o with
      | error x => rfl
      | ok b => cases b <;> rfl
  rw [e]
  refine (h ρ S).bind fun b c ρ1 k => ?_
  obtain ⟨rfl, S1⟩ := k
  cases c with
  | true => exact h1 ρ1 S1
  | false => exact h2 ρ1 S1
theorem st_ifI {mc : M Bool} {m1 m2 : M Fl} {p : R (Bool × σ)} {p1 p2 : Bool × σ → R β} (h : TI mc pc s p E) (h1 : ∀ b : Bool × σ, ST (sCons m1 rest) (pc b.2) (p1 b) Φ E) (h2 : ∀ b : Bool × σ, ST (sCons m2 rest) (pc b.2) (p2 b) Φ E) : ST (sCons (sIf mc m1 m2) rest) (pc s) (bd p fun b => if b.1 = true then p1 b else p2 b) Φ E := fun ρ S => by
  have e : sCons (sIf mc m1 m2) rest ρ = M.bind mc (fun b => if b = true then sCons m1 rest else sCons m2 rest) ρ := by
    unfold sCons sIf
    rw [M.assoc]
    unfold M.bind
    cases mc ρ with
    | none => rfl
    | some o =>
      obtain ⟨o, ρ1⟩ := o
      cases o with
      | error x => rfl
      | ok b => cases b <;> rfl
  rw [e]
  refine (h ρ S).bind fun b c ρ1 k => ?_
  obtain ⟨rfl, S1⟩ := k
  match b, S1 with
  | (true, s'), S1 => exact h1 (true, s') ρ1 S1
  | (false, s'), S1 => exact h2 (false, s') ρ1 S1
/-- where both ways go on: what is told behind them -/
def ΦJ (pJ : α → List PV) (a : α) (fl : Fl) (ρ : List DV) : Prop := fl = .nx ∧ Sees ρ (pJ a)
theorem st_block {mb : M Fl} {p : R α} {k : α → R β} (pJ : α → List PV) (h : ST mb pt p (ΦJ pJ) E) (hk : ∀ a, ST rest (pJ a) (k a) Φ E) : ST (sCons mb rest) pt (bd p k) Φ E := fun ρ S => sc_go (Q := fun a ρ' => Sees ρ' (pJ a)) (h ρ S) fun a ρ' S' => hk a ρ' S'
theorem st_ifj {mc : M Bool} {m1 m2 : M Fl} {p : R Bool} {p1 p2 : R α} {k : α → R β} (pJ : α → List PV) (h : TE mc pt p E) (h1 : ST m1 pt p1 (ΦJ pJ) E) (h2 : ST m2 pt p2 (ΦJ pJ) E) (hk : ∀ a, ST rest (pJ a) (k a) Φ E) :
    ST (sCons (sIf mc m1 m2) rest) pt (bd p fun b => bd (if b = true then p1 else p2) k) Φ E := fun ρ S => by
  rw [← bd_assoc]
  refine sc_go (Q := fun a ρ' => Sees ρ' (pJ a)) ?_ fun a ρ' S' => hk a ρ' S'
  unfold sIf
  refine (h ρ S).bind fun b c ρ1 k => ?_
  obtain ⟨rfl, S1⟩ := k
  cases c with
  | true => exact h1 ρ1 S1
  | false => exact h2 ρ1 S1
theorem st_ifjI {mc : M Bool} {m1 m2 : M Fl} {p : R (Bool × σ)} {p1 p2 : Bool × σ → R α} {k : α → R β} (pJ : α → List PV) (h : TI mc pc s p E) (h1 : ∀ b : Bool × σ, ST m1 (pc b.2) (p1 b) (ΦJ pJ) E) (h2 : ∀ b : Bool × σ, ST m2 (pc b.2) (p2 b) (ΦJ pJ) E) (hk : ∀ a, ST rest (pJ a) (k a) Φ E) :
    ST (sCons (sIf mc m1 m2) rest) (pc s) (bd p fun b => bd (if b.1 = true then p1 b else p2 b) k) Φ E := fun ρ S => by
  rw [← bd_assoc]
  refine sc_go (Q := fun a ρ' => Sees ρ' (pJ a)) ?_ fun a ρ' S' => hk a ρ' S'
  unfold sIf
  refine (h ρ S).bind fun b c ρ1 k => ?_
  obtain ⟨rfl, S1⟩ := k
  match b, S1 with
  | (true, s'), S1 => exact h1 (true, s') ρ1 S1
  | (false, s'), S1 => exact h2 (false, s') ρ1 S1
/-- the end of a way: what is told -/
theorem st_j {pJ : α → List PV} {a : α} (w : PLe pt (pJ a)) : ST sNil pt (Rk a) (ΦJ pJ) E := st_nx fun ρ S => ⟨rfl, S.weak w⟩

/-! ### loops -/
def forR (f : σ → D → R σ) : σ → List D → R σ
  | s, [] => Rk s
  | s, d :: ds => bd (f s d) fun s' => forR f s' ds
def forX (f : σ → D → R (Lo σ τ)) : σ → List D → R (Lo σ τ)
  | s, [] => Rk (.nx s)
  | s, d :: ds => bd (f s d) fun l => match l with
    | .nx s' => forX f s' ds
    | .brk s' => Rk (.nx s')
    | .ret t => Rk (.ret t)
def thn (l : Lo σ τ) (k : σ → R β) (r : τ → R β) : R β := match l with
  | .nx s => k s
  | .brk s => k s
  | .ret t => r t
@[simp] theorem thn_nx {k : σ → R β} {r : τ → R β} : thn (.nx s) k r = k s := nr rfl
@[simp] theorem thn_brk {k : σ → R β} {r : τ → R β} : thn (.brk s) k r = k s := nr rfl
@[simp] theorem thn_ret {t : τ} {k : σ → R β} {r : τ → R β} : thn (.ret t : Lo σ τ) k r = r t := nr rfl
def ΦL (pI : σ → List PV) (s : σ) (fl : Fl) (ρ : List DV) : Prop := (fl = .nx ∨ fl = .cnt) ∧ Sees ρ (pI s)
def ΦX (pI : σ → List PV) (Ψ : τ → RV → List DV → Prop) (l : Lo σ τ) (fl : Fl) (ρ : List DV) : Prop := match l with
  | .nx s => (fl = .nx ∨ fl = .cnt) ∧ Sees ρ (pI s)
  | .brk s => fl = .brk ∧ Sees ρ (pI s)
  | .ret t => ∃ r, fl = .ret r ∧ Ψ t r ρ
theorem for_go {b : D → M Fl} {f : σ → D → R σ} {pI : σ → List PV} (hb : ∀ s d, ST (b d) (pI s) (f s d) (ΦL pI) E) : ∀ (ds : List D) (s : σ) (ρ : List DV), Sees ρ (pI s) → Go (forM_ b ds ρ) (forR f s ds) (fun s' fl ρ' => fl = .nx ∧ Sees ρ' (pI s')) E
  | [], s, ρ, S => ⟨.nx, ρ, rfl, rfl, S⟩
  | d :: ds, s, ρ, S => by
    show Go (M.bind (b d) _ ρ) _ _ _
    refine (hb s d ρ S).bind fun s' fl ρ' k => ?_
    obtain ⟨h | h, S'⟩ := k
    · subst h; exact for_go hb ds s' ρ' S'
    · subst h; exact for_go hb ds s' ρ' S'
theorem forX_go {b : D → M Fl} {f : σ → D → R (Lo σ τ)} {pI : σ → List PV} {Ψ : τ → RV → List DV → Prop} (hb : ∀ s d, ST (b d) (pI s) (f s d) (ΦX pI Ψ) E) : ∀ (ds : List D) (s : σ) (ρ : List DV), Sees ρ (pI s) →
    Go (forM_ b ds ρ) (forX f s ds) (fun l fl ρ' => match l with | .nx s' => fl = .nx ∧ Sees ρ' (pI s') | .brk _ => False | .ret t => ∃ r, fl = .ret r ∧ Ψ t r ρ') E
  | [], s, ρ, S => ⟨.nx, ρ, rfl, rfl, S⟩
  | d :: ds, s, ρ, S => by
    show Go (M.bind (b d) _ ρ) _ _ _
    refine (hb s d ρ S).bind fun l fl ρ' k => ?_
    match l, k with
    | .nx s', ⟨h, S'⟩ =>
      rcases h with h | h
      · subst h; exact forX_go hb ds s' ρ' S'
      · subst h; exact forX_go hb ds s' ρ' S'
    | .brk s', ⟨h, S'⟩ => subst h; exact ⟨.nx, ρ', rfl, rfl, S'⟩
    | .ret t, ⟨r, h, q⟩ => subst h; exact ⟨.ret r, ρ', rfl, r, rfl, q⟩
theorem st_for {mi : M (List D)} {t : DT} {mb : M Fl} {p : R (List D)} {f : σ → D → R σ} {k : σ → R β} (pI : σ → List PV) (s0 : σ) (hi : IE mi pt p pt1 E) (w : PLe pt1 (pI s0)) (hb : ∀ s d, ST (M.bind (setT t d) fun _ => mb) (pI s) (f s d) (ΦL pI) E) (hk : ∀ s, ST rest (pI s) (k s) Φ E) :
    ST (sCons (sFor mi t mb) rest) pt (bd p fun ds => bd (forR f s0 ds) k) Φ E := fun ρ S => by
  rw [← bd_assoc]
  refine sc_go (Q := fun s ρ' => Sees ρ' (pI s)) ?_ fun s ρ' S' => hk s ρ' S'
  unfold sFor
  refine (hi ρ S).bind fun ds es ρ1 k => ?_
  obtain ⟨rfl, S1⟩ := k
  exact for_go hb es s0 ρ1 (S1.weak w)
theorem st_forI {mi : M (List D)} {t : DT} {mb : M Fl} {p : R (List D × σ)} {f : τ → D → R τ} {k : τ → R β} (pI : τ → List PV) (s0 : σ → τ) (hi : II mi pc s p E) (w : ∀ s, PLe (pc s) (pI (s0 s))) (hb : ∀ s d, ST (M.bind (setT t d) fun _ => mb) (pI s) (f s d) (ΦL pI) E) (hk : ∀ s, ST rest (pI s) (k s) Φ E) :
    ST (sCons (sFor mi t mb) rest) (pc s) (bd p fun b => bd (forR f (s0 b.2) b.1) k) Φ E := fun ρ S => by
  rw [← bd_assoc]
  refine sc_go (Q := fun s ρ' => Sees ρ' (pI s)) ?_ fun s ρ' S' => hk s ρ' S'
  unfold sFor
  refine (hi ρ S).bind fun ds es ρ1 k => ?_
  obtain ⟨rfl, S1⟩ := k
  exact for_go hb ds.1 (s0 ds.2) ρ1 (S1.weak (w _))
theorem forX_st {mi : M (List D)} {Ψ : τ → RV → List DV → Prop} {pI : σ → List PV} {ρ : List DV} {p : R (Lo σ τ)} {m1 : M Fl} {k : σ → R β} {inj : τ → β} (h : Go (m1 ρ) p (fun l fl ρ' => match l with | .nx s' => fl = .nx ∧ Sees ρ' (pI s') | .brk _ => False | .ret t => ∃ r, fl = .ret r ∧ Ψ t r ρ') E)
    (hk : ∀ s, ST rest (pI s) (k s) Φ E) (hr : ∀ t r ρ, Ψ t r ρ → Φ (inj t) (.ret r) ρ) : Go (sCons m1 rest ρ) (bd p fun l => thn l k fun t => Rk (inj t)) Φ E := by
  unfold sCons
  refine h.bind fun l fl ρ' q => ?_
  match l, q with
  | .nx s', ⟨h, S'⟩ => subst h; exact hk s' ρ' S'
  | .ret t, ⟨r, h, q2⟩ => subst h; exact ⟨.ret r, ρ', rfl, hr t r ρ' q2⟩
theorem st_forX {mi : M (List D)} {t : DT} {mb : M Fl} {p : R (List D)} {f : σ → D → R (Lo σ τ)} {k : σ → R β} {Ψ : τ → RV → List DV → Prop} (inj : τ → β) (pI : σ → List PV) (s0 : σ) (hi : IE mi pt p pt1 E) (w : PLe pt1 (pI s0)) (hb : ∀ s d, ST (M.bind (setT t d) fun _ => mb) (pI s) (f s d) (ΦX pI Ψ) E)
    (hk : ∀ s, ST rest (pI s) (k s) Φ E) (hr : ∀ t r ρ, Ψ t r ρ → Φ (inj t) (.ret r) ρ) :
    ST (sCons (sFor mi t mb) rest) pt (bd p fun ds => bd (forX f s0 ds) fun l => thn l k fun t => Rk (inj t)) Φ E := fun ρ S => by
  rw [← bd_assoc]
  refine forX_st (mi := mi) (pI := pI) (Ψ := Ψ) ?_ hk hr
  unfold sFor
  refine (hi ρ S).bind fun ds es ρ1 k => ?_
  obtain ⟨rfl, S1⟩ := k
  exact forX_go hb es s0 ρ1 (S1.weak w)
theorem st_forXI {υ : Type} {mi : M (List D)} {t : DT} {mb : M Fl} {p : R (List D × σ)} {f : υ → D → R (Lo υ τ)} {k : υ → R β} {Ψ : τ → RV → List DV → Prop} (inj : τ → β) (pI : υ → List PV) (s0 : σ → υ) (hi : II mi pc s p E) (w : ∀ s, PLe (pc s) (pI (s0 s))) (hb : ∀ s d, ST (M.bind (setT t d) fun _ => mb) (pI s) (f s d) (ΦX pI Ψ) E)
    (hk : ∀ s, ST rest (pI s) (k s) Φ E) (hr : ∀ t r ρ, Ψ t r ρ → Φ (inj t) (.ret r) ρ) :
    ST (sCons (sFor mi t mb) rest) (pc s) (bd p fun b => bd (forX f (s0 b.2) b.1) fun l => thn l k fun t => Rk (inj t)) Φ E := fun ρ S => by
  rw [← bd_assoc]
  refine forX_st (mi := mi) (pI := pI) (Ψ := Ψ) ?_ hk hr
  unfold sFor
  refine (hi ρ S).bind fun ds es ρ1 k => ?_
  obtain ⟨rfl, S1⟩ := k
  exact forX_go hb ds.1 (s0 ds.2) ρ1 (S1.weak (w _))
/-! a turn's target -/
theorem sb_nm {mb : M Fl} {p : R β} (w : WrAt pt i) (h : ST mb (pt.set i (.is (.dat d))) p Φ E) : ST (M.bind (setT (.nm i) d) fun _ => mb) pt p Φ E := fun ρ S => by
  rw [bind_at (show setT (.nm i) d ρ = _ from S.setD w)]
  exact h _ (S.set rfl)
theorem sb_tp {t : DT} {mb : M Fl} {ps : R α} {ptt : α → List PV} {k : α → R β} (hs : SE (setT t d) pt ps ptt E) (h : ∀ a, ST mb (ptt a) (k a) Φ E) : ST (M.bind (setT t d) fun _ => mb) pt (bd ps k) Φ E := fun ρ S => (hs ρ S).bind fun a _ ρ1 S1 => h a ρ1 S1
/-! ends of a turn -/
theorem st_l {pI : σ → List PV} {s : σ} (w : PLe pt (pI s)) : ST sNil pt (Rk s) (ΦL pI) E := st_nx fun ρ S => ⟨.inl rfl, S.weak w⟩
theorem st_lc {pI : σ → List PV} {s : σ} (w : PLe pt (pI s)) : ST (sCons sCnt rest) pt (Rk s) (ΦL pI) E := fun ρ S => ⟨.cnt, ρ, rfl, .inr rfl, S.weak w⟩
theorem st_xl {pI : σ → List PV} {Ψ : τ → RV → List DV → Prop} {s : σ} (w : PLe pt (pI s)) : ST sNil pt (Rk (.nx s)) (ΦX pI Ψ) E := st_nx fun ρ S => ⟨.inl rfl, S.weak w⟩
theorem st_xlc {pI : σ → List PV} {Ψ : τ → RV → List DV → Prop} {s : σ} (w : PLe pt (pI s)) : ST (sCons sCnt rest) pt (Rk (.nx s)) (ΦX pI Ψ) E := fun ρ S => ⟨.cnt, ρ, rfl, .inr rfl, S.weak w⟩
theorem st_xb {pI : σ → List PV} {Ψ : τ → RV → List DV → Prop} {s : σ} (w : PLe pt (pI s)) : ST (sCons sBrk rest) pt (Rk (.brk s)) (ΦX pI Ψ) E := fun ρ S => ⟨.brk, ρ, rfl, rfl, S.weak w⟩
/-! ### ends of defs -/
def ΦF (Ψ : τ → RV → List DV → Prop) (t : τ) (fl : Fl) (ρ : List DV) : Prop := match fl with
  | .ret r => Ψ t r ρ
  | .nx => Ψ t (.dat .none) ρ
  | _ => False
def PsiD (t : D) (r : RV) (_ : List DV) : Prop := rvD r = t
def PsiN (t : List D) (r : RV) (_ : List DV) : Prop := r = .new t
def PsiDo (t : D × List D) (r : RV) (ρ : List DV) : Prop := rvD r = t.1 ∧ lent0 ρ[0]? = t.2
def PsiNo (t : List D × List D) (r : RV) (ρ : List DV) : Prop := r = .new t.1 ∧ lent0 ρ[0]? = t.2
/-- what a return tells, by the level -/
def RetΦ (Ψ : τ → RV → List DV → Prop) (Φ : β → Fl → List DV → Prop) (inj : τ → β) : Prop := ∀ t r ρ, Ψ t r ρ → Φ (inj t) (.ret r) ρ
theorem retF {Ψ : τ → RV → List DV → Prop} : RetΦ Ψ (ΦF Ψ) id := fun _ _ _ h => h
theorem retX {Ψ : τ → RV → List DV → Prop} {pI : σ → List PV} : RetΦ Ψ (ΦX pI Ψ) Lo.ret := fun _ r _ h => ⟨r, rfl, h⟩
theorem sRet_at {ρ ρ' : List DV} (e : m ρ = some (.ok (.dat d), ρ')) : sCons (sRet m) rest ρ = some (.ok (.ret (.dat d)), ρ') := by
  unfold sCons sRet
  rw [M.assoc, bind_at e]; rfl
theorem sRet_er {ρ ρ' : List DV} {z : Ex} (e : m ρ = some (.error z, ρ')) : sCons (sRet m) rest ρ = some (.error z, ρ') := by
  unfold sCons sRet M.bind
  rw [e]
/-- return e, told as it is -/
theorem st_ret {Φ : D → Fl → List DV → Prop} (hΦ : RetΦ PsiD Φ id) (h : XF m pt pa pt1 E) : ST (sCons (sRet m) rest) pt pa Φ E := fun ρ S => by
  have := h ρ S
  match pa, this with
  | none, _ => trivial
  | some (.ok a), ⟨r, ρ', e, er, S1⟩ => subst er; exact ⟨_, ρ', sRet_at e, hΦ _ (.dat a) _ rfl⟩
  | some (.error x), ⟨ρ', e, hE⟩ => exact ⟨ρ', sRet_er e, hE⟩
theorem st_retj {inj : D → β} (hΦ : RetΦ PsiD Φ inj) (h : XF m pt pa pt1 E) : ST (sCons (sRet m) rest) pt (bd pa fun d => Rk (inj d)) Φ E := fun ρ S => by
  have := h ρ S
  match pa, this with
  | none, _ => trivial
  | some (.ok a), ⟨r, ρ', e, er, S1⟩ => subst er; exact ⟨_, ρ', sRet_at e, hΦ _ (.dat a) _ rfl⟩
  | some (.error x), ⟨ρ', e, hE⟩ => exact ⟨ρ', sRet_er e, hE⟩
theorem st_retA {inj : D → β} (hΦ : RetΦ PsiD Φ inj) (h : AtS m pt x) : ST (sCons (sRet m) rest) pt (Rk (inj x)) Φ E := fun ρ S => ⟨_, ρ, sRet_at (h ρ S), hΦ _ (.dat x) _ rfl⟩
/-- of a def that is lent a list -/
theorem st_reto {inj : D × List D → β} {w : List D} (hΦ : RetΦ PsiDo Φ inj) (h : XF m pt pa pt1 E) (hw : pt1[0]? = some (.is (.bor w))) : ST (sCons (sRet m) rest) pt (bd pa fun d => Rk (inj (d, w))) Φ E := fun ρ S => by
  have := h ρ S
  match pa, this with
  | none, _ => trivial
  | some (.ok a), ⟨r, ρ', e, er, S1⟩ => subst er; exact ⟨_, ρ', sRet_at e, hΦ (a, w) (.dat a) _ ⟨rfl, by rw [S1.is hw]; rfl⟩⟩
  | some (.error x), ⟨ρ', e, hE⟩ => exact ⟨ρ', sRet_er e, hE⟩
theorem st_retoI {inj : D × List D → β} {p : R (D × σ)} {g : σ → List D} (hΦ : RetΦ PsiDo Φ inj) (h : XI m pc s p E) (hw : ∀ s, (pc s)[0]? = some (.is (.bor (g s)))) : ST (sCons (sRet m) rest) (pc s) (bd p fun b => Rk (inj (b.1, g b.2))) Φ E := fun ρ S => by
  have := h ρ S
  match p, this with
  | none, _ => trivial
  | some (.ok a), ⟨r, ρ', e, er, S1⟩ => subst er; exact ⟨_, ρ', sRet_at e, hΦ (a.1, g a.2) (.dat a.1) _ ⟨rfl, by rw [S1.is (hw _)]; rfl⟩⟩
  | some (.error x), ⟨ρ', e, hE⟩ => exact ⟨ρ', sRet_er e, hE⟩
/-- own lists change, none of them is lent -/
theorem st_retI {inj : D → β} {p : R (D × σ)} (hΦ : RetΦ PsiD Φ inj) (h : XI m pc s p E) : ST (sCons (sRet m) rest) (pc s) (bd p fun b => Rk (inj b.1)) Φ E := fun ρ S => by
  have := h ρ S
  match p, this with
  | none, _ => trivial
  | some (.ok a), ⟨r, ρ', e, er, S1⟩ => subst er; exact ⟨_, ρ', sRet_at e, hΦ _ (.dat a.1) _ rfl⟩
  | some (.error x), ⟨ρ', e, hE⟩ => exact ⟨ρ', sRet_er e, hE⟩
theorem sRetOwn_at {ρ : List DV} {l : List D} (S : Sees ρ pt) (e : pt[i]? = some (.is (.lst l))) : sCons (sRetOwn i) rest ρ = some (.ok (.ret (.new l)), ρ) := by
  unfold sCons sRetOwn M.bind
  dsimp only
  rw [S.is e]; rfl
theorem st_retOwn {inj : List D → β} {l : List D} (hΦ : RetΦ PsiN Φ inj) (e : pt[i]? = some (.is (.lst l))) : ST (sCons (sRetOwn i) rest) pt (Rk (inj l)) Φ E := fun ρ S => ⟨_, ρ, sRetOwn_at S e, hΦ l (.new l) _ rfl⟩
/-- told as a datum -/
theorem st_retOwnD {inj : D → β} {l : List D} (hΦ : RetΦ PsiD Φ inj) (e : pt[i]? = some (.is (.lst l))) : ST (sCons (sRetOwn i) rest) pt (Rk (inj (.list l))) Φ E := fun ρ S => ⟨_, ρ, sRetOwn_at S e, hΦ (.list l) (.new l) _ rfl⟩
theorem st_retOwno {inj : List D × List D → β} {l w : List D} (hΦ : RetΦ PsiNo Φ inj) (e : pt[i]? = some (.is (.lst l))) (hw : pt[0]? = some (.is (.bor w))) : ST (sCons (sRetOwn i) rest) pt (Rk (inj (l, w))) Φ E := fun ρ S => ⟨_, ρ, sRetOwn_at S e, hΦ (l, w) (.new l) _ ⟨rfl, by rw [S.is hw]; rfl⟩⟩
theorem sRetN_at {mn : M Unit} {ρ ρ0 : List DV} {l : List D} (e : mn ρ = some (.ok (), ρ0 ++ [.lst l])) : sCons (sRetN mn) rest ρ = some (.ok (.ret (.new l)), ρ0) := by
  unfold sCons sRetN
  rw [M.assoc, bind_at e]
  unfold M.bind
  simp
  rfl
theorem sRetN_er {mn : M Unit} {ρ ρ0 : List DV} {z : Ex} (e : mn ρ = some (.error z, ρ0)) : sCons (sRetN mn) rest ρ = some (.error z, ρ0) := by
  unfold sCons sRetN M.bind
  rw [e]
theorem st_retN {inj : List D → β} {mn : M Unit} {p : R (List D)} (hΦ : RetΦ PsiN Φ inj) (h : NE mn pt p pt1 E) : ST (sCons (sRetN mn) rest) pt (bd p fun l => Rk (inj l)) Φ E := fun ρ S => by
  have := h ρ S
  match p, this with
  | none, _ => trivial
  | some (.ok l), ⟨_, ρ', e, ρ0, er, S1⟩ => subst er; exact ⟨_, ρ0, sRetN_at e, hΦ l (.new l) _ rfl⟩
  | some (.error x), ⟨ρ', e, hE⟩ => exact ⟨ρ', sRetN_er e, hE⟩
theorem st_retND {inj : D → β} {mn : M Unit} {p : R (List D)} (hΦ : RetΦ PsiD Φ inj) (h : NE mn pt p pt1 E) : ST (sCons (sRetN mn) rest) pt (bd p fun l => Rk (inj (.list l))) Φ E := fun ρ S => by
  have := h ρ S
  match p, this with
  | none, _ => trivial
  | some (.ok l), ⟨_, ρ', e, ρ0, er, S1⟩ => subst er; exact ⟨_, ρ0, sRetN_at e, hΦ (.list l) (.new l) _ rfl⟩
  | some (.error x), ⟨ρ', e, hE⟩ => exact ⟨ρ', sRetN_er e, hE⟩
theorem st_retNo {inj : List D × List D → β} {mn : M Unit} {p : R (List D)} {w : List D} (hΦ : RetΦ PsiNo Φ inj) (h : NE mn pt p pt1 E) (hw : pt1[0]? = some (.is (.bor w))) : ST (sCons (sRetN mn) rest) pt (bd p fun l => Rk (inj (l, w))) Φ E := fun ρ S => by
  have := h ρ S
  match p, this with
  | none, _ => trivial
  | some (.ok l), ⟨_, ρ', e, ρ0, er, S1⟩ => subst er; exact ⟨_, ρ0, sRetN_at e, hΦ (l, w) (.new l) _ ⟨rfl, by rw [S1.is hw]; rfl⟩⟩
  | some (.error x), ⟨ρ', e, hE⟩ => exact ⟨ρ', sRetN_er e, hE⟩
theorem st_retNoI {inj : List D × List D → β} {mn : M Unit} {p : R (List D × σ)} {g : σ → List D} (hΦ : RetΦ PsiNo Φ inj) (h : NI mn pt p pc E) (hw : ∀ s, (pc s)[0]? = some (.is (.bor (g s)))) : ST (sCons (sRetN mn) rest) pt (bd p fun b => Rk (inj (b.1, g b.2))) Φ E := fun ρ S => by
  have := h ρ S
  match p, this with
  | none, _ => trivial
  | some (.ok b), ⟨_, ρ', e, ρ0, er, S1⟩ => subst er; exact ⟨_, ρ0, sRetN_at e, hΦ (b.1, g b.2) (.new b.1) _ ⟨rfl, by rw [S1.is (hw _)]; rfl⟩⟩
  | some (.error x), ⟨ρ', e, hE⟩ => exact ⟨ρ', sRetN_er e, hE⟩
/-- a def's body runs to its end -/
theorem st_endD : ST sNil pt (Rk PyData.none) (ΦF PsiD) E := st_nx fun ρ S => rfl
theorem st_endDo {w : List D} (hw : pt[0]? = some (.is (.bor w))) : ST sNil pt (Rk (PyData.none, w)) (ΦF PsiDo) E := st_nx fun ρ S => ⟨rfl, by rw [S.is hw]; rfl⟩
theorem st_raise {c : Str} {hE : ∀ ρ, Sees ρ pt1 → E ρ} (h : XF m pt pa pt1 E) : ST (sCons (sRaise c m) rest) pt (bd pa fun d => Rx (c, d)) Φ E := fun ρ S => by
  have := h ρ S
  match pa, this with
  | none, _ => trivial
  | some (.ok a), ⟨r, ρ', e, er, S1⟩ =>
    subst er
    refine ⟨ρ', ?_, hE ρ' S1⟩
    unfold sCons sRaise
    rw [M.assoc, bind_at e]; rfl
  | some (.error x), ⟨ρ', e, hE⟩ =>
    refine ⟨ρ', ?_, hE⟩
    unfold sCons sRaise M.bind
    rw [e]
/-! ### try -/
def tryR (ca : Str → Option Bool) (p : R β) (h : Ex → R β) : R β := match p with
  | some (.error x) => match ca x.1 with
    | some true => quiet (h x)
    | some false => some (.error x)
    | none => none
  | o => o
@[simp] theorem tryR_ok {ca : Str → Option Bool} {b : β} {h : Ex → R β} : tryR ca (Rk b) h = Rk b := nr rfl
@[simp] theorem tryR_no {ca : Str → Option Bool} {h : Ex → R β} : tryR ca none h = none := nr rfl
theorem tryR_er {ca : Str → Option Bool} {x : Ex} {h : Ex → R β} (e : ca x.1 = some true) : tryR ca (Rx x) h = quiet (h x) := by
  unfold tryR Rx; dsimp only; rw [e]
/-- try: mb, except LeaseError as i: ms; both go on -/
theorem st_try {ca : Str → Option Bool} {mb ms : M Fl} {p : R α} {h : Ex → R α} {k : α → R β} (pJ : α → List PV) (ptE : List PV) (hb : ST mb pt p (ΦJ pJ) (fun ρ => Sees ρ ptE)) (w : WrAt ptE i)
    (hh : ∀ x : Ex, ST ms (ptE.set i (.is (.exc x.1 x.2))) (h x) (fun a fl ρ => fl = .nx ∧ ∃ q, Sees ρ q ∧ WrAt q i ∧ PLe (q.set i (.is .un)) (pJ a)) (fun _ => True)) (hE : ∀ ρ, Sees ρ ptE → E ρ) (hk : ∀ a, ST rest (pJ a) (k a) Φ E) :
    ST (sCons (sTry ca i mb ms) rest) pt (bd (tryR ca p h) k) Φ E := fun ρ S => by
  refine sc_go (Q := fun a ρ' => Sees ρ' (pJ a)) ?_ fun a ρ' S' => hk a ρ' S'
  have := hb ρ S
  unfold sTry
  match p, this with
  | none, _ => trivial
  | some (.ok a), ⟨fl, ρ', e, h1, h2⟩ => exact ⟨fl, ρ', by rw [e], h1, h2⟩
  | some (.error x), ⟨ρ', e, S1⟩ =>
    rw [e]
    dsimp only
    unfold tryR
    dsimp only
    cases hc : ca x.1 with
    | none => trivial
    | some b =>
      cases b with
      | false => exact ⟨ρ', rfl, hE ρ' S1⟩
      | true =>
        dsimp only
        rw [S1.setV (v := .exc x.1 x.2) w]
        dsimp only
        have g := hh x _ (S1.set (i := i) (x := .exc x.1 x.2) (q := .is (.exc x.1 x.2)) rfl)
        match h x, g with
        | none, _ => trivial
        | some (.error y), _ => trivial
        | some (.ok a), ⟨fl, ρ3, e3, h3, q, S3, w3, l3⟩ =>
          refine ⟨fl, ρ3.set i .un, ?_, h3, (S3.set (i := i) (x := .un) (q := .is .un) rfl).weak l3⟩
          rw [e3]
          dsimp only
          rw [S3.setV (v := .un) w3]
theorem st_th {pJ : α → List PV} {a : α} {E : List DV → Prop} (w : WrAt pt i) (l : PLe (pt.set i (.is .un)) (pJ a)) : ST sNil pt (Rk a) (fun a fl ρ => fl = .nx ∧ ∃ q, Sees ρ q ∧ WrAt q i ∧ PLe (q.set i (.is .un)) (pJ a)) E := st_nx fun ρ S => ⟨rfl, pt, S, w, l⟩
/-! ### values known at once -/
def AL (ms : M (List DR)) (pt : List PV) (xs : List D) : Prop := ∀ ρ, Sees ρ pt → ms ρ = some (.ok (xs.map .dat), ρ)
theorem al_nil : AL aNil pt [] := fun _ _ => rfl
theorem al_cons {xs : List D} (h : AtS m pt x) (t : AL ms pt xs) : AL (aCons m ms) pt (x :: xs) := fun ρ S => by
  unfold aCons
  rw [bind_at (h ρ S), bind_at (t ρ S)]; rfl
theorem at_tup {xs : List D} (h : AL ms pt xs) (hl : Nat.ble xs.length 16777216 = true) : AtS (eTup ms) pt (.tuple xs) := fun ρ S => by
  unfold eTup
  rw [bind_at (h ρ S), bind_at (frzAll_dats xs ρ), if_pos (Nat.le_of_ble_eq_true hl)]; rfl
theorem at_lst {xs : List D} (h : AL ms pt xs) (hl : Nat.ble xs.length 16777216 = true) : AtS (eLst ms) pt (.list xs) := fun ρ S => by
  unfold eLst
  rw [bind_at (h ρ S), bind_at (frzAll_dats xs ρ), if_pos (Nat.le_of_ble_eq_true hl)]; rfl
theorem st_setNA {xs : List D} {p : R β} (h : AL ms pt xs) (hl : Nat.ble xs.length 16777216 = true) (w : WrAt pt i) (hk : ST rest (pt.set i (.is (.lst xs))) p Φ E) : ST (sCons (sSetN i (nLst ms)) rest) pt p Φ E := fun ρ S => by
  have e : sSetN i (nLst ms) ρ = some (.ok .nx, ρ.set i (.lst xs)) := by
    unfold sSetN nLst
    rw [M.assoc, bind_at (h ρ S), M.assoc, bind_at (frzAll_dats xs ρ), if_pos (Nat.le_of_ble_eq_true hl)]
    rw [bind_at (show push xs ρ = some (.ok (), ρ ++ [.lst xs]) from rfl), bind_at (popTo_at S w)]; rfl
  rw [sc_at e]
  exact hk _ (S.set rfl)
theorem all_lt {vs : List Nat} {n : Nat} (h : (vs.all fun i => Nat.blt i n) = true) : ∀ i ∈ vs, i < n := fun i hi => by
  have := List.all_eq_true.mp h i hi
  exact Nat.le_of_ble_eq_true this
/-! turns of comprehensions over one name -/
theorem lt_map1 {i : Nat} {pt2' : List PV} {me : M DR} {pe : R D} (w : WrAt pt i) (he : XF me (pt.set i (.is (.dat d))) pe pt2' E) (hw : PLe pt2' pt) : LT (.nm i) (M.ok true) me (fun (_ : Unit) => pt) () d (bd (bd pe fun y => Rk (some y)) fun o => Rk (o, ())) E := fun ρ S => by
  rw [bd_assoc]
  rw [bind_at (show setT (.nm i) d ρ = _ from S.setD w)]
  show Go (M.bind me (fun r => M.bind (frz r) fun y => M.ok (some y)) _) _ _ _
  refine (he _ (S.set rfl)).bind fun y r ρ2 k => ?_
  obtain ⟨rfl, S2⟩ := k
  exact ⟨some y, ρ2, rfl, rfl, S2.weak hw⟩
theorem lt_sel1 {i : Nat} {pt2' : List PV} {mt : M Bool} {me : M DR} {pt1 : R Bool} {pe : R D} (w : WrAt pt i) (ht : TE mt (pt.set i (.is (.dat d))) pt1 E) (he : XF me (pt.set i (.is (.dat d))) pe pt2' E) (hw : PLe pt2' pt) (hw2 : PLe (pt.set i (.is (.dat d))) pt) :
    LT (.nm i) mt me (fun (_ : Unit) => pt) () d (bd (selR pt1 pe) fun o => Rk (o, ())) E := fun ρ S => by
  rw [bind_at (show setT (.nm i) d ρ = _ from S.setD w)]
  unfold selR lcEl
  rw [bd_assoc]
  refine (ht _ (S.set rfl)).bind fun c c' ρ2 k => ?_
  obtain ⟨rfl, S2⟩ := k
  cases c' with
  | false => exact ⟨none, ρ2, rfl, rfl, S2.weak hw2⟩
  | true =>
    rw [if_pos rfl, if_pos rfl, bd_assoc]
    refine (he ρ2 S2).bind fun y r ρ3 k => ?_
    obtain ⟨rfl, S3⟩ := k
    exact ⟨some y, ρ3, rfl, rfl, S3.weak hw⟩
theorem lti_map1 {i : Nat} {P : σ → List PV} {me : M DR} {pe : R (D × σ)} (w : WrAt (P s) i) (he : XI me (fun s => (P s).set i (.is (.dat d))) s pe E) (hw : ∀ s, PLe ((P s).set i (.is (.dat d))) (P s)) :
    LT (.nm i) (M.ok true) me P s d (bd pe fun y => Rk (some y.1, y.2)) E := fun ρ S => by
  rw [bind_at (show setT (.nm i) d ρ = _ from S.setD w)]
  show Go (M.bind me (fun r => M.bind (frz r) fun y => M.ok (some y)) _) _ _ _
  refine (he _ (S.set rfl)).bind fun y r ρ2 k => ?_
  obtain ⟨rfl, S2⟩ := k
  exact ⟨some y.1, ρ2, rfl, rfl, S2.weak (hw y.2)⟩
theorem lti_sel1 {i : Nat} {P : σ → List PV} {mt : M Bool} {me : M DR} {pc : R (Bool × σ)} {pe : Bool × σ → R (D × σ)} (w : WrAt (P s) i) (ht : TI mt (fun s => (P s).set i (.is (.dat d))) s pc E) (he : ∀ c : Bool × σ, XI me (fun s => (P s).set i (.is (.dat d))) c.2 (pe c) E) (hw : ∀ s, PLe ((P s).set i (.is (.dat d))) (P s)) :
    LT (.nm i) mt me P s d (bd pc fun c => if c.1 = true then bd (pe c) fun y => Rk (some y.1, y.2) else Rk (none, c.2)) E := fun ρ S => by
  rw [bind_at (show setT (.nm i) d ρ = _ from S.setD w)]
  unfold lcEl
  refine (ht _ (S.set rfl)).bind fun c c' ρ2 k => ?_
  obtain ⟨rfl, S2⟩ := k
  match c, S2 with
  | (false, s'), S2 => exact ⟨none, ρ2, rfl, rfl, S2.weak (hw s')⟩
  | (true, s'), S2 =>
    refine (he (true, s') ρ2 S2).bind fun y r ρ3 k => ?_
    obtain ⟨rfl, S3⟩ := k
    exact ⟨some y.1, ρ3, rfl, rfl, S3.weak (hw y.2)⟩
/-! a, b = [..], e -/
theorem st_parN {mn : M Unit} {me : M DR} {p : R (List D)} {pe : List D → R D} {k : List D → D → R β} {E2 : List DV → Prop} (h : NE mn pt p pt1 E) (he : ∀ l, XE me (pt1 ++ [.is (.lst l)]) (pe l) E2) (wi : WrAt pt1 i) (wj : ∀ l : List D, WrAt (pt1 ++ [.is (.lst l)]) j ∧ j < pt1.length) (wi2 : ∀ d : D, WrAt (pt1.set j (.is (.dat d))) i) (hk : ∀ l d, ST rest ((pt1.set j (.is (.dat d))).set i (.is (.lst l))) (k l d) Φ E) :
    ST (sCons (sPN i j mn me) rest) pt (bd p fun l => bd (quiet (pe l)) fun d => k l d) Φ E := fun ρ S => by
  have e0 : (bd p fun l => bd (quiet (pe l)) fun d => k l d) = bd (bd p fun l => bd (quiet (pe l)) fun d => Rk (l, d)) fun t => k t.1 t.2 := by
    rw [bd_assoc]; congr 1; funext l; rw [bd_assoc]; rfl
  rw [e0]
  refine sc_go (Q := fun (t : List D × D) ρ' => Sees ρ' ((pt1.set j (.is (.dat t.2))).set i (.is (.lst t.1)))) ?_ fun t ρ' S' => hk t.1 t.2 ρ' S'
  unfold sPN
  refine (h ρ S).bind fun l _ ρ1 h1 => ?_
  obtain ⟨ρ0, rfl, S1⟩ := h1
  have S2 : Sees (ρ0 ++ [.lst l]) (pt1 ++ [.is (.lst l)]) := S1.snoc (x := .lst l) (q := .is (.lst l)) rfl
  have g := he l _ S2
  match hq : pe l, g with
  | none, _ => trivial
  | some (.error x), _ => trivial
  | some (.ok d), ⟨r, ρ2, e, er, S3⟩ =>
    subst er
    obtain ⟨ρ3, rfl, S4⟩ := S3.unis
    have e1 : calmly me (ρ0 ++ [.lst l]) = some (.ok (.dat d), ρ3 ++ [.lst l]) := by unfold calmly; rw [e]
    have w1 := (wj l).1
    have hj : j < ρ3.length := by rw [S4.len]; exact (wj l).2
    have e2 : setD j d (ρ3 ++ [.lst l]) = some (.ok (), ρ3.set j (.dat d) ++ [.lst l]) := by
      rw [(S4.snoc (x := .lst l) (q := .is (.lst l)) rfl).setD w1, List.set_append_left _ _ hj]
    have S5 : Sees (ρ3.set j (.dat d)) (pt1.set j (.is (.dat d))) := S4.set rfl
    refine ⟨.nx, (ρ3.set j (.dat d)).set i (.lst l), ?_, rfl, S5.set rfl⟩
    rw [bind_at e1]
    show M.bind (setD j d) (fun _ => M.bind (popTo i) fun _ => M.ok Fl.nx) _ = _
    rw [bind_at e2, bind_at (popTo_at S5 (wi2 d))]; rfl
theorem st_no {m1_ : M Fl} : ST m1_ pt (none : R β) Φ E := fun ρ S => trivial
/-! ### defs -/
theorem fg_D {n : Nat} {m : M Fl} {ds : List D} {p : R D} (h : ST m pt p (ΦF PsiD) (fun _ => True)) (S : Sees (initE false n [] ds) pt) : FG (runF false n m [] ds) p ΨD := by
  have := h _ S
  unfold runF
  match p, this with
  | none, _ => trivial
  | some (.ok a), ⟨fl, ρ', e, q⟩ =>
    rw [e]
    cases fl with
    | nx => exact ⟨_, _, rfl, q⟩
    | ret r => exact ⟨_, _, rfl, q⟩
    | _ => exact q.elim
  | some (.error x), ⟨ρ', e, _⟩ => rw [e]; exact ⟨_, rfl⟩
theorem fg_N {n : Nat} {m : M Fl} {ds : List D} {p : R (List D)} (h : ST m pt p (ΦF PsiN) (fun _ => True)) (S : Sees (initE false n [] ds) pt) : FG (runF false n m [] ds) p ΨN := by
  have := h _ S
  unfold runF
  match p, this with
  | none, _ => trivial
  | some (.ok a), ⟨fl, ρ', e, q⟩ =>
    rw [e]
    cases fl with
    | nx => exact ⟨_, _, rfl, q⟩
    | ret r => exact ⟨_, _, rfl, q⟩
    | _ => exact q.elim
  | some (.error x), ⟨ρ', e, _⟩ => rw [e]; exact ⟨_, rfl⟩
theorem fg_Do {n : Nat} {m : M Fl} {w ds : List D} {p : R (D × List D)} (h : ST m pt p (ΦF PsiDo) (fun _ => True)) (S : Sees (initE true n w ds) pt) : FG (runF true n m w ds) p ΨDo := by
  have := h _ S
  unfold runF
  match p, this with
  | none, _ => trivial
  | some (.ok a), ⟨fl, ρ', e, q⟩ =>
    rw [e]
    cases fl with
    | nx => exact ⟨_, _, rfl, q.1, q.2⟩
    | ret r => exact ⟨_, _, rfl, q.1, q.2⟩
    | _ => exact q.elim
  | some (.error x), ⟨ρ', e, _⟩ => rw [e]; exact ⟨_, rfl⟩
theorem fg_No {n : Nat} {m : M Fl} {w ds : List D} {p : R (List D × List D)} (h : ST m pt p (ΦF PsiNo) (fun _ => True)) (S : Sees (initE true n w ds) pt) : FG (runF true n m w ds) p ΨNo := by
  have := h _ S
  unfold runF
  match p, this with
  | none, _ => trivial
  | some (.ok a), ⟨fl, ρ', e, q⟩ =>
    rw [e]
    cases fl with
    | nx => exact ⟨_, _, rfl, q.1, q.2⟩
    | ret r => exact ⟨_, _, rfl, q.1, q.2⟩
    | _ => exact q.elim
  | some (.error x), ⟨ρ', e, _⟩ => rw [e]; exact ⟨_, rfl⟩
end
end DL

set_option Elab.async false
set_option linter.all false
set_option maxRecDepth 100000
set_option maxHeartbeats 4000000
namespace LK
open PySem PySem.Spec PyProof.Rows L2 DL
def top (i : Nat) : Stmt := PySem.Challenge.pw_leasesall_k27_places_of_teams.main.body.getD i (.Pass ⟨0, 0, 0, 0⟩)
abbrev st_is_integer : Stmt := top 6
abbrev st_is_between : Stmt := top 7
abbrev st_is_tuple : Stmt := top 8
abbrev st_are_rising : Stmt := top 9
abbrev st_is_ascending : Stmt := top 10
abbrev st_need_number : Stmt := top 11
abbrev st_anew : Stmt := top 12
abbrev st_is_timer : Stmt := top 18
abbrev st_are_timers : Stmt := top 19
abbrev st_is_event : Stmt := top 20
abbrev st_are_changes : Stmt := top 21
abbrev st_is_begin : Stmt := top 22
abbrev st_is_party_event : Stmt := top 30
abbrev st_is_party_step : Stmt := top 31
abbrev st_is_party : Stmt := top 32
abbrev st_is_a_team : Stmt := top 33
abbrev st_product_of : Stmt := top 34
abbrev st_need_team : Stmt := top 35
abbrev st_index_of : Stmt := top 36
abbrev st_places_of : Stmt := top 37
abbrev st_are_party_places : Stmt := top 38
abbrev st_place_of : Stmt := top 39
abbrev st_places_at : Stmt := top 40
abbrev st_are_wanted : Stmt := top 41
abbrev st_goals_by : Stmt := top 42
abbrev st_goals_with : Stmt := top 43
abbrev st__law_well : Stmt := top 45
abbrev st__law_draw : Stmt := top 46
abbrev st__law_some : Stmt := top 47
abbrev st__law_is_int : Stmt := top 48
abbrev st__law_rises : Stmt := top 49
abbrev st__law_spots : Stmt := top 50
abbrev st__law_wide_team : Stmt := top 51
abbrev st__law_bent : Stmt := top 52
abbrev st__law_are_places : Stmt := top 53
abbrev st__law_are_wishes : Stmt := top 54
abbrev st__law_goals_due : Stmt := top 55
abbrev st__law_refused : Stmt := top 56
abbrev st_law : Stmt := top 57
structure Ad where
  (init k_LeaseError k_InvalidNumber k_InvalidPlaces k_InvalidTeam : Addr)
  (is_integer is_between is_tuple are_rising is_ascending need_number anew is_timer are_timers is_event are_changes is_begin is_party_event is_party_step is_party is_a_team product_of need_team index_of places_of are_party_places place_of places_at are_wanted goals_by goals_with _law_well _law_draw _law_some _law_is_int _law_rises _law_spots _law_wide_team _law_bent _law_are_places _law_are_wishes _law_goals_due _law_refused law : Addr)
structure Fd where
  (is_integer is_between is_tuple are_rising is_ascending need_number anew is_timer are_timers is_event are_changes is_begin is_party_event is_party_step is_party is_a_team product_of need_team index_of places_of are_party_places place_of places_at are_wanted goals_by goals_with _law_well _law_draw _law_some _law_is_int _law_rises _law_spots _law_wide_team _law_bent _law_are_places _law_are_wishes _law_goals_due _law_refused law : FuncData)
/-- the classes that are raised, caught -/
def clsNs : List Str := ["LeaseError", "InvalidNumber", "InvalidPlaces", "InvalidTeam"]
def isCls (y : Str) : Bool := clsNs.contains y
def isCls2 (y : Str) : Option Bool := if isCls y then some true else none
def isEx (x y : Str) : Option Bool := if isCls y then some (x == y || x == "LeaseError") else none
def isNon : D → Option Bool
  | .none => some false
  | _ => none
structure Txt (Pg : Program) (K : PySem.W.Frag) (mg : Str → Option Value) (a : Ad) (d : Fd) : Prop where
  f_is_integer : Fun K "is_integer" "is_integer" st_is_integer a.is_integer d.is_integer
  g_is_integer : mg "is_integer" = some (.ref a.is_integer)
  f_is_between : Fun K "is_between" "is_between" st_is_between a.is_between d.is_between
  g_is_between : mg "is_between" = some (.ref a.is_between)
  f_is_tuple : Fun K "is_tuple" "is_tuple" st_is_tuple a.is_tuple d.is_tuple
  g_is_tuple : mg "is_tuple" = some (.ref a.is_tuple)
  f_are_rising : Fun K "are_rising" "are_rising" st_are_rising a.are_rising d.are_rising
  g_are_rising : mg "are_rising" = some (.ref a.are_rising)
  f_is_ascending : Fun K "is_ascending" "is_ascending" st_is_ascending a.is_ascending d.is_ascending
  g_is_ascending : mg "is_ascending" = some (.ref a.is_ascending)
  f_need_number : Fun K "need_number" "need_number" st_need_number a.need_number d.need_number
  g_need_number : mg "need_number" = some (.ref a.need_number)
  f_anew : Fun K "anew" "anew" st_anew a.anew d.anew
  g_anew : mg "anew" = some (.ref a.anew)
  f_is_timer : Fun K "is_timer" "is_timer" st_is_timer a.is_timer d.is_timer
  g_is_timer : mg "is_timer" = some (.ref a.is_timer)
  f_are_timers : Fun K "are_timers" "are_timers" st_are_timers a.are_timers d.are_timers
  g_are_timers : mg "are_timers" = some (.ref a.are_timers)
  f_is_event : Fun K "is_event" "is_event" st_is_event a.is_event d.is_event
  g_is_event : mg "is_event" = some (.ref a.is_event)
  f_are_changes : Fun K "are_changes" "are_changes" st_are_changes a.are_changes d.are_changes
  g_are_changes : mg "are_changes" = some (.ref a.are_changes)
  f_is_begin : Fun K "is_begin" "is_begin" st_is_begin a.is_begin d.is_begin
  g_is_begin : mg "is_begin" = some (.ref a.is_begin)
  f_is_party_event : Fun K "is_party_event" "is_party_event" st_is_party_event a.is_party_event d.is_party_event
  g_is_party_event : mg "is_party_event" = some (.ref a.is_party_event)
  f_is_party_step : Fun K "is_party_step" "is_party_step" st_is_party_step a.is_party_step d.is_party_step
  g_is_party_step : mg "is_party_step" = some (.ref a.is_party_step)
  f_is_party : Fun K "is_party" "is_party" st_is_party a.is_party d.is_party
  g_is_party : mg "is_party" = some (.ref a.is_party)
  f_is_a_team : Fun K "is_a_team" "is_a_team" st_is_a_team a.is_a_team d.is_a_team
  g_is_a_team : mg "is_a_team" = some (.ref a.is_a_team)
  f_product_of : Fun K "product_of" "product_of" st_product_of a.product_of d.product_of
  g_product_of : mg "product_of" = some (.ref a.product_of)
  f_need_team : Fun K "need_team" "need_team" st_need_team a.need_team d.need_team
  g_need_team : mg "need_team" = some (.ref a.need_team)
  f_index_of : Fun K "index_of" "index_of" st_index_of a.index_of d.index_of
  g_index_of : mg "index_of" = some (.ref a.index_of)
  f_places_of : Fun K "places_of" "places_of" st_places_of a.places_of d.places_of
  g_places_of : mg "places_of" = some (.ref a.places_of)
  f_are_party_places : Fun K "are_party_places" "are_party_places" st_are_party_places a.are_party_places d.are_party_places
  g_are_party_places : mg "are_party_places" = some (.ref a.are_party_places)
  f_place_of : Fun K "place_of" "place_of" st_place_of a.place_of d.place_of
  g_place_of : mg "place_of" = some (.ref a.place_of)
  f_places_at : Fun K "places_at" "places_at" st_places_at a.places_at d.places_at
  g_places_at : mg "places_at" = some (.ref a.places_at)
  f_are_wanted : Fun K "are_wanted" "are_wanted" st_are_wanted a.are_wanted d.are_wanted
  g_are_wanted : mg "are_wanted" = some (.ref a.are_wanted)
  f_goals_by : Fun K "goals_by" "goals_by" st_goals_by a.goals_by d.goals_by
  g_goals_by : mg "goals_by" = some (.ref a.goals_by)
  f_goals_with : Fun K "goals_with" "goals_with" st_goals_with a.goals_with d.goals_with
  g_goals_with : mg "goals_with" = some (.ref a.goals_with)
  f__law_well : Fun K "_law_well" "_law_well" st__law_well a._law_well d._law_well
  g__law_well : mg "_law_well" = some (.ref a._law_well)
  f__law_draw : Fun K "_law_draw" "_law_draw" st__law_draw a._law_draw d._law_draw
  g__law_draw : mg "_law_draw" = some (.ref a._law_draw)
  f__law_some : Fun K "_law_some" "_law_some" st__law_some a._law_some d._law_some
  g__law_some : mg "_law_some" = some (.ref a._law_some)
  f__law_is_int : Fun K "_law_is_int" "_law_is_int" st__law_is_int a._law_is_int d._law_is_int
  g__law_is_int : mg "_law_is_int" = some (.ref a._law_is_int)
  f__law_rises : Fun K "_law_rises" "_law_rises" st__law_rises a._law_rises d._law_rises
  g__law_rises : mg "_law_rises" = some (.ref a._law_rises)
  f__law_spots : Fun K "_law_spots" "_law_spots" st__law_spots a._law_spots d._law_spots
  g__law_spots : mg "_law_spots" = some (.ref a._law_spots)
  f__law_wide_team : Fun K "_law_wide_team" "_law_wide_team" st__law_wide_team a._law_wide_team d._law_wide_team
  g__law_wide_team : mg "_law_wide_team" = some (.ref a._law_wide_team)
  f__law_bent : Fun K "_law_bent" "_law_bent" st__law_bent a._law_bent d._law_bent
  g__law_bent : mg "_law_bent" = some (.ref a._law_bent)
  f__law_are_places : Fun K "_law_are_places" "_law_are_places" st__law_are_places a._law_are_places d._law_are_places
  g__law_are_places : mg "_law_are_places" = some (.ref a._law_are_places)
  f__law_are_wishes : Fun K "_law_are_wishes" "_law_are_wishes" st__law_are_wishes a._law_are_wishes d._law_are_wishes
  g__law_are_wishes : mg "_law_are_wishes" = some (.ref a._law_are_wishes)
  f__law_goals_due : Fun K "_law_goals_due" "_law_goals_due" st__law_goals_due a._law_goals_due d._law_goals_due
  g__law_goals_due : mg "_law_goals_due" = some (.ref a._law_goals_due)
  f__law_refused : Fun K "_law_refused" "_law_refused" st__law_refused a._law_refused d._law_refused
  g__law_refused : mg "_law_refused" = some (.ref a._law_refused)
  f_law : Fun K "law" "law" st_law a.law d.law
  g_law : mg "law" = some (.ref a.law)
  b_abs : mg "abs" = none
  b_all : mg "all" = none
  b_bool : mg "bool" = none
  b_enumerate : mg "enumerate" = none
  b_int : mg "int" = none
  b_isinstance : mg "isinstance" = none
  b_len : mg "len" = none
  b_list : mg "list" = none
  b_max : mg "max" = none
  b_min : mg "min" = none
  b_range : mg "range" = none
  b_repr : mg "repr" = none
  b_str : mg "str" = none
  b_tuple : mg "tuple" = none
  b_zip : mg "zip" = none
  c_MOST_TIMERS : ∃ t, mg "MOST_TIMERS" = some (.int (6) t)
  c_MOST_BOUND : ∃ t, mg "MOST_BOUND" = some (.int (60) t)
  c_TIMER : ∃ t, mg "TIMER" = some (.str "timer" t)
  c_FREE : ∃ t, mg "FREE" = some (.str "free" t)
  c_MOST_PARTIES : ∃ t, mg "MOST_PARTIES" = some (.int (4) t)
  c_MOST_PLACES : ∃ t, mg "MOST_PLACES" = some (.int (12) t)
  c_MOST_STEPS : ∃ t, mg "MOST_STEPS" = some (.int (40) t)
  c_MOST_SIGNAL : ∃ t, mg "MOST_SIGNAL" = some (.int (9) t)
  c_MOST_PRODUCT : ∃ t, mg "MOST_PRODUCT" = some (.int (400) t)
  c_HEARS : ∃ t, mg "HEARS" = some (.str "hears" t)
  le : PySem.LeX.LeTxt K mg Pg a.k_LeaseError a.init
  lc_LeaseError : PySem.LeX.LcTxt K a.k_LeaseError a.init a.k_LeaseError
  k_LeaseError : mg "LeaseError" = some (.ref a.k_LeaseError)
  lc_InvalidNumber : PySem.LeX.LcTxt K a.k_LeaseError a.init a.k_InvalidNumber
  k_InvalidNumber : mg "InvalidNumber" = some (.ref a.k_InvalidNumber)
  lc_InvalidPlaces : PySem.LeX.LcTxt K a.k_LeaseError a.init a.k_InvalidPlaces
  k_InvalidPlaces : mg "InvalidPlaces" = some (.ref a.k_InvalidPlaces)
  lc_InvalidTeam : PySem.LeX.LcTxt K a.k_LeaseError a.init a.k_InvalidTeam
  k_InvalidTeam : mg "InvalidTeam" = some (.ref a.k_InvalidTeam)
  nn_InvalidNumber : ∀ (d : D) (b : Bool), isNon d = some b → PySem.W.kitOne K (.type (tyD d)) (.ref a.k_InvalidNumber) = some b
  ie_InvalidNumber : ∀ (y : Str) (b : Bool) (C : Addr), isEx "InvalidNumber" y = some b → mg y = some (.ref C) → ExcC K C ∧ PySem.W.kitOne K (.ref C) (.ref a.k_InvalidNumber) = some b
  nn_InvalidPlaces : ∀ (d : D) (b : Bool), isNon d = some b → PySem.W.kitOne K (.type (tyD d)) (.ref a.k_InvalidPlaces) = some b
  ie_InvalidPlaces : ∀ (y : Str) (b : Bool) (C : Addr), isEx "InvalidPlaces" y = some b → mg y = some (.ref C) → ExcC K C ∧ PySem.W.kitOne K (.ref C) (.ref a.k_InvalidPlaces) = some b
  nn_InvalidTeam : ∀ (d : D) (b : Bool), isNon d = some b → PySem.W.kitOne K (.type (tyD d)) (.ref a.k_InvalidTeam) = some b
  ie_InvalidTeam : ∀ (y : Str) (b : Bool) (C : Addr), isEx "InvalidTeam" y = some b → mg y = some (.ref C) → ExcC K C ∧ PySem.W.kitOne K (.ref C) (.ref a.k_InvalidTeam) = some b
  caOk : ∀ (y : Str) (b : Bool) (C : Addr), isCls2 y = some b → mg y = some (.ref C) → PySem.W.exmOne K (.ref C) (.ref a.k_LeaseError) = some b
  valOk : ∀ (y : Str) (C : Addr), isCls y = true → mg y = some (.ref C) → XfC K C ∧ PySem.W.findIn K (.ref C) "value" = some none
section
variable {Pg : Program} {wd : World} {K : PySem.W.Frag} {mg : Str → Option Value} {base : Heap} {a : Ad} {d : Fd}
/-! ### is_integer -/
abbrev N_is_integer : List Str := ["value"]
theorem sc_is_integer : FnScope N_is_integer ["value"] (defScope st_is_integer) := ⟨rfl, rfl, rfl, by decide +kernel, rfl, by decide +kernel, by decide +kernel⟩
theorem v_is_integer_value : Vis (defScope st_is_integer) ("value" : Str) := .inl (by decide +kernel)
theorem g_is_integer_isinstance : ((defScope st_is_integer)).names.lookup ("isinstance" : Str) = some .globalImplicit := by decide +kernel
theorem g_is_integer_int : ((defScope st_is_integer)).names.lookup ("int" : Str) = some .globalImplicit := by decide +kernel
theorem g_is_integer_bool : ((defScope st_is_integer)).names.lookup ("bool" : Str) = some .globalImplicit := by decide +kernel
def m_is_integer : M Fl := (sCons (sRet (andV (eIs (isTy "int") (fun _ => none) (eVar 0)) (notV (eIs (isTy "bool") (fun _ => none) (eVar 0))))) sNil)
def F_is_integer : Fsp := runF false 1 m_is_integer
theorem bi_is_integer (T : Txt Pg K mg a d) : Binds K d.is_integer ["value"] [] := T.f_is_integer.binds fun _ _ _ _ _ _ us hl => match us, hl with | [_], _ => rfl
theorem ok_is_integer (T : Txt Pg K mg a d) : FnOkG Pg wd K mg base (L2.CX Pg wd) 1 a.is_integer d.is_integer ["value"] (spD ⟨K, mg⟩ false 1 F_is_integer) :=
  fn_okG (k := 0) T.f_is_integer sc_is_integer fun cdv A outer s H E hr hG tk =>
    (ds_cons (ds_ret (de_and (de_isG rfl g_is_integer_isinstance T.b_isinstance (de_v (i := 0) rfl v_is_integer_value) (pe_bltn g_is_integer_int T.b_int (by decide +kernel) (v := .ty "int") rfl) (.ty "int") (fun _ _ h => kit_ty h) (fun _ _ _ h => nomatch h) rfl rfl rfl) (pe_one (de_not (de_isG rfl g_is_integer_isinstance T.b_isinstance (de_v (i := 0) rfl v_is_integer_value) (pe_bltn g_is_integer_bool T.b_bool (by decide +kernel) (v := .ty "bool") rfl) (.ty "bool") (fun _ _ h => kit_ty h) (fun _ _ _ h => nomatch h) rfl rfl rfl))))) ds_nil)
/-! ### is_between -/
abbrev N_is_between : List Str := ["value", "low", "high"]
theorem sc_is_between : FnScope N_is_between ["value", "low", "high"] (defScope st_is_between) := ⟨rfl, rfl, rfl, by decide +kernel, rfl, by decide +kernel, by decide +kernel⟩
theorem v_is_between_value : Vis (defScope st_is_between) ("value" : Str) := .inl (by decide +kernel)
theorem g_is_between_is_integer : ((defScope st_is_between)).names.lookup ("is_integer" : Str) = some .globalImplicit := by decide +kernel
theorem v_is_between_low : Vis (defScope st_is_between) ("low" : Str) := .inl (by decide +kernel)
theorem v_is_between_high : Vis (defScope st_is_between) ("high" : Str) := .inl (by decide +kernel)
def m_is_between : M Fl := (sCons (sRet (andV (eCall false F_is_integer (aCons (eVar 0) aNil)) (eChain leD leD (eVar 1) (eVar 0) (eVar 2)))) sNil)
def F_is_between : Fsp := runF false 3 m_is_between
theorem bi_is_between (T : Txt Pg K mg a d) : Binds K d.is_between ["value", "low", "high"] [] := T.f_is_between.binds fun _ _ _ _ _ _ us hl => match us, hl with | [_, _, _], _ => rfl
theorem ok_is_between (T : Txt Pg K mg a d) : FnOkG Pg wd K mg base (L2.CX Pg wd) 2 a.is_between d.is_between ["value", "low", "high"] (spD ⟨K, mg⟩ false 3 F_is_between) :=
  fn_okG (k := 1) T.f_is_between sc_is_between fun cdv A outer s H E hr hG tk =>
    (ds_cons (ds_ret (de_and (de_callG ((ok_is_integer T).mono (by decide : 1 ≤ 1)) hr hG g_is_between_is_integer T.g_is_integer T.f_is_integer.kp (bi_is_integer T) tk (da_cons (de_v (i := 0) rfl v_is_between_value) da_nil rfl) (alen_cons alen_nil) (by decide) rfl rfl) (pe_one (de_chain op_le opd_le op_le opd_le (de_v (i := 1) rfl v_is_between_low) (de_v (i := 0) rfl v_is_between_value) (de_v (i := 2) rfl v_is_between_high) rfl)))) ds_nil)
/-! ### is_tuple -/
abbrev N_is_tuple : List Str := ["value", "low", "high"]
theorem sc_is_tuple : FnScope N_is_tuple ["value", "low", "high"] (defScope st_is_tuple) := ⟨rfl, rfl, rfl, by decide +kernel, rfl, by decide +kernel, by decide +kernel⟩
theorem v_is_tuple_value : Vis (defScope st_is_tuple) ("value" : Str) := .inl (by decide +kernel)
theorem g_is_tuple_isinstance : ((defScope st_is_tuple)).names.lookup ("isinstance" : Str) = some .globalImplicit := by decide +kernel
theorem g_is_tuple_tuple : ((defScope st_is_tuple)).names.lookup ("tuple" : Str) = some .globalImplicit := by decide +kernel
theorem v_is_tuple_low : Vis (defScope st_is_tuple) ("low" : Str) := .inl (by decide +kernel)
theorem g_is_tuple_len : ((defScope st_is_tuple)).names.lookup ("len" : Str) = some .globalImplicit := by decide +kernel
theorem v_is_tuple_high : Vis (defScope st_is_tuple) ("high" : Str) := .inl (by decide +kernel)
def m_is_tuple : M Fl := (sCons (sRet (andV (eIs (isTy "tuple") (fun _ => none) (eVar 0)) (eChain leD leD (eVar 1) (eCB lenF (aCons (eVar 0) aNil)) (eVar 2)))) sNil)
def F_is_tuple : Fsp := runF false 3 m_is_tuple
theorem bi_is_tuple (T : Txt Pg K mg a d) : Binds K d.is_tuple ["value", "low", "high"] [] := T.f_is_tuple.binds fun _ _ _ _ _ _ us hl => match us, hl with | [_, _, _], _ => rfl
theorem ok_is_tuple (T : Txt Pg K mg a d) : FnOkG Pg wd K mg base (L2.CX Pg wd) 1 a.is_tuple d.is_tuple ["value", "low", "high"] (spD ⟨K, mg⟩ false 3 F_is_tuple) :=
  fn_okG (k := 0) T.f_is_tuple sc_is_tuple fun cdv A outer s H E hr hG tk =>
    (ds_cons (ds_ret (de_and (de_isG rfl g_is_tuple_isinstance T.b_isinstance (de_v (i := 0) rfl v_is_tuple_value) (pe_bltn g_is_tuple_tuple T.b_tuple (by decide +kernel) (v := .ty "tuple") rfl) (.ty "tuple") (fun _ _ h => kit_ty h) (fun _ _ _ h => nomatch h) rfl rfl rfl) (pe_one (de_chain op_le opd_le op_le opd_le (de_v (i := 1) rfl v_is_tuple_low) (de_cb call_len_seq (cbd_len rfl) g_is_tuple_len T.b_len (by decide +kernel) (da_cons (de_v (i := 0) rfl v_is_tuple_value) da_nil rfl) (by decide) (by decide) rfl rfl) (de_v (i := 2) rfl v_is_tuple_high) rfl)))) ds_nil)
/-! ### are_rising -/
abbrev N_are_rising : List Str := ["values", "one", "other"]
theorem sc_are_rising : FnScope N_are_rising ["values"] (defScope st_are_rising) := ⟨rfl, rfl, rfl, by decide +kernel, rfl, by decide +kernel, by decide +kernel⟩
abbrev bs_are_rising_b1 : Scope := { kind := .function, names := [(PySem.Str.ofString ".0", .local), (PySem.Str.ofString "one", .local), (PySem.Str.ofString "other", .local)], isGenerator := false, isCoroutine := false, more := [] }
theorem bk_are_rising_b1 : blkC N_are_rising (defScope st_are_rising) bs_are_rising_b1 [("one", 1), ("other", 2)] = true := by decide +kernel
theorem g_are_rising_all : ((defScope st_are_rising)).names.lookup ("all" : Str) = some .globalImplicit := by decide +kernel
theorem v_are_rising_values : Vis (defScope st_are_rising) ("values" : Str) := .inl (by decide +kernel)
theorem g_are_rising_zip : ((defScope st_are_rising)).names.lookup ("zip" : Str) = some .globalImplicit := by decide +kernel
theorem o_are_rising_b1_other : Loc (relS bs_are_rising_b1 (defScope st_are_rising)) ("other" : Str) := .inl (by decide +kernel)
theorem l_are_rising_b1_other : ((relS bs_are_rising_b1 (defScope st_are_rising))).names.lookup ("other" : Str) = some .local := by decide +kernel
theorem o_are_rising_b1_one : Loc (relS bs_are_rising_b1 (defScope st_are_rising)) ("one" : Str) := .inl (by decide +kernel)
theorem l_are_rising_b1_one : ((relS bs_are_rising_b1 (defScope st_are_rising))).names.lookup ("one" : Str) = some .local := by decide +kernel
theorem v_are_rising_b1_one : Vis (relS bs_are_rising_b1 (defScope st_are_rising)) ("one" : Str) := .inl (by decide +kernel)
theorem v_are_rising_b1_other : Vis (relS bs_are_rising_b1 (defScope st_are_rising)) ("other" : Str) := .inl (by decide +kernel)
def m_are_rising : M Fl := (sCons (sRet (eCB allF (aCons (eLc (iZip (aCons (eVar 0) (aCons (eSl (eVar 0) (mPart (some (eLit (.int (1))))) (mPart none)) aNil))) (.tp [1, 2]) (M.ok true) (eOp2 ltD (eVar 1) (eVar 2)) [1, 2]) aNil))) sNil)
def F_are_rising : Fsp := runF false 3 m_are_rising
theorem bi_are_rising (T : Txt Pg K mg a d) : Binds K d.are_rising ["values"] [] := T.f_are_rising.binds fun _ _ _ _ _ _ us hl => match us, hl with | [_], _ => rfl
theorem ok_are_rising (T : Txt Pg K mg a d) : FnOkG Pg wd K mg base (L2.CX Pg wd) 1 a.are_rising d.are_rising ["values"] (spD ⟨K, mg⟩ false 1 F_are_rising) :=
  fn_okG (k := 0) T.f_are_rising sc_are_rising fun cdv A outer s H E hr hG tk =>
    (ds_cons (ds_ret (de_cb (cr_all rfl) (cbd_all rfl) g_are_rising_all T.b_all (by decide +kernel) (da_cons (de_lc rfl sc_are_rising.nd (di_zip rfl g_are_rising_zip T.b_zip (da_cons (de_v (i := 0) rfl v_are_rising_values) (da_cons (de_sl rfl (de_v (i := 0) rfl v_are_rising_values) (dp_some de_int) dp_none) da_nil rfl) rfl) rfl rfl) (own := [("one", 1), ("other", 2)]) (blkOk_by bk_are_rising_b1) (fun _ _ _ _ _ => (dg_tup rfl rfl (dgs_cons (i := 1) sc_are_rising.nd rfl o_are_rising_b1_one (.inr l_are_rising_b1_one) (dgs_cons (i := 2) sc_are_rising.nd rfl o_are_rising_b1_other (.inr l_are_rising_b1_other) dgs_nil rfl) rfl) rfl rfl)) (fun _ _ _ _ _ => dts_nil) (fun _ _ _ _ _ => (de_cmp op_lt opd_lt (de_v (i := 1) rfl v_are_rising_b1_one) (de_v (i := 2) rfl v_are_rising_b1_other) rfl)) (fun _ => rfl) (by decide)) da_nil rfl) (by decide) (by decide) rfl rfl)) ds_nil)
/-! ### is_ascending -/
abbrev N_is_ascending : List Str := ["value", "low", "high", "item"]
theorem sc_is_ascending : FnScope N_is_ascending ["value", "low", "high"] (defScope st_is_ascending) := ⟨rfl, rfl, rfl, by decide +kernel, rfl, by decide +kernel, by decide +kernel⟩
abbrev bs_is_ascending_b1 : Scope := { kind := .function, names := [(PySem.Str.ofString ".0", .local), (PySem.Str.ofString "item", .local), (PySem.Str.ofString "is_between", .globalImplicit), (PySem.Str.ofString "high", .free), (PySem.Str.ofString "low", .free)], isGenerator := false, isCoroutine := false, more := [] }
theorem bk_is_ascending_b1 : blkC N_is_ascending (defScope st_is_ascending) bs_is_ascending_b1 [("item", 3)] = true := by decide +kernel
theorem v_is_ascending_value : Vis (defScope st_is_ascending) ("value" : Str) := .inl (by decide +kernel)
theorem g_is_ascending_isinstance : ((defScope st_is_ascending)).names.lookup ("isinstance" : Str) = some .globalImplicit := by decide +kernel
theorem g_is_ascending_tuple : ((defScope st_is_ascending)).names.lookup ("tuple" : Str) = some .globalImplicit := by decide +kernel
theorem g_is_ascending_all : ((defScope st_is_ascending)).names.lookup ("all" : Str) = some .globalImplicit := by decide +kernel
theorem o_is_ascending_b1_item : Loc (relS bs_is_ascending_b1 (defScope st_is_ascending)) ("item" : Str) := .inl (by decide +kernel)
theorem l_is_ascending_b1_item : ((relS bs_is_ascending_b1 (defScope st_is_ascending))).names.lookup ("item" : Str) = some .local := by decide +kernel
theorem v_is_ascending_b1_high : Vis (relS bs_is_ascending_b1 (defScope st_is_ascending)) ("high" : Str) := .inr (.inl (by decide +kernel))
theorem v_is_ascending_b1_low : Vis (relS bs_is_ascending_b1 (defScope st_is_ascending)) ("low" : Str) := .inr (.inl (by decide +kernel))
theorem v_is_ascending_b1_item : Vis (relS bs_is_ascending_b1 (defScope st_is_ascending)) ("item" : Str) := .inl (by decide +kernel)
theorem g_is_ascending_b1_is_between : ((relS bs_is_ascending_b1 (defScope st_is_ascending))).names.lookup ("is_between" : Str) = some .globalImplicit := by decide +kernel
theorem g_is_ascending_are_rising : ((defScope st_is_ascending)).names.lookup ("are_rising" : Str) = some .globalImplicit := by decide +kernel
def m_is_ascending : M Fl := (sCons (sRet (andV (eIs (isTy "tuple") (fun _ => none) (eVar 0)) (andV (eCB allF (aCons (eLc (iDat (eVar 0)) (.nm 3) (M.ok true) (eCall false F_is_between (aCons (eVar 3) (aCons (eVar 1) (aCons (eVar 2) aNil)))) [3]) aNil)) (eCall false F_are_rising (aCons (eVar 0) aNil))))) sNil)
def F_is_ascending : Fsp := runF false 4 m_is_ascending
theorem bi_is_ascending (T : Txt Pg K mg a d) : Binds K d.is_ascending ["value", "low", "high"] [] := T.f_is_ascending.binds fun _ _ _ _ _ _ us hl => match us, hl with | [_, _, _], _ => rfl
theorem ok_is_ascending (T : Txt Pg K mg a d) : FnOkG Pg wd K mg base (L2.CX Pg wd) 3 a.is_ascending d.is_ascending ["value", "low", "high"] (spD ⟨K, mg⟩ false 3 F_is_ascending) :=
  fn_okG (k := 2) T.f_is_ascending sc_is_ascending fun cdv A outer s H E hr hG tk =>
    (ds_cons (ds_ret (de_and (de_isG rfl g_is_ascending_isinstance T.b_isinstance (de_v (i := 0) rfl v_is_ascending_value) (pe_bltn g_is_ascending_tuple T.b_tuple (by decide +kernel) (v := .ty "tuple") rfl) (.ty "tuple") (fun _ _ h => kit_ty h) (fun _ _ _ h => nomatch h) rfl rfl rfl) (de_and (de_cb (cr_all rfl) (cbd_all rfl) g_is_ascending_all T.b_all (by decide +kernel) (da_cons (de_lc rfl sc_is_ascending.nd (di_dat rfl (de_v (i := 0) rfl v_is_ascending_value)) (own := [("item", 3)]) (blkOk_by bk_is_ascending_b1) (fun _ _ _ _ _ => (dg_name (i := 3) sc_is_ascending.nd rfl o_is_ascending_b1_item (.inr l_is_ascending_b1_item))) (fun _ _ _ _ _ => dts_nil) (fun _ _ _ _ _ => (de_callG ((ok_is_between T).mono (by decide : 2 ≤ 2)) hr hG g_is_ascending_b1_is_between T.g_is_between T.f_is_between.kp (bi_is_between T) takes0 (da_cons (de_v (i := 3) rfl v_is_ascending_b1_item) (da_cons (de_v (i := 1) rfl v_is_ascending_b1_low) (da_cons (de_v (i := 2) rfl v_is_ascending_b1_high) da_nil rfl) rfl) rfl) (alen_cons (alen_cons (alen_cons alen_nil))) (by decide) rfl rfl)) (fun _ => rfl) (by decide)) da_nil rfl) (by decide) (by decide) rfl rfl) (pe_one (de_callG ((ok_are_rising T).mono (by decide : 1 ≤ 2)) hr hG g_is_ascending_are_rising T.g_are_rising T.f_are_rising.kp (bi_are_rising T) tk (da_cons (de_v (i := 0) rfl v_is_ascending_value) da_nil rfl) (alen_cons alen_nil) (by decide) rfl rfl))))) ds_nil)
/-! ### need_number -/
abbrev N_need_number : List Str := ["number", "low", "high"]
theorem sc_need_number : FnScope N_need_number ["number", "low", "high"] (defScope st_need_number) := ⟨rfl, rfl, rfl, by decide +kernel, rfl, by decide +kernel, by decide +kernel⟩
theorem v_need_number_number : Vis (defScope st_need_number) ("number" : Str) := .inl (by decide +kernel)
theorem v_need_number_low : Vis (defScope st_need_number) ("low" : Str) := .inl (by decide +kernel)
theorem v_need_number_high : Vis (defScope st_need_number) ("high" : Str) := .inl (by decide +kernel)
theorem g_need_number_InvalidNumber : ((defScope st_need_number)).names.lookup ("InvalidNumber" : Str) = some .globalImplicit := by decide +kernel
def m_need_number : M Fl := (sCons (sIf (orT (eB (eOp2 ltD (eVar 0) (eVar 1))) (andT (eB (eIsN true (eVar 2))) (eB (eOp2 gtD (eVar 0) (eVar 2))))) (sCons (sRaise "InvalidNumber" (eVar 0)) sNil) sNil) sNil)
def F_need_number : Fsp := runF false 3 m_need_number
theorem bi_need_number (T : Txt Pg K mg a d) : Binds K d.need_number ["number", "low", "high"] [] := T.f_need_number.binds fun _ _ _ _ _ _ us hl => match us, hl with | [_, _, _], _ => rfl
theorem ok_need_number (T : Txt Pg K mg a d) : FnOkG Pg wd K mg base (L2.CX Pg wd) 2 a.need_number d.need_number ["number", "low", "high"] (spD ⟨K, mg⟩ false 3 F_need_number) :=
  fn_okG (k := 1) T.f_need_number sc_need_number fun cdv A outer s H E hr hG tk =>
    (ds_cons (ds_if (PW.fin (dw_or (dt_cmp op_lt opd_lt (de_v (i := 0) rfl v_need_number_number) (de_v (i := 1) rfl v_need_number_low) rfl) (pw_or1 (PW.fin (dw_and (dt_notNx (de_v (i := 2) rfl v_need_number_high)) (pw_and1 (dt_cmp op_gt opd_gt (de_v (i := 0) rfl v_need_number_number) (de_v (i := 2) rfl v_need_number_high) rfl))))))) (ds_cons (ds_raise (x := "InvalidNumber") (k := 0) T.le T.lc_InvalidNumber T.k_InvalidNumber T.k_InvalidNumber rfl (hr.mono (by decide : 1 ≤ 1)) tk (de_v (i := 0) rfl v_need_number_number) g_need_number_InvalidNumber (by decide) rfl rfl) ds_nil) ds_nil) ds_nil)
/-! ### anew -/
abbrev N_anew : List Str := ["value", "part"]
theorem sc_anew : FnScope N_anew ["value"] (defScope st_anew) := ⟨rfl, rfl, rfl, by decide +kernel, rfl, by decide +kernel, by decide +kernel⟩
abbrev bs_anew_b1 : Scope := { kind := .function, names := [(PySem.Str.ofString ".0", .local), (PySem.Str.ofString "part", .local), (PySem.Str.ofString "anew", .globalImplicit)], isGenerator := false, isCoroutine := false, more := [] }
theorem bk_anew_b1 : blkC N_anew (defScope st_anew) bs_anew_b1 [("part", 1)] = true := by decide +kernel
abbrev bs_anew_b2 : Scope := { kind := .function, names := [(PySem.Str.ofString ".0", .local), (PySem.Str.ofString "part", .local), (PySem.Str.ofString "anew", .globalImplicit)], isGenerator := false, isCoroutine := false, more := [] }
theorem bk_anew_b2 : blkC N_anew (defScope st_anew) bs_anew_b2 [("part", 1)] = true := by decide +kernel
theorem v_anew_value : Vis (defScope st_anew) ("value" : Str) := .inl (by decide +kernel)
theorem g_anew_isinstance : ((defScope st_anew)).names.lookup ("isinstance" : Str) = some .globalImplicit := by decide +kernel
theorem g_anew_tuple : ((defScope st_anew)).names.lookup ("tuple" : Str) = some .globalImplicit := by decide +kernel
theorem o_anew_b1_part : Loc (relS bs_anew_b1 (defScope st_anew)) ("part" : Str) := .inl (by decide +kernel)
theorem l_anew_b1_part : ((relS bs_anew_b1 (defScope st_anew))).names.lookup ("part" : Str) = some .local := by decide +kernel
theorem v_anew_b1_part : Vis (relS bs_anew_b1 (defScope st_anew)) ("part" : Str) := .inl (by decide +kernel)
theorem g_anew_b1_anew : ((relS bs_anew_b1 (defScope st_anew))).names.lookup ("anew" : Str) = some .globalImplicit := by decide +kernel
theorem g_anew_list : ((defScope st_anew)).names.lookup ("list" : Str) = some .globalImplicit := by decide +kernel
theorem o_anew_b2_part : Loc (relS bs_anew_b2 (defScope st_anew)) ("part" : Str) := .inl (by decide +kernel)
theorem l_anew_b2_part : ((relS bs_anew_b2 (defScope st_anew))).names.lookup ("part" : Str) = some .local := by decide +kernel
theorem v_anew_b2_part : Vis (relS bs_anew_b2 (defScope st_anew)) ("part" : Str) := .inl (by decide +kernel)
theorem g_anew_b2_anew : ((relS bs_anew_b2 (defScope st_anew))).names.lookup ("anew" : Str) = some .globalImplicit := by decide +kernel
def m_anew (F_rec : Fsp) : M Fl := (sCons (sIf (eB (eIs (isTy "list") (fun _ => none) (eVar 0))) (sCons (sRetN (nLc (iDat (eVar 0)) (.nm 1) (M.ok true) (eCall false F_rec (aCons (eVar 1) aNil)) [1])) sNil) sNil) (sCons (sIf (eB (eIs (isTy "tuple") (fun _ => none) (eVar 0))) (sCons (sRet (eCB tupleF (aCons (eLc (iDat (eVar 0)) (.nm 1) (M.ok true) (eCall false F_rec (aCons (eVar 1) aNil)) [1]) aNil))) sNil) sNil) (sCons (sRet (eVar 0)) sNil)))
def F_anew : Nat → Fsp
  | 0 => fun _ _ => none
  | k + 1 => runF false 2 (m_anew (F_anew k))
theorem bi_anew (T : Txt Pg K mg a d) : Binds K d.anew ["value"] [] := T.f_anew.binds fun _ _ _ _ _ _ us hl => match us, hl with | [_], _ => rfl
theorem ok_anew (T : Txt Pg K mg a d) : ∀ k : Nat, FnOkG Pg wd K mg base (L2.CX Pg wd) (1 + k) a.anew d.anew ["value"] (spD ⟨K, mg⟩ false 1 (F_anew k))
  | 0 => ⟨fun _ _ _ _ h => h.1, fun _ _ _ _ _ _ _ _ _ _ _ _ _ _ h => (by obtain ⟨_, _, _, _, _, _, _, _, _, _, _, h⟩ := h; exact h.elim)⟩
  | k + 1 => by
    have ih := ok_anew T k
    exact fn_okG (k := 1 + k) T.f_anew sc_anew fun cdv A outer s H E hr hG tk =>
      (ds_cons (ds_if (dt_val (de_isG rfl g_anew_isinstance T.b_isinstance (de_v (i := 0) rfl v_anew_value) (pe_bltn g_anew_list T.b_list (by decide +kernel) (v := .ty "list") rfl) (.ty "list") (fun _ _ h => kit_ty h) (fun _ _ _ h => nomatch h) rfl rfl rfl) (fun _ => rfl)) (ds_cons (ds_retN (dn_lc rfl sc_anew.nd (di_dat rfl (de_v (i := 0) rfl v_anew_value)) (own := [("part", 1)]) (blkOk_by bk_anew_b2) (fun _ _ _ _ _ => (dg_name (i := 1) sc_anew.nd rfl o_anew_b2_part (.inr l_anew_b2_part))) (fun _ _ _ _ _ => dts_nil) (fun _ _ _ _ _ => (de_callG (ih.mono (by omega)) hr hG g_anew_b2_anew T.g_anew T.f_anew.kp (bi_anew T) takes0 (da_cons (de_v (i := 1) rfl v_anew_b2_part) da_nil rfl) (alen_cons alen_nil) (by decide) rfl rfl)) (fun _ => rfl) (by decide))) ds_nil) ds_nil) (ds_cons (ds_if (dt_val (de_isG rfl g_anew_isinstance T.b_isinstance (de_v (i := 0) rfl v_anew_value) (pe_bltn g_anew_tuple T.b_tuple (by decide +kernel) (v := .ty "tuple") rfl) (.ty "tuple") (fun _ _ h => kit_ty h) (fun _ _ _ h => nomatch h) rfl rfl rfl) (fun _ => rfl)) (ds_cons (ds_ret (de_cty call_tuple_of (cbd_tuple rfl) g_anew_tuple T.b_tuple (by decide +kernel) (da_cons (de_lc rfl sc_anew.nd (di_dat rfl (de_v (i := 0) rfl v_anew_value)) (own := [("part", 1)]) (blkOk_by bk_anew_b1) (fun _ _ _ _ _ => (dg_name (i := 1) sc_anew.nd rfl o_anew_b1_part (.inr l_anew_b1_part))) (fun _ _ _ _ _ => dts_nil) (fun _ _ _ _ _ => (de_callG (ih.mono (by omega)) hr hG g_anew_b1_anew T.g_anew T.f_anew.kp (bi_anew T) takes0 (da_cons (de_v (i := 1) rfl v_anew_b1_part) da_nil rfl) (alen_cons alen_nil) (by decide) rfl rfl)) (fun _ => rfl) (by decide)) da_nil rfl) (by decide) (by decide) rfl rfl)) ds_nil) ds_nil) (ds_cons (ds_ret (de_v (i := 0) rfl v_anew_value)) ds_nil)))
/-! ### is_timer -/
abbrev N_is_timer : List Str := ["value"]
theorem sc_is_timer : FnScope N_is_timer ["value"] (defScope st_is_timer) := ⟨rfl, rfl, rfl, by decide +kernel, rfl, by decide +kernel, by decide +kernel⟩
theorem v_is_timer_value : Vis (defScope st_is_timer) ("value" : Str) := .inl (by decide +kernel)
theorem g_is_timer_MOST_BOUND : ((defScope st_is_timer)).names.lookup ("MOST_BOUND" : Str) = some .globalImplicit := by decide +kernel
theorem g_is_timer_is_between : ((defScope st_is_timer)).names.lookup ("is_between" : Str) = some .globalImplicit := by decide +kernel
theorem g_is_timer_is_tuple : ((defScope st_is_timer)).names.lookup ("is_tuple" : Str) = some .globalImplicit := by decide +kernel
def m_is_timer : M Fl := (sCons (sIf (orT (notT (eB (eCall false F_is_tuple (aCons (eVar 0) (aCons (eLit (.int (2))) (aCons (eLit (.int (2))) aNil)))))) (notT (eB (eCall false F_is_between (aCons (eOp2 ixD (eVar 0) (eLit (.int (0)))) (aCons (eLit (.int (0))) (aCons (eLit (.int (60))) aNil))))))) (sCons (sRet (eLit (.bool false))) sNil) sNil) (sCons (sRet (orV (eIsN false (eOp2 ixD (eVar 0) (eLit (.int (1))))) (eCall false F_is_between (aCons (eOp2 ixD (eVar 0) (eLit (.int (1)))) (aCons (eOp2 ixD (eVar 0) (eLit (.int (0)))) (aCons (eLit (.int (60))) aNil)))))) sNil))
def F_is_timer : Fsp := runF false 1 m_is_timer
theorem bi_is_timer (T : Txt Pg K mg a d) : Binds K d.is_timer ["value"] [] := T.f_is_timer.binds fun _ _ _ _ _ _ us hl => match us, hl with | [_], _ => rfl
theorem ok_is_timer (T : Txt Pg K mg a d) : FnOkG Pg wd K mg base (L2.CX Pg wd) 3 a.is_timer d.is_timer ["value"] (spD ⟨K, mg⟩ false 1 F_is_timer) :=
  fn_okG (k := 2) T.f_is_timer sc_is_timer fun cdv A outer s H E hr hG tk =>
    (ds_cons (ds_if (PW.fin (dw_or (dt_not (dt_val (de_callG ((ok_is_tuple T).mono (by decide : 1 ≤ 2)) hr hG g_is_timer_is_tuple T.g_is_tuple T.f_is_tuple.kp (bi_is_tuple T) tk (da_cons (de_v (i := 0) rfl v_is_timer_value) (da_cons de_int (da_cons de_int da_nil rfl) rfl) rfl) (alen_cons (alen_cons (alen_cons alen_nil))) (by decide) rfl rfl) (fun _ => rfl))) (pw_or1 (dt_not (dt_val (de_callG ((ok_is_between T).mono (by decide : 2 ≤ 2)) hr hG g_is_timer_is_between T.g_is_between T.f_is_between.kp (bi_is_between T) tk (da_cons (de_ix rfl (de_v (i := 0) rfl v_is_timer_value) de_int (fun _ _ => rfl)) (da_cons de_int (da_cons (de_glob (v := (.int (60))) g_is_timer_MOST_BOUND T.c_MOST_BOUND.choose_spec ⟨_, rfl⟩ (fun _ => .int _)) da_nil rfl) rfl) rfl) (alen_cons (alen_cons (alen_cons alen_nil))) (by decide) rfl rfl) (fun _ => rfl)))))) (ds_cons (ds_ret de_bool) ds_nil) ds_nil) (ds_cons (ds_ret (de_or (de_isNx (de_ix rfl (de_v (i := 0) rfl v_is_timer_value) de_int (fun _ _ => rfl))) (pe_one (de_callG ((ok_is_between T).mono (by decide : 2 ≤ 2)) hr hG g_is_timer_is_between T.g_is_between T.f_is_between.kp (bi_is_between T) tk (da_cons (de_ix rfl (de_v (i := 0) rfl v_is_timer_value) de_int (fun _ _ => rfl)) (da_cons (de_ix rfl (de_v (i := 0) rfl v_is_timer_value) de_int (fun _ _ => rfl)) (da_cons (de_glob (v := (.int (60))) g_is_timer_MOST_BOUND T.c_MOST_BOUND.choose_spec ⟨_, rfl⟩ (fun _ => .int _)) da_nil rfl) rfl) rfl) (alen_cons (alen_cons (alen_cons alen_nil))) (by decide) rfl rfl)))) ds_nil))
/-! ### are_timers -/
abbrev N_are_timers : List Str := ["value", "timer"]
theorem sc_are_timers : FnScope N_are_timers ["value"] (defScope st_are_timers) := ⟨rfl, rfl, rfl, by decide +kernel, rfl, by decide +kernel, by decide +kernel⟩
abbrev bs_are_timers_b1 : Scope := { kind := .function, names := [(PySem.Str.ofString ".0", .local), (PySem.Str.ofString "timer", .local), (PySem.Str.ofString "is_timer", .globalImplicit)], isGenerator := false, isCoroutine := false, more := [] }
theorem bk_are_timers_b1 : blkC N_are_timers (defScope st_are_timers) bs_are_timers_b1 [("timer", 1)] = true := by decide +kernel
theorem g_are_timers_MOST_TIMERS : ((defScope st_are_timers)).names.lookup ("MOST_TIMERS" : Str) = some .globalImplicit := by decide +kernel
theorem v_are_timers_value : Vis (defScope st_are_timers) ("value" : Str) := .inl (by decide +kernel)
theorem g_are_timers_is_tuple : ((defScope st_are_timers)).names.lookup ("is_tuple" : Str) = some .globalImplicit := by decide +kernel
theorem g_are_timers_all : ((defScope st_are_timers)).names.lookup ("all" : Str) = some .globalImplicit := by decide +kernel
theorem o_are_timers_b1_timer : Loc (relS bs_are_timers_b1 (defScope st_are_timers)) ("timer" : Str) := .inl (by decide +kernel)
theorem l_are_timers_b1_timer : ((relS bs_are_timers_b1 (defScope st_are_timers))).names.lookup ("timer" : Str) = some .local := by decide +kernel
theorem v_are_timers_b1_timer : Vis (relS bs_are_timers_b1 (defScope st_are_timers)) ("timer" : Str) := .inl (by decide +kernel)
theorem g_are_timers_b1_is_timer : ((relS bs_are_timers_b1 (defScope st_are_timers))).names.lookup ("is_timer" : Str) = some .globalImplicit := by decide +kernel
def m_are_timers : M Fl := (sCons (sRet (andV (eCall false F_is_tuple (aCons (eVar 0) (aCons (eLit (.int (0))) (aCons (eLit (.int (6))) aNil)))) (eCB allF (aCons (eLc (iDat (eVar 0)) (.nm 1) (M.ok true) (eCall false F_is_timer (aCons (eVar 1) aNil)) [1]) aNil)))) sNil)
def F_are_timers : Fsp := runF false 2 m_are_timers
theorem bi_are_timers (T : Txt Pg K mg a d) : Binds K d.are_timers ["value"] [] := T.f_are_timers.binds fun _ _ _ _ _ _ us hl => match us, hl with | [_], _ => rfl
theorem ok_are_timers (T : Txt Pg K mg a d) : FnOkG Pg wd K mg base (L2.CX Pg wd) 4 a.are_timers d.are_timers ["value"] (spD ⟨K, mg⟩ false 1 F_are_timers) :=
  fn_okG (k := 3) T.f_are_timers sc_are_timers fun cdv A outer s H E hr hG tk =>
    (ds_cons (ds_ret (de_and (de_callG ((ok_is_tuple T).mono (by decide : 1 ≤ 3)) hr hG g_are_timers_is_tuple T.g_is_tuple T.f_is_tuple.kp (bi_is_tuple T) tk (da_cons (de_v (i := 0) rfl v_are_timers_value) (da_cons de_int (da_cons (de_glob (v := (.int (6))) g_are_timers_MOST_TIMERS T.c_MOST_TIMERS.choose_spec ⟨_, rfl⟩ (fun _ => .int _)) da_nil rfl) rfl) rfl) (alen_cons (alen_cons (alen_cons alen_nil))) (by decide) rfl rfl) (pe_one (de_cb (cr_all rfl) (cbd_all rfl) g_are_timers_all T.b_all (by decide +kernel) (da_cons (de_lc rfl sc_are_timers.nd (di_dat rfl (de_v (i := 0) rfl v_are_timers_value)) (own := [("timer", 1)]) (blkOk_by bk_are_timers_b1) (fun _ _ _ _ _ => (dg_name (i := 1) sc_are_timers.nd rfl o_are_timers_b1_timer (.inr l_are_timers_b1_timer))) (fun _ _ _ _ _ => dts_nil) (fun _ _ _ _ _ => (de_callG ((ok_is_timer T).mono (by decide : 3 ≤ 3)) hr hG g_are_timers_b1_is_timer T.g_is_timer T.f_is_timer.kp (bi_is_timer T) takes0 (da_cons (de_v (i := 1) rfl v_are_timers_b1_timer) da_nil rfl) (alen_cons alen_nil) (by decide) rfl rfl)) (fun _ => rfl) (by decide)) da_nil rfl) (by decide) (by decide) rfl rfl)))) ds_nil)
/-! ### is_event -/
abbrev N_is_event : List Str := ["value", "many"]
theorem sc_is_event : FnScope N_is_event ["value", "many"] (defScope st_is_event) := ⟨rfl, rfl, rfl, by decide +kernel, rfl, by decide +kernel, by decide +kernel⟩
theorem v_is_event_value : Vis (defScope st_is_event) ("value" : Str) := .inl (by decide +kernel)
theorem g_is_event_TIMER : ((defScope st_is_event)).names.lookup ("TIMER" : Str) = some .globalImplicit := by decide +kernel
theorem v_is_event_many : Vis (defScope st_is_event) ("many" : Str) := .inl (by decide +kernel)
theorem g_is_event_is_between : ((defScope st_is_event)).names.lookup ("is_between" : Str) = some .globalImplicit := by decide +kernel
theorem g_is_event_len : ((defScope st_is_event)).names.lookup ("len" : Str) = some .globalImplicit := by decide +kernel
theorem g_is_event_FREE : ((defScope st_is_event)).names.lookup ("FREE" : Str) = some .globalImplicit := by decide +kernel
theorem g_is_event_is_tuple : ((defScope st_is_event)).names.lookup ("is_tuple" : Str) = some .globalImplicit := by decide +kernel
theorem g_is_event_isinstance : ((defScope st_is_event)).names.lookup ("isinstance" : Str) = some .globalImplicit := by decide +kernel
theorem g_is_event_str : ((defScope st_is_event)).names.lookup ("str" : Str) = some .globalImplicit := by decide +kernel
def m_is_event : M Fl := (sCons (sIf (orT (notT (eB (eCall false F_is_tuple (aCons (eVar 0) (aCons (eLit (.int (1))) (aCons (eLit (.int (2))) aNil)))))) (notT (eB (eIs (isTy "str") (fun _ => none) (eOp2 ixD (eVar 0) (eLit (.int (0)))))))) (sCons (sRet (eLit (.bool false))) sNil) sNil) (sCons (sIf (eB (eOp2 eqX (eCB lenF (aCons (eVar 0) aNil)) (eLit (.int (1))))) (sCons (sRet (eOp2 eqX (eOp2 ixD (eVar 0) (eLit (.int (0)))) (eLit (.str "free")))) sNil) sNil) (sCons (sRet (andV (eOp2 eqX (eOp2 ixD (eVar 0) (eLit (.int (0)))) (eLit (.str "timer"))) (eCall false F_is_between (aCons (eOp2 ixD (eVar 0) (eLit (.int (1)))) (aCons (eLit (.int (0))) (aCons (eOp2 subD (eVar 1) (eLit (.int (1)))) aNil)))))) sNil)))
def F_is_event : Fsp := runF false 2 m_is_event
theorem bi_is_event (T : Txt Pg K mg a d) : Binds K d.is_event ["value", "many"] [] := T.f_is_event.binds fun _ _ _ _ _ _ us hl => match us, hl with | [_, _], _ => rfl
theorem ok_is_event (T : Txt Pg K mg a d) : FnOkG Pg wd K mg base (L2.CX Pg wd) 3 a.is_event d.is_event ["value", "many"] (spD ⟨K, mg⟩ false 2 F_is_event) :=
  fn_okG (k := 2) T.f_is_event sc_is_event fun cdv A outer s H E hr hG tk =>
    (ds_cons (ds_if (PW.fin (dw_or (dt_not (dt_val (de_callG ((ok_is_tuple T).mono (by decide : 1 ≤ 2)) hr hG g_is_event_is_tuple T.g_is_tuple T.f_is_tuple.kp (bi_is_tuple T) tk (da_cons (de_v (i := 0) rfl v_is_event_value) (da_cons de_int (da_cons de_int da_nil rfl) rfl) rfl) (alen_cons (alen_cons (alen_cons alen_nil))) (by decide) rfl rfl) (fun _ => rfl))) (pw_or1 (dt_not (dt_val (de_isG rfl g_is_event_isinstance T.b_isinstance (de_ix rfl (de_v (i := 0) rfl v_is_event_value) de_int (fun _ _ => rfl)) (pe_bltn g_is_event_str T.b_str (by decide +kernel) (v := .ty "str") rfl) (.ty "str") (fun _ _ h => kit_ty h) (fun _ _ _ h => nomatch h) rfl rfl rfl) (fun _ => rfl)))))) (ds_cons (ds_ret de_bool) ds_nil) ds_nil) (ds_cons (ds_if (dt_cmp (op_eq.or (op_eqD (room_u64 hr))) (opd_eqX rfl) (de_cb call_len_seq (cbd_len rfl) g_is_event_len T.b_len (by decide +kernel) (da_cons (de_v (i := 0) rfl v_is_event_value) da_nil rfl) (by decide) (by decide) rfl rfl) de_int rfl) (ds_cons (ds_ret (de_cmp (op_eq.or (op_eqD (room_u64 hr))) (opd_eqX rfl) (de_ix rfl (de_v (i := 0) rfl v_is_event_value) de_int (fun _ _ => rfl)) (de_glob (v := (.str "free")) g_is_event_FREE T.c_FREE.choose_spec ⟨_, rfl⟩ (fun _ => .str _)) rfl)) ds_nil) ds_nil) (ds_cons (ds_ret (de_and (de_cmp (op_eq.or (op_eqD (room_u64 hr))) (opd_eqX rfl) (de_ix rfl (de_v (i := 0) rfl v_is_event_value) de_int (fun _ _ => rfl)) (de_glob (v := (.str "timer")) g_is_event_TIMER T.c_TIMER.choose_spec ⟨_, rfl⟩ (fun _ => .str _)) rfl) (pe_one (de_callG ((ok_is_between T).mono (by decide : 2 ≤ 2)) hr hG g_is_event_is_between T.g_is_between T.f_is_between.kp (bi_is_between T) tk (da_cons (de_ix rfl (de_v (i := 0) rfl v_is_event_value) de_int (fun _ _ => rfl)) (da_cons de_int (da_cons (de_bin op_sub opd_sub (de_v (i := 1) rfl v_is_event_many) de_int) da_nil rfl) rfl) rfl) (alen_cons (alen_cons (alen_cons alen_nil))) (by decide) rfl rfl)))) ds_nil)))
/-! ### are_changes -/
abbrev N_are_changes : List Str := ["starts", "stops", "many", "timer"]
theorem sc_are_changes : FnScope N_are_changes ["starts", "stops", "many"] (defScope st_are_changes) := ⟨rfl, rfl, rfl, by decide +kernel, rfl, by decide +kernel, by decide +kernel⟩
abbrev bs_are_changes_b1 : Scope := { kind := .function, names := [(PySem.Str.ofString ".0", .local), (PySem.Str.ofString "timer", .local), (PySem.Str.ofString "stops", .free)], isGenerator := false, isCoroutine := false, more := [] }
theorem bk_are_changes_b1 : blkC N_are_changes (defScope st_are_changes) bs_are_changes_b1 [("timer", 3)] = true := by decide +kernel
theorem v_are_changes_starts : Vis (defScope st_are_changes) ("starts" : Str) := .inl (by decide +kernel)
theorem o_are_changes_b1_timer : Loc (relS bs_are_changes_b1 (defScope st_are_changes)) ("timer" : Str) := .inl (by decide +kernel)
theorem l_are_changes_b1_timer : ((relS bs_are_changes_b1 (defScope st_are_changes))).names.lookup ("timer" : Str) = some .local := by decide +kernel
theorem v_are_changes_b1_timer : Vis (relS bs_are_changes_b1 (defScope st_are_changes)) ("timer" : Str) := .inl (by decide +kernel)
theorem v_are_changes_b1_stops : Vis (relS bs_are_changes_b1 (defScope st_are_changes)) ("stops" : Str) := .inr (.inl (by decide +kernel))
theorem v_are_changes_many : Vis (defScope st_are_changes) ("many" : Str) := .inl (by decide +kernel)
theorem g_are_changes_is_ascending : ((defScope st_are_changes)).names.lookup ("is_ascending" : Str) = some .globalImplicit := by decide +kernel
theorem v_are_changes_stops : Vis (defScope st_are_changes) ("stops" : Str) := .inr (.inl (by decide +kernel))
def m_are_changes : M Fl := (sCons (sIf (orT (notT (eB (eCall false F_is_ascending (aCons (eVar 0) (aCons (eLit (.int (0))) (aCons (eOp2 subD (eVar 2) (eLit (.int (1)))) aNil)))))) (notT (eB (eCall false F_is_ascending (aCons (eVar 1) (aCons (eLit (.int (0))) (aCons (eOp2 subD (eVar 2) (eLit (.int (1)))) aNil))))))) (sCons (sRet (eLit (.bool false))) sNil) sNil) (sCons (sRet (eOp2 eqX (eLc (iDat (eVar 0)) (.nm 3) (eB (eOp2 inX (eVar 3) (eVar 1))) (eVar 3) [3]) (eLst aNil))) sNil))
def F_are_changes : Fsp := runF false 4 m_are_changes
theorem bi_are_changes (T : Txt Pg K mg a d) : Binds K d.are_changes ["starts", "stops", "many"] [] := T.f_are_changes.binds fun _ _ _ _ _ _ us hl => match us, hl with | [_, _, _], _ => rfl
theorem ok_are_changes (T : Txt Pg K mg a d) : FnOkG Pg wd K mg base (L2.CX Pg wd) 4 a.are_changes d.are_changes ["starts", "stops", "many"] (spD ⟨K, mg⟩ false 3 F_are_changes) :=
  fn_okG (k := 3) T.f_are_changes sc_are_changes fun cdv A outer s H E hr hG tk =>
    (ds_cons (ds_if (PW.fin (dw_or (dt_not (dt_val (de_callG ((ok_is_ascending T).mono (by decide : 3 ≤ 3)) hr hG g_are_changes_is_ascending T.g_is_ascending T.f_is_ascending.kp (bi_is_ascending T) tk (da_cons (de_v (i := 0) rfl v_are_changes_starts) (da_cons de_int (da_cons (de_bin op_sub opd_sub (de_v (i := 2) rfl v_are_changes_many) de_int) da_nil rfl) rfl) rfl) (alen_cons (alen_cons (alen_cons alen_nil))) (by decide) rfl rfl) (fun _ => rfl))) (pw_or1 (dt_not (dt_val (de_callG ((ok_is_ascending T).mono (by decide : 3 ≤ 3)) hr hG g_are_changes_is_ascending T.g_is_ascending T.f_is_ascending.kp (bi_is_ascending T) tk (da_cons (de_v (i := 1) rfl v_are_changes_stops) (da_cons de_int (da_cons (de_bin op_sub opd_sub (de_v (i := 2) rfl v_are_changes_many) de_int) da_nil rfl) rfl) rfl) (alen_cons (alen_cons (alen_cons alen_nil))) (by decide) rfl rfl) (fun _ => rfl)))))) (ds_cons (ds_ret de_bool) ds_nil) ds_nil) (ds_cons (ds_ret (de_cmp (op_eq.or (op_eqD (room_u64 hr))) (opd_eqX rfl) (de_lc rfl sc_are_changes.nd (di_dat rfl (de_v (i := 0) rfl v_are_changes_starts)) (own := [("timer", 3)]) (blkOk_by bk_are_changes_b1) (fun _ _ _ _ _ => (dg_name (i := 3) sc_are_changes.nd rfl o_are_changes_b1_timer (.inr l_are_changes_b1_timer))) (fun _ _ _ _ _ => (dts_one (dt_cmp ((op_inD (room_u65 hr)).or op_in_seq) (opd_inX rfl) (de_v (i := 3) rfl v_are_changes_b1_timer) (de_v (i := 1) rfl v_are_changes_b1_stops) rfl))) (fun _ _ _ _ _ => (de_v (i := 3) rfl v_are_changes_b1_timer)) (fun _ => rfl) (by decide)) (de_lst da_nil) rfl)) ds_nil))
/-! ### is_begin -/
abbrev N_is_begin : List Str := ["value", "places", "many"]
theorem sc_is_begin : FnScope N_is_begin ["value", "places", "many"] (defScope st_is_begin) := ⟨rfl, rfl, rfl, by decide +kernel, rfl, by decide +kernel, by decide +kernel⟩
theorem v_is_begin_value : Vis (defScope st_is_begin) ("value" : Str) := .inl (by decide +kernel)
theorem g_is_begin_is_tuple : ((defScope st_is_begin)).names.lookup ("is_tuple" : Str) = some .globalImplicit := by decide +kernel
theorem v_is_begin_places : Vis (defScope st_is_begin) ("places" : Str) := .inl (by decide +kernel)
theorem g_is_begin_is_between : ((defScope st_is_begin)).names.lookup ("is_between" : Str) = some .globalImplicit := by decide +kernel
theorem v_is_begin_many : Vis (defScope st_is_begin) ("many" : Str) := .inl (by decide +kernel)
theorem g_is_begin_is_ascending : ((defScope st_is_begin)).names.lookup ("is_ascending" : Str) = some .globalImplicit := by decide +kernel
def m_is_begin : M Fl := (sCons (sRet (andV (eCall false F_is_tuple (aCons (eVar 0) (aCons (eLit (.int (2))) (aCons (eLit (.int (2))) aNil)))) (andV (eCall false F_is_between (aCons (eOp2 ixD (eVar 0) (eLit (.int (0)))) (aCons (eLit (.int (0))) (aCons (eOp2 subD (eVar 1) (eLit (.int (1)))) aNil)))) (eCall false F_is_ascending (aCons (eOp2 ixD (eVar 0) (eLit (.int (1)))) (aCons (eLit (.int (0))) (aCons (eOp2 subD (eVar 2) (eLit (.int (1)))) aNil))))))) sNil)
def F_is_begin : Fsp := runF false 3 m_is_begin
theorem bi_is_begin (T : Txt Pg K mg a d) : Binds K d.is_begin ["value", "places", "many"] [] := T.f_is_begin.binds fun _ _ _ _ _ _ us hl => match us, hl with | [_, _, _], _ => rfl
theorem ok_is_begin (T : Txt Pg K mg a d) : FnOkG Pg wd K mg base (L2.CX Pg wd) 4 a.is_begin d.is_begin ["value", "places", "many"] (spD ⟨K, mg⟩ false 3 F_is_begin) :=
  fn_okG (k := 3) T.f_is_begin sc_is_begin fun cdv A outer s H E hr hG tk =>
    (ds_cons (ds_ret (de_and (de_callG ((ok_is_tuple T).mono (by decide : 1 ≤ 3)) hr hG g_is_begin_is_tuple T.g_is_tuple T.f_is_tuple.kp (bi_is_tuple T) tk (da_cons (de_v (i := 0) rfl v_is_begin_value) (da_cons de_int (da_cons de_int da_nil rfl) rfl) rfl) (alen_cons (alen_cons (alen_cons alen_nil))) (by decide) rfl rfl) (de_and (de_callG ((ok_is_between T).mono (by decide : 2 ≤ 3)) hr hG g_is_begin_is_between T.g_is_between T.f_is_between.kp (bi_is_between T) tk (da_cons (de_ix rfl (de_v (i := 0) rfl v_is_begin_value) de_int (fun _ _ => rfl)) (da_cons de_int (da_cons (de_bin op_sub opd_sub (de_v (i := 1) rfl v_is_begin_places) de_int) da_nil rfl) rfl) rfl) (alen_cons (alen_cons (alen_cons alen_nil))) (by decide) rfl rfl) (pe_one (de_callG ((ok_is_ascending T).mono (by decide : 3 ≤ 3)) hr hG g_is_begin_is_ascending T.g_is_ascending T.f_is_ascending.kp (bi_is_ascending T) tk (da_cons (de_ix rfl (de_v (i := 0) rfl v_is_begin_value) de_int (fun _ _ => rfl)) (da_cons de_int (da_cons (de_bin op_sub opd_sub (de_v (i := 2) rfl v_is_begin_many) de_int) da_nil rfl) rfl) rfl) (alen_cons (alen_cons (alen_cons alen_nil))) (by decide) rfl rfl))))) ds_nil)
/-! ### is_party_event -/
abbrev N_is_party_event : List Str := ["value", "many"]
theorem sc_is_party_event : FnScope N_is_party_event ["value", "many"] (defScope st_is_party_event) := ⟨rfl, rfl, rfl, by decide +kernel, rfl, by decide +kernel, by decide +kernel⟩
theorem v_is_party_event_many : Vis (defScope st_is_party_event) ("many" : Str) := .inl (by decide +kernel)
theorem v_is_party_event_value : Vis (defScope st_is_party_event) ("value" : Str) := .inl (by decide +kernel)
theorem g_is_party_event_is_event : ((defScope st_is_party_event)).names.lookup ("is_event" : Str) = some .globalImplicit := by decide +kernel
theorem g_is_party_event_is_tuple : ((defScope st_is_party_event)).names.lookup ("is_tuple" : Str) = some .globalImplicit := by decide +kernel
theorem g_is_party_event_isinstance : ((defScope st_is_party_event)).names.lookup ("isinstance" : Str) = some .globalImplicit := by decide +kernel
theorem g_is_party_event_str : ((defScope st_is_party_event)).names.lookup ("str" : Str) = some .globalImplicit := by decide +kernel
theorem g_is_party_event_HEARS : ((defScope st_is_party_event)).names.lookup ("HEARS" : Str) = some .globalImplicit := by decide +kernel
theorem g_is_party_event_MOST_SIGNAL : ((defScope st_is_party_event)).names.lookup ("MOST_SIGNAL" : Str) = some .globalImplicit := by decide +kernel
theorem g_is_party_event_is_between : ((defScope st_is_party_event)).names.lookup ("is_between" : Str) = some .globalImplicit := by decide +kernel
def m_is_party_event : M Fl := (sCons (sIf (andT (eB (eCall false F_is_tuple (aCons (eVar 0) (aCons (eLit (.int (2))) (aCons (eLit (.int (2))) aNil))))) (andT (eB (eIs (isTy "str") (fun _ => none) (eOp2 ixD (eVar 0) (eLit (.int (0)))))) (eB (eOp2 eqX (eOp2 ixD (eVar 0) (eLit (.int (0)))) (eLit (.str "hears")))))) (sCons (sRet (eCall false F_is_between (aCons (eOp2 ixD (eVar 0) (eLit (.int (1)))) (aCons (eLit (.int (0))) (aCons (eLit (.int (9))) aNil))))) sNil) sNil) (sCons (sRet (eCall false F_is_event (aCons (eVar 0) (aCons (eVar 1) aNil)))) sNil))
def F_is_party_event : Fsp := runF false 2 m_is_party_event
theorem bi_is_party_event (T : Txt Pg K mg a d) : Binds K d.is_party_event ["value", "many"] [] := T.f_is_party_event.binds fun _ _ _ _ _ _ us hl => match us, hl with | [_, _], _ => rfl
theorem ok_is_party_event (T : Txt Pg K mg a d) : FnOkG Pg wd K mg base (L2.CX Pg wd) 4 a.is_party_event d.is_party_event ["value", "many"] (spD ⟨K, mg⟩ false 2 F_is_party_event) :=
  fn_okG (k := 3) T.f_is_party_event sc_is_party_event fun cdv A outer s H E hr hG tk =>
    (ds_cons (ds_if (PW.fin (dw_and (dt_val (de_callG ((ok_is_tuple T).mono (by decide : 1 ≤ 3)) hr hG g_is_party_event_is_tuple T.g_is_tuple T.f_is_tuple.kp (bi_is_tuple T) tk (da_cons (de_v (i := 0) rfl v_is_party_event_value) (da_cons de_int (da_cons de_int da_nil rfl) rfl) rfl) (alen_cons (alen_cons (alen_cons alen_nil))) (by decide) rfl rfl) (fun _ => rfl)) (dw_and (dt_val (de_isG rfl g_is_party_event_isinstance T.b_isinstance (de_ix rfl (de_v (i := 0) rfl v_is_party_event_value) de_int (fun _ _ => rfl)) (pe_bltn g_is_party_event_str T.b_str (by decide +kernel) (v := .ty "str") rfl) (.ty "str") (fun _ _ h => kit_ty h) (fun _ _ _ h => nomatch h) rfl rfl rfl) (fun _ => rfl)) (pw_and1 (dt_cmp (op_eq.or (op_eqD (room_u64 hr))) (opd_eqX rfl) (de_ix rfl (de_v (i := 0) rfl v_is_party_event_value) de_int (fun _ _ => rfl)) (de_glob (v := (.str "hears")) g_is_party_event_HEARS T.c_HEARS.choose_spec ⟨_, rfl⟩ (fun _ => .str _)) rfl))))) (ds_cons (ds_ret (de_callG ((ok_is_between T).mono (by decide : 2 ≤ 3)) hr hG g_is_party_event_is_between T.g_is_between T.f_is_between.kp (bi_is_between T) tk (da_cons (de_ix rfl (de_v (i := 0) rfl v_is_party_event_value) de_int (fun _ _ => rfl)) (da_cons de_int (da_cons (de_glob (v := (.int (9))) g_is_party_event_MOST_SIGNAL T.c_MOST_SIGNAL.choose_spec ⟨_, rfl⟩ (fun _ => .int _)) da_nil rfl) rfl) rfl) (alen_cons (alen_cons (alen_cons alen_nil))) (by decide) rfl rfl)) ds_nil) ds_nil) (ds_cons (ds_ret (de_callG ((ok_is_event T).mono (by decide : 3 ≤ 3)) hr hG g_is_party_event_is_event T.g_is_event T.f_is_event.kp (bi_is_event T) tk (da_cons (de_v (i := 0) rfl v_is_party_event_value) (da_cons (de_v (i := 1) rfl v_is_party_event_many) da_nil rfl) rfl) (alen_cons (alen_cons alen_nil)) (by decide) rfl rfl)) ds_nil))
/-! ### is_party_step -/
abbrev N_is_party_step : List Str := ["value", "places", "many"]
theorem sc_is_party_step : FnScope N_is_party_step ["value", "places", "many"] (defScope st_is_party_step) := ⟨rfl, rfl, rfl, by decide +kernel, rfl, by decide +kernel, by decide +kernel⟩
theorem v_is_party_step_value : Vis (defScope st_is_party_step) ("value" : Str) := .inl (by decide +kernel)
theorem g_is_party_step_HEARS : ((defScope st_is_party_step)).names.lookup ("HEARS" : Str) = some .globalImplicit := by decide +kernel
theorem g_is_party_step_MOST_SIGNAL : ((defScope st_is_party_step)).names.lookup ("MOST_SIGNAL" : Str) = some .globalImplicit := by decide +kernel
theorem g_is_party_step_is_between : ((defScope st_is_party_step)).names.lookup ("is_between" : Str) = some .globalImplicit := by decide +kernel
theorem v_is_party_step_places : Vis (defScope st_is_party_step) ("places" : Str) := .inl (by decide +kernel)
theorem v_is_party_step_many : Vis (defScope st_is_party_step) ("many" : Str) := .inl (by decide +kernel)
theorem g_is_party_step_are_changes : ((defScope st_is_party_step)).names.lookup ("are_changes" : Str) = some .globalImplicit := by decide +kernel
theorem g_is_party_step_is_tuple : ((defScope st_is_party_step)).names.lookup ("is_tuple" : Str) = some .globalImplicit := by decide +kernel
theorem g_is_party_step_is_party_event : ((defScope st_is_party_step)).names.lookup ("is_party_event" : Str) = some .globalImplicit := by decide +kernel
def m_is_party_step : M Fl := (sCons (sIf (orT (notT (eB (eCall false F_is_tuple (aCons (eVar 0) (aCons (eLit (.int (6))) (aCons (eLit (.int (6))) aNil)))))) (orT (notT (eB (eCall false F_is_between (aCons (eOp2 ixD (eVar 0) (eLit (.int (0)))) (aCons (eLit (.int (0))) (aCons (eOp2 subD (eVar 1) (eLit (.int (1)))) aNil)))))) (notT (eB (eCall false F_is_party_event (aCons (eOp2 ixD (eVar 0) (eLit (.int (1)))) (aCons (eVar 2) aNil))))))) (sCons (sRet (eLit (.bool false))) sNil) sNil) (sCons (sIf (orT (notT (eB (eCall false F_is_between (aCons (eOp2 ixD (eVar 0) (eLit (.int (2)))) (aCons (eLit (.int (0))) (aCons (eOp2 subD (eVar 1) (eLit (.int (1)))) aNil)))))) (notT (eB (eCall false F_are_changes (aCons (eOp2 ixD (eVar 0) (eLit (.int (3)))) (aCons (eOp2 ixD (eVar 0) (eLit (.int (4)))) (aCons (eVar 2) aNil))))))) (sCons (sRet (eLit (.bool false))) sNil) sNil) (sCons (sRet (orV (eIsN false (eOp2 ixD (eVar 0) (eLit (.int (5))))) (andV (eOp2 neX (eOp2 ixD (eOp2 ixD (eVar 0) (eLit (.int (1)))) (eLit (.int (0)))) (eLit (.str "hears"))) (eCall false F_is_between (aCons (eOp2 ixD (eVar 0) (eLit (.int (5)))) (aCons (eLit (.int (0))) (aCons (eLit (.int (9))) aNil))))))) sNil)))
def F_is_party_step : Fsp := runF false 3 m_is_party_step
theorem bi_is_party_step (T : Txt Pg K mg a d) : Binds K d.is_party_step ["value", "places", "many"] [] := T.f_is_party_step.binds fun _ _ _ _ _ _ us hl => match us, hl with | [_, _, _], _ => rfl
theorem ok_is_party_step (T : Txt Pg K mg a d) : FnOkG Pg wd K mg base (L2.CX Pg wd) 5 a.is_party_step d.is_party_step ["value", "places", "many"] (spD ⟨K, mg⟩ false 3 F_is_party_step) :=
  fn_okG (k := 4) T.f_is_party_step sc_is_party_step fun cdv A outer s H E hr hG tk =>
    (ds_cons (ds_if (PW.fin (dw_or (dt_not (dt_val (de_callG ((ok_is_tuple T).mono (by decide : 1 ≤ 4)) hr hG g_is_party_step_is_tuple T.g_is_tuple T.f_is_tuple.kp (bi_is_tuple T) tk (da_cons (de_v (i := 0) rfl v_is_party_step_value) (da_cons de_int (da_cons de_int da_nil rfl) rfl) rfl) (alen_cons (alen_cons (alen_cons alen_nil))) (by decide) rfl rfl) (fun _ => rfl))) (dw_or (dt_not (dt_val (de_callG ((ok_is_between T).mono (by decide : 2 ≤ 4)) hr hG g_is_party_step_is_between T.g_is_between T.f_is_between.kp (bi_is_between T) tk (da_cons (de_ix rfl (de_v (i := 0) rfl v_is_party_step_value) de_int (fun _ _ => rfl)) (da_cons de_int (da_cons (de_bin op_sub opd_sub (de_v (i := 1) rfl v_is_party_step_places) de_int) da_nil rfl) rfl) rfl) (alen_cons (alen_cons (alen_cons alen_nil))) (by decide) rfl rfl) (fun _ => rfl))) (pw_or1 (dt_not (dt_val (de_callG ((ok_is_party_event T).mono (by decide : 4 ≤ 4)) hr hG g_is_party_step_is_party_event T.g_is_party_event T.f_is_party_event.kp (bi_is_party_event T) tk (da_cons (de_ix rfl (de_v (i := 0) rfl v_is_party_step_value) de_int (fun _ _ => rfl)) (da_cons (de_v (i := 2) rfl v_is_party_step_many) da_nil rfl) rfl) (alen_cons (alen_cons alen_nil)) (by decide) rfl rfl) (fun _ => rfl))))))) (ds_cons (ds_ret de_bool) ds_nil) ds_nil) (ds_cons (ds_if (PW.fin (dw_or (dt_not (dt_val (de_callG ((ok_is_between T).mono (by decide : 2 ≤ 4)) hr hG g_is_party_step_is_between T.g_is_between T.f_is_between.kp (bi_is_between T) tk (da_cons (de_ix rfl (de_v (i := 0) rfl v_is_party_step_value) de_int (fun _ _ => rfl)) (da_cons de_int (da_cons (de_bin op_sub opd_sub (de_v (i := 1) rfl v_is_party_step_places) de_int) da_nil rfl) rfl) rfl) (alen_cons (alen_cons (alen_cons alen_nil))) (by decide) rfl rfl) (fun _ => rfl))) (pw_or1 (dt_not (dt_val (de_callG ((ok_are_changes T).mono (by decide : 4 ≤ 4)) hr hG g_is_party_step_are_changes T.g_are_changes T.f_are_changes.kp (bi_are_changes T) tk (da_cons (de_ix rfl (de_v (i := 0) rfl v_is_party_step_value) de_int (fun _ _ => rfl)) (da_cons (de_ix rfl (de_v (i := 0) rfl v_is_party_step_value) de_int (fun _ _ => rfl)) (da_cons (de_v (i := 2) rfl v_is_party_step_many) da_nil rfl) rfl) rfl) (alen_cons (alen_cons (alen_cons alen_nil))) (by decide) rfl rfl) (fun _ => rfl)))))) (ds_cons (ds_ret de_bool) ds_nil) ds_nil) (ds_cons (ds_ret (de_or (de_isNx (de_ix rfl (de_v (i := 0) rfl v_is_party_step_value) de_int (fun _ _ => rfl))) (pe_one (de_and (de_cmp (op_ne.or (op_neD (room_u64 hr))) (opd_neX rfl) (de_ix rfl (de_ix rfl (de_v (i := 0) rfl v_is_party_step_value) de_int (fun _ _ => rfl)) de_int (fun _ _ => rfl)) (de_glob (v := (.str "hears")) g_is_party_step_HEARS T.c_HEARS.choose_spec ⟨_, rfl⟩ (fun _ => .str _)) rfl) (pe_one (de_callG ((ok_is_between T).mono (by decide : 2 ≤ 4)) hr hG g_is_party_step_is_between T.g_is_between T.f_is_between.kp (bi_is_between T) tk (da_cons (de_ix rfl (de_v (i := 0) rfl v_is_party_step_value) de_int (fun _ _ => rfl)) (da_cons de_int (da_cons (de_glob (v := (.int (9))) g_is_party_step_MOST_SIGNAL T.c_MOST_SIGNAL.choose_spec ⟨_, rfl⟩ (fun _ => .int _)) da_nil rfl) rfl) rfl) (alen_cons (alen_cons (alen_cons alen_nil))) (by decide) rfl rfl)))))) ds_nil)))
/-! ### is_party -/
abbrev N_is_party : List Str := ["value", "many", "step"]
theorem sc_is_party : FnScope N_is_party ["value", "many"] (defScope st_is_party) := ⟨rfl, rfl, rfl, by decide +kernel, rfl, by decide +kernel, by decide +kernel⟩
abbrev bs_is_party_b1 : Scope := { kind := .function, names := [(PySem.Str.ofString ".0", .local), (PySem.Str.ofString "step", .local), (PySem.Str.ofString "is_party_step", .globalImplicit), (PySem.Str.ofString "many", .free), (PySem.Str.ofString "value", .free)], isGenerator := false, isCoroutine := false, more := [] }
theorem bk_is_party_b1 : blkC N_is_party (defScope st_is_party) bs_is_party_b1 [("step", 2)] = true := by decide +kernel
theorem v_is_party_many : Vis (defScope st_is_party) ("many" : Str) := .inr (.inl (by decide +kernel))
theorem v_is_party_value : Vis (defScope st_is_party) ("value" : Str) := .inr (.inl (by decide +kernel))
theorem g_is_party_is_begin : ((defScope st_is_party)).names.lookup ("is_begin" : Str) = some .globalImplicit := by decide +kernel
theorem g_is_party_all : ((defScope st_is_party)).names.lookup ("all" : Str) = some .globalImplicit := by decide +kernel
theorem o_is_party_b1_step : Loc (relS bs_is_party_b1 (defScope st_is_party)) ("step" : Str) := .inl (by decide +kernel)
theorem l_is_party_b1_step : ((relS bs_is_party_b1 (defScope st_is_party))).names.lookup ("step" : Str) = some .local := by decide +kernel
theorem v_is_party_b1_many : Vis (relS bs_is_party_b1 (defScope st_is_party)) ("many" : Str) := .inr (.inl (by decide +kernel))
theorem v_is_party_b1_value : Vis (relS bs_is_party_b1 (defScope st_is_party)) ("value" : Str) := .inr (.inl (by decide +kernel))
theorem v_is_party_b1_step : Vis (relS bs_is_party_b1 (defScope st_is_party)) ("step" : Str) := .inl (by decide +kernel)
theorem g_is_party_b1_is_party_step : ((relS bs_is_party_b1 (defScope st_is_party))).names.lookup ("is_party_step" : Str) = some .globalImplicit := by decide +kernel
theorem g_is_party_is_tuple : ((defScope st_is_party)).names.lookup ("is_tuple" : Str) = some .globalImplicit := by decide +kernel
theorem g_is_party_MOST_PLACES : ((defScope st_is_party)).names.lookup ("MOST_PLACES" : Str) = some .globalImplicit := by decide +kernel
theorem g_is_party_is_between : ((defScope st_is_party)).names.lookup ("is_between" : Str) = some .globalImplicit := by decide +kernel
theorem g_is_party_MOST_STEPS : ((defScope st_is_party)).names.lookup ("MOST_STEPS" : Str) = some .globalImplicit := by decide +kernel
def m_is_party : M Fl := (sCons (sIf (orT (notT (eB (eCall false F_is_tuple (aCons (eVar 0) (aCons (eLit (.int (3))) (aCons (eLit (.int (3))) aNil)))))) (orT (notT (eB (eCall false F_is_between (aCons (eOp2 ixD (eVar 0) (eLit (.int (0)))) (aCons (eLit (.int (1))) (aCons (eLit (.int (12))) aNil)))))) (notT (eB (eCall false F_is_tuple (aCons (eOp2 ixD (eVar 0) (eLit (.int (1)))) (aCons (eLit (.int (0))) (aCons (eLit (.int (40))) aNil)))))))) (sCons (sRet (eLit (.bool false))) sNil) sNil) (sCons (sIf (notT (eB (eCB allF (aCons (eLc (iDat (eOp2 ixD (eVar 0) (eLit (.int (1))))) (.nm 2) (M.ok true) (eCall false F_is_party_step (aCons (eVar 2) (aCons (eOp2 ixD (eVar 0) (eLit (.int (0)))) (aCons (eVar 1) aNil)))) [2]) aNil)))) (sCons (sRet (eLit (.bool false))) sNil) sNil) (sCons (sRet (eCall false F_is_begin (aCons (eOp2 ixD (eVar 0) (eLit (.int (2)))) (aCons (eOp2 ixD (eVar 0) (eLit (.int (0)))) (aCons (eVar 1) aNil))))) sNil)))
def F_is_party : Fsp := runF false 3 m_is_party
theorem bi_is_party (T : Txt Pg K mg a d) : Binds K d.is_party ["value", "many"] [] := T.f_is_party.binds fun _ _ _ _ _ _ us hl => match us, hl with | [_, _], _ => rfl
theorem ok_is_party (T : Txt Pg K mg a d) : FnOkG Pg wd K mg base (L2.CX Pg wd) 6 a.is_party d.is_party ["value", "many"] (spD ⟨K, mg⟩ false 2 F_is_party) :=
  fn_okG (k := 5) T.f_is_party sc_is_party fun cdv A outer s H E hr hG tk =>
    (ds_cons (ds_if (PW.fin (dw_or (dt_not (dt_val (de_callG ((ok_is_tuple T).mono (by decide : 1 ≤ 5)) hr hG g_is_party_is_tuple T.g_is_tuple T.f_is_tuple.kp (bi_is_tuple T) tk (da_cons (de_v (i := 0) rfl v_is_party_value) (da_cons de_int (da_cons de_int da_nil rfl) rfl) rfl) (alen_cons (alen_cons (alen_cons alen_nil))) (by decide) rfl rfl) (fun _ => rfl))) (dw_or (dt_not (dt_val (de_callG ((ok_is_between T).mono (by decide : 2 ≤ 5)) hr hG g_is_party_is_between T.g_is_between T.f_is_between.kp (bi_is_between T) tk (da_cons (de_ix rfl (de_v (i := 0) rfl v_is_party_value) de_int (fun _ _ => rfl)) (da_cons de_int (da_cons (de_glob (v := (.int (12))) g_is_party_MOST_PLACES T.c_MOST_PLACES.choose_spec ⟨_, rfl⟩ (fun _ => .int _)) da_nil rfl) rfl) rfl) (alen_cons (alen_cons (alen_cons alen_nil))) (by decide) rfl rfl) (fun _ => rfl))) (pw_or1 (dt_not (dt_val (de_callG ((ok_is_tuple T).mono (by decide : 1 ≤ 5)) hr hG g_is_party_is_tuple T.g_is_tuple T.f_is_tuple.kp (bi_is_tuple T) tk (da_cons (de_ix rfl (de_v (i := 0) rfl v_is_party_value) de_int (fun _ _ => rfl)) (da_cons de_int (da_cons (de_glob (v := (.int (40))) g_is_party_MOST_STEPS T.c_MOST_STEPS.choose_spec ⟨_, rfl⟩ (fun _ => .int _)) da_nil rfl) rfl) rfl) (alen_cons (alen_cons (alen_cons alen_nil))) (by decide) rfl rfl) (fun _ => rfl))))))) (ds_cons (ds_ret de_bool) ds_nil) ds_nil) (ds_cons (ds_if (dt_not (dt_val (de_cb (cr_all rfl) (cbd_all rfl) g_is_party_all T.b_all (by decide +kernel) (da_cons (de_lc rfl sc_is_party.nd (di_dat rfl (de_ix rfl (de_v (i := 0) rfl v_is_party_value) de_int (fun _ _ => rfl))) (own := [("step", 2)]) (blkOk_by bk_is_party_b1) (fun _ _ _ _ _ => (dg_name (i := 2) sc_is_party.nd rfl o_is_party_b1_step (.inr l_is_party_b1_step))) (fun _ _ _ _ _ => dts_nil) (fun _ _ _ _ _ => (de_callG ((ok_is_party_step T).mono (by decide : 5 ≤ 5)) hr hG g_is_party_b1_is_party_step T.g_is_party_step T.f_is_party_step.kp (bi_is_party_step T) takes0 (da_cons (de_v (i := 2) rfl v_is_party_b1_step) (da_cons (de_ix rfl (de_v (i := 0) rfl v_is_party_b1_value) de_int (fun _ _ => rfl)) (da_cons (de_v (i := 1) rfl v_is_party_b1_many) da_nil rfl) rfl) rfl) (alen_cons (alen_cons (alen_cons alen_nil))) (by decide) rfl rfl)) (fun _ => rfl) (by decide)) da_nil rfl) (by decide) (by decide) rfl rfl) (fun _ => rfl))) (ds_cons (ds_ret de_bool) ds_nil) ds_nil) (ds_cons (ds_ret (de_callG ((ok_is_begin T).mono (by decide : 4 ≤ 5)) hr hG g_is_party_is_begin T.g_is_begin T.f_is_begin.kp (bi_is_begin T) tk (da_cons (de_ix rfl (de_v (i := 0) rfl v_is_party_value) de_int (fun _ _ => rfl)) (da_cons (de_ix rfl (de_v (i := 0) rfl v_is_party_value) de_int (fun _ _ => rfl)) (da_cons (de_v (i := 1) rfl v_is_party_many) da_nil rfl) rfl) rfl) (alen_cons (alen_cons (alen_cons alen_nil))) (by decide) rfl rfl)) ds_nil)))
/-! ### product_of -/
abbrev N_product_of : List Str := ["team", "found", "party"]
theorem sc_product_of : FnScope N_product_of ["team"] (defScope st_product_of) := ⟨rfl, rfl, rfl, by decide +kernel, rfl, by decide +kernel, by decide +kernel⟩
theorem v_product_of_found : Vis (defScope st_product_of) ("found" : Str) := .inl (by decide +kernel)
theorem v_product_of_team : Vis (defScope st_product_of) ("team" : Str) := .inl (by decide +kernel)
theorem o_product_of_party : Loc (defScope st_product_of) ("party" : Str) := .inl (by decide +kernel)
theorem v_product_of_party : Vis (defScope st_product_of) ("party" : Str) := .inl (by decide +kernel)
theorem o_product_of_found : Loc (defScope st_product_of) ("found" : Str) := .inl (by decide +kernel)
def m_product_of : M Fl := (sCons (sSetX 1 (eLit (.int (1)))) (sCons (sFor (iDat (eOp2 ixD (eVar 0) (eLit (.int (1))))) (.nm 2) (sCons (sAug 1 imulD (eOp2 ixD (eVar 2) (eLit (.int (0))))) sNil)) (sCons (sRet (eVar 1)) sNil)))
def F_product_of : Fsp := runF false 3 m_product_of
theorem bi_product_of (T : Txt Pg K mg a d) : Binds K d.product_of ["team"] [] := T.f_product_of.binds fun _ _ _ _ _ _ us hl => match us, hl with | [_], _ => rfl
theorem ok_product_of (T : Txt Pg K mg a d) : FnOkG Pg wd K mg base (L2.CX Pg wd) 1 a.product_of d.product_of ["team"] (spD ⟨K, mg⟩ false 1 F_product_of) :=
  fn_okG (k := 0) T.f_product_of sc_product_of fun cdv A outer s H E hr hG tk =>
    (ds_cons (ds_setX (i := 1) sc_product_of.nd rfl o_product_of_found de_int rfl (.inl rfl)) (ds_cons (ds_for PassesOwn.leaving rfl (di_dat rfl (de_ix rfl (de_v (i := 0) rfl v_product_of_team) de_int (fun _ _ => rfl))) (dg_name (i := 2) sc_product_of.nd rfl o_product_of_party ((.inl rfl))) (ds_cons (ds_aug (i := 1) iop_mul opd_imul sc_product_of.nd rfl o_product_of_found (de_ix rfl (de_v (i := 2) rfl v_product_of_party) de_int (fun _ _ => rfl)) (.inl rfl)) ds_nil) (fun _ => rfl)) (ds_cons (ds_ret (de_v (i := 1) rfl v_product_of_found)) ds_nil)))
/-! ### is_a_team -/
abbrev N_is_a_team : List Str := ["value", "party"]
theorem sc_is_a_team : FnScope N_is_a_team ["value"] (defScope st_is_a_team) := ⟨rfl, rfl, rfl, by decide +kernel, rfl, by decide +kernel, by decide +kernel⟩
abbrev bs_is_a_team_b1 : Scope := { kind := .function, names := [(PySem.Str.ofString ".0", .local), (PySem.Str.ofString "party", .local), (PySem.Str.ofString "is_party", .globalImplicit), (PySem.Str.ofString "len", .globalImplicit), (PySem.Str.ofString "value", .free)], isGenerator := false, isCoroutine := false, more := [] }
theorem bk_is_a_team_b1 : blkC N_is_a_team (defScope st_is_a_team) bs_is_a_team_b1 [("party", 1)] = true := by decide +kernel
theorem v_is_a_team_value : Vis (defScope st_is_a_team) ("value" : Str) := .inr (.inl (by decide +kernel))
theorem g_is_a_team_product_of : ((defScope st_is_a_team)).names.lookup ("product_of" : Str) = some .globalImplicit := by decide +kernel
theorem g_is_a_team_MOST_PRODUCT : ((defScope st_is_a_team)).names.lookup ("MOST_PRODUCT" : Str) = some .globalImplicit := by decide +kernel
theorem g_is_a_team_all : ((defScope st_is_a_team)).names.lookup ("all" : Str) = some .globalImplicit := by decide +kernel
theorem o_is_a_team_b1_party : Loc (relS bs_is_a_team_b1 (defScope st_is_a_team)) ("party" : Str) := .inl (by decide +kernel)
theorem l_is_a_team_b1_party : ((relS bs_is_a_team_b1 (defScope st_is_a_team))).names.lookup ("party" : Str) = some .local := by decide +kernel
theorem g_is_a_team_b1_len : ((relS bs_is_a_team_b1 (defScope st_is_a_team))).names.lookup ("len" : Str) = some .globalImplicit := by decide +kernel
theorem v_is_a_team_b1_value : Vis (relS bs_is_a_team_b1 (defScope st_is_a_team)) ("value" : Str) := .inr (.inl (by decide +kernel))
theorem v_is_a_team_b1_party : Vis (relS bs_is_a_team_b1 (defScope st_is_a_team)) ("party" : Str) := .inl (by decide +kernel)
theorem g_is_a_team_b1_is_party : ((relS bs_is_a_team_b1 (defScope st_is_a_team))).names.lookup ("is_party" : Str) = some .globalImplicit := by decide +kernel
theorem g_is_a_team_is_tuple : ((defScope st_is_a_team)).names.lookup ("is_tuple" : Str) = some .globalImplicit := by decide +kernel
theorem g_is_a_team_are_timers : ((defScope st_is_a_team)).names.lookup ("are_timers" : Str) = some .globalImplicit := by decide +kernel
theorem g_is_a_team_MOST_PARTIES : ((defScope st_is_a_team)).names.lookup ("MOST_PARTIES" : Str) = some .globalImplicit := by decide +kernel
def m_is_a_team : M Fl := (sCons (sIf (orT (notT (eB (eCall false F_is_tuple (aCons (eVar 0) (aCons (eLit (.int (2))) (aCons (eLit (.int (2))) aNil)))))) (orT (notT (eB (eCall false F_are_timers (aCons (eOp2 ixD (eVar 0) (eLit (.int (0)))) aNil)))) (notT (eB (eCall false F_is_tuple (aCons (eOp2 ixD (eVar 0) (eLit (.int (1)))) (aCons (eLit (.int (1))) (aCons (eLit (.int (4))) aNil)))))))) (sCons (sRet (eLit (.bool false))) sNil) sNil) (sCons (sIf (notT (eB (eCB allF (aCons (eLc (iDat (eOp2 ixD (eVar 0) (eLit (.int (1))))) (.nm 1) (M.ok true) (eCall false F_is_party (aCons (eVar 1) (aCons (eCB lenF (aCons (eOp2 ixD (eVar 0) (eLit (.int (0)))) aNil)) aNil))) [1]) aNil)))) (sCons (sRet (eLit (.bool false))) sNil) sNil) (sCons (sRet (eOp2 leD (eCall false F_product_of (aCons (eVar 0) aNil)) (eLit (.int (400))))) sNil)))
def F_is_a_team : Fsp := runF false 2 m_is_a_team
theorem bi_is_a_team (T : Txt Pg K mg a d) : Binds K d.is_a_team ["value"] [] := T.f_is_a_team.binds fun _ _ _ _ _ _ us hl => match us, hl with | [_], _ => rfl
theorem ok_is_a_team (T : Txt Pg K mg a d) : FnOkG Pg wd K mg base (L2.CX Pg wd) 7 a.is_a_team d.is_a_team ["value"] (spD ⟨K, mg⟩ false 1 F_is_a_team) :=
  fn_okG (k := 6) T.f_is_a_team sc_is_a_team fun cdv A outer s H E hr hG tk =>
    (ds_cons (ds_if (PW.fin (dw_or (dt_not (dt_val (de_callG ((ok_is_tuple T).mono (by decide : 1 ≤ 6)) hr hG g_is_a_team_is_tuple T.g_is_tuple T.f_is_tuple.kp (bi_is_tuple T) tk (da_cons (de_v (i := 0) rfl v_is_a_team_value) (da_cons de_int (da_cons de_int da_nil rfl) rfl) rfl) (alen_cons (alen_cons (alen_cons alen_nil))) (by decide) rfl rfl) (fun _ => rfl))) (dw_or (dt_not (dt_val (de_callG ((ok_are_timers T).mono (by decide : 4 ≤ 6)) hr hG g_is_a_team_are_timers T.g_are_timers T.f_are_timers.kp (bi_are_timers T) tk (da_cons (de_ix rfl (de_v (i := 0) rfl v_is_a_team_value) de_int (fun _ _ => rfl)) da_nil rfl) (alen_cons alen_nil) (by decide) rfl rfl) (fun _ => rfl))) (pw_or1 (dt_not (dt_val (de_callG ((ok_is_tuple T).mono (by decide : 1 ≤ 6)) hr hG g_is_a_team_is_tuple T.g_is_tuple T.f_is_tuple.kp (bi_is_tuple T) tk (da_cons (de_ix rfl (de_v (i := 0) rfl v_is_a_team_value) de_int (fun _ _ => rfl)) (da_cons de_int (da_cons (de_glob (v := (.int (4))) g_is_a_team_MOST_PARTIES T.c_MOST_PARTIES.choose_spec ⟨_, rfl⟩ (fun _ => .int _)) da_nil rfl) rfl) rfl) (alen_cons (alen_cons (alen_cons alen_nil))) (by decide) rfl rfl) (fun _ => rfl))))))) (ds_cons (ds_ret de_bool) ds_nil) ds_nil) (ds_cons (ds_if (dt_not (dt_val (de_cb (cr_all rfl) (cbd_all rfl) g_is_a_team_all T.b_all (by decide +kernel) (da_cons (de_lc rfl sc_is_a_team.nd (di_dat rfl (de_ix rfl (de_v (i := 0) rfl v_is_a_team_value) de_int (fun _ _ => rfl))) (own := [("party", 1)]) (blkOk_by bk_is_a_team_b1) (fun _ _ _ _ _ => (dg_name (i := 1) sc_is_a_team.nd rfl o_is_a_team_b1_party (.inr l_is_a_team_b1_party))) (fun _ _ _ _ _ => dts_nil) (fun _ _ _ _ _ => (de_callG ((ok_is_party T).mono (by decide : 6 ≤ 6)) hr hG g_is_a_team_b1_is_party T.g_is_party T.f_is_party.kp (bi_is_party T) takes0 (da_cons (de_v (i := 1) rfl v_is_a_team_b1_party) (da_cons (de_cb call_len_seq (cbd_len rfl) g_is_a_team_b1_len T.b_len (by decide +kernel) (da_cons (de_ix rfl (de_v (i := 0) rfl v_is_a_team_b1_value) de_int (fun _ _ => rfl)) da_nil rfl) (by decide) (by decide) rfl rfl) da_nil rfl) rfl) (alen_cons (alen_cons alen_nil)) (by decide) rfl rfl)) (fun _ => rfl) (by decide)) da_nil rfl) (by decide) (by decide) rfl rfl) (fun _ => rfl))) (ds_cons (ds_ret de_bool) ds_nil) ds_nil) (ds_cons (ds_ret (de_cmp op_le opd_le (de_callG ((ok_product_of T).mono (by decide : 1 ≤ 6)) hr hG g_is_a_team_product_of T.g_product_of T.f_product_of.kp (bi_product_of T) tk (da_cons (de_v (i := 0) rfl v_is_a_team_value) da_nil rfl) (alen_cons alen_nil) (by decide) rfl rfl) (de_glob (v := (.int (400))) g_is_a_team_MOST_PRODUCT T.c_MOST_PRODUCT.choose_spec ⟨_, rfl⟩ (fun _ => .int _)) rfl)) ds_nil)))
/-! ### need_team -/
abbrev N_need_team : List Str := ["team"]
theorem sc_need_team : FnScope N_need_team ["team"] (defScope st_need_team) := ⟨rfl, rfl, rfl, by decide +kernel, rfl, by decide +kernel, by decide +kernel⟩
theorem v_need_team_team : Vis (defScope st_need_team) ("team" : Str) := .inl (by decide +kernel)
theorem g_need_team_is_a_team : ((defScope st_need_team)).names.lookup ("is_a_team" : Str) = some .globalImplicit := by decide +kernel
theorem g_need_team_anew : ((defScope st_need_team)).names.lookup ("anew" : Str) = some .globalImplicit := by decide +kernel
theorem g_need_team_InvalidTeam : ((defScope st_need_team)).names.lookup ("InvalidTeam" : Str) = some .globalImplicit := by decide +kernel
def m_need_team : M Fl := (sCons (sIf (notT (eB (eCall false F_is_a_team (aCons (eVar 0) aNil)))) (sCons (sRaise "InvalidTeam" (eCall false (F_anew 8) (aCons (eVar 0) aNil))) sNil) sNil) sNil)
def F_need_team : Fsp := runF false 1 m_need_team
theorem bi_need_team (T : Txt Pg K mg a d) : Binds K d.need_team ["team"] [] := T.f_need_team.binds fun _ _ _ _ _ _ us hl => match us, hl with | [_], _ => rfl
theorem ok_need_team (T : Txt Pg K mg a d) : FnOkG Pg wd K mg base (L2.CX Pg wd) 10 a.need_team d.need_team ["team"] (spD ⟨K, mg⟩ false 1 F_need_team) :=
  fn_okG (k := 9) T.f_need_team sc_need_team fun cdv A outer s H E hr hG tk =>
    (ds_cons (ds_if (dt_not (dt_val (de_callG ((ok_is_a_team T).mono (by decide : 7 ≤ 9)) hr hG g_need_team_is_a_team T.g_is_a_team T.f_is_a_team.kp (bi_is_a_team T) tk (da_cons (de_v (i := 0) rfl v_need_team_team) da_nil rfl) (alen_cons alen_nil) (by decide) rfl rfl) (fun _ => rfl))) (ds_cons (ds_raise (x := "InvalidTeam") (k := 0) T.le T.lc_InvalidTeam T.k_InvalidTeam T.k_InvalidTeam rfl (hr.mono (by decide : 1 ≤ 9)) tk (de_callG ((ok_anew T 8).mono (by decide : 9 ≤ 9)) hr hG g_need_team_anew T.g_anew T.f_anew.kp (bi_anew T) tk (da_cons (de_v (i := 0) rfl v_need_team_team) da_nil rfl) (alen_cons alen_nil) (by decide) rfl rfl) g_need_team_InvalidTeam (by decide) rfl rfl) ds_nil) ds_nil) ds_nil)
/-! ### index_of -/
abbrev N_index_of : List Str := ["team", "places", "found", "party", "place"]
theorem sc_index_of : FnScope N_index_of ["team", "places"] (defScope st_index_of) := ⟨rfl, rfl, rfl, by decide +kernel, rfl, by decide +kernel, by decide +kernel⟩
theorem v_index_of_found : Vis (defScope st_index_of) ("found" : Str) := .inl (by decide +kernel)
theorem v_index_of_places : Vis (defScope st_index_of) ("places" : Str) := .inl (by decide +kernel)
theorem v_index_of_team : Vis (defScope st_index_of) ("team" : Str) := .inl (by decide +kernel)
theorem g_index_of_zip : ((defScope st_index_of)).names.lookup ("zip" : Str) = some .globalImplicit := by decide +kernel
theorem o_index_of_place : Loc (defScope st_index_of) ("place" : Str) := .inl (by decide +kernel)
theorem o_index_of_party : Loc (defScope st_index_of) ("party" : Str) := .inl (by decide +kernel)
theorem v_index_of_party : Vis (defScope st_index_of) ("party" : Str) := .inl (by decide +kernel)
theorem v_index_of_place : Vis (defScope st_index_of) ("place" : Str) := .inl (by decide +kernel)
theorem o_index_of_found : Loc (defScope st_index_of) ("found" : Str) := .inl (by decide +kernel)
def m_index_of : M Fl := (sCons (sSetX 2 (eLit (.int (0)))) (sCons (sFor (iZip (aCons (eOp2 ixD (eVar 0) (eLit (.int (1)))) (aCons (eVar 1) aNil))) (.tp [3, 4]) (sCons (sSetX 2 (eOp2 addD (eOp2 mulX (eVar 2) (eOp2 ixD (eVar 3) (eLit (.int (0))))) (eVar 4))) sNil)) (sCons (sRet (eVar 2)) sNil)))
def F_index_of : Fsp := runF false 5 m_index_of
theorem bi_index_of (T : Txt Pg K mg a d) : Binds K d.index_of ["team", "places"] [] := T.f_index_of.binds fun _ _ _ _ _ _ us hl => match us, hl with | [_, _], _ => rfl
theorem ok_index_of (T : Txt Pg K mg a d) : FnOkG Pg wd K mg base (L2.CX Pg wd) 1 a.index_of d.index_of ["team", "places"] (spD ⟨K, mg⟩ false 2 F_index_of) :=
  fn_okG (k := 0) T.f_index_of sc_index_of fun cdv A outer s H E hr hG tk =>
    (ds_cons (ds_setX (i := 2) sc_index_of.nd rfl o_index_of_found de_int rfl (.inl rfl)) (ds_cons (ds_for PassesOwn.leaving rfl (di_zip rfl g_index_of_zip T.b_zip (da_cons (de_ix rfl (de_v (i := 0) rfl v_index_of_team) de_int (fun _ _ => rfl)) (da_cons (de_v (i := 1) rfl v_index_of_places) da_nil rfl) rfl) rfl rfl) (dg_tup rfl rfl (dgs_cons (i := 3) sc_index_of.nd rfl o_index_of_party ((.inl rfl)) (dgs_cons (i := 4) sc_index_of.nd rfl o_index_of_place ((.inl rfl)) dgs_nil rfl) rfl) rfl rfl) (ds_cons (ds_setX (i := 2) sc_index_of.nd rfl o_index_of_found (de_bin op_addA (opd_add rfl) (de_bin op_mulA (opd_mulA rfl) (de_v (i := 2) rfl v_index_of_found) (de_ix rfl (de_v (i := 3) rfl v_index_of_party) de_int (fun _ _ => rfl))) (de_v (i := 4) rfl v_index_of_place)) rfl (.inl rfl)) ds_nil) (fun _ => rfl)) (ds_cons (ds_ret (de_v (i := 2) rfl v_index_of_found)) ds_nil)))
/-! ### places_of -/
abbrev N_places_of : List Str := ["team", "place", "found", "party"]
theorem sc_places_of : FnScope N_places_of ["team", "place"] (defScope st_places_of) := ⟨rfl, rfl, rfl, by decide +kernel, rfl, by decide +kernel, by decide +kernel⟩
theorem g_places_of_tuple : ((defScope st_places_of)).names.lookup ("tuple" : Str) = some .globalImplicit := by decide +kernel
theorem v_places_of_found : Vis (defScope st_places_of) ("found" : Str) := .inl (by decide +kernel)
theorem v_places_of_team : Vis (defScope st_places_of) ("team" : Str) := .inl (by decide +kernel)
theorem o_places_of_party : Loc (defScope st_places_of) ("party" : Str) := .inl (by decide +kernel)
theorem v_places_of_party : Vis (defScope st_places_of) ("party" : Str) := .inl (by decide +kernel)
theorem o_places_of_place : Loc (defScope st_places_of) ("place" : Str) := .inl (by decide +kernel)
theorem v_places_of_place : Vis (defScope st_places_of) ("place" : Str) := .inl (by decide +kernel)
theorem o_places_of_found : Loc (defScope st_places_of) ("found" : Str) := .inl (by decide +kernel)
def m_places_of : M Fl := (sCons (sSetN 2 (nLst aNil)) (sCons (sFor (iDat (eOp1 revX (eOp2 ixD (eVar 0) (eLit (.int (1)))))) (.nm 3) (sCons (sExpr (eAp (eVar 2) (eOp2 modD (eVar 1) (eOp2 ixD (eVar 3) (eLit (.int (0))))))) (sCons (sAug 1 fdivD (eOp2 ixD (eVar 3) (eLit (.int (0))))) sNil))) (sCons (sRet (eCB tupleF (aCons (eOp1 revX (eVar 2)) aNil))) sNil)))
def F_places_of : Fsp := runF false 4 m_places_of
theorem bi_places_of (T : Txt Pg K mg a d) : Binds K d.places_of ["team", "place"] [] := T.f_places_of.binds fun _ _ _ _ _ _ us hl => match us, hl with | [_, _], _ => rfl
theorem ok_places_of (T : Txt Pg K mg a d) : FnOkG Pg wd K mg base (L2.CX Pg wd) 1 a.places_of d.places_of ["team", "place"] (spD ⟨K, mg⟩ false 2 F_places_of) :=
  fn_okG (k := 0) T.f_places_of sc_places_of fun cdv A outer s H E hr hG tk =>
    (ds_cons (ds_setN (i := 2) sc_places_of.nd rfl o_places_of_found (dn_lst da_nil) rfl (.inl rfl)) (ds_cons (ds_for PassesOwn.leaving rfl (di_dat rfl (de_rev rfl (de_ix rfl (de_v (i := 0) rfl v_places_of_team) de_int (fun _ _ => rfl)))) (dg_name (i := 3) sc_places_of.nd rfl o_places_of_party ((.inl rfl))) (ds_cons (ds_expr (de_app rfl (de_v (i := 2) rfl v_places_of_found) (de_bin op_mod opd_mod (de_v (i := 1) rfl v_places_of_place) (de_ix rfl (de_v (i := 3) rfl v_places_of_party) de_int (fun _ _ => rfl))) rfl rfl rfl rfl rfl) rfl) (ds_cons (ds_aug (i := 1) iop_fdivW opd_fdiv sc_places_of.nd rfl o_places_of_place (de_ix rfl (de_v (i := 3) rfl v_places_of_party) de_int (fun _ _ => rfl)) (.inl rfl)) ds_nil)) (fun _ => rfl)) (ds_cons (ds_ret (de_cty call_tuple_of (cbd_tuple rfl) g_places_of_tuple T.b_tuple (by decide +kernel) (da_cons (de_rev rfl (de_v (i := 2) rfl v_places_of_found)) da_nil rfl) (by decide) (by decide) rfl rfl)) ds_nil)))
/-! ### are_party_places -/
abbrev N_are_party_places : List Str := ["team", "value", "many", "place", "party"]
theorem sc_are_party_places : FnScope N_are_party_places ["team", "value"] (defScope st_are_party_places) := ⟨rfl, rfl, rfl, by decide +kernel, rfl, by decide +kernel, by decide +kernel⟩
abbrev bs_are_party_places_b1 : Scope := { kind := .function, names := [(PySem.Str.ofString ".0", .local), (PySem.Str.ofString "place", .local), (PySem.Str.ofString "party", .local), (PySem.Str.ofString "is_between", .globalImplicit)], isGenerator := false, isCoroutine := false, more := [] }
theorem bk_are_party_places_b1 : blkC N_are_party_places (defScope st_are_party_places) bs_are_party_places_b1 [("place", 3), ("party", 4)] = true := by decide +kernel
theorem v_are_party_places_many : Vis (defScope st_are_party_places) ("many" : Str) := .inl (by decide +kernel)
theorem v_are_party_places_value : Vis (defScope st_are_party_places) ("value" : Str) := .inl (by decide +kernel)
theorem g_are_party_places_is_tuple : ((defScope st_are_party_places)).names.lookup ("is_tuple" : Str) = some .globalImplicit := by decide +kernel
theorem g_are_party_places_all : ((defScope st_are_party_places)).names.lookup ("all" : Str) = some .globalImplicit := by decide +kernel
theorem v_are_party_places_team : Vis (defScope st_are_party_places) ("team" : Str) := .inl (by decide +kernel)
theorem g_are_party_places_zip : ((defScope st_are_party_places)).names.lookup ("zip" : Str) = some .globalImplicit := by decide +kernel
theorem o_are_party_places_b1_party : Loc (relS bs_are_party_places_b1 (defScope st_are_party_places)) ("party" : Str) := .inl (by decide +kernel)
theorem l_are_party_places_b1_party : ((relS bs_are_party_places_b1 (defScope st_are_party_places))).names.lookup ("party" : Str) = some .local := by decide +kernel
theorem o_are_party_places_b1_place : Loc (relS bs_are_party_places_b1 (defScope st_are_party_places)) ("place" : Str) := .inl (by decide +kernel)
theorem l_are_party_places_b1_place : ((relS bs_are_party_places_b1 (defScope st_are_party_places))).names.lookup ("place" : Str) = some .local := by decide +kernel
theorem v_are_party_places_b1_party : Vis (relS bs_are_party_places_b1 (defScope st_are_party_places)) ("party" : Str) := .inl (by decide +kernel)
theorem v_are_party_places_b1_place : Vis (relS bs_are_party_places_b1 (defScope st_are_party_places)) ("place" : Str) := .inl (by decide +kernel)
theorem g_are_party_places_b1_is_between : ((relS bs_are_party_places_b1 (defScope st_are_party_places))).names.lookup ("is_between" : Str) = some .globalImplicit := by decide +kernel
theorem g_are_party_places_len : ((defScope st_are_party_places)).names.lookup ("len" : Str) = some .globalImplicit := by decide +kernel
theorem o_are_party_places_many : Loc (defScope st_are_party_places) ("many" : Str) := .inl (by decide +kernel)
def m_are_party_places : M Fl := (sCons (sSetX 2 (eCB lenF (aCons (eOp2 ixD (eVar 0) (eLit (.int (1)))) aNil))) (sCons (sRet (andV (eCall false F_is_tuple (aCons (eVar 1) (aCons (eVar 2) (aCons (eVar 2) aNil)))) (eCB allF (aCons (eLc (iZip (aCons (eVar 1) (aCons (eOp2 ixD (eVar 0) (eLit (.int (1)))) aNil))) (.tp [3, 4]) (M.ok true) (eCall false F_is_between (aCons (eVar 3) (aCons (eLit (.int (0))) (aCons (eOp2 subD (eOp2 ixD (eVar 4) (eLit (.int (0)))) (eLit (.int (1)))) aNil)))) [3, 4]) aNil)))) sNil))
def F_are_party_places : Fsp := runF false 5 m_are_party_places
theorem bi_are_party_places (T : Txt Pg K mg a d) : Binds K d.are_party_places ["team", "value"] [] := T.f_are_party_places.binds fun _ _ _ _ _ _ us hl => match us, hl with | [_, _], _ => rfl
theorem ok_are_party_places (T : Txt Pg K mg a d) : FnOkG Pg wd K mg base (L2.CX Pg wd) 3 a.are_party_places d.are_party_places ["team", "value"] (spD ⟨K, mg⟩ false 2 F_are_party_places) :=
  fn_okG (k := 2) T.f_are_party_places sc_are_party_places fun cdv A outer s H E hr hG tk =>
    (ds_cons (ds_setX (i := 2) sc_are_party_places.nd rfl o_are_party_places_many (de_cb call_len_seq (cbd_len rfl) g_are_party_places_len T.b_len (by decide +kernel) (da_cons (de_ix rfl (de_v (i := 0) rfl v_are_party_places_team) de_int (fun _ _ => rfl)) da_nil rfl) (by decide) (by decide) rfl rfl) rfl (.inl rfl)) (ds_cons (ds_ret (de_and (de_callG ((ok_is_tuple T).mono (by decide : 1 ≤ 2)) hr hG g_are_party_places_is_tuple T.g_is_tuple T.f_is_tuple.kp (bi_is_tuple T) tk (da_cons (de_v (i := 1) rfl v_are_party_places_value) (da_cons (de_v (i := 2) rfl v_are_party_places_many) (da_cons (de_v (i := 2) rfl v_are_party_places_many) da_nil rfl) rfl) rfl) (alen_cons (alen_cons (alen_cons alen_nil))) (by decide) rfl rfl) (pe_one (de_cb (cr_all rfl) (cbd_all rfl) g_are_party_places_all T.b_all (by decide +kernel) (da_cons (de_lc rfl sc_are_party_places.nd (di_zip rfl g_are_party_places_zip T.b_zip (da_cons (de_v (i := 1) rfl v_are_party_places_value) (da_cons (de_ix rfl (de_v (i := 0) rfl v_are_party_places_team) de_int (fun _ _ => rfl)) da_nil rfl) rfl) rfl rfl) (own := [("place", 3), ("party", 4)]) (blkOk_by bk_are_party_places_b1) (fun _ _ _ _ _ => (dg_tup rfl rfl (dgs_cons (i := 3) sc_are_party_places.nd rfl o_are_party_places_b1_place (.inr l_are_party_places_b1_place) (dgs_cons (i := 4) sc_are_party_places.nd rfl o_are_party_places_b1_party (.inr l_are_party_places_b1_party) dgs_nil rfl) rfl) rfl rfl)) (fun _ _ _ _ _ => dts_nil) (fun _ _ _ _ _ => (de_callG ((ok_is_between T).mono (by decide : 2 ≤ 2)) hr hG g_are_party_places_b1_is_between T.g_is_between T.f_is_between.kp (bi_is_between T) takes0 (da_cons (de_v (i := 3) rfl v_are_party_places_b1_place) (da_cons de_int (da_cons (de_bin op_sub opd_sub (de_ix rfl (de_v (i := 4) rfl v_are_party_places_b1_party) de_int (fun _ _ => rfl)) de_int) da_nil rfl) rfl) rfl) (alen_cons (alen_cons (alen_cons alen_nil))) (by decide) rfl rfl)) (fun _ => rfl) (by decide)) da_nil rfl) (by decide) (by decide) rfl rfl)))) ds_nil))
/-! ### place_of -/
abbrev N_place_of : List Str := ["team", "places"]
theorem sc_place_of : FnScope N_place_of ["team", "places"] (defScope st_place_of) := ⟨rfl, rfl, rfl, by decide +kernel, rfl, by decide +kernel, by decide +kernel⟩
theorem v_place_of_places : Vis (defScope st_place_of) ("places" : Str) := .inl (by decide +kernel)
theorem v_place_of_team : Vis (defScope st_place_of) ("team" : Str) := .inl (by decide +kernel)
theorem g_place_of_index_of : ((defScope st_place_of)).names.lookup ("index_of" : Str) = some .globalImplicit := by decide +kernel
theorem g_place_of_are_party_places : ((defScope st_place_of)).names.lookup ("are_party_places" : Str) = some .globalImplicit := by decide +kernel
theorem g_place_of_anew : ((defScope st_place_of)).names.lookup ("anew" : Str) = some .globalImplicit := by decide +kernel
theorem g_place_of_InvalidPlaces : ((defScope st_place_of)).names.lookup ("InvalidPlaces" : Str) = some .globalImplicit := by decide +kernel
theorem g_place_of_need_team : ((defScope st_place_of)).names.lookup ("need_team" : Str) = some .globalImplicit := by decide +kernel
def m_place_of : M Fl := (sCons (sExpr (eCall false F_need_team (aCons (eVar 0) aNil))) (sCons (sIf (notT (eB (eCall false F_are_party_places (aCons (eVar 0) (aCons (eVar 1) aNil))))) (sCons (sRaise "InvalidPlaces" (eCall false (F_anew 8) (aCons (eVar 1) aNil))) sNil) sNil) (sCons (sRet (eCall false F_index_of (aCons (eVar 0) (aCons (eVar 1) aNil)))) sNil)))
def F_place_of : Fsp := runF false 2 m_place_of
theorem bi_place_of (T : Txt Pg K mg a d) : Binds K d.place_of ["team", "places"] [] := T.f_place_of.binds fun _ _ _ _ _ _ us hl => match us, hl with | [_, _], _ => rfl
theorem ok_place_of (T : Txt Pg K mg a d) : FnOkG Pg wd K mg base (L2.CX Pg wd) 11 a.place_of d.place_of ["team", "places"] (spD ⟨K, mg⟩ false 2 F_place_of) :=
  fn_okG (k := 10) T.f_place_of sc_place_of fun cdv A outer s H E hr hG tk =>
    (ds_cons (ds_expr (de_callG ((ok_need_team T).mono (by decide : 10 ≤ 10)) hr hG g_place_of_need_team T.g_need_team T.f_need_team.kp (bi_need_team T) tk (da_cons (de_v (i := 0) rfl v_place_of_team) da_nil rfl) (alen_cons alen_nil) (by decide) rfl rfl) rfl) (ds_cons (ds_if (dt_not (dt_val (de_callG ((ok_are_party_places T).mono (by decide : 3 ≤ 10)) hr hG g_place_of_are_party_places T.g_are_party_places T.f_are_party_places.kp (bi_are_party_places T) tk (da_cons (de_v (i := 0) rfl v_place_of_team) (da_cons (de_v (i := 1) rfl v_place_of_places) da_nil rfl) rfl) (alen_cons (alen_cons alen_nil)) (by decide) rfl rfl) (fun _ => rfl))) (ds_cons (ds_raise (x := "InvalidPlaces") (k := 0) T.le T.lc_InvalidPlaces T.k_InvalidPlaces T.k_InvalidPlaces rfl (hr.mono (by decide : 1 ≤ 10)) tk (de_callG ((ok_anew T 8).mono (by decide : 9 ≤ 10)) hr hG g_place_of_anew T.g_anew T.f_anew.kp (bi_anew T) tk (da_cons (de_v (i := 1) rfl v_place_of_places) da_nil rfl) (alen_cons alen_nil) (by decide) rfl rfl) g_place_of_InvalidPlaces (by decide) rfl rfl) ds_nil) ds_nil) (ds_cons (ds_ret (de_callG ((ok_index_of T).mono (by decide : 1 ≤ 10)) hr hG g_place_of_index_of T.g_index_of T.f_index_of.kp (bi_index_of T) tk (da_cons (de_v (i := 0) rfl v_place_of_team) (da_cons (de_v (i := 1) rfl v_place_of_places) da_nil rfl) rfl) (alen_cons (alen_cons alen_nil)) (by decide) rfl rfl)) ds_nil)))
/-! ### places_at -/
abbrev N_places_at : List Str := ["team", "place"]
theorem sc_places_at : FnScope N_places_at ["team", "place"] (defScope st_places_at) := ⟨rfl, rfl, rfl, by decide +kernel, rfl, by decide +kernel, by decide +kernel⟩
theorem v_places_at_place : Vis (defScope st_places_at) ("place" : Str) := .inl (by decide +kernel)
theorem v_places_at_team : Vis (defScope st_places_at) ("team" : Str) := .inl (by decide +kernel)
theorem g_places_at_places_of : ((defScope st_places_at)).names.lookup ("places_of" : Str) = some .globalImplicit := by decide +kernel
theorem g_places_at_product_of : ((defScope st_places_at)).names.lookup ("product_of" : Str) = some .globalImplicit := by decide +kernel
theorem g_places_at_need_number : ((defScope st_places_at)).names.lookup ("need_number" : Str) = some .globalImplicit := by decide +kernel
theorem g_places_at_need_team : ((defScope st_places_at)).names.lookup ("need_team" : Str) = some .globalImplicit := by decide +kernel
def m_places_at : M Fl := (sCons (sExpr (eCall false F_need_team (aCons (eVar 0) aNil))) (sCons (sExpr (eCall false F_need_number (aCons (eVar 1) (aCons (eLit (.int (0))) (aCons (eOp2 subD (eCall false F_product_of (aCons (eVar 0) aNil)) (eLit (.int (1)))) aNil))))) (sCons (sRet (eCall false F_places_of (aCons (eVar 0) (aCons (eVar 1) aNil)))) sNil)))
def F_places_at : Fsp := runF false 2 m_places_at
theorem bi_places_at (T : Txt Pg K mg a d) : Binds K d.places_at ["team", "place"] [] := T.f_places_at.binds fun _ _ _ _ _ _ us hl => match us, hl with | [_, _], _ => rfl
theorem ok_places_at (T : Txt Pg K mg a d) : FnOkG Pg wd K mg base (L2.CX Pg wd) 11 a.places_at d.places_at ["team", "place"] (spD ⟨K, mg⟩ false 2 F_places_at) :=
  fn_okG (k := 10) T.f_places_at sc_places_at fun cdv A outer s H E hr hG tk =>
    (ds_cons (ds_expr (de_callG ((ok_need_team T).mono (by decide : 10 ≤ 10)) hr hG g_places_at_need_team T.g_need_team T.f_need_team.kp (bi_need_team T) tk (da_cons (de_v (i := 0) rfl v_places_at_team) da_nil rfl) (alen_cons alen_nil) (by decide) rfl rfl) rfl) (ds_cons (ds_expr (de_callG ((ok_need_number T).mono (by decide : 2 ≤ 10)) hr hG g_places_at_need_number T.g_need_number T.f_need_number.kp (bi_need_number T) tk (da_cons (de_v (i := 1) rfl v_places_at_place) (da_cons de_int (da_cons (de_bin op_sub opd_sub (de_callG ((ok_product_of T).mono (by decide : 1 ≤ 10)) hr hG g_places_at_product_of T.g_product_of T.f_product_of.kp (bi_product_of T) tk (da_cons (de_v (i := 0) rfl v_places_at_team) da_nil rfl) (alen_cons alen_nil) (by decide) rfl rfl) de_int) da_nil rfl) rfl) rfl) (alen_cons (alen_cons (alen_cons alen_nil))) (by decide) rfl rfl) rfl) (ds_cons (ds_ret (de_callG ((ok_places_of T).mono (by decide : 1 ≤ 10)) hr hG g_places_at_places_of T.g_places_of T.f_places_of.kp (bi_places_of T) tk (da_cons (de_v (i := 0) rfl v_places_at_team) (da_cons (de_v (i := 1) rfl v_places_at_place) da_nil rfl) rfl) (alen_cons (alen_cons alen_nil)) (by decide) rfl rfl)) ds_nil)))
/-! ### are_wanted -/
abbrev N_are_wanted : List Str := ["team", "value", "many", "own", "party"]
theorem sc_are_wanted : FnScope N_are_wanted ["team", "value"] (defScope st_are_wanted) := ⟨rfl, rfl, rfl, by decide +kernel, rfl, by decide +kernel, by decide +kernel⟩
abbrev bs_are_wanted_b1 : Scope := { kind := .function, names := [(PySem.Str.ofString ".0", .local), (PySem.Str.ofString "own", .local), (PySem.Str.ofString "party", .local), (PySem.Str.ofString "is_ascending", .globalImplicit)], isGenerator := false, isCoroutine := false, more := [] }
theorem bk_are_wanted_b1 : blkC N_are_wanted (defScope st_are_wanted) bs_are_wanted_b1 [("own", 3), ("party", 4)] = true := by decide +kernel
theorem g_are_wanted_all : ((defScope st_are_wanted)).names.lookup ("all" : Str) = some .globalImplicit := by decide +kernel
theorem v_are_wanted_team : Vis (defScope st_are_wanted) ("team" : Str) := .inl (by decide +kernel)
theorem v_are_wanted_value : Vis (defScope st_are_wanted) ("value" : Str) := .inl (by decide +kernel)
theorem g_are_wanted_zip : ((defScope st_are_wanted)).names.lookup ("zip" : Str) = some .globalImplicit := by decide +kernel
theorem o_are_wanted_b1_party : Loc (relS bs_are_wanted_b1 (defScope st_are_wanted)) ("party" : Str) := .inl (by decide +kernel)
theorem l_are_wanted_b1_party : ((relS bs_are_wanted_b1 (defScope st_are_wanted))).names.lookup ("party" : Str) = some .local := by decide +kernel
theorem o_are_wanted_b1_own : Loc (relS bs_are_wanted_b1 (defScope st_are_wanted)) ("own" : Str) := .inl (by decide +kernel)
theorem l_are_wanted_b1_own : ((relS bs_are_wanted_b1 (defScope st_are_wanted))).names.lookup ("own" : Str) = some .local := by decide +kernel
theorem v_are_wanted_b1_own : Vis (relS bs_are_wanted_b1 (defScope st_are_wanted)) ("own" : Str) := .inl (by decide +kernel)
theorem v_are_wanted_b1_party : Vis (relS bs_are_wanted_b1 (defScope st_are_wanted)) ("party" : Str) := .inl (by decide +kernel)
theorem g_are_wanted_b1_is_ascending : ((relS bs_are_wanted_b1 (defScope st_are_wanted))).names.lookup ("is_ascending" : Str) = some .globalImplicit := by decide +kernel
theorem v_are_wanted_many : Vis (defScope st_are_wanted) ("many" : Str) := .inl (by decide +kernel)
theorem g_are_wanted_is_tuple : ((defScope st_are_wanted)).names.lookup ("is_tuple" : Str) = some .globalImplicit := by decide +kernel
theorem g_are_wanted_len : ((defScope st_are_wanted)).names.lookup ("len" : Str) = some .globalImplicit := by decide +kernel
theorem o_are_wanted_many : Loc (defScope st_are_wanted) ("many" : Str) := .inl (by decide +kernel)
def m_are_wanted : M Fl := (sCons (sSetX 2 (eCB lenF (aCons (eOp2 ixD (eVar 0) (eLit (.int (1)))) aNil))) (sCons (sIf (notT (eB (eCall false F_is_tuple (aCons (eVar 1) (aCons (eVar 2) (aCons (eVar 2) aNil)))))) (sCons (sRet (eLit (.bool false))) sNil) sNil) (sCons (sRet (eCB allF (aCons (eLc (iZip (aCons (eVar 1) (aCons (eOp2 ixD (eVar 0) (eLit (.int (1)))) aNil))) (.tp [3, 4]) (M.ok true) (orV (eIsN false (eVar 3)) (eCall false F_is_ascending (aCons (eVar 3) (aCons (eLit (.int (0))) (aCons (eOp2 subD (eOp2 ixD (eVar 4) (eLit (.int (0)))) (eLit (.int (1)))) aNil))))) [3, 4]) aNil))) sNil)))
def F_are_wanted : Fsp := runF false 5 m_are_wanted
theorem bi_are_wanted (T : Txt Pg K mg a d) : Binds K d.are_wanted ["team", "value"] [] := T.f_are_wanted.binds fun _ _ _ _ _ _ us hl => match us, hl with | [_, _], _ => rfl
theorem ok_are_wanted (T : Txt Pg K mg a d) : FnOkG Pg wd K mg base (L2.CX Pg wd) 4 a.are_wanted d.are_wanted ["team", "value"] (spD ⟨K, mg⟩ false 2 F_are_wanted) :=
  fn_okG (k := 3) T.f_are_wanted sc_are_wanted fun cdv A outer s H E hr hG tk =>
    (ds_cons (ds_setX (i := 2) sc_are_wanted.nd rfl o_are_wanted_many (de_cb call_len_seq (cbd_len rfl) g_are_wanted_len T.b_len (by decide +kernel) (da_cons (de_ix rfl (de_v (i := 0) rfl v_are_wanted_team) de_int (fun _ _ => rfl)) da_nil rfl) (by decide) (by decide) rfl rfl) rfl (.inl rfl)) (ds_cons (ds_if (dt_not (dt_val (de_callG ((ok_is_tuple T).mono (by decide : 1 ≤ 3)) hr hG g_are_wanted_is_tuple T.g_is_tuple T.f_is_tuple.kp (bi_is_tuple T) tk (da_cons (de_v (i := 1) rfl v_are_wanted_value) (da_cons (de_v (i := 2) rfl v_are_wanted_many) (da_cons (de_v (i := 2) rfl v_are_wanted_many) da_nil rfl) rfl) rfl) (alen_cons (alen_cons (alen_cons alen_nil))) (by decide) rfl rfl) (fun _ => rfl))) (ds_cons (ds_ret de_bool) ds_nil) ds_nil) (ds_cons (ds_ret (de_cb (cr_all rfl) (cbd_all rfl) g_are_wanted_all T.b_all (by decide +kernel) (da_cons (de_lc rfl sc_are_wanted.nd (di_zip rfl g_are_wanted_zip T.b_zip (da_cons (de_v (i := 1) rfl v_are_wanted_value) (da_cons (de_ix rfl (de_v (i := 0) rfl v_are_wanted_team) de_int (fun _ _ => rfl)) da_nil rfl) rfl) rfl rfl) (own := [("own", 3), ("party", 4)]) (blkOk_by bk_are_wanted_b1) (fun _ _ _ _ _ => (dg_tup rfl rfl (dgs_cons (i := 3) sc_are_wanted.nd rfl o_are_wanted_b1_own (.inr l_are_wanted_b1_own) (dgs_cons (i := 4) sc_are_wanted.nd rfl o_are_wanted_b1_party (.inr l_are_wanted_b1_party) dgs_nil rfl) rfl) rfl rfl)) (fun _ _ _ _ _ => dts_nil) (fun _ _ _ _ _ => (de_or (de_isNx (de_v (i := 3) rfl v_are_wanted_b1_own)) (pe_one (de_callG ((ok_is_ascending T).mono (by decide : 3 ≤ 3)) hr hG g_are_wanted_b1_is_ascending T.g_is_ascending T.f_is_ascending.kp (bi_is_ascending T) takes0 (da_cons (de_v (i := 3) rfl v_are_wanted_b1_own) (da_cons de_int (da_cons (de_bin op_sub opd_sub (de_ix rfl (de_v (i := 4) rfl v_are_wanted_b1_party) de_int (fun _ _ => rfl)) de_int) da_nil rfl) rfl) rfl) (alen_cons (alen_cons (alen_cons alen_nil))) (by decide) rfl rfl)))) (fun _ => rfl) (by decide)) da_nil rfl) (by decide) (by decide) rfl rfl)) ds_nil)))
/-! ### goals_by -/
abbrev N_goals_by : List Str := ["team", "wanted", "found", "place", "at", "own"]
theorem sc_goals_by : FnScope N_goals_by ["team", "wanted"] (defScope st_goals_by) := ⟨rfl, rfl, rfl, by decide +kernel, rfl, by decide +kernel, by decide +kernel⟩
abbrev bs_goals_by_b1 : Scope := { kind := .function, names := [(PySem.Str.ofString ".0", .local), (PySem.Str.ofString "at", .local), (PySem.Str.ofString "own", .local)], isGenerator := false, isCoroutine := false, more := [] }
theorem bk_goals_by_b1 : blkC N_goals_by (defScope st_goals_by) bs_goals_by_b1 [("at", 4), ("own", 5)] = true := by decide +kernel
theorem g_goals_by_tuple : ((defScope st_goals_by)).names.lookup ("tuple" : Str) = some .globalImplicit := by decide +kernel
theorem v_goals_by_found : Vis (defScope st_goals_by) ("found" : Str) := .inl (by decide +kernel)
theorem v_goals_by_team : Vis (defScope st_goals_by) ("team" : Str) := .inl (by decide +kernel)
theorem g_goals_by_product_of : ((defScope st_goals_by)).names.lookup ("product_of" : Str) = some .globalImplicit := by decide +kernel
theorem g_goals_by_range : ((defScope st_goals_by)).names.lookup ("range" : Str) = some .globalImplicit := by decide +kernel
theorem o_goals_by_place : Loc (defScope st_goals_by) ("place" : Str) := .inl (by decide +kernel)
theorem g_goals_by_all : ((defScope st_goals_by)).names.lookup ("all" : Str) = some .globalImplicit := by decide +kernel
theorem v_goals_by_wanted : Vis (defScope st_goals_by) ("wanted" : Str) := .inl (by decide +kernel)
theorem v_goals_by_place : Vis (defScope st_goals_by) ("place" : Str) := .inl (by decide +kernel)
theorem g_goals_by_places_of : ((defScope st_goals_by)).names.lookup ("places_of" : Str) = some .globalImplicit := by decide +kernel
theorem g_goals_by_zip : ((defScope st_goals_by)).names.lookup ("zip" : Str) = some .globalImplicit := by decide +kernel
theorem o_goals_by_b1_own : Loc (relS bs_goals_by_b1 (defScope st_goals_by)) ("own" : Str) := .inl (by decide +kernel)
theorem l_goals_by_b1_own : ((relS bs_goals_by_b1 (defScope st_goals_by))).names.lookup ("own" : Str) = some .local := by decide +kernel
theorem o_goals_by_b1_at : Loc (relS bs_goals_by_b1 (defScope st_goals_by)) ("at" : Str) := .inl (by decide +kernel)
theorem l_goals_by_b1_at : ((relS bs_goals_by_b1 (defScope st_goals_by))).names.lookup ("at" : Str) = some .local := by decide +kernel
theorem v_goals_by_b1_own : Vis (relS bs_goals_by_b1 (defScope st_goals_by)) ("own" : Str) := .inl (by decide +kernel)
theorem v_goals_by_b1_at : Vis (relS bs_goals_by_b1 (defScope st_goals_by)) ("at" : Str) := .inl (by decide +kernel)
theorem o_goals_by_found : Loc (defScope st_goals_by) ("found" : Str) := .inl (by decide +kernel)
def m_goals_by : M Fl := (sCons (sSetN 2 (nLst aNil)) (sCons (sFor (iRng (aCons (eCall false F_product_of (aCons (eVar 0) aNil)) aNil)) (.nm 3) (sCons (sIf (eB (eCB allF (aCons (eLc (iZip (aCons (eCall false F_places_of (aCons (eVar 0) (aCons (eVar 3) aNil))) (aCons (eVar 1) aNil))) (.tp [4, 5]) (M.ok true) (orV (eIsN false (eVar 5)) (eOp2 inX (eVar 4) (eVar 5))) [4, 5]) aNil))) (sCons (sExpr (eAp (eVar 2) (eVar 3))) sNil) sNil) sNil)) (sCons (sRet (eCB tupleF (aCons (eVar 2) aNil))) sNil)))
def F_goals_by : Fsp := runF false 6 m_goals_by
theorem bi_goals_by (T : Txt Pg K mg a d) : Binds K d.goals_by ["team", "wanted"] [] := T.f_goals_by.binds fun _ _ _ _ _ _ us hl => match us, hl with | [_, _], _ => rfl
theorem ok_goals_by (T : Txt Pg K mg a d) : FnOkG Pg wd K mg base (L2.CX Pg wd) 2 a.goals_by d.goals_by ["team", "wanted"] (spD ⟨K, mg⟩ false 2 F_goals_by) :=
  fn_okG (k := 1) T.f_goals_by sc_goals_by fun cdv A outer s H E hr hG tk =>
    (ds_cons (ds_setN (i := 2) sc_goals_by.nd rfl o_goals_by_found (dn_lst da_nil) rfl (.inl rfl)) (ds_cons (ds_for PassesOwn.leaving rfl (di_rng1 (alen_cons alen_nil) g_goals_by_range T.b_range (da_cons (de_callG ((ok_product_of T).mono (by decide : 1 ≤ 1)) hr hG g_goals_by_product_of T.g_product_of T.f_product_of.kp (bi_product_of T) tk (da_cons (de_v (i := 0) rfl v_goals_by_team) da_nil rfl) (alen_cons alen_nil) (by decide) rfl rfl) da_nil rfl) rfl) (dg_name (i := 3) sc_goals_by.nd rfl o_goals_by_place ((.inl rfl))) (ds_cons (ds_if (dt_val (de_cb (cr_all rfl) (cbd_all rfl) g_goals_by_all T.b_all (by decide +kernel) (da_cons (de_lc rfl sc_goals_by.nd (di_zip rfl g_goals_by_zip T.b_zip (da_cons (de_callG ((ok_places_of T).mono (by decide : 1 ≤ 1)) hr hG g_goals_by_places_of T.g_places_of T.f_places_of.kp (bi_places_of T) tk (da_cons (de_v (i := 0) rfl v_goals_by_team) (da_cons (de_v (i := 3) rfl v_goals_by_place) da_nil rfl) rfl) (alen_cons (alen_cons alen_nil)) (by decide) rfl rfl) (da_cons (de_v (i := 1) rfl v_goals_by_wanted) da_nil rfl) rfl) rfl rfl) (own := [("at", 4), ("own", 5)]) (blkOk_by bk_goals_by_b1) (fun _ _ _ _ _ => (dg_tup rfl rfl (dgs_cons (i := 4) sc_goals_by.nd rfl o_goals_by_b1_at (.inr l_goals_by_b1_at) (dgs_cons (i := 5) sc_goals_by.nd rfl o_goals_by_b1_own (.inr l_goals_by_b1_own) dgs_nil rfl) rfl) rfl rfl)) (fun _ _ _ _ _ => dts_nil) (fun _ _ _ _ _ => (de_or (de_isNx (de_v (i := 5) rfl v_goals_by_b1_own)) (pe_one (de_cmp ((op_inD (room_u65 hr)).or op_in_seq) (opd_inX rfl) (de_v (i := 4) rfl v_goals_by_b1_at) (de_v (i := 5) rfl v_goals_by_b1_own) rfl)))) (fun _ => rfl) (by decide)) da_nil rfl) (by decide) (by decide) rfl rfl) (fun _ => rfl)) (ds_cons (ds_expr (de_app rfl (de_v (i := 2) rfl v_goals_by_found) (de_v (i := 3) rfl v_goals_by_place) rfl rfl rfl rfl rfl) rfl) ds_nil) ds_nil) ds_nil) (fun _ => rfl)) (ds_cons (ds_ret (de_cty call_tuple_of (cbd_tuple rfl) g_goals_by_tuple T.b_tuple (by decide +kernel) (da_cons (de_v (i := 2) rfl v_goals_by_found) da_nil rfl) (by decide) (by decide) rfl rfl)) ds_nil)))
/-! ### goals_with -/
abbrev N_goals_with : List Str := ["team", "wanted"]
theorem sc_goals_with : FnScope N_goals_with ["team", "wanted"] (defScope st_goals_with) := ⟨rfl, rfl, rfl, by decide +kernel, rfl, by decide +kernel, by decide +kernel⟩
theorem v_goals_with_wanted : Vis (defScope st_goals_with) ("wanted" : Str) := .inl (by decide +kernel)
theorem v_goals_with_team : Vis (defScope st_goals_with) ("team" : Str) := .inl (by decide +kernel)
theorem g_goals_with_goals_by : ((defScope st_goals_with)).names.lookup ("goals_by" : Str) = some .globalImplicit := by decide +kernel
theorem g_goals_with_are_wanted : ((defScope st_goals_with)).names.lookup ("are_wanted" : Str) = some .globalImplicit := by decide +kernel
theorem g_goals_with_anew : ((defScope st_goals_with)).names.lookup ("anew" : Str) = some .globalImplicit := by decide +kernel
theorem g_goals_with_InvalidPlaces : ((defScope st_goals_with)).names.lookup ("InvalidPlaces" : Str) = some .globalImplicit := by decide +kernel
theorem g_goals_with_need_team : ((defScope st_goals_with)).names.lookup ("need_team" : Str) = some .globalImplicit := by decide +kernel
def m_goals_with : M Fl := (sCons (sExpr (eCall false F_need_team (aCons (eVar 0) aNil))) (sCons (sIf (notT (eB (eCall false F_are_wanted (aCons (eVar 0) (aCons (eVar 1) aNil))))) (sCons (sRaise "InvalidPlaces" (eCall false (F_anew 8) (aCons (eVar 1) aNil))) sNil) sNil) (sCons (sRet (eCall false F_goals_by (aCons (eVar 0) (aCons (eVar 1) aNil)))) sNil)))
def F_goals_with : Fsp := runF false 2 m_goals_with
theorem bi_goals_with (T : Txt Pg K mg a d) : Binds K d.goals_with ["team", "wanted"] [] := T.f_goals_with.binds fun _ _ _ _ _ _ us hl => match us, hl with | [_, _], _ => rfl
theorem ok_goals_with (T : Txt Pg K mg a d) : FnOkG Pg wd K mg base (L2.CX Pg wd) 11 a.goals_with d.goals_with ["team", "wanted"] (spD ⟨K, mg⟩ false 2 F_goals_with) :=
  fn_okG (k := 10) T.f_goals_with sc_goals_with fun cdv A outer s H E hr hG tk =>
    (ds_cons (ds_expr (de_callG ((ok_need_team T).mono (by decide : 10 ≤ 10)) hr hG g_goals_with_need_team T.g_need_team T.f_need_team.kp (bi_need_team T) tk (da_cons (de_v (i := 0) rfl v_goals_with_team) da_nil rfl) (alen_cons alen_nil) (by decide) rfl rfl) rfl) (ds_cons (ds_if (dt_not (dt_val (de_callG ((ok_are_wanted T).mono (by decide : 4 ≤ 10)) hr hG g_goals_with_are_wanted T.g_are_wanted T.f_are_wanted.kp (bi_are_wanted T) tk (da_cons (de_v (i := 0) rfl v_goals_with_team) (da_cons (de_v (i := 1) rfl v_goals_with_wanted) da_nil rfl) rfl) (alen_cons (alen_cons alen_nil)) (by decide) rfl rfl) (fun _ => rfl))) (ds_cons (ds_raise (x := "InvalidPlaces") (k := 0) T.le T.lc_InvalidPlaces T.k_InvalidPlaces T.k_InvalidPlaces rfl (hr.mono (by decide : 1 ≤ 10)) tk (de_callG ((ok_anew T 8).mono (by decide : 9 ≤ 10)) hr hG g_goals_with_anew T.g_anew T.f_anew.kp (bi_anew T) tk (da_cons (de_v (i := 1) rfl v_goals_with_wanted) da_nil rfl) (alen_cons alen_nil) (by decide) rfl rfl) g_goals_with_InvalidPlaces (by decide) rfl rfl) ds_nil) ds_nil) (ds_cons (ds_ret (de_callG ((ok_goals_by T).mono (by decide : 2 ≤ 10)) hr hG g_goals_with_goals_by T.g_goals_by T.f_goals_by.kp (bi_goals_by T) tk (da_cons (de_v (i := 0) rfl v_goals_with_team) (da_cons (de_v (i := 1) rfl v_goals_with_wanted) da_nil rfl) rfl) (alen_cons (alen_cons alen_nil)) (by decide) rfl rfl)) ds_nil)))
/-! ### _law_well -/
abbrev N__law_well : List Str := ["script", "k", "cell", "whole", "part", "mixed"]
theorem sc__law_well : FnScope N__law_well ["script", "k"] (defScope st__law_well) := ⟨rfl, rfl, rfl, by decide +kernel, rfl, by decide +kernel, by decide +kernel⟩
theorem v__law_well_mixed : Vis (defScope st__law_well) ("mixed" : Str) := .inl (by decide +kernel)
theorem g__law_well_max : ((defScope st__law_well)).names.lookup ("max" : Str) = some .globalImplicit := by decide +kernel
theorem g__law_well_abs : ((defScope st__law_well)).names.lookup ("abs" : Str) = some .globalImplicit := by decide +kernel
theorem v__law_well_cell : Vis (defScope st__law_well) ("cell" : Str) := .inl (by decide +kernel)
theorem g__law_well_int : ((defScope st__law_well)).names.lookup ("int" : Str) = some .globalImplicit := by decide +kernel
theorem v__law_well_whole : Vis (defScope st__law_well) ("whole" : Str) := .inl (by decide +kernel)
theorem v__law_well_k : Vis (defScope st__law_well) ("k" : Str) := .inl (by decide +kernel)
theorem o__law_well_mixed : Loc (defScope st__law_well) ("mixed" : Str) := .inl (by decide +kernel)
theorem v__law_well_script : Vis (defScope st__law_well) ("script" : Str) := .inl (by decide +kernel)
theorem o__law_well_part : Loc (defScope st__law_well) ("part" : Str) := .inl (by decide +kernel)
theorem v__law_well_part : Vis (defScope st__law_well) ("part" : Str) := .inl (by decide +kernel)
theorem o__law_well_whole : Loc (defScope st__law_well) ("whole" : Str) := .inl (by decide +kernel)
theorem g__law_well_len : ((defScope st__law_well)).names.lookup ("len" : Str) = some .globalImplicit := by decide +kernel
theorem o__law_well_cell : Loc (defScope st__law_well) ("cell" : Str) := .inl (by decide +kernel)
def m__law_well : M Fl := (sCons (sSetX 2 (ifV (eB (eOp2 ltD (eVar 1) (eCB lenF (aCons (eVar 0) aNil)))) (eCB intF (aCons (eOp2 ixD (eVar 0) (eVar 1)) aNil)) (eOp2 addD (eOp2 mulX (eLit (.int (71))) (eVar 1)) (eLit (.int (37)))))) (sCons (sSetX 3 (eOp2 addD (eLit (.int (29))) (eCB lenF (aCons (eVar 0) aNil)))) (sCons (sFor (iDat (eVar 0)) (.nm 4) (sCons (sSetX 3 (eOp2 modD (eCB intF (aCons (eOp2 addD (eOp2 mulX (eVar 3) (eLit (.int (5323)))) (eOp2 modD (eCB intF (aCons (eVar 4) aNil)) (eOp2 addD (eOp2 powD (eLit (.int (10))) (eLit (.int (19)))) (eLit (.int (51)))))) aNil)) (eOp2 addD (eOp2 powD (eLit (.int (10))) (eLit (.int (25)))) (eLit (.int (13)))))) sNil)) (sCons (sSetX 5 (eOp2 modD (eCB intF (aCons (eOp2 addD (eOp2 addD (eOp2 addD (eOp2 mulX (eCB absF (aCons (eVar 2) aNil)) (eLit (.int (7129)))) (eOp2 mulX (eVar 3) (eLit (.int (41))))) (eOp2 mulX (eLit (.int (3))) (eCB intF (aCons (eOp2 ltD (eVar 2) (eLit (.int (0)))) aNil)))) (eOp2 mulX (eLit (.int (61))) (eVar 1))) aNil)) (eOp2 addD (eOp2 powD (eLit (.int (10))) (eLit (.int (28)))) (eLit (.int (331)))))) (sCons (sRetN (nLst (aCons (eCB maxF (aCons (eLit (.int (0))) (aCons (eOp2 subD (eCB absF (aCons (eVar 2) aNil)) (eOp2 powD (eLit (.int (10))) (eLit (.int (18))))) aNil))) (aCons (eVar 5) (aCons (eLit (.int (0))) aNil))))) sNil)))))
def F__law_well : Fsp := runF false 6 m__law_well
theorem bi__law_well (T : Txt Pg K mg a d) : Binds K d._law_well ["script", "k"] [] := T.f__law_well.binds fun _ _ _ _ _ _ us hl => match us, hl with | [_, _], _ => rfl
theorem ok__law_well (T : Txt Pg K mg a d) : FnOkG Pg wd K mg base (L2.CX Pg wd) 1 a._law_well d._law_well ["script", "k"] (spD ⟨K, mg⟩ false 2 F__law_well) :=
  fn_okG (k := 0) T.f__law_well sc__law_well fun cdv A outer s H E hr hG tk =>
    (ds_cons (ds_setX (i := 2) sc__law_well.nd rfl o__law_well_cell (de_if (dt_cmp op_lt opd_lt (de_v (i := 1) rfl v__law_well_k) (de_cb call_len_seq (cbd_len rfl) g__law_well_len T.b_len (by decide +kernel) (da_cons (de_v (i := 0) rfl v__law_well_script) da_nil rfl) (by decide) (by decide) rfl rfl) rfl) (de_cty call_int1 cbd_int g__law_well_int T.b_int (by decide +kernel) (da_cons (de_ix rfl (de_v (i := 0) rfl v__law_well_script) (de_v (i := 1) rfl v__law_well_k) (fun _ _ => rfl)) da_nil rfl) (by decide) (by decide) rfl rfl) (de_bin op_addA (opd_add rfl) (de_bin op_mulA (opd_mulA rfl) de_int (de_v (i := 1) rfl v__law_well_k)) de_int)) rfl (.inl rfl)) (ds_cons (ds_setX (i := 3) sc__law_well.nd rfl o__law_well_whole (de_bin op_addA (opd_add rfl) de_int (de_cb call_len_seq (cbd_len rfl) g__law_well_len T.b_len (by decide +kernel) (da_cons (de_v (i := 0) rfl v__law_well_script) da_nil rfl) (by decide) (by decide) rfl rfl)) rfl (.inl rfl)) (ds_cons (ds_for PassesOwn.leaving rfl (di_dat rfl (de_v (i := 0) rfl v__law_well_script)) (dg_name (i := 4) sc__law_well.nd rfl o__law_well_part ((.inl rfl))) (ds_cons (ds_setX (i := 3) sc__law_well.nd rfl o__law_well_whole (de_bin op_mod opd_mod (de_cty call_int1 cbd_int g__law_well_int T.b_int (by decide +kernel) (da_cons (de_bin op_addA (opd_add rfl) (de_bin op_mulA (opd_mulA rfl) (de_v (i := 3) rfl v__law_well_whole) de_int) (de_bin op_mod opd_mod (de_cty call_int1 cbd_int g__law_well_int T.b_int (by decide +kernel) (da_cons (de_v (i := 4) rfl v__law_well_part) da_nil rfl) (by decide) (by decide) rfl rfl) (de_bin op_addA (opd_add rfl) (de_bin op_pow opd_pow de_int de_int) de_int))) da_nil rfl) (by decide) (by decide) rfl rfl) (de_bin op_addA (opd_add rfl) (de_bin op_pow opd_pow de_int de_int) de_int)) rfl (.inl rfl)) ds_nil) (fun _ => rfl)) (ds_cons (ds_setX (i := 5) sc__law_well.nd rfl o__law_well_mixed (de_bin op_mod opd_mod (de_cty call_int1 cbd_int g__law_well_int T.b_int (by decide +kernel) (da_cons (de_bin op_addA (opd_add rfl) (de_bin op_addA (opd_add rfl) (de_bin op_addA (opd_add rfl) (de_bin op_mulA (opd_mulA rfl) (de_cb call_abs cbd_abs g__law_well_abs T.b_abs (by decide +kernel) (da_cons (de_v (i := 2) rfl v__law_well_cell) da_nil rfl) (by decide) (by decide) rfl rfl) de_int) (de_bin op_mulA (opd_mulA rfl) (de_v (i := 3) rfl v__law_well_whole) de_int)) (de_bin op_mulA (opd_mulA rfl) de_int (de_cty call_int1 cbd_int g__law_well_int T.b_int (by decide +kernel) (da_cons (de_cmp op_lt opd_lt (de_v (i := 2) rfl v__law_well_cell) de_int rfl) da_nil rfl) (by decide) (by decide) rfl rfl))) (de_bin op_mulA (opd_mulA rfl) de_int (de_v (i := 1) rfl v__law_well_k))) da_nil rfl) (by decide) (by decide) rfl rfl) (de_bin op_addA (opd_add rfl) (de_bin op_pow opd_pow de_int de_int) de_int)) rfl (.inl rfl)) (ds_cons (ds_retN (dn_lst (da_cons (de_cb (call_max2 rfl) cbd_max g__law_well_max T.b_max (by decide +kernel) (da_cons de_int (da_cons (de_bin op_sub opd_sub (de_cb call_abs cbd_abs g__law_well_abs T.b_abs (by decide +kernel) (da_cons (de_v (i := 2) rfl v__law_well_cell) da_nil rfl) (by decide) (by decide) rfl rfl) (de_bin op_pow opd_pow de_int de_int)) da_nil rfl) rfl) (by decide) (by decide) rfl rfl) (da_cons (de_v (i := 5) rfl v__law_well_mixed) (da_cons de_int da_nil rfl) rfl) rfl))) ds_nil)))))
/-! ### _law_draw -/
abbrev N__law_draw : List Str := ["well", "many", "found", "step", "mixed"]
theorem sc__law_draw : FnScope N__law_draw ["well", "many"] (defScope st__law_draw) := ⟨rfl, rfl, rfl, by decide +kernel, rfl, by decide +kernel, by decide +kernel⟩
theorem g__law_draw_int : ((defScope st__law_draw)).names.lookup ("int" : Str) = some .globalImplicit := by decide +kernel
theorem v__law_draw_mixed : Vis (defScope st__law_draw) ("mixed" : Str) := .inl (by decide +kernel)
theorem v__law_draw_many : Vis (defScope st__law_draw) ("many" : Str) := .inl (by decide +kernel)
theorem o__law_draw_mixed : Loc (defScope st__law_draw) ("mixed" : Str) := .inl (by decide +kernel)
theorem v__law_draw_well : Vis (defScope st__law_draw) ("well" : Str) := .inl (by decide +kernel)
theorem v__law_draw_step : Vis (defScope st__law_draw) ("step" : Str) := .inl (by decide +kernel)
theorem o__law_draw_step : Loc (defScope st__law_draw) ("step" : Str) := .inl (by decide +kernel)
theorem v__law_draw_found : Vis (defScope st__law_draw) ("found" : Str) := .inl (by decide +kernel)
theorem o__law_draw_found : Loc (defScope st__law_draw) ("found" : Str) := .inl (by decide +kernel)
def m__law_draw : M Fl := (sCons (sIf (eB (eOp2 gtD (eOp2 ixD (eVar 0) (eLit (.int (0)))) (eLit (.int (0))))) (sCons (sSetX 2 (eOp2 modD (eCB intF (aCons (eOp2 ixD (eVar 0) (eLit (.int (0)))) aNil)) (eVar 1))) (sCons (sStore (eOp2 fdivD (eOp2 ixD (eVar 0) (eLit (.int (0)))) (eVar 1)) (eVar 0) (eLit (.int (0)))) (sCons (sRet (eVar 2)) sNil))) sNil) (sCons (sStore (eOp2 addD (eOp2 ixD (eVar 0) (eLit (.int (2)))) (eLit (.int (1)))) (eVar 0) (eLit (.int (2)))) (sCons (sSetX 3 (eOp2 ixD (eVar 0) (eLit (.int (2))))) (sCons (sSetX 4 (eOp2 modD (eCB intF (aCons (eOp2 addD (eOp2 addD (eOp2 mulX (eOp2 mulX (eOp2 addD (eOp2 ixD (eVar 0) (eLit (.int (1)))) (eLit (.int (31)))) (eOp2 addD (eVar 3) (eLit (.int (5))))) (eLit (.int (998244353)))) (eOp2 mulX (eOp2 mulX (eOp2 mulX (eVar 3) (eVar 3)) (eVar 3)) (eLit (.int (424242427))))) (eLit (.int (77)))) aNil)) (eOp2 addD (eOp2 powD (eLit (.int (10))) (eLit (.int (29)))) (eLit (.int (319)))))) (sCons (sSetX 4 (eOp2 modD (eCB intF (aCons (eOp2 addD (eOp2 addD (eOp2 mulX (eVar 4) (eVar 4)) (eOp2 mulX (eOp2 ixD (eVar 0) (eLit (.int (1)))) (eLit (.int (7))))) (eVar 3)) aNil)) (eOp2 addD (eOp2 powD (eLit (.int (10))) (eLit (.int (31)))) (eLit (.int (33)))))) (sCons (sSetX 4 (eOp2 modD (eCB intF (aCons (eOp2 addD (eOp2 mulX (eOp2 mulX (eVar 4) (eVar 4)) (eLit (.int (3)))) (eOp2 mulX (eVar 4) (eLit (.int (11))))) aNil)) (eOp2 addD (eOp2 powD (eLit (.int (10))) (eLit (.int (33)))) (eLit (.int (603)))))) (sCons (sRet (eOp2 modD (eCB intF (aCons (eOp2 fdivD (eVar 4) (eLit (.int (50021)))) aNil)) (eVar 1))) sNil)))))))
def F__law_draw : Fsp := runF true 5 m__law_draw
theorem bi__law_draw (T : Txt Pg K mg a d) : Binds K d._law_draw ["well", "many"] [] := T.f__law_draw.binds fun _ _ _ _ _ _ us hl => match us, hl with | [_, _], _ => rfl
theorem ok__law_draw (T : Txt Pg K mg a d) : FnOkG Pg wd K mg base (L2.CX Pg wd) 1 a._law_draw d._law_draw ["well", "many"] (spD ⟨K, mg⟩ true 2 F__law_draw) :=
  fn_okG (k := 0) T.f__law_draw sc__law_draw fun cdv A outer s H E hr hG tk =>
    (ds_cons (ds_if (dt_cmp op_gt opd_gt (de_ix rfl (de_v (i := 0) rfl v__law_draw_well) de_int (fun _ _ => rfl)) de_int rfl) (ds_cons (ds_setX (i := 2) sc__law_draw.nd rfl o__law_draw_found (de_bin op_mod opd_mod (de_cty call_int1 cbd_int g__law_draw_int T.b_int (by decide +kernel) (da_cons (de_ix rfl (de_v (i := 0) rfl v__law_draw_well) de_int (fun _ _ => rfl)) da_nil rfl) (by decide) (by decide) rfl rfl) (de_v (i := 1) rfl v__law_draw_many)) rfl (.inl rfl)) (ds_cons (ds_store (de_bin op_fdivW opd_fdiv (de_ix rfl (de_v (i := 0) rfl v__law_draw_well) de_int (fun _ _ => rfl)) (de_v (i := 1) rfl v__law_draw_many)) (de_v (i := 0) rfl v__law_draw_well) de_int rfl rfl rfl (fun _ => rfl)) (ds_cons (ds_ret (de_v (i := 2) rfl v__law_draw_found)) ds_nil))) ds_nil) (ds_cons (ds_store (de_bin op_addA (opd_add rfl) (de_ix rfl (de_v (i := 0) rfl v__law_draw_well) de_int (fun _ _ => rfl)) de_int) (de_v (i := 0) rfl v__law_draw_well) de_int rfl rfl rfl (fun _ => rfl)) (ds_cons (ds_setX (i := 3) sc__law_draw.nd rfl o__law_draw_step (de_ix rfl (de_v (i := 0) rfl v__law_draw_well) de_int (fun _ _ => rfl)) rfl (.inl rfl)) (ds_cons (ds_setX (i := 4) sc__law_draw.nd rfl o__law_draw_mixed (de_bin op_mod opd_mod (de_cty call_int1 cbd_int g__law_draw_int T.b_int (by decide +kernel) (da_cons (de_bin op_addA (opd_add rfl) (de_bin op_addA (opd_add rfl) (de_bin op_mulA (opd_mulA rfl) (de_bin op_mulA (opd_mulA rfl) (de_bin op_addA (opd_add rfl) (de_ix rfl (de_v (i := 0) rfl v__law_draw_well) de_int (fun _ _ => rfl)) de_int) (de_bin op_addA (opd_add rfl) (de_v (i := 3) rfl v__law_draw_step) de_int)) de_int) (de_bin op_mulA (opd_mulA rfl) (de_bin op_mulA (opd_mulA rfl) (de_bin op_mulA (opd_mulA rfl) (de_v (i := 3) rfl v__law_draw_step) (de_v (i := 3) rfl v__law_draw_step)) (de_v (i := 3) rfl v__law_draw_step)) de_int)) de_int) da_nil rfl) (by decide) (by decide) rfl rfl) (de_bin op_addA (opd_add rfl) (de_bin op_pow opd_pow de_int de_int) de_int)) rfl (.inl rfl)) (ds_cons (ds_setX (i := 4) sc__law_draw.nd rfl o__law_draw_mixed (de_bin op_mod opd_mod (de_cty call_int1 cbd_int g__law_draw_int T.b_int (by decide +kernel) (da_cons (de_bin op_addA (opd_add rfl) (de_bin op_addA (opd_add rfl) (de_bin op_mulA (opd_mulA rfl) (de_v (i := 4) rfl v__law_draw_mixed) (de_v (i := 4) rfl v__law_draw_mixed)) (de_bin op_mulA (opd_mulA rfl) (de_ix rfl (de_v (i := 0) rfl v__law_draw_well) de_int (fun _ _ => rfl)) de_int)) (de_v (i := 3) rfl v__law_draw_step)) da_nil rfl) (by decide) (by decide) rfl rfl) (de_bin op_addA (opd_add rfl) (de_bin op_pow opd_pow de_int de_int) de_int)) rfl (.inl rfl)) (ds_cons (ds_setX (i := 4) sc__law_draw.nd rfl o__law_draw_mixed (de_bin op_mod opd_mod (de_cty call_int1 cbd_int g__law_draw_int T.b_int (by decide +kernel) (da_cons (de_bin op_addA (opd_add rfl) (de_bin op_mulA (opd_mulA rfl) (de_bin op_mulA (opd_mulA rfl) (de_v (i := 4) rfl v__law_draw_mixed) (de_v (i := 4) rfl v__law_draw_mixed)) de_int) (de_bin op_mulA (opd_mulA rfl) (de_v (i := 4) rfl v__law_draw_mixed) de_int)) da_nil rfl) (by decide) (by decide) rfl rfl) (de_bin op_addA (opd_add rfl) (de_bin op_pow opd_pow de_int de_int) de_int)) rfl (.inl rfl)) (ds_cons (ds_ret (de_bin op_mod opd_mod (de_cty call_int1 cbd_int g__law_draw_int T.b_int (by decide +kernel) (da_cons (de_bin op_fdivW opd_fdiv (de_v (i := 4) rfl v__law_draw_mixed) de_int) da_nil rfl) (by decide) (by decide) rfl rfl) (de_v (i := 1) rfl v__law_draw_many))) ds_nil)))))))
/-! ### _law_some -/
abbrev N__law_some : List Str := ["well", "many", "odds", "at"]
theorem sc__law_some : FnScope N__law_some ["well", "many", "odds"] (defScope st__law_some) := ⟨rfl, rfl, rfl, by decide +kernel, rfl, by decide +kernel, by decide +kernel⟩
abbrev bs__law_some_b1 : Scope := { kind := .function, names := [(PySem.Str.ofString ".0", .local), (PySem.Str.ofString "at", .local), (PySem.Str.ofString "_law_draw", .globalImplicit), (PySem.Str.ofString "odds", .free), (PySem.Str.ofString "well", .free)], isGenerator := false, isCoroutine := false, more := [] }
theorem bk__law_some_b1 : blkC N__law_some (defScope st__law_some) bs__law_some_b1 [("at", 3)] = true := by decide +kernel
theorem g__law_some_tuple : ((defScope st__law_some)).names.lookup ("tuple" : Str) = some .globalImplicit := by decide +kernel
theorem v__law_some_many : Vis (defScope st__law_some) ("many" : Str) := .inl (by decide +kernel)
theorem g__law_some_range : ((defScope st__law_some)).names.lookup ("range" : Str) = some .globalImplicit := by decide +kernel
theorem o__law_some_b1_at : Loc (relS bs__law_some_b1 (defScope st__law_some)) ("at" : Str) := .inl (by decide +kernel)
theorem l__law_some_b1_at : ((relS bs__law_some_b1 (defScope st__law_some))).names.lookup ("at" : Str) = some .local := by decide +kernel
theorem v__law_some_b1_odds : Vis (relS bs__law_some_b1 (defScope st__law_some)) ("odds" : Str) := .inr (.inl (by decide +kernel))
theorem v__law_some_b1_well : Vis (relS bs__law_some_b1 (defScope st__law_some)) ("well" : Str) := .inr (.inl (by decide +kernel))
theorem g__law_some_b1__law_draw : ((relS bs__law_some_b1 (defScope st__law_some))).names.lookup ("_law_draw" : Str) = some .globalImplicit := by decide +kernel
theorem v__law_some_b1_at : Vis (relS bs__law_some_b1 (defScope st__law_some)) ("at" : Str) := .inl (by decide +kernel)
def m__law_some : M Fl := (sCons (sRet (eCB tupleF (aCons (eLc (iRng (aCons (eVar 1) aNil)) (.nm 3) (eB (eOp2 eqX (eCall true F__law_draw (aCons (eVar 0) (aCons (eVar 2) aNil))) (eLit (.int (0))))) (eVar 3) [3]) aNil))) sNil)
def F__law_some : Fsp := runF true 4 m__law_some
theorem bi__law_some (T : Txt Pg K mg a d) : Binds K d._law_some ["well", "many", "odds"] [] := T.f__law_some.binds fun _ _ _ _ _ _ us hl => match us, hl with | [_, _, _], _ => rfl
theorem ok__law_some (T : Txt Pg K mg a d) : FnOkG Pg wd K mg base (L2.CX Pg wd) 2 a._law_some d._law_some ["well", "many", "odds"] (spD ⟨K, mg⟩ true 3 F__law_some) :=
  fn_okG (k := 1) T.f__law_some sc__law_some fun cdv A outer s H E hr hG tk =>
    (ds_cons (ds_ret (de_cty call_tuple_of (cbd_tuple rfl) g__law_some_tuple T.b_tuple (by decide +kernel) (da_cons (de_lc rfl sc__law_some.nd (di_rng1 (alen_cons alen_nil) g__law_some_range T.b_range (da_cons (de_v (i := 1) rfl v__law_some_many) da_nil rfl) rfl) (own := [("at", 3)]) (blkOk_by bk__law_some_b1) (fun _ _ _ _ _ => (dg_name (i := 3) sc__law_some.nd rfl o__law_some_b1_at (.inr l__law_some_b1_at))) (fun _ _ _ _ _ => (dts_one (dt_cmp (op_eq.or (op_eqD (room_u64 hr))) (opd_eqX rfl) (de_callG ((ok__law_draw T).mono (by decide : 1 ≤ 1)) hr hG g__law_some_b1__law_draw T.g__law_draw T.f__law_draw.kp (bi__law_draw T) takes0 (da_cons (de_v (i := 0) rfl v__law_some_b1_well) (da_cons (de_v (i := 2) rfl v__law_some_b1_odds) da_nil rfl) rfl) (alen_cons (alen_cons alen_nil)) (by decide) rfl rfl) de_int rfl))) (fun _ _ _ _ _ => (de_v (i := 3) rfl v__law_some_b1_at)) (fun _ => rfl) (by decide)) da_nil rfl) (by decide) (by decide) rfl rfl)) ds_nil)
/-! ### _law_is_int -/
abbrev N__law_is_int : List Str := ["value", "low", "high"]
theorem sc__law_is_int : FnScope N__law_is_int ["value", "low", "high"] (defScope st__law_is_int) := ⟨rfl, rfl, rfl, by decide +kernel, rfl, by decide +kernel, by decide +kernel⟩
theorem v__law_is_int_value : Vis (defScope st__law_is_int) ("value" : Str) := .inl (by decide +kernel)
theorem g__law_is_int_isinstance : ((defScope st__law_is_int)).names.lookup ("isinstance" : Str) = some .globalImplicit := by decide +kernel
theorem g__law_is_int_int : ((defScope st__law_is_int)).names.lookup ("int" : Str) = some .globalImplicit := by decide +kernel
theorem g__law_is_int_bool : ((defScope st__law_is_int)).names.lookup ("bool" : Str) = some .globalImplicit := by decide +kernel
theorem v__law_is_int_low : Vis (defScope st__law_is_int) ("low" : Str) := .inl (by decide +kernel)
theorem v__law_is_int_high : Vis (defScope st__law_is_int) ("high" : Str) := .inl (by decide +kernel)
def m__law_is_int : M Fl := (sCons (sRet (andV (eIs (isTy "int") (fun _ => none) (eVar 0)) (andV (notV (eIs (isTy "bool") (fun _ => none) (eVar 0))) (eChain leD leD (eVar 1) (eVar 0) (eVar 2))))) sNil)
def F__law_is_int : Fsp := runF false 3 m__law_is_int
theorem bi__law_is_int (T : Txt Pg K mg a d) : Binds K d._law_is_int ["value", "low", "high"] [] := T.f__law_is_int.binds fun _ _ _ _ _ _ us hl => match us, hl with | [_, _, _], _ => rfl
theorem ok__law_is_int (T : Txt Pg K mg a d) : FnOkG Pg wd K mg base (L2.CX Pg wd) 1 a._law_is_int d._law_is_int ["value", "low", "high"] (spD ⟨K, mg⟩ false 3 F__law_is_int) :=
  fn_okG (k := 0) T.f__law_is_int sc__law_is_int fun cdv A outer s H E hr hG tk =>
    (ds_cons (ds_ret (de_and (de_isG rfl g__law_is_int_isinstance T.b_isinstance (de_v (i := 0) rfl v__law_is_int_value) (pe_bltn g__law_is_int_int T.b_int (by decide +kernel) (v := .ty "int") rfl) (.ty "int") (fun _ _ h => kit_ty h) (fun _ _ _ h => nomatch h) rfl rfl rfl) (de_and (de_not (de_isG rfl g__law_is_int_isinstance T.b_isinstance (de_v (i := 0) rfl v__law_is_int_value) (pe_bltn g__law_is_int_bool T.b_bool (by decide +kernel) (v := .ty "bool") rfl) (.ty "bool") (fun _ _ h => kit_ty h) (fun _ _ _ h => nomatch h) rfl rfl rfl)) (pe_one (de_chain op_le opd_le op_le opd_le (de_v (i := 1) rfl v__law_is_int_low) (de_v (i := 0) rfl v__law_is_int_value) (de_v (i := 2) rfl v__law_is_int_high) rfl))))) ds_nil)
/-! ### _law_rises -/
abbrev N__law_rises : List Str := ["value", "low", "high", "item", "one", "other"]
theorem sc__law_rises : FnScope N__law_rises ["value", "low", "high"] (defScope st__law_rises) := ⟨rfl, rfl, rfl, by decide +kernel, rfl, by decide +kernel, by decide +kernel⟩
abbrev bs__law_rises_b1 : Scope := { kind := .function, names := [(PySem.Str.ofString ".0", .local), (PySem.Str.ofString "one", .local), (PySem.Str.ofString "other", .local)], isGenerator := false, isCoroutine := false, more := [] }
theorem bk__law_rises_b1 : blkC N__law_rises (defScope st__law_rises) bs__law_rises_b1 [("one", 4), ("other", 5)] = true := by decide +kernel
abbrev bs__law_rises_b2 : Scope := { kind := .function, names := [(PySem.Str.ofString ".0", .local), (PySem.Str.ofString "item", .local), (PySem.Str.ofString "_law_is_int", .globalImplicit), (PySem.Str.ofString "high", .free), (PySem.Str.ofString "low", .free)], isGenerator := false, isCoroutine := false, more := [] }
theorem bk__law_rises_b2 : blkC N__law_rises (defScope st__law_rises) bs__law_rises_b2 [("item", 3)] = true := by decide +kernel
theorem v__law_rises_value : Vis (defScope st__law_rises) ("value" : Str) := .inl (by decide +kernel)
theorem g__law_rises_zip : ((defScope st__law_rises)).names.lookup ("zip" : Str) = some .globalImplicit := by decide +kernel
theorem o__law_rises_b1_other : Loc (relS bs__law_rises_b1 (defScope st__law_rises)) ("other" : Str) := .inl (by decide +kernel)
theorem l__law_rises_b1_other : ((relS bs__law_rises_b1 (defScope st__law_rises))).names.lookup ("other" : Str) = some .local := by decide +kernel
theorem o__law_rises_b1_one : Loc (relS bs__law_rises_b1 (defScope st__law_rises)) ("one" : Str) := .inl (by decide +kernel)
theorem l__law_rises_b1_one : ((relS bs__law_rises_b1 (defScope st__law_rises))).names.lookup ("one" : Str) = some .local := by decide +kernel
theorem v__law_rises_b1_one : Vis (relS bs__law_rises_b1 (defScope st__law_rises)) ("one" : Str) := .inl (by decide +kernel)
theorem v__law_rises_b1_other : Vis (relS bs__law_rises_b1 (defScope st__law_rises)) ("other" : Str) := .inl (by decide +kernel)
theorem g__law_rises_isinstance : ((defScope st__law_rises)).names.lookup ("isinstance" : Str) = some .globalImplicit := by decide +kernel
theorem g__law_rises_tuple : ((defScope st__law_rises)).names.lookup ("tuple" : Str) = some .globalImplicit := by decide +kernel
theorem o__law_rises_b2_item : Loc (relS bs__law_rises_b2 (defScope st__law_rises)) ("item" : Str) := .inl (by decide +kernel)
theorem l__law_rises_b2_item : ((relS bs__law_rises_b2 (defScope st__law_rises))).names.lookup ("item" : Str) = some .local := by decide +kernel
theorem v__law_rises_b2_high : Vis (relS bs__law_rises_b2 (defScope st__law_rises)) ("high" : Str) := .inr (.inl (by decide +kernel))
theorem v__law_rises_b2_low : Vis (relS bs__law_rises_b2 (defScope st__law_rises)) ("low" : Str) := .inr (.inl (by decide +kernel))
theorem v__law_rises_b2_item : Vis (relS bs__law_rises_b2 (defScope st__law_rises)) ("item" : Str) := .inl (by decide +kernel)
theorem g__law_rises_b2__law_is_int : ((relS bs__law_rises_b2 (defScope st__law_rises))).names.lookup ("_law_is_int" : Str) = some .globalImplicit := by decide +kernel
def m__law_rises : M Fl := (sCons (sIf (orT (notT (eB (eIs (isTy "tuple") (fun _ => none) (eVar 0)))) (eB (eOp2 inX (eLit (.bool false)) (eLc (iDat (eVar 0)) (.nm 3) (M.ok true) (eCall false F__law_is_int (aCons (eVar 3) (aCons (eVar 1) (aCons (eVar 2) aNil)))) [3])))) (sCons (sRet (eLit (.bool false))) sNil) sNil) (sCons (sRet (eOp2 ninX (eLit (.bool false)) (eLc (iZip (aCons (eVar 0) (aCons (eSl (eVar 0) (mPart (some (eLit (.int (1))))) (mPart none)) aNil))) (.tp [4, 5]) (M.ok true) (eOp2 ltD (eVar 4) (eVar 5)) [4, 5]))) sNil))
def F__law_rises : Fsp := runF false 6 m__law_rises
theorem bi__law_rises (T : Txt Pg K mg a d) : Binds K d._law_rises ["value", "low", "high"] [] := T.f__law_rises.binds fun _ _ _ _ _ _ us hl => match us, hl with | [_, _, _], _ => rfl
theorem ok__law_rises (T : Txt Pg K mg a d) : FnOkG Pg wd K mg base (L2.CX Pg wd) 2 a._law_rises d._law_rises ["value", "low", "high"] (spD ⟨K, mg⟩ false 3 F__law_rises) :=
  fn_okG (k := 1) T.f__law_rises sc__law_rises fun cdv A outer s H E hr hG tk =>
    (ds_cons (ds_if (PW.fin (dw_or (dt_not (dt_val (de_isG rfl g__law_rises_isinstance T.b_isinstance (de_v (i := 0) rfl v__law_rises_value) (pe_bltn g__law_rises_tuple T.b_tuple (by decide +kernel) (v := .ty "tuple") rfl) (.ty "tuple") (fun _ _ h => kit_ty h) (fun _ _ _ h => nomatch h) rfl rfl rfl) (fun _ => rfl))) (pw_or1 (dt_cmp ((op_inD (room_u65 hr)).or op_in_seq) (opd_inX rfl) de_bool (de_lc rfl sc__law_rises.nd (di_dat rfl (de_v (i := 0) rfl v__law_rises_value)) (own := [("item", 3)]) (blkOk_by bk__law_rises_b2) (fun _ _ _ _ _ => (dg_name (i := 3) sc__law_rises.nd rfl o__law_rises_b2_item (.inr l__law_rises_b2_item))) (fun _ _ _ _ _ => dts_nil) (fun _ _ _ _ _ => (de_callG ((ok__law_is_int T).mono (by decide : 1 ≤ 1)) hr hG g__law_rises_b2__law_is_int T.g__law_is_int T.f__law_is_int.kp (bi__law_is_int T) takes0 (da_cons (de_v (i := 3) rfl v__law_rises_b2_item) (da_cons (de_v (i := 1) rfl v__law_rises_b2_low) (da_cons (de_v (i := 2) rfl v__law_rises_b2_high) da_nil rfl) rfl) rfl) (alen_cons (alen_cons (alen_cons alen_nil))) (by decide) rfl rfl)) (fun _ => rfl) (by decide)) rfl)))) (ds_cons (ds_ret de_bool) ds_nil) ds_nil) (ds_cons (ds_ret (de_cmp ((op_notInD (room_u65 hr)).or op_notIn_seq) (opd_ninX rfl) de_bool (de_lc rfl sc__law_rises.nd (di_zip rfl g__law_rises_zip T.b_zip (da_cons (de_v (i := 0) rfl v__law_rises_value) (da_cons (de_sl rfl (de_v (i := 0) rfl v__law_rises_value) (dp_some de_int) dp_none) da_nil rfl) rfl) rfl rfl) (own := [("one", 4), ("other", 5)]) (blkOk_by bk__law_rises_b1) (fun _ _ _ _ _ => (dg_tup rfl rfl (dgs_cons (i := 4) sc__law_rises.nd rfl o__law_rises_b1_one (.inr l__law_rises_b1_one) (dgs_cons (i := 5) sc__law_rises.nd rfl o__law_rises_b1_other (.inr l__law_rises_b1_other) dgs_nil rfl) rfl) rfl rfl)) (fun _ _ _ _ _ => dts_nil) (fun _ _ _ _ _ => (de_cmp op_lt opd_lt (de_v (i := 4) rfl v__law_rises_b1_one) (de_v (i := 5) rfl v__law_rises_b1_other) rfl)) (fun _ => rfl) (by decide)) rfl)) ds_nil))
/-! ### _law_spots -/
abbrev N__law_spots : List Str := ["team", "found", "party", "longer", "row", "place"]
theorem sc__law_spots : FnScope N__law_spots ["team"] (defScope st__law_spots) := ⟨rfl, rfl, rfl, by decide +kernel, rfl, by decide +kernel, by decide +kernel⟩
abbrev bs__law_spots_b1 : Scope := { kind := .function, names := [(PySem.Str.ofString ".0", .local), (PySem.Str.ofString "place", .local), (PySem.Str.ofString "row", .free)], isGenerator := false, isCoroutine := false, more := [] }
theorem bk__law_spots_b1 : blkC N__law_spots (defScope st__law_spots) bs__law_spots_b1 [("place", 5)] = true := by decide +kernel
theorem v__law_spots_found : Vis (defScope st__law_spots) ("found" : Str) := .inl (by decide +kernel)
theorem v__law_spots_team : Vis (defScope st__law_spots) ("team" : Str) := .inl (by decide +kernel)
theorem o__law_spots_party : Loc (defScope st__law_spots) ("party" : Str) := .inl (by decide +kernel)
theorem v__law_spots_longer : Vis (defScope st__law_spots) ("longer" : Str) := .inl (by decide +kernel)
theorem o__law_spots_found : Loc (defScope st__law_spots) ("found" : Str) := .inl (by decide +kernel)
theorem o__law_spots_row : Loc (defScope st__law_spots) ("row" : Str) := .inr (by decide +kernel)
theorem v__law_spots_party : Vis (defScope st__law_spots) ("party" : Str) := .inl (by decide +kernel)
theorem g__law_spots_range : ((defScope st__law_spots)).names.lookup ("range" : Str) = some .globalImplicit := by decide +kernel
theorem o__law_spots_b1_place : Loc (relS bs__law_spots_b1 (defScope st__law_spots)) ("place" : Str) := .inl (by decide +kernel)
theorem l__law_spots_b1_place : ((relS bs__law_spots_b1 (defScope st__law_spots))).names.lookup ("place" : Str) = some .local := by decide +kernel
theorem v__law_spots_b1_row : Vis (relS bs__law_spots_b1 (defScope st__law_spots)) ("row" : Str) := .inr (.inl (by decide +kernel))
theorem v__law_spots_b1_place : Vis (relS bs__law_spots_b1 (defScope st__law_spots)) ("place" : Str) := .inl (by decide +kernel)
theorem o__law_spots_longer : Loc (defScope st__law_spots) ("longer" : Str) := .inl (by decide +kernel)
def m__law_spots : M Fl := (sCons (sSetX 1 (eLst (aCons (eTup aNil) aNil))) (sCons (sFor (iDat (eOp2 ixD (eVar 0) (eLit (.int (1))))) (.nm 2) (sCons (sSetN 3 (nLst aNil)) (sCons (sFor (iDat (eVar 1)) (.nm 4) (sCons (sExpr (eExt (eVar 3) (nLc (iRng (aCons (eOp2 ixD (eVar 2) (eLit (.int (0)))) aNil)) (.nm 5) (M.ok true) (eOp2 addD (eVar 4) (eTup (aCons (eVar 5) aNil))) [5]))) sNil)) (sCons (sSetX 1 (eVar 3)) sNil)))) (sCons (sRet (eVar 1)) sNil)))
def F__law_spots : Fsp := runF false 6 m__law_spots
theorem bi__law_spots (T : Txt Pg K mg a d) : Binds K d._law_spots ["team"] [] := T.f__law_spots.binds fun _ _ _ _ _ _ us hl => match us, hl with | [_], _ => rfl
theorem ok__law_spots (T : Txt Pg K mg a d) : FnOkG Pg wd K mg base (L2.CX Pg wd) 1 a._law_spots d._law_spots ["team"] (spD ⟨K, mg⟩ false 1 F__law_spots) :=
  fn_okG (k := 0) T.f__law_spots sc__law_spots fun cdv A outer s H E hr hG tk =>
    (ds_cons (ds_setX (i := 1) sc__law_spots.nd rfl o__law_spots_found (de_lst (da_cons (de_tup da_nil) da_nil rfl)) rfl (.inl rfl)) (ds_cons (ds_for PassesOwn.leaving rfl (di_dat rfl (de_ix rfl (de_v (i := 0) rfl v__law_spots_team) de_int (fun _ _ => rfl))) (dg_name (i := 2) sc__law_spots.nd rfl o__law_spots_party ((.inl rfl))) (ds_cons (ds_setN (i := 3) sc__law_spots.nd rfl o__law_spots_longer (dn_lst da_nil) rfl (.inl rfl)) (ds_cons (ds_for PassesOwn.leaving rfl (di_dat rfl (de_v (i := 1) rfl v__law_spots_found)) (dg_name (i := 4) sc__law_spots.nd rfl o__law_spots_row ((.inl rfl))) (ds_cons (ds_expr (de_ext rfl (de_v (i := 3) rfl v__law_spots_longer) (dn_lc rfl sc__law_spots.nd (di_rng1 (alen_cons alen_nil) g__law_spots_range T.b_range (da_cons (de_ix rfl (de_v (i := 2) rfl v__law_spots_party) de_int (fun _ _ => rfl)) da_nil rfl) rfl) (own := [("place", 5)]) (blkOk_by bk__law_spots_b1) (fun _ _ _ _ _ => (dg_name (i := 5) sc__law_spots.nd rfl o__law_spots_b1_place (.inr l__law_spots_b1_place))) (fun _ _ _ _ _ => dts_nil) (fun _ _ _ _ _ => (de_bin op_addA (opd_add rfl) (de_v (i := 4) rfl v__law_spots_b1_row) (de_tup (da_cons (de_v (i := 5) rfl v__law_spots_b1_place) da_nil rfl)))) (fun _ => rfl) (by decide)) rfl rfl rfl rfl rfl) rfl) ds_nil) (fun _ => rfl)) (ds_cons (ds_setX (i := 1) sc__law_spots.nd rfl o__law_spots_found (de_v (i := 3) rfl v__law_spots_longer) rfl (.inl rfl)) ds_nil))) (fun _ => rfl)) (ds_cons (ds_ret (de_v (i := 1) rfl v__law_spots_found)) ds_nil)))
/-! ### _law_wide_team -/
abbrev N__law_wide_team : List Str := ["well", "found", "product", "turn", "places"]
theorem sc__law_wide_team : FnScope N__law_wide_team ["well"] (defScope st__law_wide_team) := ⟨rfl, rfl, rfl, by decide +kernel, rfl, by decide +kernel, by decide +kernel⟩
theorem g__law_wide_team_tuple : ((defScope st__law_wide_team)).names.lookup ("tuple" : Str) = some .globalImplicit := by decide +kernel
theorem v__law_wide_team_found : Vis (defScope st__law_wide_team) ("found" : Str) := .inl (by decide +kernel)
theorem v__law_wide_team_well : Vis (defScope st__law_wide_team) ("well" : Str) := .inl (by decide +kernel)
theorem g__law_wide_team__law_draw : ((defScope st__law_wide_team)).names.lookup ("_law_draw" : Str) = some .globalImplicit := by decide +kernel
theorem g__law_wide_team_range : ((defScope st__law_wide_team)).names.lookup ("range" : Str) = some .globalImplicit := by decide +kernel
theorem o__law_wide_team_turn : Loc (defScope st__law_wide_team) ("turn" : Str) := .inl (by decide +kernel)
theorem v__law_wide_team_product : Vis (defScope st__law_wide_team) ("product" : Str) := .inl (by decide +kernel)
theorem v__law_wide_team_places : Vis (defScope st__law_wide_team) ("places" : Str) := .inl (by decide +kernel)
theorem o__law_wide_team_product : Loc (defScope st__law_wide_team) ("product" : Str) := .inl (by decide +kernel)
theorem o__law_wide_team_places : Loc (defScope st__law_wide_team) ("places" : Str) := .inl (by decide +kernel)
theorem l__law_wide_team_found : ((defScope st__law_wide_team)).names.lookup ("found" : Str) = some .local := by decide +kernel
theorem l__law_wide_team_product : ((defScope st__law_wide_team)).names.lookup ("product" : Str) = some .local := by decide +kernel
def m__law_wide_team : M Fl := (sCons (sPN 1 2 (nLst aNil) (eLit (.int (1)))) (sCons (sFor (iRng (aCons (eOp2 addD (eLit (.int (1))) (eCall true F__law_draw (aCons (eVar 0) (aCons (eLit (.int (4))) aNil)))) aNil)) (.nm 3) (sCons (sSetX 4 (eOp2 addD (eLit (.int (1))) (eCall true F__law_draw (aCons (eVar 0) (aCons (eOp2 ixD (eLst (aCons (eLit (.int (3))) (aCons (eLit (.int (12))) aNil))) (eCall true F__law_draw (aCons (eVar 0) (aCons (eLit (.int (2))) aNil)))) aNil))))) (sCons (sIf (eB (eOp2 leD (eOp2 mulX (eVar 2) (eVar 4)) (eLit (.int (400))))) (sCons (sExpr (eAp (eVar 1) (eTup (aCons (eVar 4) (aCons (eTup aNil) (aCons (eTup (aCons (eCall true F__law_draw (aCons (eVar 0) (aCons (eVar 4) aNil))) (aCons (eTup aNil) aNil))) aNil)))))) (sCons (sSetX 2 (eOp2 mulX (eVar 2) (eVar 4))) sNil)) sNil) sNil))) (sCons (sRet (eTup (aCons (eTup aNil) (aCons (eCB tupleF (aCons (eVar 1) aNil)) aNil)))) sNil)))
def F__law_wide_team : Fsp := runF true 5 m__law_wide_team
theorem bi__law_wide_team (T : Txt Pg K mg a d) : Binds K d._law_wide_team ["well"] [] := T.f__law_wide_team.binds fun _ _ _ _ _ _ us hl => match us, hl with | [_], _ => rfl
theorem ok__law_wide_team (T : Txt Pg K mg a d) : FnOkG Pg wd K mg base (L2.CX Pg wd) 2 a._law_wide_team d._law_wide_team ["well"] (spD ⟨K, mg⟩ true 1 F__law_wide_team) :=
  fn_okG (k := 1) T.f__law_wide_team sc__law_wide_team fun cdv A outer s H E hr hG tk =>
    (ds_cons (ds_parN (i := 1) (j := 2) rfl sc__law_wide_team.nd rfl rfl (by decide) l__law_wide_team_found l__law_wide_team_product (dn_lst da_nil) de_int rfl rfl rfl rfl) (ds_cons (ds_for PassesOwn.leaving rfl (di_rng1 (alen_cons alen_nil) g__law_wide_team_range T.b_range (da_cons (de_bin op_addA (opd_add rfl) de_int (de_callG ((ok__law_draw T).mono (by decide : 1 ≤ 1)) hr hG g__law_wide_team__law_draw T.g__law_draw T.f__law_draw.kp (bi__law_draw T) tk (da_cons (de_v (i := 0) rfl v__law_wide_team_well) (da_cons de_int da_nil rfl) rfl) (alen_cons (alen_cons alen_nil)) (by decide) rfl rfl)) da_nil rfl) rfl) (dg_name (i := 3) sc__law_wide_team.nd rfl o__law_wide_team_turn ((.inl rfl))) (ds_cons (ds_setX (i := 4) sc__law_wide_team.nd rfl o__law_wide_team_places (de_bin op_addA (opd_add rfl) de_int (de_callG ((ok__law_draw T).mono (by decide : 1 ≤ 1)) hr hG g__law_wide_team__law_draw T.g__law_draw T.f__law_draw.kp (bi__law_draw T) tk (da_cons (de_v (i := 0) rfl v__law_wide_team_well) (da_cons (de_ix rfl (de_lst (da_cons de_int (da_cons de_int da_nil rfl) rfl)) (de_callG ((ok__law_draw T).mono (by decide : 1 ≤ 1)) hr hG g__law_wide_team__law_draw T.g__law_draw T.f__law_draw.kp (bi__law_draw T) tk (da_cons (de_v (i := 0) rfl v__law_wide_team_well) (da_cons de_int da_nil rfl) rfl) (alen_cons (alen_cons alen_nil)) (by decide) rfl rfl) (fun _ _ => rfl)) da_nil rfl) rfl) (alen_cons (alen_cons alen_nil)) (by decide) rfl rfl)) rfl (.inl rfl)) (ds_cons (ds_if (dt_cmp op_le opd_le (de_bin op_mulA (opd_mulA rfl) (de_v (i := 2) rfl v__law_wide_team_product) (de_v (i := 4) rfl v__law_wide_team_places)) de_int rfl) (ds_cons (ds_expr (de_app rfl (de_v (i := 1) rfl v__law_wide_team_found) (de_tup (da_cons (de_v (i := 4) rfl v__law_wide_team_places) (da_cons (de_tup da_nil) (da_cons (de_tup (da_cons (de_callG ((ok__law_draw T).mono (by decide : 1 ≤ 1)) hr hG g__law_wide_team__law_draw T.g__law_draw T.f__law_draw.kp (bi__law_draw T) tk (da_cons (de_v (i := 0) rfl v__law_wide_team_well) (da_cons (de_v (i := 4) rfl v__law_wide_team_places) da_nil rfl) rfl) (alen_cons (alen_cons alen_nil)) (by decide) rfl rfl) (da_cons (de_tup da_nil) da_nil rfl) rfl)) da_nil rfl) rfl) rfl)) rfl rfl rfl rfl rfl) rfl) (ds_cons (ds_setX (i := 2) sc__law_wide_team.nd rfl o__law_wide_team_product (de_bin op_mulA (opd_mulA rfl) (de_v (i := 2) rfl v__law_wide_team_product) (de_v (i := 4) rfl v__law_wide_team_places)) rfl (.inl rfl)) ds_nil)) ds_nil) ds_nil)) (fun _ => rfl)) (ds_cons (ds_ret (de_tup (da_cons (de_tup da_nil) (da_cons (de_cty call_tuple_of (cbd_tuple rfl) g__law_wide_team_tuple T.b_tuple (by decide +kernel) (da_cons (de_v (i := 1) rfl v__law_wide_team_found) da_nil rfl) (by decide) (by decide) rfl rfl) da_nil rfl) rfl))) ds_nil)))
/-! ### _law_bent -/
abbrev N__law_bent : List Str := ["well", "team", "row", "at", "items", "some"]
theorem sc__law_bent : FnScope N__law_bent ["well", "team", "row"] (defScope st__law_bent) := ⟨rfl, rfl, rfl, by decide +kernel, rfl, by decide +kernel, by decide +kernel⟩
theorem v__law_bent_some : Vis (defScope st__law_bent) ("some" : Str) := .inl (by decide +kernel)
theorem g__law_bent_len : ((defScope st__law_bent)).names.lookup ("len" : Str) = some .globalImplicit := by decide +kernel
theorem v__law_bent_well : Vis (defScope st__law_bent) ("well" : Str) := .inl (by decide +kernel)
theorem g__law_bent__law_draw : ((defScope st__law_bent)).names.lookup ("_law_draw" : Str) = some .globalImplicit := by decide +kernel
theorem v__law_bent_row : Vis (defScope st__law_bent) ("row" : Str) := .inl (by decide +kernel)
theorem v__law_bent_at : Vis (defScope st__law_bent) ("at" : Str) := .inl (by decide +kernel)
theorem v__law_bent_items : Vis (defScope st__law_bent) ("items" : Str) := .inl (by decide +kernel)
theorem g__law_bent_list : ((defScope st__law_bent)).names.lookup ("list" : Str) = some .globalImplicit := by decide +kernel
theorem o__law_bent_some : Loc (defScope st__law_bent) ("some" : Str) := .inl (by decide +kernel)
theorem v__law_bent_team : Vis (defScope st__law_bent) ("team" : Str) := .inl (by decide +kernel)
theorem o__law_bent_items : Loc (defScope st__law_bent) ("items" : Str) := .inl (by decide +kernel)
theorem o__law_bent_at : Loc (defScope st__law_bent) ("at" : Str) := .inl (by decide +kernel)
def m__law_bent : M Fl := (sCons (sSetX 3 (eCall true F__law_draw (aCons (eVar 0) (aCons (eCB lenF (aCons (eVar 2) aNil)) aNil)))) (sCons (sSetX 4 (eLst (aCons (eOp2 ixD (eOp2 ixD (eOp2 ixD (eVar 1) (eLit (.int (1)))) (eVar 3)) (eLit (.int (0)))) (aCons (eOp1 negD (eLit (.int (1)))) (aCons (eLit (.bool true)) (aCons (eLit (.str "0")) (aCons (eTup (aCons (eLit (.int (0))) aNil)) (aCons (eLst (aCons (eLit (.int (0))) aNil)) (aCons (eTup (aCons (eOp2 ixD (eOp2 ixD (eOp2 ixD (eVar 1) (eLit (.int (1)))) (eVar 3)) (eLit (.int (0)))) aNil)) (aCons (eTup (aCons (eLit (.int (0))) (aCons (eLit (.int (0))) aNil))) (aCons (eTup (aCons (eOp1 negD (eLit (.int (1)))) aNil)) (aCons (eTup (aCons (eLit (.bool true)) aNil)) (aCons (eLit (.int (0))) (aCons (eLit .none) aNil)))))))))))))) (sCons (sSetX 5 (eOp2 addD (eOp2 mulX (eLst (aCons (eOp2 addD (eOp2 addD (eSl (eVar 2) (mPart none) (mPart (some (eVar 3)))) (eTup (aCons (eOp2 ixD (eVar 4) (eCall true F__law_draw (aCons (eVar 0) (aCons (eLit (.int (12))) aNil)))) aNil))) (eSl (eVar 2) (mPart (some (eOp2 addD (eVar 3) (eLit (.int (1)))))) (mPart none))) aNil)) (eLit (.int (5)))) (eLst (aCons (eSl (eVar 2) (mPart (some (eLit (.int (1))))) (mPart none)) (aCons (eOp2 addD (eVar 2) (eTup (aCons (eLit (.int (0))) aNil))) (aCons (eCB listF (aCons (eVar 2) aNil)) (aCons (eLit .none) (aCons (eLit (.int (0))) (aCons (eTup aNil) aNil))))))))) (sCons (sRet (eOp2 ixD (eVar 5) (eCall true F__law_draw (aCons (eVar 0) (aCons (eCB lenF (aCons (eVar 5) aNil)) aNil))))) sNil))))
def F__law_bent : Fsp := runF true 6 m__law_bent
theorem bi__law_bent (T : Txt Pg K mg a d) : Binds K d._law_bent ["well", "team", "row"] [] := T.f__law_bent.binds fun _ _ _ _ _ _ us hl => match us, hl with | [_, _, _], _ => rfl
theorem ok__law_bent (T : Txt Pg K mg a d) : FnOkG Pg wd K mg base (L2.CX Pg wd) 2 a._law_bent d._law_bent ["well", "team", "row"] (spD ⟨K, mg⟩ true 3 F__law_bent) :=
  fn_okG (k := 1) T.f__law_bent sc__law_bent fun cdv A outer s H E hr hG tk =>
    (ds_cons (ds_setX (i := 3) sc__law_bent.nd rfl o__law_bent_at (de_callG ((ok__law_draw T).mono (by decide : 1 ≤ 1)) hr hG g__law_bent__law_draw T.g__law_draw T.f__law_draw.kp (bi__law_draw T) tk (da_cons (de_v (i := 0) rfl v__law_bent_well) (da_cons (de_cb call_len_seq (cbd_len rfl) g__law_bent_len T.b_len (by decide +kernel) (da_cons (de_v (i := 2) rfl v__law_bent_row) da_nil rfl) (by decide) (by decide) rfl rfl) da_nil rfl) rfl) (alen_cons (alen_cons alen_nil)) (by decide) rfl rfl) rfl (.inl rfl)) (ds_cons (ds_setX (i := 4) sc__law_bent.nd rfl o__law_bent_items (de_lst (da_cons (de_ix rfl (de_ix rfl (de_ix rfl (de_v (i := 1) rfl v__law_bent_team) de_int (fun _ _ => rfl)) (de_v (i := 3) rfl v__law_bent_at) (fun _ _ => rfl)) de_int (fun _ _ => rfl)) (da_cons (de_neg de_int) (da_cons de_bool (da_cons de_str (da_cons (de_tup (da_cons de_int da_nil rfl)) (da_cons (de_lst (da_cons de_int da_nil rfl)) (da_cons (de_tup (da_cons (de_ix rfl (de_ix rfl (de_ix rfl (de_v (i := 1) rfl v__law_bent_team) de_int (fun _ _ => rfl)) (de_v (i := 3) rfl v__law_bent_at) (fun _ _ => rfl)) de_int (fun _ _ => rfl)) da_nil rfl)) (da_cons (de_tup (da_cons de_int (da_cons de_int da_nil rfl) rfl)) (da_cons (de_tup (da_cons (de_neg de_int) da_nil rfl)) (da_cons (de_tup (da_cons de_bool da_nil rfl)) (da_cons de_int (da_cons de_none da_nil rfl) rfl) rfl) rfl) rfl) rfl) rfl) rfl) rfl) rfl) rfl) rfl)) rfl (.inl rfl)) (ds_cons (ds_setX (i := 5) sc__law_bent.nd rfl o__law_bent_some (de_bin op_addA (opd_add rfl) (de_bin op_mulA (opd_mulA rfl) (de_lst (da_cons (de_bin op_addA (opd_add rfl) (de_bin op_addA (opd_add rfl) (de_sl rfl (de_v (i := 2) rfl v__law_bent_row) dp_none (dp_some (de_v (i := 3) rfl v__law_bent_at))) (de_tup (da_cons (de_ix rfl (de_v (i := 4) rfl v__law_bent_items) (de_callG ((ok__law_draw T).mono (by decide : 1 ≤ 1)) hr hG g__law_bent__law_draw T.g__law_draw T.f__law_draw.kp (bi__law_draw T) tk (da_cons (de_v (i := 0) rfl v__law_bent_well) (da_cons de_int da_nil rfl) rfl) (alen_cons (alen_cons alen_nil)) (by decide) rfl rfl) (fun _ _ => rfl)) da_nil rfl))) (de_sl rfl (de_v (i := 2) rfl v__law_bent_row) (dp_some (de_bin op_addA (opd_add rfl) (de_v (i := 3) rfl v__law_bent_at) de_int)) dp_none)) da_nil rfl)) de_int) (de_lst (da_cons (de_sl rfl (de_v (i := 2) rfl v__law_bent_row) (dp_some de_int) dp_none) (da_cons (de_bin op_addA (opd_add rfl) (de_v (i := 2) rfl v__law_bent_row) (de_tup (da_cons de_int da_nil rfl))) (da_cons (de_cty call_list_of (cbd_list rfl) g__law_bent_list T.b_list (by decide +kernel) (da_cons (de_v (i := 2) rfl v__law_bent_row) da_nil rfl) (by decide) (by decide) rfl rfl) (da_cons de_none (da_cons de_int (da_cons (de_tup da_nil) da_nil rfl) rfl) rfl) rfl) rfl) rfl))) rfl (.inl rfl)) (ds_cons (ds_ret (de_ix rfl (de_v (i := 5) rfl v__law_bent_some) (de_callG ((ok__law_draw T).mono (by decide : 1 ≤ 1)) hr hG g__law_bent__law_draw T.g__law_draw T.f__law_draw.kp (bi__law_draw T) tk (da_cons (de_v (i := 0) rfl v__law_bent_well) (da_cons (de_cb call_len_seq (cbd_len rfl) g__law_bent_len T.b_len (by decide +kernel) (da_cons (de_v (i := 5) rfl v__law_bent_some) da_nil rfl) (by decide) (by decide) rfl rfl) da_nil rfl) rfl) (alen_cons (alen_cons alen_nil)) (by decide) rfl rfl) (fun _ _ => rfl))) ds_nil))))
/-! ### _law_are_places -/
abbrev N__law_are_places : List Str := ["team", "value", "item", "party"]
theorem sc__law_are_places : FnScope N__law_are_places ["team", "value"] (defScope st__law_are_places) := ⟨rfl, rfl, rfl, by decide +kernel, rfl, by decide +kernel, by decide +kernel⟩
abbrev bs__law_are_places_b1 : Scope := { kind := .function, names := [(PySem.Str.ofString ".0", .local), (PySem.Str.ofString "item", .local), (PySem.Str.ofString "party", .local), (PySem.Str.ofString "_law_is_int", .globalImplicit)], isGenerator := false, isCoroutine := false, more := [] }
theorem bk__law_are_places_b1 : blkC N__law_are_places (defScope st__law_are_places) bs__law_are_places_b1 [("item", 2), ("party", 3)] = true := by decide +kernel
theorem v__law_are_places_team : Vis (defScope st__law_are_places) ("team" : Str) := .inl (by decide +kernel)
theorem v__law_are_places_value : Vis (defScope st__law_are_places) ("value" : Str) := .inl (by decide +kernel)
theorem g__law_are_places_zip : ((defScope st__law_are_places)).names.lookup ("zip" : Str) = some .globalImplicit := by decide +kernel
theorem o__law_are_places_b1_party : Loc (relS bs__law_are_places_b1 (defScope st__law_are_places)) ("party" : Str) := .inl (by decide +kernel)
theorem l__law_are_places_b1_party : ((relS bs__law_are_places_b1 (defScope st__law_are_places))).names.lookup ("party" : Str) = some .local := by decide +kernel
theorem o__law_are_places_b1_item : Loc (relS bs__law_are_places_b1 (defScope st__law_are_places)) ("item" : Str) := .inl (by decide +kernel)
theorem l__law_are_places_b1_item : ((relS bs__law_are_places_b1 (defScope st__law_are_places))).names.lookup ("item" : Str) = some .local := by decide +kernel
theorem v__law_are_places_b1_party : Vis (relS bs__law_are_places_b1 (defScope st__law_are_places)) ("party" : Str) := .inl (by decide +kernel)
theorem v__law_are_places_b1_item : Vis (relS bs__law_are_places_b1 (defScope st__law_are_places)) ("item" : Str) := .inl (by decide +kernel)
theorem g__law_are_places_b1__law_is_int : ((relS bs__law_are_places_b1 (defScope st__law_are_places))).names.lookup ("_law_is_int" : Str) = some .globalImplicit := by decide +kernel
theorem g__law_are_places_isinstance : ((defScope st__law_are_places)).names.lookup ("isinstance" : Str) = some .globalImplicit := by decide +kernel
theorem g__law_are_places_tuple : ((defScope st__law_are_places)).names.lookup ("tuple" : Str) = some .globalImplicit := by decide +kernel
theorem g__law_are_places_len : ((defScope st__law_are_places)).names.lookup ("len" : Str) = some .globalImplicit := by decide +kernel
def m__law_are_places : M Fl := (sCons (sIf (orT (notT (eB (eIs (isTy "tuple") (fun _ => none) (eVar 1)))) (eB (eOp2 neX (eCB lenF (aCons (eVar 1) aNil)) (eCB lenF (aCons (eOp2 ixD (eVar 0) (eLit (.int (1)))) aNil))))) (sCons (sRet (eLit (.bool false))) sNil) sNil) (sCons (sRet (eOp2 ninX (eLit (.bool false)) (eLc (iZip (aCons (eVar 1) (aCons (eOp2 ixD (eVar 0) (eLit (.int (1)))) aNil))) (.tp [2, 3]) (M.ok true) (eCall false F__law_is_int (aCons (eVar 2) (aCons (eLit (.int (0))) (aCons (eOp2 subD (eOp2 ixD (eVar 3) (eLit (.int (0)))) (eLit (.int (1)))) aNil)))) [2, 3]))) sNil))
def F__law_are_places : Fsp := runF false 4 m__law_are_places
theorem bi__law_are_places (T : Txt Pg K mg a d) : Binds K d._law_are_places ["team", "value"] [] := T.f__law_are_places.binds fun _ _ _ _ _ _ us hl => match us, hl with | [_, _], _ => rfl
theorem ok__law_are_places (T : Txt Pg K mg a d) : FnOkG Pg wd K mg base (L2.CX Pg wd) 2 a._law_are_places d._law_are_places ["team", "value"] (spD ⟨K, mg⟩ false 2 F__law_are_places) :=
  fn_okG (k := 1) T.f__law_are_places sc__law_are_places fun cdv A outer s H E hr hG tk =>
    (ds_cons (ds_if (PW.fin (dw_or (dt_not (dt_val (de_isG rfl g__law_are_places_isinstance T.b_isinstance (de_v (i := 1) rfl v__law_are_places_value) (pe_bltn g__law_are_places_tuple T.b_tuple (by decide +kernel) (v := .ty "tuple") rfl) (.ty "tuple") (fun _ _ h => kit_ty h) (fun _ _ _ h => nomatch h) rfl rfl rfl) (fun _ => rfl))) (pw_or1 (dt_cmp (op_ne.or (op_neD (room_u64 hr))) (opd_neX rfl) (de_cb call_len_seq (cbd_len rfl) g__law_are_places_len T.b_len (by decide +kernel) (da_cons (de_v (i := 1) rfl v__law_are_places_value) da_nil rfl) (by decide) (by decide) rfl rfl) (de_cb call_len_seq (cbd_len rfl) g__law_are_places_len T.b_len (by decide +kernel) (da_cons (de_ix rfl (de_v (i := 0) rfl v__law_are_places_team) de_int (fun _ _ => rfl)) da_nil rfl) (by decide) (by decide) rfl rfl) rfl)))) (ds_cons (ds_ret de_bool) ds_nil) ds_nil) (ds_cons (ds_ret (de_cmp ((op_notInD (room_u65 hr)).or op_notIn_seq) (opd_ninX rfl) de_bool (de_lc rfl sc__law_are_places.nd (di_zip rfl g__law_are_places_zip T.b_zip (da_cons (de_v (i := 1) rfl v__law_are_places_value) (da_cons (de_ix rfl (de_v (i := 0) rfl v__law_are_places_team) de_int (fun _ _ => rfl)) da_nil rfl) rfl) rfl rfl) (own := [("item", 2), ("party", 3)]) (blkOk_by bk__law_are_places_b1) (fun _ _ _ _ _ => (dg_tup rfl rfl (dgs_cons (i := 2) sc__law_are_places.nd rfl o__law_are_places_b1_item (.inr l__law_are_places_b1_item) (dgs_cons (i := 3) sc__law_are_places.nd rfl o__law_are_places_b1_party (.inr l__law_are_places_b1_party) dgs_nil rfl) rfl) rfl rfl)) (fun _ _ _ _ _ => dts_nil) (fun _ _ _ _ _ => (de_callG ((ok__law_is_int T).mono (by decide : 1 ≤ 1)) hr hG g__law_are_places_b1__law_is_int T.g__law_is_int T.f__law_is_int.kp (bi__law_is_int T) takes0 (da_cons (de_v (i := 2) rfl v__law_are_places_b1_item) (da_cons de_int (da_cons (de_bin op_sub opd_sub (de_ix rfl (de_v (i := 3) rfl v__law_are_places_b1_party) de_int (fun _ _ => rfl)) de_int) da_nil rfl) rfl) rfl) (alen_cons (alen_cons (alen_cons alen_nil))) (by decide) rfl rfl)) (fun _ => rfl) (by decide)) rfl)) ds_nil))
/-! ### _law_are_wishes -/
abbrev N__law_are_wishes : List Str := ["team", "value", "item", "party"]
theorem sc__law_are_wishes : FnScope N__law_are_wishes ["team", "value"] (defScope st__law_are_wishes) := ⟨rfl, rfl, rfl, by decide +kernel, rfl, by decide +kernel, by decide +kernel⟩
abbrev bs__law_are_wishes_b1 : Scope := { kind := .function, names := [(PySem.Str.ofString ".0", .local), (PySem.Str.ofString "item", .local), (PySem.Str.ofString "party", .local), (PySem.Str.ofString "_law_rises", .globalImplicit)], isGenerator := false, isCoroutine := false, more := [] }
theorem bk__law_are_wishes_b1 : blkC N__law_are_wishes (defScope st__law_are_wishes) bs__law_are_wishes_b1 [("item", 2), ("party", 3)] = true := by decide +kernel
theorem v__law_are_wishes_team : Vis (defScope st__law_are_wishes) ("team" : Str) := .inl (by decide +kernel)
theorem v__law_are_wishes_value : Vis (defScope st__law_are_wishes) ("value" : Str) := .inl (by decide +kernel)
theorem g__law_are_wishes_zip : ((defScope st__law_are_wishes)).names.lookup ("zip" : Str) = some .globalImplicit := by decide +kernel
theorem o__law_are_wishes_b1_party : Loc (relS bs__law_are_wishes_b1 (defScope st__law_are_wishes)) ("party" : Str) := .inl (by decide +kernel)
theorem l__law_are_wishes_b1_party : ((relS bs__law_are_wishes_b1 (defScope st__law_are_wishes))).names.lookup ("party" : Str) = some .local := by decide +kernel
theorem o__law_are_wishes_b1_item : Loc (relS bs__law_are_wishes_b1 (defScope st__law_are_wishes)) ("item" : Str) := .inl (by decide +kernel)
theorem l__law_are_wishes_b1_item : ((relS bs__law_are_wishes_b1 (defScope st__law_are_wishes))).names.lookup ("item" : Str) = some .local := by decide +kernel
theorem v__law_are_wishes_b1_item : Vis (relS bs__law_are_wishes_b1 (defScope st__law_are_wishes)) ("item" : Str) := .inl (by decide +kernel)
theorem v__law_are_wishes_b1_party : Vis (relS bs__law_are_wishes_b1 (defScope st__law_are_wishes)) ("party" : Str) := .inl (by decide +kernel)
theorem g__law_are_wishes_b1__law_rises : ((relS bs__law_are_wishes_b1 (defScope st__law_are_wishes))).names.lookup ("_law_rises" : Str) = some .globalImplicit := by decide +kernel
theorem g__law_are_wishes_isinstance : ((defScope st__law_are_wishes)).names.lookup ("isinstance" : Str) = some .globalImplicit := by decide +kernel
theorem g__law_are_wishes_tuple : ((defScope st__law_are_wishes)).names.lookup ("tuple" : Str) = some .globalImplicit := by decide +kernel
theorem g__law_are_wishes_len : ((defScope st__law_are_wishes)).names.lookup ("len" : Str) = some .globalImplicit := by decide +kernel
def m__law_are_wishes : M Fl := (sCons (sIf (orT (notT (eB (eIs (isTy "tuple") (fun _ => none) (eVar 1)))) (eB (eOp2 neX (eCB lenF (aCons (eVar 1) aNil)) (eCB lenF (aCons (eOp2 ixD (eVar 0) (eLit (.int (1)))) aNil))))) (sCons (sRet (eLit (.bool false))) sNil) sNil) (sCons (sRet (eOp2 ninX (eLit (.bool false)) (eLc (iZip (aCons (eVar 1) (aCons (eOp2 ixD (eVar 0) (eLit (.int (1)))) aNil))) (.tp [2, 3]) (M.ok true) (orV (eIsN false (eVar 2)) (eCall false F__law_rises (aCons (eVar 2) (aCons (eLit (.int (0))) (aCons (eOp2 subD (eOp2 ixD (eVar 3) (eLit (.int (0)))) (eLit (.int (1)))) aNil))))) [2, 3]))) sNil))
def F__law_are_wishes : Fsp := runF false 4 m__law_are_wishes
theorem bi__law_are_wishes (T : Txt Pg K mg a d) : Binds K d._law_are_wishes ["team", "value"] [] := T.f__law_are_wishes.binds fun _ _ _ _ _ _ us hl => match us, hl with | [_, _], _ => rfl
theorem ok__law_are_wishes (T : Txt Pg K mg a d) : FnOkG Pg wd K mg base (L2.CX Pg wd) 3 a._law_are_wishes d._law_are_wishes ["team", "value"] (spD ⟨K, mg⟩ false 2 F__law_are_wishes) :=
  fn_okG (k := 2) T.f__law_are_wishes sc__law_are_wishes fun cdv A outer s H E hr hG tk =>
    (ds_cons (ds_if (PW.fin (dw_or (dt_not (dt_val (de_isG rfl g__law_are_wishes_isinstance T.b_isinstance (de_v (i := 1) rfl v__law_are_wishes_value) (pe_bltn g__law_are_wishes_tuple T.b_tuple (by decide +kernel) (v := .ty "tuple") rfl) (.ty "tuple") (fun _ _ h => kit_ty h) (fun _ _ _ h => nomatch h) rfl rfl rfl) (fun _ => rfl))) (pw_or1 (dt_cmp (op_ne.or (op_neD (room_u64 hr))) (opd_neX rfl) (de_cb call_len_seq (cbd_len rfl) g__law_are_wishes_len T.b_len (by decide +kernel) (da_cons (de_v (i := 1) rfl v__law_are_wishes_value) da_nil rfl) (by decide) (by decide) rfl rfl) (de_cb call_len_seq (cbd_len rfl) g__law_are_wishes_len T.b_len (by decide +kernel) (da_cons (de_ix rfl (de_v (i := 0) rfl v__law_are_wishes_team) de_int (fun _ _ => rfl)) da_nil rfl) (by decide) (by decide) rfl rfl) rfl)))) (ds_cons (ds_ret de_bool) ds_nil) ds_nil) (ds_cons (ds_ret (de_cmp ((op_notInD (room_u65 hr)).or op_notIn_seq) (opd_ninX rfl) de_bool (de_lc rfl sc__law_are_wishes.nd (di_zip rfl g__law_are_wishes_zip T.b_zip (da_cons (de_v (i := 1) rfl v__law_are_wishes_value) (da_cons (de_ix rfl (de_v (i := 0) rfl v__law_are_wishes_team) de_int (fun _ _ => rfl)) da_nil rfl) rfl) rfl rfl) (own := [("item", 2), ("party", 3)]) (blkOk_by bk__law_are_wishes_b1) (fun _ _ _ _ _ => (dg_tup rfl rfl (dgs_cons (i := 2) sc__law_are_wishes.nd rfl o__law_are_wishes_b1_item (.inr l__law_are_wishes_b1_item) (dgs_cons (i := 3) sc__law_are_wishes.nd rfl o__law_are_wishes_b1_party (.inr l__law_are_wishes_b1_party) dgs_nil rfl) rfl) rfl rfl)) (fun _ _ _ _ _ => dts_nil) (fun _ _ _ _ _ => (de_or (de_isNx (de_v (i := 2) rfl v__law_are_wishes_b1_item)) (pe_one (de_callG ((ok__law_rises T).mono (by decide : 2 ≤ 2)) hr hG g__law_are_wishes_b1__law_rises T.g__law_rises T.f__law_rises.kp (bi__law_rises T) takes0 (da_cons (de_v (i := 2) rfl v__law_are_wishes_b1_item) (da_cons de_int (da_cons (de_bin op_sub opd_sub (de_ix rfl (de_v (i := 3) rfl v__law_are_wishes_b1_party) de_int (fun _ _ => rfl)) de_int) da_nil rfl) rfl) rfl) (alen_cons (alen_cons (alen_cons alen_nil))) (by decide) rfl rfl)))) (fun _ => rfl) (by decide)) rfl)) ds_nil))
/-! ### _law_goals_due -/
abbrev N__law_goals_due : List Str := ["spots", "wishes", "found", "number", "spot", "at", "own"]
theorem sc__law_goals_due : FnScope N__law_goals_due ["spots", "wishes"] (defScope st__law_goals_due) := ⟨rfl, rfl, rfl, by decide +kernel, rfl, by decide +kernel, by decide +kernel⟩
abbrev bs__law_goals_due_b1 : Scope := { kind := .function, names := [(PySem.Str.ofString ".0", .local), (PySem.Str.ofString "at", .local), (PySem.Str.ofString "own", .local)], isGenerator := false, isCoroutine := false, more := [] }
theorem bk__law_goals_due_b1 : blkC N__law_goals_due (defScope st__law_goals_due) bs__law_goals_due_b1 [("at", 5), ("own", 6)] = true := by decide +kernel
theorem g__law_goals_due_tuple : ((defScope st__law_goals_due)).names.lookup ("tuple" : Str) = some .globalImplicit := by decide +kernel
theorem v__law_goals_due_found : Vis (defScope st__law_goals_due) ("found" : Str) := .inl (by decide +kernel)
theorem v__law_goals_due_spots : Vis (defScope st__law_goals_due) ("spots" : Str) := .inl (by decide +kernel)
theorem g__law_goals_due_enumerate : ((defScope st__law_goals_due)).names.lookup ("enumerate" : Str) = some .globalImplicit := by decide +kernel
theorem o__law_goals_due_spot : Loc (defScope st__law_goals_due) ("spot" : Str) := .inl (by decide +kernel)
theorem o__law_goals_due_number : Loc (defScope st__law_goals_due) ("number" : Str) := .inl (by decide +kernel)
theorem v__law_goals_due_wishes : Vis (defScope st__law_goals_due) ("wishes" : Str) := .inl (by decide +kernel)
theorem v__law_goals_due_spot : Vis (defScope st__law_goals_due) ("spot" : Str) := .inl (by decide +kernel)
theorem g__law_goals_due_zip : ((defScope st__law_goals_due)).names.lookup ("zip" : Str) = some .globalImplicit := by decide +kernel
theorem o__law_goals_due_b1_own : Loc (relS bs__law_goals_due_b1 (defScope st__law_goals_due)) ("own" : Str) := .inl (by decide +kernel)
theorem l__law_goals_due_b1_own : ((relS bs__law_goals_due_b1 (defScope st__law_goals_due))).names.lookup ("own" : Str) = some .local := by decide +kernel
theorem o__law_goals_due_b1_at : Loc (relS bs__law_goals_due_b1 (defScope st__law_goals_due)) ("at" : Str) := .inl (by decide +kernel)
theorem l__law_goals_due_b1_at : ((relS bs__law_goals_due_b1 (defScope st__law_goals_due))).names.lookup ("at" : Str) = some .local := by decide +kernel
theorem v__law_goals_due_b1_own : Vis (relS bs__law_goals_due_b1 (defScope st__law_goals_due)) ("own" : Str) := .inl (by decide +kernel)
theorem v__law_goals_due_b1_at : Vis (relS bs__law_goals_due_b1 (defScope st__law_goals_due)) ("at" : Str) := .inl (by decide +kernel)
theorem v__law_goals_due_number : Vis (defScope st__law_goals_due) ("number" : Str) := .inl (by decide +kernel)
theorem o__law_goals_due_found : Loc (defScope st__law_goals_due) ("found" : Str) := .inl (by decide +kernel)
def m__law_goals_due : M Fl := (sCons (sSetN 2 (nLst aNil)) (sCons (sFor (iEnm (aCons (eVar 0) aNil)) (.tp [3, 4]) (sCons (sIf (eB (eOp2 eqX (eLc (iZip (aCons (eVar 4) (aCons (eVar 1) aNil))) (.tp [5, 6]) (andT (eB (eIsN true (eVar 6))) (eB (eOp2 ninX (eVar 5) (eVar 6)))) (eVar 5) [5, 6]) (eLst aNil))) (sCons (sExpr (eAp (eVar 2) (eVar 3))) sNil) sNil) sNil)) (sCons (sRet (eCB tupleF (aCons (eVar 2) aNil))) sNil)))
def F__law_goals_due : Fsp := runF false 7 m__law_goals_due
theorem bi__law_goals_due (T : Txt Pg K mg a d) : Binds K d._law_goals_due ["spots", "wishes"] [] := T.f__law_goals_due.binds fun _ _ _ _ _ _ us hl => match us, hl with | [_, _], _ => rfl
theorem ok__law_goals_due (T : Txt Pg K mg a d) : FnOkG Pg wd K mg base (L2.CX Pg wd) 1 a._law_goals_due d._law_goals_due ["spots", "wishes"] (spD ⟨K, mg⟩ false 2 F__law_goals_due) :=
  fn_okG (k := 0) T.f__law_goals_due sc__law_goals_due fun cdv A outer s H E hr hG tk =>
    (ds_cons (ds_setN (i := 2) sc__law_goals_due.nd rfl o__law_goals_due_found (dn_lst da_nil) rfl (.inl rfl)) (ds_cons (ds_for PassesOwn.leaving rfl (di_enum rfl g__law_goals_due_enumerate T.b_enumerate (da_cons (de_v (i := 0) rfl v__law_goals_due_spots) da_nil rfl) rfl) (dg_tup rfl rfl (dgs_cons (i := 3) sc__law_goals_due.nd rfl o__law_goals_due_number ((.inl rfl)) (dgs_cons (i := 4) sc__law_goals_due.nd rfl o__law_goals_due_spot ((.inl rfl)) dgs_nil rfl) rfl) rfl rfl) (ds_cons (ds_if (dt_cmp (op_eq.or (op_eqD (room_u64 hr))) (opd_eqX rfl) (de_lc rfl sc__law_goals_due.nd (di_zip rfl g__law_goals_due_zip T.b_zip (da_cons (de_v (i := 4) rfl v__law_goals_due_spot) (da_cons (de_v (i := 1) rfl v__law_goals_due_wishes) da_nil rfl) rfl) rfl rfl) (own := [("at", 5), ("own", 6)]) (blkOk_by bk__law_goals_due_b1) (fun _ _ _ _ _ => (dg_tup rfl rfl (dgs_cons (i := 5) sc__law_goals_due.nd rfl o__law_goals_due_b1_at (.inr l__law_goals_due_b1_at) (dgs_cons (i := 6) sc__law_goals_due.nd rfl o__law_goals_due_b1_own (.inr l__law_goals_due_b1_own) dgs_nil rfl) rfl) rfl rfl)) (fun _ _ _ _ _ => (dts_one (PW.fin (dw_and (dt_notNx (de_v (i := 6) rfl v__law_goals_due_b1_own)) (pw_and1 (dt_cmp ((op_notInD (room_u65 hr)).or op_notIn_seq) (opd_ninX rfl) (de_v (i := 5) rfl v__law_goals_due_b1_at) (de_v (i := 6) rfl v__law_goals_due_b1_own) rfl)))))) (fun _ _ _ _ _ => (de_v (i := 5) rfl v__law_goals_due_b1_at)) (fun _ => rfl) (by decide)) (de_lst da_nil) rfl) (ds_cons (ds_expr (de_app rfl (de_v (i := 2) rfl v__law_goals_due_found) (de_v (i := 3) rfl v__law_goals_due_number) rfl rfl rfl rfl rfl) rfl) ds_nil) ds_nil) ds_nil) (fun _ => rfl)) (ds_cons (ds_ret (de_cty call_tuple_of (cbd_tuple rfl) g__law_goals_due_tuple T.b_tuple (by decide +kernel) (da_cons (de_v (i := 2) rfl v__law_goals_due_found) da_nil rfl) (by decide) (by decide) rfl rfl)) ds_nil)))
theorem kwb_place_of_1_0 (T : Txt Pg K mg a d) : KwB d.place_of ["team", "places"] ["places", "team"] [1, 0] := kwB_of T.f_place_of fun _ _ _ _ _ _ ws hl => match ws, hl with | [_, _], _ => rfl
/-! ### _law_refused -/
abbrev N__law_refused : List Str := ["which", "team", "thing", "caught", "e", "kinds"]
theorem sc__law_refused : FnScope N__law_refused ["which", "team", "thing"] (defScope st__law_refused) := ⟨rfl, rfl, rfl, by decide +kernel, rfl, by decide +kernel, by decide +kernel⟩
theorem v__law_refused_kinds : Vis (defScope st__law_refused) ("kinds" : Str) := .inl (by decide +kernel)
theorem v__law_refused_which : Vis (defScope st__law_refused) ("which" : Str) := .inl (by decide +kernel)
theorem g__law_refused_repr : ((defScope st__law_refused)).names.lookup ("repr" : Str) = some .globalImplicit := by decide +kernel
theorem v__law_refused_caught : Vis (defScope st__law_refused) ("caught" : Str) := .inl (by decide +kernel)
theorem v__law_refused_thing : Vis (defScope st__law_refused) ("thing" : Str) := .inl (by decide +kernel)
theorem g__law_refused_isinstance : ((defScope st__law_refused)).names.lookup ("isinstance" : Str) = some .globalImplicit := by decide +kernel
theorem g__law_refused_InvalidTeam : ((defScope st__law_refused)).names.lookup ("InvalidTeam" : Str) = some .globalImplicit := by decide +kernel
theorem g__law_refused_InvalidNumber : ((defScope st__law_refused)).names.lookup ("InvalidNumber" : Str) = some .globalImplicit := by decide +kernel
theorem g__law_refused_InvalidPlaces : ((defScope st__law_refused)).names.lookup ("InvalidPlaces" : Str) = some .globalImplicit := by decide +kernel
theorem o__law_refused_kinds : Loc (defScope st__law_refused) ("kinds" : Str) := .inl (by decide +kernel)
theorem v__law_refused_team : Vis (defScope st__law_refused) ("team" : Str) := .inl (by decide +kernel)
theorem g__law_refused_place_of : ((defScope st__law_refused)).names.lookup ("place_of" : Str) = some .globalImplicit := by decide +kernel
theorem g__law_refused_goals_with : ((defScope st__law_refused)).names.lookup ("goals_with" : Str) = some .globalImplicit := by decide +kernel
theorem g__law_refused_places_at : ((defScope st__law_refused)).names.lookup ("places_at" : Str) = some .globalImplicit := by decide +kernel
theorem v__law_refused_e : Vis (defScope st__law_refused) ("e" : Str) := .inl (by decide +kernel)
theorem o__law_refused_caught : Loc (defScope st__law_refused) ("caught" : Str) := .inl (by decide +kernel)
theorem l__law_refused_e : ((defScope st__law_refused)).names.lookup ("e" : Str) = some .local := by decide +kernel
theorem g__law_refused_LeaseError : ((defScope st__law_refused)).names.lookup ("LeaseError" : Str) = some .globalImplicit := by decide +kernel
def m__law_refused : M Fl := (sCons (sSetX 3 (eLit .none)) (sCons (sTry isCls2 4 (sCons (sIf (eB (eOp2 eqX (eVar 0) (eLit (.int (0))))) (sCons (sExpr (eCallK [1, 0] F_place_of (aCons (eVar 2) (aCons (eVar 1) aNil)))) sNil) (sCons (sIf (eB (eOp2 eqX (eVar 0) (eLit (.int (1))))) (sCons (sExpr (eCall false F_goals_with (aCons (eVar 1) (aCons (eVar 2) aNil)))) sNil) (sCons (sExpr (eCall false F_places_at (aCons (eVar 1) (aCons (eVar 2) aNil)))) sNil)) sNil)) sNil) (sCons (sSetX 3 (eVar 4)) sNil)) (sCons (sSetX 5 (eLst (aCons (eIs isNon (isEx "InvalidPlaces") (eVar 3)) (aCons (eIs isNon (isEx "InvalidNumber") (eVar 3)) (aCons (eIs isNon (isEx "InvalidTeam") (eVar 3)) aNil))))) (sCons (sRet (andV (eOp2 eqX (eVar 5) (eLst (aCons (eOp2 ltD (eVar 0) (eLit (.int (2)))) (aCons (eOp2 eqX (eVar 0) (eLit (.int (2)))) (aCons (eLit (.bool false)) aNil))))) (eOp2 eqX (eCB reprF (aCons (eVal isCls (eVar 3)) aNil)) (eCB reprF (aCons (eVar 2) aNil))))) sNil))))
def F__law_refused : Fsp := runF false 6 m__law_refused
theorem bi__law_refused (T : Txt Pg K mg a d) : Binds K d._law_refused ["which", "team", "thing"] [] := T.f__law_refused.binds fun _ _ _ _ _ _ us hl => match us, hl with | [_, _, _], _ => rfl
theorem ok__law_refused (T : Txt Pg K mg a d) : FnOkG Pg wd K mg base (L2.CX Pg wd) 12 a._law_refused d._law_refused ["which", "team", "thing"] (spD ⟨K, mg⟩ false 3 F__law_refused) :=
  fn_okG (k := 11) T.f__law_refused sc__law_refused fun cdv A outer s H E hr hG tk =>
    (ds_cons (ds_setX (i := 3) sc__law_refused.nd rfl o__law_refused_caught de_none rfl (.inl rfl)) (ds_cons (ds_try (i := 4) rfl rfl rfl rfl sc__law_refused.nd rfl l__law_refused_e ⟨g__law_refused_LeaseError, by decide, .inl T.k_LeaseError⟩ tk T.caOk (fun W pn xe tk' hpo => (ds_cons (ds_if (dt_cmp (op_eq.or (op_eqD (room_u64 hr))) (opd_eqX rfl) (de_v (i := 0) rfl v__law_refused_which) de_int rfl) (ds_cons (ds_expr (de_kw ((ok_place_of T).mono (by decide : 11 ≤ 11)) hr hG g__law_refused_place_of T.g_place_of T.f_place_of.kp (kwb_place_of_1_0 T) tk' (dk_cons (de_v (i := 2) rfl v__law_refused_thing) (dk_cons (de_v (i := 1) rfl v__law_refused_team) dk_nil)) (alen_cons (alen_cons alen_nil)) rfl (fun vs h => match vs, h with | [_, _], _ => rfl) rfl rfl rfl rfl) rfl) ds_nil) (ds_cons (ds_if (dt_cmp (op_eq.or (op_eqD (room_u64 hr))) (opd_eqX rfl) (de_v (i := 0) rfl v__law_refused_which) de_int rfl) (ds_cons (ds_expr (de_callG ((ok_goals_with T).mono (by decide : 11 ≤ 11)) hr hG g__law_refused_goals_with T.g_goals_with T.f_goals_with.kp (bi_goals_with T) tk' (da_cons (de_v (i := 1) rfl v__law_refused_team) (da_cons (de_v (i := 2) rfl v__law_refused_thing) da_nil rfl) rfl) (alen_cons (alen_cons alen_nil)) (by decide) rfl rfl) rfl) ds_nil) (ds_cons (ds_expr (de_callG ((ok_places_at T).mono (by decide : 11 ≤ 11)) hr hG g__law_refused_places_at T.g_places_at T.f_places_at.kp (bi_places_at T) tk' (da_cons (de_v (i := 1) rfl v__law_refused_team) (da_cons (de_v (i := 2) rfl v__law_refused_thing) da_nil rfl) rfl) (alen_cons (alen_cons alen_nil)) (by decide) rfl rfl) rfl) ds_nil)) ds_nil)) ds_nil)) (fun a pn => (ds_cons (ds_setX (i := 3) sc__law_refused.nd rfl o__law_refused_caught (de_v (i := 4) rfl v__law_refused_e) rfl (.inl rfl)) ds_nil))) (ds_cons (ds_setX (i := 5) sc__law_refused.nd rfl o__law_refused_kinds (de_lst (da_cons (de_isG rfl g__law_refused_isinstance T.b_isinstance (de_v (i := 3) rfl v__law_refused_caught) (pe_glob g__law_refused_InvalidPlaces T.k_InvalidPlaces (v := .ref a.k_InvalidPlaces) rfl) (.own _) T.nn_InvalidPlaces T.ie_InvalidPlaces rfl rfl rfl) (da_cons (de_isG rfl g__law_refused_isinstance T.b_isinstance (de_v (i := 3) rfl v__law_refused_caught) (pe_glob g__law_refused_InvalidNumber T.k_InvalidNumber (v := .ref a.k_InvalidNumber) rfl) (.own _) T.nn_InvalidNumber T.ie_InvalidNumber rfl rfl rfl) (da_cons (de_isG rfl g__law_refused_isinstance T.b_isinstance (de_v (i := 3) rfl v__law_refused_caught) (pe_glob g__law_refused_InvalidTeam T.k_InvalidTeam (v := .ref a.k_InvalidTeam) rfl) (.own _) T.nn_InvalidTeam T.ie_InvalidTeam rfl rfl rfl) da_nil rfl) rfl) rfl)) rfl (.inl rfl)) (ds_cons (ds_ret (de_and (de_cmp (op_eq.or (op_eqD (room_u64 hr))) (opd_eqX rfl) (de_v (i := 5) rfl v__law_refused_kinds) (de_lst (da_cons (de_cmp op_lt opd_lt (de_v (i := 0) rfl v__law_refused_which) de_int rfl) (da_cons (de_cmp (op_eq.or (op_eqD (room_u64 hr))) (opd_eqX rfl) (de_v (i := 0) rfl v__law_refused_which) de_int rfl) (da_cons de_bool da_nil rfl) rfl) rfl)) rfl) (pe_one (de_cmp (op_eq.or (op_eqD (room_u64 hr))) (opd_eqX rfl) (de_cb (call_reprG hG (room_u hr)) (cbd_repr rfl) g__law_refused_repr T.b_repr (by decide +kernel) (da_cons (de_val rfl (de_v (i := 3) rfl v__law_refused_caught) T.valOk rfl) da_nil rfl) (by decide) (by decide) rfl rfl) (de_cb (call_reprG hG (room_u hr)) (cbd_repr rfl) g__law_refused_repr T.b_repr (by decide +kernel) (da_cons (de_v (i := 2) rfl v__law_refused_thing) da_nil rfl) (by decide) (by decide) rfl rfl) rfl)))) ds_nil))))
theorem kwb_goals_with_1_0 (T : Txt Pg K mg a d) : KwB d.goals_with ["team", "wanted"] ["wanted", "team"] [1, 0] := kwB_of T.f_goals_with fun _ _ _ _ _ _ ws hl => match ws, hl with | [_, _], _ => rfl
theorem kwb_places_at_1_0 (T : Txt Pg K mg a d) : KwB d.places_at ["team", "place"] ["place", "team"] [1, 0] := kwB_of T.f_places_at fun _ _ _ _ _ _ ws hl => match ws, hl with | [_, _], _ => rfl
/-! ### law -/
abbrev N_law : List Str := ["script", "k", "well", "turn", "team", "spots", "step", "number", "told", "wishes", "due", "which", "row", "bent", "fits", "party"]
theorem sc_law : FnScope N_law ["script"] (defScope st_law) := ⟨rfl, rfl, rfl, by decide +kernel, rfl, by decide +kernel, by decide +kernel⟩
abbrev bs_law_b1 : Scope := { kind := .function, names := [(PySem.Str.ofString ".0", .local), (PySem.Str.ofString "party", .local), (PySem.Str.ofString "_law_draw", .globalImplicit), (PySem.Str.ofString "_law_some", .globalImplicit), (PySem.Str.ofString "well", .free)], isGenerator := false, isCoroutine := false, more := [] }
theorem bk_law_b1 : blkC N_law (defScope st_law) bs_law_b1 [("party", 15)] = true := by decide +kernel
theorem g_law_max : ((defScope st_law)).names.lookup ("max" : Str) = some .globalImplicit := by decide +kernel
theorem g_law_min : ((defScope st_law)).names.lookup ("min" : Str) = some .globalImplicit := by decide +kernel
theorem g_law_len : ((defScope st_law)).names.lookup ("len" : Str) = some .globalImplicit := by decide +kernel
theorem v_law_script : Vis (defScope st_law) ("script" : Str) := .inl (by decide +kernel)
theorem g_law_range : ((defScope st_law)).names.lookup ("range" : Str) = some .globalImplicit := by decide +kernel
theorem o_law_k : Loc (defScope st_law) ("k" : Str) := .inl (by decide +kernel)
theorem o_law_turn : Loc (defScope st_law) ("turn" : Str) := .inl (by decide +kernel)
theorem v_law_spots : Vis (defScope st_law) ("spots" : Str) := .inl (by decide +kernel)
theorem v_law_well : Vis (defScope st_law) ("well" : Str) := .inr (.inl (by decide +kernel))
theorem g_law__law_draw : ((defScope st_law)).names.lookup ("_law_draw" : Str) = some .globalImplicit := by decide +kernel
theorem v_law_team : Vis (defScope st_law) ("team" : Str) := .inl (by decide +kernel)
theorem g_law__law_refused : ((defScope st_law)).names.lookup ("_law_refused" : Str) = some .globalImplicit := by decide +kernel
theorem o_law_step : Loc (defScope st_law) ("step" : Str) := .inl (by decide +kernel)
theorem v_law_wishes : Vis (defScope st_law) ("wishes" : Str) := .inl (by decide +kernel)
theorem v_law_number : Vis (defScope st_law) ("number" : Str) := .inl (by decide +kernel)
theorem o_law_row : Loc (defScope st_law) ("row" : Str) := .inl (by decide +kernel)
theorem o_law_which : Loc (defScope st_law) ("which" : Str) := .inl (by decide +kernel)
theorem v_law_fits : Vis (defScope st_law) ("fits" : Str) := .inl (by decide +kernel)
theorem v_law_bent : Vis (defScope st_law) ("bent" : Str) := .inl (by decide +kernel)
theorem v_law_which : Vis (defScope st_law) ("which" : Str) := .inl (by decide +kernel)
theorem g_law__law_are_wishes : ((defScope st_law)).names.lookup ("_law_are_wishes" : Str) = some .globalImplicit := by decide +kernel
theorem g_law__law_are_places : ((defScope st_law)).names.lookup ("_law_are_places" : Str) = some .globalImplicit := by decide +kernel
theorem o_law_fits : Loc (defScope st_law) ("fits" : Str) := .inl (by decide +kernel)
theorem v_law_row : Vis (defScope st_law) ("row" : Str) := .inl (by decide +kernel)
theorem g_law__law_bent : ((defScope st_law)).names.lookup ("_law_bent" : Str) = some .globalImplicit := by decide +kernel
theorem o_law_bent : Loc (defScope st_law) ("bent" : Str) := .inl (by decide +kernel)
theorem g_law_repr : ((defScope st_law)).names.lookup ("repr" : Str) = some .globalImplicit := by decide +kernel
theorem g_law_goals_with : ((defScope st_law)).names.lookup ("goals_with" : Str) = some .globalImplicit := by decide +kernel
theorem v_law_due : Vis (defScope st_law) ("due" : Str) := .inl (by decide +kernel)
theorem g_law__law_goals_due : ((defScope st_law)).names.lookup ("_law_goals_due" : Str) = some .globalImplicit := by decide +kernel
theorem o_law_due : Loc (defScope st_law) ("due" : Str) := .inl (by decide +kernel)
theorem g_law_tuple : ((defScope st_law)).names.lookup ("tuple" : Str) = some .globalImplicit := by decide +kernel
theorem o_law_b1_party : Loc (relS bs_law_b1 (defScope st_law)) ("party" : Str) := .inl (by decide +kernel)
theorem l_law_b1_party : ((relS bs_law_b1 (defScope st_law))).names.lookup ("party" : Str) = some .local := by decide +kernel
theorem v_law_b1_well : Vis (relS bs_law_b1 (defScope st_law)) ("well" : Str) := .inr (.inl (by decide +kernel))
theorem g_law_b1__law_draw : ((relS bs_law_b1 (defScope st_law))).names.lookup ("_law_draw" : Str) = some .globalImplicit := by decide +kernel
theorem v_law_b1_party : Vis (relS bs_law_b1 (defScope st_law)) ("party" : Str) := .inl (by decide +kernel)
theorem g_law_b1__law_some : ((relS bs_law_b1 (defScope st_law))).names.lookup ("_law_some" : Str) = some .globalImplicit := by decide +kernel
theorem o_law_wishes : Loc (defScope st_law) ("wishes" : Str) := .inl (by decide +kernel)
theorem g_law_places_at : ((defScope st_law)).names.lookup ("places_at" : Str) = some .globalImplicit := by decide +kernel
theorem v_law_told : Vis (defScope st_law) ("told" : Str) := .inl (by decide +kernel)
theorem g_law_place_of : ((defScope st_law)).names.lookup ("place_of" : Str) = some .globalImplicit := by decide +kernel
theorem o_law_told : Loc (defScope st_law) ("told" : Str) := .inl (by decide +kernel)
theorem o_law_number : Loc (defScope st_law) ("number" : Str) := .inl (by decide +kernel)
theorem g_law__law_spots : ((defScope st_law)).names.lookup ("_law_spots" : Str) = some .globalImplicit := by decide +kernel
theorem o_law_spots : Loc (defScope st_law) ("spots" : Str) := .inl (by decide +kernel)
theorem g_law__law_wide_team : ((defScope st_law)).names.lookup ("_law_wide_team" : Str) = some .globalImplicit := by decide +kernel
theorem o_law_team : Loc (defScope st_law) ("team" : Str) := .inl (by decide +kernel)
theorem v_law_k : Vis (defScope st_law) ("k" : Str) := .inl (by decide +kernel)
theorem g_law__law_well : ((defScope st_law)).names.lookup ("_law_well" : Str) = some .globalImplicit := by decide +kernel
theorem o_law_well : Loc (defScope st_law) ("well" : Str) := .inr (by decide +kernel)
def m_law : M Fl := (sCons (sFor (iRng (aCons (eCB maxF (aCons (eLit (.int (1))) (aCons (eCB minF (aCons (eLit (.int (4))) (aCons (eCB lenF (aCons (eVar 0) aNil)) aNil))) aNil))) aNil)) (.nm 1) (sCons (sSetN 2 (nCall false F__law_well (aCons (eVar 0) (aCons (eVar 1) aNil)))) (sCons (sFor (iRng (aCons (eLit (.int (3))) aNil)) (.nm 3) (sCons (sSetX 4 (eCall true F__law_wide_team (aCons (eVar 2) aNil))) (sCons (sSetX 5 (eCall false F__law_spots (aCons (eVar 4) aNil))) (sCons (sFor (iRng (aCons (eLit (.int (6))) aNil)) (.nm 6) (sCons (sSetX 7 (eCall true F__law_draw (aCons (eVar 2) (aCons (eCB lenF (aCons (eVar 5) aNil)) aNil)))) (sCons (sSetX 8 (eLst (aCons (eCall false F_place_of (aCons (eVar 4) (aCons (eOp2 ixD (eVar 5) (eVar 7)) aNil))) (aCons (eCallK [1, 0] F_place_of (aCons (eOp2 ixD (eVar 5) (eVar 7)) (aCons (eVar 4) aNil))) aNil)))) (sCons (sIf (eB (eOp2 neX (eCB reprF (aCons (eVar 8) aNil)) (eCB reprF (aCons (eLst (aCons (eVar 7) (aCons (eVar 7) aNil))) aNil)))) (sCons (sRet (eLit (.bool false))) sNil) sNil) (sCons (sIf (eB (eOp2 neX (eCB reprF (aCons (eLst (aCons (eCall false F_places_at (aCons (eVar 4) (aCons (eVar 7) aNil))) (aCons (eCallK [1, 0] F_places_at (aCons (eVar 7) (aCons (eVar 4) aNil))) aNil))) aNil)) (eCB reprF (aCons (eOp2 mulX (eLst (aCons (eOp2 ixD (eVar 5) (eVar 7)) aNil)) (eLit (.int (2)))) aNil)))) (sCons (sRet (eLit (.bool false))) sNil) sNil) (sCons (sSetX 9 (eCB tupleF (aCons (eLc (iDat (eOp2 ixD (eVar 4) (eLit (.int (1))))) (.nm 15) (M.ok true) (ifV (eB (eOp2 eqX (eCall true F__law_draw (aCons (eVar 2) (aCons (eLit (.int (3))) aNil))) (eLit (.int (0))))) (eLit .none) (eCall true F__law_some (aCons (eVar 2) (aCons (eOp2 ixD (eVar 15) (eLit (.int (0)))) (aCons (eLit (.int (2))) aNil))))) [15]) aNil))) (sCons (sSetX 10 (eCall false F__law_goals_due (aCons (eVar 5) (aCons (eVar 9) aNil)))) (sCons (sIf (eB (eOp2 neX (eCB reprF (aCons (eLst (aCons (eCall false F_goals_with (aCons (eVar 4) (aCons (eVar 9) aNil))) (aCons (eCallK [1, 0] F_goals_with (aCons (eVar 9) (aCons (eVar 4) aNil))) aNil))) aNil)) (eCB reprF (aCons (eLst (aCons (eVar 10) (aCons (eVar 10) aNil))) aNil)))) (sCons (sRet (eLit (.bool false))) sNil) sNil) (sCons (sFor (iDat (eTup (aCons (eTup (aCons (eLit (.int (0))) (aCons (eOp2 ixD (eVar 5) (eVar 7)) aNil))) (aCons (eTup (aCons (eLit (.int (1))) (aCons (eVar 9) aNil))) aNil)))) (.tp [11, 12]) (sCons (sSetX 13 (eCall true F__law_bent (aCons (eVar 2) (aCons (eVar 4) (aCons (eVar 12) aNil))))) (sCons (sSetX 14 (eOp2 ixD (eLst (aCons (eCall false F__law_are_places (aCons (eVar 4) (aCons (eVar 13) aNil))) (aCons (eCall false F__law_are_wishes (aCons (eVar 4) (aCons (eVar 13) aNil))) aNil))) (eVar 11))) (sCons (sIf (andT (notT (eB (eVar 14))) (notT (eB (eCall false F__law_refused (aCons (eVar 11) (aCons (eVar 4) (aCons (eVar 13) aNil))))))) (sCons (sRet (eLit (.bool false))) sNil) sNil) sNil)))) sNil))))))))) (sCons (sIf (notT (eB (eCall false F__law_refused (aCons (eLit (.int (2))) (aCons (eVar 4) (aCons (eOp2 ixD (eLst (aCons (eOp1 negD (eLit (.int (1)))) (aCons (eCB lenF (aCons (eVar 5) aNil)) (aCons (eOp2 powD (eLit (.int (10))) (eLit (.int (9)))) aNil)))) (eCall true F__law_draw (aCons (eVar 2) (aCons (eLit (.int (3))) aNil)))) aNil)))))) (sCons (sRet (eLit (.bool false))) sNil) sNil) sNil))))) sNil))) (sCons (sRet (eLit (.bool true))) sNil))
def F_law : Fsp := runF false 16 m_law
theorem bi_law (T : Txt Pg K mg a d) : Binds K d.law ["script"] [] := T.f_law.binds fun _ _ _ _ _ _ us hl => match us, hl with | [_], _ => rfl
theorem ok_law (T : Txt Pg K mg a d) : FnOkG Pg wd K mg base (L2.CX Pg wd) 13 a.law d.law ["script"] (spD ⟨K, mg⟩ false 1 F_law) :=
  fn_okG (k := 12) T.f_law sc_law fun cdv A outer s H E hr hG tk =>
    (ds_cons (ds_for PassesOwn.leaving rfl (di_rng1 (alen_cons alen_nil) g_law_range T.b_range (da_cons (de_cb (call_max2 rfl) cbd_max g_law_max T.b_max (by decide +kernel) (da_cons de_int (da_cons (de_cb (call_min2 rfl) cbd_min g_law_min T.b_min (by decide +kernel) (da_cons de_int (da_cons (de_cb call_len_seq (cbd_len rfl) g_law_len T.b_len (by decide +kernel) (da_cons (de_v (i := 0) rfl v_law_script) da_nil rfl) (by decide) (by decide) rfl rfl) da_nil rfl) rfl) (by decide) (by decide) rfl rfl) da_nil rfl) rfl) (by decide) (by decide) rfl rfl) da_nil rfl) rfl) (dg_name (i := 1) sc_law.nd rfl o_law_k ((.inl rfl))) (ds_cons (ds_setN (i := 2) sc_law.nd rfl o_law_well (dn_callG ((ok__law_well T).mono (by decide : 1 ≤ 12)) hr hG g_law__law_well T.g__law_well T.f__law_well.kp (bi__law_well T) tk (da_cons (de_v (i := 0) rfl v_law_script) (da_cons (de_v (i := 1) rfl v_law_k) da_nil rfl) rfl) (alen_cons (alen_cons alen_nil)) (by decide) rfl rfl) rfl (.inl rfl)) (ds_cons (ds_for PassesOwn.leaving rfl (di_rng1 (alen_cons alen_nil) g_law_range T.b_range (da_cons de_int da_nil rfl) rfl) (dg_name (i := 3) sc_law.nd rfl o_law_turn ((.inl rfl))) (ds_cons (ds_setX (i := 4) sc_law.nd rfl o_law_team (de_callG ((ok__law_wide_team T).mono (by decide : 2 ≤ 12)) hr hG g_law__law_wide_team T.g__law_wide_team T.f__law_wide_team.kp (bi__law_wide_team T) tk (da_cons (de_v (i := 2) rfl v_law_well) da_nil rfl) (alen_cons alen_nil) (by decide) rfl rfl) rfl (.inl rfl)) (ds_cons (ds_setX (i := 5) sc_law.nd rfl o_law_spots (de_callG ((ok__law_spots T).mono (by decide : 1 ≤ 12)) hr hG g_law__law_spots T.g__law_spots T.f__law_spots.kp (bi__law_spots T) tk (da_cons (de_v (i := 4) rfl v_law_team) da_nil rfl) (alen_cons alen_nil) (by decide) rfl rfl) rfl (.inl rfl)) (ds_cons (ds_for PassesOwn.leaving rfl (di_rng1 (alen_cons alen_nil) g_law_range T.b_range (da_cons de_int da_nil rfl) rfl) (dg_name (i := 6) sc_law.nd rfl o_law_step ((.inl rfl))) (ds_cons (ds_setX (i := 7) sc_law.nd rfl o_law_number (de_callG ((ok__law_draw T).mono (by decide : 1 ≤ 12)) hr hG g_law__law_draw T.g__law_draw T.f__law_draw.kp (bi__law_draw T) tk (da_cons (de_v (i := 2) rfl v_law_well) (da_cons (de_cb call_len_seq (cbd_len rfl) g_law_len T.b_len (by decide +kernel) (da_cons (de_v (i := 5) rfl v_law_spots) da_nil rfl) (by decide) (by decide) rfl rfl) da_nil rfl) rfl) (alen_cons (alen_cons alen_nil)) (by decide) rfl rfl) rfl (.inl rfl)) (ds_cons (ds_setX (i := 8) sc_law.nd rfl o_law_told (de_lst (da_cons (de_callG ((ok_place_of T).mono (by decide : 11 ≤ 12)) hr hG g_law_place_of T.g_place_of T.f_place_of.kp (bi_place_of T) tk (da_cons (de_v (i := 4) rfl v_law_team) (da_cons (de_ix rfl (de_v (i := 5) rfl v_law_spots) (de_v (i := 7) rfl v_law_number) (fun _ _ => rfl)) da_nil rfl) rfl) (alen_cons (alen_cons alen_nil)) (by decide) rfl rfl) (da_cons (de_kw ((ok_place_of T).mono (by decide : 11 ≤ 12)) hr hG g_law_place_of T.g_place_of T.f_place_of.kp (kwb_place_of_1_0 T) tk (dk_cons (de_ix rfl (de_v (i := 5) rfl v_law_spots) (de_v (i := 7) rfl v_law_number) (fun _ _ => rfl)) (dk_cons (de_v (i := 4) rfl v_law_team) dk_nil)) (alen_cons (alen_cons alen_nil)) rfl (fun vs h => match vs, h with | [_, _], _ => rfl) rfl rfl rfl rfl) da_nil rfl) rfl)) rfl (.inl rfl)) (ds_cons (ds_if (dt_cmp (op_ne.or (op_neD (room_u64 hr))) (opd_neX rfl) (de_cb (call_reprG hG (room_u hr)) (cbd_repr rfl) g_law_repr T.b_repr (by decide +kernel) (da_cons (de_v (i := 8) rfl v_law_told) da_nil rfl) (by decide) (by decide) rfl rfl) (de_cb (call_reprG hG (room_u hr)) (cbd_repr rfl) g_law_repr T.b_repr (by decide +kernel) (da_cons (de_lst (da_cons (de_v (i := 7) rfl v_law_number) (da_cons (de_v (i := 7) rfl v_law_number) da_nil rfl) rfl)) da_nil rfl) (by decide) (by decide) rfl rfl) rfl) (ds_cons (ds_ret de_bool) ds_nil) ds_nil) (ds_cons (ds_if (dt_cmp (op_ne.or (op_neD (room_u64 hr))) (opd_neX rfl) (de_cb (call_reprG hG (room_u hr)) (cbd_repr rfl) g_law_repr T.b_repr (by decide +kernel) (da_cons (de_lst (da_cons (de_callG ((ok_places_at T).mono (by decide : 11 ≤ 12)) hr hG g_law_places_at T.g_places_at T.f_places_at.kp (bi_places_at T) tk (da_cons (de_v (i := 4) rfl v_law_team) (da_cons (de_v (i := 7) rfl v_law_number) da_nil rfl) rfl) (alen_cons (alen_cons alen_nil)) (by decide) rfl rfl) (da_cons (de_kw ((ok_places_at T).mono (by decide : 11 ≤ 12)) hr hG g_law_places_at T.g_places_at T.f_places_at.kp (kwb_places_at_1_0 T) tk (dk_cons (de_v (i := 7) rfl v_law_number) (dk_cons (de_v (i := 4) rfl v_law_team) dk_nil)) (alen_cons (alen_cons alen_nil)) rfl (fun vs h => match vs, h with | [_, _], _ => rfl) rfl rfl rfl rfl) da_nil rfl) rfl)) da_nil rfl) (by decide) (by decide) rfl rfl) (de_cb (call_reprG hG (room_u hr)) (cbd_repr rfl) g_law_repr T.b_repr (by decide +kernel) (da_cons (de_bin op_mulA (opd_mulA rfl) (de_lst (da_cons (de_ix rfl (de_v (i := 5) rfl v_law_spots) (de_v (i := 7) rfl v_law_number) (fun _ _ => rfl)) da_nil rfl)) de_int) da_nil rfl) (by decide) (by decide) rfl rfl) rfl) (ds_cons (ds_ret de_bool) ds_nil) ds_nil) (ds_cons (ds_setX (i := 9) sc_law.nd rfl o_law_wishes (de_cty call_tuple_of (cbd_tuple rfl) g_law_tuple T.b_tuple (by decide +kernel) (da_cons (de_lc rfl sc_law.nd (di_dat rfl (de_ix rfl (de_v (i := 4) rfl v_law_team) de_int (fun _ _ => rfl))) (own := [("party", 15)]) (blkOk_by bk_law_b1) (fun _ _ _ _ _ => (dg_name (i := 15) sc_law.nd rfl o_law_b1_party (.inr l_law_b1_party))) (fun _ _ _ _ _ => dts_nil) (fun _ _ _ _ _ => (de_if (dt_cmp (op_eq.or (op_eqD (room_u64 hr))) (opd_eqX rfl) (de_callG ((ok__law_draw T).mono (by decide : 1 ≤ 12)) hr hG g_law_b1__law_draw T.g__law_draw T.f__law_draw.kp (bi__law_draw T) takes0 (da_cons (de_v (i := 2) rfl v_law_b1_well) (da_cons de_int da_nil rfl) rfl) (alen_cons (alen_cons alen_nil)) (by decide) rfl rfl) de_int rfl) de_none (de_callG ((ok__law_some T).mono (by decide : 2 ≤ 12)) hr hG g_law_b1__law_some T.g__law_some T.f__law_some.kp (bi__law_some T) takes0 (da_cons (de_v (i := 2) rfl v_law_b1_well) (da_cons (de_ix rfl (de_v (i := 15) rfl v_law_b1_party) de_int (fun _ _ => rfl)) (da_cons de_int da_nil rfl) rfl) rfl) (alen_cons (alen_cons (alen_cons alen_nil))) (by decide) rfl rfl))) (fun _ => rfl) (by decide)) da_nil rfl) (by decide) (by decide) rfl rfl) rfl (.inl rfl)) (ds_cons (ds_setX (i := 10) sc_law.nd rfl o_law_due (de_callG ((ok__law_goals_due T).mono (by decide : 1 ≤ 12)) hr hG g_law__law_goals_due T.g__law_goals_due T.f__law_goals_due.kp (bi__law_goals_due T) tk (da_cons (de_v (i := 5) rfl v_law_spots) (da_cons (de_v (i := 9) rfl v_law_wishes) da_nil rfl) rfl) (alen_cons (alen_cons alen_nil)) (by decide) rfl rfl) rfl (.inl rfl)) (ds_cons (ds_if (dt_cmp (op_ne.or (op_neD (room_u64 hr))) (opd_neX rfl) (de_cb (call_reprG hG (room_u hr)) (cbd_repr rfl) g_law_repr T.b_repr (by decide +kernel) (da_cons (de_lst (da_cons (de_callG ((ok_goals_with T).mono (by decide : 11 ≤ 12)) hr hG g_law_goals_with T.g_goals_with T.f_goals_with.kp (bi_goals_with T) tk (da_cons (de_v (i := 4) rfl v_law_team) (da_cons (de_v (i := 9) rfl v_law_wishes) da_nil rfl) rfl) (alen_cons (alen_cons alen_nil)) (by decide) rfl rfl) (da_cons (de_kw ((ok_goals_with T).mono (by decide : 11 ≤ 12)) hr hG g_law_goals_with T.g_goals_with T.f_goals_with.kp (kwb_goals_with_1_0 T) tk (dk_cons (de_v (i := 9) rfl v_law_wishes) (dk_cons (de_v (i := 4) rfl v_law_team) dk_nil)) (alen_cons (alen_cons alen_nil)) rfl (fun vs h => match vs, h with | [_, _], _ => rfl) rfl rfl rfl rfl) da_nil rfl) rfl)) da_nil rfl) (by decide) (by decide) rfl rfl) (de_cb (call_reprG hG (room_u hr)) (cbd_repr rfl) g_law_repr T.b_repr (by decide +kernel) (da_cons (de_lst (da_cons (de_v (i := 10) rfl v_law_due) (da_cons (de_v (i := 10) rfl v_law_due) da_nil rfl) rfl)) da_nil rfl) (by decide) (by decide) rfl rfl) rfl) (ds_cons (ds_ret de_bool) ds_nil) ds_nil) (ds_cons (ds_for PassesOwn.leaving rfl (di_dat rfl (de_tup (da_cons (de_tup (da_cons de_int (da_cons (de_ix rfl (de_v (i := 5) rfl v_law_spots) (de_v (i := 7) rfl v_law_number) (fun _ _ => rfl)) da_nil rfl) rfl)) (da_cons (de_tup (da_cons de_int (da_cons (de_v (i := 9) rfl v_law_wishes) da_nil rfl) rfl)) da_nil rfl) rfl))) (dg_tup rfl rfl (dgs_cons (i := 11) sc_law.nd rfl o_law_which ((.inl rfl)) (dgs_cons (i := 12) sc_law.nd rfl o_law_row ((.inl rfl)) dgs_nil rfl) rfl) rfl rfl) (ds_cons (ds_setX (i := 13) sc_law.nd rfl o_law_bent (de_callG ((ok__law_bent T).mono (by decide : 2 ≤ 12)) hr hG g_law__law_bent T.g__law_bent T.f__law_bent.kp (bi__law_bent T) tk (da_cons (de_v (i := 2) rfl v_law_well) (da_cons (de_v (i := 4) rfl v_law_team) (da_cons (de_v (i := 12) rfl v_law_row) da_nil rfl) rfl) rfl) (alen_cons (alen_cons (alen_cons alen_nil))) (by decide) rfl rfl) rfl (.inl rfl)) (ds_cons (ds_setX (i := 14) sc_law.nd rfl o_law_fits (de_ix rfl (de_lst (da_cons (de_callG ((ok__law_are_places T).mono (by decide : 2 ≤ 12)) hr hG g_law__law_are_places T.g__law_are_places T.f__law_are_places.kp (bi__law_are_places T) tk (da_cons (de_v (i := 4) rfl v_law_team) (da_cons (de_v (i := 13) rfl v_law_bent) da_nil rfl) rfl) (alen_cons (alen_cons alen_nil)) (by decide) rfl rfl) (da_cons (de_callG ((ok__law_are_wishes T).mono (by decide : 3 ≤ 12)) hr hG g_law__law_are_wishes T.g__law_are_wishes T.f__law_are_wishes.kp (bi__law_are_wishes T) tk (da_cons (de_v (i := 4) rfl v_law_team) (da_cons (de_v (i := 13) rfl v_law_bent) da_nil rfl) rfl) (alen_cons (alen_cons alen_nil)) (by decide) rfl rfl) da_nil rfl) rfl)) (de_v (i := 11) rfl v_law_which) (fun _ _ => rfl)) rfl (.inl rfl)) (ds_cons (ds_if (PW.fin (dw_and (dt_not (dt_val (de_v (i := 14) rfl v_law_fits) (fun _ => rfl))) (pw_and1 (dt_not (dt_val (de_callG ((ok__law_refused T).mono (by decide : 12 ≤ 12)) hr hG g_law__law_refused T.g__law_refused T.f__law_refused.kp (bi__law_refused T) tk (da_cons (de_v (i := 11) rfl v_law_which) (da_cons (de_v (i := 4) rfl v_law_team) (da_cons (de_v (i := 13) rfl v_law_bent) da_nil rfl) rfl) rfl) (alen_cons (alen_cons (alen_cons alen_nil))) (by decide) rfl rfl) (fun _ => rfl)))))) (ds_cons (ds_ret de_bool) ds_nil) ds_nil) ds_nil))) (fun _ => rfl)) ds_nil)))))))) (fun _ => rfl)) (ds_cons (ds_if (dt_not (dt_val (de_callG ((ok__law_refused T).mono (by decide : 12 ≤ 12)) hr hG g_law__law_refused T.g__law_refused T.f__law_refused.kp (bi__law_refused T) tk (da_cons de_int (da_cons (de_v (i := 4) rfl v_law_team) (da_cons (de_ix rfl (de_lst (da_cons (de_neg de_int) (da_cons (de_cb call_len_seq (cbd_len rfl) g_law_len T.b_len (by decide +kernel) (da_cons (de_v (i := 5) rfl v_law_spots) da_nil rfl) (by decide) (by decide) rfl rfl) (da_cons (de_bin op_pow opd_pow de_int de_int) da_nil rfl) rfl) rfl)) (de_callG ((ok__law_draw T).mono (by decide : 1 ≤ 12)) hr hG g_law__law_draw T.g__law_draw T.f__law_draw.kp (bi__law_draw T) tk (da_cons (de_v (i := 2) rfl v_law_well) (da_cons de_int da_nil rfl) rfl) (alen_cons (alen_cons alen_nil)) (by decide) rfl rfl) (fun _ _ => rfl)) da_nil rfl) rfl) rfl) (alen_cons (alen_cons (alen_cons alen_nil))) (by decide) rfl rfl) (fun _ => rfl))) (ds_cons (ds_ret de_bool) ds_nil) ds_nil) ds_nil)))) (fun _ => rfl)) ds_nil)) (fun _ => rfl)) (ds_cons (ds_ret de_bool) ds_nil))
end
end LK

set_option Elab.async false
set_option linter.all false
set_option maxRecDepth 100000
set_option maxHeartbeats 4000000
namespace LK
open PySem PySem.Spec PyProof.Rows L2 DL
/-! ### is_integer -/
def p_is_integer (value1 : D) : R D := (bd ((bd (Rk value1) (isXd (isTy "int")))) fun v4 => bd (bl v4) fun b5 => if b5 = true then ((bd ((bd (Rk value1) (isXd (isTy "bool")))) fun v2 => bd (bl v2) fun b3 => Rk (.bool (!b3)))) else Rk (.bool false))
def P_is_integer : List D → R D
  | [value1] => p_is_integer value1
  | _ => none
theorem g_is_integer (value1 : D) : FG (F_is_integer [] [value1]) (p_is_integer value1) ΨD := by
  show FG (runF false 1 m_is_integer [] [value1]) _ _
  refine fg_D (pt := [.is (.dat value1)]) ?_ ⟨rfl, trivial⟩
  unfold m_is_integer p_is_integer
  exact (st_ret retF (x_and (x_is (At.r (AtS.a (at_var rfl)))) (x_not (x_is (At.r (AtS.a (at_var rfl)))))))
theorem GP_is_integer : ∀ ds, FG (F_is_integer [] ds) (P_is_integer ds) ΨD
  | [value1] => g_is_integer value1
  | [] => trivial
  | _ :: _ :: _ => trivial
/-! ### is_between -/
def p_is_between (value1 : D) (low2 : D) (high3 : D) : R D := (bd ((p_is_integer value1)) fun v9 => bd (bl v9) fun b10 => if b10 = true then ((bd (Rk low2) fun v4 => bd (Rk value1) fun v5 => bd (lf (leD v4 v5)) fun z7 => bd (bl z7) fun t8 => if t8 = true then bd (Rk high3) fun v6 => lf (leD v5 v6) else Rk (.bool false))) else Rk (.bool false))
def P_is_between : List D → R D
  | [value1, low2, high3] => p_is_between value1 low2 high3
  | _ => none
theorem g_is_between (value1 : D) (low2 : D) (high3 : D) : FG (F_is_between [] [value1, low2, high3]) (p_is_between value1 low2 high3) ΨD := by
  show FG (runF false 3 m_is_between [] [value1, low2, high3]) _ _
  refine fg_D (pt := [.is (.dat value1), .is (.dat low2), .is (.dat high3)]) ?_ ⟨rfl, rfl, rfl, trivial⟩
  unfold m_is_between p_is_between
  exact (st_ret retF (x_and (x_call GP_is_integer (GS.a (gs_at (at_var rfl) gs_nil)) (fun _ _ => trivial)) (x_chain (At.r (AtS.a (at_var rfl))) (At.r (AtS.a (at_var rfl))) (At.r (AtS.a (at_var rfl))))))
theorem GP_is_between : ∀ ds, FG (F_is_between [] ds) (P_is_between ds) ΨD
  | [value1, low2, high3] => g_is_between value1 low2 high3
  | [] => trivial
  | [_] => trivial
  | [_, _] => trivial
  | _ :: _ :: _ :: _ :: _ => trivial
/-! ### is_tuple -/
def p_is_tuple (value1 : D) (low2 : D) (high3 : D) : R D := (bd ((bd (Rk value1) (isXd (isTy "tuple")))) fun v10 => bd (bl v10) fun b11 => if b11 = true then ((bd (Rk low2) fun v5 => bd ((lf (lenF [value1]))) fun v6 => bd (lf (leD v5 v6)) fun z8 => bd (bl z8) fun t9 => if t9 = true then bd (Rk high3) fun v7 => lf (leD v6 v7) else Rk (.bool false))) else Rk (.bool false))
def P_is_tuple : List D → R D
  | [value1, low2, high3] => p_is_tuple value1 low2 high3
  | _ => none
theorem g_is_tuple (value1 : D) (low2 : D) (high3 : D) : FG (F_is_tuple [] [value1, low2, high3]) (p_is_tuple value1 low2 high3) ΨD := by
  show FG (runF false 3 m_is_tuple [] [value1, low2, high3]) _ _
  refine fg_D (pt := [.is (.dat value1), .is (.dat low2), .is (.dat high3)]) ?_ ⟨rfl, rfl, rfl, trivial⟩
  unfold m_is_tuple p_is_tuple
  exact (st_ret retF (x_and (x_is (At.r (AtS.a (at_var rfl)))) (x_chain (At.r (AtS.a (at_var rfl))) (XE.r (x_cb1a (AtS.a (at_var rfl)))) (At.r (AtS.a (at_var rfl))))))
theorem GP_is_tuple : ∀ ds, FG (F_is_tuple [] ds) (P_is_tuple ds) ΨD
  | [value1, low2, high3] => g_is_tuple value1 low2 high3
  | [] => trivial
  | [_] => trivial
  | [_, _] => trivial
  | _ :: _ :: _ :: _ :: _ => trivial
/-! ### are_rising -/
def p_are_rising (values1 : D) : R D := (bd ((bd ((bd ((bd ((bd (Rk values1) fun v2 => bd ((bd (Rk (.int (1))) itR)) fun l3 => bd (Rk none) fun h4 => lf (slF v2 l3 h4))) fun v5 => (lf (zipF [values1, v5])))) fun l9 => mapR (fun d7 => bd (un2 d7) fun t8 => (lf (ltD t8.1 t8.2))) l9)) fun l12 => Rk (.list l12))) fun v13 => lf (allF [v13]))
def P_are_rising : List D → R D
  | [values1] => p_are_rising values1
  | _ => none
theorem g_are_rising (values1 : D) : FG (F_are_rising [] [values1]) (p_are_rising values1) ΨD := by
  show FG (runF false 3 m_are_rising [] [values1]) _ _
  refine fg_D (pt := [.is (.dat values1), .any, .any]) ?_ ⟨rfl, .inl rfl, .inl rfl, trivial⟩
  unfold m_are_rising p_are_rising
  exact (st_ret retF (x_cb1 (XE.r (x_lc (n_map (E2 := fun _ => True) (i_zip (GS.a (gs_at (at_var rfl) (gs_cons (x_sl (At.r (AtS.a (at_var rfl))) (pp_some (At.r (AtS.a at_lit))) pp_none) (fun v5 => gs_nil))))) rfl (all_lt rfl) (fun d7 acc6 => (lt_map (s_tp2 rfl (fun _ => rfl)) (fun t8 => (x_op2c (AtS.a (at_var rfl)) (AtS.a (at_var rfl)))) (fun t8 => (.c .r (.c .a (.c .a (.c .r .n))))))))))))
theorem GP_are_rising : ∀ ds, FG (F_are_rising [] ds) (P_are_rising ds) ΨD
  | [values1] => g_are_rising values1
  | [] => trivial
  | _ :: _ :: _ => trivial
/-! ### is_ascending -/
def p_is_ascending (value1 : D) (low2 : D) (high3 : D) : R D := (bd ((bd (Rk value1) (isXd (isTy "tuple")))) fun v11 => bd (bl v11) fun b12 => if b12 = true then ((bd ((bd ((bd ((bd ((itR' value1)) fun l6 => mapR (fun d5 => (p_is_between d5 low2 high3)) l6)) fun l7 => Rk (.list l7))) fun v8 => lf (allF [v8]))) fun v9 => bd (bl v9) fun b10 => if b10 = true then ((p_are_rising value1)) else Rk (.bool false))) else Rk (.bool false))
def P_is_ascending : List D → R D
  | [value1, low2, high3] => p_is_ascending value1 low2 high3
  | _ => none
theorem g_is_ascending (value1 : D) (low2 : D) (high3 : D) : FG (F_is_ascending [] [value1, low2, high3]) (p_is_ascending value1 low2 high3) ΨD := by
  show FG (runF false 4 m_is_ascending [] [value1, low2, high3]) _ _
  refine fg_D (pt := [.is (.dat value1), .is (.dat low2), .is (.dat high3), .any]) ?_ ⟨rfl, rfl, rfl, .inl rfl, trivial⟩
  unfold m_is_ascending p_is_ascending
  exact (st_ret retF (x_and (x_is (At.r (AtS.a (at_var rfl)))) (x_and (x_cb1 (XE.r (x_lc (n_map (E2 := fun _ => True) (i_at (at_var rfl)) rfl (all_lt rfl) (fun d5 acc4 => (lt_map1 rfl (x_call GP_is_between (GS.a (gs_at (at_var rfl) (gs_at (at_var rfl) (gs_at (at_var rfl) gs_nil)))) (fun _ _ => trivial)) (.c .r (.c .r (.c .r (.c .a (.c .r .n))))))))))) (x_call GP_are_rising (GS.a (gs_at (at_var rfl) gs_nil)) (fun _ _ => trivial)))))
theorem GP_is_ascending : ∀ ds, FG (F_is_ascending [] ds) (P_is_ascending ds) ΨD
  | [value1, low2, high3] => g_is_ascending value1 low2 high3
  | [] => trivial
  | [_] => trivial
  | [_, _] => trivial
  | _ :: _ :: _ :: _ :: _ => trivial
/-! ### need_number -/
def p_need_number (number1 : D) (low2 : D) (high3 : D) : R D := (bd ((bd ((bd ((lf (ltD number1 low2))) bl)) fun b10 => if b10 = true then Rk true else (bd ((bd ((bd (Rk high3) fun v6 => Rk (.bool (if true then !isNoneB v6 else isNoneB v6)))) bl)) fun b9 => if b9 = true then (bd ((lf (gtD number1 high3))) bl) else Rk false))) fun b11 => if b11 = true then (bd (Rk number1) fun v12 => Rx ("InvalidNumber", v12)) else (Rk .none))
def P_need_number : List D → R D
  | [number1, low2, high3] => p_need_number number1 low2 high3
  | _ => none
theorem g_need_number (number1 : D) (low2 : D) (high3 : D) : FG (F_need_number [] [number1, low2, high3]) (p_need_number number1 low2 high3) ΨD := by
  show FG (runF false 3 m_need_number [] [number1, low2, high3]) _ _
  refine fg_D (pt := [.is (.dat number1), .is (.dat low2), .is (.dat high3)]) ?_ ⟨rfl, rfl, rfl, trivial⟩
  unfold m_need_number p_need_number
  exact (st_if (t_or (t_b (x_op2c (AtS.a (at_var rfl)) (AtS.a (at_var rfl)))) (t_and (t_b (x_isN (At.r (AtS.a (at_var rfl))))) (t_b (x_op2c (AtS.a (at_var rfl)) (AtS.a (at_var rfl)))))) (st_assoc (st_raise (hE := (fun _ _ => trivial)) (AtS.e (at_var rfl)))) (st_nilr st_endD))
theorem GP_need_number : ∀ ds, FG (F_need_number [] ds) (P_need_number ds) ΨD
  | [number1, low2, high3] => g_need_number number1 low2 high3
  | [] => trivial
  | [_] => trivial
  | [_, _] => trivial
  | _ :: _ :: _ :: _ :: _ => trivial
/-! ### anew -/
def p_anew : Nat → D → R D
  | 0, _ => none
  | k + 1, value1 => (bd ((bd ((bd (Rk value1) (isXd (isTy "list")))) bl)) fun b2 => if b2 = true then (bd ((bd ((itR' value1)) fun l5 => mapR (fun d4 => (p_anew k d4)) l5)) fun l6 => Rk (.list l6)) else (bd ((bd ((bd (Rk value1) (isXd (isTy "tuple")))) bl)) fun b7 => if b7 = true then (bd ((bd ((bd ((itR' value1)) fun l10 => mapR (fun d9 => (p_anew k d9)) l10)) fun l11 => Rk (.list l11))) fun v12 => lf (tupleF [v12])) else (Rk value1)))
def P_anew (k : Nat) : List D → R D
  | [value1] => p_anew k value1
  | _ => none
theorem g_anew : ∀ (k : Nat) (value1 : D), FG (F_anew k [] [value1]) (p_anew k value1) ΨD
  | 0, value1 => trivial
  | k + 1, value1 => by
    have GP_anew : ∀ (k0 : Nat), k0 = k → ∀ ds, FG (F_anew k0 [] ds) (P_anew k0 ds) ΨD := fun k0 h ds => by
      subst h
      match ds with
      | [value1] => exact g_anew k0 value1
      | [] => exact True.intro
      | _ :: _ :: _ => exact True.intro
    show FG (runF false 2 (m_anew (F_anew k)) [] [value1]) _ _
    refine fg_D (pt := [.is (.dat value1), .any]) ?_ ⟨rfl, .inl rfl, trivial⟩
    unfold m_anew p_anew
    exact (st_if (t_b (x_is (At.r (AtS.a (at_var rfl))))) (st_assoc (st_retND (inj := id) retF (n_map (E2 := fun _ => True) (i_at (at_var rfl)) rfl (all_lt rfl) (fun d4 acc3 => (lt_map1 rfl (x_call (GP_anew k rfl) (GS.a (gs_at (at_var rfl) gs_nil)) (fun _ _ => trivial)) (.c .r (.c .a (.c .r .n)))))))) (st_nilr (st_if (t_b (x_is (At.r (AtS.a (at_var rfl))))) (st_assoc (st_ret retF (x_cb1 (XE.r (x_lc (n_map (E2 := fun _ => True) (i_at (at_var rfl)) rfl (all_lt rfl) (fun d9 acc8 => (lt_map1 rfl (x_call (GP_anew k rfl) (GS.a (gs_at (at_var rfl) gs_nil)) (fun _ _ => trivial)) (.c .r (.c .a (.c .r .n))))))))))) (st_nilr (st_retA (inj := id) retF (at_var rfl))))))
theorem GP_anew (k : Nat) : ∀ ds, FG (F_anew k [] ds) (P_anew k ds) ΨD
  | [value1] => g_anew k value1
  | [] => trivial
  | _ :: _ :: _ => trivial
/-! ### is_timer -/
def p_is_timer (value1 : D) : R D := (bd ((bd ((bd ((bd ((p_is_tuple value1 (.int (2)) (.int (2)))) bl)) fun b2 => Rk (!b2))) fun b7 => if b7 = true then Rk true else (bd ((bd ((bd ((lf (ixD value1 (.int (0))))) fun v5 => (p_is_between v5 (.int (0)) (.int (60))))) bl)) fun b6 => Rk (!b6)))) fun b8 => if b8 = true then (Rk (.bool false)) else (bd ((bd ((lf (ixD value1 (.int (1))))) fun v12 => Rk (.bool (if false then !isNoneB v12 else isNoneB v12)))) fun v19 => bd (bl v19) fun b20 => if b20 = true then Rk (.bool true) else ((bd ((lf (ixD value1 (.int (1))))) fun v17 => (bd ((lf (ixD value1 (.int (0))))) fun v18 => (p_is_between v17 v18 (.int (60))))))))
def P_is_timer : List D → R D
  | [value1] => p_is_timer value1
  | _ => none
theorem g_is_timer (value1 : D) : FG (F_is_timer [] [value1]) (p_is_timer value1) ΨD := by
  show FG (runF false 1 m_is_timer [] [value1]) _ _
  refine fg_D (pt := [.is (.dat value1)]) ?_ ⟨rfl, trivial⟩
  unfold m_is_timer p_is_timer
  exact (st_if (t_or (t_not (t_b (x_call GP_is_tuple (GS.a (gs_at (at_var rfl) (gs_at at_lit (gs_at at_lit gs_nil)))) (fun _ _ => trivial)))) (t_not (t_b (x_call GP_is_between (GS.a (gs_cons (x_op2c (AtS.a (at_var rfl)) (AtS.a at_lit)) (fun v5 => (gs_at at_lit (gs_at at_lit gs_nil))))) (fun _ _ => trivial))))) (st_assoc (st_retA (inj := id) retF at_lit)) (st_nilr (st_ret retF (x_or (x_isN (XE.r (x_op2c (AtS.a (at_var rfl)) (AtS.a at_lit)))) (x_call GP_is_between (GS.a (gs_cons (x_op2c (AtS.a (at_var rfl)) (AtS.a at_lit)) (fun v17 => (gs_cons (x_op2c (AtS.a (at_var rfl)) (AtS.a at_lit)) (fun v18 => (gs_at at_lit gs_nil)))))) (fun _ _ => trivial))))))
theorem GP_is_timer : ∀ ds, FG (F_is_timer [] ds) (P_is_timer ds) ΨD
  | [value1] => g_is_timer value1
  | [] => trivial
  | _ :: _ :: _ => trivial
/-! ### are_timers -/
def p_are_timers (value1 : D) : R D := (bd ((p_is_tuple value1 (.int (0)) (.int (6)))) fun v7 => bd (bl v7) fun b8 => if b8 = true then ((bd ((bd ((bd ((itR' value1)) fun l4 => mapR (fun d3 => (p_is_timer d3)) l4)) fun l5 => Rk (.list l5))) fun v6 => lf (allF [v6]))) else Rk (.bool false))
def P_are_timers : List D → R D
  | [value1] => p_are_timers value1
  | _ => none
theorem g_are_timers (value1 : D) : FG (F_are_timers [] [value1]) (p_are_timers value1) ΨD := by
  show FG (runF false 2 m_are_timers [] [value1]) _ _
  refine fg_D (pt := [.is (.dat value1), .any]) ?_ ⟨rfl, .inl rfl, trivial⟩
  unfold m_are_timers p_are_timers
  exact (st_ret retF (x_and (x_call GP_is_tuple (GS.a (gs_at (at_var rfl) (gs_at at_lit (gs_at at_lit gs_nil)))) (fun _ _ => trivial)) (x_cb1 (XE.r (x_lc (n_map (E2 := fun _ => True) (i_at (at_var rfl)) rfl (all_lt rfl) (fun d3 acc2 => (lt_map1 rfl (x_call GP_is_timer (GS.a (gs_at (at_var rfl) gs_nil)) (fun _ _ => trivial)) (.c .r (.c .a (.c .r .n)))))))))))
theorem GP_are_timers : ∀ ds, FG (F_are_timers [] ds) (P_are_timers ds) ΨD
  | [value1] => g_are_timers value1
  | [] => trivial
  | _ :: _ :: _ => trivial
/-! ### is_event -/
def p_is_event (value1 : D) (many2 : D) : R D := (bd ((bd ((bd ((bd ((p_is_tuple value1 (.int (1)) (.int (2)))) bl)) fun b3 => Rk (!b3))) fun b7 => if b7 = true then Rk true else (bd ((bd ((bd ((lf (ixD value1 (.int (0))))) (isXd (isTy "str")))) bl)) fun b6 => Rk (!b6)))) fun b8 => if b8 = true then (Rk (.bool false)) else (bd ((bd ((bd ((lf (lenF [value1]))) fun v11 => lf (eqX v11 (.int (1))))) bl)) fun b13 => if b13 = true then (bd ((lf (ixD value1 (.int (0))))) fun v16 => lf (eqX v16 (.str "free"))) else (bd ((bd ((lf (ixD value1 (.int (0))))) fun v21 => lf (eqX v21 (.str "timer")))) fun v29 => bd (bl v29) fun b30 => if b30 = true then ((bd ((lf (ixD value1 (.int (1))))) fun v27 => (bd ((lf (subD many2 (.int (1))))) fun v28 => (p_is_between v27 (.int (0)) v28)))) else Rk (.bool false))))
def P_is_event : List D → R D
  | [value1, many2] => p_is_event value1 many2
  | _ => none
theorem g_is_event (value1 : D) (many2 : D) : FG (F_is_event [] [value1, many2]) (p_is_event value1 many2) ΨD := by
  show FG (runF false 2 m_is_event [] [value1, many2]) _ _
  refine fg_D (pt := [.is (.dat value1), .is (.dat many2)]) ?_ ⟨rfl, rfl, trivial⟩
  unfold m_is_event p_is_event
  exact (st_if (t_or (t_not (t_b (x_call GP_is_tuple (GS.a (gs_at (at_var rfl) (gs_at at_lit (gs_at at_lit gs_nil)))) (fun _ _ => trivial)))) (t_not (t_b (x_is (XE.r (x_op2c (AtS.a (at_var rfl)) (AtS.a at_lit))))))) (st_assoc (st_retA (inj := id) retF at_lit)) (st_nilr (st_if (t_b (x_op2b (XE.r (x_cb1a (AtS.a (at_var rfl)))) (AtS.a at_lit))) (st_assoc (st_ret retF (x_op2b (XE.r (x_op2c (AtS.a (at_var rfl)) (AtS.a at_lit))) (AtS.a at_lit)))) (st_nilr (st_ret retF (x_and (x_op2b (XE.r (x_op2c (AtS.a (at_var rfl)) (AtS.a at_lit))) (AtS.a at_lit)) (x_call GP_is_between (GS.a (gs_cons (x_op2c (AtS.a (at_var rfl)) (AtS.a at_lit)) (fun v27 => (gs_at at_lit (gs_cons (x_op2c (AtS.a (at_var rfl)) (AtS.a at_lit)) (fun v28 => gs_nil)))))) (fun _ _ => trivial))))))))
theorem GP_is_event : ∀ ds, FG (F_is_event [] ds) (P_is_event ds) ΨD
  | [value1, many2] => g_is_event value1 many2
  | [] => trivial
  | [_] => trivial
  | _ :: _ :: _ :: _ => trivial
/-! ### are_changes -/
def p_are_changes (starts1 : D) (stops2 : D) (many3 : D) : R D := (bd ((bd ((bd ((bd ((bd ((lf (subD many3 (.int (1))))) fun v6 => (p_is_ascending starts1 (.int (0)) v6))) bl)) fun b7 => Rk (!b7))) fun b12 => if b12 = true then Rk true else (bd ((bd ((bd ((lf (subD many3 (.int (1))))) fun v10 => (p_is_ascending stops2 (.int (0)) v10))) bl)) fun b11 => Rk (!b11)))) fun b13 => if b13 = true then (Rk (.bool false)) else (bd ((bd ((bd ((itR' starts1)) fun l17 => lcR (fun d16 => selR ((bd ((lf (inX d16 stops2))) bl)) (Rk d16)) l17)) fun l20 => Rk (.list l20))) fun v21 => lf (eqX v21 (.list []))))
def P_are_changes : List D → R D
  | [starts1, stops2, many3] => p_are_changes starts1 stops2 many3
  | _ => none
theorem g_are_changes (starts1 : D) (stops2 : D) (many3 : D) : FG (F_are_changes [] [starts1, stops2, many3]) (p_are_changes starts1 stops2 many3) ΨD := by
  show FG (runF false 4 m_are_changes [] [starts1, stops2, many3]) _ _
  refine fg_D (pt := [.is (.dat starts1), .is (.dat stops2), .is (.dat many3), .any]) ?_ ⟨rfl, rfl, rfl, .inl rfl, trivial⟩
  unfold m_are_changes p_are_changes
  exact (st_if (t_or (t_not (t_b (x_call GP_is_ascending (GS.a (gs_at (at_var rfl) (gs_at at_lit (gs_cons (x_op2c (AtS.a (at_var rfl)) (AtS.a at_lit)) (fun v6 => gs_nil))))) (fun _ _ => trivial)))) (t_not (t_b (x_call GP_is_ascending (GS.a (gs_at (at_var rfl) (gs_at at_lit (gs_cons (x_op2c (AtS.a (at_var rfl)) (AtS.a at_lit)) (fun v10 => gs_nil))))) (fun _ _ => trivial))))) (st_assoc (st_retA (inj := id) retF at_lit)) (st_nilr (st_ret retF (x_op2b (XE.r (x_lc (n_lc (E2 := fun _ => True) (i_at (at_var rfl)) rfl (all_lt rfl) (fun d16 acc15 => (lt_sel1 rfl (t_b (x_op2c (AtS.a (at_var rfl)) (AtS.a (at_var rfl)))) (AtS.e (at_var rfl)) (.c .r (.c .r (.c .r (.c .a (.c .r .n))))) (.c .r (.c .r (.c .r (.c .a (.c .r .n)))))))))) (AtS.a (at_lst al_nil rfl))))))
theorem GP_are_changes : ∀ ds, FG (F_are_changes [] ds) (P_are_changes ds) ΨD
  | [starts1, stops2, many3] => g_are_changes starts1 stops2 many3
  | [] => trivial
  | [_] => trivial
  | [_, _] => trivial
  | _ :: _ :: _ :: _ :: _ => trivial
/-! ### is_begin -/
def p_is_begin (value1 : D) (places2 : D) (many3 : D) : R D := (bd ((p_is_tuple value1 (.int (2)) (.int (2)))) fun v18 => bd (bl v18) fun b19 => if b19 = true then ((bd ((bd ((lf (ixD value1 (.int (0))))) fun v8 => (bd ((lf (subD places2 (.int (1))))) fun v9 => (p_is_between v8 (.int (0)) v9)))) fun v16 => bd (bl v16) fun b17 => if b17 = true then ((bd ((lf (ixD value1 (.int (1))))) fun v14 => (bd ((lf (subD many3 (.int (1))))) fun v15 => (p_is_ascending v14 (.int (0)) v15)))) else Rk (.bool false))) else Rk (.bool false))
def P_is_begin : List D → R D
  | [value1, places2, many3] => p_is_begin value1 places2 many3
  | _ => none
theorem g_is_begin (value1 : D) (places2 : D) (many3 : D) : FG (F_is_begin [] [value1, places2, many3]) (p_is_begin value1 places2 many3) ΨD := by
  show FG (runF false 3 m_is_begin [] [value1, places2, many3]) _ _
  refine fg_D (pt := [.is (.dat value1), .is (.dat places2), .is (.dat many3)]) ?_ ⟨rfl, rfl, rfl, trivial⟩
  unfold m_is_begin p_is_begin
  exact (st_ret retF (x_and (x_call GP_is_tuple (GS.a (gs_at (at_var rfl) (gs_at at_lit (gs_at at_lit gs_nil)))) (fun _ _ => trivial)) (x_and (x_call GP_is_between (GS.a (gs_cons (x_op2c (AtS.a (at_var rfl)) (AtS.a at_lit)) (fun v8 => (gs_at at_lit (gs_cons (x_op2c (AtS.a (at_var rfl)) (AtS.a at_lit)) (fun v9 => gs_nil)))))) (fun _ _ => trivial)) (x_call GP_is_ascending (GS.a (gs_cons (x_op2c (AtS.a (at_var rfl)) (AtS.a at_lit)) (fun v14 => (gs_at at_lit (gs_cons (x_op2c (AtS.a (at_var rfl)) (AtS.a at_lit)) (fun v15 => gs_nil)))))) (fun _ _ => trivial)))))
theorem GP_is_begin : ∀ ds, FG (F_is_begin [] ds) (P_is_begin ds) ΨD
  | [value1, places2, many3] => g_is_begin value1 places2 many3
  | [] => trivial
  | [_] => trivial
  | [_, _] => trivial
  | _ :: _ :: _ :: _ :: _ => trivial
/-! ### is_party_event -/
def p_is_party_event (value1 : D) (many2 : D) : R D := (bd ((bd ((bd ((p_is_tuple value1 (.int (2)) (.int (2)))) bl)) fun b10 => if b10 = true then (bd ((bd ((bd ((lf (ixD value1 (.int (0))))) (isXd (isTy "str")))) bl)) fun b9 => if b9 = true then (bd ((bd ((lf (ixD value1 (.int (0))))) fun v7 => lf (eqX v7 (.str "hears")))) bl) else Rk false) else Rk false)) fun b11 => if b11 = true then (bd ((lf (ixD value1 (.int (1))))) fun v14 => (p_is_between v14 (.int (0)) (.int (9)))) else (p_is_event value1 many2))
def P_is_party_event : List D → R D
  | [value1, many2] => p_is_party_event value1 many2
  | _ => none
theorem g_is_party_event (value1 : D) (many2 : D) : FG (F_is_party_event [] [value1, many2]) (p_is_party_event value1 many2) ΨD := by
  show FG (runF false 2 m_is_party_event [] [value1, many2]) _ _
  refine fg_D (pt := [.is (.dat value1), .is (.dat many2)]) ?_ ⟨rfl, rfl, trivial⟩
  unfold m_is_party_event p_is_party_event
  exact (st_if (t_and (t_b (x_call GP_is_tuple (GS.a (gs_at (at_var rfl) (gs_at at_lit (gs_at at_lit gs_nil)))) (fun _ _ => trivial))) (t_and (t_b (x_is (XE.r (x_op2c (AtS.a (at_var rfl)) (AtS.a at_lit))))) (t_b (x_op2b (XE.r (x_op2c (AtS.a (at_var rfl)) (AtS.a at_lit))) (AtS.a at_lit))))) (st_assoc (st_ret retF (x_call GP_is_between (GS.a (gs_cons (x_op2c (AtS.a (at_var rfl)) (AtS.a at_lit)) (fun v14 => (gs_at at_lit (gs_at at_lit gs_nil))))) (fun _ _ => trivial)))) (st_nilr (st_ret retF (x_call GP_is_event (GS.a (gs_at (at_var rfl) (gs_at (at_var rfl) gs_nil))) (fun _ _ => trivial)))))
theorem GP_is_party_event : ∀ ds, FG (F_is_party_event [] ds) (P_is_party_event ds) ΨD
  | [value1, many2] => g_is_party_event value1 many2
  | [] => trivial
  | [_] => trivial
  | _ :: _ :: _ :: _ => trivial
/-! ### is_party_step -/
def p_is_party_step (value1 : D) (places2 : D) (many3 : D) : R D := (bd ((bd ((bd ((bd ((p_is_tuple value1 (.int (6)) (.int (6)))) bl)) fun b4 => Rk (!b4))) fun b17 => if b17 = true then Rk true else (bd ((bd ((bd ((bd ((lf (ixD value1 (.int (0))))) fun v9 => (bd ((lf (subD places2 (.int (1))))) fun v10 => (p_is_between v9 (.int (0)) v10)))) bl)) fun b11 => Rk (!b11))) fun b16 => if b16 = true then Rk true else (bd ((bd ((bd ((lf (ixD value1 (.int (1))))) fun v14 => (p_is_party_event v14 many3))) bl)) fun b15 => Rk (!b15))))) fun b18 => if b18 = true then (Rk (.bool false)) else (bd ((bd ((bd ((bd ((bd ((lf (ixD value1 (.int (2))))) fun v24 => (bd ((lf (subD places2 (.int (1))))) fun v25 => (p_is_between v24 (.int (0)) v25)))) bl)) fun b26 => Rk (!b26))) fun b34 => if b34 = true then Rk true else (bd ((bd ((bd ((lf (ixD value1 (.int (3))))) fun v31 => (bd ((lf (ixD value1 (.int (4))))) fun v32 => (p_are_changes v31 v32 many3)))) bl)) fun b33 => Rk (!b33)))) fun b35 => if b35 = true then (Rk (.bool false)) else (bd ((bd ((lf (ixD value1 (.int (5))))) fun v39 => Rk (.bool (if false then !isNoneB v39 else isNoneB v39)))) fun v51 => bd (bl v51) fun b52 => if b52 = true then Rk (.bool true) else ((bd ((bd ((bd ((lf (ixD value1 (.int (1))))) fun v42 => lf (ixD v42 (.int (0))))) fun v44 => lf (neX v44 (.str "hears")))) fun v49 => bd (bl v49) fun b50 => if b50 = true then ((bd ((lf (ixD value1 (.int (5))))) fun v48 => (p_is_between v48 (.int (0)) (.int (9))))) else Rk (.bool false))))))
def P_is_party_step : List D → R D
  | [value1, places2, many3] => p_is_party_step value1 places2 many3
  | _ => none
theorem g_is_party_step (value1 : D) (places2 : D) (many3 : D) : FG (F_is_party_step [] [value1, places2, many3]) (p_is_party_step value1 places2 many3) ΨD := by
  show FG (runF false 3 m_is_party_step [] [value1, places2, many3]) _ _
  refine fg_D (pt := [.is (.dat value1), .is (.dat places2), .is (.dat many3)]) ?_ ⟨rfl, rfl, rfl, trivial⟩
  unfold m_is_party_step p_is_party_step
  exact (st_if (t_or (t_not (t_b (x_call GP_is_tuple (GS.a (gs_at (at_var rfl) (gs_at at_lit (gs_at at_lit gs_nil)))) (fun _ _ => trivial)))) (t_or (t_not (t_b (x_call GP_is_between (GS.a (gs_cons (x_op2c (AtS.a (at_var rfl)) (AtS.a at_lit)) (fun v9 => (gs_at at_lit (gs_cons (x_op2c (AtS.a (at_var rfl)) (AtS.a at_lit)) (fun v10 => gs_nil)))))) (fun _ _ => trivial)))) (t_not (t_b (x_call GP_is_party_event (GS.a (gs_cons (x_op2c (AtS.a (at_var rfl)) (AtS.a at_lit)) (fun v14 => (gs_at (at_var rfl) gs_nil)))) (fun _ _ => trivial)))))) (st_assoc (st_retA (inj := id) retF at_lit)) (st_nilr (st_if (t_or (t_not (t_b (x_call GP_is_between (GS.a (gs_cons (x_op2c (AtS.a (at_var rfl)) (AtS.a at_lit)) (fun v24 => (gs_at at_lit (gs_cons (x_op2c (AtS.a (at_var rfl)) (AtS.a at_lit)) (fun v25 => gs_nil)))))) (fun _ _ => trivial)))) (t_not (t_b (x_call GP_are_changes (GS.a (gs_cons (x_op2c (AtS.a (at_var rfl)) (AtS.a at_lit)) (fun v31 => (gs_cons (x_op2c (AtS.a (at_var rfl)) (AtS.a at_lit)) (fun v32 => (gs_at (at_var rfl) gs_nil)))))) (fun _ _ => trivial))))) (st_assoc (st_retA (inj := id) retF at_lit)) (st_nilr (st_ret retF (x_or (x_isN (XE.r (x_op2c (AtS.a (at_var rfl)) (AtS.a at_lit)))) (x_and (x_op2b (XE.r (x_op2b (XE.r (x_op2c (AtS.a (at_var rfl)) (AtS.a at_lit))) (AtS.a at_lit))) (AtS.a at_lit)) (x_call GP_is_between (GS.a (gs_cons (x_op2c (AtS.a (at_var rfl)) (AtS.a at_lit)) (fun v48 => (gs_at at_lit (gs_at at_lit gs_nil))))) (fun _ _ => trivial)))))))))
theorem GP_is_party_step : ∀ ds, FG (F_is_party_step [] ds) (P_is_party_step ds) ΨD
  | [value1, places2, many3] => g_is_party_step value1 places2 many3
  | [] => trivial
  | [_] => trivial
  | [_, _] => trivial
  | _ :: _ :: _ :: _ :: _ => trivial
/-! ### is_party -/
def p_is_party (value1 : D) (many2 : D) : R D := (bd ((bd ((bd ((bd ((p_is_tuple value1 (.int (3)) (.int (3)))) bl)) fun b3 => Rk (!b3))) fun b13 => if b13 = true then Rk true else (bd ((bd ((bd ((bd ((lf (ixD value1 (.int (0))))) fun v6 => (p_is_between v6 (.int (1)) (.int (12))))) bl)) fun b7 => Rk (!b7))) fun b12 => if b12 = true then Rk true else (bd ((bd ((bd ((lf (ixD value1 (.int (1))))) fun v10 => (p_is_tuple v10 (.int (0)) (.int (40))))) bl)) fun b11 => Rk (!b11))))) fun b14 => if b14 = true then (Rk (.bool false)) else (bd ((bd ((bd ((bd ((bd ((bd ((bd ((lf (ixD value1 (.int (1))))) itR')) fun l20 => mapR (fun d19 => (bd ((lf (ixD value1 (.int (0))))) fun v23 => (p_is_party_step d19 v23 many2))) l20)) fun l24 => Rk (.list l24))) fun v25 => lf (allF [v25]))) bl)) fun b26 => Rk (!b26))) fun b27 => if b27 = true then (Rk (.bool false)) else (bd ((lf (ixD value1 (.int (2))))) fun v33 => (bd ((lf (ixD value1 (.int (0))))) fun v34 => (p_is_begin v33 v34 many2)))))
def P_is_party : List D → R D
  | [value1, many2] => p_is_party value1 many2
  | _ => none
theorem g_is_party (value1 : D) (many2 : D) : FG (F_is_party [] [value1, many2]) (p_is_party value1 many2) ΨD := by
  show FG (runF false 3 m_is_party [] [value1, many2]) _ _
  refine fg_D (pt := [.is (.dat value1), .is (.dat many2), .any]) ?_ ⟨rfl, rfl, .inl rfl, trivial⟩
  unfold m_is_party p_is_party
  exact (st_if (t_or (t_not (t_b (x_call GP_is_tuple (GS.a (gs_at (at_var rfl) (gs_at at_lit (gs_at at_lit gs_nil)))) (fun _ _ => trivial)))) (t_or (t_not (t_b (x_call GP_is_between (GS.a (gs_cons (x_op2c (AtS.a (at_var rfl)) (AtS.a at_lit)) (fun v6 => (gs_at at_lit (gs_at at_lit gs_nil))))) (fun _ _ => trivial)))) (t_not (t_b (x_call GP_is_tuple (GS.a (gs_cons (x_op2c (AtS.a (at_var rfl)) (AtS.a at_lit)) (fun v10 => (gs_at at_lit (gs_at at_lit gs_nil))))) (fun _ _ => trivial)))))) (st_assoc (st_retA (inj := id) retF at_lit)) (st_nilr (st_if (t_not (t_b (x_cb1 (XE.r (x_lc (n_map (E2 := fun _ => True) (i_dat (x_op2c (AtS.a (at_var rfl)) (AtS.a at_lit))) rfl (all_lt rfl) (fun d19 acc18 => (lt_map1 rfl (x_call GP_is_party_step (GS.a (gs_at (at_var rfl) (gs_cons (x_op2c (AtS.a (at_var rfl)) (AtS.a at_lit)) (fun v23 => (gs_at (at_var rfl) gs_nil))))) (fun _ _ => trivial)) (.c .r (.c .r (.c .a (.c .r .n)))))))))))) (st_assoc (st_retA (inj := id) retF at_lit)) (st_nilr (st_ret retF (x_call GP_is_begin (GS.a (gs_cons (x_op2c (AtS.a (at_var rfl)) (AtS.a at_lit)) (fun v33 => (gs_cons (x_op2c (AtS.a (at_var rfl)) (AtS.a at_lit)) (fun v34 => (gs_at (at_var rfl) gs_nil)))))) (fun _ _ => trivial)))))))
theorem GP_is_party : ∀ ds, FG (F_is_party [] ds) (P_is_party ds) ΨD
  | [value1, many2] => g_is_party value1 many2
  | [] => trivial
  | [_] => trivial
  | _ :: _ :: _ :: _ => trivial
/-! ### product_of -/
def p_product_of (team1 : D) : R D := (bd ((bd ((lf (ixD team1 (.int (1))))) itR')) fun l5 => bd (forR (fun (s6 : D) d7 => (bd ((lf (ixD d7 (.int (0))))) fun v12 => bd (lf (imulD s6 v12)) fun found13 => (Rk found13))) (.int (1)) l5) fun (s14 : D) => (Rk s14))
def P_product_of : List D → R D
  | [team1] => p_product_of team1
  | _ => none
theorem g_product_of (team1 : D) : FG (F_product_of [] [team1]) (p_product_of team1) ΨD := by
  show FG (runF false 3 m_product_of [] [team1]) _ _
  refine fg_D (pt := [.is (.dat team1), .any, .any]) ?_ ⟨rfl, .inl rfl, .inl rfl, trivial⟩
  unfold m_product_of p_product_of
  exact (st_setA at_lit rfl (st_for (fun (s9 : D) => [.is (.dat team1), .is (.dat s9), .any]) (.int (1)) (i_dat (x_op2c (AtS.a (at_var rfl)) (AtS.a at_lit))) (.c .r (.c .r (.c .r .n))) (fun s6 d7 => (sb_nm rfl (st_aug rfl (XE.r (x_op2c (AtS.a (at_var rfl)) (AtS.a at_lit))) (fun found13 => (st_l (.c .r (.c .r (.c .a .n)))))))) (fun s14 => (st_retA (inj := id) retF (at_var rfl)))))
theorem GP_product_of : ∀ ds, FG (F_product_of [] ds) (P_product_of ds) ΨD
  | [team1] => g_product_of team1
  | [] => trivial
  | _ :: _ :: _ => trivial
/-! ### is_a_team -/
def p_is_a_team (value1 : D) : R D := (bd ((bd ((bd ((bd ((p_is_tuple value1 (.int (2)) (.int (2)))) bl)) fun b2 => Rk (!b2))) fun b12 => if b12 = true then Rk true else (bd ((bd ((bd ((bd ((lf (ixD value1 (.int (0))))) fun v5 => (p_are_timers v5))) bl)) fun b6 => Rk (!b6))) fun b11 => if b11 = true then Rk true else (bd ((bd ((bd ((lf (ixD value1 (.int (1))))) fun v9 => (p_is_tuple v9 (.int (1)) (.int (4))))) bl)) fun b10 => Rk (!b10))))) fun b13 => if b13 = true then (Rk (.bool false)) else (bd ((bd ((bd ((bd ((bd ((bd ((bd ((lf (ixD value1 (.int (1))))) itR')) fun l19 => mapR (fun d18 => (bd ((bd ((lf (ixD value1 (.int (0))))) fun v22 => lf (lenF [v22]))) fun v23 => (p_is_party d18 v23))) l19)) fun l24 => Rk (.list l24))) fun v25 => lf (allF [v25]))) bl)) fun b26 => Rk (!b26))) fun b27 => if b27 = true then (Rk (.bool false)) else (bd ((p_product_of value1)) fun v29 => lf (leD v29 (.int (400))))))
def P_is_a_team : List D → R D
  | [value1] => p_is_a_team value1
  | _ => none
theorem g_is_a_team (value1 : D) : FG (F_is_a_team [] [value1]) (p_is_a_team value1) ΨD := by
  show FG (runF false 2 m_is_a_team [] [value1]) _ _
  refine fg_D (pt := [.is (.dat value1), .any]) ?_ ⟨rfl, .inl rfl, trivial⟩
  unfold m_is_a_team p_is_a_team
  exact (st_if (t_or (t_not (t_b (x_call GP_is_tuple (GS.a (gs_at (at_var rfl) (gs_at at_lit (gs_at at_lit gs_nil)))) (fun _ _ => trivial)))) (t_or (t_not (t_b (x_call GP_are_timers (GS.a (gs_cons (x_op2c (AtS.a (at_var rfl)) (AtS.a at_lit)) (fun v5 => gs_nil))) (fun _ _ => trivial)))) (t_not (t_b (x_call GP_is_tuple (GS.a (gs_cons (x_op2c (AtS.a (at_var rfl)) (AtS.a at_lit)) (fun v9 => (gs_at at_lit (gs_at at_lit gs_nil))))) (fun _ _ => trivial)))))) (st_assoc (st_retA (inj := id) retF at_lit)) (st_nilr (st_if (t_not (t_b (x_cb1 (XE.r (x_lc (n_map (E2 := fun _ => True) (i_dat (x_op2c (AtS.a (at_var rfl)) (AtS.a at_lit))) rfl (all_lt rfl) (fun d18 acc17 => (lt_map1 rfl (x_call GP_is_party (GS.a (gs_at (at_var rfl) (gs_cons (x_cb1 (XE.r (x_op2c (AtS.a (at_var rfl)) (AtS.a at_lit)))) (fun v23 => gs_nil)))) (fun _ _ => trivial)) (.c .r (.c .a (.c .r .n))))))))))) (st_assoc (st_retA (inj := id) retF at_lit)) (st_nilr (st_ret retF (x_op2b (XE.r (x_call GP_product_of (GS.a (gs_at (at_var rfl) gs_nil)) (fun _ _ => trivial))) (AtS.a at_lit)))))))
theorem GP_is_a_team : ∀ ds, FG (F_is_a_team [] ds) (P_is_a_team ds) ΨD
  | [value1] => g_is_a_team value1
  | [] => trivial
  | _ :: _ :: _ => trivial
/-! ### need_team -/
def p_need_team (team1 : D) : R D := (bd ((bd ((bd ((p_is_a_team team1)) bl)) fun b2 => Rk (!b2))) fun b3 => if b3 = true then (bd ((p_anew 8 team1)) fun v4 => Rx ("InvalidTeam", v4)) else (Rk .none))
def P_need_team : List D → R D
  | [team1] => p_need_team team1
  | _ => none
theorem g_need_team (team1 : D) : FG (F_need_team [] [team1]) (p_need_team team1) ΨD := by
  show FG (runF false 1 m_need_team [] [team1]) _ _
  refine fg_D (pt := [.is (.dat team1)]) ?_ ⟨rfl, trivial⟩
  unfold m_need_team p_need_team
  exact (st_if (t_not (t_b (x_call GP_is_a_team (GS.a (gs_at (at_var rfl) gs_nil)) (fun _ _ => trivial)))) (st_assoc (st_raise (hE := (fun _ _ => trivial)) (x_call (GP_anew 8) (GS.a (gs_at (at_var rfl) gs_nil)) (fun _ _ => trivial)))) (st_nilr st_endD))
theorem GP_need_team : ∀ ds, FG (F_need_team [] ds) (P_need_team ds) ΨD
  | [team1] => g_need_team team1
  | [] => trivial
  | _ :: _ :: _ => trivial
/-! ### index_of -/
def p_index_of (team1 : D) (places2 : D) : R D := (bd ((bd ((lf (ixD team1 (.int (1))))) fun v6 => (lf (zipF [v6, places2])))) fun l7 => bd (forR (fun (s8 : D) d9 => (bd (un2 d9) fun t10 => (bd ((bd ((bd ((lf (ixD t10.1 (.int (0))))) fun v15 => lf (mulX s8 v15))) fun v16 => lf (addD v16 t10.2))) fun found18 => (Rk found18)))) (.int (0)) l7) fun (s19 : D) => (Rk s19))
def P_index_of : List D → R D
  | [team1, places2] => p_index_of team1 places2
  | _ => none
theorem g_index_of (team1 : D) (places2 : D) : FG (F_index_of [] [team1, places2]) (p_index_of team1 places2) ΨD := by
  show FG (runF false 5 m_index_of [] [team1, places2]) _ _
  refine fg_D (pt := [.is (.dat team1), .is (.dat places2), .any, .any, .any]) ?_ ⟨rfl, rfl, .inl rfl, .inl rfl, .inl rfl, trivial⟩
  unfold m_index_of p_index_of
  exact (st_setA at_lit rfl (st_for (fun (s11 : D) => [.is (.dat team1), .is (.dat places2), .is (.dat s11), .any, .any]) (.int (0)) (i_zip (GS.a (gs_cons (x_op2c (AtS.a (at_var rfl)) (AtS.a at_lit)) (fun v6 => (gs_at (at_var rfl) gs_nil))))) (.c .r (.c .r (.c .r (.c .r (.c .r .n))))) (fun s8 d9 => (sb_tp (s_tp2 rfl (fun _ => rfl)) (fun t10 => (st_set (x_op2b (XE.r (x_op2a (AtS.a (at_var rfl)) (XE.r (x_op2c (AtS.a (at_var rfl)) (AtS.a at_lit))))) (AtS.a (at_var rfl))) rfl (fun found18 => (st_l (.c .r (.c .r (.c .r (.c .a (.c .a .n))))))))))) (fun s19 => (st_retA (inj := id) retF (at_var rfl)))))
theorem GP_index_of : ∀ ds, FG (F_index_of [] ds) (P_index_of ds) ΨD
  | [team1, places2] => g_index_of team1 places2
  | [] => trivial
  | [_] => trivial
  | _ :: _ :: _ :: _ => trivial
/-! ### places_of -/
def p_places_of (team1 : D) (place2 : D) : R D := (bd ((bd ((bd ((lf (ixD team1 (.int (1))))) fun v6 => lf (revX v6))) itR')) fun l7 => bd (forR (fun (s8 : D × (List D)) d9 => (bd ((bd ((lf (ixD d9 (.int (0))))) fun v15 => lf (modD s8.1 v15))) fun v16 => bd (appR s8.2 v16) fun found17 => (bd ((lf (ixD d9 (.int (0))))) fun v20 => bd (lf (fdivD s8.1 v20)) fun place21 => (Rk (place21, found17))))) (place2, []) l7) fun (s22 : D × (List D)) => (bd ((lf (revX (.list s22.2)))) fun v24 => lf (tupleF [v24])))
def P_places_of : List D → R D
  | [team1, place2] => p_places_of team1 place2
  | _ => none
theorem g_places_of (team1 : D) (place2 : D) : FG (F_places_of [] [team1, place2]) (p_places_of team1 place2) ΨD := by
  show FG (runF false 4 m_places_of [] [team1, place2]) _ _
  refine fg_D (pt := [.is (.dat team1), .is (.dat place2), .any, .any]) ?_ ⟨rfl, rfl, .inl rfl, .inl rfl, trivial⟩
  unfold m_places_of p_places_of
  exact (st_setNA al_nil rfl rfl (st_for (fun (s11 : D × (List D)) => [.is (.dat team1), .is (.dat s11.1), .is (.lst s11.2), .any]) (place2, []) (i_dat (x_op1 (XE.r (x_op2c (AtS.a (at_var rfl)) (AtS.a at_lit))))) (.c .r (.c .r (.c .r (.c .r .n)))) (fun s8 d9 => (sb_nm rfl (st_app (x_op2a (AtS.a (at_var rfl)) (XE.r (x_op2c (AtS.a (at_var rfl)) (AtS.a at_lit)))) rfl rfl rfl (fun found17 => (st_aug rfl (XE.r (x_op2c (AtS.a (at_var rfl)) (AtS.a at_lit))) (fun place21 => (st_l (.c .r (.c .r (.c .r (.c .a .n))))))))))) (fun s22 => (st_ret retF (x_cb1 (XE.r (x_op1a (at_own rfl rfl))))))))
theorem GP_places_of : ∀ ds, FG (F_places_of [] ds) (P_places_of ds) ΨD
  | [team1, place2] => g_places_of team1 place2
  | [] => trivial
  | [_] => trivial
  | _ :: _ :: _ :: _ => trivial
/-! ### are_party_places -/
def p_are_party_places (team1 : D) (value2 : D) : R D := (bd ((bd ((lf (ixD team1 (.int (1))))) fun v5 => lf (lenF [v5]))) fun many6 => (bd ((p_is_tuple value2 many6 many6)) fun v21 => bd (bl v21) fun b22 => if b22 = true then ((bd ((bd ((bd ((bd ((lf (ixD team1 (.int (1))))) fun v9 => (lf (zipF [value2, v9])))) fun l13 => mapR (fun d11 => bd (un2 d11) fun t12 => (bd ((bd ((lf (ixD t12.2 (.int (0))))) fun v16 => lf (subD v16 (.int (1))))) fun v18 => (p_is_between t12.1 (.int (0)) v18))) l13)) fun l19 => Rk (.list l19))) fun v20 => lf (allF [v20]))) else Rk (.bool false)))
def P_are_party_places : List D → R D
  | [team1, value2] => p_are_party_places team1 value2
  | _ => none
theorem g_are_party_places (team1 : D) (value2 : D) : FG (F_are_party_places [] [team1, value2]) (p_are_party_places team1 value2) ΨD := by
  show FG (runF false 5 m_are_party_places [] [team1, value2]) _ _
  refine fg_D (pt := [.is (.dat team1), .is (.dat value2), .any, .any, .any]) ?_ ⟨rfl, rfl, .inl rfl, .inl rfl, .inl rfl, trivial⟩
  unfold m_are_party_places p_are_party_places
  exact (st_set (x_cb1 (XE.r (x_op2c (AtS.a (at_var rfl)) (AtS.a at_lit)))) rfl (fun many6 => (st_ret retF (x_and (x_call GP_is_tuple (GS.a (gs_at (at_var rfl) (gs_at (at_var rfl) (gs_at (at_var rfl) gs_nil)))) (fun _ _ => trivial)) (x_cb1 (XE.r (x_lc (n_map (E2 := fun _ => True) (i_zip (GS.a (gs_at (at_var rfl) (gs_cons (x_op2c (AtS.a (at_var rfl)) (AtS.a at_lit)) (fun v9 => gs_nil))))) rfl (all_lt rfl) (fun d11 acc10 => (lt_map (s_tp2 rfl (fun _ => rfl)) (fun t12 => (x_call GP_is_between (GS.a (gs_at (at_var rfl) (gs_at at_lit (gs_cons (x_op2b (XE.r (x_op2c (AtS.a (at_var rfl)) (AtS.a at_lit))) (AtS.a at_lit)) (fun v18 => gs_nil))))) (fun _ _ => trivial))) (fun t12 => (.c .r (.c .r (.c .r (.c .a (.c .a (.c .r .n)))))))))))))))))
theorem GP_are_party_places : ∀ ds, FG (F_are_party_places [] ds) (P_are_party_places ds) ΨD
  | [team1, value2] => g_are_party_places team1 value2
  | [] => trivial
  | [_] => trivial
  | _ :: _ :: _ :: _ => trivial
/-! ### place_of -/
def p_place_of (team1 : D) (places2 : D) : R D := (bd ((p_need_team team1)) fun v3 => (bd ((bd ((bd ((p_are_party_places team1 places2)) bl)) fun b4 => Rk (!b4))) fun b5 => if b5 = true then (bd ((p_anew 8 places2)) fun v6 => Rx ("InvalidPlaces", v6)) else (p_index_of team1 places2)))
def P_place_of : List D → R D
  | [team1, places2] => p_place_of team1 places2
  | _ => none
theorem g_place_of (team1 : D) (places2 : D) : FG (F_place_of [] [team1, places2]) (p_place_of team1 places2) ΨD := by
  show FG (runF false 2 m_place_of [] [team1, places2]) _ _
  refine fg_D (pt := [.is (.dat team1), .is (.dat places2)]) ?_ ⟨rfl, rfl, trivial⟩
  unfold m_place_of p_place_of
  exact (st_expr (x_call GP_need_team (GS.a (gs_at (at_var rfl) gs_nil)) (fun _ _ => trivial)) (fun v3 => (st_if (t_not (t_b (x_call GP_are_party_places (GS.a (gs_at (at_var rfl) (gs_at (at_var rfl) gs_nil))) (fun _ _ => trivial)))) (st_assoc (st_raise (hE := (fun _ _ => trivial)) (x_call (GP_anew 8) (GS.a (gs_at (at_var rfl) gs_nil)) (fun _ _ => trivial)))) (st_nilr (st_ret retF (x_call GP_index_of (GS.a (gs_at (at_var rfl) (gs_at (at_var rfl) gs_nil))) (fun _ _ => trivial)))))))
theorem GP_place_of : ∀ ds, FG (F_place_of [] ds) (P_place_of ds) ΨD
  | [team1, places2] => g_place_of team1 places2
  | [] => trivial
  | [_] => trivial
  | _ :: _ :: _ :: _ => trivial
/-! ### places_at -/
def p_places_at (team1 : D) (place2 : D) : R D := (bd ((p_need_team team1)) fun v3 => (bd ((bd ((bd ((p_product_of team1)) fun v4 => lf (subD v4 (.int (1))))) fun v6 => (p_need_number place2 (.int (0)) v6))) fun v7 => (p_places_of team1 place2)))
def P_places_at : List D → R D
  | [team1, place2] => p_places_at team1 place2
  | _ => none
theorem g_places_at (team1 : D) (place2 : D) : FG (F_places_at [] [team1, place2]) (p_places_at team1 place2) ΨD := by
  show FG (runF false 2 m_places_at [] [team1, place2]) _ _
  refine fg_D (pt := [.is (.dat team1), .is (.dat place2)]) ?_ ⟨rfl, rfl, trivial⟩
  unfold m_places_at p_places_at
  exact (st_expr (x_call GP_need_team (GS.a (gs_at (at_var rfl) gs_nil)) (fun _ _ => trivial)) (fun v3 => (st_expr (x_call GP_need_number (GS.a (gs_at (at_var rfl) (gs_at at_lit (gs_cons (x_op2b (XE.r (x_call GP_product_of (GS.a (gs_at (at_var rfl) gs_nil)) (fun _ _ => trivial))) (AtS.a at_lit)) (fun v6 => gs_nil))))) (fun _ _ => trivial)) (fun v7 => (st_ret retF (x_call GP_places_of (GS.a (gs_at (at_var rfl) (gs_at (at_var rfl) gs_nil))) (fun _ _ => trivial)))))))
theorem GP_places_at : ∀ ds, FG (F_places_at [] ds) (P_places_at ds) ΨD
  | [team1, place2] => g_places_at team1 place2
  | [] => trivial
  | [_] => trivial
  | _ :: _ :: _ :: _ => trivial
/-! ### are_wanted -/
def p_are_wanted (team1 : D) (value2 : D) : R D := (bd ((bd ((lf (ixD team1 (.int (1))))) fun v5 => lf (lenF [v5]))) fun many6 => (bd ((bd ((bd ((p_is_tuple value2 many6 many6)) bl)) fun b7 => Rk (!b7))) fun b8 => if b8 = true then (Rk (.bool false)) else (bd ((bd ((bd ((bd ((lf (ixD team1 (.int (1))))) fun v12 => (lf (zipF [value2, v12])))) fun l16 => mapR (fun d14 => bd (un2 d14) fun t15 => (bd ((bd (Rk t15.1) fun v17 => Rk (.bool (if false then !isNoneB v17 else isNoneB v17)))) fun v23 => bd (bl v23) fun b24 => if b24 = true then Rk (.bool true) else ((bd ((bd ((lf (ixD t15.2 (.int (0))))) fun v20 => lf (subD v20 (.int (1))))) fun v22 => (p_is_ascending t15.1 (.int (0)) v22))))) l16)) fun l25 => Rk (.list l25))) fun v26 => lf (allF [v26]))))
def P_are_wanted : List D → R D
  | [team1, value2] => p_are_wanted team1 value2
  | _ => none
theorem g_are_wanted (team1 : D) (value2 : D) : FG (F_are_wanted [] [team1, value2]) (p_are_wanted team1 value2) ΨD := by
  show FG (runF false 5 m_are_wanted [] [team1, value2]) _ _
  refine fg_D (pt := [.is (.dat team1), .is (.dat value2), .any, .any, .any]) ?_ ⟨rfl, rfl, .inl rfl, .inl rfl, .inl rfl, trivial⟩
  unfold m_are_wanted p_are_wanted
  exact (st_set (x_cb1 (XE.r (x_op2c (AtS.a (at_var rfl)) (AtS.a at_lit)))) rfl (fun many6 => (st_if (t_not (t_b (x_call GP_is_tuple (GS.a (gs_at (at_var rfl) (gs_at (at_var rfl) (gs_at (at_var rfl) gs_nil)))) (fun _ _ => trivial)))) (st_assoc (st_retA (inj := id) retF at_lit)) (st_nilr (st_ret retF (x_cb1 (XE.r (x_lc (n_map (E2 := fun _ => True) (i_zip (GS.a (gs_at (at_var rfl) (gs_cons (x_op2c (AtS.a (at_var rfl)) (AtS.a at_lit)) (fun v12 => gs_nil))))) rfl (all_lt rfl) (fun d14 acc13 => (lt_map (s_tp2 rfl (fun _ => rfl)) (fun t15 => (x_or (x_isN (At.r (AtS.a (at_var rfl)))) (x_call GP_is_ascending (GS.a (gs_at (at_var rfl) (gs_at at_lit (gs_cons (x_op2b (XE.r (x_op2c (AtS.a (at_var rfl)) (AtS.a at_lit))) (AtS.a at_lit)) (fun v22 => gs_nil))))) (fun _ _ => trivial)))) (fun t15 => (.c .r (.c .r (.c .r (.c .a (.c .a (.c .r .n))))))))))))))))))
theorem GP_are_wanted : ∀ ds, FG (F_are_wanted [] ds) (P_are_wanted ds) ΨD
  | [team1, value2] => g_are_wanted team1 value2
  | [] => trivial
  | [_] => trivial
  | _ :: _ :: _ :: _ => trivial
/-! ### goals_by -/
def p_goals_by (team1 : D) (wanted2 : D) : R D := (bd ((bd ((p_product_of team1)) fun v4 => (lf (rngF [v4])))) fun l5 => bd (forR (fun (s6 : (List D)) d7 => (bd ((bd ((bd ((bd ((bd ((bd ((p_places_of team1 d7)) fun v10 => (lf (zipF [v10, wanted2])))) fun l14 => mapR (fun d12 => bd (un2 d12) fun t13 => (bd ((bd (Rk t13.2) fun v15 => Rk (.bool (if false then !isNoneB v15 else isNoneB v15)))) fun v18 => bd (bl v18) fun b19 => if b19 = true then Rk (.bool true) else ((lf (inX t13.1 t13.2))))) l14)) fun l20 => Rk (.list l20))) fun v21 => lf (allF [v21]))) bl)) fun b22 => if b22 = true then (bd (Rk d7) fun v23 => bd (appR s6 v23) fun found24 => (Rk found24)) else (Rk s6))) [] l5) fun (s25 : (List D)) => (lf (tupleF [(.list s25)])))
def P_goals_by : List D → R D
  | [team1, wanted2] => p_goals_by team1 wanted2
  | _ => none
theorem g_goals_by (team1 : D) (wanted2 : D) : FG (F_goals_by [] [team1, wanted2]) (p_goals_by team1 wanted2) ΨD := by
  show FG (runF false 6 m_goals_by [] [team1, wanted2]) _ _
  refine fg_D (pt := [.is (.dat team1), .is (.dat wanted2), .any, .any, .any, .any]) ?_ ⟨rfl, rfl, .inl rfl, .inl rfl, .inl rfl, .inl rfl, trivial⟩
  unfold m_goals_by p_goals_by
  exact (st_setNA al_nil rfl rfl (st_for (fun (s9 : (List D)) => [.is (.dat team1), .is (.dat wanted2), .is (.lst s9), .any, .any, .any]) [] (i_rng (gs_cons (x_call GP_product_of (GS.a (gs_at (at_var rfl) gs_nil)) (fun _ _ => trivial)) (fun v4 => gs_nil))) (.c .r (.c .r (.c .r (.c .r (.c .r (.c .r .n)))))) (fun s6 d7 => (sb_nm rfl (st_if (t_b (x_cb1 (XE.r (x_lc (n_map (E2 := fun _ => True) (i_zip (GS.a (gs_cons (x_call GP_places_of (GS.a (gs_at (at_var rfl) (gs_at (at_var rfl) gs_nil))) (fun _ _ => trivial)) (fun v10 => (gs_at (at_var rfl) gs_nil))))) rfl (all_lt rfl) (fun d12 acc11 => (lt_map (s_tp2 rfl (fun _ => rfl)) (fun t13 => (x_or (x_isN (At.r (AtS.a (at_var rfl)))) (x_op2c (AtS.a (at_var rfl)) (AtS.a (at_var rfl))))) (fun t13 => (.c .r (.c .r (.c .r (.c .r (.c .a (.c .a (.c .r .n))))))))))))))) (st_assoc (st_app (AtS.e (at_var rfl)) rfl rfl rfl (fun found24 => (st_nilr (st_l (.c .r (.c .r (.c .r (.c .a (.c .r (.c .r .n))))))))))) (st_nilr (st_l (.c .r (.c .r (.c .r (.c .a (.c .r (.c .r .n))))))))))) (fun s25 => (st_ret retF (x_cb1a (at_own rfl rfl))))))
theorem GP_goals_by : ∀ ds, FG (F_goals_by [] ds) (P_goals_by ds) ΨD
  | [team1, wanted2] => g_goals_by team1 wanted2
  | [] => trivial
  | [_] => trivial
  | _ :: _ :: _ :: _ => trivial
/-! ### goals_with -/
def p_goals_with (team1 : D) (wanted2 : D) : R D := (bd ((p_need_team team1)) fun v3 => (bd ((bd ((bd ((p_are_wanted team1 wanted2)) bl)) fun b4 => Rk (!b4))) fun b5 => if b5 = true then (bd ((p_anew 8 wanted2)) fun v6 => Rx ("InvalidPlaces", v6)) else (p_goals_by team1 wanted2)))
def P_goals_with : List D → R D
  | [team1, wanted2] => p_goals_with team1 wanted2
  | _ => none
theorem g_goals_with (team1 : D) (wanted2 : D) : FG (F_goals_with [] [team1, wanted2]) (p_goals_with team1 wanted2) ΨD := by
  show FG (runF false 2 m_goals_with [] [team1, wanted2]) _ _
  refine fg_D (pt := [.is (.dat team1), .is (.dat wanted2)]) ?_ ⟨rfl, rfl, trivial⟩
  unfold m_goals_with p_goals_with
  exact (st_expr (x_call GP_need_team (GS.a (gs_at (at_var rfl) gs_nil)) (fun _ _ => trivial)) (fun v3 => (st_if (t_not (t_b (x_call GP_are_wanted (GS.a (gs_at (at_var rfl) (gs_at (at_var rfl) gs_nil))) (fun _ _ => trivial)))) (st_assoc (st_raise (hE := (fun _ _ => trivial)) (x_call (GP_anew 8) (GS.a (gs_at (at_var rfl) gs_nil)) (fun _ _ => trivial)))) (st_nilr (st_ret retF (x_call GP_goals_by (GS.a (gs_at (at_var rfl) (gs_at (at_var rfl) gs_nil))) (fun _ _ => trivial)))))))
theorem GP_goals_with : ∀ ds, FG (F_goals_with [] ds) (P_goals_with ds) ΨD
  | [team1, wanted2] => g_goals_with team1 wanted2
  | [] => trivial
  | [_] => trivial
  | _ :: _ :: _ :: _ => trivial
/-! ### _law_well -/
def p__law_well (script1 : D) (k2 : D) : R (List D) := (bd ((bd ((bd ((bd ((lf (lenF [script1]))) fun v5 => lf (ltD k2 v5))) bl)) fun c13 => if c13 = true then (bd ((lf (ixD script1 k2))) fun v8 => lf (intF [v8])) else (bd ((lf (mulX (.int (71)) k2))) fun v11 => lf (addD v11 (.int (37)))))) fun cell14 => (bd ((bd ((lf (lenF [script1]))) fun v17 => lf (addD (.int (29)) v17))) fun whole18 => (bd ((itR' script1)) fun l19 => bd (forR (fun (s20 : D) d21 => (bd ((bd ((bd ((bd ((lf (mulX s20 (.int (5323))))) fun v33 => bd ((bd ((lf (intF [d21]))) fun v31 => bd ((bd ((lf (powD (.int (10)) (.int (19))))) fun v29 => lf (addD v29 (.int (51))))) fun v32 => lf (modD v31 v32))) fun v34 => lf (addD v33 v34))) fun v35 => lf (intF [v35]))) fun v40 => bd ((bd ((lf (powD (.int (10)) (.int (25))))) fun v38 => lf (addD v38 (.int (13))))) fun v41 => lf (modD v40 v41))) fun whole42 => (Rk whole42))) whole18 l19) fun (s43 : D) => (bd ((bd ((bd ((bd ((bd ((bd ((bd ((lf (absF [cell14]))) fun v45 => lf (mulX v45 (.int (7129))))) fun v49 => bd ((lf (mulX s43 (.int (41))))) fun v50 => lf (addD v49 v50))) fun v56 => bd ((bd ((bd ((lf (ltD cell14 (.int (0))))) fun v53 => lf (intF [v53]))) fun v55 => lf (mulX (.int (3)) v55))) fun v57 => lf (addD v56 v57))) fun v60 => bd ((lf (mulX (.int (61)) k2))) fun v61 => lf (addD v60 v61))) fun v62 => lf (intF [v62]))) fun v67 => bd ((bd ((lf (powD (.int (10)) (.int (28))))) fun v65 => lf (addD v65 (.int (331))))) fun v68 => lf (modD v67 v68))) fun mixed69 => (bd ((bd ((bd ((bd ((lf (absF [cell14]))) fun v73 => bd ((lf (powD (.int (10)) (.int (18))))) fun v74 => lf (subD v73 v74))) fun v75 => (lf (maxF [(.int (0)), v75])))) fun v76 => Rk [v76, mixed69, (.int (0))])) fun l77 => Rk l77)))))
def P__law_well : List D → R (List D)
  | [script1, k2] => p__law_well script1 k2
  | _ => none
theorem g__law_well (script1 : D) (k2 : D) : FG (F__law_well [] [script1, k2]) (p__law_well script1 k2) ΨN := by
  show FG (runF false 6 m__law_well [] [script1, k2]) _ _
  refine fg_N (pt := [.is (.dat script1), .is (.dat k2), .any, .any, .any, .any]) ?_ ⟨rfl, rfl, .inl rfl, .inl rfl, .inl rfl, .inl rfl, trivial⟩
  unfold m__law_well p__law_well
  exact (st_set (x_if (t_b (x_op2a (AtS.a (at_var rfl)) (XE.r (x_cb1a (AtS.a (at_var rfl)))))) (x_cb1 (XE.r (x_op2c (AtS.a (at_var rfl)) (AtS.a (at_var rfl))))) (x_op2b (XE.r (x_op2c (AtS.a at_lit) (AtS.a (at_var rfl)))) (AtS.a at_lit))) rfl (fun cell14 => (st_set (x_op2a (AtS.a at_lit) (XE.r (x_cb1a (AtS.a (at_var rfl))))) rfl (fun whole18 => (st_for (fun (s23 : D) => [.is (.dat script1), .is (.dat k2), .is (.dat cell14), .is (.dat s23), .any, .any]) whole18 (i_at (at_var rfl)) (.c .r (.c .r (.c .r (.c .r (.c .r (.c .r .n)))))) (fun s20 d21 => (sb_nm rfl (st_set (x_op2 (XE.r (x_cb1 (XE.r (x_op2 (XE.r (x_op2c (AtS.a (at_var rfl)) (AtS.a at_lit))) (XE.r (x_op2 (XE.r (x_cb1a (AtS.a (at_var rfl)))) (XE.r (x_op2b (XE.r (x_op2c (AtS.a at_lit) (AtS.a at_lit))) (AtS.a at_lit))))))))) (XE.r (x_op2b (XE.r (x_op2c (AtS.a at_lit) (AtS.a at_lit))) (AtS.a at_lit)))) rfl (fun whole42 => (st_l (.c .r (.c .r (.c .r (.c .r (.c .a (.c .r .n))))))))))) (fun s43 => (st_set (x_op2 (XE.r (x_cb1 (XE.r (x_op2 (XE.r (x_op2 (XE.r (x_op2 (XE.r (x_op2b (XE.r (x_cb1a (AtS.a (at_var rfl)))) (AtS.a at_lit))) (XE.r (x_op2c (AtS.a (at_var rfl)) (AtS.a at_lit))))) (XE.r (x_op2a (AtS.a at_lit) (XE.r (x_cb1 (XE.r (x_op2c (AtS.a (at_var rfl)) (AtS.a at_lit))))))))) (XE.r (x_op2c (AtS.a at_lit) (AtS.a (at_var rfl)))))))) (XE.r (x_op2b (XE.r (x_op2c (AtS.a at_lit) (AtS.a at_lit))) (AtS.a at_lit)))) rfl (fun mixed69 => (st_retN (inj := id) retF (n_lst (GS.a (gs_cons (x_cb (gs_at at_lit (gs_cons (x_op2 (XE.r (x_cb1a (AtS.a (at_var rfl)))) (XE.r (x_op2c (AtS.a at_lit) (AtS.a at_lit)))) (fun v75 => gs_nil)))) (fun v76 => (gs_at (at_var rfl) (gs_at at_lit gs_nil)))))))))))))))
theorem GP__law_well : ∀ ds, FG (F__law_well [] ds) (P__law_well ds) ΨN
  | [script1, k2] => g__law_well script1 k2
  | [] => trivial
  | [_] => trivial
  | _ :: _ :: _ :: _ => trivial
/-! ### _law_draw -/
def p__law_draw (well1 : List D) (many2 : D) : R (D × List D) := (bd ((bd ((bd ((lf (ixD (.list well1) (.int (0))))) fun v5 => lf (gtD v5 (.int (0))))) bl)) fun b7 => if b7 = true then (bd ((bd ((bd ((lf (ixD (.list well1) (.int (0))))) fun v10 => lf (intF [v10]))) fun v11 => lf (modD v11 many2))) fun found13 => (bd ((bd ((lf (ixD (.list well1) (.int (0))))) fun v19 => lf (fdivD v19 many2))) fun v14 => bd (Rk (.int (0))) fun v15 => bd (stR well1 v14 v15) fun well16 => (bd (Rk found13) fun v21 => Rk (v21, well16)))) else (bd ((bd ((lf (ixD (.list well1) (.int (2))))) fun v27 => lf (addD v27 (.int (1))))) fun v22 => bd (Rk (.int (2))) fun v23 => bd (stR well1 v22 v23) fun well24 => (bd ((lf (ixD (.list well24) (.int (2))))) fun step31 => (bd ((bd ((bd ((bd ((bd ((bd ((bd ((bd ((lf (ixD (.list well24) (.int (1))))) fun v34 => lf (addD v34 (.int (31))))) fun v38 => bd ((lf (addD step31 (.int (5))))) fun v39 => lf (mulX v38 v39))) fun v40 => lf (mulX v40 (.int (998244353))))) fun v48 => bd ((bd ((bd ((lf (mulX step31 step31))) fun v44 => lf (mulX v44 step31))) fun v46 => lf (mulX v46 (.int (424242427))))) fun v49 => lf (addD v48 v49))) fun v50 => lf (addD v50 (.int (77))))) fun v52 => lf (intF [v52]))) fun v57 => bd ((bd ((lf (powD (.int (10)) (.int (29))))) fun v55 => lf (addD v55 (.int (319))))) fun v58 => lf (modD v57 v58))) fun mixed59 => (bd ((bd ((bd ((bd ((bd ((lf (mulX mixed59 mixed59))) fun v66 => bd ((bd ((lf (ixD (.list well24) (.int (1))))) fun v64 => lf (mulX v64 (.int (7))))) fun v67 => lf (addD v66 v67))) fun v68 => lf (addD v68 step31))) fun v70 => lf (intF [v70]))) fun v75 => bd ((bd ((lf (powD (.int (10)) (.int (31))))) fun v73 => lf (addD v73 (.int (33))))) fun v76 => lf (modD v75 v76))) fun mixed77 => (bd ((bd ((bd ((bd ((bd ((lf (mulX mixed77 mixed77))) fun v80 => lf (mulX v80 (.int (3))))) fun v84 => bd ((lf (mulX mixed77 (.int (11))))) fun v85 => lf (addD v84 v85))) fun v86 => lf (intF [v86]))) fun v91 => bd ((bd ((lf (powD (.int (10)) (.int (33))))) fun v89 => lf (addD v89 (.int (603))))) fun v92 => lf (modD v91 v92))) fun mixed93 => (bd ((bd ((bd ((lf (fdivD mixed93 (.int (50021))))) fun v96 => lf (intF [v96]))) fun v97 => lf (modD v97 many2))) fun v99 => Rk (v99, well24))))))))
def P__law_draw (w : List D) : List D → R (D × List D)
  | [many2] => p__law_draw w many2
  | _ => none
theorem g__law_draw (well1 : List D) (many2 : D) : FG (F__law_draw well1 [many2]) (p__law_draw well1 many2) ΨDo := by
  show FG (runF true 5 m__law_draw well1 [many2]) _ _
  refine fg_Do (pt := [.is (.bor well1), .is (.dat many2), .any, .any, .any]) ?_ ⟨rfl, rfl, .inl rfl, .inl rfl, .inl rfl, trivial⟩
  unfold m__law_draw p__law_draw
  exact (st_if (t_b (x_op2b (XE.r (x_op2c (at_own rfl rfl) (AtS.a at_lit))) (AtS.a at_lit))) (st_assoc (st_set (x_op2b (XE.r (x_cb1 (XE.r (x_op2c (at_own rfl rfl) (AtS.a at_lit))))) (AtS.a (at_var rfl))) rfl (fun found13 => (st_assoc (st_store (x_op2b (XE.r (x_op2c (at_own rfl rfl) (AtS.a at_lit))) (AtS.a (at_var rfl))) (At.r (AtS.a at_lit)) rfl rfl (fun well16 => (st_assoc (st_reto (inj := id) retF (AtS.e (at_var rfl)) rfl)))))))) (st_nilr (st_store (x_op2b (XE.r (x_op2c (at_own rfl rfl) (AtS.a at_lit))) (AtS.a at_lit)) (At.r (AtS.a at_lit)) rfl rfl (fun well24 => (st_set (x_op2c (at_own rfl rfl) (AtS.a at_lit)) rfl (fun step31 => (st_set (x_op2 (XE.r (x_cb1 (XE.r (x_op2b (XE.r (x_op2 (XE.r (x_op2b (XE.r (x_op2 (XE.r (x_op2b (XE.r (x_op2c (at_own rfl rfl) (AtS.a at_lit))) (AtS.a at_lit))) (XE.r (x_op2c (AtS.a (at_var rfl)) (AtS.a at_lit))))) (AtS.a at_lit))) (XE.r (x_op2b (XE.r (x_op2b (XE.r (x_op2c (AtS.a (at_var rfl)) (AtS.a (at_var rfl)))) (AtS.a (at_var rfl)))) (AtS.a at_lit))))) (AtS.a at_lit))))) (XE.r (x_op2b (XE.r (x_op2c (AtS.a at_lit) (AtS.a at_lit))) (AtS.a at_lit)))) rfl (fun mixed59 => (st_set (x_op2 (XE.r (x_cb1 (XE.r (x_op2b (XE.r (x_op2 (XE.r (x_op2c (AtS.a (at_var rfl)) (AtS.a (at_var rfl)))) (XE.r (x_op2b (XE.r (x_op2c (at_own rfl rfl) (AtS.a at_lit))) (AtS.a at_lit))))) (AtS.a (at_var rfl)))))) (XE.r (x_op2b (XE.r (x_op2c (AtS.a at_lit) (AtS.a at_lit))) (AtS.a at_lit)))) rfl (fun mixed77 => (st_set (x_op2 (XE.r (x_cb1 (XE.r (x_op2 (XE.r (x_op2b (XE.r (x_op2c (AtS.a (at_var rfl)) (AtS.a (at_var rfl)))) (AtS.a at_lit))) (XE.r (x_op2c (AtS.a (at_var rfl)) (AtS.a at_lit))))))) (XE.r (x_op2b (XE.r (x_op2c (AtS.a at_lit) (AtS.a at_lit))) (AtS.a at_lit)))) rfl (fun mixed93 => (st_reto (inj := id) retF (x_op2b (XE.r (x_cb1 (XE.r (x_op2c (AtS.a (at_var rfl)) (AtS.a at_lit))))) (AtS.a (at_var rfl))) rfl)))))))))))))
theorem GP__law_draw (w : List D) : ∀ ds, FG (F__law_draw w ds) (P__law_draw w ds) ΨDo
  | [many2] => g__law_draw w many2
  | [] => trivial
  | _ :: _ :: _ => trivial
/-! ### _law_some -/
def p__law_some (well1 : List D) (many2 : D) (odds3 : D) : R (D × List D) := (bd ((bd ((bd ((bd ((lf (rngF [many2]))) fun l7 => bd (lcI (fun s8 d6 => bd ((bd ((bd ((bd (p__law_draw s8 odds3) fun r12 => Rk (r12.1, r12.2))) fun v9 => bd (lf (eqX v9.1 (.int (0)))) fun z11 => Rk (z11, v9.2))) fun v13 => bd (bl v13.1) fun b14 => Rk (b14, v13.2))) fun c15 => if c15.1 = true then bd ((bd (Rk d6) fun v16 => Rk (v16, c15.2))) fun y17 => Rk (some y17.1, y17.2) else Rk (none, c15.2)) well1 l7) capI)) fun l18 => Rk (.list l18.1, l18.2))) fun v19 => (bd (lf (tupleF [v19.1])) fun v4 => Rk (v4, v19.2)))) fun v20 => Rk (v20.1, v20.2))
def P__law_some (w : List D) : List D → R (D × List D)
  | [many2, odds3] => p__law_some w many2 odds3
  | _ => none
theorem g__law_some (well1 : List D) (many2 : D) (odds3 : D) : FG (F__law_some well1 [many2, odds3]) (p__law_some well1 many2 odds3) ΨDo := by
  show FG (runF true 4 m__law_some well1 [many2, odds3]) _ _
  refine fg_Do (pt := [.is (.bor well1), .is (.dat many2), .is (.dat odds3), .any]) ?_ ⟨rfl, rfl, rfl, .inl rfl, trivial⟩
  unfold m__law_some p__law_some
  exact (st_retoI (pc := fun (s : (List D)) => [.is (.bor s), .is (.dat many2), .is (.dat odds3), .any]) (s := well1) (inj := id) (g := fun s => s) retF (xi_cb (ai_i (xi_lc (n_lcI (E2 := fun _ => True) (i_rng (gs_at (at_var rfl) gs_nil)) rfl (fun _ => all_lt rfl) (fun _ => ⟨rfl, rfl⟩) (fun s8 d6 acc5 => (lti_sel1 rfl (ti_b (xi_op2b (xi_callO (g := fun s => s) (u := fun _ w => w) GP__law_draw (fun _ => ⟨_, rfl, rfl, fun _ => rfl⟩) (ai_at (at_var rfl) (ai_nil rfl)) (fun _ => trivial)) (fun _ => (AtS.a at_lit)))) (fun c15 => (XF.imp (AtS.e (at_var rfl)))) (fun _ => (.c .r (.c .r (.c .r (.c .a (.c .r .n)))))))))) (fun v19 => (ai_nil rfl)))) (fun _ => rfl))
theorem GP__law_some (w : List D) : ∀ ds, FG (F__law_some w ds) (P__law_some w ds) ΨDo
  | [many2, odds3] => g__law_some w many2 odds3
  | [] => trivial
  | [_] => trivial
  | _ :: _ :: _ :: _ => trivial
/-! ### _law_is_int -/
def p__law_is_int (value1 : D) (low2 : D) (high3 : D) : R D := (bd ((bd (Rk value1) (isXd (isTy "int")))) fun v13 => bd (bl v13) fun b14 => if b14 = true then ((bd ((bd ((bd (Rk value1) (isXd (isTy "bool")))) fun v4 => bd (bl v4) fun b5 => Rk (.bool (!b5)))) fun v11 => bd (bl v11) fun b12 => if b12 = true then ((bd (Rk low2) fun v6 => bd (Rk value1) fun v7 => bd (lf (leD v6 v7)) fun z9 => bd (bl z9) fun t10 => if t10 = true then bd (Rk high3) fun v8 => lf (leD v7 v8) else Rk (.bool false))) else Rk (.bool false))) else Rk (.bool false))
def P__law_is_int : List D → R D
  | [value1, low2, high3] => p__law_is_int value1 low2 high3
  | _ => none
theorem g__law_is_int (value1 : D) (low2 : D) (high3 : D) : FG (F__law_is_int [] [value1, low2, high3]) (p__law_is_int value1 low2 high3) ΨD := by
  show FG (runF false 3 m__law_is_int [] [value1, low2, high3]) _ _
  refine fg_D (pt := [.is (.dat value1), .is (.dat low2), .is (.dat high3)]) ?_ ⟨rfl, rfl, rfl, trivial⟩
  unfold m__law_is_int p__law_is_int
  exact (st_ret retF (x_and (x_is (At.r (AtS.a (at_var rfl)))) (x_and (x_not (x_is (At.r (AtS.a (at_var rfl))))) (x_chain (At.r (AtS.a (at_var rfl))) (At.r (AtS.a (at_var rfl))) (At.r (AtS.a (at_var rfl)))))))
theorem GP__law_is_int : ∀ ds, FG (F__law_is_int [] ds) (P__law_is_int ds) ΨD
  | [value1, low2, high3] => g__law_is_int value1 low2 high3
  | [] => trivial
  | [_] => trivial
  | [_, _] => trivial
  | _ :: _ :: _ :: _ :: _ => trivial
/-! ### _law_rises -/
def p__law_rises (value1 : D) (low2 : D) (high3 : D) : R D := (bd ((bd ((bd ((bd ((bd (Rk value1) (isXd (isTy "tuple")))) bl)) fun b4 => Rk (!b4))) fun b11 => if b11 = true then Rk true else (bd ((bd ((bd ((bd ((itR' value1)) fun l7 => mapR (fun d6 => (p__law_is_int d6 low2 high3)) l7)) fun l8 => Rk (.list l8))) fun v10 => lf (inX (.bool false) v10))) bl))) fun b12 => if b12 = true then (Rk (.bool false)) else (bd ((bd ((bd ((bd ((bd (Rk value1) fun v14 => bd ((bd (Rk (.int (1))) itR)) fun l15 => bd (Rk none) fun h16 => lf (slF v14 l15 h16))) fun v17 => (lf (zipF [value1, v17])))) fun l21 => mapR (fun d19 => bd (un2 d19) fun t20 => (lf (ltD t20.1 t20.2))) l21)) fun l24 => Rk (.list l24))) fun v26 => lf (ninX (.bool false) v26)))
def P__law_rises : List D → R D
  | [value1, low2, high3] => p__law_rises value1 low2 high3
  | _ => none
theorem g__law_rises (value1 : D) (low2 : D) (high3 : D) : FG (F__law_rises [] [value1, low2, high3]) (p__law_rises value1 low2 high3) ΨD := by
  show FG (runF false 6 m__law_rises [] [value1, low2, high3]) _ _
  refine fg_D (pt := [.is (.dat value1), .is (.dat low2), .is (.dat high3), .any, .any, .any]) ?_ ⟨rfl, rfl, rfl, .inl rfl, .inl rfl, .inl rfl, trivial⟩
  unfold m__law_rises p__law_rises
  exact (st_if (t_or (t_not (t_b (x_is (At.r (AtS.a (at_var rfl)))))) (t_b (x_op2a (AtS.a at_lit) (XE.r (x_lc (n_map (E2 := fun _ => True) (i_at (at_var rfl)) rfl (all_lt rfl) (fun d6 acc5 => (lt_map1 rfl (x_call GP__law_is_int (GS.a (gs_at (at_var rfl) (gs_at (at_var rfl) (gs_at (at_var rfl) gs_nil)))) (fun _ _ => trivial)) (.c .r (.c .r (.c .r (.c .a (.c .r (.c .r (.c .r .n))))))))))))))) (st_assoc (st_retA (inj := id) retF at_lit)) (st_nilr (st_ret retF (x_op2a (AtS.a at_lit) (XE.r (x_lc (n_map (E2 := fun _ => True) (i_zip (GS.a (gs_at (at_var rfl) (gs_cons (x_sl (At.r (AtS.a (at_var rfl))) (pp_some (At.r (AtS.a at_lit))) pp_none) (fun v17 => gs_nil))))) rfl (all_lt rfl) (fun d19 acc18 => (lt_map (s_tp2 rfl (fun _ => rfl)) (fun t20 => (x_op2c (AtS.a (at_var rfl)) (AtS.a (at_var rfl)))) (fun t20 => (.c .r (.c .r (.c .r (.c .r (.c .a (.c .a (.c .r .n)))))))))))))))))
theorem GP__law_rises : ∀ ds, FG (F__law_rises [] ds) (P__law_rises ds) ΨD
  | [value1, low2, high3] => g__law_rises value1 low2 high3
  | [] => trivial
  | [_] => trivial
  | [_, _] => trivial
  | _ :: _ :: _ :: _ :: _ => trivial
/-! ### _law_spots -/
def p__law_spots (team1 : D) : R D := (bd ((bd ((lf (ixD team1 (.int (1))))) itR')) fun l5 => bd (forR (fun (s6 : D) d7 => (bd ((itR' s6)) fun l11 => bd (forR (fun (s12 : (List D)) d13 => (bd ((bd ((bd ((lf (ixD d7 (.int (0))))) fun v18 => (lf (rngF [v18])))) fun l21 => mapR (fun d20 => (lf (addD d13 (.tuple [d20])))) l21)) fun v24 => bd (extR s12 v24) fun longer25 => (Rk longer25))) [] l11) fun (s26 : (List D)) => (Rk (.list s26)))) (.list [(.tuple [])]) l5) fun (s28 : D) => (Rk s28))
def P__law_spots : List D → R D
  | [team1] => p__law_spots team1
  | _ => none
theorem g__law_spots (team1 : D) : FG (F__law_spots [] [team1]) (p__law_spots team1) ΨD := by
  show FG (runF false 6 m__law_spots [] [team1]) _ _
  refine fg_D (pt := [.is (.dat team1), .any, .any, .any, .any, .any]) ?_ ⟨rfl, .inl rfl, .inl rfl, .inl rfl, .inl rfl, .inl rfl, trivial⟩
  unfold m__law_spots p__law_spots
  exact (st_setA (at_lst (al_cons (at_tup al_nil rfl) al_nil) rfl) rfl (st_for (fun (s9 : D) => [.is (.dat team1), .is (.dat s9), .any, .any, .any, .any]) (.list [(.tuple [])]) (i_dat (x_op2c (AtS.a (at_var rfl)) (AtS.a at_lit))) (.c .r (.c .r (.c .r (.c .r (.c .r (.c .r .n)))))) (fun s6 d7 => (sb_nm rfl (st_setNA al_nil rfl rfl (st_for (fun (s15 : (List D)) => [.is (.dat team1), .is (.dat s6), .is (.dat d7), .is (.lst s15), .any, .any]) [] (i_at (at_var rfl)) (.c .r (.c .r (.c .r (.c .r (.c .r (.c .r .n)))))) (fun s12 d13 => (sb_nm rfl (st_ext (n_map (E2 := fun _ => True) (i_rng (gs_cons (x_op2c (AtS.a (at_var rfl)) (AtS.a at_lit)) (fun v18 => gs_nil))) rfl (all_lt rfl) (fun d20 acc19 => (lt_map1 rfl (x_op2c (AtS.a (at_var rfl)) (AtS.a (at_tup (al_cons (at_var rfl) al_nil) rfl))) (.c .r (.c .r (.c .r (.c .r (.c .r (.c .a (.c .r .n)))))))))) rfl rfl rfl (fun longer25 => (st_l (.c .r (.c .r (.c .r (.c .r (.c .a (.c .r .n))))))))))) (fun s26 => (st_setO rfl rfl (st_l (.c .r (.c .r (.c .a (.c .a (.c .r (.c .r .n))))))))))))) (fun s28 => (st_retA (inj := id) retF (at_var rfl)))))
theorem GP__law_spots : ∀ ds, FG (F__law_spots [] ds) (P__law_spots ds) ΨD
  | [team1] => g__law_spots team1
  | [] => trivial
  | _ :: _ :: _ => trivial
/-! ### _law_wide_team -/
def p__law_wide_team (well1 : List D) : R (D × List D) := (bd ((Rk [])) fun found2 => bd (quiet (Rk (.int (1)))) fun product3 => (bd ((bd ((bd ((bd (p__law_draw well1 (.int (4))) fun r8 => Rk (r8.1, r8.2))) fun v6 => bd (lf (addD (.int (1)) v6.1)) fun z7 => Rk (z7, v6.2))) fun v9 => (bd (lf (rngF [v9.1])) fun l4 => Rk (l4, v9.2)))) fun l10 => bd (forR (fun (s11 : (List D) × (List D) × D) d12 => (bd ((bd ((bd ((bd ((bd (p__law_draw s11.1 (.int (2))) fun r22 => Rk (r22.1, r22.2))) fun v20 => bd (lf (ixD (.list [(.int (3)), (.int (12))]) v20.1)) fun z21 => Rk (z21, v20.2))) fun v23 => (bd (p__law_draw v23.2 v23.1) fun r18 => Rk (r18.1, r18.2)))) fun v16 => bd (lf (addD (.int (1)) v16.1)) fun z17 => Rk (z17, v16.2))) fun places24 => (bd ((bd ((bd ((lf (mulX s11.2.2 places24.1))) fun v27 => lf (leD v27 (.int (400))))) bl)) fun b29 => if b29 = true then (bd ((bd ((bd ((bd (p__law_draw places24.2 places24.1) fun r32 => Rk (r32.1, r32.2))) fun v33 => (bd (tupR [v33.1, (.tuple [])]) fun v31 => Rk (v31, v33.2)))) fun v34 => (bd (tupR [places24.1, (.tuple []), v34.1]) fun v30 => Rk (v30, v34.2)))) fun v35 => bd (appR s11.2.1 v35.1) fun found36 => (bd ((lf (mulX s11.2.2 places24.1))) fun product40 => (Rk (v35.2, found36, product40)))) else (Rk (places24.2, s11.2.1, s11.2.2))))) (l10.2, found2, product3) l10.1) fun (s41 : (List D) × (List D) × D) => (bd ((bd ((lf (tupleF [(.list s41.2.1)]))) fun v43 => Rk (.tuple [(.tuple []), v43]))) fun v44 => Rk (v44, s41.1))))
def P__law_wide_team (w : List D) : List D → R (D × List D)
  | [] => p__law_wide_team w 
  | _ => none
theorem g__law_wide_team (well1 : List D) : FG (F__law_wide_team well1 []) (p__law_wide_team well1) ΨDo := by
  show FG (runF true 5 m__law_wide_team well1 []) _ _
  refine fg_Do (pt := [.is (.bor well1), .any, .any, .any, .any]) ?_ ⟨rfl, .inl rfl, .inl rfl, .inl rfl, .inl rfl, trivial⟩
  unfold m__law_wide_team p__law_wide_team
  exact (st_parN (E2 := fun _ => True) (n_lst (GS.a gs_nil)) (fun found2 => (AtS.e at_lit)) rfl (fun _ => ⟨rfl, Nat.le_of_ble_eq_true rfl⟩) (fun _ => rfl) (fun found2 product3 => (st_forI (pc := fun (s : (List D)) => [.is (.bor s), .is (.lst found2), .is (.dat product3), .any, .any]) (s := well1) (fun (s14 : (List D) × (List D) × D) => [.is (.bor s14.1), .is (.lst s14.2.1), .is (.dat s14.2.2), .any, .any]) (fun (s45 : (List D)) => (s45, found2, product3)) (ii_rng (ai_i (xi_op2a at_lit (xi_callO (g := fun s => s) (u := fun _ w => w) GP__law_draw (fun _ => ⟨_, rfl, rfl, fun _ => rfl⟩) (ai_at at_lit (ai_nil rfl)) (fun _ => trivial))) (fun v9 => (ai_nil rfl)))) (fun _ => (.c .r (.c .r (.c .r (.c .r (.c .r .n)))))) (fun s11 d12 => (sb_nm rfl (st_setI (pc := fun (s : (List D)) => [.is (.bor s), .is (.lst s11.2.1), .is (.dat s11.2.2), .is (.dat d12), .any]) (s := s11.1) (xi_op2a at_lit (xi_callO (g := fun s => s) (u := fun _ w => w) GP__law_draw (fun _ => ⟨_, rfl, rfl, fun _ => rfl⟩) (ai_i (xi_op2a (at_lst (al_cons at_lit (al_cons at_lit al_nil)) rfl) (xi_callO (g := fun s => s) (u := fun _ w => w) GP__law_draw (fun _ => ⟨_, rfl, rfl, fun _ => rfl⟩) (ai_at at_lit (ai_nil rfl)) (fun _ => trivial))) (fun v23 => (ai_nil rfl))) (fun _ => trivial))) (fun _ => rfl) (fun places24 => (st_if (t_b (x_op2b (XE.r (x_op2c (AtS.a (at_var rfl)) (AtS.a (at_var rfl)))) (AtS.a at_lit))) (st_assoc (st_appI (pc := fun (s : (List D)) => [.is (.bor s), .is (.lst s11.2.1), .is (.dat s11.2.2), .is (.dat d12), .is (.dat places24.1)]) (s := places24.2) (g := fun s => s11.2.1) (vv := fun s => .lst (s11.2.1)) (k := fun b37 => (bd ((lf (mulX s11.2.2 places24.1))) fun product40 => (Rk (b37.2, b37.1, product40)))) (xi_tup (ai_at (at_var rfl) (ai_at (at_tup al_nil rfl) (ai_i (xi_tup (ai_i (xi_callO (g := fun s => s) (u := fun _ w => w) GP__law_draw (fun _ => ⟨_, rfl, rfl, fun _ => rfl⟩) (ai_at (at_var rfl) (ai_nil rfl)) (fun _ => trivial)) (fun v33 => (ai_at (at_tup al_nil rfl) (ai_nil rfl))))) (fun v34 => (ai_nil rfl)))))) (fun _ => rfl) (fun _ => rfl) (fun b37 => (st_assoc (st_set (x_op2c (AtS.a (at_var rfl)) (AtS.a (at_var rfl))) rfl (fun product40 => (st_nilr (st_l (.c .r (.c .r (.c .r (.c .a (.c .a .n))))))))))))) (st_nilr (st_l (.c .r (.c .r (.c .r (.c .a (.c .a .n)))))))))))) (fun s41 => (st_reto (inj := id) retF (x_tup (GS.a (gs_at (at_tup al_nil rfl) (gs_cons (x_cb1a (at_own rfl rfl)) (fun v43 => gs_nil))))) rfl)))))
theorem GP__law_wide_team (w : List D) : ∀ ds, FG (F__law_wide_team w ds) (P__law_wide_team w ds) ΨDo
  | [] => g__law_wide_team w 
  | _ :: _ => trivial
/-! ### _law_bent -/
def p__law_bent (well1 : List D) (team2 : D) (row3 : D) : R (D × List D) := (bd ((bd ((lf (lenF [row3]))) fun v6 => (bd (p__law_draw well1 v6) fun r4 => Rk (r4.1, r4.2)))) fun at7 => (bd ((bd ((bd ((bd ((lf (ixD team2 (.int (1))))) fun v10 => lf (ixD v10 at7.1))) fun v12 => lf (ixD v12 (.int (0))))) fun v24 => (bd ((lf (negD (.int (1))))) fun v25 => (bd ((bd ((bd ((bd ((lf (ixD team2 (.int (1))))) fun v17 => lf (ixD v17 at7.1))) fun v19 => lf (ixD v19 (.int (0))))) fun v21 => Rk (.tuple [v21]))) fun v26 => (bd ((bd ((lf (negD (.int (1))))) fun v23 => Rk (.tuple [v23]))) fun v27 => Rk (.list [v24, v25, (.bool true), (.str "0"), (.tuple [(.int (0))]), (.list [(.int (0))]), v26, (.tuple [(.int (0)), (.int (0))]), v27, (.tuple [(.bool true)]), (.int (0)), .none])))))) fun items28 => (bd ((bd ((bd ((bd ((bd ((bd ((bd (Rk row3) fun v42 => bd (Rk none) fun l43 => bd ((bd (Rk at7.1) itR)) fun h44 => lf (slF v42 l43 h44))) fun v39 => bd ((bd ((bd ((bd (p__law_draw at7.2 (.int (12))) fun r49 => Rk (r49.1, r49.2))) fun v47 => bd (lf (ixD items28 v47.1)) fun z48 => Rk (z48, v47.2))) fun v50 => (bd (tupR [v50.1]) fun v45 => Rk (v45, v50.2)))) fun v40 => bd (lf (addD v39 v40.1)) fun z41 => Rk (z41, v40.2))) fun v36 => bd ((bd (Rk row3) fun v51 => bd ((bd ((lf (addD at7.1 (.int (1))))) itR)) fun l52 => bd (Rk none) fun h53 => lf (slF v51 l52 h53))) fun v37 => bd (lf (addD v36.1 v37)) fun z38 => Rk (z38, v36.2))) fun v56 => (bd (lstR [v56.1]) fun v35 => Rk (v35, v56.2)))) fun v32 => bd (lf (mulX v32.1 (.int (5)))) fun z34 => Rk (z34, v32.2))) fun v29 => bd ((bd ((bd (Rk row3) fun v57 => bd ((bd (Rk (.int (1))) itR)) fun l58 => bd (Rk none) fun h59 => lf (slF v57 l58 h59))) fun v63 => (bd ((lf (addD row3 (.tuple [(.int (0))])))) fun v64 => (bd ((lf (listF [row3]))) fun v65 => Rk (.list [v63, v64, v65, .none, (.int (0)), (.tuple [])]))))) fun v30 => bd (lf (addD v29.1 v30)) fun z31 => Rk (z31, v29.2))) fun some66 => (bd ((bd ((bd ((lf (lenF [some66.1]))) fun v72 => (bd (p__law_draw some66.2 v72) fun r70 => Rk (r70.1, r70.2)))) fun v68 => bd (lf (ixD some66.1 v68.1)) fun z69 => Rk (z69, v68.2))) fun v73 => Rk (v73.1, v73.2)))))
def P__law_bent (w : List D) : List D → R (D × List D)
  | [team2, row3] => p__law_bent w team2 row3
  | _ => none
theorem g__law_bent (well1 : List D) (team2 : D) (row3 : D) : FG (F__law_bent well1 [team2, row3]) (p__law_bent well1 team2 row3) ΨDo := by
  show FG (runF true 6 m__law_bent well1 [team2, row3]) _ _
  refine fg_Do (pt := [.is (.bor well1), .is (.dat team2), .is (.dat row3), .any, .any, .any]) ?_ ⟨rfl, rfl, rfl, .inl rfl, .inl rfl, .inl rfl, trivial⟩
  unfold m__law_bent p__law_bent
  exact (st_setI (pc := fun (s : (List D)) => [.is (.bor s), .is (.dat team2), .is (.dat row3), .any, .any, .any]) (s := well1) (xi_callO (g := fun s => s) (u := fun _ w => w) GP__law_draw (fun _ => ⟨_, rfl, rfl, fun _ => rfl⟩) (ai_e (x_cb1a (AtS.a (at_var rfl))) (fun v6 => (ai_nil rfl))) (fun _ => trivial)) (fun _ => rfl) (fun at7 => (st_set (x_lst (GS.a (gs_cons (x_op2b (XE.r (x_op2b (XE.r (x_op2c (AtS.a (at_var rfl)) (AtS.a at_lit))) (AtS.a (at_var rfl)))) (AtS.a at_lit)) (fun v24 => (gs_cons (x_op1a (AtS.a at_lit)) (fun v25 => (gs_at at_lit (gs_at at_lit (gs_at (at_tup (al_cons at_lit al_nil) rfl) (gs_at (at_lst (al_cons at_lit al_nil) rfl) (gs_cons (x_tup (GS.a (gs_cons (x_op2b (XE.r (x_op2b (XE.r (x_op2c (AtS.a (at_var rfl)) (AtS.a at_lit))) (AtS.a (at_var rfl)))) (AtS.a at_lit)) (fun v21 => gs_nil)))) (fun v26 => (gs_at (at_tup (al_cons at_lit (al_cons at_lit al_nil)) rfl) (gs_cons (x_tup (GS.a (gs_cons (x_op1a (AtS.a at_lit)) (fun v23 => gs_nil)))) (fun v27 => (gs_at (at_tup (al_cons at_lit al_nil) rfl) (gs_at at_lit (gs_at at_lit gs_nil)))))))))))))))))) rfl (fun items28 => (st_setI (pc := fun (s : (List D)) => [.is (.bor s), .is (.dat team2), .is (.dat row3), .is (.dat at7.1), .is (.dat items28), .any]) (s := at7.2) (xi_op2l (xi_op2b (xi_lst (ai_i (xi_op2l (xi_op2r (x_sl (At.r (AtS.a (at_var rfl))) pp_none (pp_some (At.r (AtS.a (at_var rfl))))) (fun v39 => (xi_tup (ai_i (xi_op2a (at_var rfl) (xi_callO (g := fun s => s) (u := fun _ w => w) GP__law_draw (fun _ => ⟨_, rfl, rfl, fun _ => rfl⟩) (ai_at at_lit (ai_nil rfl)) (fun _ => trivial))) (fun v50 => (ai_nil rfl)))))) (fun v36 => (XE.r (x_sl (At.r (AtS.a (at_var rfl))) (pp_some (XE.r (x_op2c (AtS.a (at_var rfl)) (AtS.a at_lit)))) pp_none)))) (fun v56 => (ai_nil rfl)))) (fun _ => (AtS.a at_lit))) (fun v29 => (XE.r (x_lst (GS.a (gs_cons (x_sl (At.r (AtS.a (at_var rfl))) (pp_some (At.r (AtS.a at_lit))) pp_none) (fun v63 => (gs_cons (x_op2c (AtS.a (at_var rfl)) (AtS.a (at_tup (al_cons at_lit al_nil) rfl))) (fun v64 => (gs_cons (x_cb1a (AtS.a (at_var rfl))) (fun v65 => (gs_at at_lit (gs_at at_lit (gs_at (at_tup al_nil rfl) gs_nil)))))))))))))) (fun _ => rfl) (fun some66 => (st_retoI (pc := fun (s : (List D)) => [.is (.bor s), .is (.dat team2), .is (.dat row3), .is (.dat at7.1), .is (.dat items28), .is (.dat some66.1)]) (s := some66.2) (inj := id) (g := fun s => s) retF (xi_op2a (at_var rfl) (xi_callO (g := fun s => s) (u := fun _ w => w) GP__law_draw (fun _ => ⟨_, rfl, rfl, fun _ => rfl⟩) (ai_e (x_cb1a (AtS.a (at_var rfl))) (fun v72 => (ai_nil rfl))) (fun _ => trivial))) (fun _ => rfl))))))))
theorem GP__law_bent (w : List D) : ∀ ds, FG (F__law_bent w ds) (P__law_bent w ds) ΨDo
  | [team2, row3] => g__law_bent w team2 row3
  | [] => trivial
  | [_] => trivial
  | _ :: _ :: _ :: _ => trivial
/-! ### _law_are_places -/
def p__law_are_places (team1 : D) (value2 : D) : R D := (bd ((bd ((bd ((bd ((bd (Rk value2) (isXd (isTy "tuple")))) bl)) fun b3 => Rk (!b3))) fun b10 => if b10 = true then Rk true else (bd ((bd ((lf (lenF [value2]))) fun v8 => bd ((bd ((lf (ixD team1 (.int (1))))) fun v7 => lf (lenF [v7]))) fun v9 => lf (neX v8 v9))) bl))) fun b11 => if b11 = true then (Rk (.bool false)) else (bd ((bd ((bd ((bd ((lf (ixD team1 (.int (1))))) fun v15 => (lf (zipF [value2, v15])))) fun l19 => mapR (fun d17 => bd (un2 d17) fun t18 => (bd ((bd ((lf (ixD t18.2 (.int (0))))) fun v22 => lf (subD v22 (.int (1))))) fun v24 => (p__law_is_int t18.1 (.int (0)) v24))) l19)) fun l25 => Rk (.list l25))) fun v27 => lf (ninX (.bool false) v27)))
def P__law_are_places : List D → R D
  | [team1, value2] => p__law_are_places team1 value2
  | _ => none
theorem g__law_are_places (team1 : D) (value2 : D) : FG (F__law_are_places [] [team1, value2]) (p__law_are_places team1 value2) ΨD := by
  show FG (runF false 4 m__law_are_places [] [team1, value2]) _ _
  refine fg_D (pt := [.is (.dat team1), .is (.dat value2), .any, .any]) ?_ ⟨rfl, rfl, .inl rfl, .inl rfl, trivial⟩
  unfold m__law_are_places p__law_are_places
  exact (st_if (t_or (t_not (t_b (x_is (At.r (AtS.a (at_var rfl)))))) (t_b (x_op2 (XE.r (x_cb1a (AtS.a (at_var rfl)))) (XE.r (x_cb1 (XE.r (x_op2c (AtS.a (at_var rfl)) (AtS.a at_lit)))))))) (st_assoc (st_retA (inj := id) retF at_lit)) (st_nilr (st_ret retF (x_op2a (AtS.a at_lit) (XE.r (x_lc (n_map (E2 := fun _ => True) (i_zip (GS.a (gs_at (at_var rfl) (gs_cons (x_op2c (AtS.a (at_var rfl)) (AtS.a at_lit)) (fun v15 => gs_nil))))) rfl (all_lt rfl) (fun d17 acc16 => (lt_map (s_tp2 rfl (fun _ => rfl)) (fun t18 => (x_call GP__law_is_int (GS.a (gs_at (at_var rfl) (gs_at at_lit (gs_cons (x_op2b (XE.r (x_op2c (AtS.a (at_var rfl)) (AtS.a at_lit))) (AtS.a at_lit)) (fun v24 => gs_nil))))) (fun _ _ => trivial))) (fun t18 => (.c .r (.c .r (.c .a (.c .a (.c .r .n)))))))))))))))
theorem GP__law_are_places : ∀ ds, FG (F__law_are_places [] ds) (P__law_are_places ds) ΨD
  | [team1, value2] => g__law_are_places team1 value2
  | [] => trivial
  | [_] => trivial
  | _ :: _ :: _ :: _ => trivial
/-! ### _law_are_wishes -/
def p__law_are_wishes (team1 : D) (value2 : D) : R D := (bd ((bd ((bd ((bd ((bd (Rk value2) (isXd (isTy "tuple")))) bl)) fun b3 => Rk (!b3))) fun b10 => if b10 = true then Rk true else (bd ((bd ((lf (lenF [value2]))) fun v8 => bd ((bd ((lf (ixD team1 (.int (1))))) fun v7 => lf (lenF [v7]))) fun v9 => lf (neX v8 v9))) bl))) fun b11 => if b11 = true then (Rk (.bool false)) else (bd ((bd ((bd ((bd ((lf (ixD team1 (.int (1))))) fun v15 => (lf (zipF [value2, v15])))) fun l19 => mapR (fun d17 => bd (un2 d17) fun t18 => (bd ((bd (Rk t18.1) fun v20 => Rk (.bool (if false then !isNoneB v20 else isNoneB v20)))) fun v26 => bd (bl v26) fun b27 => if b27 = true then Rk (.bool true) else ((bd ((bd ((lf (ixD t18.2 (.int (0))))) fun v23 => lf (subD v23 (.int (1))))) fun v25 => (p__law_rises t18.1 (.int (0)) v25))))) l19)) fun l28 => Rk (.list l28))) fun v30 => lf (ninX (.bool false) v30)))
def P__law_are_wishes : List D → R D
  | [team1, value2] => p__law_are_wishes team1 value2
  | _ => none
theorem g__law_are_wishes (team1 : D) (value2 : D) : FG (F__law_are_wishes [] [team1, value2]) (p__law_are_wishes team1 value2) ΨD := by
  show FG (runF false 4 m__law_are_wishes [] [team1, value2]) _ _
  refine fg_D (pt := [.is (.dat team1), .is (.dat value2), .any, .any]) ?_ ⟨rfl, rfl, .inl rfl, .inl rfl, trivial⟩
  unfold m__law_are_wishes p__law_are_wishes
  exact (st_if (t_or (t_not (t_b (x_is (At.r (AtS.a (at_var rfl)))))) (t_b (x_op2 (XE.r (x_cb1a (AtS.a (at_var rfl)))) (XE.r (x_cb1 (XE.r (x_op2c (AtS.a (at_var rfl)) (AtS.a at_lit)))))))) (st_assoc (st_retA (inj := id) retF at_lit)) (st_nilr (st_ret retF (x_op2a (AtS.a at_lit) (XE.r (x_lc (n_map (E2 := fun _ => True) (i_zip (GS.a (gs_at (at_var rfl) (gs_cons (x_op2c (AtS.a (at_var rfl)) (AtS.a at_lit)) (fun v15 => gs_nil))))) rfl (all_lt rfl) (fun d17 acc16 => (lt_map (s_tp2 rfl (fun _ => rfl)) (fun t18 => (x_or (x_isN (At.r (AtS.a (at_var rfl)))) (x_call GP__law_rises (GS.a (gs_at (at_var rfl) (gs_at at_lit (gs_cons (x_op2b (XE.r (x_op2c (AtS.a (at_var rfl)) (AtS.a at_lit))) (AtS.a at_lit)) (fun v25 => gs_nil))))) (fun _ _ => trivial)))) (fun t18 => (.c .r (.c .r (.c .a (.c .a (.c .r .n)))))))))))))))
theorem GP__law_are_wishes : ∀ ds, FG (F__law_are_wishes [] ds) (P__law_are_wishes ds) ΨD
  | [team1, value2] => g__law_are_wishes team1 value2
  | [] => trivial
  | [_] => trivial
  | _ :: _ :: _ :: _ => trivial
/-! ### _law_goals_due -/
def p__law_goals_due (spots1 : D) (wishes2 : D) : R D := (bd ((lf (enumF [spots1]))) fun l4 => bd (forR (fun (s5 : (List D)) d6 => (bd (un2 d6) fun t7 => (bd ((bd ((bd ((bd ((bd ((lf (zipF [t7.2, wishes2]))) fun l12 => lcR (fun d10 => bd (un2 d10) fun t11 => selR ((bd ((bd ((bd (Rk t11.2) fun v13 => Rk (.bool (if true then !isNoneB v13 else isNoneB v13)))) bl)) fun b16 => if b16 = true then (bd ((lf (ninX t11.1 t11.2))) bl) else Rk false)) (Rk t11.1)) l12)) fun l17 => Rk (.list l17))) fun v18 => lf (eqX v18 (.list [])))) bl)) fun b20 => if b20 = true then (bd (Rk t7.1) fun v21 => bd (appR s5 v21) fun found22 => (Rk found22)) else (Rk s5)))) [] l4) fun (s23 : (List D)) => (lf (tupleF [(.list s23)])))
def P__law_goals_due : List D → R D
  | [spots1, wishes2] => p__law_goals_due spots1 wishes2
  | _ => none
theorem g__law_goals_due (spots1 : D) (wishes2 : D) : FG (F__law_goals_due [] [spots1, wishes2]) (p__law_goals_due spots1 wishes2) ΨD := by
  show FG (runF false 7 m__law_goals_due [] [spots1, wishes2]) _ _
  refine fg_D (pt := [.is (.dat spots1), .is (.dat wishes2), .any, .any, .any, .any, .any]) ?_ ⟨rfl, rfl, .inl rfl, .inl rfl, .inl rfl, .inl rfl, .inl rfl, trivial⟩
  unfold m__law_goals_due p__law_goals_due
  exact (st_setNA al_nil rfl rfl (st_for (fun (s8 : (List D)) => [.is (.dat spots1), .is (.dat wishes2), .is (.lst s8), .any, .any, .any, .any]) [] (i_enm (GS.a (gs_at (at_var rfl) gs_nil))) (.c .r (.c .r (.c .r (.c .r (.c .r (.c .r (.c .r .n))))))) (fun s5 d6 => (sb_tp (s_tp2 rfl (fun _ => rfl)) (fun t7 => (st_if (t_b (x_op2b (XE.r (x_lc (n_lc (E2 := fun _ => True) (i_zip (GS.a (gs_at (at_var rfl) (gs_at (at_var rfl) gs_nil)))) rfl (all_lt rfl) (fun d10 acc9 => (lt_sel (s_tp2 rfl (fun _ => rfl)) (fun t11 => (t_and (t_b (x_isN (At.r (AtS.a (at_var rfl))))) (t_b (x_op2c (AtS.a (at_var rfl)) (AtS.a (at_var rfl)))))) (fun t11 => (AtS.e (at_var rfl))) (fun t11 => (.c .r (.c .r (.c .r (.c .r (.c .r (.c .a (.c .a (.c .r .n))))))))) (fun t11 => (.c .r (.c .r (.c .r (.c .r (.c .r (.c .a (.c .a (.c .r .n)))))))))))))) (AtS.a (at_lst al_nil rfl)))) (st_assoc (st_app (AtS.e (at_var rfl)) rfl rfl rfl (fun found22 => (st_nilr (st_l (.c .r (.c .r (.c .r (.c .a (.c .a (.c .r (.c .r .n)))))))))))) (st_nilr (st_l (.c .r (.c .r (.c .r (.c .a (.c .a (.c .r (.c .r .n))))))))))))) (fun s23 => (st_ret retF (x_cb1a (at_own rfl rfl))))))
theorem GP__law_goals_due : ∀ ds, FG (F__law_goals_due [] ds) (P__law_goals_due ds) ΨD
  | [spots1, wishes2] => g__law_goals_due spots1 wishes2
  | [] => trivial
  | [_] => trivial
  | _ :: _ :: _ :: _ => trivial
/-! ### _law_refused -/
def p__law_refused (which1 : D) (team2 : D) (thing3 : D) : R D := (bd (tryR isCls2 (bd ((bd ((lf (eqX which1 (.int (0))))) bl)) fun b10 => if b10 = true then (bd ((p_place_of team2 thing3)) fun v11 => (Rk (.dat .none))) else (bd ((bd ((lf (eqX which1 (.int (1))))) bl)) fun b14 => if b14 = true then (bd ((p_goals_with team2 thing3)) fun v15 => (Rk (.dat .none))) else (bd ((p_places_at team2 thing3)) fun v16 => (Rk (.dat .none))))) fun x5 => (Rk (.exc x5.1 x5.2))) fun (j7 : DV) => (bd ((bd ((isXv isNon (isEx "InvalidPlaces") j7)) fun v18 => (bd ((isXv isNon (isEx "InvalidNumber") j7)) fun v19 => (bd ((isXv isNon (isEx "InvalidTeam") j7)) fun v20 => Rk (.list [v18, v19, v20]))))) fun kinds21 => (bd ((bd ((bd ((lf (ltD which1 (.int (2))))) fun v26 => (bd ((lf (eqX which1 (.int (2))))) fun v27 => Rk (.list [v26, v27, (.bool false)])))) fun v29 => lf (eqX kinds21 v29))) fun v34 => bd (bl v34) fun b35 => if b35 = true then ((bd ((bd ((valV isCls j7)) fun v30 => lf (reprF [v30]))) fun v32 => bd ((lf (reprF [thing3]))) fun v33 => lf (eqX v32 v33))) else Rk (.bool false))))
def P__law_refused : List D → R D
  | [which1, team2, thing3] => p__law_refused which1 team2 thing3
  | _ => none
theorem g__law_refused (which1 : D) (team2 : D) (thing3 : D) : FG (F__law_refused [] [which1, team2, thing3]) (p__law_refused which1 team2 thing3) ΨD := by
  show FG (runF false 6 m__law_refused [] [which1, team2, thing3]) _ _
  refine fg_D (pt := [.is (.dat which1), .is (.dat team2), .is (.dat thing3), .any, .any, .any]) ?_ ⟨rfl, rfl, rfl, .inl rfl, .inl rfl, .inl rfl, trivial⟩
  unfold m__law_refused p__law_refused
  exact (st_setA at_lit rfl (st_try (fun (j6 : DV) => [.is (.dat which1), .is (.dat team2), .is (.dat thing3), .xx j6, .any, .any]) [.is (.dat which1), .is (.dat team2), .is (.dat thing3), .is (.dat .none), .any, .any] (st_if (t_b (x_op2c (AtS.a (at_var rfl)) (AtS.a at_lit))) (st_assoc (st_expr (x_callK GP_place_of (GS.a (gs_at (at_var rfl) (gs_at (at_var rfl) gs_nil))) (fun _ h => Sees.weak h (.c .r (.c .r (.c .r (.c .r (.c .r (.c .r .n)))))))) (fun v11 => (st_nilr (st_j (.c .r (.c .r (.c .r (.c .dx (.c .r (.c .r .n))))))))))) (st_assoc (st_if (t_b (x_op2c (AtS.a (at_var rfl)) (AtS.a at_lit))) (st_assoc (st_expr (x_call GP_goals_with (GS.a (gs_at (at_var rfl) (gs_at (at_var rfl) gs_nil))) (fun _ h => Sees.weak h (.c .r (.c .r (.c .r (.c .r (.c .r (.c .r .n)))))))) (fun v15 => (st_nilr (st_nilr (st_j (.c .r (.c .r (.c .r (.c .dx (.c .r (.c .r .n)))))))))))) (st_assoc (st_expr (x_call GP_places_at (GS.a (gs_at (at_var rfl) (gs_at (at_var rfl) gs_nil))) (fun _ h => Sees.weak h (.c .r (.c .r (.c .r (.c .r (.c .r (.c .r .n)))))))) (fun v16 => (st_nilr (st_nilr (st_j (.c .r (.c .r (.c .r (.c .dx (.c .r (.c .r .n))))))))))))))) rfl (fun x5 => (st_setE rfl rfl (st_th rfl (.c .r (.c .r (.c .r (.c .ex (.c .u (.c .r .n))))))))) (fun _ _ => trivial) (fun j7 => (st_set (x_lst (GS.a (gs_cons (x_isV rfl) (fun v18 => (gs_cons (x_isV rfl) (fun v19 => (gs_cons (x_isV rfl) (fun v20 => gs_nil)))))))) rfl (fun kinds21 => (st_ret retF (x_and (x_op2a (AtS.a (at_var rfl)) (XE.r (x_lst (GS.a (gs_cons (x_op2c (AtS.a (at_var rfl)) (AtS.a at_lit)) (fun v26 => (gs_cons (x_op2c (AtS.a (at_var rfl)) (AtS.a at_lit)) (fun v27 => (gs_at at_lit gs_nil))))))))) (x_op2 (XE.r (x_cb1 (XE.r (x_valV rfl)))) (XE.r (x_cb1a (AtS.a (at_var rfl))))))))))))
theorem GP__law_refused : ∀ ds, FG (F__law_refused [] ds) (P__law_refused ds) ΨD
  | [which1, team2, thing3] => g__law_refused which1 team2 thing3
  | [] => trivial
  | [_] => trivial
  | [_, _] => trivial
  | _ :: _ :: _ :: _ :: _ => trivial
/-! ### law -/
def p_law (script1 : D) : R D := (bd ((bd ((bd ((bd ((lf (lenF [script1]))) fun v3 => (lf (minF [(.int (4)), v3])))) fun v4 => (lf (maxF [(.int (1)), v4])))) fun v5 => (lf (rngF [v5])))) fun l6 => bd (forX (fun (s7 : Unit) d8 => (bd ((p__law_well script1 d8)) fun well11 => (bd ((lf (rngF [(.int (3))]))) fun l12 => bd (forX (fun (s13 : (List D)) d14 => (bd ((bd (p__law_wide_team s13) fun r17 => Rk (r17.1, r17.2))) fun team18 => (bd ((p__law_spots team18.1)) fun spots19 => (bd ((lf (rngF [(.int (6))]))) fun l20 => bd (forX (fun (s21 : (List D)) d22 => (bd ((bd ((lf (lenF [spots19]))) fun v27 => (bd (p__law_draw s21 v27) fun r25 => Rk (r25.1, r25.2)))) fun number28 => (bd ((bd ((bd ((lf (ixD spots19 number28.1))) fun v31 => (p_place_of team18.1 v31))) fun v35 => (bd ((bd ((lf (ixD spots19 number28.1))) fun v34 => (p_place_of team18.1 v34))) fun v36 => Rk (.list [v35, v36])))) fun told37 => (bd ((bd ((bd ((lf (reprF [told37]))) fun v40 => bd ((lf (reprF [(.list [number28.1, number28.1])]))) fun v41 => lf (neX v40 v41))) bl)) fun b42 => if b42 = true then (Rk (.ret (.bool false))) else (bd ((bd ((bd ((bd ((bd ((p_places_at team18.1 number28.1)) fun v44 => (bd ((p_places_at team18.1 number28.1)) fun v45 => Rk (.list [v44, v45])))) fun v46 => lf (reprF [v46]))) fun v53 => bd ((bd ((bd ((bd ((lf (ixD spots19 number28.1))) fun v49 => Rk (.list [v49]))) fun v50 => lf (mulX v50 (.int (2))))) fun v52 => lf (reprF [v52]))) fun v54 => lf (neX v53 v54))) bl)) fun b55 => if b55 = true then (Rk (.ret (.bool false))) else (bd ((bd ((bd ((bd ((bd ((lf (ixD team18.1 (.int (1))))) itR')) fun l62 => bd (lcI (fun s63 d61 => bd ((bd ((bd ((bd ((bd (p__law_draw s63 (.int (3))) fun r67 => Rk (r67.1, r67.2))) fun v64 => bd (lf (eqX v64.1 (.int (0)))) fun z66 => Rk (z66, v64.2))) fun v68 => bd (bl v68.1) fun b69 => Rk (b69, v68.2))) fun c70 => if c70.1 = true then (bd (Rk .none) fun v71 => Rk (v71, c70.2)) else (bd ((lf (ixD d61 (.int (0))))) fun v75 => (bd (p__law_some c70.2 v75 (.int (2))) fun r72 => Rk (r72.1, r72.2))))) fun y76 => Rk (some y76.1, y76.2)) number28.2 l62) capI)) fun l77 => Rk (.list l77.1, l77.2))) fun v78 => (bd (lf (tupleF [v78.1])) fun v57 => Rk (v57, v78.2)))) fun wishes79 => (bd ((p__law_goals_due spots19 wishes79.1)) fun due80 => (bd ((bd ((bd ((bd ((bd ((p_goals_with team18.1 wishes79.1)) fun v81 => (bd ((p_goals_with team18.1 wishes79.1)) fun v82 => Rk (.list [v81, v82])))) fun v83 => lf (reprF [v83]))) fun v85 => bd ((lf (reprF [(.list [due80, due80])]))) fun v86 => lf (neX v85 v86))) bl)) fun b87 => if b87 = true then (Rk (.ret (.bool false))) else (bd ((bd ((bd ((bd ((lf (ixD spots19 number28.1))) fun v91 => Rk (.tuple [(.int (0)), v91]))) fun v92 => Rk (.tuple [v92, (.tuple [(.int (1)), wishes79.1])]))) itR')) fun l93 => bd (forX (fun (s94 : (List D)) d95 => (bd (un2 d95) fun t96 => (bd ((bd (p__law_bent s94 team18.1 t96.2) fun r98 => Rk (r98.1, r98.2))) fun bent99 => (bd ((bd ((bd ((p__law_are_places team18.1 bent99.1)) fun v100 => (bd ((p__law_are_wishes team18.1 bent99.1)) fun v101 => Rk (.list [v100, v101])))) fun v102 => lf (ixD v102 t96.1))) fun fits104 => (bd ((bd ((bd ((bd (Rk fits104) bl)) fun b105 => Rk (!b105))) fun b107 => if b107 = true then (bd ((bd ((p__law_refused t96.1 team18.1 bent99.1)) bl)) fun b106 => Rk (!b106)) else Rk false)) fun b108 => if b108 = true then (Rk (.ret (.bool false))) else (Rk (.nx bent99.2))))))) wishes79.2 l93) fun l111 => thn l111 (fun (s110 : (List D)) => (Rk (.nx s110))) fun t112 => Rk (.ret t112)))))))))) team18.2 l20) fun l132 => thn l132 (fun (s113 : (List D)) => (bd ((bd ((bd ((bd ((bd ((bd ((lf (negD (.int (1))))) fun v122 => (bd ((lf (lenF [spots19]))) fun v123 => (bd ((lf (powD (.int (10)) (.int (9))))) fun v124 => Rk (.list [v122, v123, v124]))))) fun v115 => bd ((bd (p__law_draw s113 (.int (3))) fun r125 => Rk (r125.1, r125.2))) fun v116 => bd (lf (ixD v115 v116.1)) fun z117 => Rk (z117, v116.2))) fun v126 => (bd (p__law_refused (.int (2)) team18.1 v126.1) fun v114 => Rk (v114, v126.2)))) fun v127 => bd (bl v127.1) fun b128 => Rk (b128, v127.2))) fun b129 => Rk (!b129.1, b129.2))) fun b130 => if b130.1 = true then (Rk (.ret (.bool false))) else (Rk (.nx b130.2)))) fun t133 => Rk (.ret t133))))) well11 l12) fun l135 => thn l135 (fun (s134 : (List D)) => (Rk (.nx ()))) fun t136 => Rk (.ret t136)))) () l6) fun l139 => thn l139 (fun (s137 : Unit) => (Rk (.bool true))) fun t140 => Rk t140)
def P_law : List D → R D
  | [script1] => p_law script1
  | _ => none
theorem g_law (script1 : D) : FG (F_law [] [script1]) (p_law script1) ΨD := by
  show FG (runF false 16 m_law [] [script1]) _ _
  refine fg_D (pt := [.is (.dat script1), .any, .any, .any, .any, .any, .any, .any, .any, .any, .any, .any, .any, .any, .any, .any]) ?_ ⟨rfl, .inl rfl, .inl rfl, .inl rfl, .inl rfl, .inl rfl, .inl rfl, .inl rfl, .inl rfl, .inl rfl, .inl rfl, .inl rfl, .inl rfl, .inl rfl, .inl rfl, .inl rfl, trivial⟩
  unfold m_law p_law
  exact (st_forX id (fun (s10 : Unit) => [.is (.dat script1), .any, .nb, .any, .any, .any, .any, .any, .any, .any, .any, .any, .any, .any, .any, .any]) () (i_rng (gs_cons (x_cb (gs_at at_lit (gs_cons (x_cb (gs_at at_lit (gs_cons (x_cb1a (AtS.a (at_var rfl))) (fun v3 => gs_nil)))) (fun v4 => gs_nil)))) (fun v5 => gs_nil))) (.c .r (.c .r (.c .an (.c .r (.c .r (.c .r (.c .r (.c .r (.c .r (.c .r (.c .r (.c .r (.c .r (.c .r (.c .r (.c .r .n)))))))))))))))) (fun s7 d8 => (sb_nm rfl (st_setN (n_call GP__law_well (GS.a (gs_at (at_var rfl) (gs_at (at_var rfl) gs_nil))) (fun _ _ => trivial)) rfl (fun well11 => (st_forX Lo.ret (fun (s16 : (List D)) => [.is (.dat script1), .is (.dat d8), .is (.lst s16), .any, .any, .any, .any, .any, .any, .any, .any, .any, .any, .any, .any, .any]) well11 (i_rng (gs_at at_lit gs_nil)) (.c .r (.c .r (.c .r (.c .r (.c .r (.c .r (.c .r (.c .r (.c .r (.c .r (.c .r (.c .r (.c .r (.c .r (.c .r (.c .r .n)))))))))))))))) (fun s13 d14 => (sb_nm rfl (st_setI (pc := fun (s : (List D)) => [.is (.dat script1), .is (.dat d8), .is (.lst s), .is (.dat d14), .any, .any, .any, .any, .any, .any, .any, .any, .any, .any, .any, .any]) (s := s13) (xi_callO (g := fun s => s) (u := fun _ w => w) GP__law_wide_team (fun _ => ⟨_, rfl, rfl, fun _ => rfl⟩) (ai_nil rfl) (fun _ => trivial)) (fun _ => rfl) (fun team18 => (st_set (x_call GP__law_spots (GS.a (gs_at (at_var rfl) gs_nil)) (fun _ _ => trivial)) rfl (fun spots19 => (st_forX Lo.ret (fun (s24 : (List D)) => [.is (.dat script1), .is (.dat d8), .is (.lst s24), .is (.dat d14), .is (.dat team18.1), .is (.dat spots19), .any, .any, .any, .any, .any, .any, .any, .any, .any, .any]) team18.2 (i_rng (gs_at at_lit gs_nil)) (.c .r (.c .r (.c .r (.c .r (.c .r (.c .r (.c .r (.c .r (.c .r (.c .r (.c .r (.c .r (.c .r (.c .r (.c .r (.c .r .n)))))))))))))))) (fun s21 d22 => (sb_nm rfl (st_setI (pc := fun (s : (List D)) => [.is (.dat script1), .is (.dat d8), .is (.lst s), .is (.dat d14), .is (.dat team18.1), .is (.dat spots19), .is (.dat d22), .any, .any, .any, .any, .any, .any, .any, .any, .any]) (s := s21) (xi_callO (g := fun s => s) (u := fun _ w => w) GP__law_draw (fun _ => ⟨_, rfl, rfl, fun _ => rfl⟩) (ai_e (x_cb1a (AtS.a (at_var rfl))) (fun v27 => (ai_nil rfl))) (fun _ => trivial)) (fun _ => rfl) (fun number28 => (st_set (x_lst (GS.a (gs_cons (x_call GP_place_of (GS.a (gs_at (at_var rfl) (gs_cons (x_op2c (AtS.a (at_var rfl)) (AtS.a (at_var rfl))) (fun v31 => gs_nil)))) (fun _ _ => trivial)) (fun v35 => (gs_cons (x_callK GP_place_of (GS.a (gs_cons (x_op2c (AtS.a (at_var rfl)) (AtS.a (at_var rfl))) (fun v34 => (gs_at (at_var rfl) gs_nil)))) (fun _ _ => trivial)) (fun v36 => gs_nil)))))) rfl (fun told37 => (st_if (t_b (x_op2 (XE.r (x_cb1a (AtS.a (at_var rfl)))) (XE.r (x_cb1a (AtS.a (at_lst (al_cons (at_var rfl) (al_cons (at_var rfl) al_nil)) rfl)))))) (st_assoc (st_retA (inj := Lo.ret) retX at_lit)) (st_nilr (st_if (t_b (x_op2 (XE.r (x_cb1 (XE.r (x_lst (GS.a (gs_cons (x_call GP_places_at (GS.a (gs_at (at_var rfl) (gs_at (at_var rfl) gs_nil))) (fun _ _ => trivial)) (fun v44 => (gs_cons (x_callK GP_places_at (GS.a (gs_at (at_var rfl) (gs_at (at_var rfl) gs_nil))) (fun _ _ => trivial)) (fun v45 => gs_nil))))))))) (XE.r (x_cb1 (XE.r (x_op2b (XE.r (x_lst (GS.a (gs_cons (x_op2c (AtS.a (at_var rfl)) (AtS.a (at_var rfl))) (fun v49 => gs_nil))))) (AtS.a at_lit))))))) (st_assoc (st_retA (inj := Lo.ret) retX at_lit)) (st_nilr (st_setI (pc := fun (s : (List D)) => [.is (.dat script1), .is (.dat d8), .is (.lst s), .is (.dat d14), .is (.dat team18.1), .is (.dat spots19), .is (.dat d22), .is (.dat number28.1), .is (.dat told37), .any, .any, .any, .any, .any, .any, .any]) (s := number28.2) (xi_cb (ai_i (xi_lc (n_lcI (E2 := fun _ => True) (i_dat (x_op2c (AtS.a (at_var rfl)) (AtS.a at_lit))) rfl (fun _ => all_lt rfl) (fun _ => ⟨rfl, rfl⟩) (fun s63 d61 acc60 => (lti_map1 rfl (xi_if (ti_b (xi_op2b (xi_callO (g := fun s => s) (u := fun _ w => w) GP__law_draw (fun _ => ⟨_, rfl, rfl, fun _ => rfl⟩) (ai_at at_lit (ai_nil rfl)) (fun _ => trivial)) (fun _ => (AtS.a at_lit)))) (fun c70 => (XF.imp (AtS.e at_lit))) (fun c70 => (xi_callO (g := fun s => s) (u := fun _ w => w) GP__law_some (fun _ => ⟨_, rfl, rfl, fun _ => rfl⟩) (ai_e (x_op2c (AtS.a (at_var rfl)) (AtS.a at_lit)) (fun v75 => (ai_at at_lit (ai_nil rfl)))) (fun _ => trivial)))) (fun _ => (.c .r (.c .r (.c .r (.c .r (.c .r (.c .r (.c .r (.c .r (.c .r (.c .r (.c .r (.c .r (.c .r (.c .r (.c .r (.c .a (.c .r .n)))))))))))))))))))))) (fun v78 => (ai_nil rfl)))) (fun _ => rfl) (fun wishes79 => (st_set (x_call GP__law_goals_due (GS.a (gs_at (at_var rfl) (gs_at (at_var rfl) gs_nil))) (fun _ _ => trivial)) rfl (fun due80 => (st_if (t_b (x_op2 (XE.r (x_cb1 (XE.r (x_lst (GS.a (gs_cons (x_call GP_goals_with (GS.a (gs_at (at_var rfl) (gs_at (at_var rfl) gs_nil))) (fun _ _ => trivial)) (fun v81 => (gs_cons (x_callK GP_goals_with (GS.a (gs_at (at_var rfl) (gs_at (at_var rfl) gs_nil))) (fun _ _ => trivial)) (fun v82 => gs_nil))))))))) (XE.r (x_cb1a (AtS.a (at_lst (al_cons (at_var rfl) (al_cons (at_var rfl) al_nil)) rfl)))))) (st_assoc (st_retA (inj := Lo.ret) retX at_lit)) (st_nilr (st_forX Lo.ret (fun (s97 : (List D)) => [.is (.dat script1), .is (.dat d8), .is (.lst s97), .is (.dat d14), .is (.dat team18.1), .is (.dat spots19), .is (.dat d22), .is (.dat number28.1), .is (.dat told37), .is (.dat wishes79.1), .is (.dat due80), .any, .any, .any, .any, .any]) wishes79.2 (i_dat (x_tup (GS.a (gs_cons (x_tup (GS.a (gs_at at_lit (gs_cons (x_op2c (AtS.a (at_var rfl)) (AtS.a (at_var rfl))) (fun v91 => gs_nil))))) (fun v92 => (gs_at (at_tup (al_cons at_lit (al_cons (at_var rfl) al_nil)) rfl) gs_nil)))))) (.c .r (.c .r (.c .r (.c .r (.c .r (.c .r (.c .r (.c .r (.c .r (.c .r (.c .r (.c .r (.c .r (.c .r (.c .r (.c .r .n)))))))))))))))) (fun s94 d95 => (sb_tp (s_tp2 rfl (fun _ => rfl)) (fun t96 => (st_setI (pc := fun (s : (List D)) => [.is (.dat script1), .is (.dat d8), .is (.lst s), .is (.dat d14), .is (.dat team18.1), .is (.dat spots19), .is (.dat d22), .is (.dat number28.1), .is (.dat told37), .is (.dat wishes79.1), .is (.dat due80), .is (.dat t96.1), .is (.dat t96.2), .any, .any, .any]) (s := s94) (xi_callO (g := fun s => s) (u := fun _ w => w) GP__law_bent (fun _ => ⟨_, rfl, rfl, fun _ => rfl⟩) (ai_at (at_var rfl) (ai_at (at_var rfl) (ai_nil rfl))) (fun _ => trivial)) (fun _ => rfl) (fun bent99 => (st_set (x_op2b (XE.r (x_lst (GS.a (gs_cons (x_call GP__law_are_places (GS.a (gs_at (at_var rfl) (gs_at (at_var rfl) gs_nil))) (fun _ _ => trivial)) (fun v100 => (gs_cons (x_call GP__law_are_wishes (GS.a (gs_at (at_var rfl) (gs_at (at_var rfl) gs_nil))) (fun _ _ => trivial)) (fun v101 => gs_nil))))))) (AtS.a (at_var rfl))) rfl (fun fits104 => (st_if (t_and (t_not (t_b (AtS.e (at_var rfl)))) (t_not (t_b (x_call GP__law_refused (GS.a (gs_at (at_var rfl) (gs_at (at_var rfl) (gs_at (at_var rfl) gs_nil)))) (fun _ _ => trivial))))) (st_assoc (st_retA (inj := Lo.ret) retX at_lit)) (st_nilr (st_xl (.c .r (.c .r (.c .r (.c .r (.c .r (.c .r (.c .r (.c .r (.c .r (.c .r (.c .r (.c .a (.c .a (.c .a (.c .a (.c .r .n)))))))))))))))))))))))))) (fun s110 => (st_xl (.c .r (.c .r (.c .r (.c .r (.c .r (.c .r (.c .a (.c .a (.c .a (.c .a (.c .a (.c .r (.c .r (.c .r (.c .r (.c .r .n)))))))))))))))))) retX))))))))))))))))) (fun s113 => (st_ifI (pc := fun (s : (List D)) => [.is (.dat script1), .is (.dat d8), .is (.lst s), .is (.dat d14), .is (.dat team18.1), .is (.dat spots19), .any, .any, .any, .any, .any, .any, .any, .any, .any, .any]) (s := s113) (ti_not (ti_b (xi_call GP__law_refused (ai_at at_lit (ai_at (at_var rfl) (ai_i (xi_op2r (x_lst (GS.a (gs_cons (x_op1a (AtS.a at_lit)) (fun v122 => (gs_cons (x_cb1a (AtS.a (at_var rfl))) (fun v123 => (gs_cons (x_op2c (AtS.a at_lit) (AtS.a at_lit)) (fun v124 => gs_nil)))))))) (fun v115 => (xi_callO (g := fun s => s) (u := fun _ w => w) GP__law_draw (fun _ => ⟨_, rfl, rfl, fun _ => rfl⟩) (ai_at at_lit (ai_nil rfl)) (fun _ => trivial)))) (fun v126 => (ai_nil rfl))))) (fun _ _ _ => trivial)))) (fun b130 => (st_assoc (st_retA (inj := Lo.ret) retX at_lit))) (fun b130 => (st_nilr (st_xl (.c .r (.c .r (.c .r (.c .a (.c .a (.c .a (.c .r (.c .r (.c .r (.c .r (.c .r (.c .r (.c .r (.c .r (.c .r (.c .r .n))))))))))))))))))))) retX))))))) (fun s134 => (st_xl (.c .r (.c .a (.c .l (.c .r (.c .r (.c .r (.c .r (.c .r (.c .r (.c .r (.c .r (.c .r (.c .r (.c .r (.c .r (.c .r .n)))))))))))))))))) retX))))) (fun s137 => (st_retA (inj := id) retF at_lit)) retF)
theorem GP_law : ∀ ds, FG (F_law [] ds) (P_law ds) ΨD
  | [script1] => g_law script1
  | [] => trivial
  | _ :: _ :: _ => trivial
end LK

set_option Elab.async false
set_option linter.all false
set_option maxRecDepth 100000
set_option maxHeartbeats 4000000
/-! PU: how the plain functions evaluate. -/
namespace DL
open PySem PySem.Spec PyProof.Rows L2
/-! ### operators on known data -/
section
variable {i j : Int} {d e a b c x y z u v : D} {ds es l m : List D} {s t : Str}
@[simp] theorem addD_i : addD (.int i) (.int j) = some (.int (i + j)) := nr rfl
@[simp] theorem iaddD_i : iaddD (.int i) (.int j) = some (.int (i + j)) := nr rfl
@[simp] theorem subD_i : subD (.int i) (.int j) = some (.int (i - j)) := nr rfl
@[simp] theorem ltD_i : ltD (.int i) (.int j) = some (.bool (decide (i < j))) := nr rfl
@[simp] theorem leD_i : leD (.int i) (.int j) = some (.bool (decide (i ≤ j))) := nr rfl
@[simp] theorem gtD_i : gtD (.int i) (.int j) = some (.bool (decide (j < i))) := nr rfl
@[simp] theorem geD_i : geD (.int i) (.int j) = some (.bool (decide (j ≤ i))) := nr rfl
@[simp] theorem negD_i : negD (.int i) = some (.int (-i)) := nr rfl
theorem mulD_i (h : mulC i j = true) : mulD (.int i) (.int j) = some (.int (i * j)) := by show (if mulC i j then _ else _) = _; rw [if_pos h]
theorem mul_c1 (h : j.natAbs < 2 ^ 64) : mulC i j = true := by unfold mulC; rw [decide_eq_true h, Bool.or_true, Bool.or_true]
theorem mul_c2 (h : i.natAbs < 2 ^ 64) : mulC i j = true := by unfold mulC; rw [decide_eq_true h, Bool.true_or, Bool.or_true]
theorem log2_of {n k : Nat} (h : n < 2 ^ k) (hk : 0 < k) : n.log2 < k := by
  by_cases h0 : n = 0
  · subst h0; simpa using hk
  · exact (Nat.log2_lt h0).mpr h
theorem mul_c3 (hi : i.natAbs < 2 ^ 1000) (hj : j.natAbs < 2 ^ 1000) : mulC i j = true := by
  have h1 := log2_of hi (by decide)
  have h2 := log2_of hj (by decide)
  unfold mulC
  rw [decide_eq_true (by omega : i.natAbs.log2 + j.natAbs.log2 < 1000000), Bool.true_or]
theorem mulX_i (h : mulC i j = true) : mulX (.int i) (.int j) = some (.int (i * j)) := mulD_i h
theorem mulX_r (h : j.natAbs < 2 ^ 64) : mulX (.int i) (.int j) = some (.int (i * j)) := mulD_i (mul_c1 h)
theorem mulX_l (h : i.natAbs < 2 ^ 64) : mulX (.int i) (.int j) = some (.int (i * j)) := mulD_i (mul_c2 h)
theorem mulX_b (hi : i.natAbs < 2 ^ 1000) (hj : j.natAbs < 2 ^ 1000) : mulX (.int i) (.int j) = some (.int (i * j)) := mulD_i (mul_c3 hi hj)
theorem mulX_list (h1 : -1000 ≤ j) (h2 : j ≤ 1000) (h3 : ds.length ≤ 1000) : mulX (.list ds) (.int j) = some (.list (repD j ds)) := if_pos ⟨h1, h2, h3⟩
theorem mulX_tup (h1 : -1000 ≤ j) (h2 : j ≤ 1000) (h3 : ds.length ≤ 1000) : mulX (.tuple ds) (.int j) = some (.tuple (repD j ds)) := if_pos ⟨h1, h2, h3⟩
theorem imulD_r (h : j.natAbs < 2 ^ 64) : imulD (.int i) (.int j) = some (.int (i * j)) := by
  show (if imulC i j then _ else _) = _
  rw [if_pos (by unfold imulC; rw [decide_eq_true h, Bool.or_true])]
theorem modD_i (h : 0 < j) : modD (.int i) (.int j) = some (.int (i % j)) := by show (if modC i j then _ else _) = _; rw [if_pos (show modC i j = true from decide_eq_true h)]
theorem fdivD_i (h : 0 < j) (h2 : j.natAbs < 2 ^ 1000) : fdivD (.int i) (.int j) = some (.int (i / j)) := by
  show (if divC i j then _ else _) = _
  have h2 : j.natAbs.log2 < 9000 := Nat.lt_trans (log2_of h2 (by decide)) (by decide)
  rw [if_pos (by unfold divC; rw [decide_eq_true h, decide_eq_true h2]; rfl)]
theorem powD_n (n : Nat) (hn : n ≤ 1000000) : powD (.int 10) (.int n) = some (.int (10 ^ n)) := by
  show (if powC 10 n then some (PyData.int (10 ^ (n : Int).toNat)) else none) = _
  rw [if_pos (by unfold powC; rw [decide_eq_true (by omega : (0 : Int) ≤ n), decide_eq_true (by omega : (n : Int) ≤ 1000000)]; decide)]
  rfl
@[simp] theorem intF_i : intF [.int i] = some (.int i) := nr rfl
@[simp] theorem intF_b {b : Bool} : intF [.bool b] = some (.int (if b then 1 else 0)) := nr rfl
@[simp] theorem absF_i : absF [.int i] = some (.int (if i < 0 then -i else i)) := nr rfl
@[simp] theorem maxF_i : maxF [.int i, .int j] = some (.int (if j > i then j else i)) := nr rfl
@[simp] theorem minF_i : minF [.int i, .int j] = some (.int (if j < i then j else i)) := nr rfl
@[simp] theorem lenF_l : lenF [.list ds] = some (.int ds.length) := nr rfl
@[simp] theorem lenF_t : lenF [.tuple ds] = some (.int ds.length) := nr rfl
@[simp] theorem tupleF_l : tupleF [.list ds] = some (.tuple ds) := nr rfl
@[simp] theorem tupleF_t : tupleF [.tuple ds] = some (.tuple ds) := nr rfl
@[simp] theorem listF_l : listF [.list ds] = some (.list ds) := nr rfl
@[simp] theorem listF_t : listF [.tuple ds] = some (.list ds) := nr rfl
@[simp] theorem revX_l : revX (.list ds) = some (.list ds.reverse) := nr rfl
@[simp] theorem revX_t : revX (.tuple ds) = some (.tuple ds.reverse) := nr rfl
@[simp] theorem zipF_l : zipF [.list ds, .list es] = some (zipD ds es) := nr rfl
@[simp] theorem zipF_t : zipF [.tuple ds, .tuple es] = some (zipD ds es) := nr rfl
@[simp] theorem enumF_l : enumF [.list ds] = some (enumD 0 ds) := nr rfl
@[simp] theorem isN_n : isNoneB .none = true := nr rfl
@[simp] theorem isN_i : isNoneB (.int i) = false := nr rfl
@[simp] theorem isN_b {b : Bool} : isNoneB (.bool b) = false := nr rfl
@[simp] theorem isN_s : isNoneB (.str s) = false := nr rfl
@[simp] theorem isN_l : isNoneB (.list ds) = false := nr rfl
@[simp] theorem isN_t : isNoneB (.tuple ds) = false := nr rfl
@[simp] theorem eqX_s : eqX (.str s) (.str t) = some (.bool (s == t)) := nr rfl
@[simp] theorem neX_s : neX (.str s) (.str t) = some (.bool (!(s == t))) := nr rfl
theorem eqX_i : eqX (.int i) (.int j) = some (.bool (decide (i = j))) := by
  show eqD _ _ = _
  unfold eqD
  rw [if_pos (by simp [SeqAt.shaped, PyData.canLay0, PyData.depth])]
  rfl
theorem neX_i : neX (.int i) (.int j) = some (.bool (!decide (i = j))) := by
  show neD _ _ = _
  unfold neD
  rw [if_pos (by simp [SeqAt.shaped, PyData.canLay0, PyData.depth])]
  rfl
/-! items of displays -/
@[simp] theorem ix_t0 : ixD (.tuple (a :: l)) (.int 0) = some a := by
  show atI _ _ = _
  unfold atI ixN
  simp
@[simp] theorem ix_l0 : ixD (.list (a :: l)) (.int 0) = some a := by
  show atI _ _ = _
  unfold atI ixN
  simp
end
theorem ixN_nat {n k : Nat} (h : k < n) : ixN n (k : Int) = some k := by
  unfold ixN
  rw [if_pos (by omega)]
  first
    | (rw [if_pos (by omega)]; congr 1)
    | (congr 1)
theorem ix_tn {ds : List D} {k : Nat} (h : k < ds.length) : ixD (.tuple ds) (.int k) = some ds[k] := by
  show atI _ _ = _
  unfold atI
  rw [ixN_nat h, Option.bind_some, List.getElem?_eq_getElem h]
theorem ix_ln {ds : List D} {k : Nat} (h : k < ds.length) : ixD (.list ds) (.int k) = some ds[k] := by
  show atI _ _ = _
  unfold atI
  rw [ixN_nat h, Option.bind_some, List.getElem?_eq_getElem h]
section
variable {a b c d e f g : D} {l : List D}
@[simp] theorem ix_t1 : ixD (.tuple (a :: b :: l)) (.int 1) = some b := ix_tn (k := 1) (by simp)
@[simp] theorem ix_t2 : ixD (.tuple (a :: b :: c :: l)) (.int 2) = some c := ix_tn (k := 2) (by simp)
@[simp] theorem ix_t3 : ixD (.tuple (a :: b :: c :: d :: l)) (.int 3) = some d := ix_tn (k := 3) (by simp)
@[simp] theorem ix_t4 : ixD (.tuple (a :: b :: c :: d :: e :: l)) (.int 4) = some e := ix_tn (k := 4) (by simp)
@[simp] theorem ix_t5 : ixD (.tuple (a :: b :: c :: d :: e :: f :: l)) (.int 5) = some f := ix_tn (k := 5) (by simp)
@[simp] theorem ix_l1 : ixD (.list (a :: b :: l)) (.int 1) = some b := ix_ln (k := 1) (by simp)
@[simp] theorem ix_l2 : ixD (.list (a :: b :: c :: l)) (.int 2) = some c := ix_ln (k := 2) (by simp)
@[simp] theorem ix_l3 : ixD (.list (a :: b :: c :: d :: l)) (.int 3) = some d := ix_ln (k := 3) (by simp)
end
/-! isinstance -/
def tyIs (t : String) (d : D) : Bool := tyD d == t || (tyD d == "bool" && t == "int")
def dInt : D → Bool | .int _ => true | _ => false
def dTup : D → Bool | .tuple _ => true | _ => false
def dStr : D → Bool | .str _ => true | _ => false
def dLst : D → Bool | .list _ => true | _ => false
def dIntB : D → Bool | .int _ => true | .bool _ => true | _ => false
def dBool : D → Bool | .bool _ => true | _ => false
theorem kit_int : ∀ d : D, isTy "int" d = some (dIntB d)
  | .none => (by decide +kernel : kitB "NoneType" "int" = some false)
  | .bool _ => (by decide +kernel : kitB "bool" "int" = some true)
  | .int _ => (by decide +kernel : kitB "int" "int" = some true)
  | .str _ => (by decide +kernel : kitB "str" "int" = some false)
  | .list _ => (by decide +kernel : kitB "list" "int" = some false)
  | .tuple _ => (by decide +kernel : kitB "tuple" "int" = some false)
  | .dict _ => (by decide +kernel : kitB "dict" "int" = some false)
theorem kit_bool : ∀ d : D, isTy "bool" d = some (dBool d)
  | .none => (by decide +kernel : kitB "NoneType" "bool" = some false)
  | .bool _ => (by decide +kernel : kitB "bool" "bool" = some true)
  | .int _ => (by decide +kernel : kitB "int" "bool" = some false)
  | .str _ => (by decide +kernel : kitB "str" "bool" = some false)
  | .list _ => (by decide +kernel : kitB "list" "bool" = some false)
  | .tuple _ => (by decide +kernel : kitB "tuple" "bool" = some false)
  | .dict _ => (by decide +kernel : kitB "dict" "bool" = some false)
theorem kit_str : ∀ d : D, isTy "str" d = some (dStr d)
  | .none => (by decide +kernel : kitB "NoneType" "str" = some false)
  | .bool _ => (by decide +kernel : kitB "bool" "str" = some false)
  | .int _ => (by decide +kernel : kitB "int" "str" = some false)
  | .str _ => (by decide +kernel : kitB "str" "str" = some true)
  | .list _ => (by decide +kernel : kitB "list" "str" = some false)
  | .tuple _ => (by decide +kernel : kitB "tuple" "str" = some false)
  | .dict _ => (by decide +kernel : kitB "dict" "str" = some false)
theorem kit_tuple : ∀ d : D, isTy "tuple" d = some (dTup d)
  | .none => (by decide +kernel : kitB "NoneType" "tuple" = some false)
  | .bool _ => (by decide +kernel : kitB "bool" "tuple" = some false)
  | .int _ => (by decide +kernel : kitB "int" "tuple" = some false)
  | .str _ => (by decide +kernel : kitB "str" "tuple" = some false)
  | .list _ => (by decide +kernel : kitB "list" "tuple" = some false)
  | .tuple _ => (by decide +kernel : kitB "tuple" "tuple" = some true)
  | .dict _ => (by decide +kernel : kitB "dict" "tuple" = some false)
theorem kit_list : ∀ d : D, isTy "list" d = some (dLst d)
  | .none => (by decide +kernel : kitB "NoneType" "list" = some false)
  | .bool _ => (by decide +kernel : kitB "bool" "list" = some false)
  | .int _ => (by decide +kernel : kitB "int" "list" = some false)
  | .str _ => (by decide +kernel : kitB "str" "list" = some false)
  | .list _ => (by decide +kernel : kitB "list" "list" = some true)
  | .tuple _ => (by decide +kernel : kitB "tuple" "list" = some false)
  | .dict _ => (by decide +kernel : kitB "dict" "list" = some false)
theorem isXd_int (d : D) : isXd (isTy "int") d = Rk (.bool (dIntB d)) := by unfold isXd; rw [kit_int]; rfl
theorem isXd_bool (d : D) : isXd (isTy "bool") d = Rk (.bool (dBool d)) := by unfold isXd; rw [kit_bool]; rfl
theorem isXd_str (d : D) : isXd (isTy "str") d = Rk (.bool (dStr d)) := by unfold isXd; rw [kit_str]; rfl
theorem isXd_tuple (d : D) : isXd (isTy "tuple") d = Rk (.bool (dTup d)) := by unfold isXd; rw [kit_tuple]; rfl
theorem isXd_list (d : D) : isXd (isTy "list") d = Rk (.bool (dLst d)) := by unfold isXd; rw [kit_list]; rfl
/-! ### loops and comprehensions -/
section
variable {α β σ τ : Type}
theorem lcP_ok {f : D → R (Option D)} {h : D → Option D} : ∀ {ds : List D}, (∀ d ∈ ds, f d = Rk (h d)) → lcP f ds = Rk (ds.filterMap h)
  | [], _ => rfl
  | d :: ds, hf => by
    unfold lcP
    rw [hf d (List.mem_cons_self ..), quiet_ok, bd_ok, lcP_ok fun x hx => hf x (List.mem_cons_of_mem _ hx), bd_ok]
    cases e : h d with
    | none => rw [List.filterMap_cons_none e]
    | some y => rw [List.filterMap_cons_some e]
theorem lcR_ok {f : D → R (Option D)} {h : D → Option D} {ds : List D} (hf : ∀ d ∈ ds, f d = Rk (h d)) (hl : ds.length ≤ 16777216) : lcR f ds = Rk (ds.filterMap h) := by
  unfold lcR
  rw [lcP_ok hf, bd_ok]
  exact capR_ok (Nat.le_trans (List.length_filterMap_le h ds) hl)
theorem mapR_ok {g : D → R D} {h : D → D} {ds : List D} (hf : ∀ d ∈ ds, g d = Rk (h d)) (hl : ds.length ≤ 16777216) : mapR g ds = Rk (ds.map h) := by
  unfold mapR
  rw [lcR_ok (h := fun d => some (h d)) (fun d hd => by rw [hf d hd, bd_ok]) hl, List.filterMap_eq_map']
theorem mapR_enc {g : D → R D} (enc : α → D) {h : α → D} {xs : List α} (hf : ∀ x ∈ xs, g (enc x) = Rk (h x)) (hl : xs.length ≤ 16777216) : mapR g (xs.map enc) = Rk (xs.map h) := by
  have : ∀ xs : List α, (∀ x ∈ xs, g (enc x) = Rk (h x)) → lcP (fun d => bd (g d) fun y => Rk (some y)) (xs.map enc) = Rk (xs.map h) := by
    intro xs
    induction xs with
    | nil => intro _; rfl
    | cons x xs ih =>
      intro hf
      rw [List.map_cons]
      unfold lcP
      rw [hf x (List.mem_cons_self ..), bd_ok, quiet_ok, bd_ok, ih fun y hy => hf y (List.mem_cons_of_mem _ hy)]
      rfl
  unfold mapR lcR
  rw [this xs hf, bd_ok]
  exact capR_ok (by rw [List.length_map]; exact hl)
theorem selR_ok {c : R Bool} {e : R D} {b : Bool} {y : D} (hc : c = Rk b) (he : b = true → e = Rk y) : selR c e = Rk (if b = true then some y else none) := by
  unfold selR
  rw [hc, bd_ok]
  cases b with
  | true => rw [if_pos rfl, if_pos rfl, he rfl]; rfl
  | false => rfl
/-- [x for x in xs if c] -/
theorem lcR_filter {c : D → R Bool} (enc : α → D) {b : α → Bool} {xs : List α} (hf : ∀ x ∈ xs, c (enc x) = Rk (b x)) (hl : xs.length ≤ 16777216) : lcR (fun d => selR (c d) (Rk d)) (xs.map enc) = Rk ((xs.filter b).map enc) := by
  have : ∀ xs : List α, (∀ x ∈ xs, c (enc x) = Rk (b x)) → lcP (fun d => selR (c d) (Rk d)) (xs.map enc) = Rk ((xs.filter b).map enc) := by
    intro xs
    induction xs with
    | nil => intro _; rfl
    | cons x xs ih =>
      intro hf
      rw [List.map_cons]
      unfold lcP
      rw [selR_ok (hf x (List.mem_cons_self ..)) (fun _ => rfl), quiet_ok, bd_ok, ih fun y hy => hf y (List.mem_cons_of_mem _ hy), bd_ok]
      cases e : b x with
      | true => rw [List.filter_cons_of_pos e]; rfl
      | false => rw [List.filter_cons_of_neg (by rw [e]; exact Bool.false_ne_true)]; rfl
  unfold lcR
  rw [this xs hf, bd_ok]
  exact capR_ok (by rw [List.length_map]; exact Nat.le_trans (List.length_filter_le _ _) hl)
theorem lcR_enc {f : D → R (Option D)} (enc : α → D) {h : α → Option D} {xs : List α} (hf : ∀ x ∈ xs, f (enc x) = Rk (h x)) (hl : xs.length ≤ 16777216) : lcR f (xs.map enc) = Rk (xs.filterMap h) := by
  have : ∀ xs : List α, (∀ x ∈ xs, f (enc x) = Rk (h x)) → lcP f (xs.map enc) = Rk (xs.filterMap h) := by
    intro xs
    induction xs with
    | nil => intro _; rfl
    | cons x xs ih =>
      intro hf
      rw [List.map_cons]
      unfold lcP
      rw [hf x (List.mem_cons_self ..), quiet_ok, bd_ok, ih fun y hy => hf y (List.mem_cons_of_mem _ hy), bd_ok]
      cases e : h x with
      | none => rw [List.filterMap_cons_none e]
      | some y => rw [List.filterMap_cons_some e]
  unfold lcR
  rw [this xs hf, bd_ok]
  exact capR_ok (Nat.le_trans (List.length_filterMap_le _ _) hl)
theorem forR_nil {f : σ → D → R σ} {s : σ} : forR f s [] = Rk s := rfl
theorem forR_cons {f : σ → D → R σ} {s : σ} {d : D} {ds : List D} : forR f s (d :: ds) = bd (f s d) fun s' => forR f s' ds := rfl
/-- a loop as a fold, states and items encoded -/
theorem forR_enc {f : σ → D → R σ} (es : β → σ) (ex : α → D) {g : β → α → β} : ∀ {xs : List α} {b : β}, (∀ b x, x ∈ xs → f (es b) (ex x) = Rk (es (g b x))) → forR f (es b) (xs.map ex) = Rk (es (xs.foldl g b))
  | [], b, _ => rfl
  | x :: xs, b, h => by
    rw [List.map_cons, forR_cons, h b x (List.mem_cons_self ..), bd_ok]
    exact forR_enc es ex fun b y hy => h b y (List.mem_cons_of_mem _ hy)
/-- a loop by what holds with the items left -/
theorem forR_inv {f : σ → D → R σ} (P : List D → σ → Prop) (hs : ∀ s d ds, P (d :: ds) s → ∃ s', f s d = Rk s' ∧ P ds s') : ∀ {ds : List D} {s : σ}, P ds s → ∃ s', forR f s ds = Rk s' ∧ P [] s'
  | [], s, h => ⟨s, rfl, h⟩
  | d :: ds, s, h => by
    obtain ⟨s', e, h'⟩ := hs s d ds h
    obtain ⟨s2, e2, h2⟩ := forR_inv P hs h'
    exact ⟨s2, by rw [forR_cons, e, bd_ok]; exact e2, h2⟩
theorem forX_cons {f : σ → D → R (Lo σ τ)} {s : σ} {d : D} {ds : List D} : forX f s (d :: ds) = bd (f s d) fun l => match l with
    | .nx s' => forX f s' ds
    | .brk s' => Rk (.nx s')
    | .ret t => Rk (.ret t) := rfl
/-- a loop that is not left -/
theorem forX_inv {f : σ → D → R (Lo σ τ)} (P : List D → σ → Prop) (hs : ∀ s d ds, P (d :: ds) s → ∃ s', f s d = Rk (.nx s') ∧ P ds s') : ∀ {ds : List D} {s : σ}, P ds s → ∃ s', forX f s ds = Rk (.nx s') ∧ P [] s'
  | [], s, h => ⟨s, rfl, h⟩
  | d :: ds, s, h => by
    obtain ⟨s', e, h'⟩ := hs s d ds h
    obtain ⟨s2, e2, h2⟩ := forX_inv P hs h'
    exact ⟨s2, by rw [forX_cons, e, bd_ok]; exact e2, h2⟩
/-- a comprehension that changes lists -/
theorem lcI_inv {f : σ → D → R (Option D × σ)} (P : List D → List D → σ → Prop) (hs : ∀ s d ds acc, P acc (d :: ds) s → ∃ o s', f s d = Rk (o, s') ∧ P (acc ++ o.toList) ds s') : ∀ {ds : List D} {acc : List D} {s : σ}, P acc ds s → ∃ es s', lcI f s ds = Rk (es, s') ∧ P (acc ++ es) [] s' ∧ es.length ≤ ds.length
  | [], acc, s, h => ⟨[], s, rfl, by rw [List.append_nil]; exact h, Nat.le_refl _⟩
  | d :: ds, acc, s, h => by
    obtain ⟨o, s', e, h'⟩ := hs s d ds acc h
    obtain ⟨es, s2, e2, h2, hl⟩ := lcI_inv P hs h'
    unfold lcI
    rw [e, quiet_ok, bd_ok]
    dsimp only
    rw [e2, bd_ok]
    cases o with
    | none => exact ⟨es, s2, rfl, by simpa using h2, by simp; omega⟩
    | some y => exact ⟨y :: es, s2, rfl, by simpa using h2, by simp; omega⟩
theorem capI_ok {b : List D × σ} (h : b.1.length ≤ 16777216) : capI b = Rk b := if_pos h
theorem appR_ok {ds : List D} {d : D} (h : ds.length < 16777216) : appR ds d = Rk (ds ++ [d]) := if_pos h
theorem extR_ok {ds es : List D} (h : ds.length + es.length ≤ 16777216) : extR ds es = Rk (ds ++ es) := if_pos h
@[simp] theorem thn_ret' {t : τ} {k : σ → R β} {r : τ → R β} : thn (.ret t) k r = r t := nr rfl
theorem bd_pair {x : R (α × β)} : (bd x fun v => Rk (v.1, v.2)) = x := by
  match x with
  | none => rfl
  | some (.ok (a, b)) => rfl
  | some (.error e) => rfl
end
/-! ranges -/
theorem rngF_n {n : Nat} (h : n < 2 ^ 60) : rngF [.int n] = some ((List.range n).map fun (i : Nat) => PyData.int i) := by
  show (if okR n then some (rangeD 0 n) else none) = _
  rw [if_pos (by unfold okR; rw [decide_eq_true (by omega), decide_eq_true (by omega)]; rfl)]
  unfold rangeD
  simp
theorem rngF_0 {i : Int} (h : i ≤ 0) (h2 : -(2 ^ 60) < i) : rngF [.int i] = some [] := by
  show (if okR i then some (rangeD 0 i) else none) = _
  rw [if_pos (by unfold okR; rw [decide_eq_true (by omega), decide_eq_true (by omega)]; rfl)]
  unfold rangeD
  have : (i - 0).toNat = 0 := by omega
  rw [this]; rfl
end DL

set_option Elab.async false
set_option linter.all false
set_option maxRecDepth 100000
set_option maxHeartbeats 4000000
/-! PG: data that can be written and compared. -/
namespace DL
open PySem PySem.Spec PyProof.Rows L2
structure Good (k z : Nat) (d : D) : Prop where
  depth : d.depth ≤ k
  rz : DL.rz d ≤ z
  sh : d.showable = true
  lay : d.canLay0 = true
section
variable {k z k' z' : Nat} {d e : D} {ds : List D}
theorem Good.mono (h : Good k z d) (hk : k ≤ k') (hz : z ≤ z') : Good k' z' d := ⟨Nat.le_trans h.depth hk, Nat.le_trans h.rz hz, h.sh, h.lay⟩
theorem good_none : Good 0 4 .none := ⟨by simp [PyData.depth], by simp [rz], by simp [PyData.showable], by simp [PyData.canLay0]⟩
theorem good_bool (b : Bool) : Good 0 5 (.bool b) := ⟨by simp [PyData.depth], by simp [rz], by simp [PyData.showable], by simp [PyData.canLay0]⟩
theorem good_int {i : Int} (h : i.natAbs < 2 ^ 1000) : Good 0 1002 (.int i) := by
  have h1 := log2_of h (by decide)
  exact ⟨by simp [PyData.depth], by simp [rz]; omega, by simp [PyData.showable]; omega, by simp [PyData.canLay0]⟩
theorem good_str {x : Str} (h1 : PyData.strOk x = true) (h2 : (reprText x).length ≤ 1000) : Good 0 1000 (.str x) := ⟨by simp [PyData.depth], by simp [rz]; exact h2, by simp [PyData.showable], by simpa [PyData.canLay0] using h1⟩
theorem rzAll_le : ∀ {ds : List D}, (∀ d ∈ ds, Good k z d) → rzAll ds ≤ ds.length * (z + 2)
  | [], _ => by simp [rzAll]
  | d :: ds, h => by
    have h1 := (h d (List.mem_cons_self ..)).rz
    have h2 := rzAll_le fun e he => h e (List.mem_cons_of_mem _ he)
    rw [rzAll, List.length_cons, Nat.succ_mul]
    omega
theorem depthAll_le : ∀ {ds : List D}, (∀ d ∈ ds, Good k z d) → PyData.depthAll ds ≤ k
  | [], _ => by simp [PyData.depthAll]
  | d :: ds, h => by
    have h1 := (h d (List.mem_cons_self ..)).depth
    have h2 := depthAll_le fun e he => h e (List.mem_cons_of_mem _ he)
    rw [PyData.depthAll]
    omega
theorem showAll : ∀ {ds : List D}, (∀ d ∈ ds, Good k z d) → PyData.showableAll ds = true
  | [], _ => by simp [PyData.showableAll]
  | d :: ds, h => by
    rw [PyData.showableAll, (h d (List.mem_cons_self ..)).sh, showAll fun e he => h e (List.mem_cons_of_mem _ he)]; rfl
theorem layAll : ∀ {ds : List D}, (∀ d ∈ ds, Good k z d) → PyData.canLayAll0 ds = true
  | [], _ => by simp [PyData.canLayAll0]
  | d :: ds, h => by
    rw [PyData.canLayAll0, (h d (List.mem_cons_self ..)).lay, layAll fun e he => h e (List.mem_cons_of_mem _ he)]; rfl
theorem good_list (n : Nat) (h : ∀ d ∈ ds, Good k z d) (hn : ds.length ≤ n) : Good (k + 1) (n * (z + 2) + 3) (.list ds) := by
  have h1 := rzAll_le h
  have h2 := depthAll_le h
  have h3 := Nat.mul_le_mul_right (z + 2) hn
  exact ⟨by rw [PyData.depth]; omega, by rw [rz]; omega, by rw [PyData.showable]; exact showAll h, by rw [PyData.canLay0]; exact layAll h⟩
theorem good_tup (n : Nat) (h : ∀ d ∈ ds, Good k z d) (hn : ds.length ≤ n) : Good (k + 1) (n * (z + 2) + 3) (.tuple ds) := by
  have h1 := rzAll_le h
  have h2 := depthAll_le h
  have h3 := Nat.mul_le_mul_right (z + 2) hn
  exact ⟨by rw [PyData.depth]; omega, by rw [rz]; omega, by rw [PyData.showable]; exact showAll h, by rw [PyData.canLay0]; exact layAll h⟩
theorem Good.shaped (h : Good k z d) (hk : k ≤ 64) : SeqAt.shaped d = true := by
  unfold SeqAt.shaped
  rw [h.lay, decide_eq_true (Nat.le_trans h.depth hk)]; rfl
theorem Good.repr (h : Good k z d) (hk : k ≤ 64) (hz : z ≤ 16777216) : reprF [d] = some (.str d.shown) := by
  show (if reprOk d then _ else _) = _
  rw [if_pos]
  unfold reprOk
  rw [h.sh, h.shaped hk, decide_eq_true (Nat.le_trans h.depth hk), decide_eq_true (Nat.le_trans h.rz hz)]; rfl
mutual
theorem eqv_rfl : ∀ d : D, d.hasDict = false → PyData.eqv d d = true
  | .none, _ => by simp [PyData.eqv]
  | .bool _, _ => by simp [PyData.eqv]
  | .int _, _ => by simp [PyData.eqv]
  | .str _, _ => by simp [PyData.eqv]
  | .list ds, h => by simp only [PyData.eqv]; exact eqvAll_rfl ds (by simpa only [PyData.hasDict] using h)
  | .tuple ds, h => by simp only [PyData.eqv]; exact eqvAll_rfl ds (by simpa only [PyData.hasDict] using h)
  | .dict _, h => by simp [PyData.hasDict] at h
theorem eqvAll_rfl : ∀ ds : List D, PyData.hasDictAll ds = false → PyData.eqvAll ds ds = true
  | [], _ => by simp [PyData.eqvAll]
  | d :: ds, h => by
    simp only [PyData.hasDictAll, Bool.or_eq_false_iff] at h
    simp only [PyData.eqvAll, eqv_rfl d h.1, eqvAll_rfl ds h.2, Bool.and_self]
end
theorem Good.noDict (h : Good k z d) : d.hasDict = false := PyData.hasDict_of_canLay d h.lay
theorem eqX_eq (h1 : SeqAt.shaped d = true) (h2 : SeqAt.shaped e = true) : eqX d e = some (.bool (PyData.eqv d e)) := by
  have e1 : eqD d e = some (.bool (PyData.eqv d e)) := by
    unfold eqD
    rw [h1, h2, Bool.and_self, if_pos rfl]
  cases d with
  | str x =>
    cases e with
    | str y => rw [eqX_s]; simp only [PyData.eqv]
    | _ => exact e1
  | _ => cases e <;> exact e1
theorem neX_eq (h1 : SeqAt.shaped d = true) (h2 : SeqAt.shaped e = true) : neX d e = some (.bool (!PyData.eqv d e)) := by
  have e1 : neD d e = some (.bool (!PyData.eqv d e)) := by
    unfold neD
    rw [h1, h2, Bool.and_self, if_pos rfl]
  cases d with
  | str x =>
    cases e with
    | str y => rw [neX_s]; simp only [PyData.eqv]
    | _ => exact e1
  | _ => cases e <;> exact e1
theorem Good.eq (h : Good k z d) (hk : k ≤ 64) : eqX d d = some (.bool true) := by
  rw [eqX_eq (h.shaped hk) (h.shaped hk), eqv_rfl d h.noDict]
theorem Good.ne (h : Good k z d) (hk : k ≤ 64) : neX d d = some (.bool false) := by
  rw [neX_eq (h.shaped hk) (h.shaped hk), eqv_rfl d h.noDict]; rfl
theorem neX_same {s : Str} : neX (.str s) (.str s) = some (.bool false) := by rw [neX_s]; simp
theorem eqX_same {s : Str} : eqX (.str s) (.str s) = some (.bool true) := by rw [eqX_s]; simp
theorem len_le_rzAll : ∀ ds : List D, ds.length ≤ rzAll ds
  | [] => Nat.zero_le _
  | d :: ds => by
    have := len_le_rzAll ds
    rw [rzAll, List.length_cons]; omega
theorem mem_rzAll : ∀ {ds : List D} {d : D}, d ∈ ds → rz d ≤ rzAll ds
  | e :: ds, d, h => by
    rw [rzAll]
    rcases List.mem_cons.mp h with rfl | h
    · omega
    · have := mem_rzAll h; omega
theorem mem_depthAll : ∀ {ds : List D} {d : D}, d ∈ ds → d.depth ≤ PyData.depthAll ds
  | e :: ds, d, h => by
    rw [PyData.depthAll]
    rcases List.mem_cons.mp h with rfl | h
    · omega
    · have := mem_depthAll h; omega
/-! lists of truths -/
theorem asBools_map : ∀ bs : List Bool, asBools (bs.map PyData.bool) = some bs
  | [] => rfl
  | b :: bs => by
    rw [List.map_cons]
    show (asBools (bs.map PyData.bool)).map (b :: ·) = _
    rw [asBools_map bs]; rfl
theorem allF_bools (bs : List Bool) : allF [.list (bs.map PyData.bool)] = some (.bool (bs.all id)) := by
  show (asBools (bs.map PyData.bool)).map _ = _
  rw [asBools_map]; rfl
theorem anyF_bools (bs : List Bool) : anyF [.list (bs.map PyData.bool)] = some (.bool (bs.any id)) := by
  show (asBools (bs.map PyData.bool)).map _ = _
  rw [asBools_map]; rfl
theorem asInts_map : ∀ bs : List Int, asInts (bs.map PyData.int) = some bs
  | [] => rfl
  | b :: bs => by
    rw [List.map_cons]
    show (asInts (bs.map PyData.int)).map (b :: ·) = _
    rw [asInts_map bs]; rfl
theorem shaped_bools (bs : List Bool) : SeqAt.shaped (.list (bs.map PyData.bool)) = true :=
  (good_list (k := 0) (z := 5) bs.length (fun d hd => by obtain ⟨b, _, rfl⟩ := List.mem_map.mp hd; exact good_bool b) (by rw [List.length_map]; exact Nat.le_refl _)).shaped (by decide)
theorem any_false (bs : List Bool) : (bs.map PyData.bool).any (fun z => PyData.eqv z (.bool false)) = !bs.all id := by
  induction bs with
  | nil => rfl
  | cons b bs ih => rw [List.map_cons, List.any_cons, ih, List.all_cons]; cases b <;> simp [PyData.eqv]
/-- False in [..], False not in [..] -/
theorem inX_false (bs : List Bool) : inX (.bool false) (.list (bs.map PyData.bool)) = some (.bool (!bs.all id)) := by
  show inD (.bool false) (.list (bs.map PyData.bool)) = _
  unfold inD
  dsimp only
  rw [shaped_bools, show SeqAt.shaped (.bool false) = true by simp [SeqAt.shaped, PyData.canLay0, PyData.depth], Bool.and_self, if_pos rfl, any_false]
theorem ninX_false (bs : List Bool) : ninX (.bool false) (.list (bs.map PyData.bool)) = some (.bool (bs.all id)) := by
  show ninD (.bool false) (.list (bs.map PyData.bool)) = _
  unfold ninD
  dsimp only
  rw [shaped_bools, show SeqAt.shaped (.bool false) = true by simp [SeqAt.shaped, PyData.canLay0, PyData.depth], Bool.and_self, if_pos rfl, any_false, Bool.not_not]
/-! zip, enumerate of encoded lists -/
theorem zipD_map {α β : Type} {f : α → D} {g : β → D} : ∀ {xs : List α} {ys : List β}, zipD (xs.map f) (ys.map g) = (xs.zip ys).map fun p => .tuple [f p.1, g p.2]
  | [], _ => by cases ‹List β› <;> rfl
  | _ :: _, [] => rfl
  | x :: xs, y :: ys => by
    rw [List.map_cons, List.map_cons, List.zip_cons_cons, List.map_cons]
    show _ :: zipD (xs.map f) (ys.map g) = _
    rw [zipD_map]
theorem zipD_len : ∀ (xs ys : List D), (zipD xs ys).length = min xs.length ys.length
  | [], ys => by simp [zipD]
  | _ :: _, [] => by simp [zipD]
  | x :: xs, y :: ys => by simp only [zipD, List.length_cons, zipD_len xs ys]; omega
end
end DL

set_option Elab.async false
set_option linter.all false
set_option maxRecDepth 100000
set_option maxHeartbeats 4000000
/-! PH: loops that gather. -/
namespace DL
open PySem PySem.Spec PyProof.Rows L2
section
variable {α β σ τ : Type}
@[simp] theorem mapR_nil {g : D → R D} : mapR g [] = Rk [] := nr rfl
@[simp] theorem lcR_nil {g : D → R (Option D)} : lcR g [] = Rk [] := nr rfl
/-- a loop that appends what a test takes -/
theorem forR_filter {f : List D → D → R (List D)} (enc enc' : α → D) {b : α → Bool} : ∀ {xs : List α} {acc : List D}, acc.length + xs.length < 16777216 → (∀ acc x, x ∈ xs → acc.length < 16777216 → f acc (enc x) = Rk (if b x = true then acc ++ [enc' x] else acc)) →
    forR f acc (xs.map enc) = Rk (acc ++ (xs.filter b).map enc')
  | [], acc, _, _ => by simp [forR_nil]
  | x :: xs, acc, hl, h => by
    rw [List.length_cons] at hl
    rw [List.map_cons, forR_cons, h acc x (List.mem_cons_self ..) (by omega), bd_ok]
    cases e : b x with
    | true =>
      rw [if_pos rfl, forR_filter enc enc' (by rw [List.length_append]; simp; omega) fun acc y hy => h acc y (List.mem_cons_of_mem _ hy), List.filter_cons_of_pos e, List.map_cons, List.append_assoc]; rfl
    | false =>
      rw [if_neg Bool.false_ne_true, forR_filter enc enc' (by omega) fun acc y hy => h acc y (List.mem_cons_of_mem _ hy), List.filter_cons_of_neg (by rw [e]; exact Bool.false_ne_true)]
/-- a loop that extends by what each item gives -/
theorem forR_flatMap {f : List D → D → R (List D)} (enc : α → D) {g : α → List D} : ∀ {xs : List α} {acc : List D}, acc.length + (xs.flatMap g).length ≤ 16777216 → (∀ acc x, x ∈ xs → acc.length + (g x).length ≤ 16777216 → f acc (enc x) = Rk (acc ++ g x)) →
    forR f acc (xs.map enc) = Rk (acc ++ xs.flatMap g)
  | [], acc, _, _ => by simp [forR_nil]
  | x :: xs, acc, hl, h => by
    rw [List.flatMap_cons, List.length_append] at hl
    rw [List.map_cons, forR_cons, h acc x (List.mem_cons_self ..) (by omega), bd_ok,
      forR_flatMap enc (by rw [List.length_append]; omega) fun acc y hy => h acc y (List.mem_cons_of_mem _ hy), List.flatMap_cons, List.append_assoc]
/-- a loop within what follows, by what holds with the items left -/
theorem bd_forR {f : σ → D → R σ} {s : σ} {ds : List D} {k : σ → R β} {G : R β → Prop} (P : List D → σ → Prop) (h0 : P ds s) (hs : ∀ s d ds, P (d :: ds) s → ∃ s', f s d = Rk s' ∧ P ds s') (hk : ∀ s', P [] s' → G (k s')) : G (bd (forR f s ds) k) := by
  obtain ⟨s', e, h⟩ := forR_inv P hs h0
  rw [e, bd_ok]; exact hk s' h
theorem bd_forX {f : σ → D → R (Lo σ τ)} {s : σ} {ds : List D} {k : Lo σ τ → R β} {G : R β → Prop} (P : List D → σ → Prop) (h0 : P ds s) (hs : ∀ s d ds, P (d :: ds) s → ∃ s', f s d = Rk (.nx s') ∧ P ds s') (hk : ∀ s', P [] s' → G (k (.nx s'))) : G (bd (forX f s ds) k) := by
  obtain ⟨s', e, h⟩ := forX_inv P hs h0
  rw [e, bd_ok]; exact hk s' h
theorem bd_lcI {f : σ → D → R (Option D × σ)} {s : σ} {ds : List D} {k : List D × σ → R β} {G : R β → Prop} (P : List D → List D → σ → Prop) (h0 : P [] ds s) (hs : ∀ s d ds acc, P acc (d :: ds) s → ∃ o s', f s d = Rk (o, s') ∧ P (acc ++ o.toList) ds s') (hl : ds.length ≤ 16777216)
    (hk : ∀ es s', es.length ≤ ds.length → P es [] s' → G (k (es, s'))) : G (bd (bd (lcI f s ds) capI) k) := by
  obtain ⟨es, s', e, h, hn⟩ := lcI_inv P hs h0
  rw [e, bd_ok, capI_ok (Nat.le_trans hn hl), bd_ok]
  exact hk es s' hn (by simpa using h)
/-- a comprehension that changes lists, turn by turn -/
theorem lcI_nil {f : σ → D → R (Option D × σ)} {s : σ} : lcI f s [] = Rk ([], s) := rfl
theorem lcI_some {f : σ → D → R (Option D × σ)} {s s1 s2 : σ} {d y : D} {ds es : List D} (h : f s d = Rk (some y, s1)) (t : lcI f s1 ds = Rk (es, s2)) : lcI f s (d :: ds) = Rk (y :: es, s2) := by
  unfold lcI
  rw [h, quiet_ok, bd_ok]
  dsimp only
  rw [t, bd_ok]
theorem lcI_none {f : σ → D → R (Option D × σ)} {s s1 s2 : σ} {d : D} {ds es : List D} (h : f s d = Rk (none, s1)) (t : lcI f s1 ds = Rk (es, s2)) : lcI f s (d :: ds) = Rk (es, s2) := by
  unfold lcI
  rw [h, quiet_ok, bd_ok]
  dsimp only
  rw [t, bd_ok]
end
/-! small numbers as data -/
def natD (n : Nat) : D := .int n
theorem good_nat {n : Nat} (h : n < 2 ^ 100) : Good 0 1002 (natD n) := good_int (by
  have : ((n : Nat) : Int).natAbs = n := by simp
  rw [this]
  exact Nat.lt_trans h (by decide))
theorem rngF_map {n : Nat} (h : n < 2 ^ 60) : rngF [.int n] = some ((List.range n).map natD) := rngF_n h
theorem eqv_nat {m n : Nat} : PyData.eqv (natD m) (natD n) = decide (m = n) := by
  simp only [natD, PyData.eqv]
  by_cases h : m = n
  · subst h; simp
  · rw [decide_eq_false h]; exact beq_eq_false_iff_ne.mpr fun e => h (by omega)
theorem flat_nat (l : List Nat) : (l.map natD).all flatD = true := by
  rw [List.all_map]
  simp [natD, flatD, List.all_eq_true, Function.comp]
theorem inX_nats {n : Nat} {l : List Nat} : inX (natD n) (.tuple (l.map natD)) = some (.bool (l.contains n)) := by
  unfold inX
  dsimp only
  rw [flat_nat, show flatD (natD n) = true from rfl, Bool.and_self, if_pos rfl, List.any_map]
  congr 2
  induction l with
  | nil => rfl
  | cons a l ih =>
    rw [List.any_cons, List.contains_cons, ih, Function.comp, eqv_nat]
    congr 1
    by_cases h : a = n
    · subst h; simp
    · rw [decide_eq_false h]; exact (beq_eq_false_iff_ne.mpr fun e => h e.symm).symm
theorem ninX_nats {n : Nat} {l : List Nat} : ninX (natD n) (.tuple (l.map natD)) = some (.bool (!l.contains n)) := by
  have h := inX_nats (n := n) (l := l)
  unfold inX at h
  unfold ninX
  dsimp only at h ⊢
  rw [flat_nat, show flatD (natD n) = true from rfl, Bool.and_self, if_pos rfl] at h ⊢
  have := Option.some.inj h
  injection this with this
  rw [this]
theorem modD_n {m n : Nat} (h : 0 < n) : modD (natD m) (.int n) = some (natD (m % n)) := by
  unfold natD; rw [modD_i (by omega)]; simp
theorem fdivD_n {m n : Nat} (h : 0 < n) (h2 : n < 2 ^ 64) : fdivD (natD m) (.int n) = some (natD (m / n)) := by
  unfold natD
  rw [fdivD_i (by omega) (by
    have : ((n : Nat) : Int).natAbs = n := by simp
    rw [this]; exact Nat.lt_trans h2 (by decide))]
  simp
theorem mulX_n {m n : Nat} (h : n < 2 ^ 64) : mulX (natD m) (.int n) = some (natD (m * n)) := by
  unfold natD; rw [mulX_r (by omega)]; simp
theorem addD_n {m n : Nat} : addD (natD m) (natD n) = some (natD (m + n)) := by
  unfold natD; rw [addD_i]; simp
end DL

set_option Elab.async false
set_option linter.all false
set_option maxRecDepth 100000
set_option maxHeartbeats 4000000
/-! MD: what is drawn. -/
namespace LK
open PySem PySem.Spec PyProof.Rows L2 DL
def Wl (n : Nat) (w : List D) : Prop := ∃ a b c : Int, w = [.int a, .int b, .int c] ∧ 0 ≤ a ∧ 0 ≤ b ∧ b < 2 ^ 100 ∧ 0 ≤ c ∧ c + n < 2 ^ 60
theorem Wl.less {n m : Nat} {w : List D} (h : Wl n w) (hm : m ≤ n) : Wl m w := by
  obtain ⟨a, b, c, e, h1, h2, h3, h4, h5⟩ := h
  exact ⟨a, b, c, e, h1, h2, h3, h4, by omega⟩
theorem mod_lt {i j : Int} (h : 0 < j) : 0 ≤ i % j ∧ i % j < j := ⟨Int.emod_nonneg _ (by omega), Int.emod_lt_of_pos _ h⟩
theorem stR_0 {a d : D} {l : List D} : stR (a :: l) d (.int 0) = Rk (d :: l) := by
  unfold stR; dsimp only
  rw [show ixN (a :: l).length 0 = some 0 from ixN_nat (k := 0) (by simp)]; rfl
theorem stR_2 {a b c d : D} {l : List D} : stR (a :: b :: c :: l) d (.int 2) = Rk (a :: b :: d :: l) := by
  unfold stR; dsimp only
  rw [show ixN (a :: b :: c :: l).length 2 = some 2 from ixN_nat (k := 2) (by simp)]; rfl
theorem pow29 : powD (.int 10) (.int 29) = some (.int (10 ^ 29)) := powD_n 29 (by decide)
theorem pow31 : powD (.int 10) (.int 31) = some (.int (10 ^ 31)) := powD_n 31 (by decide)
theorem pow33 : powD (.int 10) (.int 33) = some (.int (10 ^ 33)) := powD_n 33 (by decide)
theorem pow19 : powD (.int 10) (.int 19) = some (.int (10 ^ 19)) := powD_n 19 (by decide)
theorem pow25 : powD (.int 10) (.int 25) = some (.int (10 ^ 25)) := powD_n 25 (by decide)
theorem pow28 : powD (.int 10) (.int 28) = some (.int (10 ^ 28)) := powD_n 28 (by decide)
theorem pow18 : powD (.int 10) (.int 18) = some (.int (10 ^ 18)) := powD_n 18 (by decide)
theorem draw {n : Nat} {w : List D} (hw : Wl (n + 1) w) (many : Int) (hm : 0 < many) (hz : many.natAbs < 2 ^ 1000) :
    ∃ r w', p__law_draw w (.int many) = Rk (.int r, w') ∧ 0 ≤ r ∧ r < many ∧ Wl n w' := by
  obtain ⟨a, b, c, rfl, h1, h2, h3, h4, h5⟩ := hw
  unfold p__law_draw
  simp only [ix_l0, lf_some, bd_ok, gtD_i, bl_b]
  by_cases ha : 0 < a
  · rw [decide_eq_true ha, if_pos rfl]
    simp only [ix_l0, lf_some, bd_ok, intF_i, modD_i hm, fdivD_i hm hz, stR_0]
    exact ⟨_, _, rfl, (mod_lt hm).1, (mod_lt hm).2, a / many, b, c, rfl, Int.ediv_nonneg h1 (by omega), h2, h3, h4, by omega⟩
  · rw [decide_eq_false ha, if_neg Bool.false_ne_true]
    simp only [ix_l2, ix_l1, lf_some, bd_ok, addD_i, stR_2]
    rw [mulX_r (i := b + 31) (j := c + 1 + 5) (by omega), mulX_r (i := c + 1) (j := c + 1) (by omega)]
    simp only [lf_some, bd_ok]
    rw [mulX_r (j := 998244353) (by decide), mulX_r (j := c + 1) (by omega)]
    simp only [lf_some, bd_ok]
    rw [mulX_r (j := 424242427) (by decide)]
    simp only [lf_some, bd_ok, addD_i, intF_i, pow29]
    rw [modD_i (by decide)]
    simp only [lf_some, bd_ok]
    have m1 := mod_lt (i := (b + 31) * (c + 1 + 5) * 998244353 + (c + 1) * (c + 1) * (c + 1) * 424242427 + 77) (j := 10 ^ 29 + 319) (by decide)
    generalize ((b + 31) * (c + 1 + 5) * 998244353 + (c + 1) * (c + 1) * (c + 1) * 424242427 + 77) % (10 ^ 29 + 319) = x1 at m1 ⊢
    rw [mulX_b (i := x1) (j := x1) (by omega) (by omega), mulX_r (j := 7) (by decide)]
    simp only [lf_some, bd_ok, addD_i, intF_i, pow31]
    rw [modD_i (by decide)]
    simp only [lf_some, bd_ok]
    have m2 := mod_lt (i := x1 * x1 + b * 7 + (c + 1)) (j := 10 ^ 31 + 33) (by decide)
    generalize (x1 * x1 + b * 7 + (c + 1)) % (10 ^ 31 + 33) = x2 at m2 ⊢
    rw [mulX_b (i := x2) (j := x2) (by omega) (by omega)]
    simp only [lf_some, bd_ok]
    rw [mulX_r (j := 3) (by decide), mulX_r (j := 11) (by decide)]
    simp only [lf_some, bd_ok, addD_i, intF_i, pow33]
    rw [modD_i (by decide)]
    simp only [lf_some, bd_ok]
    rw [fdivD_i (by decide) (by decide)]
    simp only [lf_some, bd_ok, intF_i, modD_i hm]
    exact ⟨_, _, rfl, (mod_lt hm).1, (mod_lt hm).2, a, b, c + 1, rfl, h1, h2, h3, by omega, by omega⟩
/-- the well of a cell -/
theorem well_fold (ns : List Int) : ∀ w0 : Int, w0.natAbs < 2 ^ 200 → ∃ w : Int, w.natAbs < 2 ^ 200 ∧ forR (fun (s20 : D) d21 => (bd ((bd ((bd ((bd ((lf (mulX s20 (.int (5323))))) fun v33 => bd ((bd ((lf (intF [d21]))) fun v31 => bd ((bd ((lf (powD (.int (10)) (.int (19))))) fun v29 => lf (addD v29 (.int (51))))) fun v32 => lf (modD v31 v32))) fun v34 => lf (addD v33 v34))) fun v35 => lf (intF [v35]))) fun v40 => bd ((bd ((lf (powD (.int (10)) (.int (25))))) fun v38 => lf (addD v38 (.int (13))))) fun v41 => lf (modD v40 v41))) fun whole42 => (Rk whole42))) (.int w0) (ns.map PyData.int) = Rk (.int w) := by
  induction ns with
  | nil => exact fun w0 h => ⟨w0, h, rfl⟩
  | cons x ns ih =>
    intro w0 h
    rw [List.map_cons, forR_cons]
    rw [mulX_r (j := 5323) (by decide)]
    simp only [lf_some, bd_ok, intF_i, pow19, addD_i, pow25]
    rw [modD_i (by decide)]
    simp only [lf_some, bd_ok, intF_i, addD_i]
    rw [modD_i (by decide)]
    simp only [lf_some, bd_ok]
    have m1 := mod_lt (i := w0 * 5323 + x % (10 ^ 19 + 51)) (j := 10 ^ 25 + 13) (by decide)
    exact ih _ (by omega)
theorem well (ns : List Int) (k : Nat) (hk : k < 100) (hl : ns.length ≤ 63) : ∃ w, p__law_well (.list (ns.map PyData.int)) (.int k) = Rk w ∧ Wl 1000000 w := by
  unfold p__law_well
  simp only [lf_some, bd_ok, lenF_l, ltD_i, bl_b, List.length_map]
  obtain ⟨cell, hc⟩ : ∃ cell : Int, (if (decide ((k : Int) < (ns.length : Int))) = true then (bd ((lf (ixD (.list (ns.map PyData.int)) (.int k)))) fun v8 => lf (intF [v8])) else (bd ((lf (mulX (.int (71)) (.int k)))) fun v11 => lf (addD v11 (.int (37))))) = Rk (.int cell) := by
    by_cases h : (k : Int) < (ns.length : Int)
    · rw [if_pos (decide_eq_true h), ix_ln (by rw [List.length_map]; omega)]
      simp only [lf_some, bd_ok, List.getElem_map, intF_i]
      exact ⟨_, rfl⟩
    · rw [if_neg (by simpa using h), mulX_l (by decide)]
      simp only [lf_some, bd_ok, addD_i]
      exact ⟨_, rfl⟩
  rw [hc]
  simp only [lf_some, bd_ok, addD_i, itR'_l]
  obtain ⟨w1, hw1, e1⟩ := well_fold ns (29 + ns.length) (by omega)
  rw [e1]
  simp only [lf_some, bd_ok, absF_i, ltD_i, intF_b]
  rw [mulX_r (j := 7129) (by decide), mulX_r (j := 41) (by decide), mulX_l (i := 3) (by decide), mulX_l (i := 61) (by decide)]
  simp only [lf_some, bd_ok, addD_i, intF_i, pow28]
  rw [modD_i (by decide)]
  simp only [lf_some, bd_ok, pow18, subD_i, maxF_i]
  generalize hx : (if cell < 0 then -cell else cell) * 7129 + w1 * 41 + 3 * (if decide (cell < 0) = true then 1 else 0) + 61 * (k : Int) = x
  have m1 := mod_lt (i := x) (j := 10 ^ 28 + 331) (by decide)
  exact ⟨_, rfl, _, _, 0, rfl, by split <;> omega, m1.1, by omega, by omega, by omega⟩
end LK

set_option Elab.async false
set_option linter.all false
set_option maxRecDepth 100000
set_option maxHeartbeats 4000000
/-! MA: objects built anew, what plain values are. -/
namespace LK
open PySem PySem.Spec PyProof.Rows L2 DL
theorem anew_ok : ∀ (k : Nat) (d : D), d.depth < k → rz d ≤ 16777216 → p_anew k d = Rk d
  | 0, d, h, _ => absurd h (Nat.not_lt_zero _)
  | k + 1, d, h, hz => by
    unfold p_anew
    simp only [bd_ok, isXd_list, bl_b, isXd_tuple]
    cases d with
    | list ds =>
      rw [PyData.depth] at h; rw [rz] at hz
      simp only [dLst, if_true, itR'_l, bd_ok]
      have hm : mapR (fun d => p_anew k d) ds = Rk (ds.map id) := mapR_ok (fun d hd => anew_ok k d (by have := mem_depthAll hd; omega) (by have := mem_rzAll hd; omega)) (by have := len_le_rzAll ds; omega)
      rw [hm, List.map_id, bd_ok]
    | tuple ds =>
      rw [PyData.depth] at h; rw [rz] at hz
      simp only [dLst, dTup, if_true, Bool.false_eq_true, if_false, itR'_t, bd_ok]
      have hm : mapR (fun d => p_anew k d) ds = Rk (ds.map id) := mapR_ok (fun d hd => anew_ok k d (by have := mem_depthAll hd; omega) (by have := mem_rzAll hd; omega)) (by have := len_le_rzAll ds; omega)
      rw [hm, List.map_id, bd_ok]
      simp only [bd_ok, lf_some, tupleF_l]
    | _ => simp only [dLst, dTup, Bool.false_eq_true, if_false]
def btw (lo hi : Int) : D → Bool
  | .int i => decide (lo ≤ i) && decide (i ≤ hi)
  | _ => false
theorem is_between (d : D) (lo hi : Int) : p_is_between d (.int lo) (.int hi) = Rk (.bool (btw lo hi d)) := by
  unfold p_is_between p_is_integer
  cases d with
  | int i =>
    simp only [bd_ok, isXd_int, isXd_bool, bl_b, dIntB, dBool, if_true, Bool.not_false, lf_some, leD_i, btw]
    by_cases h : lo ≤ i
    · rw [decide_eq_true h]; simp
    · rw [decide_eq_false h]; simp
  | _ => simp [bd_ok, isXd_int, isXd_bool, bl_b, dIntB, dBool, btw]
theorem law_is_int (d : D) (lo hi : Int) : p__law_is_int d (.int lo) (.int hi) = Rk (.bool (btw lo hi d)) := by
  unfold p__law_is_int
  cases d with
  | int i =>
    simp only [bd_ok, isXd_int, isXd_bool, bl_b, dIntB, dBool, if_true, Bool.not_false, lf_some, leD_i, btw]
    by_cases h : lo ≤ i
    · rw [decide_eq_true h]; simp
    · rw [decide_eq_false h]; simp
  | _ => simp [bd_ok, isXd_int, isXd_bool, bl_b, dIntB, dBool, btw]
def tupLen (lo hi : Int) : D → Bool
  | .tuple ds => decide (lo ≤ ds.length) && decide ((ds.length : Int) ≤ hi)
  | _ => false
theorem is_tuple (d : D) (lo hi : Int) : p_is_tuple d (.int lo) (.int hi) = Rk (.bool (tupLen lo hi d)) := by
  unfold p_is_tuple
  cases d with
  | tuple ds =>
    simp only [bd_ok, isXd_tuple, bl_b, dTup, if_true, lf_some, leD_i, lenF_t, tupLen]
    by_cases h : lo ≤ (ds.length : Int)
    · rw [decide_eq_true h]; simp
    · rw [decide_eq_false h]; simp
  | _ => simp [bd_ok, isXd_tuple, bl_b, dTup, tupLen]
theorem need_number_ok {i lo hi : Int} (h1 : lo ≤ i) (h2 : i ≤ hi) : p_need_number (.int i) (.int lo) (.int hi) = Rk .none := by
  unfold p_need_number
  simp only [lf_some, bd_ok, ltD_i, bl_b, isN_i, gtD_i, if_true, Bool.not_false]
  rw [decide_eq_false (by omega), decide_eq_false (by omega)]
  rfl
theorem need_number_bad {i lo hi : Int} (h : i < lo ∨ hi < i) : p_need_number (.int i) (.int lo) (.int hi) = Rx ("InvalidNumber", .int i) := by
  unfold p_need_number
  simp only [lf_some, bd_ok, ltD_i, bl_b, isN_i, gtD_i, if_true, Bool.not_false]
  by_cases h1 : i < lo
  · rw [decide_eq_true h1]; rfl
  · rw [decide_eq_false h1, decide_eq_true (by omega : hi < i)]; rfl
/-! ascending tuples -/
def ups : List D → Bool
  | .int i :: .int j :: ds => decide (i < j) && ups (.int j :: ds)
  | _ => true
def asc (lo hi : Int) : D → Bool
  | .tuple ds => ds.all (btw lo hi) && ups ds
  | _ => false
theorem btw_int {lo hi : Int} {d : D} (h : btw lo hi d = true) : ∃ i, d = .int i ∧ lo ≤ i ∧ i ≤ hi := by
  cases d with
  | int i => simp only [btw, Bool.and_eq_true, decide_eq_true_eq] at h; exact ⟨i, rfl, h.1, h.2⟩
  | _ => cases h
theorem all_ints {lo hi : Int} : ∀ {ds : List D}, ds.all (btw lo hi) = true → ∃ is : List Int, ds = is.map PyData.int
  | [], _ => ⟨[], rfl⟩
  | d :: ds, h => by
    rw [List.all_cons, Bool.and_eq_true] at h
    obtain ⟨i, rfl, _⟩ := btw_int h.1
    obtain ⟨is, rfl⟩ := all_ints h.2
    exact ⟨i :: is, rfl⟩
def upsI : List Int → Bool
  | i :: j :: is => decide (i < j) && upsI (j :: is)
  | _ => true
theorem ups_map : ∀ is : List Int, ups (is.map PyData.int) = upsI is
  | [] => rfl
  | [i] => rfl
  | i :: j :: is => by
    show (decide (i < j) && ups ((j :: is).map PyData.int)) = _
    rw [ups_map (j :: is)]; rfl
theorem ups_pairs : ∀ is : List Int, ((is.zip (is.drop 1)).all fun p => decide (p.1 < p.2)) = upsI is
  | [] => rfl
  | [i] => rfl
  | i :: j :: is => by
    have := ups_pairs (j :: is)
    show ((i, j) :: (j :: is).zip is).all _ = _
    rw [List.all_cons]
    show (decide (i < j) && _) = (decide (i < j) && upsI (j :: is))
    rw [← this]; rfl
theorem slF_1 {ds : List D} : slF (.tuple ds) (some 1) none = some (.tuple (ds.drop 1)) := by
  show some (PyData.tuple (DL.cutD ds (some 1) none)) = _
  unfold DL.cutD
  congr 2
  cases ds with
  | nil => simp
  | cons d ds =>
    have : HT.sIx (d :: ds).length 0 (some 1) = 1 := by
      unfold HT.sIx
      simp
    have h2 : HT.sIx (d :: ds).length (d :: ds).length none = (d :: ds).length := rfl
    rw [this, h2]
    simp
theorem map_pairs {is : List Int} (hl : is.length ≤ 16777216) : mapR (fun d7 => bd (un2 d7) fun t8 => (lf (ltD t8.1 t8.2))) (zipD (is.map PyData.int) ((is.map PyData.int).drop 1)) = Rk (((is.zip (is.drop 1)).map fun p => decide (p.1 < p.2)).map PyData.bool) := by
  rw [← List.map_drop, zipD_map, mapR_enc (h := fun p => PyData.bool (decide (p.1 < p.2))) (fun p : Int × Int => PyData.tuple [.int p.1, .int p.2])]
  · rw [List.map_map]; rfl
  · intro p _; simp only [un2_t, bd_ok, ltD_i, lf_some]
  · rw [List.length_zip]; omega
theorem all_id {α : Type} {f : α → Bool} {xs : List α} : (xs.map f).all id = xs.all f := by rw [List.all_map]; rfl
theorem are_rising {is : List Int} (hl : is.length ≤ 16777216) : p_are_rising (.tuple (is.map PyData.int)) = Rk (.bool (upsI is)) := by
  unfold p_are_rising
  simp only [bd_ok, itR_i, slF_1, lf_some, zipF_t]
  rw [map_pairs hl]
  simp only [bd_ok, allF_bools, lf_some]
  rw [all_id, ups_pairs]
theorem map_btw {ds : List D} {lo hi : Int} {g : D → R D} (hg : ∀ d, g d = Rk (.bool (btw lo hi d))) (hl : ds.length ≤ 16777216) : mapR g ds = Rk ((ds.map (btw lo hi)).map PyData.bool) := by
  rw [mapR_ok (h := fun d => .bool (btw lo hi d)) (fun d _ => hg d) hl, List.map_map]; rfl
theorem is_ascending {d : D} {lo hi : Int} (hl : ∀ ds, d = .tuple ds → ds.length ≤ 16777216) : p_is_ascending d (.int lo) (.int hi) = Rk (.bool (asc lo hi d)) := by
  unfold p_is_ascending
  cases d with
  | tuple ds =>
    simp only [bd_ok, isXd_tuple, bl_b, dTup, if_true, itR'_t]
    rw [map_btw (fun d => is_between d lo hi) (hl ds rfl)]
    simp only [bd_ok, allF_bools, lf_some, bl_b]
    rw [all_id]
    unfold asc
    dsimp only
    cases h : ds.all (btw lo hi) with
    | false => simp
    | true =>
      obtain ⟨is, rfl⟩ := all_ints h
      rw [if_pos rfl, are_rising (by simpa using hl _ rfl), ups_map]; rfl
  | _ => simp [bd_ok, isXd_tuple, bl_b, dTup, asc]
theorem law_rises {d : D} {lo hi : Int} (hl : ∀ ds, d = .tuple ds → ds.length ≤ 16777216) : p__law_rises d (.int lo) (.int hi) = Rk (.bool (asc lo hi d)) := by
  unfold p__law_rises
  cases d with
  | tuple ds =>
    simp only [bd_ok, isXd_tuple, bl_b, dTup, Bool.not_true, Bool.false_eq_true, if_false, itR'_t]
    rw [map_btw (fun d => law_is_int d lo hi) (hl ds rfl)]
    simp only [bd_ok, inX_false, lf_some, bl_b]
    rw [all_id]
    unfold asc
    dsimp only
    cases h : ds.all (btw lo hi) with
    | false => simp
    | true =>
      obtain ⟨is, rfl⟩ := all_ints h
      have hl' : is.length ≤ 16777216 := by simpa using hl _ rfl
      simp only [Bool.not_true, Bool.false_eq_true, if_false, itR_i, bd_ok, slF_1, lf_some, zipF_t]
      rw [map_pairs hl']
      simp only [bd_ok, ninX_false, lf_some]
      rw [all_id, ups_pairs, ups_map]; rfl
  | _ => simp [bd_ok, isXd_tuple, bl_b, dTup, asc]
end LK

set_option Elab.async false
set_option linter.all false
namespace T27
/-! the tuples of places of parties of so many places, in ascending order -/
abbrev Party := Nat × Nat
def prodN (ps : List Party) : Nat := ps.foldl (fun a p => a * p.1) 1
def spotsL (ps : List Party) : List (List Nat) := ps.foldl (fun rows p => rows.flatMap fun r => (List.range p.1).map fun i => r ++ [i]) [[]]
def dgR : List Party → Nat → List Nat
  | [], _ => []
  | p :: ps, k => (k % p.1) :: dgR ps (k / p.1)
def digits (ps : List Party) (k : Nat) : List Nat := (dgR ps.reverse k).reverse
def idx (ps : List Party) (r : List Nat) : Nat := (ps.zip r).foldl (fun a q => a * q.1.1 + q.2) 0
theorem prodN_snoc (ps : List Party) (p : Party) : prodN (ps ++ [p]) = prodN ps * p.1 := by simp [prodN]
theorem spotsL_snoc (ps : List Party) (p : Party) : spotsL (ps ++ [p]) = (spotsL ps).flatMap fun r => (List.range p.1).map fun i => r ++ [i] := by simp [spotsL]
theorem digits_snoc (ps : List Party) (p : Party) (k : Nat) : digits (ps ++ [p]) k = digits ps (k / p.1) ++ [k % p.1] := by
  unfold digits
  rw [List.reverse_append]
  show (dgR (p :: ps.reverse) k).reverse = _
  rw [dgR, List.reverse_cons]
theorem dgR_len : ∀ (ps : List Party) (k : Nat), (dgR ps k).length = ps.length
  | [], _ => rfl
  | p :: ps, k => by rw [dgR, List.length_cons, List.length_cons, dgR_len]
theorem digits_len (ps : List Party) (k : Nat) : (digits ps k).length = ps.length := by
  unfold digits; rw [List.length_reverse, dgR_len, List.length_reverse]
theorem range_mul {α : Type} (g : Nat → Nat → α) (n : Nat) (hn : 0 < n) : ∀ P : Nat, (List.range (P * n)).map (fun k => g (k / n) (k % n)) = (List.range P).flatMap fun q => (List.range n).map (g q)
  | 0 => by simp
  | P + 1 => by
    rw [Nat.succ_mul, List.range_add, List.map_append, range_mul g n hn P, List.range_succ, List.flatMap_append, List.map_map]
    congr 1
    rw [List.flatMap_cons, List.flatMap_nil, List.append_nil]
    refine List.map_congr_left fun i hi => ?_
    have hi := List.mem_range.mp hi
    show g ((P * n + i) / n) ((P * n + i) % n) = g P i
    rw [Nat.mul_comm P n, Nat.mul_add_div hn, Nat.mul_add_mod, Nat.div_eq_of_lt hi, Nat.mod_eq_of_lt hi, Nat.add_zero]
theorem snoc_ind {α : Type} {P : List α → Prop} (h0 : P []) (h1 : ∀ l a, P l → P (l ++ [a])) (l : List α) : P l := by
  have : ∀ l : List α, P l.reverse := fun l => by
    induction l with
    | nil => exact h0
    | cons a l ih => rw [List.reverse_cons]; exact h1 _ _ ih
  rw [← List.reverse_reverse l]; exact this _
theorem spots_eq (ps : List Party) (h : ∀ p ∈ ps, 1 ≤ p.1) : spotsL ps = (List.range (prodN ps)).map (digits ps) := by
  refine snoc_ind (P := fun ps => (∀ p ∈ ps, 1 ≤ p.1) → spotsL ps = (List.range (prodN ps)).map (digits ps)) (fun _ => by simp [spotsL, prodN, digits, dgR]) (fun l p ih h => ?_) ps h
  rw [spotsL_snoc, ih fun q hq => h q (List.mem_append_left _ hq), prodN_snoc]
  have hp : 0 < p.1 := h p (List.mem_append_right _ (List.mem_singleton.mpr rfl))
  have := range_mul (fun q i => digits l q ++ [i]) p.1 hp (prodN l)
  rw [List.flatMap_map, ← this]
  exact List.map_congr_left fun k _ => (digits_snoc l p k).symm
theorem idx_snoc (ps : List Party) (r : List Nat) (p : Party) (i : Nat) (hl : r.length = ps.length) : idx (ps ++ [p]) (r ++ [i]) = idx ps r * p.1 + i := by
  unfold idx
  rw [List.zip_append hl.symm, List.foldl_append]; rfl
theorem idx_digits (ps : List Party) (h : ∀ p ∈ ps, 1 ≤ p.1) : ∀ k, k < prodN ps → idx ps (digits ps k) = k := by
  refine snoc_ind (P := fun ps => (∀ p ∈ ps, 1 ≤ p.1) → ∀ k, k < prodN ps → idx ps (digits ps k) = k) (fun _ k hk => ?_) (fun l p ih h k hk => ?_) ps h
  · have : k = 0 := by simp [prodN] at hk; exact hk
    subst this; rfl
  · have hp : 0 < p.1 := h p (List.mem_append_right _ (List.mem_singleton.mpr rfl))
    rw [digits_snoc, idx_snoc _ _ _ _ (digits_len _ _), ih (fun q hq => h q (List.mem_append_left _ hq)) _ (by
      rw [prodN_snoc] at hk
      exact Nat.div_lt_of_lt_mul (by rw [Nat.mul_comm]; exact hk))]
    rw [Nat.mul_comm]; exact Nat.div_add_mod k p.1
theorem digits_lt (ps : List Party) (h : ∀ p ∈ ps, 1 ≤ p.1) (k : Nat) : ∀ q ∈ ps.zip (digits ps k), q.2 < q.1.1 := by
  refine snoc_ind (P := fun ps => (∀ p ∈ ps, 1 ≤ p.1) → ∀ k, ∀ q ∈ ps.zip (digits ps k), q.2 < q.1.1) (fun _ k q hq => by simp at hq) (fun l p ih h k q hq => ?_) ps h k
  have hp : 0 < p.1 := h p (List.mem_append_right _ (List.mem_singleton.mpr rfl))
  rw [digits_snoc, List.zip_append (digits_len _ _).symm] at hq
  rcases List.mem_append.mp hq with hq | hq
  · exact ih (fun q hq => h q (List.mem_append_left _ hq)) _ q hq
  · simp at hq; subst hq; exact Nat.mod_lt _ hp
theorem digits_lt2 (ps : List Party) (h : ∀ p ∈ ps, 1 ≤ p.1) (k : Nat) : ∀ q ∈ (digits ps k).zip ps, q.1 < q.2.1 := by
  refine snoc_ind (P := fun ps => (∀ p ∈ ps, 1 ≤ p.1) → ∀ k, ∀ q ∈ (digits ps k).zip ps, q.1 < q.2.1) (fun _ k q hq => by simp at hq) (fun l p ih h k q hq => ?_) ps h k
  have hp : 0 < p.1 := h p (List.mem_append_right _ (List.mem_singleton.mpr rfl))
  rw [digits_snoc, List.zip_append (digits_len _ _)] at hq
  rcases List.mem_append.mp hq with hq | hq
  · exact ih (fun q hq => h q (List.mem_append_left _ hq)) _ q hq
  · simp at hq; subst hq; exact Nat.mod_lt _ hp
theorem spots_len (ps : List Party) (h : ∀ p ∈ ps, 1 ≤ p.1) : (spotsL ps).length = prodN ps := by rw [spots_eq ps h]; simp
theorem prod_pos (ps : List Party) (h : ∀ p ∈ ps, 1 ≤ p.1) : 1 ≤ prodN ps := by
  refine snoc_ind (P := fun ps => (∀ p ∈ ps, 1 ≤ p.1) → 1 ≤ prodN ps) (fun _ => by simp [prodN]) (fun l p ih h => ?_) ps h
  rw [prodN_snoc]
  have hp : 0 < p.1 := h p (List.mem_append_right _ (List.mem_singleton.mpr rfl))
  exact Nat.mul_pos (ih fun q hq => h q (List.mem_append_left _ hq)) hp
end T27

set_option Elab.async false
set_option linter.all false
set_option maxRecDepth 100000
set_option maxHeartbeats 4000000
namespace LK
open PySem PySem.Spec PyProof.Rows L2 DL T27
def partyD (p : Party) : D := .tuple [natD p.1, .tuple [], .tuple [natD p.2, .tuple []]]
def teamD (ps : List Party) : D := .tuple [.tuple [], .tuple (ps.map partyD)]
structure TOk (ps : List Party) : Prop where
  each : ∀ p ∈ ps, 1 ≤ p.1 ∧ p.1 ≤ 12 ∧ p.2 < p.1
  prod : prodN ps ≤ 400
  len : 1 ≤ ps.length ∧ ps.length ≤ 4
theorem TOk.pos {ps : List Party} (h : TOk ps) : ∀ p ∈ ps, 1 ≤ p.1 := fun p hp => (h.each p hp).1
def rowD (r : List Nat) : D := .tuple (r.map natD)
theorem ix_team (ps : List Party) : ixD (teamD ps) (.int 1) = some (.tuple (ps.map partyD)) := ix_t1
theorem ix_party (p : Party) : ixD (partyD p) (.int 0) = some (.int p.1) := ix_t0
theorem is_party_ok {p : Party} (h : 1 ≤ p.1 ∧ p.1 ≤ 12 ∧ p.2 < p.1) : p_is_party (partyD p) (.int 0) = Rk (.bool true) := by
  have e0 : ixD (partyD p) (.int 0) = some (.int p.1) := ix_t0
  have e1 : ixD (partyD p) (.int 1) = some (.tuple []) := ix_t1
  have e2 : ixD (partyD p) (.int 2) = some (.tuple [natD p.2, .tuple []]) := ix_t2
  have h3 : tupLen 3 3 (partyD p) = true := by simp [tupLen, partyD]
  have h4 : btw 1 12 (.int p.1) = true := by simp [btw]; omega
  have h5 : tupLen 0 40 (.tuple []) = true := by simp [tupLen]
  unfold p_is_party
  simp only [is_tuple, e0, e1, e2, h3, h4, h5, lf_some, bd_ok, bl_b, is_between, Bool.not_true, Bool.false_eq_true, if_false, itR'_t, mapR_nil]
  rw [show allF [.list []] = some (.bool true) from rfl]
  simp only [lf_some, bd_ok, bl_b, Bool.not_true, Bool.false_eq_true, if_false]
  unfold p_is_begin
  have h6 : tupLen 2 2 (.tuple [natD p.2, .tuple []]) = true := by simp [tupLen]
  have h7 : btw 0 ((p.1 : Int) - 1) (natD p.2) = true := by simp [btw, natD]; omega
  simp only [is_tuple, h6, bd_ok, bl_b, if_true, ix_t0, ix_t1, lf_some, subD_i, is_between, h7]
  rw [is_ascending (fun ds e => by cases e; exact Nat.zero_le _)]
  rfl
theorem product_ok (ps : List Party) (h : ∀ p ∈ ps, p.1 ≤ 12) : p_product_of (teamD ps) = Rk (.int (prodN ps)) := by
  unfold p_product_of
  simp only [ix_team, lf_some, bd_ok, itR'_t]
  rw [show (PyData.int 1 : D) = natD 1 from rfl, forR_enc (g := fun (a : Nat) (p : Party) => a * p.1) natD partyD]
  · rfl
  · intro b p hp
    simp only [ix_party, lf_some, bd_ok, natD]
    rw [imulD_r (by have := h p hp; omega)]
    simp only [lf_some, bd_ok]
    congr 2
theorem is_team_ok {ps : List Party} (h : TOk ps) : p_is_a_team (teamD ps) = Rk (.bool true) := by
  unfold p_is_a_team
  have h2 : tupLen 2 2 (teamD ps) = true := by simp [tupLen, teamD]
  have e0 : ixD (teamD ps) (.int 0) = some (.tuple []) := ix_t0
  have h3 : tupLen 1 4 (.tuple (ps.map partyD)) = true := by
    have := h.len
    simp [tupLen]; omega
  have ht : p_are_timers (.tuple []) = Rk (.bool true) := by
    unfold p_are_timers
    simp only [is_tuple, show tupLen 0 6 (.tuple []) = true by simp [tupLen], bd_ok, bl_b, if_true, itR'_t, mapR_nil]
    rfl
  simp only [is_tuple, h2, h3, e0, ht, ix_team, lf_some, bd_ok, bl_b, Bool.not_true, Bool.false_eq_true, if_false, itR'_t, lenF_t, List.length_nil]
  have hm : mapR (fun d18 => p_is_party d18 (.int ((0 : Nat) : Int))) (ps.map partyD) = Rk ((ps.map fun _ => true).map PyData.bool) := by
    rw [mapR_enc (h := fun _ => PyData.bool true) partyD (fun p hp => is_party_ok (h.each p hp)) (by have := h.len; omega), List.map_map]; rfl
  rw [hm]
  simp only [bd_ok, allF_bools, lf_some, bl_b, all_id]
  have : (ps.all fun _ => true) = true := by simp
  rw [this]
  simp only [Bool.not_true, Bool.false_eq_true, if_false, bd_ok]
  rw [product_ok ps fun p hp => (h.each p hp).2.1]
  simp only [bd_ok, leD_i, lf_some]
  rw [decide_eq_true (by have := h.prod; omega)]
theorem need_team_ok {ps : List Party} (h : TOk ps) : p_need_team (teamD ps) = Rk .none := by
  unfold p_need_team
  simp only [is_team_ok h, bd_ok, bl_b, Bool.not_true, Bool.false_eq_true, if_false]
theorem index_ok (ps : List Party) (r : List Nat) (h : ∀ p ∈ ps, p.1 ≤ 12) : p_index_of (teamD ps) (rowD r) = Rk (.int (idx ps r)) := by
  unfold p_index_of
  simp only [ix_team, lf_some, bd_ok, rowD, zipF_t]
  rw [zipD_map]
  refine Eq.trans (congrArg (fun x => bd x fun s => Rk s) (forR_enc (b := 0) (g := fun (a : Nat) (q : Party × Nat) => a * q.1.1 + q.2) natD (fun q : Party × Nat => .tuple [partyD q.1, natD q.2]) ?_)) rfl
  intro b q hq
  simp only [un2_t, bd_ok, ix_party, lf_some]
  rw [mulX_n (by have := h _ (List.of_mem_zip hq).1; omega)]
  simp only [lf_some, bd_ok, addD_n]
theorem places_ok (ps : List Party) (k : Nat) (h : ∀ p ∈ ps, 1 ≤ p.1 ∧ p.1 ≤ 12) (hl : ps.length ≤ 4) : p_places_of (teamD ps) (.int k) = Rk (rowD (digits ps k)) := by
  unfold p_places_of
  simp only [ix_team, lf_some, bd_ok, revX_t, itR'_t]
  rw [← List.map_reverse]
  have main : ∀ (qs : List Party) (k : Nat) (acc : List Nat), (∀ p ∈ qs, 1 ≤ p.1 ∧ p.1 ≤ 12) → acc.length + qs.length < 1000 → ∃ k', forR (fun (s8 : D × (List D)) d9 => (bd ((bd ((lf (ixD d9 (.int (0))))) fun v15 => lf (modD s8.1 v15))) fun v16 => bd (appR s8.2 v16) fun found17 => (bd ((lf (ixD d9 (.int (0))))) fun v20 => bd (lf (fdivD s8.1 v20)) fun place21 => (Rk (place21, found17))))) (natD k, acc.map natD) (qs.map partyD) = Rk (k', (acc ++ dgR qs k).map natD) := by
    intro qs
    induction qs with
    | nil => intro k acc _ _; exact ⟨natD k, by rw [List.map_nil, forR_nil, dgR, List.append_nil]⟩
    | cons p qs ih =>
      intro k acc hq hn
      rw [List.length_cons] at hn
      obtain ⟨hp1, hp2⟩ := hq p (List.mem_cons_self ..)
      obtain ⟨k', e⟩ := ih (k / p.1) (acc ++ [k % p.1]) (fun q h => hq q (List.mem_cons_of_mem _ h)) (by rw [List.length_append]; simp; omega)
      refine ⟨k', ?_⟩
      rw [List.map_cons, forR_cons]
      simp only [ix_party, lf_some, bd_ok]
      rw [modD_n (by omega), fdivD_n (by omega) (by omega)]
      simp only [lf_some, bd_ok]
      rw [appR_ok (by rw [List.length_map]; omega)]
      simp only [bd_ok]
      rw [List.map_append, List.append_assoc] at e
      exact e
  obtain ⟨k', e⟩ := main ps.reverse k [] (fun p hp => h p (by simpa using hp)) (by rw [List.length_reverse]; simp; omega)
  rw [List.map_nil, List.nil_append] at e
  rw [show (PyData.int k, ([] : List D)) = (natD k, []) from rfl, e]
  simp only [bd_ok, revX_l, lf_some, tupleF_l]
  rw [← List.map_reverse]; rfl
end LK

set_option Elab.async false
set_option linter.all false
set_option maxRecDepth 100000
set_option maxHeartbeats 4000000
namespace LK
open PySem PySem.Spec PyProof.Rows L2 DL T27
def pl : List Party → Nat
  | [] => 1
  | p :: ps => p.1 * pl ps
theorem pl_pos : ∀ ps : List Party, (∀ p ∈ ps, 1 ≤ p.1) → 0 < pl ps
  | [], _ => Nat.one_pos
  | p :: ps, h => Nat.mul_pos (h p (List.mem_cons_self ..)) (pl_pos ps fun q hq => h q (List.mem_cons_of_mem _ hq))
theorem foldl_pl : ∀ (ps : List Party) (a : Nat), ps.foldl (fun a p => a * p.1) a = a * pl ps
  | [], a => by rw [List.foldl_nil, pl, Nat.mul_one]
  | p :: ps, a => by rw [List.foldl_cons, foldl_pl ps, pl, Nat.mul_assoc]
theorem prodN_pl (ps : List Party) : prodN ps = pl ps := by unfold prodN; rw [foldl_pl, Nat.one_mul]
theorem law_spots_ok {ps : List Party} (h : TOk ps) : p__law_spots (teamD ps) = Rk (.list ((spotsL ps).map rowD)) := by
  unfold p__law_spots
  simp only [ix_team, lf_some, bd_ok, itR'_t]
  have main : ∀ (qs : List Party) (rows : List (List Nat)), (∀ p ∈ qs, 1 ≤ p.1 ∧ p.1 ≤ 12) → qs.length ≤ 4 → (∀ r ∈ rows, r.length + qs.length ≤ 10) → rows.length * pl qs ≤ 400 →
      forR (fun (s6 : D) d7 => (bd ((itR' s6)) fun l11 => bd (forR (fun (s12 : (List D)) d13 => (bd ((bd ((bd ((lf (ixD d7 (.int (0))))) fun v18 => (lf (rngF [v18])))) fun l21 => mapR (fun d20 => (lf (addD d13 (.tuple [d20])))) l21)) fun v24 => bd (extR s12 v24) fun longer25 => (Rk longer25))) [] l11) fun (s26 : (List D)) => (Rk (.list s26)))) (.list (rows.map rowD)) (qs.map partyD) = Rk (.list ((qs.foldl (fun rows p => rows.flatMap fun r => (List.range p.1).map fun i => r ++ [i]) rows).map rowD)) := by
    intro qs
    induction qs with
    | nil => intro rows _ _ _ _; rfl
    | cons p qs ih =>
      intro rows hq hl hr hn
      rw [List.length_cons] at hl
      obtain ⟨hp1, hp2⟩ := hq p (List.mem_cons_self ..)
      have hlen : ∀ rows : List (List Nat), (rows.flatMap fun r => ((List.range p.1).map fun i => rowD (r ++ [i]))).length = rows.length * p.1 := by
        intro rows
        induction rows with
        | nil => simp
        | cons r rows ih => rw [List.flatMap_cons, List.length_append, ih, List.length_map, List.length_range, List.length_cons, Nat.succ_mul, Nat.add_comm]
      have hb : rows.length * p.1 * pl qs ≤ 400 := by
        rw [Nat.mul_assoc]; exact hn
      have hb1 := pl_pos qs fun q h => (hq q (List.mem_cons_of_mem _ h)).1
      have hb2 : rows.length * p.1 ≤ 400 := Nat.le_trans (Nat.le_mul_of_pos_right _ hb1) hb
      rw [List.map_cons, forR_cons]
      simp only [itR'_l, bd_ok, ix_party, lf_some]
      rw [rngF_map (by omega)]
      simp only [lf_some, bd_ok]
      rw [forR_flatMap (g := fun r => (List.range p.1).map fun i => rowD (r ++ [i])) rowD (by rw [hlen]; simp; omega)]
      · simp only [bd_ok, List.nil_append]
        have := ih (rows.flatMap fun r => (List.range p.1).map fun i => r ++ [i]) (fun q h => hq q (List.mem_cons_of_mem _ h)) (by omega) (by
          intro r hr'
          obtain ⟨r0, h1, h2⟩ := List.mem_flatMap.mp hr'
          obtain ⟨i, _, rfl⟩ := List.mem_map.mp h2
          have := hr r0 h1
          rw [List.length_cons] at this
          rw [List.length_append]; simp; omega) (by
          have : (rows.flatMap fun r => (List.range p.1).map fun i => r ++ [i]).length = rows.length * p.1 := by
            rw [← hlen rows]
            have e : (rows.flatMap fun r => ((List.range p.1).map fun i => rowD (r ++ [i]))) = (rows.flatMap fun r => (List.range p.1).map fun i => r ++ [i]).map rowD := by
              rw [List.map_flatMap]
              congr 1; funext r; rw [List.map_map]; rfl
            rw [e, List.length_map]
          rw [this]; exact hb)
        rw [List.map_flatMap] at this
        have e : (fun r : List Nat => ((List.range p.1).map fun i => r ++ [i]).map rowD) = fun r => (List.range p.1).map fun i => rowD (r ++ [i]) := by
          funext r; rw [List.map_map]; rfl
        rw [e] at this
        rw [List.foldl_cons]
        exact this
      · intro acc r hr' hacc
        have hrl := hr r hr'
        rw [List.length_cons] at hrl
        rw [mapR_enc (h := fun i => rowD (r ++ [i])) natD]
        · simp only [bd_ok]
          rw [extR_ok hacc]; rfl
        · intro i _
          unfold rowD addD
          dsimp only
          rw [if_pos (by rw [List.length_map]; simp; omega), lf_some, List.map_append]; rfl
        · rw [List.length_range]; omega
  rw [show (PyData.list [.tuple []] : D) = .list (([[]] : List (List Nat)).map rowD) from rfl, main ps [[]] (fun p hp => ⟨(h.each p hp).1, (h.each p hp).2.1⟩) h.len.2 (fun r hr => by
    have : r = [] := by simpa using hr
    subst this; have := h.len; simp; omega) (by
    have := h.prod
    rw [prodN_pl] at this
    simpa using this)]
  rfl
end LK

set_option Elab.async false
set_option linter.all false
set_option maxRecDepth 100000
set_option maxHeartbeats 4000000
namespace LK
open PySem PySem.Spec PyProof.Rows L2 DL T27
theorem leD_n {a : Nat} {b : Nat} : leD (natD a) (.int b) = some (.bool (decide (a ≤ b))) := by
  unfold natD; rw [leD_i]; congr 2; exact decide_eq_decide.mpr (by omega)
theorem n2 {i : Int} (h : i.natAbs < 10 ^ 6) : i.natAbs < 2 ^ 1000 := Nat.lt_trans h (by decide)
/-! a drawn team -/
theorem wide_team {n : Nat} {w : List D} (hw : Wl (n + 20) w) : ∃ ps w', p__law_wide_team w = Rk (teamD ps, w') ∧ TOk ps ∧ Wl n w' := by
  obtain ⟨r, w1, e1, h1, h2, hw1⟩ := draw (n := n + 19) hw 4 (by decide) (by decide)
  unfold p__law_wide_team
  simp only [bd_ok, quiet_ok, bd_pair, e1, lf_some, addD_i]
  obtain ⟨m, hm⟩ : ∃ m : Nat, 1 + r = ((m + 1 : Nat) : Int) := ⟨r.toNat, by omega⟩
  have hm4 : m + 1 ≤ 4 := by omega
  rw [hm, rngF_map (by omega)]
  simp only [lf_some, bd_ok]
  refine bd_forR (G := fun x => ∃ ps w', x = Rk (teamD ps, w') ∧ TOk ps ∧ Wl n w') (fun rest s => ∃ (ps : List Party) (w' : List D), s = (w', ps.map partyD, natD (prodN ps)) ∧ (∀ p ∈ ps, 1 ≤ p.1 ∧ p.1 ≤ 12 ∧ p.2 < p.1) ∧ prodN ps ≤ 400 ∧ ps.length + rest.length ≤ 4 ∧ (ps = [] → rest ≠ []) ∧ Wl (n + 4 * rest.length) w')
    ⟨[], w1, rfl, fun p hp => by simp at hp, by decide, by simp; omega, fun _ => by simp, hw1.less (by simp; omega)⟩ ?_ ?_
  · rintro s d rest ⟨ps, w', rfl, ok, pr, hl, hne, hw'⟩
    rw [List.length_cons] at hl hw'
    obtain ⟨a, w2, e2, a1, a2, hw2⟩ := draw (n := n + 4 * rest.length + 3) (hw'.less (by omega)) 2 (by decide) (by decide)
    dsimp only
    simp only [e2, bd_ok]
    obtain ⟨c, hc, hc1, hc2⟩ : ∃ c : Nat, ixD (.list [(.int (3)), (.int (12))]) (.int a) = some (.int (c : Nat)) ∧ 1 ≤ c ∧ c ≤ 12 := by
      have : a = 0 ∨ a = 1 := by omega
      rcases this with rfl | rfl
      · exact ⟨3, ix_l0, by decide, by decide⟩
      · exact ⟨12, ix_l1, by decide, by decide⟩
    rw [hc]
    simp only [lf_some, bd_ok]
    obtain ⟨b, w3, e3, b1, b2, hw3⟩ := draw (n := n + 4 * rest.length + 2) hw2 (c : Int) (by omega) (n2 (by omega))
    simp only [e3, lf_some, bd_ok, addD_i]
    obtain ⟨k, hk⟩ : ∃ k : Nat, 1 + b = ((k + 1 : Nat) : Int) := ⟨b.toNat, by omega⟩
    rw [hk, mulX_n (by omega)]
    rw [show (PyData.int 400 : D) = .int ((400 : Nat) : Int) from rfl]
    simp only [lf_some, bd_ok, leD_n, bl_b]
    by_cases hp : prodN ps * (k + 1) ≤ 400
    · rw [decide_eq_true hp, if_pos rfl]
      obtain ⟨x, w4, e4, x1, x2, hw4⟩ := draw (n := n + 4 * rest.length + 1) hw3 ((k + 1 : Nat) : Int) (by omega) (n2 (by omega))
      simp only [e4, lf_some, bd_ok]
      rw [tupR_ok (Nat.le_of_ble_eq_true rfl)]
      simp only [bd_ok]
      rw [tupR_ok (Nat.le_of_ble_eq_true rfl)]
      simp only [bd_ok]
      rw [appR_ok (by rw [List.length_map]; omega)]
      simp only [bd_ok, lf_some]
      obtain ⟨y, rfl⟩ := Int.eq_ofNat_of_zero_le x1
      refine ⟨_, rfl, ps ++ [(k + 1, y)], w4, ?_, ?_, ?_, ?_, ?_, hw4.less (by omega)⟩
      · rw [List.map_append, prodN_snoc]; rfl
      · intro p hp
        rcases List.mem_append.mp hp with hp | hp
        · exact ok p hp
        · simp at hp; subst hp; exact ⟨by omega, by omega, by omega⟩
      · rw [prodN_snoc]; exact hp
      · rw [List.length_append]; simp; omega
      · intro h; simp at h
    · rw [decide_eq_false hp, if_neg Bool.false_ne_true]
      refine ⟨_, rfl, ps, w3, rfl, ok, pr, by omega, ?_, hw3.less (by omega)⟩
      intro h
      subst h
      exfalso
      apply hp
      have h1 : prodN [] = 1 := rfl
      rw [h1]; omega
  · rintro s' ⟨ps, w', rfl, ok, pr, hl, hne, hw'⟩
    dsimp only
    simp only [bd_ok, lf_some, tupleF_l]
    refine ⟨ps, w', rfl, ⟨ok, pr, ?_⟩, hw'⟩
    have h1 : ps ≠ [] := fun h => hne h rfl
    exact ⟨List.length_pos_iff.mpr h1, by simpa using hl⟩
/-! some of the numbers below n -/
theorem law_some {n m : Nat} {w : List D} (hw : Wl (n + m) w) (hm : m < 1000) : ∃ (l : List Nat) (w' : List D), p__law_some w (.int (m : Nat)) (.int 2) = Rk (.tuple (l.map natD), w') ∧ l.Pairwise (· < ·) ∧ (∀ x ∈ l, x < m) ∧ l.length ≤ m ∧ Wl n w' := by
  unfold p__law_some
  rw [rngF_map (by omega)]
  simp only [lf_some, bd_ok, bd_pair]
  have main : ∀ (c j : Nat) (w : List D), Wl (n + c) w → ∃ (l : List Nat) (w' : List D), lcI (fun s8 d6 => bd (bd (bd (p__law_draw s8 (.int 2)) fun v9 => bd (lf (eqX v9.1 (.int (0)))) fun z11 => Rk (z11, v9.2)) fun v13 => bd (bl v13.1) fun b14 => Rk (b14, v13.2)) fun c15 => if c15.1 = true then Rk (some d6, c15.2) else Rk (none, c15.2)) w ((List.range' j c).map natD) = Rk (l.map natD, w') ∧ l.Pairwise (· < ·) ∧ (∀ x ∈ l, j ≤ x ∧ x < j + c) ∧ l.length ≤ c ∧ Wl n w' := by
    intro c
    induction c with
    | zero => intro j w hw; exact ⟨[], w, rfl, .nil, fun x h => by simp at h, Nat.le_refl _, hw⟩
    | succ c ih =>
      intro j w hw
      obtain ⟨r, w1, e1, h1, h2, hw1⟩ := draw (n := n + c) hw 2 (by decide) (by decide)
      obtain ⟨l, w', e2, p2, b2, l2, hw2⟩ := ih (j + 1) w1 hw1
      rw [List.range'_succ, List.map_cons]
      by_cases hr : r = 0
      · refine ⟨j :: l, w', ?_, ?_, ?_, by rw [List.length_cons]; omega, hw2⟩
        · rw [List.map_cons]
          refine lcI_some ?_ e2
          simp only [e1, bd_ok, eqX_i, lf_some, bl_b]
          rw [decide_eq_true hr]; rfl
        · exact List.pairwise_cons.mpr ⟨fun x hx => by have := b2 x hx; omega, p2⟩
        · intro x hx
          rcases List.mem_cons.mp hx with rfl | hx
          · omega
          · have := b2 x hx; omega
      · refine ⟨l, w', ?_, p2, fun x hx => by have := b2 x hx; omega, by omega, hw2⟩
        refine lcI_none ?_ e2
        simp only [e1, bd_ok, eqX_i, lf_some, bl_b]
        rw [decide_eq_false hr]; rfl
  obtain ⟨l, w', e, p, b, hl, hw'⟩ := main m 0 w hw
  rw [← List.range_eq_range'] at e
  rw [e]
  simp only [bd_ok]
  rw [capI_ok (by rw [List.length_map]; omega)]
  simp only [bd_ok, lf_some, tupleF_l]
  exact ⟨l, w', rfl, p, fun x hx => by have := b x hx; omega, hl, hw'⟩
end LK

set_option Elab.async false
set_option linter.all false
set_option maxRecDepth 100000
set_option maxHeartbeats 4000000
namespace LK
open PySem PySem.Spec PyProof.Rows L2 DL T27
/-! places of the parties, wishes: any object -/
def plc (ps : List Party) : D → Bool
  | .tuple ds => decide (ds.length = ps.length) && (ds.zip ps).all fun q => btw 0 ((q.2.1 : Int) - 1) q.1
  | _ => false
def wsh (ps : List Party) : D → Bool
  | .tuple ds => decide (ds.length = ps.length) && (ds.zip ps).all fun q => isNoneB q.1 || asc 0 ((q.2.1 : Int) - 1) q.1
  | _ => false
theorem zip_parties (ds : List D) (ps : List Party) : zipD ds (ps.map partyD) = (ds.zip ps).map fun q => .tuple [q.1, partyD q.2] := by
  have := zipD_map (f := id) (g := partyD) (xs := ds) (ys := ps)
  rw [List.map_id] at this
  exact this
theorem zip_len {ds : List D} {ps : List Party} (hl : ps.length ≤ 4) : (ds.zip ps).length ≤ 16777216 := by rw [List.length_zip]; omega
theorem tupLen_eq (n : Nat) (ds : List D) : tupLen (n : Int) (n : Int) (.tuple ds) = decide (ds.length = n) := by
  unfold tupLen
  dsimp only
  by_cases h : ds.length = n
  · rw [decide_eq_true h, decide_eq_true (by omega), decide_eq_true (by omega)]; rfl
  · rw [decide_eq_false h]
    by_cases h3 : (n : Int) ≤ ds.length
    · rw [decide_eq_false (by omega : ¬ (ds.length : Int) ≤ n), Bool.and_false]
    · rw [decide_eq_false h3, Bool.false_and]
theorem are_party_places (ps : List Party) (v : D) (hl : ps.length ≤ 4) : p_are_party_places (teamD ps) v = Rk (.bool (plc ps v)) := by
  unfold p_are_party_places
  simp only [ix_team, lf_some, bd_ok, lenF_t, List.length_map, is_tuple, bl_b]
  cases v with
  | tuple ds =>
    rw [tupLen_eq]
    unfold plc
    dsimp only
    by_cases h : ds.length = ps.length
    · rw [decide_eq_true h]
      simp only [if_true, zipF_t, lf_some, bd_ok, Bool.true_and]
      rw [zip_parties, mapR_enc (h := fun q => PyData.bool (btw 0 ((q.2.1 : Int) - 1) q.1)) (fun q : D × Party => PyData.tuple [q.1, partyD q.2])]
      · have e : ((ds.zip ps).map fun q => PyData.bool (btw 0 ((q.2.1 : Int) - 1) q.1)) = ((ds.zip ps).map fun q => btw 0 ((q.2.1 : Int) - 1) q.1).map PyData.bool := by rw [List.map_map]; rfl
        rw [e]
        simp only [bd_ok, allF_bools, lf_some, all_id]
      · intro q _
        simp only [un2_t, bd_ok, ix_party, lf_some, subD_i, is_between]
      · exact zip_len hl
    · rw [decide_eq_false h]
      rfl
  | _ => rfl
theorem law_are_places (ps : List Party) (v : D) (hl : ps.length ≤ 4) : p__law_are_places (teamD ps) v = Rk (.bool (plc ps v)) := by
  unfold p__law_are_places
  simp only [bd_ok, isXd_tuple, bl_b]
  cases v with
  | tuple ds =>
    simp only [dTup, Bool.not_true, Bool.false_eq_true, if_false, lenF_t, lf_some, bd_ok, ix_team, List.length_map, neX_i, bl_b]
    unfold plc
    dsimp only
    by_cases h : ds.length = ps.length
    · rw [decide_eq_true (by omega : (ds.length : Int) = ps.length), decide_eq_true h]
      simp only [Bool.not_true, Bool.false_eq_true, if_false, zipF_t, lf_some, bd_ok, Bool.true_and]
      rw [zip_parties, mapR_enc (h := fun q => PyData.bool (btw 0 ((q.2.1 : Int) - 1) q.1)) (fun q : D × Party => PyData.tuple [q.1, partyD q.2])]
      · have e : ((ds.zip ps).map fun q => PyData.bool (btw 0 ((q.2.1 : Int) - 1) q.1)) = ((ds.zip ps).map fun q => btw 0 ((q.2.1 : Int) - 1) q.1).map PyData.bool := by rw [List.map_map]; rfl
        rw [e]
        simp only [bd_ok, ninX_false, lf_some, all_id]
      · intro q _
        simp only [un2_t, bd_ok, ix_party, lf_some, subD_i, law_is_int]
      · exact zip_len hl
    · rw [decide_eq_false (by omega : ¬ (ds.length : Int) = ps.length), decide_eq_false h]
      rfl
  | _ => rfl
def Small (v : D) : Prop := ∀ ds, v = .tuple ds → ∀ d ∈ ds, ∀ es, d = .tuple es → es.length ≤ 16777216
theorem good_small {k z : Nat} {v : D} (h : Good k z v) (hz : z ≤ 16777216) : Small v := by
  rintro ds rfl d hd es rfl
  have h1 := h.rz
  rw [rz] at h1
  have h2 := mem_rzAll hd
  rw [rz] at h2
  have h3 := len_le_rzAll es
  omega
theorem are_wanted (ps : List Party) (v : D) (hl : ps.length ≤ 4) (hs : Small v) : p_are_wanted (teamD ps) v = Rk (.bool (wsh ps v)) := by
  unfold p_are_wanted
  simp only [ix_team, lf_some, bd_ok, lenF_t, List.length_map, is_tuple, bl_b]
  cases v with
  | tuple ds =>
    rw [tupLen_eq]
    unfold wsh
    dsimp only
    by_cases h : ds.length = ps.length
    · rw [decide_eq_true h]
      simp only [Bool.not_true, Bool.false_eq_true, if_false, zipF_t, lf_some, bd_ok, Bool.true_and]
      rw [zip_parties, mapR_enc (h := fun q => PyData.bool (isNoneB q.1 || asc 0 ((q.2.1 : Int) - 1) q.1)) (fun q : D × Party => PyData.tuple [q.1, partyD q.2])]
      · have e : ((ds.zip ps).map fun q => PyData.bool (isNoneB q.1 || asc 0 ((q.2.1 : Int) - 1) q.1)) = ((ds.zip ps).map fun q => (isNoneB q.1 || asc 0 ((q.2.1 : Int) - 1) q.1)).map PyData.bool := by rw [List.map_map]; rfl
        rw [e]
        simp only [bd_ok, allF_bools, lf_some, all_id]
      · intro q hq
        simp only [un2_t, bd_ok, bl_b]
        cases hn : isNoneB q.1 with
        | true => rfl
        | false =>
          simp only [Bool.false_eq_true, if_false, ix_party, lf_some, bd_ok, subD_i, Bool.false_or]
          rw [is_ascending (hs ds rfl q.1 (List.of_mem_zip hq).1)]
      · exact zip_len hl
    · rw [decide_eq_false h]
      rfl
  | _ => rfl
theorem law_are_wishes (ps : List Party) (v : D) (hl : ps.length ≤ 4) (hs : Small v) : p__law_are_wishes (teamD ps) v = Rk (.bool (wsh ps v)) := by
  unfold p__law_are_wishes
  simp only [bd_ok, isXd_tuple, bl_b]
  cases v with
  | tuple ds =>
    simp only [dTup, Bool.not_true, Bool.false_eq_true, if_false, lenF_t, lf_some, bd_ok, ix_team, List.length_map, neX_i, bl_b]
    unfold wsh
    dsimp only
    by_cases h : ds.length = ps.length
    · rw [decide_eq_true (by omega : (ds.length : Int) = ps.length), decide_eq_true h]
      simp only [Bool.not_true, Bool.false_eq_true, if_false, zipF_t, lf_some, bd_ok, Bool.true_and]
      rw [zip_parties, mapR_enc (h := fun q => PyData.bool (isNoneB q.1 || asc 0 ((q.2.1 : Int) - 1) q.1)) (fun q : D × Party => PyData.tuple [q.1, partyD q.2])]
      · have e : ((ds.zip ps).map fun q => PyData.bool (isNoneB q.1 || asc 0 ((q.2.1 : Int) - 1) q.1)) = ((ds.zip ps).map fun q => (isNoneB q.1 || asc 0 ((q.2.1 : Int) - 1) q.1)).map PyData.bool := by rw [List.map_map]; rfl
        rw [e]
        simp only [bd_ok, ninX_false, lf_some, all_id]
      · intro q hq
        simp only [un2_t, bd_ok, bl_b]
        cases hn : isNoneB q.1 with
        | true => rfl
        | false =>
          simp only [Bool.false_eq_true, if_false, ix_party, lf_some, bd_ok, subD_i, Bool.false_or]
          rw [law_rises (hs ds rfl q.1 (List.of_mem_zip hq).1)]
      · exact zip_len hl
    · rw [decide_eq_false (by omega : ¬ (ds.length : Int) = ps.length), decide_eq_false h]
      rfl
  | _ => rfl
/-! the functions at teams -/
theorem plc_digits (ps : List Party) (h : ∀ p ∈ ps, 1 ≤ p.1) (k : Nat) : plc ps (rowD (digits ps k)) = true := by
  unfold plc rowD
  dsimp only
  rw [List.length_map, digits_len, decide_eq_true rfl, Bool.true_and, List.all_eq_true]
  intro q hq
  rw [List.zip_map_left] at hq
  obtain ⟨r, hr, rfl⟩ := List.mem_map.mp hq
  have := digits_lt2 ps h k _ hr
  simp [btw, natD, Prod.map]
  omega
theorem place_of_ok {ps : List Party} (h : TOk ps) {k : Nat} (hk : k < prodN ps) : p_place_of (teamD ps) (rowD (digits ps k)) = Rk (.int k) := by
  unfold p_place_of
  simp only [need_team_ok h, bd_ok, are_party_places _ _ h.len.2, plc_digits ps h.pos k, bl_b, Bool.not_true, Bool.false_eq_true, if_false]
  rw [index_ok _ _ fun p hp => (h.each p hp).2.1, idx_digits ps h.pos k hk]
theorem places_at_ok {ps : List Party} (h : TOk ps) {k : Nat} (hk : k < prodN ps) : p_places_at (teamD ps) (.int k) = Rk (rowD (digits ps k)) := by
  unfold p_places_at
  simp only [need_team_ok h, bd_ok, product_ok ps fun p hp => (h.each p hp).2.1, subD_i, lf_some]
  rw [need_number_ok (by omega) (by omega), bd_ok, places_ok ps k (fun p hp => ⟨(h.each p hp).1, (h.each p hp).2.1⟩) h.len.2]
theorem places_at_bad {ps : List Party} (h : TOk ps) {i : Int} (hi : i < 0 ∨ (prodN ps : Int) - 1 < i) : p_places_at (teamD ps) (.int i) = Rx ("InvalidNumber", .int i) := by
  unfold p_places_at
  simp only [need_team_ok h, bd_ok, product_ok ps fun p hp => (h.each p hp).2.1, subD_i, lf_some]
  rw [need_number_bad hi, bd_er]
theorem place_of_bad {ps : List Party} (h : TOk ps) {v : D} {k z : Nat} (g : Good k z v) (hk : k < 8) (hz : z ≤ 16777216) (hp : plc ps v = false) : p_place_of (teamD ps) v = Rx ("InvalidPlaces", v) := by
  unfold p_place_of
  simp only [need_team_ok h, bd_ok, are_party_places _ _ h.len.2, hp, bl_b, Bool.not_false, if_true]
  rw [anew_ok 8 v (by have := g.depth; omega) (Nat.le_trans g.rz hz), bd_ok]
theorem goals_with_bad {ps : List Party} (h : TOk ps) {v : D} {k z : Nat} (g : Good k z v) (hk : k < 8) (hz : z ≤ 16777216) (hp : wsh ps v = false) : p_goals_with (teamD ps) v = Rx ("InvalidPlaces", v) := by
  unfold p_goals_with
  simp only [need_team_ok h, bd_ok, are_wanted _ _ h.len.2 (good_small g hz), hp, bl_b, Bool.not_false, if_true]
  rw [anew_ok 8 v (by have := g.depth; omega) (Nat.le_trans g.rz hz), bd_ok]
/-! refusals -/
theorem isv {x y : Str} {v : D} {b : Bool} (h : isEx x y = some b) : isXv isNon (isEx x) (.exc y v) = Rk (.bool b) := by
  show bd (lf (isEx x y)) (fun b => Rk (PyData.bool b)) = _
  rw [h]; rfl
theorem valv {y : Str} {v : D} (h : isCls y = true) : valV isCls (.exc y v) = Rk v := if_pos h
theorem sh3 (a b c : Bool) : SeqAt.shaped (.list [.bool a, .bool b, .bool c]) = true := shaped_bools [a, b, c]
theorem refused0 {ps : List Party} (h : TOk ps) {v : D} {k z : Nat} (g : Good k z v) (hk : k < 8) (hz : z ≤ 16777216) (hp : plc ps v = false) : p__law_refused (.int 0) (teamD ps) v = Rk (.bool true) := by
  unfold p__law_refused
  simp only [eqX_i, lf_some, bd_ok, bl_b, decide_true, if_true, place_of_bad h g hk hz hp, bd_er]
  rw [tryR_er (x := ("InvalidPlaces", v)) (show isCls2 "InvalidPlaces" = some true by decide)]
  simp only [quiet_ok, bd_ok]
  rw [isv (b := true) (by decide), isv (b := false) (by decide), isv (b := false) (by decide)]
  simp only [bd_ok, ltD_i, lf_some, eqX_i]
  rw [eqX_eq (sh3 _ _ _) (sh3 _ _ _)]
  simp only [lf_some, bd_ok, bl_b]
  rw [show PyData.eqv (.list [.bool true, .bool false, .bool false]) (.list [.bool (decide ((0 : Int) < 2)), .bool (decide ((0 : Int) = 2)), .bool false]) = true by simp [PyData.eqv, PyData.eqvAll]]
  rw [if_pos rfl, valv (by decide), bd_ok, g.repr (by omega) hz]
  simp only [lf_some, bd_ok, eqX_same]
theorem refused1 {ps : List Party} (h : TOk ps) {v : D} {k z : Nat} (g : Good k z v) (hk : k < 8) (hz : z ≤ 16777216) (hp : wsh ps v = false) : p__law_refused (.int 1) (teamD ps) v = Rk (.bool true) := by
  unfold p__law_refused
  simp only [eqX_i, lf_some, bd_ok, bl_b]
  rw [decide_eq_false (by decide : ¬ (1 : Int) = 0), if_neg Bool.false_ne_true]
  simp only [decide_true, if_true, goals_with_bad h g hk hz hp, bd_er]
  rw [tryR_er (x := ("InvalidPlaces", v)) (show isCls2 "InvalidPlaces" = some true by decide)]
  simp only [quiet_ok, bd_ok]
  rw [isv (b := true) (by decide), isv (b := false) (by decide), isv (b := false) (by decide)]
  simp only [bd_ok, ltD_i, lf_some, eqX_i]
  rw [eqX_eq (sh3 _ _ _) (sh3 _ _ _)]
  simp only [lf_some, bd_ok, bl_b]
  rw [show PyData.eqv (.list [.bool true, .bool false, .bool false]) (.list [.bool (decide ((1 : Int) < 2)), .bool (decide ((1 : Int) = 2)), .bool false]) = true by simp [PyData.eqv, PyData.eqvAll]]
  rw [if_pos rfl, valv (by decide), bd_ok, g.repr (by omega) hz]
  simp only [lf_some, bd_ok, eqX_same]
theorem refused2 {ps : List Party} (h : TOk ps) {i : Int} (hi : i < 0 ∨ (prodN ps : Int) - 1 < i) (hz : i.natAbs < 2 ^ 1000) : p__law_refused (.int 2) (teamD ps) (.int i) = Rk (.bool true) := by
  unfold p__law_refused
  simp only [eqX_i, lf_some, bd_ok, bl_b]
  rw [decide_eq_false (by decide : ¬ (2 : Int) = 0), if_neg Bool.false_ne_true, decide_eq_false (by decide : ¬ (2 : Int) = 1), if_neg Bool.false_ne_true, places_at_bad h hi, bd_er, tryR_er (x := ("InvalidNumber", .int i)) (show isCls2 "InvalidNumber" = some true by decide)]
  simp only [quiet_ok, bd_ok]
  rw [isv (b := false) (by decide), isv (b := true) (by decide), isv (b := false) (by decide)]
  simp only [bd_ok, ltD_i, lf_some, eqX_i]
  rw [eqX_eq (sh3 _ _ _) (sh3 _ _ _)]
  simp only [lf_some, bd_ok, bl_b]
  rw [show PyData.eqv (.list [.bool false, .bool true, .bool false]) (.list [.bool (decide ((2 : Int) < 2)), .bool (decide True), .bool false]) = true by simp [PyData.eqv, PyData.eqvAll]]
  rw [if_pos rfl, valv (by decide), bd_ok, (good_int hz).repr (by decide) (by decide)]
  simp only [lf_some, bd_ok, eqX_same]
end LK

set_option Elab.async false
set_option linter.all false
set_option maxRecDepth 100000
set_option maxHeartbeats 4000000
namespace LK
open PySem PySem.Spec PyProof.Rows L2 DL T27
/-! wishes -/
def wishD : Option (List Nat) → D
  | none => .none
  | some l => .tuple (l.map natD)
def WOk (p : Party) : Option (List Nat) → Prop
  | none => True
  | some l => l.Pairwise (· < ·) ∧ (∀ x ∈ l, x < p.1) ∧ l.length ≤ p.1
def WsOk : List Party → List (Option (List Nat)) → Prop
  | [], [] => True
  | p :: ps, w :: ws => WOk p w ∧ WsOk ps ws
  | _, _ => False
theorem WsOk.len : ∀ {ps : List Party} {ws : List (Option (List Nat))}, WsOk ps ws → ws.length = ps.length
  | [], [], _ => rfl
  | _ :: _, _ :: _, h => by rw [List.length_cons, List.length_cons, WsOk.len h.2]
  | [], _ :: _, h => h.elim
  | _ :: _, [], h => h.elim
theorem WsOk.mem : ∀ {ps : List Party} {ws : List (Option (List Nat))}, WsOk ps ws → ∀ q ∈ ws.zip ps, WOk q.2 q.1
  | [], [], _, q, h => by simp at h
  | p :: ps, w :: ws, h, q, hq => by
    rw [List.zip_cons_cons] at hq
    rcases List.mem_cons.mp hq with rfl | hq
    · exact h.1
    · exact WsOk.mem h.2 q hq
  | [], _ :: _, h, _, _ => h.elim
  | _ :: _, [], h, _, _ => h.elim
theorem ups_of : ∀ {l : List Nat}, l.Pairwise (· < ·) → ups (l.map natD) = true
  | [], _ => rfl
  | [_], _ => rfl
  | a :: b :: l, h => by
    have h1 := (List.pairwise_cons.mp h).1 b (List.mem_cons_self ..)
    have h2 := ups_of (List.pairwise_cons.mp h).2
    show (decide ((a : Int) < b) && ups ((b :: l).map natD)) = true
    rw [h2, decide_eq_true (by omega)]; rfl
theorem asc_wish {p : Party} {l : List Nat} (h : WOk p (some l)) : asc 0 ((p.1 : Int) - 1) (.tuple (l.map natD)) = true := by
  unfold asc
  dsimp only
  rw [ups_of h.1, Bool.and_true, List.all_map, List.all_eq_true]
  intro x hx
  have := h.2.1 x hx
  simp [Function.comp, btw, natD]
  omega
theorem wsh_ok {ps : List Party} {ws : List (Option (List Nat))} (h : WsOk ps ws) : wsh ps (.tuple (ws.map wishD)) = true := by
  unfold wsh
  dsimp only
  rw [List.length_map, h.len, decide_eq_true rfl, Bool.true_and, List.all_eq_true]
  intro q hq
  rw [List.zip_map_left] at hq
  obtain ⟨r, hr, rfl⟩ := List.mem_map.mp hq
  have hw := h.mem r hr
  obtain ⟨w, p⟩ := r
  cases w with
  | none => rfl
  | some l =>
    show (isNoneB (wishD (some l)) || asc 0 ((p.1 : Int) - 1) (wishD (some l))) = true
    rw [show wishD (some l) = .tuple (l.map natD) from rfl, asc_wish hw, Bool.or_true]
theorem good_wish {p : Party} (hp : p.1 ≤ 12) {w : Option (List Nat)} (h : WOk p w) : Good 1 12051 (wishD w) := by
  cases w with
  | none => exact good_none.mono (by decide) (by decide)
  | some l =>
    refine (good_tup (k := 0) (z := 1002) 12 (fun d hd => ?_) ?_).mono (by decide) (by decide)
    · obtain ⟨x, hx, rfl⟩ := List.mem_map.mp hd
      exact good_nat (Nat.lt_trans (h.2.1 x hx) (Nat.lt_of_le_of_lt hp (by decide)))
    · rw [List.length_map]; have := h.2.2; omega
/-! the goals -/
def fitsB (d : List Nat) (ws : List (Option (List Nat))) : Bool := (d.zip ws).all fun q => match q.2 with
  | none => true
  | some l => l.contains q.1
def outB (q : Nat × Option (List Nat)) : Bool := match q.2 with
  | none => false
  | some l => !l.contains q.1
theorem inX_wish {n : Nat} {l : List Nat} : inX (natD n) (wishD (some l)) = some (.bool (l.contains n)) := inX_nats
theorem ninX_wish {n : Nat} {l : List Nat} : ninX (natD n) (wishD (some l)) = some (.bool (!l.contains n)) := ninX_nats
theorem goals_by_ok {ps : List Party} (h : TOk ps) (ws : List (Option (List Nat))) : p_goals_by (teamD ps) (.tuple (ws.map wishD)) = Rk (.tuple (((List.range (prodN ps)).filter fun k => fitsB (digits ps k) ws).map natD)) := by
  unfold p_goals_by
  have hp := h.prod
  simp only [product_ok ps fun p hp => (h.each p hp).2.1, bd_ok]
  rw [rngF_map (by omega)]
  simp only [lf_some, bd_ok]
  rw [forR_filter (b := fun k => fitsB (digits ps k) ws) natD natD (by simp; omega)]
  · simp only [bd_ok, lf_some, tupleF_l, List.nil_append]
  · intro acc k hk hacc
    have e1 : p_places_of (teamD ps) (natD k) = Rk (rowD (digits ps k)) := places_ok ps k (fun p hp => ⟨(h.each p hp).1, (h.each p hp).2.1⟩) h.len.2
    rw [e1]
    simp only [bd_ok, rowD, zipF_t, lf_some]
    rw [zipD_map, mapR_enc (h := fun q : Nat × Option (List Nat) => PyData.bool (match q.2 with | none => true | some l => l.contains q.1)) (fun q : Nat × Option (List Nat) => PyData.tuple [natD q.1, wishD q.2])]
    · have e : ((digits ps k).zip ws).map (fun q : Nat × Option (List Nat) => PyData.bool (match q.2 with | none => true | some l => l.contains q.1)) = (((digits ps k).zip ws).map fun q => match q.2 with | none => true | some l => l.contains q.1).map PyData.bool := by rw [List.map_map]; rfl
      rw [e]
      simp only [bd_ok, allF_bools, lf_some, all_id, bl_b]
      show (if fitsB (digits ps k) ws = true then _ else _) = _
      cases hf : fitsB (digits ps k) ws with
      | true => rw [if_pos rfl, appR_ok hacc, bd_ok]; rfl
      | false => rfl
    · intro q _
      obtain ⟨n, w⟩ := q
      simp only [un2_t, bd_ok, bl_b]
      cases w with
      | none => rfl
      | some l =>
        simp only [show isNoneB (wishD (some l)) = false from rfl, Bool.false_eq_true, if_false, inX_wish, lf_some]
    · rw [List.length_zip, digits_len]; have := h.len; omega
theorem goals_with_ok {ps : List Party} (h : TOk ps) {ws : List (Option (List Nat))} (hw : WsOk ps ws) : p_goals_with (teamD ps) (.tuple (ws.map wishD)) = Rk (.tuple (((List.range (prodN ps)).filter fun k => fitsB (digits ps k) ws).map natD)) := by
  unfold p_goals_with
  have g : Good 2 48215 (.tuple (ws.map wishD)) := (good_tup (k := 1) (z := 12051) 4 (fun d hd => by
    obtain ⟨w, hw', rfl⟩ := List.mem_map.mp hd
    obtain ⟨i, hi, rfl⟩ := List.mem_iff_getElem.mp hw'
    have hz : (ws[i], ps[i]'(by rw [← hw.len]; exact hi)) ∈ ws.zip ps := by
      rw [List.mem_iff_getElem]
      exact ⟨i, by rw [List.length_zip]; have := hw.len; omega, by simp⟩
    exact good_wish (h.each _ (List.of_mem_zip hz).2).2.1 (hw.mem _ hz)) (by rw [List.length_map, hw.len]; exact h.len.2)).mono (by decide) (by decide)
  simp only [need_team_ok h, bd_ok, are_wanted _ _ h.len.2 (good_small g (by decide)), wsh_ok hw, bl_b, Bool.not_true, Bool.false_eq_true, if_false]
  exact goals_by_ok h ws
theorem enumD_map {α : Type} (f : α → D) : ∀ (xs : List α) (k : Nat), enumD k (xs.map f) = (xs.mapIdx fun i x => (PyData.tuple [natD (k + i), f x]))
  | [], _ => rfl
  | x :: xs, k => by
    rw [List.map_cons, List.mapIdx_cons]
    show .tuple [.int k, f x] :: enumD (k + 1) (xs.map f) = _
    rw [enumD_map f xs (k + 1)]
    congr 1
    congr 1
    funext i x
    congr 3
    omega
theorem enum_range {α : Type} (f : α → D) (g : Nat → α) (n : Nat) : enumD 0 (((List.range n).map g).map f) = (List.range n).map fun k => PyData.tuple [natD k, f (g k)] := by
  rw [enumD_map]
  apply List.ext_getElem
  · simp
  · intro i h1 h2
    simp
theorem goals_due_ok {ps : List Party} (h : TOk ps) {ws : List (Option (List Nat))} (hw : WsOk ps ws) : p__law_goals_due (.list ((spotsL ps).map rowD)) (.tuple (ws.map wishD)) = Rk (.tuple (((List.range (prodN ps)).filter fun k => fitsB (digits ps k) ws).map natD)) := by
  unfold p__law_goals_due
  have hp := h.prod
  simp only [enumF_l, lf_some, bd_ok]
  rw [spots_eq ps h.pos, enum_range]
  rw [forR_filter (b := fun k => fitsB (digits ps k) ws) (fun k => PyData.tuple [natD k, rowD (digits ps k)]) natD (by simp; omega)]
  · simp only [bd_ok, lf_some, tupleF_l, List.nil_append]
  · intro acc k hk hacc
    simp only [un2_t, bd_ok, rowD, zipF_t, lf_some]
    rw [zipD_map, lcR_enc (h := fun q : Nat × Option (List Nat) => if outB q = true then some (natD q.1) else none) (fun q : Nat × Option (List Nat) => PyData.tuple [natD q.1, wishD q.2])]
    · simp only [bd_ok]
      have e0 : ((digits ps k).zip ws).filterMap (fun q : Nat × Option (List Nat) => if outB q = true then some (natD q.1) else none) = ((((digits ps k).zip ws).filter outB).map fun q => q.1).map natD := by
        generalize (digits ps k).zip ws = xs
        induction xs with
        | nil => rfl
        | cons q xs ih =>
          cases e : outB q with
          | true => rw [List.filterMap_cons_some (b := natD q.1) (by rw [e]; rfl), ih, List.filter_cons_of_pos (p := outB) e, List.map_cons, List.map_cons]
          | false => rw [List.filterMap_cons_none (by rw [e]; rfl), ih, List.filter_cons_of_neg (p := outB) (by rw [e]; exact Bool.false_ne_true)]
      rw [e0]
      have hlen : ((((digits ps k).zip ws).filter outB).map fun q => q.1).length ≤ 4 := by
        rw [List.length_map]
        refine Nat.le_trans (List.length_filter_le _ _) ?_
        rw [List.length_zip, digits_len]; have := h.len; omega
      have hmem : ∀ x ∈ ((((digits ps k).zip ws).filter outB).map fun q => q.1), x < 2 ^ 100 := by
        intro x hx
        obtain ⟨q, hq, rfl⟩ := List.mem_map.mp hx
        have hq2 := (List.of_mem_zip (List.mem_filter.mp hq).1).1
        obtain ⟨i, hi, e⟩ := List.mem_iff_getElem.mp hq2
        have hi' : i < ps.length := by rw [digits_len] at hi; exact hi
        have hz : ((digits ps k)[i], ps[i]) ∈ (digits ps k).zip ps := by
          rw [List.mem_iff_getElem]
          exact ⟨i, by rw [List.length_zip]; omega, by simp⟩
        have h1 := digits_lt2 ps h.pos k _ hz
        have h2 := (h.each _ (List.of_mem_zip hz).2).2.1
        rw [← e]
        exact Nat.lt_trans (Nat.lt_of_lt_of_le h1 h2) (by decide)
      have hall : (((digits ps k).zip ws).filter outB) = [] ↔ fitsB (digits ps k) ws = true := by
        rw [List.filter_eq_nil_iff]
        unfold fitsB outB
        rw [List.all_eq_true]
        refine forall_congr' fun q => forall_congr' fun _ => ?_
        cases q.2 <;> simp
      generalize ((((digits ps k).zip ws).filter outB)) = bad at hlen hmem hall ⊢
      have gl : Good 1 4019 (.list ((bad.map fun q => q.1).map natD)) := (good_list (k := 0) (z := 1002) 4 (fun d hd => by
        obtain ⟨x, hx, rfl⟩ := List.mem_map.mp hd
        exact good_nat (hmem x hx)) (by rw [List.length_map]; exact hlen)).mono (by decide) (by decide)
      rw [eqX_eq (gl.shaped (by decide)) (show SeqAt.shaped (.list []) = true from shaped_bools [])]
      simp only [lf_some, bd_ok, bl_b]
      cases hb : bad with
      | nil =>
        rw [hb] at hall
        have hf := hall.mp rfl
        rw [hf, show PyData.eqv (.list ((([] : List (Nat × Option (List Nat))).map fun q => q.1).map natD)) (.list []) = true from rfl, if_pos rfl, appR_ok hacc, bd_ok]
        rfl
      | cons q bad' =>
        have hf : fitsB (digits ps k) ws = false := by
          cases hf : fitsB (digits ps k) ws with
          | false => rfl
          | true => rw [hall.mpr hf] at hb; cases hb
        rw [hf]
        rfl
    · intro q _
      obtain ⟨n, w⟩ := q
      simp only [un2_t, bd_ok, bl_b]
      cases w with
      | none => rfl
      | some l =>
        simp only [show isNoneB (wishD (some l)) = false from rfl, Bool.not_false, if_true, ninX_wish, lf_some, bd_ok, bl_b]
        exact selR_ok rfl fun _ => rfl
    · rw [List.length_zip, digits_len]; have := h.len; omega
end LK

set_option Elab.async false
set_option linter.all false
set_option maxRecDepth 100000
set_option maxHeartbeats 4000000
namespace LK
open PySem PySem.Spec PyProof.Rows L2 DL T27
/-! bent tuples -/
theorem slF_to {ds : List D} {k : Nat} (h : k ≤ ds.length) : slF (.tuple ds) none (some (k : Int)) = some (.tuple (ds.take k)) := by
  show some (PyData.tuple (DL.cutD ds none (some (k : Int)))) = _
  unfold DL.cutD
  have h1 : HT.sIx ds.length 0 none = 0 := rfl
  have h2 : HT.sIx ds.length ds.length (some (k : Int)) = k := by
    unfold HT.sIx
    simp
    split <;> omega
  rw [h1, h2, List.drop_zero, Nat.sub_zero]
theorem slF_from {ds : List D} {k : Nat} (h : k ≤ ds.length) : slF (.tuple ds) (some (k : Int)) none = some (.tuple (ds.drop k)) := by
  show some (PyData.tuple (DL.cutD ds (some (k : Int)) none)) = _
  unfold DL.cutD
  have h1 : HT.sIx ds.length ds.length none = ds.length := rfl
  have h2 : HT.sIx ds.length 0 (some (k : Int)) = k := by
    unfold HT.sIx
    simp
    split <;> omega
  rw [h1, h2, List.take_of_length_le (by rw [List.length_drop]; exact Nat.le_refl _)]
theorem addD_t {xs ys : List D} (h : xs.length + ys.length ≤ 16777216) : addD (.tuple xs) (.tuple ys) = some (.tuple (xs ++ ys)) := if_pos h
theorem addD_l {xs ys : List D} (h : xs.length + ys.length ≤ 16777216) : addD (.list xs) (.list ys) = some (.list (xs ++ ys)) := if_pos h
/-- one item of a list, drawn -/
theorem pick {n : Nat} {w : List D} (hw : Wl (n + 1) w) {xs : List D} (c : Nat) (hc : xs.length = c) (h0 : 0 < c) (h1 : c < 1000) : ∃ r x w', p__law_draw w (.int (c : Nat)) = Rk (.int r, w') ∧ ixD (.list xs) (.int r) = some x ∧ x ∈ xs ∧ Wl n w' := by
  obtain ⟨r, w', e, a, b, hw'⟩ := draw hw (c : Int) (by omega) (n2 (by omega))
  obtain ⟨j, rfl⟩ := Int.eq_ofNat_of_zero_le a
  have hj : j < xs.length := by omega
  exact ⟨_, xs[j], w', e, ix_ln hj, List.getElem_mem hj, hw'⟩
theorem good_1 {d : D} (h : Good 0 1002 d) : Good 1 2011 (.tuple [d]) := (good_tup (k := 0) (z := 1002) 1 (fun e he => by
  rcases List.mem_singleton.mp he with rfl; exact h) (Nat.le_refl _)).mono (by decide) (by decide)
theorem gi {i : Int} (h : i.natAbs < 10 ^ 6) : Good 0 1002 (.int i) := good_int (n2 h)
theorem bent {n : Nat} {w : List D} (hw : Wl (n + 3) w) {ps : List Party} (h : TOk ps) {ds : List D} (hl : ds.length = ps.length) (hg : ∀ d ∈ ds, Good 1 12051 d) :
    ∃ b w', p__law_bent w (teamD ps) (.tuple ds) = Rk (b, w') ∧ Good 3 1000000 b ∧ Wl n w' := by
  have hlen := h.len
  obtain ⟨a, w1, e1, a1, a2, hw1⟩ := draw (n := n + 2) hw (ds.length : Int) (by omega) (n2 (by omega))
  obtain ⟨j, rfl⟩ := Int.eq_ofNat_of_zero_le a1
  have hj : j < ps.length := by omega
  unfold p__law_bent
  simp only [lenF_t, lf_some, bd_ok, e1, ix_team]
  rw [ix_tn (by rw [List.length_map]; exact hj)]
  simp only [lf_some, bd_ok, List.getElem_map, ix_party, negD_i]
  have hp := h.each ps[j] (List.getElem_mem hj)
  generalize hit : ([.int (ps[j].1 : Int), .int (-1), .bool true, .str "0", .tuple [.int 0], .list [.int 0], .tuple [.int (ps[j].1 : Int)], .tuple [.int 0, .int 0], .tuple [.int (-1)], .tuple [.bool true], .int 0, .none] : List D) = its
  have hits : ∀ x ∈ its, Good 1 12051 x := by
    subst hit
    intro x hx
    simp only [List.mem_cons, List.not_mem_nil, or_false] at hx
    rcases hx with rfl | rfl | rfl | rfl | rfl | rfl | rfl | rfl | rfl | rfl | rfl | rfl
    · exact (gi (by omega)).mono (by decide) (by decide)
    · exact (gi (by decide)).mono (by decide) (by decide)
    · exact (good_bool true).mono (by decide) (by decide)
    · exact (DL.good_str (x := "0") (by decide +kernel) (by decide +kernel)).mono (by decide) (by decide)
    · exact (good_1 (gi (by decide))).mono (by decide) (by decide)
    · exact (good_list (k := 0) (z := 1002) 1 (fun e he => by rcases List.mem_singleton.mp he with rfl; exact gi (by decide)) (Nat.le_refl _)).mono (by decide) (by decide)
    · exact (good_1 (gi (by omega))).mono (by decide) (by decide)
    · exact (good_tup (k := 0) (z := 1002) 2 (fun e he => by
        simp only [List.mem_cons, List.not_mem_nil, or_false] at he
        rcases he with rfl | rfl <;> exact gi (by decide)) (Nat.le_refl _)).mono (by decide) (by decide)
    · exact (good_1 (gi (by decide))).mono (by decide) (by decide)
    · exact (good_1 ((good_bool true).mono (by decide) (by decide))).mono (by decide) (by decide)
    · exact (gi (by decide)).mono (by decide) (by decide)
    · exact good_none.mono (by decide) (by decide)
  have hitl : its.length = 12 := by subst hit; rfl
  obtain ⟨r, x, w2, e2, ex, mx, hw2⟩ := pick (n := n + 1) hw1 (xs := its) 12 hitl (by decide) (by decide)
  simp only [itR_i, bd_ok]
  rw [slF_to (by omega)]
  simp only [lf_some, bd_ok]
  rw [show (PyData.int 12 : D) = .int ((12 : Nat) : Int) from rfl, e2]
  simp only [bd_ok, ex, lf_some]
  rw [tupR_ok (Nat.le_of_ble_eq_true rfl)]
  simp only [bd_ok]
  rw [addD_t (by rw [List.length_take]; simp; omega)]
  simp only [lf_some, bd_ok, addD_i, itR_i]
  rw [show ((j : Int) + 1) = ((j + 1 : Nat) : Int) from rfl, slF_from (by omega)]
  simp only [lf_some, bd_ok]
  rw [addD_t (by rw [List.length_append, List.length_take, List.length_drop]; simp; omega)]
  simp only [lf_some, bd_ok]
  generalize hX : ds.take j ++ [x] ++ ds.drop (j + 1) = X
  rw [lstR_ok (Nat.le_of_ble_eq_true rfl)]
  simp only [bd_ok]
  rw [mulX_list (by decide) (by decide) (Nat.le_of_ble_eq_true rfl)]
  simp only [lf_some, bd_ok, slF_1]
  rw [addD_t (by simp; omega)]
  simp only [lf_some, bd_ok, listF_t]
  rw [addD_l (Nat.le_of_ble_eq_true rfl)]
  simp only [lf_some, bd_ok, lenF_l]
  generalize hs : (repD 5 [PyData.tuple X] ++ [.tuple (ds.drop 1), .tuple (ds ++ [.int 0]), .list ds, .none, .int 0, .tuple []] : List D) = some_
  have hX1 : ∀ d ∈ X, Good 1 12051 d := by
    subst hX
    intro d hd
    rcases List.mem_append.mp hd with hd | hd
    · rcases List.mem_append.mp hd with hd | hd
      · exact hg d (List.mem_of_mem_take hd)
      · rcases List.mem_singleton.mp hd with rfl; exact hits _ mx
    · exact hg d (List.mem_of_mem_drop hd)
  have hX2 : X.length ≤ 6 := by subst hX; rw [List.length_append, List.length_append, List.length_take, List.length_drop]; simp; omega
  have gt : ∀ l : List D, (∀ d ∈ l, Good 1 12051 d) → l.length ≤ 6 → Good 3 1000000 (.tuple l) := fun l h1 h2 => (good_tup (k := 1) (z := 12051) 6 h1 h2).mono (by decide) (by decide)
  have hs1 : ∀ d ∈ some_, Good 3 1000000 d := by
    subst hs
    intro d hd
    rcases List.mem_append.mp hd with hd | hd
    · have : d = .tuple X := by
        unfold repD at hd
        simp at hd
        exact hd
      subst this
      exact gt X hX1 hX2
    · simp only [List.mem_cons, List.not_mem_nil, or_false] at hd
      rcases hd with rfl | rfl | rfl | rfl | rfl | rfl
      · exact gt _ (fun d hd => hg d (List.mem_of_mem_drop hd)) (by rw [List.length_drop]; omega)
      · exact gt _ (fun d hd => by
          rcases List.mem_append.mp hd with hd | hd
          · exact hg d hd
          · rcases List.mem_singleton.mp hd with rfl; exact (gi (by decide)).mono (by decide) (by decide)) (by rw [List.length_append]; simp; omega)
      · exact (good_list (k := 1) (z := 12051) 6 hg (by omega)).mono (by decide) (by decide)
      · exact good_none.mono (by decide) (by decide)
      · exact (gi (by decide)).mono (by decide) (by decide)
      · exact gt [] (fun d hd => by simp at hd) (by decide)
  have hs2 : some_.length = 11 := by subst hs; rfl
  obtain ⟨r2, y, w3, e3, ey, my, hw3⟩ := pick (n := n) hw2 (xs := some_) 11 hs2 (by decide) (by decide)
  rw [show (some_.length : Int) = ((11 : Nat) : Int) by rw [hs2], e3]
  simp only [bd_ok, ey, lf_some]
  exact ⟨y, w3, rfl, hs1 y my, hw3⟩
/-! drawn wishes -/
theorem wishes_ok {n : Nat} : ∀ (ps : List Party) {w : List D}, (∀ p ∈ ps, p.1 ≤ 12) → Wl (n + 13 * ps.length) w → ∃ (ws : List (Option (List Nat))) (w' : List D),
    lcI (fun s d => bd (bd (bd (bd (p__law_draw s (.int 3)) fun v => bd (lf (eqX v.1 (.int 0))) fun z => Rk (z, v.2)) fun v => bd (bl v.1) fun b => Rk (b, v.2)) fun c => if c.1 = true then Rk (PyData.none, c.2) else bd (lf (ixD d (.int 0))) fun v => p__law_some c.2 v (.int 2)) fun y => Rk (some y.1, y.2)) w (ps.map partyD) = Rk (ws.map wishD, w') ∧ WsOk ps ws ∧ Wl n w'
  | [], w, _, hw => ⟨[], w, rfl, trivial, hw⟩
  | p :: ps, w, hp, hw => by
    rw [List.length_cons] at hw
    obtain ⟨r, w1, e1, r1, r2, hw1⟩ := draw (n := n + 13 * ps.length + 12) (hw.less (by omega)) 3 (by decide) (by decide)
    have hp1 := hp p (List.mem_cons_self ..)
    by_cases hr : r = 0
    · obtain ⟨ws, w', e, ok, hw'⟩ := wishes_ok (n := n) ps (fun q hq => hp q (List.mem_cons_of_mem _ hq)) (hw1.less (by omega))
      refine ⟨none :: ws, w', ?_, ⟨trivial, ok⟩, hw'⟩
      rw [List.map_cons, List.map_cons]
      refine lcI_some ?_ e
      simp only [e1, bd_ok, eqX_i, lf_some, bl_b]
      rw [decide_eq_true hr]; rfl
    · obtain ⟨l, w2, e2, pw, lt, ll, hw2⟩ := law_some (n := n + 13 * ps.length) (m := p.1) (hw1.less (by omega)) (by omega)
      obtain ⟨ws, w', e, ok, hw'⟩ := wishes_ok (n := n) ps (fun q hq => hp q (List.mem_cons_of_mem _ hq)) hw2
      refine ⟨some l :: ws, w', ?_, ⟨⟨pw, lt, ll⟩, ok⟩, hw'⟩
      rw [List.map_cons, List.map_cons]
      refine lcI_some ?_ e
      simp only [e1, bd_ok, eqX_i, lf_some, bl_b]
      rw [decide_eq_false hr]
      simp only [Bool.false_eq_true, if_false, ix_party, lf_some, bd_ok]
      rw [e2]; rfl
end LK

set_option Elab.async false
set_option linter.all false
set_option maxRecDepth 100000
set_option maxHeartbeats 4000000
namespace LK
open PySem PySem.Spec PyProof.Rows L2 DL T27
theorem repr_two {k z : Nat} {d : D} (h : Good k z d) (hk : k < 64) (hz : 2 * (z + 2) + 3 ≤ 16777216) : ∃ x, reprF [.list [d, d]] = some (.str x) :=
  ⟨_, (good_list (k := k) (z := z) 2 (ds := [d, d]) (fun e he => by
    simp only [List.mem_cons, List.not_mem_nil, or_false] at he
    rcases he with rfl | rfl <;> exact h) (Nat.le_refl _)).repr (by omega) hz⟩
theorem rep2 (d : D) : repD 2 [d] = [d, d] := rfl
theorem good_row {r : List Nat} {m : Nat} (h : ∀ x ∈ r, x < 1000) (hl : r.length ≤ m) : Good 1 (m * 1004 + 3) (rowD r) := good_tup (k := 0) (z := 1002) m (fun d hd => by
  obtain ⟨x, hx, rfl⟩ := List.mem_map.mp hd
  exact good_nat (Nat.lt_trans (h x hx) (by decide))) (by rw [List.length_map]; exact hl)
theorem digits_small {ps : List Party} (h : TOk ps) (k : Nat) : ∀ x ∈ digits ps k, x < 1000 := by
  intro x hx
  obtain ⟨i, hi, e⟩ := List.mem_iff_getElem.mp hx
  have hi' : i < ps.length := by rw [digits_len] at hi; exact hi
  have hz : ((digits ps k)[i], ps[i]) ∈ (digits ps k).zip ps := by
    rw [List.mem_iff_getElem]
    exact ⟨i, by rw [List.length_zip]; omega, by simp⟩
  have h1 := digits_lt2 ps h.pos k _ hz
  have h2 := (h.each _ (List.of_mem_zip hz).2).2.1
  rw [← e]
  exact Nat.lt_trans (Nat.lt_of_lt_of_le h1 h2) (by decide)
/-- a list kept by a loop that is not left, counting what is drawn -/
def Dr (c n : Nat) (rest : List D) (s : List D) : Prop := Wl (n + c * rest.length) s
theorem law_ok (ns : List Int) (hl : ns.length ≤ 63) : p_law (.list (ns.map PyData.int)) = Rk (.bool true) := by
  unfold p_law
  simp only [lenF_l, lf_some, bd_ok, minF_i, maxF_i, List.length_map]
  obtain ⟨m, hm, hm4⟩ : ∃ m : Nat, (if (if (ns.length : Int) < 4 then (ns.length : Int) else 4) > 1 then (if (ns.length : Int) < 4 then (ns.length : Int) else 4) else 1) = (m : Int) ∧ m ≤ 4 := by
    refine ⟨(if (if (ns.length : Int) < 4 then (ns.length : Int) else 4) > 1 then (if (ns.length : Int) < 4 then (ns.length : Int) else 4) else 1).toNat, ?_, ?_⟩ <;> (split <;> split at * <;> omega)
  rw [hm, rngF_map (by omega)]
  simp only [lf_some, bd_ok]
  refine bd_forX (G := fun x => x = Rk (PyData.bool true)) (fun rest _ => ∃ js : List Nat, rest = js.map natD ∧ ∀ j ∈ js, j < 100) ⟨List.range m, rfl, fun j hj => by have := List.mem_range.mp hj; omega⟩ ?_ (fun _ _ => rfl)
  rintro s d rest ⟨js, hjs, hb⟩
  obtain ⟨j, js, rfl⟩ : ∃ j js', js = j :: js' := by
    cases js with
    | nil => cases hjs
    | cons j js' => exact ⟨j, js', rfl⟩
  rw [List.map_cons] at hjs
  obtain ⟨rfl, rfl⟩ := List.cons.inj hjs
  suffices hg : ∀ x, x = _ → ∃ s', x = Rk (Lo.nx s') ∧ _ from hg _ rfl
  intro x hx
  subst hx
  obtain ⟨w, ew, hw⟩ := well ns j (hb j (List.mem_cons_self ..)) hl
  try dsimp only
  rw [show natD j = .int (j : Nat) from rfl, ew]
  simp only [bd_ok]
  rw [show rngF [.int 3] = some ((List.range 3).map natD) from rngF_map (n := 3) (by decide)]
  simp only [lf_some, bd_ok, bd_pair]
  refine bd_forX (G := fun x => ∃ s', x = Rk (Lo.nx s') ∧ ∃ js_1 : List Nat, js.map natD = js_1.map natD ∧ ∀ j ∈ js_1, j < 100) (fun rest s => Wl (1000 * rest.length) s) (hw.less (by simp)) ?_ (fun s' _ => ⟨(), rfl, js, rfl, fun j hj => hb j (List.mem_cons_of_mem _ hj)⟩)
  intro s1 d1 rest1 hw1
  rw [List.length_cons] at hw1
  obtain ⟨ps, w2, e2, ok, hw2⟩ := wide_team (n := 1000 * rest1.length + 900) (hw1.less (by omega))
  have hpr := ok.prod
  have hpp := prod_pos ps ok.pos
  try dsimp only
  rw [e2]
  simp only [bd_ok, law_spots_ok ok]
  rw [show rngF [.int 6] = some ((List.range 6).map natD) from rngF_map (n := 6) (by decide)]
  simp only [lf_some, bd_ok]
  refine bd_forX (G := fun x => ∃ s', x = Rk (Lo.nx s') ∧ Wl (1000 * rest1.length) s') (fun rest s => Wl (1000 * rest1.length + 10 + 100 * rest.length) s) (hw2.less (by simp)) ?_ ?_
  · intro s3 d3 rest3 hw3
    rw [List.length_cons] at hw3
    obtain ⟨r, w4, e4, r1, r2, hw4⟩ := draw (n := 1000 * rest1.length + 10 + 100 * rest3.length + 90) (hw3.less (by omega)) (prodN ps : Int) (by omega) (n2 (by omega))
    obtain ⟨k, rfl⟩ := Int.eq_ofNat_of_zero_le r1
    have hk : k < prodN ps := by omega
    have ixs : ixD (.list ((spotsL ps).map rowD)) (.int (k : Nat)) = some (rowD (digits ps k)) := by
      rw [ix_ln (by rw [List.length_map, spots_len ps ok.pos]; exact hk)]
      simp [spots_eq ps ok.pos]
    try dsimp only
    simp only [lenF_l, List.length_map, spots_len ps ok.pos, lf_some, bd_ok, e4, ixs, place_of_ok ok hk]
    obtain ⟨x1, ex1⟩ := repr_two (good_int (i := (k : Int)) (n2 (by omega))) (by decide) (by decide)
    simp only [ex1, lf_some, bd_ok, neX_same, bl_b, Bool.false_eq_true, if_false, places_at_ok ok hk]
    obtain ⟨x2, ex2⟩ := repr_two (good_row (m := 4) (digits_small ok k) (by rw [digits_len]; exact ok.len.2)) (by decide) (by decide)
    rw [mulX_list (by decide) (by decide) (Nat.le_of_ble_eq_true rfl), rep2]
    simp only [ex2, lf_some, bd_ok, neX_same, bl_b, Bool.false_eq_true, if_false, ix_team, itR'_t]
    obtain ⟨ws, w5, e5, wok, hw5⟩ := wishes_ok (n := 1000 * rest1.length + 10 + 100 * rest3.length + 20) ps (fun p hp => (ok.each p hp).2.1) (hw4.less (by have := ok.len; omega))
    rw [e5]
    simp only [bd_ok]
    rw [capI_ok (by rw [List.length_map, wok.len]; have := ok.len; omega)]
    simp only [bd_ok, lf_some, tupleF_l, goals_due_ok ok wok, goals_with_ok ok wok]
    have gdue : Good 1 402003 (.tuple (((List.range (prodN ps)).filter fun k => fitsB (digits ps k) ws).map natD)) := (good_row (m := 400) (fun x hx => by
      have := List.mem_range.mp (List.mem_filter.mp hx).1; omega) (Nat.le_trans (List.length_filter_le _ _) (by rw [List.length_range]; exact hpr))).mono (by decide) (by decide)
    obtain ⟨x3, ex3⟩ := repr_two gdue (by decide) (by decide)
    simp only [ex3, lf_some, bd_ok, neX_same, bl_b, Bool.false_eq_true, if_false, itR'_t]
    refine bd_forX (G := fun x => ∃ s', x = Rk (Lo.nx s') ∧ Wl (1000 * rest1.length + 10 + 100 * rest3.length) s') (fun rest s => (∀ t ∈ rest, t = .tuple [.int 0, rowD (digits ps k)] ∨ t = .tuple [.int 1, .tuple (ws.map wishD)]) ∧ Wl (1000 * rest1.length + 10 + 100 * rest3.length + 3 * rest.length) s) ⟨fun t ht => by simpa using ht, hw5.less (by simp)⟩ ?_ (fun s' h => ⟨s', rfl, h.2⟩)
    rintro s6 d6 rest6 ⟨ht, hw6⟩
    rw [List.length_cons] at hw6
    have ht6 : ∀ t ∈ rest6, t = .tuple [.int 0, rowD (digits ps k)] ∨ t = .tuple [.int 1, .tuple (ws.map wishD)] := fun t h => ht t (List.mem_cons_of_mem _ h)
    have turn : ∀ (which : Int) (ds : List D), (which = 0 ∨ which = 1) → ds.length = ps.length → (∀ d ∈ ds, Good 1 12051 d) → d6 = .tuple [.int which, .tuple ds] → ∃ b w', p__law_bent s6 (teamD ps) (.tuple ds) = Rk (b, w') ∧ (plc ps b = false → p__law_refused (.int 0) (teamD ps) b = Rk (.bool true)) ∧ (wsh ps b = false → p__law_refused (.int 1) (teamD ps) b = Rk (.bool true)) ∧ Small b ∧ Wl (1000 * rest1.length + 10 + 100 * rest3.length + 3 * rest6.length) w' := by
      intro which ds hwh hdl hdg _
      obtain ⟨b, w', eb, gb, hw'⟩ := bent (n := 1000 * rest1.length + 10 + 100 * rest3.length + 3 * rest6.length) (hw6.less (by omega)) ok hdl hdg
      exact ⟨b, w', eb, refused0 ok gb (by decide) (by decide), refused1 ok gb (by decide) (by decide), good_small gb (by decide), hw'⟩
    rcases ht d6 (List.mem_cons_self ..) with rfl | rfl
    · obtain ⟨b, w', eb, r0, r1', sb, hw'⟩ := turn 0 ((digits ps k).map natD) (.inl rfl) (by rw [List.length_map, digits_len]) (fun d hd => by
        obtain ⟨x, hx, rfl⟩ := List.mem_map.mp hd
        exact (good_nat (Nat.lt_trans (digits_small ok k x hx) (by decide))).mono (by decide) (by decide)) rfl
      refine ⟨w', ?_, ht6, hw'⟩
      try dsimp only
      simp only [un2_t, bd_ok, rowD, eb, law_are_places _ _ ok.len.2, law_are_wishes _ _ ok.len.2 sb, ix_l0, lf_some, bl_b]
      cases hp : plc ps b with
      | true => rfl
      | false => simp only [Bool.not_false, if_true, r0 hp, bd_ok, bl_b, Bool.not_true]; rfl
    · obtain ⟨b, w', eb, r0, r1', sb, hw'⟩ := turn 1 (ws.map wishD) (.inr rfl) (by rw [List.length_map, wok.len]) (fun d hd => by
        obtain ⟨x, hx, rfl⟩ := List.mem_map.mp hd
        obtain ⟨i, hi, rfl⟩ := List.mem_iff_getElem.mp hx
        have hz : (ws[i], ps[i]'(by rw [← wok.len]; exact hi)) ∈ ws.zip ps := by
          rw [List.mem_iff_getElem]
          exact ⟨i, by rw [List.length_zip]; have := wok.len; omega, by simp⟩
        exact good_wish (ok.each _ (List.of_mem_zip hz).2).2.1 (wok.mem _ hz)) rfl
      refine ⟨w', ?_, ht6, hw'⟩
      try dsimp only
      simp only [un2_t, bd_ok, eb, law_are_places _ _ ok.len.2, law_are_wishes _ _ ok.len.2 sb, ix_l1, lf_some, bl_b]
      cases hp : wsh ps b with
      | true => rfl
      | false => simp only [Bool.not_false, if_true, r1' hp, bd_ok, bl_b, Bool.not_true]; rfl
  · intro s7 hw7
    try dsimp only
    simp only [negD_i, lenF_l, List.length_map, spots_len ps ok.pos, lf_some, bd_ok]
    rw [show powD (.int 10) (.int 9) = some (.int (10 ^ 9)) from powD_n 9 (by decide)]
    simp only [lf_some, bd_ok, thn_nx]
    obtain ⟨r, x, w8, e8, ex8, mx, hw8⟩ := pick (n := 1000 * rest1.length) (hw7.less (by omega)) (xs := [.int (-1), .int (prodN ps : Int), .int (10 ^ 9)]) 3 rfl (by decide) (by decide)
    rw [show p__law_draw s7 (.int 3) = Rk (.int r, w8) from e8]
    simp only [bd_ok, ex8, lf_some]
    have hr : p__law_refused (.int 2) (teamD ps) x = Rk (.bool true) := by
      simp only [List.mem_cons, List.not_mem_nil, or_false] at mx
      rcases mx with rfl | rfl | rfl
      · exact refused2 ok (.inl (by decide)) (n2 (by decide))
      · exact refused2 ok (.inr (by omega)) (n2 (by omega))
      · exact refused2 ok (.inr (by omega)) (Nat.lt_trans (by decide : ((10 : Int) ^ 9).natAbs < 10 ^ 10) (by decide))
    rw [hr]
    exact ⟨w8, rfl, hw8⟩
theorem law_true (ns : List Int) (h : ns.length ≤ 63) : ∃ w, F_law [] [.list (ns.map PyData.int)] = some (.ok (.dat (.bool true)), w) := by
  have g := g_law (.list (ns.map PyData.int))
  rw [law_ok ns h] at g
  obtain ⟨r, w, e, q⟩ := g
  cases r with
  | dat d => exact ⟨w, by rw [e]; cases (show d = .bool true from q); rfl⟩
  | new es => exact nomatch (show PyData.list es = .bool true from q)
end LK

set_option Elab.async false
set_option linter.all false
set_option maxRecDepth 100000
set_option maxHeartbeats 4000000
namespace LK
open PySem PySem.Spec PyProof.Rows L2 DL
theorem cx_none {P : Program} {w : World} {H : Hp} {s : Shared} {e : Value} {s' : Shared} (h : L2.CX P w [] H s (fun _ _ _ => False) e s') : False := by
  obtain ⟨_, _, _, _, _, _, h⟩ := h
  simp at h

def spLaw (K : PySem.W.Frag) : Sp := fun vs H Q E => ∃ (a : Addr) (ns : List Int), vs = [.ref a] ∧ SqL K H a (ns.map V.int) ∧ ns.length ≤ 63 ∧ ∀ H', Q (.bl true) H'
theorem spLaw_imp {K : PySem.W.Frag} {mg : Str → Option Value} (vs : List V) (H : Hp) (Q : VK) (E : XK) (h : spLaw K vs H Q E) : spD ⟨K, mg⟩ false 1 F_law vs H Q E := by
  obtain ⟨a, ns, rfl, hS, hl, q⟩ := h
  refine ⟨rfl, H, none, [.ref a], [], [.list (ns.map PyData.int)], rfl, rfl, Same.refl H, trivial, .cons (.lst hS (RpAll.ints ns)) .nil, ?_⟩
  obtain ⟨w, e⟩ := law_true ns hl
  rw [e]
  intro v F' H' s s' n fr lt rv
  cases (show Rp ⟨K, mg⟩ F' v (.bool true) from rv)
  exact q H'
theorem walk {l : PySem.W.OpenLaw} {q : Program} {loose : List Str} {XP : (Str → Option Value) → Heap → Prop} {YP : World → Heap → Prop} {d : DefRec} {K : Params → PySem.W.Frag} (hn : l.most = some 63) (hdf : d.params.defaults = [])
    (hY : ∀ (w : World) (h : Heap), YP w h → (K w.params).In h)
    (F : ∀ (w : World) (mg : Str → Option Value) (fa : Addr) (h : Heap), (K w.params).In h → h.Ns mainGlobals mg → mg d.name = some (.ref fa) →
      ∃ fd : FuncData, (∀ (s : Shared) (u : Value), BindsTo s fd ⟨[u], []⟩ [("script", u)]) ∧ ∀ base : Heap, (K w.params).In base → base.Ns mainGlobals mg → FnOkG l.prog w (K w.params) mg base (L2.CX l.prog w) 13 fa fd ["script"] (spLaw (K w.params))) :
    PySem.W.WalkO q loose XP YP l.row.toRowW d [] (fun f vs => PySem.call f vs) :=
  walk_ofG (n := 63) (k := 13) (x := "script") (CX := fun w => L2.CX l.prog w) (sp := fun w => spLaw (K w.params)) hn (by decide) hdf ⟨rfl, by decide, by decide⟩ hY F (fun _ _ a ns hl _ hS => ⟨a, ns, rfl, hS, hl, fun _ => rfl⟩) fun _ _ _ _ _ z => cx_none z
theorem all_mk {w : World} {K : PySem.W.Frag} {h : Heap} {mg : Str → Option Value} {fa : Addr} (X : K.In h) (G : h.Ns mainGlobals mg) (hfa : mg "law" = some (.ref fa))
    (pI : PySem.LeX.IP)
    {f_is_integer f_is_between f_is_tuple f_are_rising f_is_ascending f_need_number f_anew f_is_timer f_are_timers f_is_event f_are_changes f_is_begin f_is_party_event f_is_party_step f_is_party f_is_a_team f_product_of f_need_team f_index_of f_places_of f_are_party_places f_place_of f_places_at f_are_wanted f_goals_by f_goals_with f__law_well f__law_draw f__law_some f__law_is_int f__law_rises f__law_spots f__law_wide_team f__law_bent f__law_are_places f__law_are_wishes f__law_goals_due f__law_refused f_law C_LeaseError C_InvalidNumber C_InvalidPlaces C_InvalidTeam fI cc cda : Addr}
    {od_is_integer an_is_integer : Option Addr} {sl_is_integer : Array (Option Value)} {oc_is_integer kV_is_integer dc_is_integer pm_is_integer cd_is_integer ct_is_integer : Value}
    {od_is_between an_is_between : Option Addr} {sl_is_between : Array (Option Value)} {oc_is_between kV_is_between dc_is_between pm_is_between cd_is_between ct_is_between : Value}
    {od_is_tuple an_is_tuple : Option Addr} {sl_is_tuple : Array (Option Value)} {oc_is_tuple kV_is_tuple dc_is_tuple pm_is_tuple cd_is_tuple ct_is_tuple : Value}
    {od_are_rising an_are_rising : Option Addr} {sl_are_rising : Array (Option Value)} {oc_are_rising kV_are_rising dc_are_rising pm_are_rising cd_are_rising ct_are_rising : Value}
    {od_is_ascending an_is_ascending : Option Addr} {sl_is_ascending : Array (Option Value)} {oc_is_ascending kV_is_ascending dc_is_ascending pm_is_ascending cd_is_ascending ct_is_ascending : Value}
    {od_need_number an_need_number : Option Addr} {sl_need_number : Array (Option Value)} {oc_need_number kV_need_number dc_need_number pm_need_number cd_need_number ct_need_number : Value}
    {od_anew an_anew : Option Addr} {sl_anew : Array (Option Value)} {oc_anew kV_anew dc_anew pm_anew cd_anew ct_anew : Value}
    {od_is_timer an_is_timer : Option Addr} {sl_is_timer : Array (Option Value)} {oc_is_timer kV_is_timer dc_is_timer pm_is_timer cd_is_timer ct_is_timer : Value}
    {od_are_timers an_are_timers : Option Addr} {sl_are_timers : Array (Option Value)} {oc_are_timers kV_are_timers dc_are_timers pm_are_timers cd_are_timers ct_are_timers : Value}
    {od_is_event an_is_event : Option Addr} {sl_is_event : Array (Option Value)} {oc_is_event kV_is_event dc_is_event pm_is_event cd_is_event ct_is_event : Value}
    {od_are_changes an_are_changes : Option Addr} {sl_are_changes : Array (Option Value)} {oc_are_changes kV_are_changes dc_are_changes pm_are_changes cd_are_changes ct_are_changes : Value}
    {od_is_begin an_is_begin : Option Addr} {sl_is_begin : Array (Option Value)} {oc_is_begin kV_is_begin dc_is_begin pm_is_begin cd_is_begin ct_is_begin : Value}
    {od_is_party_event an_is_party_event : Option Addr} {sl_is_party_event : Array (Option Value)} {oc_is_party_event kV_is_party_event dc_is_party_event pm_is_party_event cd_is_party_event ct_is_party_event : Value}
    {od_is_party_step an_is_party_step : Option Addr} {sl_is_party_step : Array (Option Value)} {oc_is_party_step kV_is_party_step dc_is_party_step pm_is_party_step cd_is_party_step ct_is_party_step : Value}
    {od_is_party an_is_party : Option Addr} {sl_is_party : Array (Option Value)} {oc_is_party kV_is_party dc_is_party pm_is_party cd_is_party ct_is_party : Value}
    {od_is_a_team an_is_a_team : Option Addr} {sl_is_a_team : Array (Option Value)} {oc_is_a_team kV_is_a_team dc_is_a_team pm_is_a_team cd_is_a_team ct_is_a_team : Value}
    {od_product_of an_product_of : Option Addr} {sl_product_of : Array (Option Value)} {oc_product_of kV_product_of dc_product_of pm_product_of cd_product_of ct_product_of : Value}
    {od_need_team an_need_team : Option Addr} {sl_need_team : Array (Option Value)} {oc_need_team kV_need_team dc_need_team pm_need_team cd_need_team ct_need_team : Value}
    {od_index_of an_index_of : Option Addr} {sl_index_of : Array (Option Value)} {oc_index_of kV_index_of dc_index_of pm_index_of cd_index_of ct_index_of : Value}
    {od_places_of an_places_of : Option Addr} {sl_places_of : Array (Option Value)} {oc_places_of kV_places_of dc_places_of pm_places_of cd_places_of ct_places_of : Value}
    {od_are_party_places an_are_party_places : Option Addr} {sl_are_party_places : Array (Option Value)} {oc_are_party_places kV_are_party_places dc_are_party_places pm_are_party_places cd_are_party_places ct_are_party_places : Value}
    {od_place_of an_place_of : Option Addr} {sl_place_of : Array (Option Value)} {oc_place_of kV_place_of dc_place_of pm_place_of cd_place_of ct_place_of : Value}
    {od_places_at an_places_at : Option Addr} {sl_places_at : Array (Option Value)} {oc_places_at kV_places_at dc_places_at pm_places_at cd_places_at ct_places_at : Value}
    {od_are_wanted an_are_wanted : Option Addr} {sl_are_wanted : Array (Option Value)} {oc_are_wanted kV_are_wanted dc_are_wanted pm_are_wanted cd_are_wanted ct_are_wanted : Value}
    {od_goals_by an_goals_by : Option Addr} {sl_goals_by : Array (Option Value)} {oc_goals_by kV_goals_by dc_goals_by pm_goals_by cd_goals_by ct_goals_by : Value}
    {od_goals_with an_goals_with : Option Addr} {sl_goals_with : Array (Option Value)} {oc_goals_with kV_goals_with dc_goals_with pm_goals_with cd_goals_with ct_goals_with : Value}
    {od__law_well an__law_well : Option Addr} {sl__law_well : Array (Option Value)} {oc__law_well kV__law_well dc__law_well pm__law_well cd__law_well ct__law_well : Value}
    {od__law_draw an__law_draw : Option Addr} {sl__law_draw : Array (Option Value)} {oc__law_draw kV__law_draw dc__law_draw pm__law_draw cd__law_draw ct__law_draw : Value}
    {od__law_some an__law_some : Option Addr} {sl__law_some : Array (Option Value)} {oc__law_some kV__law_some dc__law_some pm__law_some cd__law_some ct__law_some : Value}
    {od__law_is_int an__law_is_int : Option Addr} {sl__law_is_int : Array (Option Value)} {oc__law_is_int kV__law_is_int dc__law_is_int pm__law_is_int cd__law_is_int ct__law_is_int : Value}
    {od__law_rises an__law_rises : Option Addr} {sl__law_rises : Array (Option Value)} {oc__law_rises kV__law_rises dc__law_rises pm__law_rises cd__law_rises ct__law_rises : Value}
    {od__law_spots an__law_spots : Option Addr} {sl__law_spots : Array (Option Value)} {oc__law_spots kV__law_spots dc__law_spots pm__law_spots cd__law_spots ct__law_spots : Value}
    {od__law_wide_team an__law_wide_team : Option Addr} {sl__law_wide_team : Array (Option Value)} {oc__law_wide_team kV__law_wide_team dc__law_wide_team pm__law_wide_team cd__law_wide_team ct__law_wide_team : Value}
    {od__law_bent an__law_bent : Option Addr} {sl__law_bent : Array (Option Value)} {oc__law_bent kV__law_bent dc__law_bent pm__law_bent cd__law_bent ct__law_bent : Value}
    {od__law_are_places an__law_are_places : Option Addr} {sl__law_are_places : Array (Option Value)} {oc__law_are_places kV__law_are_places dc__law_are_places pm__law_are_places cd__law_are_places ct__law_are_places : Value}
    {od__law_are_wishes an__law_are_wishes : Option Addr} {sl__law_are_wishes : Array (Option Value)} {oc__law_are_wishes kV__law_are_wishes dc__law_are_wishes pm__law_are_wishes cd__law_are_wishes ct__law_are_wishes : Value}
    {od__law_goals_due an__law_goals_due : Option Addr} {sl__law_goals_due : Array (Option Value)} {oc__law_goals_due kV__law_goals_due dc__law_goals_due pm__law_goals_due cd__law_goals_due ct__law_goals_due : Value}
    {od__law_refused an__law_refused : Option Addr} {sl__law_refused : Array (Option Value)} {oc__law_refused kV__law_refused dc__law_refused pm__law_refused cd__law_refused ct__law_refused : Value}
    {od_law an_law : Option Addr} {sl_law : Array (Option Value)} {oc_law kV_law dc_law pm_law cd_law ct_law : Value}
    {t_MOST_TIMERS : Tok}
    {t_MOST_BOUND : Tok}
    {t_TIMER : Tok}
    {t_FREE : Tok}
    {t_MOST_PARTIES : Tok}
    {t_MOST_PLACES : Tok}
    {t_MOST_STEPS : Tok}
    {t_MOST_SIGNAL : Tok}
    {t_MOST_PRODUCT : Tok}
    {t_HEARS : Tok}
    {nm_LeaseError qn_LeaseError : Str} {N_LeaseError : Addr} {bs_LeaseError sub_LeaseError : List Value} {sn_LeaseError : List Str} {ab_LeaseError : Bool} {col_LeaseError : Option Bool} {dd_LeaseError : Option Addr} {m0_LeaseError m1_LeaseError m2_LeaseError m3_LeaseError m5_LeaseError : Option Value}
    {nm_InvalidNumber qn_InvalidNumber : Str} {N_InvalidNumber : Addr} {bs_InvalidNumber sub_InvalidNumber : List Value} {sn_InvalidNumber : List Str} {ab_InvalidNumber : Bool} {col_InvalidNumber : Option Bool} {dd_InvalidNumber : Option Addr} {m0_InvalidNumber m1_InvalidNumber m2_InvalidNumber m3_InvalidNumber m5_InvalidNumber : Option Value}
    {nm_InvalidPlaces qn_InvalidPlaces : Str} {N_InvalidPlaces : Addr} {bs_InvalidPlaces sub_InvalidPlaces : List Value} {sn_InvalidPlaces : List Str} {ab_InvalidPlaces : Bool} {col_InvalidPlaces : Option Bool} {dd_InvalidPlaces : Option Addr} {m0_InvalidPlaces m1_InvalidPlaces m2_InvalidPlaces m3_InvalidPlaces m5_InvalidPlaces : Option Value}
    {nm_InvalidTeam qn_InvalidTeam : Str} {N_InvalidTeam : Addr} {bs_InvalidTeam sub_InvalidTeam : List Value} {sn_InvalidTeam : List Str} {ab_InvalidTeam : Bool} {col_InvalidTeam : Option Bool} {dd_InvalidTeam : Option Addr} {m0_InvalidTeam m1_InvalidTeam m2_InvalidTeam m3_InvalidTeam m5_InvalidTeam : Option Value}
    {odI anI cdd cld : Option Addr} {ocI dcI pmI ctI ccl cl : Value} {slI ccs csl : Array (Option Value)} {vsC : Array Value} {fileC : Str} {tfC : Tok}
    (a_is_integer : PySem.W.nsIn K mainGlobals "is_integer" = some (some (.ref f_is_integer)))
    (l_is_integer : K.lookup f_is_integer = some ⟨oc_is_integer, od_is_integer, .func (PySem.W.fnOf "is_integer" "is_integer" (defArgs st_is_integer) (defBody st_is_integer) (defScope st_is_integer) .none kV_is_integer dc_is_integer pm_is_integer an_is_integer cd_is_integer ct_is_integer), sl_is_integer⟩)
    (c_is_integer : PySem.W.codeIn K cd_is_integer "is_integer" = true)
    (k_is_integer : PySem.W.keepIn K (.ref f_is_integer) = true)
    (a_is_between : PySem.W.nsIn K mainGlobals "is_between" = some (some (.ref f_is_between)))
    (l_is_between : K.lookup f_is_between = some ⟨oc_is_between, od_is_between, .func (PySem.W.fnOf "is_between" "is_between" (defArgs st_is_between) (defBody st_is_between) (defScope st_is_between) .none kV_is_between dc_is_between pm_is_between an_is_between cd_is_between ct_is_between), sl_is_between⟩)
    (c_is_between : PySem.W.codeIn K cd_is_between "is_between" = true)
    (k_is_between : PySem.W.keepIn K (.ref f_is_between) = true)
    (a_is_tuple : PySem.W.nsIn K mainGlobals "is_tuple" = some (some (.ref f_is_tuple)))
    (l_is_tuple : K.lookup f_is_tuple = some ⟨oc_is_tuple, od_is_tuple, .func (PySem.W.fnOf "is_tuple" "is_tuple" (defArgs st_is_tuple) (defBody st_is_tuple) (defScope st_is_tuple) .none kV_is_tuple dc_is_tuple pm_is_tuple an_is_tuple cd_is_tuple ct_is_tuple), sl_is_tuple⟩)
    (c_is_tuple : PySem.W.codeIn K cd_is_tuple "is_tuple" = true)
    (k_is_tuple : PySem.W.keepIn K (.ref f_is_tuple) = true)
    (a_are_rising : PySem.W.nsIn K mainGlobals "are_rising" = some (some (.ref f_are_rising)))
    (l_are_rising : K.lookup f_are_rising = some ⟨oc_are_rising, od_are_rising, .func (PySem.W.fnOf "are_rising" "are_rising" (defArgs st_are_rising) (defBody st_are_rising) (defScope st_are_rising) .none kV_are_rising dc_are_rising pm_are_rising an_are_rising cd_are_rising ct_are_rising), sl_are_rising⟩)
    (c_are_rising : PySem.W.codeIn K cd_are_rising "are_rising" = true)
    (k_are_rising : PySem.W.keepIn K (.ref f_are_rising) = true)
    (a_is_ascending : PySem.W.nsIn K mainGlobals "is_ascending" = some (some (.ref f_is_ascending)))
    (l_is_ascending : K.lookup f_is_ascending = some ⟨oc_is_ascending, od_is_ascending, .func (PySem.W.fnOf "is_ascending" "is_ascending" (defArgs st_is_ascending) (defBody st_is_ascending) (defScope st_is_ascending) .none kV_is_ascending dc_is_ascending pm_is_ascending an_is_ascending cd_is_ascending ct_is_ascending), sl_is_ascending⟩)
    (c_is_ascending : PySem.W.codeIn K cd_is_ascending "is_ascending" = true)
    (k_is_ascending : PySem.W.keepIn K (.ref f_is_ascending) = true)
    (a_need_number : PySem.W.nsIn K mainGlobals "need_number" = some (some (.ref f_need_number)))
    (l_need_number : K.lookup f_need_number = some ⟨oc_need_number, od_need_number, .func (PySem.W.fnOf "need_number" "need_number" (defArgs st_need_number) (defBody st_need_number) (defScope st_need_number) .none kV_need_number dc_need_number pm_need_number an_need_number cd_need_number ct_need_number), sl_need_number⟩)
    (c_need_number : PySem.W.codeIn K cd_need_number "need_number" = true)
    (k_need_number : PySem.W.keepIn K (.ref f_need_number) = true)
    (a_anew : PySem.W.nsIn K mainGlobals "anew" = some (some (.ref f_anew)))
    (l_anew : K.lookup f_anew = some ⟨oc_anew, od_anew, .func (PySem.W.fnOf "anew" "anew" (defArgs st_anew) (defBody st_anew) (defScope st_anew) .none kV_anew dc_anew pm_anew an_anew cd_anew ct_anew), sl_anew⟩)
    (c_anew : PySem.W.codeIn K cd_anew "anew" = true)
    (k_anew : PySem.W.keepIn K (.ref f_anew) = true)
    (a_is_timer : PySem.W.nsIn K mainGlobals "is_timer" = some (some (.ref f_is_timer)))
    (l_is_timer : K.lookup f_is_timer = some ⟨oc_is_timer, od_is_timer, .func (PySem.W.fnOf "is_timer" "is_timer" (defArgs st_is_timer) (defBody st_is_timer) (defScope st_is_timer) .none kV_is_timer dc_is_timer pm_is_timer an_is_timer cd_is_timer ct_is_timer), sl_is_timer⟩)
    (c_is_timer : PySem.W.codeIn K cd_is_timer "is_timer" = true)
    (k_is_timer : PySem.W.keepIn K (.ref f_is_timer) = true)
    (a_are_timers : PySem.W.nsIn K mainGlobals "are_timers" = some (some (.ref f_are_timers)))
    (l_are_timers : K.lookup f_are_timers = some ⟨oc_are_timers, od_are_timers, .func (PySem.W.fnOf "are_timers" "are_timers" (defArgs st_are_timers) (defBody st_are_timers) (defScope st_are_timers) .none kV_are_timers dc_are_timers pm_are_timers an_are_timers cd_are_timers ct_are_timers), sl_are_timers⟩)
    (c_are_timers : PySem.W.codeIn K cd_are_timers "are_timers" = true)
    (k_are_timers : PySem.W.keepIn K (.ref f_are_timers) = true)
    (a_is_event : PySem.W.nsIn K mainGlobals "is_event" = some (some (.ref f_is_event)))
    (l_is_event : K.lookup f_is_event = some ⟨oc_is_event, od_is_event, .func (PySem.W.fnOf "is_event" "is_event" (defArgs st_is_event) (defBody st_is_event) (defScope st_is_event) .none kV_is_event dc_is_event pm_is_event an_is_event cd_is_event ct_is_event), sl_is_event⟩)
    (c_is_event : PySem.W.codeIn K cd_is_event "is_event" = true)
    (k_is_event : PySem.W.keepIn K (.ref f_is_event) = true)
    (a_are_changes : PySem.W.nsIn K mainGlobals "are_changes" = some (some (.ref f_are_changes)))
    (l_are_changes : K.lookup f_are_changes = some ⟨oc_are_changes, od_are_changes, .func (PySem.W.fnOf "are_changes" "are_changes" (defArgs st_are_changes) (defBody st_are_changes) (defScope st_are_changes) .none kV_are_changes dc_are_changes pm_are_changes an_are_changes cd_are_changes ct_are_changes), sl_are_changes⟩)
    (c_are_changes : PySem.W.codeIn K cd_are_changes "are_changes" = true)
    (k_are_changes : PySem.W.keepIn K (.ref f_are_changes) = true)
    (a_is_begin : PySem.W.nsIn K mainGlobals "is_begin" = some (some (.ref f_is_begin)))
    (l_is_begin : K.lookup f_is_begin = some ⟨oc_is_begin, od_is_begin, .func (PySem.W.fnOf "is_begin" "is_begin" (defArgs st_is_begin) (defBody st_is_begin) (defScope st_is_begin) .none kV_is_begin dc_is_begin pm_is_begin an_is_begin cd_is_begin ct_is_begin), sl_is_begin⟩)
    (c_is_begin : PySem.W.codeIn K cd_is_begin "is_begin" = true)
    (k_is_begin : PySem.W.keepIn K (.ref f_is_begin) = true)
    (a_is_party_event : PySem.W.nsIn K mainGlobals "is_party_event" = some (some (.ref f_is_party_event)))
    (l_is_party_event : K.lookup f_is_party_event = some ⟨oc_is_party_event, od_is_party_event, .func (PySem.W.fnOf "is_party_event" "is_party_event" (defArgs st_is_party_event) (defBody st_is_party_event) (defScope st_is_party_event) .none kV_is_party_event dc_is_party_event pm_is_party_event an_is_party_event cd_is_party_event ct_is_party_event), sl_is_party_event⟩)
    (c_is_party_event : PySem.W.codeIn K cd_is_party_event "is_party_event" = true)
    (k_is_party_event : PySem.W.keepIn K (.ref f_is_party_event) = true)
    (a_is_party_step : PySem.W.nsIn K mainGlobals "is_party_step" = some (some (.ref f_is_party_step)))
    (l_is_party_step : K.lookup f_is_party_step = some ⟨oc_is_party_step, od_is_party_step, .func (PySem.W.fnOf "is_party_step" "is_party_step" (defArgs st_is_party_step) (defBody st_is_party_step) (defScope st_is_party_step) .none kV_is_party_step dc_is_party_step pm_is_party_step an_is_party_step cd_is_party_step ct_is_party_step), sl_is_party_step⟩)
    (c_is_party_step : PySem.W.codeIn K cd_is_party_step "is_party_step" = true)
    (k_is_party_step : PySem.W.keepIn K (.ref f_is_party_step) = true)
    (a_is_party : PySem.W.nsIn K mainGlobals "is_party" = some (some (.ref f_is_party)))
    (l_is_party : K.lookup f_is_party = some ⟨oc_is_party, od_is_party, .func (PySem.W.fnOf "is_party" "is_party" (defArgs st_is_party) (defBody st_is_party) (defScope st_is_party) .none kV_is_party dc_is_party pm_is_party an_is_party cd_is_party ct_is_party), sl_is_party⟩)
    (c_is_party : PySem.W.codeIn K cd_is_party "is_party" = true)
    (k_is_party : PySem.W.keepIn K (.ref f_is_party) = true)
    (a_is_a_team : PySem.W.nsIn K mainGlobals "is_a_team" = some (some (.ref f_is_a_team)))
    (l_is_a_team : K.lookup f_is_a_team = some ⟨oc_is_a_team, od_is_a_team, .func (PySem.W.fnOf "is_a_team" "is_a_team" (defArgs st_is_a_team) (defBody st_is_a_team) (defScope st_is_a_team) .none kV_is_a_team dc_is_a_team pm_is_a_team an_is_a_team cd_is_a_team ct_is_a_team), sl_is_a_team⟩)
    (c_is_a_team : PySem.W.codeIn K cd_is_a_team "is_a_team" = true)
    (k_is_a_team : PySem.W.keepIn K (.ref f_is_a_team) = true)
    (a_product_of : PySem.W.nsIn K mainGlobals "product_of" = some (some (.ref f_product_of)))
    (l_product_of : K.lookup f_product_of = some ⟨oc_product_of, od_product_of, .func (PySem.W.fnOf "product_of" "product_of" (defArgs st_product_of) (defBody st_product_of) (defScope st_product_of) .none kV_product_of dc_product_of pm_product_of an_product_of cd_product_of ct_product_of), sl_product_of⟩)
    (c_product_of : PySem.W.codeIn K cd_product_of "product_of" = true)
    (k_product_of : PySem.W.keepIn K (.ref f_product_of) = true)
    (a_need_team : PySem.W.nsIn K mainGlobals "need_team" = some (some (.ref f_need_team)))
    (l_need_team : K.lookup f_need_team = some ⟨oc_need_team, od_need_team, .func (PySem.W.fnOf "need_team" "need_team" (defArgs st_need_team) (defBody st_need_team) (defScope st_need_team) .none kV_need_team dc_need_team pm_need_team an_need_team cd_need_team ct_need_team), sl_need_team⟩)
    (c_need_team : PySem.W.codeIn K cd_need_team "need_team" = true)
    (k_need_team : PySem.W.keepIn K (.ref f_need_team) = true)
    (a_index_of : PySem.W.nsIn K mainGlobals "index_of" = some (some (.ref f_index_of)))
    (l_index_of : K.lookup f_index_of = some ⟨oc_index_of, od_index_of, .func (PySem.W.fnOf "index_of" "index_of" (defArgs st_index_of) (defBody st_index_of) (defScope st_index_of) .none kV_index_of dc_index_of pm_index_of an_index_of cd_index_of ct_index_of), sl_index_of⟩)
    (c_index_of : PySem.W.codeIn K cd_index_of "index_of" = true)
    (k_index_of : PySem.W.keepIn K (.ref f_index_of) = true)
    (a_places_of : PySem.W.nsIn K mainGlobals "places_of" = some (some (.ref f_places_of)))
    (l_places_of : K.lookup f_places_of = some ⟨oc_places_of, od_places_of, .func (PySem.W.fnOf "places_of" "places_of" (defArgs st_places_of) (defBody st_places_of) (defScope st_places_of) .none kV_places_of dc_places_of pm_places_of an_places_of cd_places_of ct_places_of), sl_places_of⟩)
    (c_places_of : PySem.W.codeIn K cd_places_of "places_of" = true)
    (k_places_of : PySem.W.keepIn K (.ref f_places_of) = true)
    (a_are_party_places : PySem.W.nsIn K mainGlobals "are_party_places" = some (some (.ref f_are_party_places)))
    (l_are_party_places : K.lookup f_are_party_places = some ⟨oc_are_party_places, od_are_party_places, .func (PySem.W.fnOf "are_party_places" "are_party_places" (defArgs st_are_party_places) (defBody st_are_party_places) (defScope st_are_party_places) .none kV_are_party_places dc_are_party_places pm_are_party_places an_are_party_places cd_are_party_places ct_are_party_places), sl_are_party_places⟩)
    (c_are_party_places : PySem.W.codeIn K cd_are_party_places "are_party_places" = true)
    (k_are_party_places : PySem.W.keepIn K (.ref f_are_party_places) = true)
    (a_place_of : PySem.W.nsIn K mainGlobals "place_of" = some (some (.ref f_place_of)))
    (l_place_of : K.lookup f_place_of = some ⟨oc_place_of, od_place_of, .func (PySem.W.fnOf "place_of" "place_of" (defArgs st_place_of) (defBody st_place_of) (defScope st_place_of) .none kV_place_of dc_place_of pm_place_of an_place_of cd_place_of ct_place_of), sl_place_of⟩)
    (c_place_of : PySem.W.codeIn K cd_place_of "place_of" = true)
    (k_place_of : PySem.W.keepIn K (.ref f_place_of) = true)
    (a_places_at : PySem.W.nsIn K mainGlobals "places_at" = some (some (.ref f_places_at)))
    (l_places_at : K.lookup f_places_at = some ⟨oc_places_at, od_places_at, .func (PySem.W.fnOf "places_at" "places_at" (defArgs st_places_at) (defBody st_places_at) (defScope st_places_at) .none kV_places_at dc_places_at pm_places_at an_places_at cd_places_at ct_places_at), sl_places_at⟩)
    (c_places_at : PySem.W.codeIn K cd_places_at "places_at" = true)
    (k_places_at : PySem.W.keepIn K (.ref f_places_at) = true)
    (a_are_wanted : PySem.W.nsIn K mainGlobals "are_wanted" = some (some (.ref f_are_wanted)))
    (l_are_wanted : K.lookup f_are_wanted = some ⟨oc_are_wanted, od_are_wanted, .func (PySem.W.fnOf "are_wanted" "are_wanted" (defArgs st_are_wanted) (defBody st_are_wanted) (defScope st_are_wanted) .none kV_are_wanted dc_are_wanted pm_are_wanted an_are_wanted cd_are_wanted ct_are_wanted), sl_are_wanted⟩)
    (c_are_wanted : PySem.W.codeIn K cd_are_wanted "are_wanted" = true)
    (k_are_wanted : PySem.W.keepIn K (.ref f_are_wanted) = true)
    (a_goals_by : PySem.W.nsIn K mainGlobals "goals_by" = some (some (.ref f_goals_by)))
    (l_goals_by : K.lookup f_goals_by = some ⟨oc_goals_by, od_goals_by, .func (PySem.W.fnOf "goals_by" "goals_by" (defArgs st_goals_by) (defBody st_goals_by) (defScope st_goals_by) .none kV_goals_by dc_goals_by pm_goals_by an_goals_by cd_goals_by ct_goals_by), sl_goals_by⟩)
    (c_goals_by : PySem.W.codeIn K cd_goals_by "goals_by" = true)
    (k_goals_by : PySem.W.keepIn K (.ref f_goals_by) = true)
    (a_goals_with : PySem.W.nsIn K mainGlobals "goals_with" = some (some (.ref f_goals_with)))
    (l_goals_with : K.lookup f_goals_with = some ⟨oc_goals_with, od_goals_with, .func (PySem.W.fnOf "goals_with" "goals_with" (defArgs st_goals_with) (defBody st_goals_with) (defScope st_goals_with) .none kV_goals_with dc_goals_with pm_goals_with an_goals_with cd_goals_with ct_goals_with), sl_goals_with⟩)
    (c_goals_with : PySem.W.codeIn K cd_goals_with "goals_with" = true)
    (k_goals_with : PySem.W.keepIn K (.ref f_goals_with) = true)
    (a__law_well : PySem.W.nsIn K mainGlobals "_law_well" = some (some (.ref f__law_well)))
    (l__law_well : K.lookup f__law_well = some ⟨oc__law_well, od__law_well, .func (PySem.W.fnOf "_law_well" "_law_well" (defArgs st__law_well) (defBody st__law_well) (defScope st__law_well) .none kV__law_well dc__law_well pm__law_well an__law_well cd__law_well ct__law_well), sl__law_well⟩)
    (c__law_well : PySem.W.codeIn K cd__law_well "_law_well" = true)
    (k__law_well : PySem.W.keepIn K (.ref f__law_well) = true)
    (a__law_draw : PySem.W.nsIn K mainGlobals "_law_draw" = some (some (.ref f__law_draw)))
    (l__law_draw : K.lookup f__law_draw = some ⟨oc__law_draw, od__law_draw, .func (PySem.W.fnOf "_law_draw" "_law_draw" (defArgs st__law_draw) (defBody st__law_draw) (defScope st__law_draw) .none kV__law_draw dc__law_draw pm__law_draw an__law_draw cd__law_draw ct__law_draw), sl__law_draw⟩)
    (c__law_draw : PySem.W.codeIn K cd__law_draw "_law_draw" = true)
    (k__law_draw : PySem.W.keepIn K (.ref f__law_draw) = true)
    (a__law_some : PySem.W.nsIn K mainGlobals "_law_some" = some (some (.ref f__law_some)))
    (l__law_some : K.lookup f__law_some = some ⟨oc__law_some, od__law_some, .func (PySem.W.fnOf "_law_some" "_law_some" (defArgs st__law_some) (defBody st__law_some) (defScope st__law_some) .none kV__law_some dc__law_some pm__law_some an__law_some cd__law_some ct__law_some), sl__law_some⟩)
    (c__law_some : PySem.W.codeIn K cd__law_some "_law_some" = true)
    (k__law_some : PySem.W.keepIn K (.ref f__law_some) = true)
    (a__law_is_int : PySem.W.nsIn K mainGlobals "_law_is_int" = some (some (.ref f__law_is_int)))
    (l__law_is_int : K.lookup f__law_is_int = some ⟨oc__law_is_int, od__law_is_int, .func (PySem.W.fnOf "_law_is_int" "_law_is_int" (defArgs st__law_is_int) (defBody st__law_is_int) (defScope st__law_is_int) .none kV__law_is_int dc__law_is_int pm__law_is_int an__law_is_int cd__law_is_int ct__law_is_int), sl__law_is_int⟩)
    (c__law_is_int : PySem.W.codeIn K cd__law_is_int "_law_is_int" = true)
    (k__law_is_int : PySem.W.keepIn K (.ref f__law_is_int) = true)
    (a__law_rises : PySem.W.nsIn K mainGlobals "_law_rises" = some (some (.ref f__law_rises)))
    (l__law_rises : K.lookup f__law_rises = some ⟨oc__law_rises, od__law_rises, .func (PySem.W.fnOf "_law_rises" "_law_rises" (defArgs st__law_rises) (defBody st__law_rises) (defScope st__law_rises) .none kV__law_rises dc__law_rises pm__law_rises an__law_rises cd__law_rises ct__law_rises), sl__law_rises⟩)
    (c__law_rises : PySem.W.codeIn K cd__law_rises "_law_rises" = true)
    (k__law_rises : PySem.W.keepIn K (.ref f__law_rises) = true)
    (a__law_spots : PySem.W.nsIn K mainGlobals "_law_spots" = some (some (.ref f__law_spots)))
    (l__law_spots : K.lookup f__law_spots = some ⟨oc__law_spots, od__law_spots, .func (PySem.W.fnOf "_law_spots" "_law_spots" (defArgs st__law_spots) (defBody st__law_spots) (defScope st__law_spots) .none kV__law_spots dc__law_spots pm__law_spots an__law_spots cd__law_spots ct__law_spots), sl__law_spots⟩)
    (c__law_spots : PySem.W.codeIn K cd__law_spots "_law_spots" = true)
    (k__law_spots : PySem.W.keepIn K (.ref f__law_spots) = true)
    (a__law_wide_team : PySem.W.nsIn K mainGlobals "_law_wide_team" = some (some (.ref f__law_wide_team)))
    (l__law_wide_team : K.lookup f__law_wide_team = some ⟨oc__law_wide_team, od__law_wide_team, .func (PySem.W.fnOf "_law_wide_team" "_law_wide_team" (defArgs st__law_wide_team) (defBody st__law_wide_team) (defScope st__law_wide_team) .none kV__law_wide_team dc__law_wide_team pm__law_wide_team an__law_wide_team cd__law_wide_team ct__law_wide_team), sl__law_wide_team⟩)
    (c__law_wide_team : PySem.W.codeIn K cd__law_wide_team "_law_wide_team" = true)
    (k__law_wide_team : PySem.W.keepIn K (.ref f__law_wide_team) = true)
    (a__law_bent : PySem.W.nsIn K mainGlobals "_law_bent" = some (some (.ref f__law_bent)))
    (l__law_bent : K.lookup f__law_bent = some ⟨oc__law_bent, od__law_bent, .func (PySem.W.fnOf "_law_bent" "_law_bent" (defArgs st__law_bent) (defBody st__law_bent) (defScope st__law_bent) .none kV__law_bent dc__law_bent pm__law_bent an__law_bent cd__law_bent ct__law_bent), sl__law_bent⟩)
    (c__law_bent : PySem.W.codeIn K cd__law_bent "_law_bent" = true)
    (k__law_bent : PySem.W.keepIn K (.ref f__law_bent) = true)
    (a__law_are_places : PySem.W.nsIn K mainGlobals "_law_are_places" = some (some (.ref f__law_are_places)))
    (l__law_are_places : K.lookup f__law_are_places = some ⟨oc__law_are_places, od__law_are_places, .func (PySem.W.fnOf "_law_are_places" "_law_are_places" (defArgs st__law_are_places) (defBody st__law_are_places) (defScope st__law_are_places) .none kV__law_are_places dc__law_are_places pm__law_are_places an__law_are_places cd__law_are_places ct__law_are_places), sl__law_are_places⟩)
    (c__law_are_places : PySem.W.codeIn K cd__law_are_places "_law_are_places" = true)
    (k__law_are_places : PySem.W.keepIn K (.ref f__law_are_places) = true)
    (a__law_are_wishes : PySem.W.nsIn K mainGlobals "_law_are_wishes" = some (some (.ref f__law_are_wishes)))
    (l__law_are_wishes : K.lookup f__law_are_wishes = some ⟨oc__law_are_wishes, od__law_are_wishes, .func (PySem.W.fnOf "_law_are_wishes" "_law_are_wishes" (defArgs st__law_are_wishes) (defBody st__law_are_wishes) (defScope st__law_are_wishes) .none kV__law_are_wishes dc__law_are_wishes pm__law_are_wishes an__law_are_wishes cd__law_are_wishes ct__law_are_wishes), sl__law_are_wishes⟩)
    (c__law_are_wishes : PySem.W.codeIn K cd__law_are_wishes "_law_are_wishes" = true)
    (k__law_are_wishes : PySem.W.keepIn K (.ref f__law_are_wishes) = true)
    (a__law_goals_due : PySem.W.nsIn K mainGlobals "_law_goals_due" = some (some (.ref f__law_goals_due)))
    (l__law_goals_due : K.lookup f__law_goals_due = some ⟨oc__law_goals_due, od__law_goals_due, .func (PySem.W.fnOf "_law_goals_due" "_law_goals_due" (defArgs st__law_goals_due) (defBody st__law_goals_due) (defScope st__law_goals_due) .none kV__law_goals_due dc__law_goals_due pm__law_goals_due an__law_goals_due cd__law_goals_due ct__law_goals_due), sl__law_goals_due⟩)
    (c__law_goals_due : PySem.W.codeIn K cd__law_goals_due "_law_goals_due" = true)
    (k__law_goals_due : PySem.W.keepIn K (.ref f__law_goals_due) = true)
    (a__law_refused : PySem.W.nsIn K mainGlobals "_law_refused" = some (some (.ref f__law_refused)))
    (l__law_refused : K.lookup f__law_refused = some ⟨oc__law_refused, od__law_refused, .func (PySem.W.fnOf "_law_refused" "_law_refused" (defArgs st__law_refused) (defBody st__law_refused) (defScope st__law_refused) .none kV__law_refused dc__law_refused pm__law_refused an__law_refused cd__law_refused ct__law_refused), sl__law_refused⟩)
    (c__law_refused : PySem.W.codeIn K cd__law_refused "_law_refused" = true)
    (k__law_refused : PySem.W.keepIn K (.ref f__law_refused) = true)
    (a_law : PySem.W.nsIn K mainGlobals "law" = some (some (.ref f_law)))
    (l_law : K.lookup f_law = some ⟨oc_law, od_law, .func (PySem.W.fnOf "law" "law" (defArgs st_law) (defBody st_law) (defScope st_law) .none kV_law dc_law pm_law an_law cd_law ct_law), sl_law⟩)
    (c_law : PySem.W.codeIn K cd_law "law" = true)
    (k_law : PySem.W.keepIn K (.ref f_law) = true)
    (b_abs : PySem.W.nsIn K mainGlobals "abs" = some none)
    (b_all : PySem.W.nsIn K mainGlobals "all" = some none)
    (b_bool : PySem.W.nsIn K mainGlobals "bool" = some none)
    (b_enumerate : PySem.W.nsIn K mainGlobals "enumerate" = some none)
    (b_int : PySem.W.nsIn K mainGlobals "int" = some none)
    (b_isinstance : PySem.W.nsIn K mainGlobals "isinstance" = some none)
    (b_len : PySem.W.nsIn K mainGlobals "len" = some none)
    (b_list : PySem.W.nsIn K mainGlobals "list" = some none)
    (b_max : PySem.W.nsIn K mainGlobals "max" = some none)
    (b_min : PySem.W.nsIn K mainGlobals "min" = some none)
    (b_range : PySem.W.nsIn K mainGlobals "range" = some none)
    (b_repr : PySem.W.nsIn K mainGlobals "repr" = some none)
    (b_str : PySem.W.nsIn K mainGlobals "str" = some none)
    (b_tuple : PySem.W.nsIn K mainGlobals "tuple" = some none)
    (b_zip : PySem.W.nsIn K mainGlobals "zip" = some none)
    (v_MOST_TIMERS : PySem.W.nsIn K mainGlobals "MOST_TIMERS" = some (some (.int (6) t_MOST_TIMERS)))
    (v_MOST_BOUND : PySem.W.nsIn K mainGlobals "MOST_BOUND" = some (some (.int (60) t_MOST_BOUND)))
    (v_TIMER : PySem.W.nsIn K mainGlobals "TIMER" = some (some (.str "timer" t_TIMER)))
    (v_FREE : PySem.W.nsIn K mainGlobals "FREE" = some (some (.str "free" t_FREE)))
    (v_MOST_PARTIES : PySem.W.nsIn K mainGlobals "MOST_PARTIES" = some (some (.int (4) t_MOST_PARTIES)))
    (v_MOST_PLACES : PySem.W.nsIn K mainGlobals "MOST_PLACES" = some (some (.int (12) t_MOST_PLACES)))
    (v_MOST_STEPS : PySem.W.nsIn K mainGlobals "MOST_STEPS" = some (some (.int (40) t_MOST_STEPS)))
    (v_MOST_SIGNAL : PySem.W.nsIn K mainGlobals "MOST_SIGNAL" = some (some (.int (9) t_MOST_SIGNAL)))
    (v_MOST_PRODUCT : PySem.W.nsIn K mainGlobals "MOST_PRODUCT" = some (some (.int (400) t_MOST_PRODUCT)))
    (v_HEARS : PySem.W.nsIn K mainGlobals "HEARS" = some (some (.str "hears" t_HEARS)))
    (ca_LeaseError : PySem.W.nsIn K mainGlobals "LeaseError" = some (some (.ref C_LeaseError)))
    (cx_LeaseError : K.lookup C_LeaseError = some (excClassObj nm_LeaseError qn_LeaseError C_LeaseError N_LeaseError bs_LeaseError [.type "ValueError", .type "Exception", .type "BaseException", .type "object"] true sn_LeaseError sub_LeaseError ab_LeaseError col_LeaseError dd_LeaseError m0_LeaseError m1_LeaseError m2_LeaseError m3_LeaseError m5_LeaseError "ValueError.__new__"))
    (sa_LeaseError : PySem.W.findIn K (.ref C_LeaseError) "__setattr__" = some (some (.builtin "object.__setattr__")))
    (ga_LeaseError : PySem.W.findIn K (.ref C_LeaseError) "__getattribute__" = some (some (.builtin "BaseException.__getattribute__")))
    (gg_LeaseError : PySem.W.findIn K (.ref C_LeaseError) "__getattr__" = some none)
    (nb_LeaseError : PySem.W.findIn K (.ref C_LeaseError) "value" = some none)
    (iC_LeaseError : PySem.W.findIn K (.ref C_LeaseError) "__init__" = some (some (.ref fI)))
    (kC_LeaseError : PySem.W.keepIn K (.ref C_LeaseError) = true)
    (eC_LeaseError : PySem.W.subIn K (.ref C_LeaseError) (.type "BaseException") = some true)
    (tC_LeaseError : PySem.W.typeIn K (.ref C_LeaseError) = some (.type "type"))
    (hC_LeaseError : PySem.W.hasDictIn K C_LeaseError = true)
    (mD_LeaseError : PySem.W.mroIn K C_LeaseError (.ref C_LeaseError) = some true)
    (sI_LeaseError : PySem.W.ks_superIn K C_LeaseError C_LeaseError "__init__" = some (some (.builtin "ValueError.__init__")))
    (sV_LeaseError : PySem.W.subIn K (.ref C_LeaseError) (.type "ValueError") = some true)
    (sD_LeaseError : PySem.W.subIn K (.ref C_LeaseError) (.ref C_LeaseError) = some true)
    (cC_LeaseError : PySem.W.findIn K (.ref C_LeaseError) "__class__" = some (some (.builtin "object.__class__")))
    (mO_LeaseError : PySem.W.mroIn K C_LeaseError (.type "object") = some true)
    (ca_InvalidNumber : PySem.W.nsIn K mainGlobals "InvalidNumber" = some (some (.ref C_InvalidNumber)))
    (cx_InvalidNumber : K.lookup C_InvalidNumber = some (excClassObj nm_InvalidNumber qn_InvalidNumber C_InvalidNumber N_InvalidNumber bs_InvalidNumber [.ref C_LeaseError, .type "ValueError", .type "Exception", .type "BaseException", .type "object"] true sn_InvalidNumber sub_InvalidNumber ab_InvalidNumber col_InvalidNumber dd_InvalidNumber m0_InvalidNumber m1_InvalidNumber m2_InvalidNumber m3_InvalidNumber m5_InvalidNumber "ValueError.__new__"))
    (sa_InvalidNumber : PySem.W.findIn K (.ref C_InvalidNumber) "__setattr__" = some (some (.builtin "object.__setattr__")))
    (ga_InvalidNumber : PySem.W.findIn K (.ref C_InvalidNumber) "__getattribute__" = some (some (.builtin "BaseException.__getattribute__")))
    (gg_InvalidNumber : PySem.W.findIn K (.ref C_InvalidNumber) "__getattr__" = some none)
    (nb_InvalidNumber : PySem.W.findIn K (.ref C_InvalidNumber) "value" = some none)
    (iC_InvalidNumber : PySem.W.findIn K (.ref C_InvalidNumber) "__init__" = some (some (.ref fI)))
    (kC_InvalidNumber : PySem.W.keepIn K (.ref C_InvalidNumber) = true)
    (eC_InvalidNumber : PySem.W.subIn K (.ref C_InvalidNumber) (.type "BaseException") = some true)
    (tC_InvalidNumber : PySem.W.typeIn K (.ref C_InvalidNumber) = some (.type "type"))
    (hC_InvalidNumber : PySem.W.hasDictIn K C_InvalidNumber = true)
    (mD_InvalidNumber : PySem.W.mroIn K C_InvalidNumber (.ref C_LeaseError) = some true)
    (sI_InvalidNumber : PySem.W.ks_superIn K C_InvalidNumber C_LeaseError "__init__" = some (some (.builtin "ValueError.__init__")))
    (sV_InvalidNumber : PySem.W.subIn K (.ref C_InvalidNumber) (.type "ValueError") = some true)
    (sD_InvalidNumber : PySem.W.subIn K (.ref C_InvalidNumber) (.ref C_LeaseError) = some true)
    (cC_InvalidNumber : PySem.W.findIn K (.ref C_InvalidNumber) "__class__" = some (some (.builtin "object.__class__")))
    (mO_InvalidNumber : PySem.W.mroIn K C_InvalidNumber (.type "object") = some true)
    (ca_InvalidPlaces : PySem.W.nsIn K mainGlobals "InvalidPlaces" = some (some (.ref C_InvalidPlaces)))
    (cx_InvalidPlaces : K.lookup C_InvalidPlaces = some (excClassObj nm_InvalidPlaces qn_InvalidPlaces C_InvalidPlaces N_InvalidPlaces bs_InvalidPlaces [.ref C_LeaseError, .type "ValueError", .type "Exception", .type "BaseException", .type "object"] true sn_InvalidPlaces sub_InvalidPlaces ab_InvalidPlaces col_InvalidPlaces dd_InvalidPlaces m0_InvalidPlaces m1_InvalidPlaces m2_InvalidPlaces m3_InvalidPlaces m5_InvalidPlaces "ValueError.__new__"))
    (sa_InvalidPlaces : PySem.W.findIn K (.ref C_InvalidPlaces) "__setattr__" = some (some (.builtin "object.__setattr__")))
    (ga_InvalidPlaces : PySem.W.findIn K (.ref C_InvalidPlaces) "__getattribute__" = some (some (.builtin "BaseException.__getattribute__")))
    (gg_InvalidPlaces : PySem.W.findIn K (.ref C_InvalidPlaces) "__getattr__" = some none)
    (nb_InvalidPlaces : PySem.W.findIn K (.ref C_InvalidPlaces) "value" = some none)
    (iC_InvalidPlaces : PySem.W.findIn K (.ref C_InvalidPlaces) "__init__" = some (some (.ref fI)))
    (kC_InvalidPlaces : PySem.W.keepIn K (.ref C_InvalidPlaces) = true)
    (eC_InvalidPlaces : PySem.W.subIn K (.ref C_InvalidPlaces) (.type "BaseException") = some true)
    (tC_InvalidPlaces : PySem.W.typeIn K (.ref C_InvalidPlaces) = some (.type "type"))
    (hC_InvalidPlaces : PySem.W.hasDictIn K C_InvalidPlaces = true)
    (mD_InvalidPlaces : PySem.W.mroIn K C_InvalidPlaces (.ref C_LeaseError) = some true)
    (sI_InvalidPlaces : PySem.W.ks_superIn K C_InvalidPlaces C_LeaseError "__init__" = some (some (.builtin "ValueError.__init__")))
    (sV_InvalidPlaces : PySem.W.subIn K (.ref C_InvalidPlaces) (.type "ValueError") = some true)
    (sD_InvalidPlaces : PySem.W.subIn K (.ref C_InvalidPlaces) (.ref C_LeaseError) = some true)
    (cC_InvalidPlaces : PySem.W.findIn K (.ref C_InvalidPlaces) "__class__" = some (some (.builtin "object.__class__")))
    (mO_InvalidPlaces : PySem.W.mroIn K C_InvalidPlaces (.type "object") = some true)
    (ca_InvalidTeam : PySem.W.nsIn K mainGlobals "InvalidTeam" = some (some (.ref C_InvalidTeam)))
    (cx_InvalidTeam : K.lookup C_InvalidTeam = some (excClassObj nm_InvalidTeam qn_InvalidTeam C_InvalidTeam N_InvalidTeam bs_InvalidTeam [.ref C_LeaseError, .type "ValueError", .type "Exception", .type "BaseException", .type "object"] true sn_InvalidTeam sub_InvalidTeam ab_InvalidTeam col_InvalidTeam dd_InvalidTeam m0_InvalidTeam m1_InvalidTeam m2_InvalidTeam m3_InvalidTeam m5_InvalidTeam "ValueError.__new__"))
    (sa_InvalidTeam : PySem.W.findIn K (.ref C_InvalidTeam) "__setattr__" = some (some (.builtin "object.__setattr__")))
    (ga_InvalidTeam : PySem.W.findIn K (.ref C_InvalidTeam) "__getattribute__" = some (some (.builtin "BaseException.__getattribute__")))
    (gg_InvalidTeam : PySem.W.findIn K (.ref C_InvalidTeam) "__getattr__" = some none)
    (nb_InvalidTeam : PySem.W.findIn K (.ref C_InvalidTeam) "value" = some none)
    (iC_InvalidTeam : PySem.W.findIn K (.ref C_InvalidTeam) "__init__" = some (some (.ref fI)))
    (kC_InvalidTeam : PySem.W.keepIn K (.ref C_InvalidTeam) = true)
    (eC_InvalidTeam : PySem.W.subIn K (.ref C_InvalidTeam) (.type "BaseException") = some true)
    (tC_InvalidTeam : PySem.W.typeIn K (.ref C_InvalidTeam) = some (.type "type"))
    (hC_InvalidTeam : PySem.W.hasDictIn K C_InvalidTeam = true)
    (mD_InvalidTeam : PySem.W.mroIn K C_InvalidTeam (.ref C_LeaseError) = some true)
    (sI_InvalidTeam : PySem.W.ks_superIn K C_InvalidTeam C_LeaseError "__init__" = some (some (.builtin "ValueError.__init__")))
    (sV_InvalidTeam : PySem.W.subIn K (.ref C_InvalidTeam) (.type "ValueError") = some true)
    (sD_InvalidTeam : PySem.W.subIn K (.ref C_InvalidTeam) (.ref C_LeaseError) = some true)
    (cC_InvalidTeam : PySem.W.findIn K (.ref C_InvalidTeam) "__class__" = some (some (.builtin "object.__class__")))
    (mO_InvalidTeam : PySem.W.mroIn K C_InvalidTeam (.type "object") = some true)
    (tI : PySem.W.typeIn K (.ref fI) = some (.type "function"))
    (lI : K.lookup fI = some ⟨ocI, odI, .func (PySem.W.ksFn "__init__" "LeaseError.__init__" (PySem.LeX.iA pI.a pI.b) (PySem.LeX.iB pI) PySem.LeX.iS .none .none dcI pmI anI (.ref cda) ctI cc), slI⟩)
    (cI : PySem.W.codeIn K (.ref cda) "LeaseError.__init__" = true)
    (lc : K.lookup cda = some ⟨ccl, cdd, .fields vsC, ccs⟩)
    (vc : vsC[2]? = some (.str fileC tfC))
    (fc : ((PySem.Challenge.pw_leasesall_k27_places_of_teams.main.file : Str) == fileC) = true)
    (ll : K.lookup cc = some ⟨cl, cld, .cell (some (.ref C_LeaseError)), csl⟩)
    (isD : PySem.W.isClsIn K C_LeaseError = true)
    (nsu : PySem.W.nsIn K mainGlobals "super" = some none)
    (any : PySem.W.nsIn K cStatics "thirdparty.any" = some none)
    (gs : PySem.W.specialIn K (.builtin "object.__class__") "__get__" = some (some (.builtin "getset_descriptor.__get__")))
    (tk : PySem.W.takesIn K (.builtin "object.__class__") = some true)
    (kn_InvalidNumber : PySem.W.kitOne K (.type "NoneType") (.ref C_InvalidNumber) = some false)
    (kk_LeaseError_InvalidNumber : PySem.W.kitOne K (.ref C_LeaseError) (.ref C_InvalidNumber) = some false)
    (kk_InvalidNumber_InvalidNumber : PySem.W.kitOne K (.ref C_InvalidNumber) (.ref C_InvalidNumber) = some true)
    (kk_InvalidPlaces_InvalidNumber : PySem.W.kitOne K (.ref C_InvalidPlaces) (.ref C_InvalidNumber) = some false)
    (kk_InvalidTeam_InvalidNumber : PySem.W.kitOne K (.ref C_InvalidTeam) (.ref C_InvalidNumber) = some false)
    (kn_InvalidPlaces : PySem.W.kitOne K (.type "NoneType") (.ref C_InvalidPlaces) = some false)
    (kk_LeaseError_InvalidPlaces : PySem.W.kitOne K (.ref C_LeaseError) (.ref C_InvalidPlaces) = some false)
    (kk_InvalidNumber_InvalidPlaces : PySem.W.kitOne K (.ref C_InvalidNumber) (.ref C_InvalidPlaces) = some false)
    (kk_InvalidPlaces_InvalidPlaces : PySem.W.kitOne K (.ref C_InvalidPlaces) (.ref C_InvalidPlaces) = some true)
    (kk_InvalidTeam_InvalidPlaces : PySem.W.kitOne K (.ref C_InvalidTeam) (.ref C_InvalidPlaces) = some false)
    (kn_InvalidTeam : PySem.W.kitOne K (.type "NoneType") (.ref C_InvalidTeam) = some false)
    (kk_LeaseError_InvalidTeam : PySem.W.kitOne K (.ref C_LeaseError) (.ref C_InvalidTeam) = some false)
    (kk_InvalidNumber_InvalidTeam : PySem.W.kitOne K (.ref C_InvalidNumber) (.ref C_InvalidTeam) = some false)
    (kk_InvalidPlaces_InvalidTeam : PySem.W.kitOne K (.ref C_InvalidPlaces) (.ref C_InvalidTeam) = some false)
    (kk_InvalidTeam_InvalidTeam : PySem.W.kitOne K (.ref C_InvalidTeam) (.ref C_InvalidTeam) = some true)
    : ∃ fd : FuncData, (∀ (s : Shared) (u : Value), BindsTo s fd ⟨[u], []⟩ [("script", u)]) ∧ ∀ base : Heap, K.In base → base.Ns mainGlobals mg → FnOkG PySem.Challenge.pw_leasesall_k27_places_of_teams w K mg base (L2.CX PySem.Challenge.pw_leasesall_k27_places_of_teams w) 13 fa fd ["script"] (spLaw K) := by
  have e := hfa.symm.trans (PySem.W.mg_of X G a_law)
  cases e
  have F_is_integer := fun_mk (st := st_is_integer) l_is_integer c_is_integer k_is_integer
  have F_is_between := fun_mk (st := st_is_between) l_is_between c_is_between k_is_between
  have F_is_tuple := fun_mk (st := st_is_tuple) l_is_tuple c_is_tuple k_is_tuple
  have F_are_rising := fun_mk (st := st_are_rising) l_are_rising c_are_rising k_are_rising
  have F_is_ascending := fun_mk (st := st_is_ascending) l_is_ascending c_is_ascending k_is_ascending
  have F_need_number := fun_mk (st := st_need_number) l_need_number c_need_number k_need_number
  have F_anew := fun_mk (st := st_anew) l_anew c_anew k_anew
  have F_is_timer := fun_mk (st := st_is_timer) l_is_timer c_is_timer k_is_timer
  have F_are_timers := fun_mk (st := st_are_timers) l_are_timers c_are_timers k_are_timers
  have F_is_event := fun_mk (st := st_is_event) l_is_event c_is_event k_is_event
  have F_are_changes := fun_mk (st := st_are_changes) l_are_changes c_are_changes k_are_changes
  have F_is_begin := fun_mk (st := st_is_begin) l_is_begin c_is_begin k_is_begin
  have F_is_party_event := fun_mk (st := st_is_party_event) l_is_party_event c_is_party_event k_is_party_event
  have F_is_party_step := fun_mk (st := st_is_party_step) l_is_party_step c_is_party_step k_is_party_step
  have F_is_party := fun_mk (st := st_is_party) l_is_party c_is_party k_is_party
  have F_is_a_team := fun_mk (st := st_is_a_team) l_is_a_team c_is_a_team k_is_a_team
  have F_product_of := fun_mk (st := st_product_of) l_product_of c_product_of k_product_of
  have F_need_team := fun_mk (st := st_need_team) l_need_team c_need_team k_need_team
  have F_index_of := fun_mk (st := st_index_of) l_index_of c_index_of k_index_of
  have F_places_of := fun_mk (st := st_places_of) l_places_of c_places_of k_places_of
  have F_are_party_places := fun_mk (st := st_are_party_places) l_are_party_places c_are_party_places k_are_party_places
  have F_place_of := fun_mk (st := st_place_of) l_place_of c_place_of k_place_of
  have F_places_at := fun_mk (st := st_places_at) l_places_at c_places_at k_places_at
  have F_are_wanted := fun_mk (st := st_are_wanted) l_are_wanted c_are_wanted k_are_wanted
  have F_goals_by := fun_mk (st := st_goals_by) l_goals_by c_goals_by k_goals_by
  have F_goals_with := fun_mk (st := st_goals_with) l_goals_with c_goals_with k_goals_with
  have F__law_well := fun_mk (st := st__law_well) l__law_well c__law_well k__law_well
  have F__law_draw := fun_mk (st := st__law_draw) l__law_draw c__law_draw k__law_draw
  have F__law_some := fun_mk (st := st__law_some) l__law_some c__law_some k__law_some
  have F__law_is_int := fun_mk (st := st__law_is_int) l__law_is_int c__law_is_int k__law_is_int
  have F__law_rises := fun_mk (st := st__law_rises) l__law_rises c__law_rises k__law_rises
  have F__law_spots := fun_mk (st := st__law_spots) l__law_spots c__law_spots k__law_spots
  have F__law_wide_team := fun_mk (st := st__law_wide_team) l__law_wide_team c__law_wide_team k__law_wide_team
  have F__law_bent := fun_mk (st := st__law_bent) l__law_bent c__law_bent k__law_bent
  have F__law_are_places := fun_mk (st := st__law_are_places) l__law_are_places c__law_are_places k__law_are_places
  have F__law_are_wishes := fun_mk (st := st__law_are_wishes) l__law_are_wishes c__law_are_wishes k__law_are_wishes
  have F__law_goals_due := fun_mk (st := st__law_goals_due) l__law_goals_due c__law_goals_due k__law_goals_due
  have F__law_refused := fun_mk (st := st__law_refused) l__law_refused c__law_refused k__law_refused
  have F_law := fun_mk (st := st_law) l_law c_law k_law
  have lc_LeaseError : PySem.LeX.LcTxt K C_LeaseError fI C_LeaseError := { cls := ⟨nm_LeaseError, qn_LeaseError, N_LeaseError, bs_LeaseError, _, sn_LeaseError, sub_LeaseError, ab_LeaseError, col_LeaseError, dd_LeaseError, m0_LeaseError, m1_LeaseError, m2_LeaseError, m3_LeaseError, m5_LeaseError, cx_LeaseError, by first | rfl | decide +kernel⟩, sa := sa_LeaseError, ga := ga_LeaseError, gg := gg_LeaseError, noN := nb_LeaseError, iC := iC_LeaseError, tC := tI, kC := kC_LeaseError, exC := eC_LeaseError, tyC := tC_LeaseError, hdC := hC_LeaseError, suD := mD_LeaseError, suI := sI_LeaseError, suV := sV_LeaseError }
  have xc_LeaseError : ExcC K C_LeaseError := ⟨ga_LeaseError, gg_LeaseError, eC_LeaseError, hC_LeaseError, cC_LeaseError, gs, tk, mO_LeaseError⟩
  have xf_LeaseError : XfC K C_LeaseError := ⟨ga_LeaseError, gg_LeaseError, eC_LeaseError, hC_LeaseError⟩
  have g_LeaseError := PySem.W.mg_of X G ca_LeaseError
  have lc_InvalidNumber : PySem.LeX.LcTxt K C_LeaseError fI C_InvalidNumber := { cls := ⟨nm_InvalidNumber, qn_InvalidNumber, N_InvalidNumber, bs_InvalidNumber, _, sn_InvalidNumber, sub_InvalidNumber, ab_InvalidNumber, col_InvalidNumber, dd_InvalidNumber, m0_InvalidNumber, m1_InvalidNumber, m2_InvalidNumber, m3_InvalidNumber, m5_InvalidNumber, cx_InvalidNumber, by first | rfl | decide +kernel⟩, sa := sa_InvalidNumber, ga := ga_InvalidNumber, gg := gg_InvalidNumber, noN := nb_InvalidNumber, iC := iC_InvalidNumber, tC := tI, kC := kC_InvalidNumber, exC := eC_InvalidNumber, tyC := tC_InvalidNumber, hdC := hC_InvalidNumber, suD := mD_InvalidNumber, suI := sI_InvalidNumber, suV := sV_InvalidNumber }
  have xc_InvalidNumber : ExcC K C_InvalidNumber := ⟨ga_InvalidNumber, gg_InvalidNumber, eC_InvalidNumber, hC_InvalidNumber, cC_InvalidNumber, gs, tk, mO_InvalidNumber⟩
  have xf_InvalidNumber : XfC K C_InvalidNumber := ⟨ga_InvalidNumber, gg_InvalidNumber, eC_InvalidNumber, hC_InvalidNumber⟩
  have g_InvalidNumber := PySem.W.mg_of X G ca_InvalidNumber
  have lc_InvalidPlaces : PySem.LeX.LcTxt K C_LeaseError fI C_InvalidPlaces := { cls := ⟨nm_InvalidPlaces, qn_InvalidPlaces, N_InvalidPlaces, bs_InvalidPlaces, _, sn_InvalidPlaces, sub_InvalidPlaces, ab_InvalidPlaces, col_InvalidPlaces, dd_InvalidPlaces, m0_InvalidPlaces, m1_InvalidPlaces, m2_InvalidPlaces, m3_InvalidPlaces, m5_InvalidPlaces, cx_InvalidPlaces, by first | rfl | decide +kernel⟩, sa := sa_InvalidPlaces, ga := ga_InvalidPlaces, gg := gg_InvalidPlaces, noN := nb_InvalidPlaces, iC := iC_InvalidPlaces, tC := tI, kC := kC_InvalidPlaces, exC := eC_InvalidPlaces, tyC := tC_InvalidPlaces, hdC := hC_InvalidPlaces, suD := mD_InvalidPlaces, suI := sI_InvalidPlaces, suV := sV_InvalidPlaces }
  have xc_InvalidPlaces : ExcC K C_InvalidPlaces := ⟨ga_InvalidPlaces, gg_InvalidPlaces, eC_InvalidPlaces, hC_InvalidPlaces, cC_InvalidPlaces, gs, tk, mO_InvalidPlaces⟩
  have xf_InvalidPlaces : XfC K C_InvalidPlaces := ⟨ga_InvalidPlaces, gg_InvalidPlaces, eC_InvalidPlaces, hC_InvalidPlaces⟩
  have g_InvalidPlaces := PySem.W.mg_of X G ca_InvalidPlaces
  have lc_InvalidTeam : PySem.LeX.LcTxt K C_LeaseError fI C_InvalidTeam := { cls := ⟨nm_InvalidTeam, qn_InvalidTeam, N_InvalidTeam, bs_InvalidTeam, _, sn_InvalidTeam, sub_InvalidTeam, ab_InvalidTeam, col_InvalidTeam, dd_InvalidTeam, m0_InvalidTeam, m1_InvalidTeam, m2_InvalidTeam, m3_InvalidTeam, m5_InvalidTeam, cx_InvalidTeam, by first | rfl | decide +kernel⟩, sa := sa_InvalidTeam, ga := ga_InvalidTeam, gg := gg_InvalidTeam, noN := nb_InvalidTeam, iC := iC_InvalidTeam, tC := tI, kC := kC_InvalidTeam, exC := eC_InvalidTeam, tyC := tC_InvalidTeam, hdC := hC_InvalidTeam, suD := mD_InvalidTeam, suI := sI_InvalidTeam, suV := sV_InvalidTeam }
  have xc_InvalidTeam : ExcC K C_InvalidTeam := ⟨ga_InvalidTeam, gg_InvalidTeam, eC_InvalidTeam, hC_InvalidTeam, cC_InvalidTeam, gs, tk, mO_InvalidTeam⟩
  have xf_InvalidTeam : XfC K C_InvalidTeam := ⟨ga_InvalidTeam, gg_InvalidTeam, eC_InvalidTeam, hC_InvalidTeam⟩
  have g_InvalidTeam := PySem.W.mg_of X G ca_InvalidTeam
  have byCls : ∀ (Φ : Str → Addr → Prop), Φ "LeaseError" C_LeaseError ∧ Φ "InvalidNumber" C_InvalidNumber ∧ Φ "InvalidPlaces" C_InvalidPlaces ∧ Φ "InvalidTeam" C_InvalidTeam → ∀ (y : Str) (C : Addr), isCls y = true → mg y = some (.ref C) → Φ y C := fun Φ h y C hy hC => by
    have hy2 : y ∈ clsNs := by simpa [isCls] using hy
    simp only [clsNs, List.mem_cons, List.not_mem_nil, or_false] at hy2
    obtain ⟨h_LeaseError, h_InvalidNumber, h_InvalidPlaces, h_InvalidTeam⟩ := h
    rcases hy2 with rfl | rfl | rfl | rfl
    · have e := hC.symm.trans g_LeaseError; cases e; exact h_LeaseError
    · have e := hC.symm.trans g_InvalidNumber; cases e; exact h_InvalidNumber
    · have e := hC.symm.trans g_InvalidPlaces; cases e; exact h_InvalidPlaces
    · have e := hC.symm.trans g_InvalidTeam; cases e; exact h_InvalidTeam
  have T : Txt PySem.Challenge.pw_leasesall_k27_places_of_teams K mg ⟨fI, C_LeaseError, C_InvalidNumber, C_InvalidPlaces, C_InvalidTeam, f_is_integer, f_is_between, f_is_tuple, f_are_rising, f_is_ascending, f_need_number, f_anew, f_is_timer, f_are_timers, f_is_event, f_are_changes, f_is_begin, f_is_party_event, f_is_party_step, f_is_party, f_is_a_team, f_product_of, f_need_team, f_index_of, f_places_of, f_are_party_places, f_place_of, f_places_at, f_are_wanted, f_goals_by, f_goals_with, f__law_well, f__law_draw, f__law_some, f__law_is_int, f__law_rises, f__law_spots, f__law_wide_team, f__law_bent, f__law_are_places, f__law_are_wishes, f__law_goals_due, f__law_refused, fa⟩ ⟨_, _, _, _, _, _, _, _, _, _, _, _, _, _, _, _, _, _, _, _, _, _, _, _, _, _, _, _, _, _, _, _, _, _, _, _, _, _, _⟩ := {
    f_is_integer := F_is_integer, g_is_integer := PySem.W.mg_of X G a_is_integer,
    f_is_between := F_is_between, g_is_between := PySem.W.mg_of X G a_is_between,
    f_is_tuple := F_is_tuple, g_is_tuple := PySem.W.mg_of X G a_is_tuple,
    f_are_rising := F_are_rising, g_are_rising := PySem.W.mg_of X G a_are_rising,
    f_is_ascending := F_is_ascending, g_is_ascending := PySem.W.mg_of X G a_is_ascending,
    f_need_number := F_need_number, g_need_number := PySem.W.mg_of X G a_need_number,
    f_anew := F_anew, g_anew := PySem.W.mg_of X G a_anew,
    f_is_timer := F_is_timer, g_is_timer := PySem.W.mg_of X G a_is_timer,
    f_are_timers := F_are_timers, g_are_timers := PySem.W.mg_of X G a_are_timers,
    f_is_event := F_is_event, g_is_event := PySem.W.mg_of X G a_is_event,
    f_are_changes := F_are_changes, g_are_changes := PySem.W.mg_of X G a_are_changes,
    f_is_begin := F_is_begin, g_is_begin := PySem.W.mg_of X G a_is_begin,
    f_is_party_event := F_is_party_event, g_is_party_event := PySem.W.mg_of X G a_is_party_event,
    f_is_party_step := F_is_party_step, g_is_party_step := PySem.W.mg_of X G a_is_party_step,
    f_is_party := F_is_party, g_is_party := PySem.W.mg_of X G a_is_party,
    f_is_a_team := F_is_a_team, g_is_a_team := PySem.W.mg_of X G a_is_a_team,
    f_product_of := F_product_of, g_product_of := PySem.W.mg_of X G a_product_of,
    f_need_team := F_need_team, g_need_team := PySem.W.mg_of X G a_need_team,
    f_index_of := F_index_of, g_index_of := PySem.W.mg_of X G a_index_of,
    f_places_of := F_places_of, g_places_of := PySem.W.mg_of X G a_places_of,
    f_are_party_places := F_are_party_places, g_are_party_places := PySem.W.mg_of X G a_are_party_places,
    f_place_of := F_place_of, g_place_of := PySem.W.mg_of X G a_place_of,
    f_places_at := F_places_at, g_places_at := PySem.W.mg_of X G a_places_at,
    f_are_wanted := F_are_wanted, g_are_wanted := PySem.W.mg_of X G a_are_wanted,
    f_goals_by := F_goals_by, g_goals_by := PySem.W.mg_of X G a_goals_by,
    f_goals_with := F_goals_with, g_goals_with := PySem.W.mg_of X G a_goals_with,
    f__law_well := F__law_well, g__law_well := PySem.W.mg_of X G a__law_well,
    f__law_draw := F__law_draw, g__law_draw := PySem.W.mg_of X G a__law_draw,
    f__law_some := F__law_some, g__law_some := PySem.W.mg_of X G a__law_some,
    f__law_is_int := F__law_is_int, g__law_is_int := PySem.W.mg_of X G a__law_is_int,
    f__law_rises := F__law_rises, g__law_rises := PySem.W.mg_of X G a__law_rises,
    f__law_spots := F__law_spots, g__law_spots := PySem.W.mg_of X G a__law_spots,
    f__law_wide_team := F__law_wide_team, g__law_wide_team := PySem.W.mg_of X G a__law_wide_team,
    f__law_bent := F__law_bent, g__law_bent := PySem.W.mg_of X G a__law_bent,
    f__law_are_places := F__law_are_places, g__law_are_places := PySem.W.mg_of X G a__law_are_places,
    f__law_are_wishes := F__law_are_wishes, g__law_are_wishes := PySem.W.mg_of X G a__law_are_wishes,
    f__law_goals_due := F__law_goals_due, g__law_goals_due := PySem.W.mg_of X G a__law_goals_due,
    f__law_refused := F__law_refused, g__law_refused := PySem.W.mg_of X G a__law_refused,
    f_law := F_law, g_law := PySem.W.mg_of X G a_law,
    b_abs := PySem.W.mg_none_of X G b_abs,
    b_all := PySem.W.mg_none_of X G b_all,
    b_bool := PySem.W.mg_none_of X G b_bool,
    b_enumerate := PySem.W.mg_none_of X G b_enumerate,
    b_int := PySem.W.mg_none_of X G b_int,
    b_isinstance := PySem.W.mg_none_of X G b_isinstance,
    b_len := PySem.W.mg_none_of X G b_len,
    b_list := PySem.W.mg_none_of X G b_list,
    b_max := PySem.W.mg_none_of X G b_max,
    b_min := PySem.W.mg_none_of X G b_min,
    b_range := PySem.W.mg_none_of X G b_range,
    b_repr := PySem.W.mg_none_of X G b_repr,
    b_str := PySem.W.mg_none_of X G b_str,
    b_tuple := PySem.W.mg_none_of X G b_tuple,
    b_zip := PySem.W.mg_none_of X G b_zip,
    c_MOST_TIMERS := ⟨_, PySem.W.mg_of X G v_MOST_TIMERS⟩,
    c_MOST_BOUND := ⟨_, PySem.W.mg_of X G v_MOST_BOUND⟩,
    c_TIMER := ⟨_, PySem.W.mg_of X G v_TIMER⟩,
    c_FREE := ⟨_, PySem.W.mg_of X G v_FREE⟩,
    c_MOST_PARTIES := ⟨_, PySem.W.mg_of X G v_MOST_PARTIES⟩,
    c_MOST_PLACES := ⟨_, PySem.W.mg_of X G v_MOST_PLACES⟩,
    c_MOST_STEPS := ⟨_, PySem.W.mg_of X G v_MOST_STEPS⟩,
    c_MOST_SIGNAL := ⟨_, PySem.W.mg_of X G v_MOST_SIGNAL⟩,
    c_MOST_PRODUCT := ⟨_, PySem.W.mg_of X G v_MOST_PRODUCT⟩,
    c_HEARS := ⟨_, PySem.W.mg_of X G v_HEARS⟩,
    le := { fn := ⟨cc, cda, _, _, _, _, _, _, _, pI, lI, cI, ⟨_, _, _, _, _, _, lc, vc, fc⟩, _, _, _, ll⟩, isD := isD, sup := PySem.W.mg_none_of X G nsu, any := any, top := by decide +kernel },
    lc_LeaseError := lc_LeaseError, k_LeaseError := g_LeaseError,
    lc_InvalidNumber := lc_InvalidNumber, k_InvalidNumber := g_InvalidNumber,
    lc_InvalidPlaces := lc_InvalidPlaces, k_InvalidPlaces := g_InvalidPlaces,
    lc_InvalidTeam := lc_InvalidTeam, k_InvalidTeam := g_InvalidTeam,
    nn_InvalidNumber := fun d b hb => (by cases d <;> first | (cases hb; exact kn_InvalidNumber) | cases hb),
    ie_InvalidNumber := fun y b C hb hC => (by
        unfold isEx at hb
        split at hb
        · rename_i hy
          cases hb
          exact byCls (fun y C => ExcC K C ∧ PySem.W.kitOne K (.ref C) (.ref C_InvalidNumber) = some (("InvalidNumber" : Str) == y || ("InvalidNumber" : Str) == ("LeaseError" : Str))) ⟨⟨xc_LeaseError, kk_LeaseError_InvalidNumber⟩, ⟨xc_InvalidNumber, kk_InvalidNumber_InvalidNumber⟩, ⟨xc_InvalidPlaces, kk_InvalidPlaces_InvalidNumber⟩, ⟨xc_InvalidTeam, kk_InvalidTeam_InvalidNumber⟩⟩ y C hy hC
        · cases hb),
    nn_InvalidPlaces := fun d b hb => (by cases d <;> first | (cases hb; exact kn_InvalidPlaces) | cases hb),
    ie_InvalidPlaces := fun y b C hb hC => (by
        unfold isEx at hb
        split at hb
        · rename_i hy
          cases hb
          exact byCls (fun y C => ExcC K C ∧ PySem.W.kitOne K (.ref C) (.ref C_InvalidPlaces) = some (("InvalidPlaces" : Str) == y || ("InvalidPlaces" : Str) == ("LeaseError" : Str))) ⟨⟨xc_LeaseError, kk_LeaseError_InvalidPlaces⟩, ⟨xc_InvalidNumber, kk_InvalidNumber_InvalidPlaces⟩, ⟨xc_InvalidPlaces, kk_InvalidPlaces_InvalidPlaces⟩, ⟨xc_InvalidTeam, kk_InvalidTeam_InvalidPlaces⟩⟩ y C hy hC
        · cases hb),
    nn_InvalidTeam := fun d b hb => (by cases d <;> first | (cases hb; exact kn_InvalidTeam) | cases hb),
    ie_InvalidTeam := fun y b C hb hC => (by
        unfold isEx at hb
        split at hb
        · rename_i hy
          cases hb
          exact byCls (fun y C => ExcC K C ∧ PySem.W.kitOne K (.ref C) (.ref C_InvalidTeam) = some (("InvalidTeam" : Str) == y || ("InvalidTeam" : Str) == ("LeaseError" : Str))) ⟨⟨xc_LeaseError, kk_LeaseError_InvalidTeam⟩, ⟨xc_InvalidNumber, kk_InvalidNumber_InvalidTeam⟩, ⟨xc_InvalidPlaces, kk_InvalidPlaces_InvalidTeam⟩, ⟨xc_InvalidTeam, kk_InvalidTeam_InvalidTeam⟩⟩ y C hy hC
        · cases hb),
    caOk := fun y b C hb hC => (by
        unfold isCls2 at hb
        split at hb
        · rename_i hy
          cases hb
          exact byCls (fun y C => PySem.W.exmOne K (.ref C) (.ref C_LeaseError) = some true) ⟨PySem.W.exm_ref eC_LeaseError hC_LeaseError tC_LeaseError sD_LeaseError, PySem.W.exm_ref eC_LeaseError hC_LeaseError tC_LeaseError sD_InvalidNumber, PySem.W.exm_ref eC_LeaseError hC_LeaseError tC_LeaseError sD_InvalidPlaces, PySem.W.exm_ref eC_LeaseError hC_LeaseError tC_LeaseError sD_InvalidTeam⟩ y C hy hC
        · cases hb),
    valOk := fun y C hy hC => byCls (fun y C => XfC K C ∧ PySem.W.findIn K (.ref C) "value" = some none) ⟨⟨xf_LeaseError, nb_LeaseError⟩, ⟨xf_InvalidNumber, nb_InvalidNumber⟩, ⟨xf_InvalidPlaces, nb_InvalidPlaces⟩, ⟨xf_InvalidTeam, nb_InvalidTeam⟩⟩ y C hy hC }
  exact ⟨_, fun s u => .of_eq rfl, fun base _ _ => (ok_law T).imp spLaw_imp⟩
end LK
open PySem PySem.W PyProof.Rows in
set_option maxRecDepth 100000 in
set_option maxHeartbeats 0 in
theorem PySem.Challenge.cw_leasesall_k27_places_of_teams_holds : PySem.Challenge.rw_leasesall_k27_places_of_teams.Holds := by
  w_on; o_law; k_head; (case hw => w_witness2)
  k_fill
  refine LK.walk (l := PySem.Challenge.rw_leasesall_k27_places_of_teams) rfl rfl (fun w h Y => PySem.W.kIn_of Y) ?F
  case F =>
    intro w mg fa h KX G hmg
    refine' LK.all_mk KX G hmg ⟨⟨4, 17, 4, 21⟩, ⟨4, 23, 4, 28⟩, ⟨5, 8, 5, 13⟩, ⟨5, 8, 5, 15⟩, ⟨5, 8, 5, 24⟩, ⟨5, 25, 5, 36⟩, ⟨5, 8, 5, 37⟩, ⟨5, 8, 5, 37⟩, ⟨6, 8, 6, 12⟩, ⟨6, 8, 6, 18⟩, ⟨6, 21, 6, 26⟩, ⟨6, 8, 6, 26⟩, by decide⟩ ?a_is_integer ?l_is_integer ?c_is_integer ?k_is_integer ?a_is_between ?l_is_between ?c_is_between ?k_is_between ?a_is_tuple ?l_is_tuple ?c_is_tuple ?k_is_tuple ?a_are_rising ?l_are_rising ?c_are_rising ?k_are_rising ?a_is_ascending ?l_is_ascending ?c_is_ascending ?k_is_ascending ?a_need_number ?l_need_number ?c_need_number ?k_need_number ?a_anew ?l_anew ?c_anew ?k_anew ?a_is_timer ?l_is_timer ?c_is_timer ?k_is_timer ?a_are_timers ?l_are_timers ?c_are_timers ?k_are_timers ?a_is_event ?l_is_event ?c_is_event ?k_is_event ?a_are_changes ?l_are_changes ?c_are_changes ?k_are_changes ?a_is_begin ?l_is_begin ?c_is_begin ?k_is_begin ?a_is_party_event ?l_is_party_event ?c_is_party_event ?k_is_party_event ?a_is_party_step ?l_is_party_step ?c_is_party_step ?k_is_party_step ?a_is_party ?l_is_party ?c_is_party ?k_is_party ?a_is_a_team ?l_is_a_team ?c_is_a_team ?k_is_a_team ?a_product_of ?l_product_of ?c_product_of ?k_product_of ?a_need_team ?l_need_team ?c_need_team ?k_need_team ?a_index_of ?l_index_of ?c_index_of ?k_index_of ?a_places_of ?l_places_of ?c_places_of ?k_places_of ?a_are_party_places ?l_are_party_places ?c_are_party_places ?k_are_party_places ?a_place_of ?l_place_of ?c_place_of ?k_place_of ?a_places_at ?l_places_at ?c_places_at ?k_places_at ?a_are_wanted ?l_are_wanted ?c_are_wanted ?k_are_wanted ?a_goals_by ?l_goals_by ?c_goals_by ?k_goals_by ?a_goals_with ?l_goals_with ?c_goals_with ?k_goals_with ?a__law_well ?l__law_well ?c__law_well ?k__law_well ?a__law_draw ?l__law_draw ?c__law_draw ?k__law_draw ?a__law_some ?l__law_some ?c__law_some ?k__law_some ?a__law_is_int ?l__law_is_int ?c__law_is_int ?k__law_is_int ?a__law_rises ?l__law_rises ?c__law_rises ?k__law_rises ?a__law_spots ?l__law_spots ?c__law_spots ?k__law_spots ?a__law_wide_team ?l__law_wide_team ?c__law_wide_team ?k__law_wide_team ?a__law_bent ?l__law_bent ?c__law_bent ?k__law_bent ?a__law_are_places ?l__law_are_places ?c__law_are_places ?k__law_are_places ?a__law_are_wishes ?l__law_are_wishes ?c__law_are_wishes ?k__law_are_wishes ?a__law_goals_due ?l__law_goals_due ?c__law_goals_due ?k__law_goals_due ?a__law_refused ?l__law_refused ?c__law_refused ?k__law_refused ?a_law ?l_law ?c_law ?k_law ?b_abs ?b_all ?b_bool ?b_enumerate ?b_int ?b_isinstance ?b_len ?b_list ?b_max ?b_min ?b_range ?b_repr ?b_str ?b_tuple ?b_zip ?v_MOST_TIMERS ?v_MOST_BOUND ?v_TIMER ?v_FREE ?v_MOST_PARTIES ?v_MOST_PLACES ?v_MOST_STEPS ?v_MOST_SIGNAL ?v_MOST_PRODUCT ?v_HEARS ?ca_LeaseError ?cx_LeaseError ?sa_LeaseError ?ga_LeaseError ?gg_LeaseError ?nb_LeaseError ?iC_LeaseError ?kC_LeaseError ?eC_LeaseError ?tC_LeaseError ?hC_LeaseError ?mD_LeaseError ?sI_LeaseError ?sV_LeaseError ?sD_LeaseError ?cC_LeaseError ?mO_LeaseError ?ca_InvalidNumber ?cx_InvalidNumber ?sa_InvalidNumber ?ga_InvalidNumber ?gg_InvalidNumber ?nb_InvalidNumber ?iC_InvalidNumber ?kC_InvalidNumber ?eC_InvalidNumber ?tC_InvalidNumber ?hC_InvalidNumber ?mD_InvalidNumber ?sI_InvalidNumber ?sV_InvalidNumber ?sD_InvalidNumber ?cC_InvalidNumber ?mO_InvalidNumber ?ca_InvalidPlaces ?cx_InvalidPlaces ?sa_InvalidPlaces ?ga_InvalidPlaces ?gg_InvalidPlaces ?nb_InvalidPlaces ?iC_InvalidPlaces ?kC_InvalidPlaces ?eC_InvalidPlaces ?tC_InvalidPlaces ?hC_InvalidPlaces ?mD_InvalidPlaces ?sI_InvalidPlaces ?sV_InvalidPlaces ?sD_InvalidPlaces ?cC_InvalidPlaces ?mO_InvalidPlaces ?ca_InvalidTeam ?cx_InvalidTeam ?sa_InvalidTeam ?ga_InvalidTeam ?gg_InvalidTeam ?nb_InvalidTeam ?iC_InvalidTeam ?kC_InvalidTeam ?eC_InvalidTeam ?tC_InvalidTeam ?hC_InvalidTeam ?mD_InvalidTeam ?sI_InvalidTeam ?sV_InvalidTeam ?sD_InvalidTeam ?cC_InvalidTeam ?mO_InvalidTeam ?tI ?lI ?cI ?lc ?vc ?fc ?ll ?isD ?nsu ?any ?gs ?tk ?kn_InvalidNumber ?kk_LeaseError_InvalidNumber ?kk_InvalidNumber_InvalidNumber ?kk_InvalidPlaces_InvalidNumber ?kk_InvalidTeam_InvalidNumber ?kn_InvalidPlaces ?kk_LeaseError_InvalidPlaces ?kk_InvalidNumber_InvalidPlaces ?kk_InvalidPlaces_InvalidPlaces ?kk_InvalidTeam_InvalidPlaces ?kn_InvalidTeam ?kk_LeaseError_InvalidTeam ?kk_InvalidNumber_InvalidTeam ?kk_InvalidPlaces_InvalidTeam ?kk_InvalidTeam_InvalidTeam
    (case a_is_integer => k_is)
    (case l_is_integer => k_is)
    (case c_is_integer => k_is)
    (case k_is_integer => k_is)
    (case a_is_between => k_is)
    (case l_is_between => k_is)
    (case c_is_between => k_is)
    (case k_is_between => k_is)
    (case a_is_tuple => k_is)
    (case l_is_tuple => k_is)
    (case c_is_tuple => k_is)
    (case k_is_tuple => k_is)
    (case a_are_rising => k_is)
    (case l_are_rising => k_is)
    (case c_are_rising => k_is)
    (case k_are_rising => k_is)
    (case a_is_ascending => k_is)
    (case l_is_ascending => k_is)
    (case c_is_ascending => k_is)
    (case k_is_ascending => k_is)
    (case a_need_number => k_is)
    (case l_need_number => k_is)
    (case c_need_number => k_is)
    (case k_need_number => k_is)
    (case a_anew => k_is)
    (case l_anew => k_is)
    (case c_anew => k_is)
    (case k_anew => k_is)
    (case a_is_timer => k_is)
    (case l_is_timer => k_is)
    (case c_is_timer => k_is)
    (case k_is_timer => k_is)
    (case a_are_timers => k_is)
    (case l_are_timers => k_is)
    (case c_are_timers => k_is)
    (case k_are_timers => k_is)
    (case a_is_event => k_is)
    (case l_is_event => k_is)
    (case c_is_event => k_is)
    (case k_is_event => k_is)
    (case a_are_changes => k_is)
    (case l_are_changes => k_is)
    (case c_are_changes => k_is)
    (case k_are_changes => k_is)
    (case a_is_begin => k_is)
    (case l_is_begin => k_is)
    (case c_is_begin => k_is)
    (case k_is_begin => k_is)
    (case a_is_party_event => k_is)
    (case l_is_party_event => k_is)
    (case c_is_party_event => k_is)
    (case k_is_party_event => k_is)
    (case a_is_party_step => k_is)
    (case l_is_party_step => k_is)
    (case c_is_party_step => k_is)
    (case k_is_party_step => k_is)
    (case a_is_party => k_is)
    (case l_is_party => k_is)
    (case c_is_party => k_is)
    (case k_is_party => k_is)
    (case a_is_a_team => k_is)
    (case l_is_a_team => k_is)
    (case c_is_a_team => k_is)
    (case k_is_a_team => k_is)
    (case a_product_of => k_is)
    (case l_product_of => k_is)
    (case c_product_of => k_is)
    (case k_product_of => k_is)
    (case a_need_team => k_is)
    (case l_need_team => k_is)
    (case c_need_team => k_is)
    (case k_need_team => k_is)
    (case a_index_of => k_is)
    (case l_index_of => k_is)
    (case c_index_of => k_is)
    (case k_index_of => k_is)
    (case a_places_of => k_is)
    (case l_places_of => k_is)
    (case c_places_of => k_is)
    (case k_places_of => k_is)
    (case a_are_party_places => k_is)
    (case l_are_party_places => k_is)
    (case c_are_party_places => k_is)
    (case k_are_party_places => k_is)
    (case a_place_of => k_is)
    (case l_place_of => k_is)
    (case c_place_of => k_is)
    (case k_place_of => k_is)
    (case a_places_at => k_is)
    (case l_places_at => k_is)
    (case c_places_at => k_is)
    (case k_places_at => k_is)
    (case a_are_wanted => k_is)
    (case l_are_wanted => k_is)
    (case c_are_wanted => k_is)
    (case k_are_wanted => k_is)
    (case a_goals_by => k_is)
    (case l_goals_by => k_is)
    (case c_goals_by => k_is)
    (case k_goals_by => k_is)
    (case a_goals_with => k_is)
    (case l_goals_with => k_is)
    (case c_goals_with => k_is)
    (case k_goals_with => k_is)
    (case a__law_well => k_is)
    (case l__law_well => k_is)
    (case c__law_well => k_is)
    (case k__law_well => k_is)
    (case a__law_draw => k_is)
    (case l__law_draw => k_is)
    (case c__law_draw => k_is)
    (case k__law_draw => k_is)
    (case a__law_some => k_is)
    (case l__law_some => k_is)
    (case c__law_some => k_is)
    (case k__law_some => k_is)
    (case a__law_is_int => k_is)
    (case l__law_is_int => k_is)
    (case c__law_is_int => k_is)
    (case k__law_is_int => k_is)
    (case a__law_rises => k_is)
    (case l__law_rises => k_is)
    (case c__law_rises => k_is)
    (case k__law_rises => k_is)
    (case a__law_spots => k_is)
    (case l__law_spots => k_is)
    (case c__law_spots => k_is)
    (case k__law_spots => k_is)
    (case a__law_wide_team => k_is)
    (case l__law_wide_team => k_is)
    (case c__law_wide_team => k_is)
    (case k__law_wide_team => k_is)
    (case a__law_bent => k_is)
    (case l__law_bent => k_is)
    (case c__law_bent => k_is)
    (case k__law_bent => k_is)
    (case a__law_are_places => k_is)
    (case l__law_are_places => k_is)
    (case c__law_are_places => k_is)
    (case k__law_are_places => k_is)
    (case a__law_are_wishes => k_is)
    (case l__law_are_wishes => k_is)
    (case c__law_are_wishes => k_is)
    (case k__law_are_wishes => k_is)
    (case a__law_goals_due => k_is)
    (case l__law_goals_due => k_is)
    (case c__law_goals_due => k_is)
    (case k__law_goals_due => k_is)
    (case a__law_refused => k_is)
    (case l__law_refused => k_is)
    (case c__law_refused => k_is)
    (case k__law_refused => k_is)
    (case a_law => k_is)
    (case l_law => k_is)
    (case c_law => k_is)
    (case k_law => k_is)
    (case b_abs => k_is)
    (case b_all => k_is)
    (case b_bool => k_is)
    (case b_enumerate => k_is)
    (case b_int => k_is)
    (case b_isinstance => k_is)
    (case b_len => k_is)
    (case b_list => k_is)
    (case b_max => k_is)
    (case b_min => k_is)
    (case b_range => k_is)
    (case b_repr => k_is)
    (case b_str => k_is)
    (case b_tuple => k_is)
    (case b_zip => k_is)
    (case v_MOST_TIMERS => k_is)
    (case v_MOST_BOUND => k_is)
    (case v_TIMER => k_is)
    (case v_FREE => k_is)
    (case v_MOST_PARTIES => k_is)
    (case v_MOST_PLACES => k_is)
    (case v_MOST_STEPS => k_is)
    (case v_MOST_SIGNAL => k_is)
    (case v_MOST_PRODUCT => k_is)
    (case v_HEARS => k_is)
    (case ca_LeaseError => k_is)
    (case cx_LeaseError => k_is)
    (case sa_LeaseError => k_is)
    (case ga_LeaseError => k_is)
    (case gg_LeaseError => k_is)
    (case nb_LeaseError => k_is)
    (case iC_LeaseError => k_is)
    (case kC_LeaseError => k_is)
    (case eC_LeaseError => k_is)
    (case tC_LeaseError => k_is)
    (case hC_LeaseError => k_is)
    (case mD_LeaseError => k_is)
    (case sI_LeaseError => ks_is)
    (case sV_LeaseError => k_is)
    (case sD_LeaseError => first | rfl | k_is)
    (case cC_LeaseError => k_is)
    (case mO_LeaseError => k_is)
    (case ca_InvalidNumber => k_is)
    (case cx_InvalidNumber => k_is)
    (case sa_InvalidNumber => k_is)
    (case ga_InvalidNumber => k_is)
    (case gg_InvalidNumber => k_is)
    (case nb_InvalidNumber => k_is)
    (case iC_InvalidNumber => k_is)
    (case kC_InvalidNumber => k_is)
    (case eC_InvalidNumber => k_is)
    (case tC_InvalidNumber => k_is)
    (case hC_InvalidNumber => k_is)
    (case mD_InvalidNumber => k_is)
    (case sI_InvalidNumber => ks_is)
    (case sV_InvalidNumber => k_is)
    (case sD_InvalidNumber => k_is)
    (case cC_InvalidNumber => k_is)
    (case mO_InvalidNumber => k_is)
    (case ca_InvalidPlaces => k_is)
    (case cx_InvalidPlaces => k_is)
    (case sa_InvalidPlaces => k_is)
    (case ga_InvalidPlaces => k_is)
    (case gg_InvalidPlaces => k_is)
    (case nb_InvalidPlaces => k_is)
    (case iC_InvalidPlaces => k_is)
    (case kC_InvalidPlaces => k_is)
    (case eC_InvalidPlaces => k_is)
    (case tC_InvalidPlaces => k_is)
    (case hC_InvalidPlaces => k_is)
    (case mD_InvalidPlaces => k_is)
    (case sI_InvalidPlaces => ks_is)
    (case sV_InvalidPlaces => k_is)
    (case sD_InvalidPlaces => k_is)
    (case cC_InvalidPlaces => k_is)
    (case mO_InvalidPlaces => k_is)
    (case ca_InvalidTeam => k_is)
    (case cx_InvalidTeam => k_is)
    (case sa_InvalidTeam => k_is)
    (case ga_InvalidTeam => k_is)
    (case gg_InvalidTeam => k_is)
    (case nb_InvalidTeam => k_is)
    (case iC_InvalidTeam => k_is)
    (case kC_InvalidTeam => k_is)
    (case eC_InvalidTeam => k_is)
    (case tC_InvalidTeam => k_is)
    (case hC_InvalidTeam => k_is)
    (case mD_InvalidTeam => k_is)
    (case sI_InvalidTeam => ks_is)
    (case sV_InvalidTeam => k_is)
    (case sD_InvalidTeam => k_is)
    (case cC_InvalidTeam => k_is)
    (case mO_InvalidTeam => k_is)
    (case tI => k_is)
    (case lI => k_is)
    (case cI => k_is)
    (case lc => k_is)
    (case vc => first | rfl | decide +kernel)
    (case fc => first | rfl | decide +kernel)
    (case ll => k_is)
    (case isD => k_is)
    (case nsu => k_is)
    (case any => k_is)
    (case gs => k_is)
    (case tk => k_is)
    (case kn_InvalidNumber => kit_is)
    (case kk_LeaseError_InvalidNumber => kit_is)
    (case kk_InvalidNumber_InvalidNumber => kit_is)
    (case kk_InvalidPlaces_InvalidNumber => kit_is)
    (case kk_InvalidTeam_InvalidNumber => kit_is)
    (case kn_InvalidPlaces => kit_is)
    (case kk_LeaseError_InvalidPlaces => kit_is)
    (case kk_InvalidNumber_InvalidPlaces => kit_is)
    (case kk_InvalidPlaces_InvalidPlaces => kit_is)
    (case kk_InvalidTeam_InvalidPlaces => kit_is)
    (case kn_InvalidTeam => kit_is)
    (case kk_LeaseError_InvalidTeam => kit_is)
    (case kk_InvalidNumber_InvalidTeam => kit_is)
    (case kk_InvalidPlaces_InvalidTeam => kit_is)
    (case kk_InvalidTeam_InvalidTeam => kit_is)

