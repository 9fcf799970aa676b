import PyProof.Rows.All
import Wide.All
import OpenK.AllK
import Wide.FinOn
import PyProof.EqAt
import PyProof.EqKinds
import PyProof.TupleCall
import HandS.ForMost
import HandS.ForExc
import HandS.Wide
import HandS.IsInst
import HandS.TupAny
import HandS.TupMul
import HandS.Conv
import HandS.Zip
import KE.KExcSuper
import KE.KExcIs
import HandS.ExcIs
import HandS.ExcField
import HandS.Ends
import HandS.ExcOwn
import HandS.WordsExc
import HandS.Spec
import HandS.RaiseMore
import HandS.List
import HandS.Style
import PySem.Challenge.RW_leasesall_k31_least_servers_and_clocks_t
set_option Elab.async false
set_option linter.all false
set_option maxRecDepth 100000
set_option maxHeartbeats 4000000
/-! DL1: the data layer's ground. Data d : D (PyData) of a value v in a heap F that only grows (Rp); slots and temporaries hold frozen data or an owned list (DV); the relation Rl of such an environment with the hand layer's slots and abstract heap; the monad M. -/
namespace DL
open PySem PySem.Spec PyProof.Rows L2

abbrev D := PyData
/-- the kept part, the module's names -/
structure Frag where
  K : PySem.W.Frag
  G : Str → Option Value

/-! ### data in a heap -/
mutual
inductive Rp (K : Frag) (F : Hp) : V → D → Prop
  | non : Rp K F .non .none
  | bl (b : Bool) : Rp K F (.bl b) (.bool b)
  | int (i : Int) : Rp K F (.int i) (.int i)
  | str (x : Str) : Rp K F (.str x) (.str x)
  | lst {a : Addr} {xs : List V} {ds : List D} : SqL K.K F a xs → RpAll K F xs ds → Rp K F (.ref a) (.list ds)
  | tup {a : Addr} {xs : List V} {ds : List D} : SqT K.K F a xs → RpAll K F xs ds → Rp K F (.ref a) (.tuple ds)
  | dic {a : Addr} {o : Obj} {kvs : List (Key × V)} {ds : List (D × D)} : F a = some (.frz o (.dK kvs)) → RpKv K F kvs ds → Rp K F (.ref a) (.dict ds)
inductive RpAll (K : Frag) (F : Hp) : List V → List D → Prop
  | nil : RpAll K F [] []
  | cons {v : V} {vs : List V} {d : D} {ds : List D} : Rp K F v d → RpAll K F vs ds → RpAll K F (v :: vs) (d :: ds)
inductive RpKv (K : Frag) (F : Hp) : List (Key × V) → List (D × D) → Prop
  | nil : RpKv K F [] []
  | int {i : Int} {v : V} {kvs : List (Key × V)} {d : D} {ds : List (D × D)} : Rp K F v d → RpKv K F kvs ds → RpKv K F ((.inl i, v) :: kvs) ((.int i, d) :: ds)
  | str {x : Str} {v : V} {kvs : List (Key × V)} {d : D} {ds : List (D × D)} : Rp K F v d → RpKv K F kvs ds → RpKv K F ((.inr x, v) :: kvs) ((.str x, d) :: ds)
end

section
variable {K : Frag} {F F' H : Hp}
theorem rd_mono {a : Addr} {u : HO} (e : Same F F') (h : Rd F a u) : Rd F' a u := by
  rcases h with h | ⟨o, h⟩
  · exact .inl (e _ _ h)
  · exact .inr ⟨o, e _ _ h⟩
theorem sql_mono {K : PySem.W.Frag} {a : Addr} {xs : List V} (e : Same F F') (h : SqL K F a xs) : SqL K F' a xs := by
  rcases h with (h | ⟨o, h⟩) | h
  · exact .inl (.inl (e _ _ h))
  · exact .inl (.inr ⟨o, e _ _ h⟩)
  · exact .inr h
theorem sqt_mono {K : PySem.W.Frag} {a : Addr} {xs : List V} (e : Same F F') (h : SqT K F a xs) : SqT K F' a xs := by
  rcases h with (h | ⟨o, h⟩) | h
  · exact .inl (.inl (e _ _ h))
  · exact .inl (.inr ⟨o, e _ _ h⟩)
  · exact .inr h
mutual
theorem Rp.mono (e : Same F F') : ∀ {v : V} {d : D}, Rp K F v d → Rp K F' v d
  | _, _, .non => .non
  | _, _, .bl b => .bl b
  | _, _, .int i => .int i
  | _, _, .str x => .str x
  | _, _, .lst h a => .lst (sql_mono e h) (RpAll.mono e a)
  | _, _, .tup h a => .tup (sqt_mono e h) (RpAll.mono e a)
  | _, _, .dic h a => .dic (e _ _ h) (RpKv.mono e a)
theorem RpAll.mono (e : Same F F') : ∀ {vs : List V} {ds : List D}, RpAll K F vs ds → RpAll K F' vs ds
  | _, _, .nil => .nil
  | _, _, .cons h t => .cons (Rp.mono e h) (RpAll.mono e t)
theorem RpKv.mono (e : Same F F') : ∀ {vs : List (Key × V)} {ds : List (D × D)}, RpKv K F vs ds → RpKv K F' vs ds
  | _, _, .nil => .nil
  | _, _, .int h t => .int (Rp.mono e h) (RpKv.mono e t)
  | _, _, .str h t => .str (Rp.mono e h) (RpKv.mono e t)
end
theorem RpAll.length : ∀ {vs : List V} {ds : List D}, RpAll K F vs ds → vs.length = ds.length
  | _, _, .nil => rfl
  | _, _, .cons _ t => by rw [List.length_cons, List.length_cons, RpAll.length t]
theorem RpAll.get : ∀ {vs : List V} {ds : List D} {i : Nat} {d : D}, RpAll K F vs ds → ds[i]? = some d → ∃ v, vs[i]? = some v ∧ Rp K F v d
  | _, _, _, _, .nil, e => by simp at e
  | _, _, 0, _, .cons h _, e => by
    simp at e; subst e; exact ⟨_, rfl, h⟩
  | _, _, i + 1, _, .cons _ t, e => by
    obtain ⟨v, e1, h1⟩ := RpAll.get (i := i) t (by simpa using e)
    exact ⟨v, by simpa using e1, h1⟩
theorem RpAll.get' : ∀ {vs : List V} {ds : List D} {i : Nat} {v : V}, RpAll K F vs ds → vs[i]? = some v → ∃ d, ds[i]? = some d ∧ Rp K F v d
  | _, _, _, _, .nil, e => by simp at e
  | _, _, 0, _, .cons h _, e => by
    simp at e; subst e; exact ⟨_, rfl, h⟩
  | _, _, i + 1, _, .cons _ t, e => by
    obtain ⟨v, e1, h1⟩ := RpAll.get' (i := i) t (by simpa using e)
    exact ⟨v, by simpa using e1, h1⟩
theorem RpAll.append : ∀ {vs : List V} {ds : List D} {ws : List V} {es : List D}, RpAll K F vs ds → RpAll K F ws es → RpAll K F (vs ++ ws) (ds ++ es)
  | _, _, _, _, .nil, h => h
  | _, _, _, _, .cons h t, u => .cons h (RpAll.append t u)
theorem RpAll.one {v : V} {d : D} (h : Rp K F v d) : RpAll K F [v] [d] := .cons h .nil
theorem RpAll.take : ∀ {vs : List V} {ds : List D} (n : Nat), RpAll K F vs ds → RpAll K F (vs.take n) (ds.take n)
  | _, _, 0, _ => by simpa using RpAll.nil
  | _, _, n + 1, .nil => by simpa using RpAll.nil
  | _, _, n + 1, .cons h t => by simpa using RpAll.cons h (RpAll.take n t)
theorem RpAll.drop : ∀ {vs : List V} {ds : List D} (n : Nat), RpAll K F vs ds → RpAll K F (vs.drop n) (ds.drop n)
  | _, _, 0, h => by simpa using h
  | _, _, n + 1, .nil => by simpa using RpAll.nil
  | _, _, n + 1, .cons _ t => by simpa using RpAll.drop n t
theorem RpAll.set : ∀ {vs : List V} {ds : List D} {v : V} {d : D} (n : Nat), RpAll K F vs ds → Rp K F v d → RpAll K F (vs.set n v) (ds.set n d)
  | _, _, _, _, _, .nil, _ => by simpa using RpAll.nil
  | _, _, _, _, 0, .cons _ t, h => by simpa using RpAll.cons h t
  | _, _, _, _, n + 1, .cons g t, h => by simpa using RpAll.cons g (RpAll.set n t h)
theorem RpAll.erase : ∀ {vs : List V} {ds : List D} (n : Nat), RpAll K F vs ds → RpAll K F (vs.eraseIdx n) (ds.eraseIdx n)
  | _, _, _, .nil => by simpa using RpAll.nil
  | _, _, 0, .cons _ t => by simpa using t
  | _, _, n + 1, .cons h t => by simpa using RpAll.cons h (RpAll.erase n t)
theorem RpAll.reverse {vs : List V} {ds : List D} (h : RpAll K F vs ds) : RpAll K F vs.reverse ds.reverse := by
  induction vs generalizing ds with
  | nil => cases h; exact .nil
  | cons v vs ih =>
    cases h with
    | cons h t => rw [List.reverse_cons, List.reverse_cons]; exact (ih t).append (.one h)
theorem RpAll.ints : ∀ (ns : List Int), RpAll K F (ns.map V.int) (ns.map PyData.int)
  | [] => .nil
  | n :: ns => .cons (.int n) (RpAll.ints ns)

/-! ### slots -/
/-- what a slot (or a temporary) holds: nothing, frozen data, an own list, a list that the caller owns and lends -/
inductive DV where
  | un
  | dat (d : D)
  | lst (ds : List D)
  | bor (ds : List D)
  | exc (c : Str) (d : D)
/-- the list's content, where the slot owns or has borrowed one -/
def DV.own : DV → Option (List D)
  | .lst ds => some ds
  | .bor ds => some ds
  | _ => none

/-- at a lies an exception of the class at C, its dict at dd -/
def ExK (C dd a : Addr) : HO := .ext fun h => ∃ (oe : Obj) (vs : Array Value), h.get? a = some oe ∧ Zc (.ref C) (some dd) oe ∧ oe.data = .fields vs
/-- the value v is an exception of the class named c about d -/
def ExAt (K : Frag) (F : Hp) (v : V) (c : Str) (d : D) : Prop := ∃ (a dd C : Addr) (w : V), v = .ref a ∧ K.G c = some (.ref C) ∧ F a = some (ExK C dd a) ∧ F dd = some (.xd [(("value" : Str), w)]) ∧ Rp K F w d
theorem ExAt.mono {v : V} {c : Str} {d : D} (e : Same F F') (h : ExAt K F v c d) : ExAt K F' v c d := by
  obtain ⟨a, dd, C, w, h1, h2, h3, h4, h5⟩ := h
  exact ⟨a, dd, C, w, h1, h2, e _ _ h3, e _ _ h4, h5.mono e⟩
def SlotOk (K : Frag) (F H : Hp) (v : Option V) : DV → Prop
  | .un => True
  | .dat d => ∃ x, v = some x ∧ Rp K F x d
  | .lst ds => ∃ a xs, v = some (.ref a) ∧ F a = none ∧ H a = some (.lst xs) ∧ RpAll K F xs ds
  | .bor ds => ∃ a xs, v = some (.ref a) ∧ F a = none ∧ H a = some (.lst xs) ∧ RpAll K F xs ds
  | .exc c d => ∃ x, v = some x ∧ ExAt K F x c d

/-- what stays the same within a body: the heap at the entry, the addresses of the lent lists -/
structure Ct where
  Hi : Hp
  F0 : Hp
  B : List (Nat × Addr)
def Ct.ads (c : Ct) : List Addr := c.B.map (·.2)

/-- the environment ρ (slots, then temporaries) lies at the places L in the heap H, its frozen data in F -/
structure Rl (K : Frag) (c : Ct) (F : Hp) (ρ : List DV) (L : List (Option V)) (H : Hp) : Prop where
  len : ρ.length = L.length
  sub : Same F H
  keep : ∀ b o, c.Hi b = some o → b ∉ c.ads → H b = some o
  slot : ∀ (i : Nat) (x : DV) (v : Option V), ρ[i]? = some x → L[i]? = some v → SlotOk K F H v x
  sep : ∀ (i j : Nat) (x y : DV) (a : Addr), ρ[i]? = some x → ρ[j]? = some y → x.own ≠ none → y.own ≠ none → L[i]? = some (some (.ref a)) → L[j]? = some (some (.ref a)) → i = j
  fresh : ∀ (i : Nat) (x : DV) (a : Addr), ρ[i]? = some x → x.own ≠ none → L[i]? = some (some (.ref a)) → c.Hi a = none ∨ a ∈ c.ads
  nobor : ∀ (i : Nat) (ds : List D) (a : Addr), ρ[i]? = some (.lst ds) → L[i]? = some (some (.ref a)) → a ∉ c.ads
  lent : ∀ p ∈ c.B, (∃ ds, ρ[p.1]? = some (.bor ds)) ∧ L[p.1]? = some (some (.ref p.2))
  born : ∀ b o, F b = some o → c.F0 b = some o ∨ c.Hi b = none

theorem SlotOk.mono {v : Option V} {x : DV} {H' : Hp} (h : SlotOk K F H v x) (e : Same F F') (ho : ∀ a xs, v = some (.ref a) → x.own ≠ none → F a = none → H a = some (.lst xs) → F' a = none ∧ H' a = some (.lst xs)) : SlotOk K F' H' v x := by
  cases x with
  | un => trivial
  | dat d => obtain ⟨y, e1, h1⟩ := h; exact ⟨y, e1, h1.mono e⟩
  | lst ds =>
    obtain ⟨a, xs, e1, e2, e3, h1⟩ := h
    obtain ⟨g1, g2⟩ := ho a xs e1 (by simp [DV.own]) e2 e3
    exact ⟨a, xs, e1, g1, g2, h1.mono e⟩
  | bor ds =>
    obtain ⟨a, xs, e1, e2, e3, h1⟩ := h
    obtain ⟨g1, g2⟩ := ho a xs e1 (by simp [DV.own]) e2 e3
    exact ⟨a, xs, e1, g1, g2, h1.mono e⟩
  | exc c d => obtain ⟨y, e1, h1⟩ := h; exact ⟨y, e1, h1.mono e⟩
theorem SlotOk.own {v : Option V} {x : DV} {ds : List D} (h : SlotOk K F H v x) (e : x.own = some ds) : ∃ a xs, v = some (.ref a) ∧ F a = none ∧ H a = some (.lst xs) ∧ RpAll K F xs ds := by
  cases x with
  | un => simp [DV.own] at e
  | dat d => simp [DV.own] at e
  | lst es => simp only [DV.own, Option.some.injEq] at e; subst e; exact h
  | bor es => simp only [DV.own, Option.some.injEq] at e; subst e; exact h
  | exc c d => simp [DV.own] at e

/-! ### the relation goes on -/
section
variable {c : Ct} {ρ : List DV} {L : List (Option V)}
theorem Rl.lentAt {p : Addr} (R : Rl K c F ρ L H) (h : p ∈ c.ads) : ∃ xs, H p = some (.lst xs) := by
  obtain ⟨q, hq, rfl⟩ := List.mem_map.mp h
  obtain ⟨⟨ds, e⟩, l⟩ := R.lent q hq
  obtain ⟨a, xs, e1, _, e3, _⟩ := R.slot _ _ _ e l
  cases e1
  exact ⟨xs, e3⟩
theorem Rl.freshAt {p : Addr} (R : Rl K c F ρ L H) (hp : H p = none) : c.Hi p = none ∧ p ∉ c.ads := by
  have hB : p ∉ c.ads := fun z => by
    obtain ⟨xs, e⟩ := R.lentAt z
    rw [hp] at e; cases e
  refine ⟨?_, hB⟩
  cases q : c.Hi p with
  | none => rfl
  | some o => have := R.keep p o q hB; rw [hp] at this; cases this
/-- a new object that is frozen from the beginning -/
theorem Rl.new {p : Addr} {o : HO} (R : Rl K c F ρ L H) (hp : H p = none) : Rl K c (upd F p o) ρ L (upd H p o) := by
  have hF : F p = none := by
    cases q : F p with
    | none => rfl
    | some u => have := R.sub p u q; rw [hp] at this; cases this
  have eF : Same F (upd F p o) := fun b u q => by rw [upd_ne (ne_of_none q hF)]; exact q
  refine ⟨R.len, fun b u q => ?_, fun b u q n => ?_, fun i x v e1 e2 => ?_, R.sep, R.fresh, R.nobor, R.lent, fun b u q => ?_⟩
  · by_cases hb : b = p
    · subst hb; rw [upd_same] at q ⊢; exact q
    · rw [upd_ne hb] at q ⊢; exact R.sub b u q
  · rw [upd_ne (ne_of_none (R.keep b u q n) hp)]; exact R.keep b u q n
  · refine (R.slot i x v e1 e2).mono eF fun a xs _ _ h1 h2 => ?_
    have : a ≠ p := ne_of_none h2 hp
    exact ⟨by rw [upd_ne this]; exact h1, by rw [upd_ne this]; exact h2⟩
  · by_cases hb : b = p
    · exact .inr (hb ▸ (R.freshAt hp).1)
    · rw [upd_ne hb] at q; exact R.born b u q
/-- a new list, owned by a new temporary -/
theorem Rl.push {p : Addr} {xs : List V} {ds : List D} (R : Rl K c F ρ L H) (hp : H p = none) (h : RpAll K F xs ds) : Rl K c F (ρ ++ [.lst ds]) (L ++ [some (.ref p)]) (upd H p (.lst xs)) := by
  have hF : F p = none := by
    cases q : F p with
    | none => rfl
    | some u => have := R.sub p u q; rw [hp] at this; cases this
  have at_ : ∀ {i : Nat} {x : DV}, (ρ ++ [DV.lst ds])[i]? = some x → (ρ[i]? = some x ∧ i < ρ.length) ∨ (i = ρ.length ∧ x = .lst ds) := fun {i x} e => by
    by_cases hi : i < ρ.length
    · rw [List.getElem?_append_left hi] at e; exact .inl ⟨e, hi⟩
    · rw [List.getElem?_append_right (by omega)] at e
      have : i - ρ.length = 0 := by
        cases q : i - ρ.length with
        | zero => rfl
        | succ k => rw [q] at e; simp at e
      rw [this] at e
      simp at e
      exact .inr ⟨by omega, e.symm⟩
  have lt_ : ∀ {i : Nat} {v : Option V}, i < ρ.length → (L ++ [some (V.ref p)])[i]? = some v → L[i]? = some v := fun {i v} hi e => by
    rw [List.getElem?_append_left (by rw [← R.len]; exact hi)] at e; exact e
  have last_ : ∀ {v : Option V}, (L ++ [some (V.ref p)])[ρ.length]? = some v → v = some (.ref p) := fun {v} e => by
    rw [R.len, List.getElem?_append_right (Nat.le_refl _)] at e
    simp at e
    exact e.symm
  have ne_ : ∀ {i : Nat} {x : DV} {a : Addr}, ρ[i]? = some x → x.own ≠ none → L[i]? = some (some (.ref a)) → a ≠ p := fun {i x a} e o l => by
    cases q : x.own with
    | none => exact absurd q o
    | some es =>
      obtain ⟨a', xs', e1, _, e3, _⟩ := (R.slot i x _ e l).own q
      cases e1
      exact ne_of_none e3 hp
  obtain ⟨hi, hB⟩ := R.freshAt hp
  refine ⟨by rw [List.length_append, List.length_append, R.len] <;> rfl, fun b u q => ?_, fun b u q n => ?_, fun i x v e1 e2 => ?_, fun i j x y a e1 e2 o1 o2 l1 l2 => ?_, fun i x a e1 o1 l1 => ?_, fun i es a e1 l1 => ?_, fun q hq => ?_, R.born⟩
  · rw [upd_ne (ne_of_none (R.sub b u q) hp)]; exact R.sub b u q
  · rw [upd_ne (ne_of_none (R.keep b u q n) hp)]; exact R.keep b u q n
  · rcases at_ e1 with ⟨e1, hl⟩ | ⟨rfl, rfl⟩
    · refine (R.slot i x v e1 (lt_ hl e2)).mono (Same.refl F) fun a ys _ _ h1 h2 => ⟨h1, ?_⟩
      rw [upd_ne (ne_of_none h2 hp)]; exact h2
    · have := last_ e2
      subst this
      exact ⟨p, xs, rfl, hF, upd_same, h⟩
  · rcases at_ e1 with ⟨e1, hl1⟩ | ⟨rfl, rfl⟩
    · rcases at_ e2 with ⟨e2, hl2⟩ | ⟨rfl, rfl⟩
      · exact R.sep i j x y a e1 e2 o1 o2 (lt_ hl1 l1) (lt_ hl2 l2)
      · have q := last_ l2
        cases q
        exact absurd rfl (ne_ e1 o1 (lt_ hl1 l1))
    · rcases at_ e2 with ⟨e2, hl2⟩ | ⟨rfl, rfl⟩
      · have q := last_ l1
        cases q
        exact absurd rfl (ne_ e2 o2 (lt_ hl2 l2))
      · rfl
  · rcases at_ e1 with ⟨e1, hl1⟩ | ⟨rfl, rfl⟩
    · exact R.fresh i x a e1 o1 (lt_ hl1 l1)
    · have q := last_ l1
      cases q
      exact .inl hi
  · rcases at_ e1 with ⟨e1, hl1⟩ | ⟨rfl, q⟩
    · exact R.nobor i es a e1 (lt_ hl1 l1)
    · have q := last_ l1
      cases q
      exact hB
  · obtain ⟨⟨es, e⟩, l⟩ := R.lent q hq
    have h1 : q.1 < ρ.length := (List.getElem?_eq_some_iff.mp e).1
    exact ⟨⟨es, by rw [List.getElem?_append_left h1]; exact e⟩, by rw [List.getElem?_append_left (by rw [← R.len]; exact h1)]; exact l⟩
end
end
end DL

set_option Elab.async false
set_option linter.all false
set_option maxRecDepth 100000
set_option maxHeartbeats 4000000
/-! DL2: the monad M over environments, the judgements (tE, tT, tA, tS) and the rules of plain expressions. -/
namespace DL
open PySem PySem.Spec PyProof.Rows L2

abbrev St := L2.St
/-- an exception: its class's name, its value -/
abbrev Ex := Str × D
/-- a step: stuck, or a value or an exception, with the environment behind it -/
abbrev M (α : Type) := List DV → Option (Except Ex α × List DV)
namespace M
def ok {α : Type} (a : α) : M α := fun ρ => some (.ok a, ρ)
def no {α : Type} : M α := fun _ => none
def rais {α : Type} (x : Ex) : M α := fun ρ => some (.error x, ρ)
def bind {α β : Type} (m : M α) (k : α → M β) : M β := fun ρ => match m ρ with
  | none => none
  | some (.ok a, ρ') => k a ρ'
  | some (.error x, ρ') => some (.error x, ρ')
def opt {α : Type} (o : Option α) : M α := fun ρ => match o with
  | none => none
  | some a => some (.ok a, ρ)
end M
theorem M.bind_ok {α β : Type} {a : α} {k : α → M β} {ρ : List DV} : M.bind (M.ok a) k ρ = k a ρ := rfl
theorem M.bind_no {α β : Type} {k : α → M β} {ρ : List DV} : M.bind M.no k ρ = none := rfl

/-- an expression's value: data, or the list that the position p owns (or has borrowed) -/
inductive DR where
  | dat (d : D)
  | loc (p : Nat)
  | exc (c : Str) (d : D)
/-- its data now -/
def rd (r : DR) : M D := fun ρ => match r with
  | .dat d => some (.ok d, ρ)
  | .loc p => match (ρ[p]?).bind DV.own with
    | some ds => some (.ok (.list ds), ρ)
    | none => none
  | .exc _ _ => none

/-- the static part: the module's names, the wish about exceptions -/
structure Ps where
  K : Frag
  W : WX

def RefV (K : Frag) (F : Hp) (L : List (Option V)) (v : V) : DR → Prop
  | .dat d => Rp K F v d
  | .loc p => L[p]? = some (some v)
  | .exc c d => ExAt K F v c d
theorem RefV.mono {K : Frag} {F F' : Hp} {L : List (Option V)} {v : V} {r : DR} (h : RefV K F L v r) (e : Same F F') : RefV K F' L v r := by
  cases r with
  | dat d => exact Rp.mono e h
  | loc p => exact h
  | exc c d => exact ExAt.mono e h

/-- what is asked of an exception -/
def Er (P : Ps) (c : Ct) (F : Hp) (σ : St) (τ : List (Option V)) (x : Ex) (ρ : List DV) : Prop :=
  ∀ (F' H' : Hp) (C dd : Addr) (v : V), Same F F' → Rl P.K c F' ρ (σ ++ τ) H' → P.K.G x.1 = some (.ref C) → Rp P.K F' v x.2 → H' dd = some (.xd [(("value" : Str), v)]) → c.Hi dd = none → P.W (.ref C) (some dd) σ H'
theorem Er.mono {P : Ps} {c : Ct} {F F' : Hp} {σ : St} {τ : List (Option V)} {x : Ex} {ρ : List DV} (h : Er P c F σ τ x ρ) (e : Same F F') : Er P c F' σ τ x ρ :=
  fun F2 H' C dd v s => h F2 H' C dd v (e.trans s)

/-- the outcome o of a step that began in F, c, σ, τ -/
def Ho {α : Type} (P : Ps) (c : Ct) (F : Hp) (σ : St) (τ : List (Option V)) (o : Option (Except Ex α × List DV)) (Φ : α → List DV → Hp → Hp → Prop) : Prop := match o with
  | none => False
  | some (.ok a, ρ) => ∀ F' H', Same F F' → Rl P.K c F' ρ (σ ++ τ) H' → Φ a ρ F' H'
  | some (.error x, ρ) => Er P c F σ τ x ρ

def tE (P : Ps) (m : M DR) : TE := fun σ H Q => ∃ c F τ ρ, Rl P.K c F ρ (σ ++ τ) H ∧ Ho P c F σ τ (m ρ) fun r _ F' H' => ∀ v, RefV P.K F' (σ ++ τ) v r → Q v H'
def tT (P : Ps) (m : M Bool) : TT := fun σ H Q => ∃ c F τ ρ, Rl P.K c F ρ (σ ++ τ) H ∧ Ho P c F σ τ (m ρ) fun b _ _ H' => Q b H'
def tA (P : Ps) (m : M (List DR)) : TA := fun σ H Q => ∃ c F τ ρ, Rl P.K c F ρ (σ ++ τ) H ∧ Ho P c F σ τ (m ρ) fun rs _ F' H' => ∀ vs, Paired (RefV P.K F' (σ ++ τ)) vs rs → Q vs H'

theorem Ho.mono {α : Type} {P : Ps} {c : Ct} {F : Hp} {σ : St} {τ : List (Option V)} {o : Option (Except Ex α × List DV)} {Φ Ψ : α → List DV → Hp → Hp → Prop} (h : Ho P c F σ τ o Φ) (f : ∀ a ρ F' H', Same F F' → Rl P.K c F' ρ (σ ++ τ) H' → Φ a ρ F' H' → Ψ a ρ F' H') : Ho P c F σ τ o Ψ := by
  match o, h with
  | some (.ok a, ρ), h => exact fun F' H' e R => f a ρ F' H' e R (h F' H' e R)
  | some (.error x, ρ), h => exact h
theorem Ho.from {α : Type} {P : Ps} {c : Ct} {F F1 : Hp} {σ : St} {τ : List (Option V)} {o : Option (Except Ex α × List DV)} {Φ : α → List DV → Hp → Hp → Prop} (h : Ho P c F σ τ o Φ) (e : Same F F1) : Ho P c F1 σ τ o Φ := by
  match o, h with
  | some (.ok a, ρ), h => exact fun F' H' s R => h F' H' (e.trans s) R
  | some (.error x, ρ), h => exact Er.mono h e
/-- a step, then another one -/
theorem Ho.bind {α β : Type} {P : Ps} {c : Ct} {F : Hp} {σ : St} {τ : List (Option V)} {m : M α} {k : α → M β} {ρ : List DV} {Φ : β → List DV → Hp → Hp → Prop} (h : Ho P c F σ τ (M.bind m k ρ) Φ) :
    Ho P c F σ τ (m ρ) fun a ρ1 F1 H1 => Ho P c F1 σ τ (k a ρ1) Φ := by
  unfold M.bind at h
  match q : m ρ with
  | none => rw [q] at h; exact h
  | some (.ok a, ρ1) =>
    rw [q] at h
    exact fun F1 H1 e R => Ho.from h e
  | some (.error x, ρ1) => rw [q] at h; exact h
theorem Ho.now {α : Type} {P : Ps} {c : Ct} {F H : Hp} {σ : St} {τ : List (Option V)} {a : α} {ρ : List DV} {Φ : α → List DV → Hp → Hp → Prop} (h : Ho P c F σ τ (M.ok a ρ) Φ) (R : Rl P.K c F ρ (σ ++ τ) H) : Φ a ρ F H := h F H (Same.refl F) R
/-- a value found without a step -/
theorem Ho.opt {α β : Type} {P : Ps} {c : Ct} {F H : Hp} {σ : St} {τ : List (Option V)} {o : Option α} {k : α → M β} {ρ : List DV} {Φ : β → List DV → Hp → Hp → Prop} (h : Ho P c F σ τ (M.bind (M.opt o) k ρ) Φ) : ∃ a, o = some a ∧ Ho P c F σ τ (k a ρ) Φ := by
  cases o with
  | none => exact (show False from h).elim
  | some a => exact ⟨a, rfl, h⟩
/-- data read -/
theorem Ho.rd {β : Type} {P : Ps} {c : Ct} {F H : Hp} {σ : St} {τ : List (Option V)} {r : DR} {k : D → M β} {ρ : List DV} {v : V} {Φ : β → List DV → Hp → Hp → Prop} (h : Ho P c F σ τ (M.bind (rd r) k ρ) Φ) (R : Rl P.K c F ρ (σ ++ τ) H) (hv : RefV P.K F (σ ++ τ) v r) :
    ∃ d, (rd r ρ = some (.ok d, ρ)) ∧ Ho P c F σ τ (k d ρ) Φ ∧ ((Rp P.K F v d) ∨ ∃ a xs ds, v = .ref a ∧ d = .list ds ∧ F a = none ∧ H a = some (.lst xs) ∧ RpAll P.K F xs ds) := by
  cases r with
  | dat d => exact ⟨d, rfl, h, .inl hv⟩
  | exc c d => exact (show False from h).elim
  | loc p =>
    unfold M.bind DL.rd at h
    dsimp only at h
    cases q : (ρ[p]?).bind DV.own with
    | none => rw [q] at h; exact (show False from h).elim
    | some ds =>
      rw [q] at h
      refine ⟨.list ds, by unfold DL.rd; dsimp only; rw [q], h, .inr ?_⟩
      cases e : ρ[p]? with
      | none => rw [e] at q; simp at q
      | some x =>
        rw [e] at q
        obtain ⟨a, xs, e1, e2, e3, e4⟩ := (R.slot p x _ e hv).own (by simpa using q)
        cases e1
        exact ⟨a, xs, ds, rfl, rfl, e2, e3, e4⟩

section
variable {X : Cx} {P : Ps} {a b e : Expr} {pos : Pos}
theorem _root_.L2.PE.of {X : Cx} {e : Expr} {t t' : TE} (h : PE X e t) (w : ∀ σ H Q, t' σ H Q → t σ H Q) : PE X e t' := ⟨fun pins s σ H Q I q => h.run pins s σ H Q I (w _ _ _ q)⟩
theorem _root_.L2.PT.of {X : Cx} {e : Expr} {t t' : TT} (h : PT X e t) (w : ∀ σ H Q, t' σ H Q → t σ H Q) : PT X e t' := ⟨fun pins s σ H Q I q => h.run pins s σ H Q I (w _ _ _ q)⟩
theorem _root_.L2.PA.of {X : Cx} {es : List Expr} {t t' : TA} (h : PA X es t) (w : ∀ σ H Q, t' σ H Q → t σ H Q) : PA X es t' := ⟨fun pos pins s σ H Q I q => h.run pos pins s σ H Q I (w _ _ _ q)⟩
theorem _root_.L2.PS.of {X : Cx} {st : Stmt} {t t' : TS} (h : PS X st t) (w : ∀ D σ H, t' D σ H → t D σ H) : PS X st t' := ⟨fun pins s σ H D I q => h.run pins s σ H D I (w _ _ _ q)⟩
theorem _root_.L2.PSs.of {X : Cx} {st : List Stmt} {t t' : TS} (h : PSs X st t) (w : ∀ D σ H, t' D σ H → t D σ H) : PSs X st t' := ⟨fun pins s σ H D I q => h.run pins s σ H D I (w _ _ _ q)⟩

/-! ### names, constants -/
def eVar (i : Nat) : M DR := fun ρ => match ρ[i]? with
  | some (.dat d) => some (.ok (.dat d), ρ)
  | some (.lst _) => some (.ok (.loc i), ρ)
  | some (.bor _) => some (.ok (.loc i), ρ)
  | some (.exc c d) => some (.ok (.exc c d), ρ)
  | _ => none
theorem de_var {i : Nat} {x : Str} (hN : X.N[i]? = some x) (hv : Vis X.env.scope x) (hl : ∀ (σ : St), σ.length = X.N.length → i < σ.length := by intro σ h; rw [h]; exact (List.getElem?_eq_some_iff.mp ‹_›).1) (hd : (x == ("__debug__" : Str)) = false := by decide) (hcd : (x == ("__classdict__" : Str)) = false := by decide) : PE X (.Name x pos) (tE P (eVar i)) := by
  refine ⟨fun pins s σ H Q I h => ?_⟩
  refine (pe_var (i := i) hN hv hd hcd).run pins s σ H Q I ?_
  obtain ⟨c, F, τ, ρ, R, h⟩ := h
  have hi : i < σ.length := by rw [I.len]; exact (List.getElem?_eq_some_iff.mp hN).1
  have hL : (σ ++ τ)[i]? = σ[i]? := List.getElem?_append_left hi
  unfold eVar at h
  cases e : ρ[i]? with
  | none => rw [e] at h; exact (show False from h).elim
  | some x =>
    rw [e] at h
    obtain ⟨v, ev⟩ : ∃ v, (σ ++ τ)[i]? = some v := by
      rw [List.getElem?_eq_getElem (by rw [List.length_append]; omega)]; exact ⟨_, rfl⟩
    have sl := R.slot i x v e ev
    cases x with
    | un => exact (show False from h).elim
    | dat d =>
      obtain ⟨y, e1, r⟩ := sl
      subst e1
      exact ⟨y, by rw [← hL]; exact ev, h F H (Same.refl F) R y r⟩
    | lst ds =>
      obtain ⟨a, xs, e1, _⟩ := sl
      subst e1
      exact ⟨.ref a, by rw [← hL]; exact ev, h F H (Same.refl F) R _ ev⟩
    | bor ds =>
      obtain ⟨a, xs, e1, _⟩ := sl
      subst e1
      exact ⟨.ref a, by rw [← hL]; exact ev, h F H (Same.refl F) R _ ev⟩
    | exc c d =>
      obtain ⟨y, e1, r⟩ := sl
      subst e1
      exact ⟨y, by rw [← hL]; exact ev, h F H (Same.refl F) R y r⟩
def eLit (d : D) : M DR := M.ok (.dat d)
theorem de_const {t : TE} {v : V} {d : D} (h : PE X e t) (w : ∀ σ H Q, Q v H → t σ H Q) (r : ∀ F, Rp P.K F v d) : PE X e (tE P (eLit d)) := by
  refine h.of fun σ H Q h => ?_
  obtain ⟨c, F, τ, ρ, R, h⟩ := h
  exact w σ H Q (Ho.now h R v (r F))
theorem de_int {i : Int} {k : Nat} : PE X (.Constant (.int i) k pos) (tE P (eLit (.int i))) := de_const pe_int (fun _ _ _ q => q) fun _ => .int i
theorem de_bool {b : Bool} {k : Nat} : PE X (.Constant (.bool b) k pos) (tE P (eLit (.bool b))) := de_const pe_bl (fun _ _ _ q => q) fun _ => .bl b
theorem de_none {k : Nat} : PE X (.Constant .none k pos) (tE P (eLit .none)) := de_const pe_non (fun _ _ _ q => q) fun _ => .non
theorem de_str {x : Str} {k : Nat} : PE X (.Constant (.str x) k pos) (tE P (eLit (.str x))) := de_const pe_str (fun _ _ _ q => q) fun _ => .str x
/-- a module's constant -/
theorem de_glob {x : Str} {v : V} {u : Value} {d : D} (hg : Gl X x) (hm : X.mg x = some u) (r : RelV v u) (rp : ∀ F, Rp P.K F v d) (hd : (x == ("__debug__" : Str)) = false := by decide) : PE X (.Name x pos) (tE P (eLit d)) :=
  de_const (pe_glob hg hm r hd) (fun _ _ _ q => q) rp

/-! ### two operands -/
/-- an operator on data: f tells the result -/
def eOp2 (f : D → D → Option D) (ma mb : M DR) : M DR := M.bind ma fun x => M.bind mb fun y => M.bind (rd x) fun d => M.bind (rd y) fun e => M.bind (M.opt (f d e)) fun z => M.ok (.dat z)
/-- an operand as data in the heap as it stands -/
inductive Now (K : Frag) (F H : Hp) (v : V) (d : D) : Prop
  | dat (h : Rp K F v d)
  | own {a : Addr} {xs : List V} {ds : List D} (e : v = .ref a) (e' : d = .list ds) (hF : F a = none) (hH : H a = some (.lst xs)) (h : RpAll K F xs ds)
theorem Now.list {K : Frag} {F H : Hp} {v : V} {ds : List D} (n : Now K F H v (.list ds)) (s : Same F H) : ∃ a xs, v = .ref a ∧ SqL K.K H a xs ∧ RpAll K F xs ds := by
  cases n with
  | dat h =>
    cases h with
    | lst hs ha => exact ⟨_, _, rfl, sql_mono s hs, ha⟩
  | own e e' hF hH h =>
    cases e'
    exact ⟨_, _, e, .inl (.inl hH), h⟩
theorem Now.int {K : Frag} {F H : Hp} {v : V} {i : Int} (n : Now K F H v (.int i)) : v = .int i := by
  cases n with
  | dat h => cases h; rfl
  | own e e' => cases e'
theorem Now.str {K : Frag} {F H : Hp} {v : V} {i : Str} (n : Now K F H v (.str i)) : v = .str i := by
  cases n with
  | dat h => cases h; rfl
  | own e e' => cases e'
theorem Now.bool {K : Frag} {F H : Hp} {v : V} {i : Bool} (n : Now K F H v (.bool i)) : v = .bl i := by
  cases n with
  | dat h => cases h; rfl
  | own e e' => cases e'
theorem Now.none {K : Frag} {F H : Hp} {v : V} (n : Now K F H v .none) : v = .non := by
  cases n with
  | dat h => cases h; rfl
  | own e e' => cases e'
theorem Now.tuple {K : Frag} {F H : Hp} {v : V} {ds : List D} (n : Now K F H v (.tuple ds)) (s : Same F H) : ∃ a xs, v = .ref a ∧ SqT K.K H a xs ∧ SqT K.K F a xs ∧ RpAll K F xs ds := by
  cases n with
  | dat h =>
    cases h with
    | tup hs ha => exact ⟨_, _, rfl, sqt_mono s hs, hs, ha⟩
  | own e e' => cases e'
/-- the operator's rule by data -/
def OpD (X : Cx) (P : Ps) (r : R2) (f : D → D → Option D) : Prop :=
  ∀ (c : Ct) (F H : Hp) (L : List (Option V)) (ρ : List DV) (x y : V) (d e z : D) (Q : VK), Rl P.K c F ρ L H → Now P.K F H x d → Now P.K F H y e → f d e = some z →
    (∀ F' H' v, Same F F' → Rl P.K c F' ρ L H' → Rp P.K F' v z → Q v H') → r x y H Q
theorem tE_op2 {r : R2} {f : D → D → Option D} {ma mb : M DR} (h : OpD X P r f) (σ : St) (H : Hp) (Q : VK) (q : tE P (eOp2 f ma mb) σ H Q) : tOp r (tE P ma) (tE P mb) σ H Q := by
  obtain ⟨c, F, τ, ρ, R, q⟩ := q
  refine ⟨c, F, τ, ρ, R, (Ho.bind q).mono fun x ρ1 F1 H1 s1 R1 q1 v hv => ?_⟩
  refine ⟨c, F1, τ, ρ1, R1, (Ho.bind q1).mono fun y ρ2 F2 H2 s2 R2 q2 u hu => ?_⟩
  obtain ⟨d, _, q3, n1⟩ := Ho.rd q2 R2 (hv.mono s2)
  obtain ⟨e, _, q4, n2⟩ := Ho.rd q3 R2 hu
  obtain ⟨z, ez, q5⟩ := Ho.opt (H := H2) q4
  have m1 : Now P.K F2 H2 v d := by
    rcases n1 with n1 | ⟨a, xs, ds, e1, e2, e3, e4, e5⟩
    · exact .dat n1
    · exact .own e1 e2 e3 e4 e5
  have m2 : Now P.K F2 H2 u e := by
    rcases n2 with n2 | ⟨a, xs, ds, e1, e2, e3, e4, e5⟩
    · exact .dat n2
    · exact .own e1 e2 e3 e4 e5
  exact h c F2 H2 (σ ++ τ) ρ2 v u d e z Q R2 m1 m2 ez fun F' H' w s R' rp => q5 F' H' s R' w rp
theorem de_bin {op : Operator} {r : R2} {f : D → D → Option D} {ma mb : M DR} (ho : OpR X (binaryOp op) r) (h : OpD X P r f) (ha : PE X a (tE P ma)) (hb : PE X b (tE P mb)) : PE X (.BinOp a op b pos) (tE P (eOp2 f ma mb)) :=
  (pe_op ho ha hb).of (tE_op2 h)
theorem de_cmp {op : CmpOp} {r : R2} {f : D → D → Option D} {ma mb : M DR} (ho : OpR X (compareOp op) r) (h : OpD X P r f) (ha : PE X a (tE P ma)) (hb : PE X b (tE P mb)) (hm : behindInMarks op b = false) : PE X (.Compare a [op] [b] pos) (tE P (eOp2 f ma mb)) :=
  (pe_cmpR ho ha hb hm).of (tE_op2 h)
/-- a value as a bool -/
def asB (r : DR) : M Bool := fun ρ => match r with
  | .dat (.bool b) => some (.ok b, ρ)
  | _ => none
/-- a test whose value is a bool -/
def eB (m : M DR) : M Bool := M.bind m asB
theorem tT_B {m : M DR} (σ : St) (H : Hp) (Q : Bool → Hp → Prop) (q : tT P (eB m) σ H Q) : (tTest (tE P m)) σ H Q := by
  obtain ⟨c, F, τ, ρ, R, q⟩ := q
  refine ⟨c, F, τ, ρ, R, (Ho.bind q).mono fun x ρ1 F1 H1 s1 R1 q1 v hv => ?_⟩
  cases x with
  | loc p => exact (show False from q1).elim
  | exc c d => exact (show False from q1).elim
  | dat d =>
    cases d with
    | bool b =>
      cases (show Rp P.K F1 v (.bool b) from hv)
      exact ⟨b, rfl, q1 F1 H1 (Same.refl _) R1⟩
    | _ => exact (show False from q1).elim
theorem dt_cmp {op : CmpOp} {r : R2} {f : D → D → Option D} {ma mb : M DR} (ho : OpR X (compareOp op) r) (h : OpD X P r f) (ha : PE X a (tE P ma)) (hb : PE X b (tE P mb)) (hm : behindInMarks op b = false) : PT X (.Compare a [op] [b] pos) (tT P (eB (eOp2 f ma mb))) := by
  refine (pt_cmpR ho ha hb hm).of fun σ H Q q => ?_
  obtain ⟨c, F, τ, ρ, R, q⟩ := tT_B (P := P) σ H Q q
  exact tE_op2 h σ H _ ⟨c, F, τ, ρ, R, q⟩

/-! the operators on ints -/
def intOp (C : Int → Int → Bool) (g : Int → Int → D) : D → D → Option D := fun d e => match d, e with
  | .int i, .int j => if C i j then some (g i j) else none
  | _, _ => none
theorem intOp_some {C : Int → Int → Bool} {g : Int → Int → D} {d e z : D} (h : intOp C g d e = some z) : ∃ i j, d = .int i ∧ e = .int j ∧ C i j = true ∧ z = g i j := by
  unfold intOp at h
  split at h
  · split at h
    · rename_i i j hc
      exact ⟨i, j, rfl, rfl, hc, (Option.some.inj h).symm⟩
    · cases h
  · cases h
theorem opd_int {C : Int → Int → Prop} {C' : Int → Int → Bool} {g : Int → Int → V} {g' : Int → Int → D} (hc : ∀ i j, C' i j = true → C i j) (hg : ∀ F i j, Rp P.K F (g i j) (g' i j)) : OpD X P (rI C g) (intOp C' g') := by
  intro c F H L ρ x y d e z Q R n1 n2 hz q
  obtain ⟨i, j, rfl, rfl, h1, rfl⟩ := intOp_some hz
  exact ⟨i, j, n1.int, n2.int, hc i j h1, q F H _ (Same.refl F) R (hg F i j)⟩
theorem opd_int0 {g : Int → Int → V} {g' : Int → Int → D} (hg : ∀ F i j, Rp P.K F (g i j) (g' i j)) : OpD X P (rI0 g) (intOp (fun _ _ => true) g') := by
  intro c F H L ρ x y d e z Q R n1 n2 hz q
  obtain ⟨i, j, rfl, rfl, _, rfl⟩ := intOp_some hz
  exact ⟨i, j, n1.int, n2.int, q F H _ (Same.refl F) R (hg F i j)⟩
end
end DL

set_option Elab.async false
set_option linter.all false
set_option maxRecDepth 100000
set_option maxHeartbeats 4000000
/-! DL3: rules of expressions, further. -/
namespace DL
open PySem PySem.Spec PyProof.Rows L2
section
variable {X : Cx} {P : Ps} {a b e : Expr} {pos : Pos}

theorem Rd.sql {K : PySem.W.Frag} {H : Hp} {a : Addr} {xs : List V} (h : Rd H a (.lst xs)) : SqL K H a xs := .inl h
theorem wid {α : Type} {a b : α} (h : some a = some b) : b = a := (Option.some.inj h).symm

/-! ### int operators -/
def mulC (i j : Int) : Bool := decide (i.natAbs.log2 + j.natAbs.log2 < 1000000) || (decide (i.natAbs < 2 ^ 64) || decide (j.natAbs < 2 ^ 64))
def CMulX (i j : Int) : Prop := CMulW i j ∨ CMul i j
theorem op_mulX {X : Cx} : OpR X (binaryOp .Mult) (rI CMulX fun i j => .int (i * j)) := fun pins s σ H x y v u Q I rx ry q => by
  obtain ⟨i, j, e1, e2, h, q⟩ := q
  rcases h with h | h
  · exact op_mulW pins s σ H x y v u Q I rx ry ⟨i, j, e1, e2, h, q⟩
  · exact op_mul pins s σ H x y v u Q I rx ry ⟨i, j, e1, e2, h, q⟩
def divC (_ j : Int) : Bool := decide (0 < j) && decide (j.natAbs.log2 < 9000)
def modC (_ j : Int) : Bool := decide (0 < j)
def powC (i j : Int) : Bool := decide (0 ≤ j) && decide (j ≤ 1000000) && decide (i.natAbs < 2 ^ 64)
def subD : D → D → Option D := intOp (fun _ _ => true) fun i j => .int (i - j)
def fdivD : D → D → Option D := intOp divC fun i j => .int (i / j)
def modD : D → D → Option D := intOp modC fun i j => .int (i % j)
def powD : D → D → Option D := intOp powC fun i j => .int (i ^ j.toNat)
def ltD : D → D → Option D := intOp (fun _ _ => true) fun i j => .bool (decide (i < j))
def leD : D → D → Option D := intOp (fun _ _ => true) fun i j => .bool (decide (i ≤ j))
def gtD : D → D → Option D := intOp (fun _ _ => true) fun i j => .bool (decide (j < i))
def geD : D → D → Option D := intOp (fun _ _ => true) fun i j => .bool (decide (j ≤ i))
theorem opd_sub : OpD X P (rI0 fun i j => .int (i - j)) subD := opd_int0 fun _ _ _ => .int _
theorem opd_fdiv : OpD X P (rI CDivW fun i j => .int (i / j)) fdivD := opd_int (fun i j h => by
  unfold divC at h
  simp only [Bool.and_eq_true, decide_eq_true_eq] at h
  exact h) fun _ _ _ => .int _
theorem opd_mod : OpD X P (rI (fun _ j => 0 < j) fun i j => .int (i % j)) modD := opd_int (fun i j h => of_decide_eq_true h) fun _ _ _ => .int _
theorem opd_pow : OpD X P (rI CPow fun i j => .int (i ^ j.toNat)) powD := opd_int (fun i j h => by
  unfold powC at h
  simp only [Bool.and_eq_true, decide_eq_true_eq] at h
  exact ⟨h.1.1, h.1.2, h.2⟩) fun _ _ _ => .int _
theorem opd_lt : OpD X P (rI0 fun i j => .bl (decide (i < j))) ltD := opd_int0 fun _ _ _ => .bl _
theorem opd_le : OpD X P (rI0 fun i j => .bl (decide (i ≤ j))) leD := opd_int0 fun _ _ _ => .bl _
theorem opd_gt : OpD X P (rI0 fun i j => .bl (decide (j < i))) gtD := opd_int0 fun _ _ _ => .bl _
theorem opd_ge : OpD X P (rI0 fun i j => .bl (decide (j ≤ i))) geD := opd_int0 fun _ _ _ => .bl _

/-! ### + : ints, lists, tuples -/
def rCatL (K : PySem.W.Frag) : R2 := fun x y H Q => ∃ l b xs zs, x = .ref l ∧ y = .ref b ∧ SqL K H l xs ∧ SqL K H b zs ∧ xs.length + zs.length ≤ sizeLine ∧ ∀ p, H p = none → Q (.ref p) (upd H p (.lst (xs ++ zs)))
theorem op_catL : OpR X (binaryOp .Add) (rCatL X.K) := by
  intro pins s σ H x y v u Q I rx ry h
  obtain ⟨l, b, xs, zs, rfl, rfl, hH, hB, hz, q⟩ := h
  cases rx
  cases ry
  obtain ⟨its, r, ⟨o, n, ho, hc, _, hd⟩, _⟩ := I.list hH
  obtain ⟨its2, r2, ⟨o2, n2, ho2, hc2, _, hd2⟩, _⟩ := I.list hB
  have l1 := r.length
  have l2 := r2.length
  obtain ⟨c1, dd, d1, sl⟩ := o
  obtain ⟨c2, dd2, d2, sl2⟩ := o2
  dsimp only at hc hd hc2 hd2
  subst hc hd hc2 hd2
  refine concat_meets ⟨_, ho, rfl⟩ ⟨_, ho2, rfl⟩ noFill_list_add seq_list_add PySem.F.slot_list_add PySem.F.entry_list_add (PySem.F.args_list_add_2 _ _) (list_addW l b its.toArray its2.toArray n n2 dd dd2 sl sl2 (by rw [List.size_toArray, List.size_toArray]; omega)) ⟨ho, ho2, ?_⟩
  have ea : its.toArray ++ its2.toArray = (its ++ its2).toArray := by simp
  rw [ea]
  exact ⟨.ref _, _, I.lnew (t' := s.toks) (r.append r2) (by rw [List.length_append]; omega), rfl, q _ I.fresh⟩
def addD : D → D → Option D
  | .int i, .int j => some (.int (i + j))
  | .list xs, .list ys => if xs.length + ys.length ≤ 16777216 then some (.list (xs ++ ys)) else none
  | .tuple xs, .tuple ys => if xs.length + ys.length ≤ 16777216 then some (.tuple (xs ++ ys)) else none
  | _, _ => none
def rAddA (K : PySem.W.Frag) : R2 := fun x y H Q => (rI0 fun i j => .int (i + j)) x y H Q ∨ (rCatL K x y H Q ∨ rCatA K x y H Q)
theorem op_addA : OpR X (binaryOp .Add) (rAddA X.K) := op_add.or (op_catL.or op_catA)
theorem rp_new {K : Frag} {F : Hp} {p : Addr} {xs : List V} {ds : List D} (h : RpAll K F xs ds) (hp : F p = none) : Rp K (upd F p (.lst xs)) (.ref p) (.list ds) :=
  .lst (.inl (.inl upd_same)) (h.mono fun b o q => by rw [upd_ne (ne_of_none q hp)]; exact q)
theorem rp_newT {K : Frag} {F : Hp} {p : Addr} {xs : List V} {ds : List D} (h : RpAll K F xs ds) (hp : F p = none) : Rp K (upd F p (.tup xs)) (.ref p) (.tuple ds) :=
  .tup (.inl (.inl upd_same)) (h.mono fun b o q => by rw [upd_ne (ne_of_none q hp)]; exact q)
theorem Same.upd {H : Hp} {p : Addr} {o : HO} (hp : H p = none) : Same H (upd H p o) := fun b u q => by rw [upd_ne (ne_of_none q hp)]; exact q
theorem opd_add (hK : P.K.K = X.K) : OpD X P (rAddA X.K) addD := by
  intro c F H L ρ x y d e z Q R n1 n2 hz q
  have hs : sizeLine = 16777216 := sizeLine_eq
  unfold addD at hz
  split at hz
  · rename_i i j
    cases wid hz
    exact .inl ⟨i, j, n1.int, n2.int, q F H _ (Same.refl F) R (.int _)⟩
  · rename_i xs ys
    split at hz
    · rename_i hl
      cases wid hz
      obtain ⟨a1, vs, rfl, h1, r1⟩ := n1.list R.sub
      obtain ⟨a2, ws, rfl, h2, r2⟩ := n2.list R.sub
      rw [hK] at h1 h2
      refine .inr (.inl ⟨a1, a2, vs, ws, rfl, rfl, h1, h2, by rw [r1.length, r2.length]; omega, fun p hp => ?_⟩)
      have hF : F p = none := R.sub.free hp
      exact q _ _ _ (Same.upd hF) (R.new hp) (rp_new (r1.append r2) hF)
    · cases hz
  · rename_i xs ys
    split at hz
    · rename_i hl
      cases wid hz
      obtain ⟨a1, vs, rfl, h1, f1, r1⟩ := n1.tuple R.sub
      obtain ⟨a2, ws, rfl, h2, f2, r2⟩ := n2.tuple R.sub
      rw [hK] at h1 h2
      refine .inr (.inr ⟨a1, a2, vs, ws, rfl, rfl, h1, h2, by rw [r1.length, r2.length]; omega, fun e => ?_, fun _ e => ?_, fun _ _ p hp => ?_⟩)
      · subst e
        cases r1
        rw [List.nil_append] at q
        exact q F H _ (Same.refl F) R (.tup f2 r2)
      · subst e
        cases r2
        rw [List.append_nil] at q
        exact q F H _ (Same.refl F) R (.tup f1 r1)
      · have hF : F p = none := R.sub.free hp
        exact q _ _ _ (Same.upd hF) (R.new hp) (rp_newT (r1.append r2) hF)
    · cases hz
  · cases hz

/-! ### * : ints -/
def mulD : D → D → Option D := intOp mulC fun i j => .int (i * j)
theorem opd_mul : OpD X P (rI CMulX fun i j => .int (i * j)) mulD := opd_int (fun i j h => by
  unfold mulC at h
  rw [Bool.or_eq_true, Bool.or_eq_true] at h
  rcases h with h | h | h
  · have h : i.natAbs.log2 + j.natAbs.log2 < 1000000 := of_decide_eq_true h
    exact .inl h
  · have h := of_decide_eq_true h
    exact .inr (.inl ⟨by omega, by omega⟩)
  · have h := of_decide_eq_true h
    exact .inr (.inr ⟨by omega, by omega⟩)) fun _ _ _ => .int _

/-! ### == and != of data -/
mutual
def noDict : D → Bool
  | .dict _ => false
  | .list xs => noDictAll xs
  | .tuple xs => noDictAll xs
  | _ => true
def noDictAll : List D → Bool
  | [] => true
  | x :: xs => noDict x && noDictAll xs
end
mutual
theorem Rp.dp {K : Frag} {F : Hp} : ∀ {v : V} {d : D}, Rp K F v d → d.canLay0 = true → Dp K.K F v d
  | _, _, .non, _ => .non
  | _, _, .bl b, _ => .bl b
  | _, _, .int i, _ => .int i
  | _, _, .str x, _ => .str x
  | _, _, .lst h a, e => .lst h (RpAll.dp a (by simpa [PyData.canLay0] using e))
  | _, _, .tup h a, e => .tup h (RpAll.dp a (by simpa [PyData.canLay0] using e))
  | _, _, .dic h a, e => by simp [PyData.canLay0] at e
theorem RpAll.dp {K : Frag} {F : Hp} : ∀ {v : List V} {d : List D}, RpAll K F v d → PyData.canLayAll0 d = true → DpAll K.K F v d
  | _, _, .nil, _ => .nil
  | _, _, .cons h t, e => by
    simp only [PyData.canLayAll0, Bool.and_eq_true] at e
    exact .cons (Rp.dp h e.1) (RpAll.dp t e.2)
end
theorem rpAll_mono_H {K : Frag} {F H : Hp} (s : Same F H) {xs : List V} {ds : List D} (h : RpAll K F xs ds) : RpAll K H xs ds := h.mono s
theorem Now.dp {K : Frag} {F H : Hp} {v : V} {d : D} (n : Now K F H v d) (s : Same F H) (e : SeqAt.shaped d = true) : Dp K.K H v d := by
  have e' : d.canLay0 = true := by unfold SeqAt.shaped at e; exact (Bool.and_eq_true_iff.mp e).1
  cases n with
  | dat h => exact Rp.dp (h.mono s) e'
  | own e1 e2 hF hH h =>
    subst e1 e2
    exact Rp.dp (.lst (.inl (.inl hH)) (h.mono s)) e'
def eqD (d e : D) : Option D := if SeqAt.shaped d && SeqAt.shaped e then some (.bool (PyData.eqv d e)) else none
def neD (d e : D) : Option D := if SeqAt.shaped d && SeqAt.shaped e then some (.bool (!PyData.eqv d e)) else none
theorem opd_eq (hK : P.K.K = X.K) : OpD X P (rEqD X.K) eqD := by
  intro c F H L ρ x y d e z Q R n1 n2 hz q
  unfold eqD at hz
  split at hz
  · rename_i h
    cases wid hz
    obtain ⟨h1, h2⟩ := Bool.and_eq_true_iff.mp h
    exact ⟨d, e, hK ▸ n1.dp R.sub h1, hK ▸ n2.dp R.sub h2, h1, h2, q F H _ (Same.refl F) R (.bl _)⟩
  · cases hz
theorem opd_ne (hK : P.K.K = X.K) : OpD X P (rNeD X.K) neD := by
  intro c F H L ρ x y d e z Q R n1 n2 hz q
  unfold neD at hz
  split at hz
  · rename_i h
    cases wid hz
    obtain ⟨h1, h2⟩ := Bool.and_eq_true_iff.mp h
    exact ⟨d, e, hK ▸ n1.dp R.sub h1, hK ▸ n2.dp R.sub h2, h1, h2, q F H _ (Same.refl F) R (.bl _)⟩
  · cases hz

/-! ### x[i] -/
def ixD : D → D → Option D
  | .list xs, .int i => atI xs i
  | .tuple xs, .int i => atI xs i
  | _, _ => none
theorem atI_rp {K : Frag} {F : Hp} {xs : List V} {ds : List D} {i : Int} {d : D} (h : RpAll K F xs ds) (e : atI ds i = some d) : ∃ v, atI xs i = some v ∧ Rp K F v d := by
  unfold atI at e ⊢
  rw [h.length]
  cases q : ixN ds.length i with
  | none => rw [q] at e; simp at e
  | some j =>
    rw [q, Option.bind_some] at e
    rw [Option.bind_some]
    exact h.get e
def rIxLT (K : PySem.W.Frag) : R2 := fun x y H Q => rIxL K x y H Q ∨ rIxT K x y H Q
theorem opd_ix (hK : P.K.K = X.K) : OpD X P (rIxLT X.K) ixD := by
  intro c F H L ρ x y d e z Q R n1 n2 hz q
  unfold ixD at hz
  split at hz
  · obtain ⟨a1, vs, rfl, h1, r1⟩ := n1.list R.sub
    obtain ⟨v, e1, r⟩ := atI_rp r1 hz
    exact .inl ⟨a1, vs, _, v, rfl, n2.int, hK ▸ h1, e1, q F H v (Same.refl F) R r⟩
  · obtain ⟨a1, vs, rfl, h1, _, r1⟩ := n1.tuple R.sub
    obtain ⟨v, e1, r⟩ := atI_rp r1 hz
    exact .inr ⟨a1, vs, _, v, rfl, n2.int, hK ▸ h1, e1, q F H v (Same.refl F) R r⟩
  · cases hz
theorem de_ix {ma mb : M DR} (hK : P.K.K = X.K) (ha : PE X a (tE P ma)) (hb : PE X b (tE P mb)) (hs : PlainIx b) : PE X (.Subscript a b pos) (tE P (eOp2 ixD ma mb)) :=
  (pe_ix (ix_list.or ix_tup) ha hb hs).of (tE_op2 (opd_ix hK))

/-! ### one operand -/
def eOp1 (f : D → Option D) (ma : M DR) : M DR := M.bind ma fun x => M.bind (rd x) fun d => M.bind (M.opt (f d)) fun z => M.ok (.dat z)
theorem Ho.now1 {β : Type} {c : Ct} {F H : Hp} {σ : L2.St} {τ : List (Option V)} {r : DR} {k : D → M β} {ρ : List DV} {v : V} {Φ : β → List DV → Hp → Hp → Prop} (h : Ho P c F σ τ (M.bind (DL.rd r) k ρ) Φ) (R : Rl P.K c F ρ (σ ++ τ) H) (hv : RefV P.K F (σ ++ τ) v r) :
    ∃ d, Ho P c F σ τ (k d ρ) Φ ∧ Now P.K F H v d := by
  obtain ⟨d, _, h1, h2⟩ := Ho.rd h R hv
  refine ⟨d, h1, ?_⟩
  rcases h2 with h2 | ⟨a, xs, ds, e1, e2, e3, e4, e5⟩
  · exact .dat h2
  · exact .own e1 e2 e3 e4 e5
def UnD (P : Ps) (r : V → Hp → VK → Prop) (f : D → Option D) : Prop :=
  ∀ (c : Ct) (F H : Hp) (L : List (Option V)) (ρ : List DV) (x : V) (d z : D) (Q : VK), Rl P.K c F ρ L H → Now P.K F H x d → f d = some z →
    (∀ F' H' v, Same F F' → Rl P.K c F' ρ L H' → Rp P.K F' v z → Q v H') → r x H Q
theorem tE_op1 {r : V → Hp → VK → Prop} {f : D → Option D} {ma : M DR} (h : UnD P r f) (σ : L2.St) (H : Hp) (Q : VK) (q : tE P (eOp1 f ma) σ H Q) : tUn r (tE P ma) σ H Q := by
  obtain ⟨c, F, τ, ρ, R, q⟩ := q
  refine ⟨c, F, τ, ρ, R, (Ho.bind q).mono fun x ρ1 F1 H1 s1 R1 q1 v hv => ?_⟩
  obtain ⟨d, q2, n⟩ := Ho.now1 q1 R1 hv
  obtain ⟨z, ez, q3⟩ := Ho.opt (H := H1) q2
  exact h c F1 H1 (σ ++ τ) ρ1 v d z Q R1 n ez fun F' H' w s R' rp => q3 F' H' s R' w rp
def negD : D → Option D
  | .int i => some (.int (-i))
  | _ => none
theorem de_neg {ma : M DR} (ha : PE X a (tE P ma)) : PE X (.UnaryOp .USub a pos) (tE P (eOp1 negD ma)) := (pe_un un_neg ha).of (tE_op1 (by
  intro c F H L ρ x d z Q R n hz q
  unfold negD at hz
  split at hz
  · cases wid hz
    exact ⟨_, n.int, q F H _ (Same.refl F) R (.int _)⟩
  · cases hz))

/-! ### is None -/
def isNoneB : D → Bool
  | .none => true
  | _ => false
def isNoneD (neg : Bool) : D → Option D := fun d => some (.bool (if neg then !isNoneB d else isNoneB d))
theorem Now.isN {K : Frag} {F H : Hp} {v : V} {d : D} (n : Now K F H v d) : decide (v = .non) = isNoneB d := by
  cases n with
  | dat h => cases h <;> rfl
  | own e e' => rw [e, e']; rfl
theorem de_isN {ma : M DR} {j : Nat} {p2 : Pos} (ha : PE X a (tE P ma)) : PE X (.Compare a [.Is] [.Constant .none j p2] pos) (tE P (eOp1 (isNoneD false) ma)) := by
  refine (pe_cmp (pc_isN ha) rfl).of fun σ H Q q => ?_
  obtain ⟨c, F, τ, ρ, R, q⟩ := q
  refine ⟨c, F, τ, ρ, R, (Ho.bind q).mono fun x ρ1 F1 H1 s1 R1 q1 v hv => ?_⟩
  obtain ⟨d, q2, n⟩ := Ho.now1 q1 R1 hv
  obtain ⟨z, ez, q3⟩ := Ho.opt (H := H1) q2
  unfold isNoneD at ez
  cases wid ez
  refine q3 F1 H1 (Same.refl _) R1 _ ?_
  rw [n.isN]
  exact .bl _
theorem de_notN {ma : M DR} {j : Nat} {p2 : Pos} (ha : PE X a (tE P ma)) : PE X (.Compare a [.IsNot] [.Constant .none j p2] pos) (tE P (eOp1 (isNoneD true) ma)) := by
  refine (pe_cmp (pc_notN ha) rfl).of fun σ H Q q => ?_
  obtain ⟨c, F, τ, ρ, R, q⟩ := q
  refine ⟨c, F, τ, ρ, R, (Ho.bind q).mono fun x ρ1 F1 H1 s1 R1 q1 v hv => ?_⟩
  obtain ⟨d, q2, n⟩ := Ho.now1 q1 R1 hv
  obtain ⟨z, ez, q3⟩ := Ho.opt (H := H1) q2
  unfold isNoneD at ez
  cases wid ez
  refine q3 F1 H1 (Same.refl _) R1 _ ?_
  rw [n.isN]
  exact .bl _
theorem tT_tB {m : M DR} {t : TE} (w : ∀ σ H Q, tE P m σ H Q → t σ H Q) (σ : L2.St) (H : Hp) (Q : Bool → Hp → Prop) (q : tT P (eB m) σ H Q) : tB t σ H Q := by
  obtain ⟨c, F, τ, ρ, R, q⟩ := tT_B (P := P) σ H Q q
  exact w σ H _ ⟨c, F, τ, ρ, R, q⟩
theorem dt_isN {ma : M DR} {j : Nat} {p2 : Pos} (ha : PE X a (tE P ma)) : PT X (.Compare a [.Is] [.Constant .none j p2] pos) (tT P (eB (eOp1 (isNoneD false) ma))) := by
  refine (pt_cmp (pc_isN ha) rfl).of fun σ H Q q => tT_tB (t := tIsN (tE P ma)) (fun σ H Q q => ?_) σ H Q q
  obtain ⟨c, F, τ, ρ, R, q⟩ := q
  refine ⟨c, F, τ, ρ, R, (Ho.bind q).mono fun x ρ1 F1 H1 s1 R1 q1 v hv => ?_⟩
  obtain ⟨d, q2, n⟩ := Ho.now1 q1 R1 hv
  obtain ⟨z, ez, q3⟩ := Ho.opt (H := H1) q2
  unfold isNoneD at ez
  cases wid ez
  refine q3 F1 H1 (Same.refl _) R1 _ ?_
  rw [n.isN]
  exact .bl _
theorem dt_notN {ma : M DR} {j : Nat} {p2 : Pos} (ha : PE X a (tE P ma)) : PT X (.Compare a [.IsNot] [.Constant .none j p2] pos) (tT P (eB (eOp1 (isNoneD true) ma))) := by
  refine (pt_cmp (pc_notN ha) rfl).of fun σ H Q q => tT_tB (t := tNotN (tE P ma)) (fun σ H Q q => ?_) σ H Q q
  obtain ⟨c, F, τ, ρ, R, q⟩ := q
  refine ⟨c, F, τ, ρ, R, (Ho.bind q).mono fun x ρ1 F1 H1 s1 R1 q1 v hv => ?_⟩
  obtain ⟨d, q2, n⟩ := Ho.now1 q1 R1 hv
  obtain ⟨z, ez, q3⟩ := Ho.opt (H := H1) q2
  unfold isNoneD at ez
  cases wid ez
  refine q3 F1 H1 (Same.refl _) R1 _ ?_
  rw [n.isN]
  exact .bl _
end
end DL

set_option Elab.async false
set_option linter.all false
set_option maxRecDepth 100000
set_option maxHeartbeats 4000000
/-! DL4: freezing; tests; displays; arguments; calls of built-ins. -/
namespace DL
open PySem PySem.Spec PyProof.Rows L2

/-! ### freezing an own list -/
theorem set_at {α : Type} {l : List α} {i j : Nat} {x y : α} (h : (l.set i x)[j]? = some y) : (j = i ∧ y = x) ∨ (j ≠ i ∧ l[j]? = some y) := by
  by_cases e : i = j
  · subst e
    by_cases hi : i < l.length
    · rw [List.getElem?_set_self hi] at h; exact .inl ⟨rfl, (Option.some.inj h).symm⟩
    · rw [List.getElem?_eq_none (by rw [List.length_set]; omega)] at h; cases h
  · rw [List.getElem?_set_ne e] at h; exact .inr ⟨fun z => e z.symm, h⟩
section
variable {K : Frag} {F F' H : Hp} {c : Ct} {ρ : List DV} {L : List (Option V)}
theorem Rl.freeze {p : Nat} {a : Addr} {xs : List V} {ds : List D} (R : Rl K c F ρ L H) (e : ρ[p]? = some (.lst ds)) (l : L[p]? = some (some (.ref a))) :
    ∃ xs, H a = some (.lst xs) ∧ F a = none ∧ RpAll K F xs ds ∧ Rl K c (upd F a (.lst xs)) (ρ.set p (.dat (.list ds))) L H := by
  obtain ⟨a', xs, e1, e2, e3, e4⟩ := R.slot p _ _ e l
  cases e1
  have eF : Same F (upd F a (.lst xs)) := fun b u q => by rw [upd_ne (ne_of_none q e2)]; exact q
  refine ⟨xs, e3, e2, e4, ⟨by rw [List.length_set]; exact R.len, fun b u q => ?_, R.keep, fun i x v e5 e6 => ?_, fun i j x y b h1 h2 o1 o2 l1 l2 => ?_, fun i x b h1 o1 l1 => ?_, fun i es b h1 l1 => ?_, fun q hq => ?_, fun b u q => ?_⟩⟩
  · by_cases hb : b = a
    · subst hb; rw [upd_same] at q; cases q; exact e3
    · rw [upd_ne hb] at q; exact R.sub b u q
  · rcases set_at e5 with ⟨rfl, rfl⟩ | ⟨hne, e5⟩
    · rw [l] at e6
      cases e6
      exact ⟨.ref a, rfl, .lst (.inl (.inl upd_same)) (e4.mono eF)⟩
    · refine (R.slot i x v e5 e6).mono eF fun b ys hv ho h1 h2 => ⟨?_, h2⟩
      have : b ≠ a := fun z => by
        subst z
        subst hv
        exact hne (R.sep i p x _ b e5 e ho (by simp [DV.own]) e6 l)
      rw [upd_ne this]; exact h1
  · rcases set_at h1 with ⟨_, rfl⟩ | ⟨_, h1⟩
    · exact absurd rfl o1
    · rcases set_at h2 with ⟨_, rfl⟩ | ⟨_, h2⟩
      · exact absurd rfl o2
      · exact R.sep i j x y b h1 h2 o1 o2 l1 l2
  · rcases set_at h1 with ⟨_, rfl⟩ | ⟨_, h1⟩
    · exact absurd rfl o1
    · exact R.fresh i x b h1 o1 l1
  · rcases set_at h1 with ⟨_, q⟩ | ⟨_, h1⟩
    · cases q
    · exact R.nobor i es b h1 l1
  · obtain ⟨⟨es, e'⟩, l'⟩ := R.lent q hq
    refine ⟨⟨es, ?_⟩, l'⟩
    rw [List.getElem?_set_ne (fun z => by rw [z] at e; rw [e] at e'; cases e')]
    exact e'
  · by_cases hb : b = a
    · subst hb
      rcases R.fresh p _ b e (by simp [DV.own]) l with g | g
      · exact .inr g
      · exact absurd g (R.nobor p ds b e l)
    · rw [upd_ne hb] at q; exact R.born b u q
end
def frz (r : DR) : M D := fun ρ => match r with
  | .dat d => some (.ok d, ρ)
  | .loc p => match ρ[p]? with
    | some (.lst ds) => some (.ok (.list ds), ρ.set p (.dat (.list ds)))
    | _ => none
  | .exc _ _ => none
def frzAll : List DR → M (List D)
  | [] => M.ok []
  | r :: rs => M.bind (frz r) fun d => M.bind (frzAll rs) fun ds => M.ok (d :: ds)
section
variable {X : Cx} {P : Ps} {a b e : Expr} {pos : Pos} {c : Ct} {F H : Hp} {σ : L2.St} {τ : List (Option V)}
theorem Ho.frz {β : Type} {r : DR} {k : D → M β} {ρ : List DV} {v : V} {Φ : β → List DV → Hp → Hp → Prop} (h : Ho P c F σ τ (M.bind (DL.frz r) k ρ) Φ) (R : Rl P.K c F ρ (σ ++ τ) H) (hv : RefV P.K F (σ ++ τ) v r) :
    ∃ d F1 ρ1, Same F F1 ∧ Rl P.K c F1 ρ1 (σ ++ τ) H ∧ Rp P.K F1 v d ∧ Ho P c F1 σ τ (k d ρ1) Φ := by
  cases r with
  | dat d => exact ⟨d, F, ρ, Same.refl F, R, hv, h⟩
  | exc c d => exact (show False from h).elim
  | loc p =>
    unfold M.bind DL.frz at h
    dsimp only at h
    cases q : ρ[p]? with
    | none => rw [q] at h; exact (show False from h).elim
    | some x =>
      rw [q] at h
      cases x with
      | lst ds =>
        obtain ⟨a, xs, e1, _⟩ := R.slot p _ _ q hv
        cases e1
        obtain ⟨xs, h1, h2, h3, R'⟩ := R.freeze (xs := xs) q hv
        have sF : Same F (upd F a (.lst xs)) := Same.upd h2
        exact ⟨.list ds, _, _, sF, R', .lst (.inl (.inl upd_same)) (h3.mono sF), Ho.from h sF⟩
      | _ => exact (show False from h).elim
theorem Ho.frzAll {β : Type} : ∀ {rs : List DR} {k : List D → M β} {ρ : List DV} {vs : List V} {F : Hp} {Φ : β → List DV → Hp → Hp → Prop} (h : Ho P c F σ τ (M.bind (DL.frzAll rs) k ρ) Φ) (R : Rl P.K c F ρ (σ ++ τ) H) (hv : Paired (RefV P.K F (σ ++ τ)) vs rs),
    ∃ ds F1 ρ1, Same F F1 ∧ Rl P.K c F1 ρ1 (σ ++ τ) H ∧ RpAll P.K F1 vs ds ∧ Ho P c F1 σ τ (k ds ρ1) Φ
  | [], k, ρ, _, F, Φ, h, R, .nil => ⟨[], F, ρ, Same.refl F, R, .nil, h⟩
  | r :: rs, k, ρ, v :: vs, F, Φ, h, R, .cons h1 h2 => by
    have h' : Ho P c F σ τ (M.bind (DL.frz r) (fun d => M.bind (DL.frzAll rs) fun ds => k (d :: ds)) ρ) Φ := by
      have e : M.bind (DL.frzAll (r :: rs)) k ρ = M.bind (DL.frz r) (fun d => M.bind (DL.frzAll rs) fun ds => k (d :: ds)) ρ := by
        show M.bind (M.bind (DL.frz r) fun d => M.bind (DL.frzAll rs) fun ds => M.ok (d :: ds)) k ρ = _
        unfold M.bind
        cases DL.frz r ρ with
        | none => rfl
        | some o =>
          obtain ⟨o, ρ1⟩ := o
          cases o with
          | error x => rfl
          | ok d =>
            dsimp only
            cases DL.frzAll rs ρ1 with
            | none => rfl
            | some o =>
              obtain ⟨o, ρ2⟩ := o
              cases o <;> rfl
      rw [← e]; exact h
    obtain ⟨d, F1, ρ1, s1, R1, r1, q1⟩ := Ho.frz h' R h1
    obtain ⟨ds, F2, ρ2, s2, R2, r2, q2⟩ := Ho.frzAll q1 R1 (L2.Paired.mapP h2 fun v r x => x.mono s1)
    exact ⟨d :: ds, F2, ρ2, s1.trans s2, R2, .cons (r1.mono s2) r2, q2⟩

/-! ### and, or, not, if -/
def andT (m1 m2 : M Bool) : M Bool := M.bind m1 fun b => if b = true then m2 else M.ok false
def orT (m1 m2 : M Bool) : M Bool := M.bind m1 fun b => if b = true then M.ok true else m2
def notT (m : M Bool) : M Bool := M.bind m fun b => M.ok (!b)
theorem _root_.L2.PW.of {X : Cx} {e : Expr} {t t' : TT} (h : PW X e t) (w : ∀ σ H Q, t' σ H Q → t σ H Q) : PW X e t' := ⟨fun wh pins s σ H Q I q => h.run wh pins s σ H Q I (w _ _ _ q)⟩
section
variable {rest : List Expr} {m1 m2 : M Bool}
theorem dw_and (ha : PT X a (tT P m1)) (hb : PW X (.BoolOp .And (b :: rest) pos) (tT P m2)) : PW X (.BoolOp .And (a :: b :: rest) pos) (tT P (andT m1 m2)) := by
  refine (pw_and ha hb).of fun σ H Q q => ?_
  obtain ⟨c, F, τ, ρ, R, q⟩ := q
  refine ⟨c, F, τ, ρ, R, (Ho.bind q).mono fun x ρ1 F1 H1 s1 R1 q1 => ?_⟩
  cases x with
  | true => exact ⟨c, F1, τ, ρ1, R1, q1⟩
  | false => exact Ho.now q1 R1
theorem dw_or (ha : PT X a (tT P m1)) (hb : PW X (.BoolOp .Or (b :: rest) pos) (tT P m2)) : PW X (.BoolOp .Or (a :: b :: rest) pos) (tT P (orT m1 m2)) := by
  refine (pw_or ha hb).of fun σ H Q q => ?_
  obtain ⟨c, F, τ, ρ, R, q⟩ := q
  refine ⟨c, F, τ, ρ, R, (Ho.bind q).mono fun x ρ1 F1 H1 s1 R1 q1 => ?_⟩
  cases x with
  | true => exact Ho.now q1 R1
  | false => exact ⟨c, F1, τ, ρ1, R1, q1⟩
theorem dt_not (ha : PT X a (tT P m1)) : PT X (.UnaryOp .Not a pos) (tT P (notT m1)) := by
  refine (pt_not ha).of fun σ H Q q => ?_
  obtain ⟨c, F, τ, ρ, R, q⟩ := q
  exact ⟨c, F, τ, ρ, R, (Ho.bind q).mono fun x ρ1 F1 H1 s1 R1 q1 => Ho.now q1 R1⟩
end
/-- as values (bools all but the last) -/
def andV (m1 m2 : M DR) : M DR := M.bind (eB m1) fun b => if b = true then m2 else M.ok (.dat (.bool false))
def orV (m1 m2 : M DR) : M DR := M.bind (eB m1) fun b => if b = true then M.ok (.dat (.bool true)) else m2
def notV (m : M DR) : M DR := M.bind (eB m) fun b => M.ok (.dat (.bool (!b)))
section
variable {rest : List Expr} {m1 m2 : M DR}
theorem Ho.bl {m : M DR} {β : Type} {k : Bool → M β} {ρ : List DV} {Φ : β → List DV → Hp → Hp → Prop} (h : Ho P c F σ τ (M.bind (eB m) k ρ) Φ) :
    Ho P c F σ τ (m ρ) fun r ρ1 F1 H1 => ∀ v, RefV P.K F1 (σ ++ τ) v r → ∃ b, v = .bl b ∧ Ho P c F1 σ τ (k b ρ1) Φ := by
  have h1 := Ho.bind h
  refine (Ho.bind (show Ho P c F σ τ (M.bind m asB ρ) _ from h1)).mono fun r ρ1 F1 H1 s1 R1 q1 v hv => ?_
  cases r with
  | loc p => exact (show False from q1).elim
  | exc c d => exact (show False from q1).elim
  | dat d =>
    cases d with
    | bool b =>
      cases (show Rp P.K F1 v (.bool b) from hv)
      exact ⟨b, rfl, q1 F1 H1 (Same.refl _) R1⟩
    | _ => exact (show False from q1).elim
theorem de_and (ha : PE X a (tE P m1)) (hb : PE X (.BoolOp .And (b :: rest) pos) (tE P m2)) : PE X (.BoolOp .And (a :: b :: rest) pos) (tE P (andV m1 m2)) := by
  refine (pe_and ha hb).of fun σ H Q q => ?_
  obtain ⟨c, F, τ, ρ, R, q⟩ := q
  refine ⟨c, F, τ, ρ, R, (Ho.bl q).mono fun r ρ1 F1 H1 s1 R1 q1 v hv => ?_⟩
  obtain ⟨x, e, q1⟩ := q1 v hv
  refine ⟨x, e, ?_⟩
  cases x with
  | true => exact ⟨c, F1, τ, ρ1, R1, q1⟩
  | false => exact Ho.now q1 R1 _ (.bl false)
theorem de_or (ha : PE X a (tE P m1)) (hb : PE X (.BoolOp .Or (b :: rest) pos) (tE P m2)) : PE X (.BoolOp .Or (a :: b :: rest) pos) (tE P (orV m1 m2)) := by
  refine (pe_or ha hb).of fun σ H Q q => ?_
  obtain ⟨c, F, τ, ρ, R, q⟩ := q
  refine ⟨c, F, τ, ρ, R, (Ho.bl q).mono fun r ρ1 F1 H1 s1 R1 q1 v hv => ?_⟩
  obtain ⟨x, e, q1⟩ := q1 v hv
  refine ⟨x, e, ?_⟩
  cases x with
  | true => exact Ho.now q1 R1 _ (.bl true)
  | false => exact ⟨c, F1, τ, ρ1, R1, q1⟩
theorem de_not (ha : PE X a (tE P m1)) : PE X (.UnaryOp .Not a pos) (tE P (notV m1)) := by
  refine (pe_not ha).of fun σ H Q q => ?_
  obtain ⟨c, F, τ, ρ, R, q⟩ := q
  refine ⟨c, F, τ, ρ, R, (Ho.bl q).mono fun r ρ1 F1 H1 s1 R1 q1 v hv => ?_⟩
  obtain ⟨x, e, q1⟩ := q1 v hv
  exact ⟨x, e, Ho.now q1 R1 _ (.bl _)⟩
/-- any expression whose value is a bool, as a test -/
theorem dt_val {m : M DR} (h : PE X e (tE P m)) (he : ∀ whole, isTrue e X.env whole = (do let v ← whole; standAt e.pos; holding [v] (truthy v))) : PT X e (tT P (eB m)) :=
  (pt_val h he).of fun σ H Q q => tT_B (P := P) σ H Q q
def ifV (mc : M Bool) (m1 m2 : M DR) : M DR := M.bind mc fun b => if b = true then m1 else m2
theorem de_if {c : Expr} {mc : M Bool} (hc : PT X c (tT P mc)) (ha : PE X a (tE P m1)) (hb : PE X b (tE P m2)) : PE X (.IfExp c a b pos) (tE P (ifV mc m1 m2)) := by
  refine (pe_ifExp hc ha hb).of fun σ H Q q => ?_
  obtain ⟨c, F, τ, ρ, R, q⟩ := q
  refine ⟨c, F, τ, ρ, R, (Ho.bind q).mono fun x ρ1 F1 H1 s1 R1 q1 => ?_⟩
  cases x with
  | true => exact ⟨c, F1, τ, ρ1, R1, q1⟩
  | false => exact ⟨c, F1, τ, ρ1, R1, q1⟩
/-- a op1 b op2 c -/
def eChain (f g : D → D → Option D) (ma mb mc : M DR) : M DR := M.bind ma fun x => M.bind mb fun y => M.bind (rd x) fun d => M.bind (rd y) fun e => M.bind (M.opt (f d e)) fun z =>
  match z with
  | .bool true => M.bind mc fun w => M.bind (rd y) fun e => M.bind (rd w) fun u => M.bind (M.opt (g e u)) fun z => M.ok (.dat z)
  | .bool false => M.ok (.dat (.bool false))
  | _ => M.no
theorem tE_chain {r r' : R2} {f g : D → D → Option D} {ma mb mc : M DR} (hf : OpD X P r f) (hg : OpD X P r' g) (σ : L2.St) (H : Hp) (Q : VK) (q : tE P (eChain f g ma mb mc) σ H Q) : tChain r r' (tE P ma) (tE P mb) (tE P mc) σ H Q := by
  obtain ⟨c, F, τ, ρ, R, q⟩ := q
  refine ⟨c, F, τ, ρ, R, (Ho.bind q).mono fun x ρ1 F1 H1 s1 R1 q1 v hv => ?_⟩
  refine ⟨c, F1, τ, ρ1, R1, (Ho.bind q1).mono fun y ρ2 F2 H2 s2 R2 q2 u hu => ?_⟩
  obtain ⟨d, q3, n1⟩ := Ho.now1 q2 R2 (hv.mono s2)
  obtain ⟨e, q4, n2⟩ := Ho.now1 q3 R2 hu
  obtain ⟨z, ez, q5⟩ := Ho.opt (H := H2) q4
  refine hf c F2 H2 (σ ++ τ) ρ2 v u d e z _ R2 n1 n2 ez fun F' H' w s R' rp => ?_
  cases z with
  | bool k =>
    cases rp
    refine ⟨k, rfl, ?_⟩
    cases k with
    | false => exact Ho.now (Ho.from (P := P) q5 s) R' _ (.bl false)
    | true =>
      refine ⟨c, F', τ, ρ2, R', (Ho.bind (Ho.from q5 s)).mono fun y3 ρ3 F3 H3 s3 R3 q6 w3 hw3 => ?_⟩
      obtain ⟨e', q7, n3⟩ := Ho.now1 q6 R3 ((hu.mono s).mono s3)
      obtain ⟨u', q8, n4⟩ := Ho.now1 q7 R3 hw3
      obtain ⟨z', ez', q9⟩ := Ho.opt (H := H3) q8
      exact hg c F3 H3 (σ ++ τ) ρ3 u w3 e' u' z' Q R3 n3 n4 ez' fun F' H' w s R' rp => q9 F' H' s R' w rp
  | _ => exact (show False from q5).elim
theorem de_chain {op op' : CmpOp} {r r' : R2} {f g : D → D → Option D} {cx : Expr} {ma mb mc : M DR} (ho : OpR X (compareOp op) r) (hf : OpD X P r f) (ho' : OpR X (compareOp op') r') (hg : OpD X P r' g) (ha : PE X a (tE P ma)) (hb : PE X b (tE P mb)) (hc : PE X cx (tE P mc))
    (hm : lastMarks [op, op'] [b, cx] = false) : PE X (.Compare a [op, op'] [b, cx] pos) (tE P (eChain f g ma mb mc)) := (pe_chain ho ho' ha hb hc hm).of (tE_chain hf hg)
theorem dt_chain {op op' : CmpOp} {r r' : R2} {f g : D → D → Option D} {cx : Expr} {ma mb mc : M DR} (ho : OpR X (compareOp op) r) (hf : OpD X P r f) (ho' : OpR X (compareOp op') r') (hg : OpD X P r' g) (ha : PE X a (tE P ma)) (hb : PE X b (tE P mb)) (hc : PE X cx (tE P mc))
    (hm : lastMarks [op, op'] [b, cx] = false) : PT X (.Compare a [op, op'] [b, cx] pos) (tT P (eB (eChain f g ma mb mc))) := (pt_chain ho ho' ha hb hc hm).of fun σ H Q q => by
  obtain ⟨c, F, τ, ρ, R, q⟩ := tT_B (P := P) σ H Q q
  exact tE_chain hf hg σ H _ ⟨c, F, τ, ρ, R, q⟩
end

/-! ### arguments, displays -/
def aNil : M (List DR) := M.ok []
def aCons (m : M DR) (ms : M (List DR)) : M (List DR) := M.bind m fun r => M.bind ms fun rs => M.ok (r :: rs)
theorem da_nil : PA X [] (tA P aNil) := pa_nil.of fun σ H Q q => by
  obtain ⟨c, F, τ, ρ, R, q⟩ := q
  exact Ho.now q R [] .nil
theorem paired_mono {P : Ps} {F F' : Hp} {L : List (Option V)} {vs : List V} {rs : List DR} (h : Paired (RefV P.K F L) vs rs) (s : Same F F') : Paired (RefV P.K F' L) vs rs   := L2.Paired.mapP h fun v r x => x.mono s
theorem da_cons {es : List Expr} {m : M DR} {ms : M (List DR)} (ha : PE X e (tE P m)) (hr : PA X es (tA P ms)) (hs : starEach (e :: es) X.env = (false, eval e X.env) :: starEach es X.env) : PA X (e :: es) (tA P (aCons m ms)) := by
  refine (pa_cons ha hr hs).of fun σ H Q q => ?_
  obtain ⟨c, F, τ, ρ, R, q⟩ := q
  refine ⟨c, F, τ, ρ, R, (Ho.bind q).mono fun r ρ1 F1 H1 s1 R1 q1 v hv => ?_⟩
  refine ⟨c, F1, τ, ρ1, R1, (Ho.bind q1).mono fun rs ρ2 F2 H2 s2 R2 q2 vs hvs => ?_⟩
  exact Ho.now q2 R2 (v :: vs) (.cons (hv.mono s2) hvs)
def eTup (ms : M (List DR)) : M DR := M.bind ms fun rs => M.bind (frzAll rs) fun ds => if ds.length ≤ 16777216 then M.ok (.dat (.tuple ds)) else M.no
def eLst (ms : M (List DR)) : M DR := M.bind ms fun rs => M.bind (frzAll rs) fun ds => if ds.length ≤ 16777216 then M.ok (.dat (.list ds)) else M.no
theorem Ho.if_ {α : Type} {p : Prop} [Decidable p] {m : M α} {ρ : List DV} {Φ : α → List DV → Hp → Hp → Prop} (h : Ho P c F σ τ ((if p then m else M.no) ρ) Φ) : p ∧ Ho P c F σ τ (m ρ) Φ := by
  by_cases hp : p
  · rw [if_pos hp] at h; exact ⟨hp, h⟩
  · rw [if_neg hp] at h; exact (show False from h).elim
theorem de_tup {es : List Expr} {k : Nat} {ms : M (List DR)} (h : PA X es (tA P ms)) : PE X (.Tuple es k pos) (tE P (eTup ms)) := by
  refine (pe_tup h).of fun σ H Q q => ?_
  have hs : sizeLine = 16777216 := sizeLine_eq
  obtain ⟨c, F, τ, ρ, R, q⟩ := q
  refine ⟨c, F, τ, ρ, R, (Ho.bind q).mono fun rs ρ1 F1 H1 s1 R1 q1 vs hvs => ?_⟩
  obtain ⟨ds, F2, ρ2, s2, R2, r2, q2⟩ := Ho.frzAll q1 R1 hvs
  obtain ⟨hl, q3⟩ := Ho.if_ q2
  refine ⟨by rw [r2.length]; omega, fun p hp => ?_⟩
  have hF : F2 p = none := R2.sub.free hp
  exact q3 _ _ (Same.upd hF) (R2.new hp) _ (rp_newT r2 hF)
theorem de_lst {es : List Expr} {ms : M (List DR)} (h : PA X es (tA P ms)) : PE X (.List es pos) (tE P (eLst ms)) := by
  refine (pe_lst h).of fun σ H Q q => ?_
  have hs : sizeLine = 16777216 := sizeLine_eq
  obtain ⟨c, F, τ, ρ, R, q⟩ := q
  refine ⟨c, F, τ, ρ, R, (Ho.bind q).mono fun rs ρ1 F1 H1 s1 R1 q1 vs hvs => ?_⟩
  obtain ⟨ds, F2, ρ2, s2, R2, r2, q2⟩ := Ho.frzAll q1 R1 hvs
  obtain ⟨hl, q3⟩ := Ho.if_ q2
  refine ⟨by rw [r2.length]; omega, fun p hp => ?_⟩
  have hF : F2 p = none := R2.sub.free hp
  exact q3 _ _ (Same.upd hF) (R2.new hp) _ (rp_new r2 hF)

/-! ### calls of built-ins -/
def rdAll : List DR → M (List D)
  | [] => M.ok []
  | r :: rs => M.bind (rd r) fun d => M.bind (rdAll rs) fun ds => M.ok (d :: ds)
def eCB (f : List D → Option D) (ms : M (List DR)) : M DR := M.bind ms fun rs => M.bind (rdAll rs) fun ds => M.bind (M.opt (f ds)) fun z => M.ok (.dat z)
theorem M.assoc {α β γ : Type} (m : M α) (k : α → M β) (l : β → M γ) (ρ : List DV) : M.bind (M.bind m k) l ρ = M.bind m (fun a => M.bind (k a) l) ρ := by
  unfold M.bind
  cases m ρ with
  | none => rfl
  | some o =>
    obtain ⟨o, ρ1⟩ := o
    cases o <;> rfl
theorem Ho.rdAll {β : Type} : ∀ {rs : List DR} {k : List D → M β} {ρ : List DV} {vs : List V} {Φ : β → List DV → Hp → Hp → Prop} (h : Ho P c F σ τ (M.bind (DL.rdAll rs) k ρ) Φ) (R : Rl P.K c F ρ (σ ++ τ) H) (hv : Paired (RefV P.K F (σ ++ τ)) vs rs),
    ∃ ds, Paired (Now P.K F H) vs ds ∧ Ho P c F σ τ (k ds ρ) Φ
  | [], k, ρ, _, Φ, h, R, .nil => ⟨[], .nil, h⟩
  | r :: rs, k, ρ, v :: vs, Φ, h, R, .cons h1 h2 => by
    have h' : Ho P c F σ τ (M.bind (DL.rd r) (fun d => M.bind (DL.rdAll rs) fun ds => k (d :: ds)) ρ) Φ := by
      have e : M.bind (DL.rdAll (r :: rs)) k ρ = M.bind (DL.rd r) (fun d => M.bind (DL.rdAll rs) fun ds => k (d :: ds)) ρ := by
        show M.bind (M.bind (DL.rd r) fun d => M.bind (DL.rdAll rs) fun ds => M.ok (d :: ds)) k ρ = _
        rw [M.assoc]
        have z : (fun a => M.bind (M.bind (DL.rdAll rs) fun ds => M.ok (a :: ds)) k) = (fun d => M.bind (DL.rdAll rs) fun ds => k (d :: ds)) := by
          funext d ρ'
          rw [M.assoc]
          rfl
        rw [z]
      rw [← e]; exact h
    obtain ⟨d, q1, n1⟩ := Ho.now1 h' R h1
    obtain ⟨ds, n2, q2⟩ := Ho.rdAll q1 R h2
    exact ⟨d :: ds, .cons n1 n2, q2⟩
/-- a built-in's rule by data -/
def CbD (P : Ps) (r : List V → Hp → VK → Prop) (f : List D → Option D) : Prop :=
  ∀ (c : Ct) (F H : Hp) (L : List (Option V)) (ρ : List DV) (vs : List V) (ds : List D) (z : D) (Q : VK), Rl P.K c F ρ L H → Paired (Now P.K F H) vs ds → f ds = some z →
    (∀ F' H' v, Same F F' → Rl P.K c F' ρ L H' → Rp P.K F' v z → Q v H') → r vs H Q
theorem tE_cb {r : List V → Hp → VK → Prop} {f : List D → Option D} {ms : M (List DR)} (h : CbD P r f) (σ : L2.St) (H : Hp) (Q : VK) (q : tE P (eCB f ms) σ H Q) : tCB r (tA P ms) σ H Q := by
  obtain ⟨c, F, τ, ρ, R, q⟩ := q
  refine ⟨c, F, τ, ρ, R, (Ho.bind q).mono fun rs ρ1 F1 H1 s1 R1 q1 vs hvs => ?_⟩
  obtain ⟨ds, n, q2⟩ := Ho.rdAll q1 R1 hvs
  obtain ⟨z, ez, q3⟩ := Ho.opt (H := H1) q2
  exact h c F1 H1 (σ ++ τ) ρ1 vs ds z Q R1 n ez fun F' H' w s R' rp => q3 F' H' s R' w rp
theorem de_cb {x : Str} {p : Pos} {es : List Expr} {id : String} {r : List V → Hp → VK → Prop} {f : List D → Option D} {ms : M (List DR)} (hc : CallR X (.builtin id) r) (h : CbD P r f) (hg : Gl X x) (hm : X.mg x = none) (hv : bootBuiltins x = some (.builtin id)) (ha : PA X (e :: es) (tA P ms)) (hn : x ≠ "__name__") (hdb : (x == ("__debug__" : Str)) = false)
    (he : starEach (e :: es) X.env = (false, eval e X.env) :: starEach es X.env) (hpl : (backTo pos (starEach es X.env)).any (·.1) = false) : PE X (.Call (.Name x p) (e :: es) [] pos) (tE P (eCB f ms)) := (pe_callB hc hg hm hv ha hn hdb he hpl).of (tE_cb h)
theorem de_cty {x : Str} {p : Pos} {es : List Expr} {T : String} {r : List V → Hp → VK → Prop} {f : List D → Option D} {ms : M (List DR)} (hc : CallR X (.type T) r) (h : CbD P r f) (hg : Gl X x) (hm : X.mg x = none) (hv : bootBuiltins x = some (.type T)) (ha : PA X (e :: es) (tA P ms)) (hn : x ≠ "__name__") (hdb : (x == ("__debug__" : Str)) = false)
    (he : starEach (e :: es) X.env = (false, eval e X.env) :: starEach es X.env) (hpl : (backTo pos (starEach es X.env)).any (·.1) = false) : PE X (.Call (.Name x p) (e :: es) [] pos) (tE P (eCB f ms)) := (pe_callTy hc hg hm hv ha hn hdb he hpl).of (tE_cb h)
def absF : List D → Option D
  | [.int i] => some (.int (if i < 0 then -i else i))
  | _ => none
def maxF : List D → Option D
  | [.int i, .int j] => some (.int (if j > i then j else i))
  | _ => none
def minF : List D → Option D
  | [.int i, .int j] => some (.int (if j < i then j else i))
  | _ => none
def intF : List D → Option D
  | [.int i] => some (.int i)
  | [.bool b] => some (.int (if b then 1 else 0))
  | _ => none
def lenF : List D → Option D
  | [.list xs] => some (.int xs.length)
  | [.tuple xs] => some (.int xs.length)
  | _ => none
theorem now1 {K : Frag} {H : Hp} {vs : List V} {d : D} (h : Paired (Now K F H) vs [d]) : ∃ v, vs = [v] ∧ Now K F H v d := by
  cases h with
  | cons h1 h2 => cases h2; exact ⟨_, rfl, h1⟩
theorem now2 {K : Frag} {H : Hp} {vs : List V} {d e : D} (h : Paired (Now K F H) vs [d, e]) : ∃ v w, vs = [v, w] ∧ Now K F H v d ∧ Now K F H w e := by
  cases h with
  | cons h1 h2 =>
    cases h2 with
    | cons h3 h4 => cases h4; exact ⟨_, _, rfl, h1, h3⟩
theorem cbd_abs : CbD P (fun xs H Q => ∃ i, xs = [.int i] ∧ Q (.int (if i < 0 then -i else i)) H) absF := by
  intro c F H L ρ vs ds z Q R n hz q
  unfold absF at hz
  split at hz
  · cases wid hz
    obtain ⟨v, rfl, n0⟩ := now1 n
    exact ⟨_, by rw [n0.int], q F H _ (Same.refl F) R (.int _)⟩
  · cases hz
theorem cbd_max : CbD P (fun xs H Q => ∃ i j, xs = [.int i, .int j] ∧ Q (.int (if j > i then j else i)) H) maxF := by
  intro c F H L ρ vs ds z Q R n hz q
  unfold maxF at hz
  split at hz
  · cases wid hz
    obtain ⟨v, w, rfl, n1, n2⟩ := now2 n
    exact ⟨_, _, by rw [n1.int, n2.int], q F H _ (Same.refl F) R (.int _)⟩
  · cases hz
theorem cbd_min : CbD P (fun xs H Q => ∃ i j, xs = [.int i, .int j] ∧ Q (.int (if j < i then j else i)) H) minF := by
  intro c F H L ρ vs ds z Q R n hz q
  unfold minF at hz
  split at hz
  · cases wid hz
    obtain ⟨v, w, rfl, n1, n2⟩ := now2 n
    exact ⟨_, _, by rw [n1.int, n2.int], q F H _ (Same.refl F) R (.int _)⟩
  · cases hz
theorem cbd_int : CbD P (fun xs H Q => (∃ i, xs = [.int i] ∧ Q (.int i) H) ∨ ∃ k, xs = [.bl k] ∧ Q (.int (if k then 1 else 0)) H) intF := by
  intro c F H L ρ vs ds z Q R n hz q
  unfold intF at hz
  split at hz
  · cases wid hz
    obtain ⟨v, rfl, n0⟩ := now1 n
    exact .inl ⟨_, by rw [n0.int], q F H _ (Same.refl F) R (.int _)⟩
  · cases wid hz
    obtain ⟨v, rfl, n0⟩ := now1 n
    exact .inr ⟨_, by rw [n0.bool], q F H _ (Same.refl F) R (.int _)⟩
  · cases hz
theorem cbd_len (hK : P.K.K = X.K) : CbD P (fun xs H Q => ∃ p ys, xs = [.ref p] ∧ (SqL X.K H p ys ∨ SqT X.K H p ys) ∧ Q (.int ys.length) H) lenF := by
  intro c F H L ρ vs ds z Q R n hz q
  unfold lenF at hz
  split at hz
  · cases wid hz
    obtain ⟨v, rfl, n0⟩ := now1 n
    obtain ⟨a1, ws, rfl, h1, r1⟩ := n0.list R.sub
    refine ⟨a1, ws, rfl, .inl (hK ▸ h1), q F H _ (Same.refl F) R ?_⟩
    rw [r1.length]; exact .int _
  · cases wid hz
    obtain ⟨v, rfl, n0⟩ := now1 n
    obtain ⟨a1, ws, rfl, h1, _, r1⟩ := n0.tuple R.sub
    refine ⟨a1, ws, rfl, .inr (hK ▸ h1), q F H _ (Same.refl F) R ?_⟩
    rw [r1.length]; exact .int _
  · cases hz
end
end DL

set_option Elab.async false
set_option linter.all false
set_option maxRecDepth 100000
set_option maxHeartbeats 4000000
/-! DL5: statements: stores, if, return, blocks, for, while; lists that are changed. -/
namespace DL
open PySem PySem.Spec PyProof.Rows L2

section
variable {K : Frag} {F F' H : Hp} {c : Ct} {ρ : List DV} {L : List (Option V)}
def DV.isBor : DV → Bool
  | .bor _ => true
  | _ => false
/-- a slot is given data -/
theorem Rl.setD {i : Nat} {v : V} {d : D} (R : Rl K c F ρ L H) (h : Rp K F v d) (hb : ∀ x, ρ[i]? = some x → x.isBor = false) : Rl K c F (ρ.set i (.dat d)) (L.set i (some v)) H := by
  refine ⟨by rw [List.length_set, List.length_set]; exact R.len, R.sub, R.keep, fun j x w e1 e2 => ?_, fun j k x y a e1 e2 o1 o2 l1 l2 => ?_, fun j x a e1 o1 l1 => ?_, fun j es a e1 l1 => ?_, fun q hq => ?_, R.born⟩
  · rcases set_at e1 with ⟨rfl, rfl⟩ | ⟨hne, e1⟩
    · rcases set_at e2 with ⟨_, rfl⟩ | ⟨hne, _⟩
      · exact ⟨v, rfl, h⟩
      · exact absurd rfl hne
    · rcases set_at e2 with ⟨rfl, _⟩ | ⟨_, e2⟩
      · exact absurd rfl hne
      · exact R.slot j x w e1 e2
  · rcases set_at e1 with ⟨_, rfl⟩ | ⟨h1, e1⟩
    · exact absurd rfl o1
    · rcases set_at e2 with ⟨_, rfl⟩ | ⟨h2, e2⟩
      · exact absurd rfl o2
      · rw [List.getElem?_set_ne (fun z => h1 z.symm)] at l1
        rw [List.getElem?_set_ne (fun z => h2 z.symm)] at l2
        exact R.sep j k x y a e1 e2 o1 o2 l1 l2
  · rcases set_at e1 with ⟨_, rfl⟩ | ⟨h1, e1⟩
    · exact absurd rfl o1
    · rw [List.getElem?_set_ne (fun z => h1 z.symm)] at l1
      exact R.fresh j x a e1 o1 l1
  · rcases set_at e1 with ⟨_, q⟩ | ⟨h1, e1⟩
    · cases q
    · rw [List.getElem?_set_ne (fun z => h1 z.symm)] at l1
      exact R.nobor j es a e1 l1
  · obtain ⟨⟨es, e'⟩, l'⟩ := R.lent q hq
    have hne : i ≠ q.1 := fun z => by
      rw [← z] at e'
      exact absurd (hb _ e') (by simp [DV.isBor])
    exact ⟨⟨es, by rw [List.getElem?_set_ne hne]; exact e'⟩, by rw [List.getElem?_set_ne hne]; exact l'⟩
/-- the last temporary becomes the slot i's -/
theorem Rl.popTo {i : Nat} {v : V} {ds : List D} (R : Rl K c F (ρ ++ [.lst ds]) (L ++ [some v]) H) (hl : ρ.length = L.length) (hb : ∀ x, ρ[i]? = some x → x.isBor = false) : Rl K c F (ρ.set i (.lst ds)) (L.set i (some v)) H := by
  have lt_ : ∀ {j : Nat} {x : DV}, ρ[j]? = some x → (ρ ++ [DV.lst ds])[j]? = some x := fun {j x} e => by
    rw [List.getElem?_append_left (List.getElem?_eq_some_iff.mp e).1]; exact e
  have ltL : ∀ {j : Nat} {x : Option V}, L[j]? = some x → (L ++ [some v])[j]? = some x := fun {j x} e => by
    rw [List.getElem?_append_left (List.getElem?_eq_some_iff.mp e).1]; exact e
  have last1 : (ρ ++ [DV.lst ds])[ρ.length]? = some (.lst ds) := by rw [List.getElem?_append_right (Nat.le_refl _)]; simp
  have last2 : (L ++ [some v])[ρ.length]? = some (some v) := by rw [hl, List.getElem?_append_right (Nat.le_refl _)]; simp
  have ne_ : ∀ {j : Nat} {x : DV}, ρ[j]? = some x → j ≠ ρ.length := fun {j x} e => Nat.ne_of_lt (List.getElem?_eq_some_iff.mp e).1
  refine ⟨by rw [List.length_set, List.length_set]; exact hl, R.sub, R.keep, fun j x w e1 e2 => ?_, fun j k x y a e1 e2 o1 o2 l1 l2 => ?_, fun j x a e1 o1 l1 => ?_, fun j es a e1 l1 => ?_, fun q hq => ?_, R.born⟩
  · rcases set_at e1 with ⟨rfl, rfl⟩ | ⟨hne, e1⟩
    · rcases set_at e2 with ⟨_, rfl⟩ | ⟨hne, _⟩
      · exact R.slot _ _ _ last1 last2
      · exact absurd rfl hne
    · rcases set_at e2 with ⟨rfl, _⟩ | ⟨_, e2⟩
      · exact absurd rfl hne
      · exact R.slot j x w (lt_ e1) (ltL e2)
  · rcases set_at e1 with ⟨rfl, rfl⟩ | ⟨h1, g1⟩
    · rcases set_at e2 with ⟨rfl, rfl⟩ | ⟨h2, e2⟩
      · rfl
      · rw [List.getElem?_set_ne (fun z => h2 z.symm)] at l2
        rcases set_at l1 with ⟨_, z⟩ | ⟨hne, _⟩
        · cases z
          exact absurd (R.sep _ _ _ _ a (lt_ e2) last1 o2 (by simp [DV.own]) (ltL l2) last2) (ne_ e2)
        · exact absurd rfl hne
    · rw [List.getElem?_set_ne (fun z => h1 z.symm)] at l1
      rcases set_at e2 with ⟨rfl, rfl⟩ | ⟨h2, g2⟩
      · rcases set_at l2 with ⟨_, z⟩ | ⟨hne, _⟩
        · cases z
          exact absurd (R.sep _ _ _ _ a (lt_ g1) last1 o1 (by simp [DV.own]) (ltL l1) last2) (ne_ g1)
        · exact absurd rfl hne
      · rw [List.getElem?_set_ne (fun z => h2 z.symm)] at l2
        exact R.sep j k x y a (lt_ g1) (lt_ g2) o1 o2 (ltL l1) (ltL l2)
  · rcases set_at e1 with ⟨rfl, rfl⟩ | ⟨h1, e1⟩
    · rcases set_at l1 with ⟨_, z⟩ | ⟨hne, _⟩
      · cases z
        exact R.fresh _ _ a last1 (by simp [DV.own]) last2
      · exact absurd rfl hne
    · rw [List.getElem?_set_ne (fun z => h1 z.symm)] at l1
      exact R.fresh j x a (lt_ e1) o1 (ltL l1)
  · rcases set_at e1 with ⟨rfl, z⟩ | ⟨h1, e1⟩
    · rcases set_at l1 with ⟨_, z⟩ | ⟨hne, _⟩
      · cases z
        exact R.nobor _ ds a last1 last2
      · exact absurd rfl hne
    · rw [List.getElem?_set_ne (fun z => h1 z.symm)] at l1
      exact R.nobor j es a (lt_ e1) (ltL l1)
  · obtain ⟨⟨es, e'⟩, l'⟩ := R.lent q hq
    have hlt : q.1 < ρ.length := by
      rcases Nat.lt_or_ge q.1 ρ.length with h | h
      · exact h
      · have e3 := (List.getElem?_eq_some_iff.mp e').1
        rw [List.length_append] at e3
        have : q.1 = ρ.length := by simp at e3; omega
        rw [this, last1] at e'
        cases e'
    rw [List.getElem?_append_left hlt] at e'
    rw [List.getElem?_append_left (by rw [← hl]; exact hlt)] at l'
    have hne : i ≠ q.1 := fun z => by
      rw [← z] at e'
      exact absurd (hb _ e') (by simp [DV.isBor])
    exact ⟨⟨es, by rw [List.getElem?_set_ne hne]; exact e'⟩, by rw [List.getElem?_set_ne hne]; exact l'⟩
/-- an own (or lent) list is changed -/
def DV.put (x : DV) (ds : List D) : DV := match x with
  | .lst _ => .lst ds
  | .bor _ => .bor ds
  | y => y
theorem DV.put_own {x : DV} {ds es : List D} (h : x.own = some es) : (x.put ds).own = some ds := by
  cases x <;> simp_all [DV.put, DV.own]
theorem Rl.write {p : Nat} {x : DV} {a : Addr} {ds es : List D} {xs : List V} (R : Rl K c F ρ L H) (e : ρ[p]? = some x) (o : x.own = some es) (l : L[p]? = some (some (.ref a))) (h : RpAll K F xs ds) : Rl K c F (ρ.set p (x.put ds)) L (upd H a (.lst xs)) := by
  obtain ⟨a', ys, q1, hF, hH, _⟩ := (R.slot p x _ e l).own o
  cases q1
  have hp : p < ρ.length := (List.getElem?_eq_some_iff.mp e).1
  have at_ : ∀ {j : Nat} {y : DV}, (ρ.set p (x.put ds))[j]? = some y → y.own ≠ none → ∃ z, ρ[j]? = some z ∧ z.own ≠ none := fun {j y} e1 o1 => by
    rcases set_at e1 with ⟨rfl, rfl⟩ | ⟨_, e1⟩
    · exact ⟨x, e, by rw [o]; simp⟩
    · exact ⟨y, e1, o1⟩
  refine ⟨by rw [List.length_set]; exact R.len, fun b u q => ?_, fun b u q n => ?_, fun j y w e1 e2 => ?_, fun j k y z b e1 e2 o1 o2 l1 l2 => ?_, fun j y b e1 o1 l1 => ?_, fun j fs b e1 l1 => ?_, fun q hq => ?_, R.born⟩
  · have : b ≠ a := fun z => by rw [z, hF] at q; cases q
    rw [upd_ne this]; exact R.sub b u q
  · have : b ≠ a := fun z => by
      rcases R.fresh p x a e (by rw [o]; simp) l with g | g
      · rw [z, g] at q; cases q
      · exact n (z ▸ g)
    rw [upd_ne this]; exact R.keep b u q n
  · rcases set_at e1 with ⟨rfl, rfl⟩ | ⟨hne, e1⟩
    · rw [l] at e2
      cases e2
      cases x with
      | lst _ => exact ⟨a, xs, rfl, hF, upd_same, h⟩
      | bor _ => exact ⟨a, xs, rfl, hF, upd_same, h⟩
      | _ => simp [DV.own] at o
    · refine (R.slot j y w e1 e2).mono (Same.refl F) fun b zs hv ho h1 h2 => ⟨h1, ?_⟩
      have : b ≠ a := fun z => by
        subst z hv
        exact hne (R.sep j p y x b e1 e ho (by rw [o]; simp) e2 l)
      rw [upd_ne this]; exact h2
  · obtain ⟨y', e1', o1'⟩ := at_ e1 o1
    obtain ⟨z', e2', o2'⟩ := at_ e2 o2
    exact R.sep j k y' z' b e1' e2' o1' o2' l1 l2
  · obtain ⟨y', e1', o1'⟩ := at_ e1 o1
    exact R.fresh j y' b e1' o1' l1
  · rcases set_at e1 with ⟨rfl, q⟩ | ⟨_, e1⟩
    · cases x with
      | lst es' => exact R.nobor _ es' b e l1
      | _ => simp [DV.put] at q
    · exact R.nobor j fs b e1 l1
  · obtain ⟨⟨fs, e'⟩, l'⟩ := R.lent q hq
    by_cases hq' : p = q.1
    · rw [← hq'] at e'
      rw [e] at e'
      cases e'
      exact ⟨⟨ds, by rw [← hq', List.getElem?_set_self hp]; rfl⟩, l'⟩
    · exact ⟨⟨fs, by rw [List.getElem?_set_ne hq']; exact e'⟩, l'⟩
end

/-! ### statements -/
inductive RV where
  | dat (d : D)
  | new (ds : List D)
inductive Fl where
  | nx
  | brk
  | cnt
  | ret (r : RV)
def RetV (K : Frag) (c : Ct) (F H : Hp) (v : V) : RV → Prop
  | .dat d => Rp K F v d
  | .new ds => ∃ a xs, v = .ref a ∧ F a = none ∧ c.Hi a = none ∧ a ∉ c.ads ∧ H a = some (.lst xs) ∧ RpAll K F xs ds
def HoS (P : Ps) (c : Ct) (F : Hp) (o : Option (Except Ex Fl × List DV)) (D : Ends) : Prop := match o with
  | none => False
  | some (.ok .nx, ρ) => ∀ σ F' H, Same F F' → Rl P.K c F' ρ σ H → D.nx σ H
  | some (.ok .brk, ρ) => ∀ σ F' H, Same F F' → Rl P.K c F' ρ σ H → D.bk σ H
  | some (.ok .cnt, ρ) => ∀ σ F' H, Same F F' → Rl P.K c F' ρ σ H → D.ct σ H
  | some (.ok (.ret r), ρ) => ∀ v σ F' H, Same F F' → Rl P.K c F' ρ σ H → RetV P.K c F' H v r → D.rt v H
  | some (.error x, ρ) => ∀ σ, Er P c F σ [] x ρ
theorem HoS.from {P : Ps} {c : Ct} {F F1 : Hp} {o : Option (Except Ex Fl × List DV)} {D : Ends} (h : HoS P c F o D) (s : Same F F1) : HoS P c F1 o D := by
  match o, h with
  | some (.ok .nx, ρ), h => exact fun σ F' H e R => h σ F' H (s.trans e) R
  | some (.ok .brk, ρ), h => exact fun σ F' H e R => h σ F' H (s.trans e) R
  | some (.ok .cnt, ρ), h => exact fun σ F' H e R => h σ F' H (s.trans e) R
  | some (.ok (.ret r), ρ), h => exact fun v σ F' H e R => h v σ F' H (s.trans e) R
  | some (.error x, ρ), h => exact fun σ => (h σ).mono s
def tS (P : Ps) (m : M Fl) : TS := fun D σ H => ∃ c F ρ, Rl P.K c F ρ σ H ∧ HoS P c F (m ρ) D

section
variable {X : Cx} {P : Ps} {a b e : Expr} {pos : Pos} {c : Ct} {F H : Hp} {σ : L2.St}
/-- an expression's step within a statement -/
theorem HoS.bind {α : Type} {m : M α} {k : α → M Fl} {ρ : List DV} {D : Ends} (σ : L2.St) (h : HoS P c F (M.bind m k ρ) D) :
    Ho P c F σ [] (m ρ) fun a ρ1 F1 _ => HoS P c F1 (k a ρ1) D := by
  unfold M.bind at h
  match q : m ρ with
  | none => rw [q] at h; exact h
  | some (.ok a, ρ1) =>
    rw [q] at h
    exact fun F1 H1 s R => HoS.from h s
  | some (.error x, ρ1) => rw [q] at h; exact h σ
theorem HoS.frz {r : DR} {k : D → M Fl} {ρ : List DV} {v : V} {D : Ends} (h : HoS P c F (M.bind (DL.frz r) k ρ) D) (R : Rl P.K c F ρ σ H) (hv : RefV P.K F σ v r) :
    ∃ d F1 ρ1, Same F F1 ∧ Rl P.K c F1 ρ1 σ H ∧ Rp P.K F1 v d ∧ HoS P c F1 (k d ρ1) D ∧ (∀ (i : Nat) (x : DV), ρ1[i]? = some x → x.isBor = true → ∃ y : DV, ρ[i]? = some y ∧ y.isBor = true) := by
  cases r with
  | dat d => exact ⟨d, F, ρ, Same.refl F, R, hv, h, fun i x e b => ⟨x, e, b⟩⟩
  | exc c d => exact (show False from h).elim
  | loc p =>
    unfold M.bind DL.frz at h
    dsimp only at h
    cases q : ρ[p]? with
    | none => rw [q] at h; exact (show False from h).elim
    | some x =>
      rw [q] at h
      cases x with
      | lst ds =>
        obtain ⟨a, xs, e1, _⟩ := R.slot p _ _ q hv
        cases e1
        obtain ⟨xs, h1, h2, h3, R'⟩ := R.freeze (xs := xs) q hv
        have sF : Same F (upd F a (.lst xs)) := Same.upd h2
        exact ⟨.list ds, _, _, sF, R', .lst (.inl (.inl upd_same)) (h3.mono sF), HoS.from h sF, fun i x e b => by
          rcases set_at e with ⟨_, rfl⟩ | ⟨_, e⟩
          · simp [DV.isBor] at b
          · exact ⟨x, e, b⟩⟩
      | _ => exact (show False from h).elim
theorem nilτ {K : Frag} {c : Ct} {F : Hp} {ρ : List DV} {σ : L2.St} {H : Hp} (R : Rl K c F ρ σ H) : Rl K c F ρ (σ ++ []) H := by rw [List.append_nil]; exact R
theorem nilτ' {K : Frag} {c : Ct} {F : Hp} {ρ : List DV} {σ : L2.St} {H : Hp} (R : Rl K c F ρ (σ ++ []) H) : Rl K c F ρ σ H := by rw [List.append_nil] at R; exact R

def sNil : M Fl := M.ok .nx
def sCons (m1 m2 : M Fl) : M Fl := M.bind m1 fun f => match f with
  | .nx => m2
  | f => M.ok f
theorem ds_nil : PSs X [] (tS P sNil) := pss_nil.of fun D σ H q => by
  obtain ⟨c, F, ρ, R, q⟩ := q
  exact q σ F H (Same.refl F) R
theorem ds_cons {st : Stmt} {rest : List Stmt} {m1 m2 : M Fl} (h1 : PS X st (tS P m1)) (h2 : PSs X rest (tS P m2)) : PSs X (st :: rest) (tS P (sCons m1 m2)) := (pss_cons h1 h2).of fun D σ H q => by
  obtain ⟨c, F, ρ, R, q⟩ := q
  refine ⟨c, F, ρ, R, ?_⟩
  unfold sCons M.bind at q
  match z : m1 ρ with
  | none => rw [z] at q; exact q
  | some (.ok .nx, ρ1) => rw [z] at q; exact fun σ1 F1 H1 s R1 => ⟨c, F1, ρ1, R1, HoS.from q s⟩
  | some (.ok .brk, ρ1) => rw [z] at q; exact q
  | some (.ok .cnt, ρ1) => rw [z] at q; exact q
  | some (.ok (.ret r), ρ1) => rw [z] at q; exact q
  | some (.error x, ρ1) => rw [z] at q; exact q
/-- a statement that is never reached -/
def sNever : M Fl := M.no
theorem ds_never {st : Stmt} : PS X st (tS P sNever) := ⟨fun _ _ _ _ _ _ ⟨_, _, _, _, h⟩ => (show False from h).elim⟩
def sPass : M Fl := M.ok .nx
theorem ds_pass : PS X (.Pass pos) (tS P sPass) := ps_pass.of fun D σ H q => by
  obtain ⟨c, F, ρ, R, q⟩ := q
  exact q σ F H (Same.refl F) R
def sBrk : M Fl := M.ok .brk
theorem ds_brk : PS X (.Break pos) (tS P sBrk) := ps_break.of fun D σ H q => by
  obtain ⟨c, F, ρ, R, q⟩ := q
  exact q σ F H (Same.refl F) R
def sCnt : M Fl := M.ok .cnt
theorem ds_cnt : PS X (.Continue pos) (tS P sCnt) := ps_continue.of fun D σ H q => by
  obtain ⟨c, F, ρ, R, q⟩ := q
  exact q σ F H (Same.refl F) R
def sExpr (m : M DR) : M Fl := M.bind m fun _ => M.ok .nx
theorem ds_expr {m : M DR} (h : PE X e (tE P m)) (hs : swapsWith e none pos.line X.env = pure false) : PS X (.Expr e pos) (tS P (sExpr m)) := (ps_expr h hs).of fun D σ H q => by
  obtain ⟨c, F, ρ, R, q⟩ := q
  refine ⟨c, F, [], ρ, nilτ R, (HoS.bind σ q).mono fun r ρ1 F1 H1 s R1 q1 v hv => ?_⟩
  exact q1 σ F1 H1 (Same.refl _) (nilτ' R1)
def sIf (mc : M Bool) (m1 m2 : M Fl) : M Fl := M.bind mc fun b => if b = true then m1 else m2
theorem ds_if {cx : Expr} {s1 s2 : List Stmt} {mc : M Bool} {m1 m2 : M Fl} (hc : PT X cx (tT P mc)) (h1 : PSs X s1 (tS P m1)) (h2 : PSs X s2 (tS P m2)) : PS X (.If cx s1 s2 pos) (tS P (sIf mc m1 m2)) := (ps_if hc h1 h2).of fun D σ H q => by
  obtain ⟨c, F, ρ, R, q⟩ := q
  refine ⟨c, F, [], ρ, nilτ R, (HoS.bind σ q).mono fun r ρ1 F1 H1 s R1 q1 => ?_⟩
  cases r with
  | true => exact ⟨c, F1, ρ1, nilτ' R1, q1⟩
  | false => exact ⟨c, F1, ρ1, nilτ' R1, q1⟩
/-- return of data -/
def sRet (m : M DR) : M Fl := M.bind m fun r => M.bind (frz r) fun d => M.ok (.ret (.dat d))
theorem ds_ret {m : M DR} (h : PE X e (tE P m)) : PS X (.Return (some e) pos) (tS P (sRet m)) := (ps_ret h).of fun D σ H q => by
  obtain ⟨c, F, ρ, R, q⟩ := q
  refine ⟨c, F, [], ρ, nilτ R, (HoS.bind σ q).mono fun r ρ1 F1 H1 s R1 q1 v hv => ?_⟩
  obtain ⟨d, F2, ρ2, s2, R2, r2, q2, _⟩ := HoS.frz q1 (nilτ' R1) (by rw [List.append_nil] at hv; exact hv)
  exact q2 v σ F2 H1 (Same.refl _) R2 r2
/-- return of an own list -/
def sRetOwn (i : Nat) : M Fl := fun ρ => match ρ[i]? with
  | some (.lst ds) => some (.ok (.ret (.new ds)), ρ)
  | _ => none
theorem ds_retOwn {i : Nat} {x : Str} {p2 : Pos} (hN : X.N[i]? = some x) (hv : Vis X.env.scope x) (hd : (x == ("__debug__" : Str)) = false := by decide) (hcd : (x == ("__classdict__" : Str)) = false := by decide) : PS X (.Return (some (.Name x p2)) pos) (tS P (sRetOwn i)) := by
  refine ⟨fun pins s σ H D I q => (ps_ret (pe_var (i := i) hN hv hd hcd)).run pins s σ H D I ?_⟩
  obtain ⟨c, F, ρ, R, q⟩ := q
  have hi : i < σ.length := by rw [I.len]; exact (List.getElem?_eq_some_iff.mp hN).1
  unfold sRetOwn at q
  cases z : ρ[i]? with
  | none => rw [z] at q; exact (show False from q).elim
  | some y =>
    rw [z] at q
    cases y with
    | lst ds =>
      obtain ⟨v, ev⟩ : ∃ v, σ[i]? = some v := by rw [List.getElem?_eq_getElem hi]; exact ⟨_, rfl⟩
      obtain ⟨a, xs, e1, e2, e3, e4⟩ := R.slot i _ v z ev
      subst e1
      refine ⟨.ref a, ev, q _ σ F H (Same.refl F) R ⟨a, xs, rfl, e2, ?_, R.nobor i ds a z ev, e3, e4⟩⟩
      rcases R.fresh i _ a z (by simp [DV.own]) ev with g | g
      · exact g
      · exact absurd g (R.nobor i ds a z ev)
    | _ => exact (show False from q).elim
/-- x = e, data -/
def setD (i : Nat) (d : D) : M Unit := fun ρ => match ρ[i]? with
  | some x => if x.isBor then none else some (.ok (), ρ.set i (.dat d))
  | none => none
def sSet (i : Nat) (m : M DR) : M Fl := M.bind m fun r => M.bind (frz r) fun d => M.bind (setD i d) fun _ => M.ok .nx
theorem setD_some {i : Nat} {d : D} {ρ : List DV} {o : Except Ex Unit × List DV} (h : setD i d ρ = some o) : o = (.ok (), ρ.set i (.dat d)) ∧ ∀ x, ρ[i]? = some x → x.isBor = false := by
  unfold setD at h
  split at h
  · rename_i x e
    split at h
    · cases h
    · rename_i hb
      refine ⟨(Option.some.inj h).symm, fun y ey => ?_⟩
      rw [e] at ey
      cases ey
      exact Bool.eq_false_iff.mpr hb
  · cases h
theorem HoS.setD {i : Nat} {d : D} {k : Unit → M Fl} {ρ : List DV} {v : V} {D : Ends} (h : HoS P c F (M.bind (DL.setD i d) k ρ) D) (R : Rl P.K c F ρ σ H) (hv : Rp P.K F v d) :
    ∃ ρ1, Rl P.K c F ρ1 (σ.set i (some v)) H ∧ HoS P c F (k () ρ1) D := by
  unfold M.bind at h
  cases q : DL.setD i d ρ with
  | none => rw [q] at h; exact (show False from h).elim
  | some o =>
    obtain ⟨e, hb⟩ := setD_some q
    subst e
    rw [q] at h
    exact ⟨_, R.setD hv hb, h⟩
theorem ds_setK {i : Nat} {t : TE} {m : M DR} (w : ∀ σ H Q, tE P m σ H Q → t σ H Q) (D : Ends) (σ : L2.St) (H : Hp) (q : tS P (sSet i m) D σ H) : tAsg t (gName i) D σ H := by
  obtain ⟨c, F, ρ, R, q⟩ := q
  refine w σ H _ ⟨c, F, [], ρ, nilτ R, (HoS.bind σ q).mono fun r ρ1 F1 H1 s R1 q1 v hv => ?_⟩
  obtain ⟨d, F2, ρ2, s2, R2, r2, q2, _⟩ := HoS.frz q1 (nilτ' R1) (by rw [List.append_nil] at hv; exact hv)
  obtain ⟨ρ3, R3, q3⟩ := HoS.setD q2 R2 r2
  exact q3 _ F2 H1 (Same.refl _) R3
theorem ds_set {i : Nat} {x : Str} {p2 : Pos} {m : M DR} (hN : X.N.Nodup) (hi : X.N[i]? = some x) (hx : Loc X.env.scope x) (he : PE X e (tE P m)) (hs : swapsWith e (some (.Name x p2)) pos.line X.env = pure false) (hf : X.fn x = true ∨ X.env.scope.names.lookup x = some .local) :
    PS X (.Assign [.Name x p2] e pos) (tS P (sSet i m)) := (ps_set hN hi hx he hs hf).of (ds_setK fun _ _ _ q => q)

/-! ### new lists that a slot owns -/
def HoN (P : Ps) (c : Ct) (F : Hp) (σ : L2.St) (τ : List (Option V)) (o : Option (Except Ex Unit × List DV)) (Φ : List DV → Hp → Hp → V → Prop) : Prop := match o with
  | none => False
  | some (.ok _, ρ) => ∀ F' H' v, Same F F' → Rl P.K c F' ρ (σ ++ τ ++ [some v]) H' → Φ ρ F' H' v
  | some (.error x, ρ) => Er P c F σ τ x ρ
/-- an expression that makes a list of its own: it lies behind as the last temporary -/
def tN (P : Ps) (m : M Unit) : TE := fun σ H Q => ∃ c F τ ρ, Rl P.K c F ρ (σ ++ τ) H ∧ HoN P c F σ τ (m ρ) fun _ _ H' v => Q v H'
def push (ds : List D) : M Unit := fun ρ => some (.ok (), ρ ++ [.lst ds])
theorem Ho.push {τ : List (Option V)} {ρ : List DV} {ds : List D} {Φ : List DV → Hp → Hp → V → Prop} (h : HoN P c F σ τ (DL.push ds ρ) Φ) (R : Rl P.K c F ρ (σ ++ τ) H) {p : Addr} {xs : List V} (hp : H p = none) (r : RpAll P.K F xs ds) : Φ (ρ ++ [.lst ds]) F (upd H p (.lst xs)) (.ref p) :=
  h F _ _ (Same.refl F) (R.push hp r)
theorem HoN.bind {α : Type} {m : M α} {k : α → M Unit} {τ : List (Option V)} {ρ : List DV} {Φ : List DV → Hp → Hp → V → Prop} (h : HoN P c F σ τ (M.bind m k ρ) Φ) :
    Ho P c F σ τ (m ρ) fun a ρ1 F1 _ => HoN P c F1 σ τ (k a ρ1) Φ := by
  unfold M.bind at h
  match q : m ρ with
  | none => rw [q] at h; exact h
  | some (.ok a, ρ1) =>
    rw [q] at h
    dsimp only at h
    intro F1 H1 s R
    match z : k a ρ1 with
    | none => rw [z] at h; exact h
    | some (.ok u, ρ2) => rw [z] at h; exact fun F' H' v s' R' => h F' H' v (s.trans s') R'
    | some (.error x, ρ2) => rw [z] at h; exact Er.mono h s
  | some (.error x, ρ1) => rw [q] at h; exact h
def nLst (ms : M (List DR)) : M Unit := M.bind ms fun rs => M.bind (frzAll rs) fun ds => if ds.length ≤ 16777216 then push ds else M.no
theorem dn_lst {es : List Expr} {ms : M (List DR)} (h : PA X es (tA P ms)) : PE X (.List es pos) (tN P (nLst ms)) := by
  refine (pe_lst h).of fun σ H Q q => ?_
  have hs : sizeLine = 16777216 := sizeLine_eq
  obtain ⟨c, F, τ, ρ, R, q⟩ := q
  refine ⟨c, F, τ, ρ, R, (HoN.bind q).mono fun rs ρ1 F1 H1 s1 R1 q1 vs hvs => ?_⟩
  have q1' : Ho P c F1 σ τ (M.bind (frzAll rs) (fun ds => M.ok ds) ρ1) fun ds ρ2 F2 _ => HoN P c F2 σ τ ((if ds.length ≤ 16777216 then push ds else M.no) ρ2) fun _ _ H' v => Q v H' := by
    have := HoN.bind q1
    have e : M.bind (frzAll rs) (fun ds => M.ok ds) ρ1 = frzAll rs ρ1 := by
      unfold M.bind
      cases frzAll rs ρ1 with
      | none => rfl
      | some o => obtain ⟨o, r⟩ := o; cases o <;> rfl
    rw [e]; exact this
  obtain ⟨ds, F2, ρ2, s2, R2, r2, q2⟩ := Ho.frzAll q1' R1 hvs
  have q3 := Ho.now q2 R2
  by_cases hl : ds.length ≤ 16777216
  · rw [if_pos hl] at q3
    refine ⟨by rw [r2.length]; omega, fun p hp => ?_⟩
    exact Ho.push q3 R2 hp r2
  · rw [if_neg hl] at q3
    exact (show False from q3).elim
/-- x = a new list that x owns -/
def popTo (i : Nat) : M Unit := fun ρ => match ρ.getLast? with
  | some (.lst ds) => match ρ.dropLast[i]? with
    | some x => if x.isBor then none else some (.ok (), ρ.dropLast.set i (.lst ds))
    | none => none
  | _ => none
def sSetN (i : Nat) (m : M Unit) : M Fl := M.bind m fun _ => M.bind (popTo i) fun _ => M.ok .nx
theorem popTo_rl {K : Frag} {c : Ct} {F H : Hp} {ρ : List DV} {L : List (Option V)} {v : V} {i : Nat} {o : Except Ex Unit × List DV} (h : popTo i ρ = some o) (R : Rl K c F ρ (L ++ [some v]) H) : ∃ ρ1, o = (.ok (), ρ1) ∧ Rl K c F ρ1 (L.set i (some v)) H := by
  unfold popTo at h
  split at h
  · rename_i ds hl
    split at h
    · rename_i x hx
      split at h
      · cases h
      · rename_i hb
        cases h
        refine ⟨_, rfl, ?_⟩
        obtain ⟨ys, rfl⟩ := List.getLast?_eq_some_iff.mp hl
        rw [List.dropLast_concat] at hx ⊢
        have hlen : ys.length = L.length := by
          have := R.len
          simp only [List.length_append, List.length_singleton] at this
          omega
        refine Rl.popTo R hlen fun y hy => ?_
        rw [hx] at hy
        cases hy
        exact Bool.eq_false_iff.mpr hb
    · cases h
  · cases h
theorem ds_setNK {i : Nat} {t : TE} {m : M Unit} (w : ∀ σ H Q, tN P m σ H Q → t σ H Q) (D : Ends) (σ : L2.St) (H : Hp) (q : tS P (sSetN i m) D σ H) : tAsg t (gName i) D σ H := by
  obtain ⟨c, F, ρ, R, q⟩ := q
  refine w σ H _ ⟨c, F, [], ρ, nilτ R, ?_⟩
  unfold sSetN M.bind at q
  match z : m ρ with
  | none => rw [z] at q; exact q
  | some (.error x, ρ1) => rw [z] at q; exact q σ
  | some (.ok u, ρ1) =>
    rw [z] at q
    intro F' H' v s R1
    rw [List.append_nil] at R1
    dsimp only at q
    cases y : popTo i ρ1 with
    | none => rw [y] at q; exact (show False from q).elim
    | some o =>
      obtain ⟨ρ2, e, R2⟩ := popTo_rl y R1
      subst e
      rw [y] at q
      exact q _ F' H' s R2
theorem ds_setN {i : Nat} {x : Str} {p2 : Pos} {m : M Unit} (hN : X.N.Nodup) (hi : X.N[i]? = some x) (hx : Loc X.env.scope x) (he : PE X e (tN P m)) (hs : swapsWith e (some (.Name x p2)) pos.line X.env = pure false) (hf : X.fn x = true ∨ X.env.scope.names.lookup x = some .local) :
    PS X (.Assign [.Name x p2] e pos) (tS P (sSetN i m)) := (ps_set hN hi hx he hs hf).of (ds_setNK fun _ _ _ q => q)
/-- return of a new list -/
def sRetN (m : M Unit) : M Fl := M.bind m fun _ => fun ρ => match ρ.getLast? with
  | some (.lst ds) => some (.ok (.ret (.new ds)), ρ.dropLast)
  | _ => none
end
end DL

set_option Elab.async false
set_option linter.all false
set_option maxRecDepth 100000
set_option maxHeartbeats 4000000
/-! DL6: a def's promise by data, and its calls. -/
namespace DL
open PySem PySem.Spec PyProof.Rows L2

/-- what a def does by data: the lent list's content (the first parameter's, where it has one), the other arguments; the result, the content behind -/
abbrev Fsp := List D → List D → Option (Except Ex RV × List D)
def Lent (K : Frag) (F H : Hp) (oa : Option Addr) (w : List D) : Prop := match oa with
  | none => True
  | some a => F a = none ∧ ∃ xs, H a = some (.lst xs) ∧ RpAll K F xs w
def Frm (oa : Option Addr) (H H' : Hp) : Prop := ∀ b o, H b = some o → oa ≠ some b → H' b = some o
def New (F H F' : Hp) : Prop := ∀ b o, F' b = some o → F b = some o ∨ H b = none
def RvOk (K : Frag) (F' H H' : Hp) (v : V) : RV → Prop
  | .dat d => Rp K F' v d
  | .new ds => ∃ a xs, v = .ref a ∧ F' a = none ∧ H a = none ∧ H' a = some (.lst xs) ∧ RpAll K F' xs ds
def argV (oa : Option Addr) (us : List V) : List V := match oa with
  | none => us
  | some a => .ref a :: us
/-- the promise -/
def spD (K : Frag) (own : Bool) (n : Nat) (f : Fsp) : Sp := fun vs H Q E => vs.length = n ∧ ∃ (F : Hp) (oa : Option Addr) (us : List V) (w ds : List D), oa.isSome = own ∧ vs = argV oa us ∧ Same F H ∧ Lent K F H oa w ∧ RpAll K F us ds ∧
  match f w ds with
  | none => False
  | some (.ok r, w') => ∀ v F' H', Same F F' → Same F' H' → New F H F' → Frm oa H H' → Lent K F' H' oa w' → RvOk K F' H H' v r → Q v H'
  | some (.error x, w') => ∀ C dd v F' H', Same F F' → Same F' H' → New F H F' → Frm oa H H' → Lent K F' H' oa w' → K.G x.1 = some (.ref C) → Rp K F' v x.2 → H' dd = some (.xd [(("value" : Str), v)]) → H dd = none → E (.ref C) (some dd) H'

section
variable {K : Frag} {F F' H H' : Hp} {c : Ct} {ρ : List DV} {L : List (Option V)}
theorem New.refl (F H : Hp) : New F H F := fun _ _ e => .inl e
/-- behind a call that was lent nothing -/
theorem Rl.call0 (R : Rl K c F ρ L H) (s : Same F F') (s' : Same F' H') (n : New F H F') (fr : Frm none H H') : Rl K c F' ρ L H' := by
  have keepH : ∀ b o, H b = some o → H' b = some o := fun b o e => fr b o e (fun z => nomatch z)
  refine ⟨R.len, s', fun b o q nb => keepH b o (R.keep b o q nb), fun i x v e1 e2 => (R.slot i x v e1 e2).mono s fun a xs _ _ h1 h2 => ⟨?_, keepH _ _ h2⟩, R.sep, R.fresh, R.nobor, R.lent, fun b o q => ?_⟩
  · cases q : F' a with
    | none => rfl
    | some o =>
      rcases n a o q with g | g
      · rw [h1] at g; cases g
      · rw [h2] at g; cases g
  · rcases n b o q with g | g
    · exact R.born b o g
    · exact .inr (R.freshAt g).1
/-- behind a call that was lent the list of the position p -/
theorem Rl.call1 {p : Nat} {x : DV} {a : Addr} {es w : List D} (R : Rl K c F ρ L H) (e : ρ[p]? = some x) (o : x.own = some es) (l : L[p]? = some (some (.ref a))) (s : Same F F') (s' : Same F' H') (n : New F H F') (fr : Frm (some a) H H')
    (lt : Lent K F' H' (some a) w) : Rl K c F' (ρ.set p (x.put w)) L H' := by
  obtain ⟨hF', xs, hH', hxs⟩ := lt
  obtain ⟨a', ys, q1, hF, hH, _⟩ := (R.slot p x _ e l).own o
  cases q1
  have hp : p < ρ.length := (List.getElem?_eq_some_iff.mp e).1
  have keepH : ∀ b o, b ≠ a → H b = some o → H' b = some o := fun b o hb e => fr b o e (fun z => hb (Option.some.inj z).symm)
  have at_ : ∀ {j : Nat} {y : DV}, (ρ.set p (x.put w))[j]? = some y → y.own ≠ none → ∃ z, ρ[j]? = some z ∧ z.own ≠ none := fun {j y} e1 o1 => by
    rcases set_at e1 with ⟨rfl, rfl⟩ | ⟨_, e1⟩
    · exact ⟨x, e, by rw [o]; simp⟩
    · exact ⟨y, e1, o1⟩
  refine ⟨by rw [List.length_set]; exact R.len, s', fun b u q nb => ?_, fun j y v e1 e2 => ?_, fun j k y z b e1 e2 o1 o2 l1 l2 => ?_, fun j y b e1 o1 l1 => ?_, fun j fs b e1 l1 => ?_, fun q hq => ?_, fun b u q => ?_⟩
  · refine keepH b u (fun z => ?_) (R.keep b u q nb)
    rcases R.fresh p x a e (by rw [o]; simp) l with g | g
    · rw [z, g] at q; cases q
    · exact nb (z ▸ g)
  · rcases set_at e1 with ⟨rfl, rfl⟩ | ⟨hne, e1⟩
    · rw [l] at e2
      cases e2
      cases x with
      | lst _ => exact ⟨a, xs, rfl, hF', hH', hxs⟩
      | bor _ => exact ⟨a, xs, rfl, hF', hH', hxs⟩
      | _ => simp [DV.own] at o
    · refine (R.slot j y v e1 e2).mono s fun b zs hv ho h1 h2 => ⟨?_, keepH b _ (fun z => ?_) h2⟩
      · cases q : F' b with
        | none => rfl
        | some u =>
          rcases n b u q with g | g
          · rw [h1] at g; cases g
          · rw [h2] at g; cases g
      · subst z hv
        exact hne (R.sep j p y x b e1 e ho (by rw [o]; simp) e2 l)
  · obtain ⟨y', e1', o1'⟩ := at_ e1 o1
    obtain ⟨z', e2', o2'⟩ := at_ e2 o2
    exact R.sep j k y' z' b e1' e2' o1' o2' l1 l2
  · obtain ⟨y', e1', o1'⟩ := at_ e1 o1
    exact R.fresh j y' b e1' o1' l1
  · rcases set_at e1 with ⟨rfl, q⟩ | ⟨_, e1⟩
    · cases x with
      | lst es' => exact R.nobor _ es' b e l1
      | _ => simp [DV.put] at q
    · exact R.nobor j fs b e1 l1
  · obtain ⟨⟨fs, e'⟩, l'⟩ := R.lent q hq
    by_cases hq' : p = q.1
    · rw [← hq'] at e'
      rw [e] at e'
      cases e'
      exact ⟨⟨w, by rw [← hq', List.getElem?_set_self hp]; rfl⟩, l'⟩
    · exact ⟨⟨fs, by rw [List.getElem?_set_ne hq']; exact e'⟩, l'⟩
  · rcases n b u q with g | g
    · exact R.born b u g
    · exact .inr (R.freshAt g).1
/-- a list that came back new is owned by a new temporary -/
theorem Rl.pushAt {a : Addr} {xs : List V} {ds : List D} {H0 : Hp} (R : Rl K c F ρ L H) (hF : F a = none) (hH : H a = some (.lst xs)) (h : RpAll K F xs ds) (h0 : c.Hi a = none) (hB : a ∉ c.ads) (hno : ∀ (i : Nat) (x : DV), ρ[i]? = some x → x.own ≠ none → L[i]? ≠ some (some (.ref a))) :
    Rl K c F (ρ ++ [.lst ds]) (L ++ [some (.ref a)]) H := by
  have at_ : ∀ {i : Nat} {x : DV}, (ρ ++ [DV.lst ds])[i]? = some x → (ρ[i]? = some x ∧ i < ρ.length) ∨ (i = ρ.length ∧ x = .lst ds) := fun {i x} e => by
    by_cases hi : i < ρ.length
    · rw [List.getElem?_append_left hi] at e; exact .inl ⟨e, hi⟩
    · rw [List.getElem?_append_right (by omega)] at e
      have : i - ρ.length = 0 := by
        cases q : i - ρ.length with
        | zero => rfl
        | succ k => rw [q] at e; simp at e
      rw [this] at e
      simp at e
      exact .inr ⟨by omega, e.symm⟩
  have lt_ : ∀ {i : Nat} {v : Option V}, i < ρ.length → (L ++ [some (V.ref a)])[i]? = some v → L[i]? = some v := fun {i v} hi e => by
    rw [List.getElem?_append_left (by rw [← R.len]; exact hi)] at e; exact e
  have last_ : ∀ {v : Option V}, (L ++ [some (V.ref a)])[ρ.length]? = some v → v = some (.ref a) := fun {v} e => by
    rw [R.len, List.getElem?_append_right (Nat.le_refl _)] at e
    simp at e
    exact e.symm
  refine ⟨by rw [List.length_append, List.length_append, R.len] <;> rfl, R.sub, R.keep, fun i x v e1 e2 => ?_, fun i j x y b e1 e2 o1 o2 l1 l2 => ?_, fun i x b e1 o1 l1 => ?_, fun i es b e1 l1 => ?_, fun q hq => ?_, R.born⟩
  · rcases at_ e1 with ⟨e1, hl⟩ | ⟨rfl, rfl⟩
    · exact R.slot i x v e1 (lt_ hl e2)
    · have := last_ e2
      subst this
      exact ⟨a, xs, rfl, hF, hH, h⟩
  · rcases at_ e1 with ⟨e1, hl1⟩ | ⟨rfl, rfl⟩
    · rcases at_ e2 with ⟨e2, hl2⟩ | ⟨rfl, rfl⟩
      · exact R.sep i j x y b e1 e2 o1 o2 (lt_ hl1 l1) (lt_ hl2 l2)
      · have q := last_ l2
        cases q
        exact absurd (lt_ hl1 l1) (hno i x e1 o1)
    · rcases at_ e2 with ⟨e2, hl2⟩ | ⟨rfl, rfl⟩
      · have q := last_ l1
        cases q
        exact absurd (lt_ hl2 l2) (hno j y e2 o2)
      · rfl
  · rcases at_ e1 with ⟨e1, hl1⟩ | ⟨rfl, rfl⟩
    · exact R.fresh i x b e1 o1 (lt_ hl1 l1)
    · have q := last_ l1
      cases q
      exact .inl h0
  · rcases at_ e1 with ⟨e1, hl1⟩ | ⟨rfl, q⟩
    · exact R.nobor i es b e1 (lt_ hl1 l1)
    · have q := last_ l1
      cases q
      exact hB
  · obtain ⟨⟨es, e⟩, l⟩ := R.lent q hq
    have h1 : q.1 < ρ.length := (List.getElem?_eq_some_iff.mp e).1
    exact ⟨⟨es, by rw [List.getElem?_append_left h1]; exact e⟩, by rw [List.getElem?_append_left (by rw [← R.len]; exact h1)]; exact l⟩
/-- .. or frozen -/
theorem Rl.frzAt {a : Addr} {xs : List V} (R : Rl K c F ρ L H) (hF : F a = none) (hH : H a = some (.lst xs)) (h0 : c.Hi a = none) (hno : ∀ (i : Nat) (x : DV), ρ[i]? = some x → x.own ≠ none → L[i]? ≠ some (some (.ref a))) :
    Rl K c (upd F a (.lst xs)) ρ L H := by
  have sF : Same F (upd F a (.lst xs)) := Same.upd hF
  refine ⟨R.len, fun b o q => ?_, R.keep, fun i x v e1 e2 => (R.slot i x v e1 e2).mono sF fun b zs hv ho h1 h2 => ⟨?_, h2⟩, R.sep, R.fresh, R.nobor, R.lent, fun b o q => ?_⟩
  · by_cases hb : b = a
    · subst hb; rw [upd_same] at q; cases q; exact hH
    · rw [upd_ne hb] at q; exact R.sub b o q
  · rw [upd_ne (fun z => by subst z hv; exact hno i x e1 ho e2)]; exact h1
  · by_cases hb : b = a
    · exact .inr (hb ▸ h0)
    · rw [upd_ne hb] at q; exact R.born b o q
end

/-! ### the call within a body -/
/-- the result in an expression (a new list is frozen) -/
def rvD : RV → D
  | .dat d => d
  | .new ds => .list ds
def callD (f : Fsp) (ds : List D) : M RV := fun ρ => match f [] ds with
  | none => none
  | some (.ok r, _) => some (.ok r, ρ)
  | some (.error x, _) => some (.error x, ρ)
def callO (f : Fsp) (p : Nat) (ds : List D) : M RV := fun ρ => match ρ[p]? with
  | none => none
  | some x => match x.own with
    | none => none
    | some w => match f w ds with
      | none => none
      | some (.ok r, w') => some (.ok r, ρ.set p (x.put w'))
      | some (.error z, w') => some (.error z, ρ.set p (x.put w'))
def callA (own : Bool) (f : Fsp) (rs : List DR) : M RV := if own then (match rs with
    | .loc p :: rs => M.bind (frzAll rs) fun ds => callO f p ds
    | _ => M.no) else M.bind (frzAll rs) fun ds => callD f ds
def eCall (own : Bool) (f : Fsp) (ms : M (List DR)) : M DR := M.bind ms fun rs => M.bind (callA own f rs) fun r => M.ok (.dat (rvD r))
def nCall (own : Bool) (f : Fsp) (ms : M (List DR)) : M Unit := M.bind ms fun rs => M.bind (callA own f rs) fun r => match r with
  | .new ds => push ds
  | .dat _ => M.no
section
variable {X : Cx} {P : Ps} {e : Expr} {es : List Expr} {pos : Pos} {c : Ct} {F H : Hp} {σ : L2.St} {τ : List (Option V)}
theorem paired_refv {K : Frag} {F : Hp} {L : List (Option V)} {p : Nat} {rs : List DR} {vs : List V} (h : Paired (RefV K F L) vs (.loc p :: rs)) : ∃ v us, vs = v :: us ∧ L[p]? = some (some v) ∧ Paired (RefV K F L) us rs := by
  cases h with
  | cons h1 h2 => exact ⟨_, _, rfl, h1, h2⟩
/-- what a call's promise asks, from the step: Φ the rest -/
theorem callA_sp {own : Bool} {n : Nat} {f : Fsp} {rs : List DR} {vs : List V} {ρ : List DV} {Φ : RV → List DV → Hp → Hp → Prop} {Q : VK} {E : XK} (hn : vs.length = n) (h : Ho P c F σ τ (callA own f rs ρ) Φ) (R : Rl P.K c F ρ (σ ++ τ) H) (hv : Paired (RefV P.K F (σ ++ τ)) vs rs)
    (hq : ∀ r ρ1 F1 H1 F2 v, Same F F2 → (∀ (Ψ : Hp → Prop), (∀ F1 H1, Same F2 F1 → Rl P.K c F1 ρ1 (σ ++ τ) H1 → Φ r ρ1 F1 H1) → True) → Rl P.K c F1 ρ1 (σ ++ τ) H1 → Same F2 F1 → (∀ F3 H3, Same F1 F3 → Rl P.K c F3 ρ1 (σ ++ τ) H3 → Φ r ρ1 F3 H3) →
      (match r with | .dat d => Rp P.K F1 v d | .new ds => ∃ a xs, v = .ref a ∧ F1 a = none ∧ c.Hi a = none ∧ a ∉ c.ads ∧ H1 a = some (.lst xs) ∧ RpAll P.K F1 xs ds ∧ ∀ (i : Nat) (x : DV), ρ1[i]? = some x → x.own ≠ none → (σ ++ τ)[i]? ≠ some (some (.ref a))) → Q v H1)
    (he : ∀ cls d H', P.W cls d σ H' → E cls d H') : spD P.K own n f vs H Q E := by
  have fin : ∀ {oa : Option Addr} {F1 : Hp} {ρ1 ρ2 : List DV} {us : List V} {w w' ds : List D} {r : RV}, Rl P.K c F1 ρ1 (σ ++ τ) H → Same F F1 → (∀ F3 H3, Same F1 F3 → Rl P.K c F3 ρ2 (σ ++ τ) H3 → Φ r ρ2 F3 H3) →
      (∀ F' H', Same F1 F' → Same F' H' → New F1 H F' → Frm oa H H' → Lent P.K F' H' oa w' → Rl P.K c F' ρ2 (σ ++ τ) H') → (∀ (i : Nat) (x : DV), ρ2[i]? = some x → x.own ≠ none → ∃ y, ρ1[i]? = some y ∧ y.own ≠ none) →
      ∀ v F' H', Same F1 F' → Same F' H' → New F1 H F' → Frm oa H H' → Lent P.K F' H' oa w' → RvOk P.K F' H H' v r → Q v H' := by
    intro oa F1 ρ1 ρ2 us w w' ds r R1 s1 hΦ hR hown v F' H' s s' n fr lt rv
    have R2 := hR F' H' s s' n fr lt
    refine hq r ρ2 F' H' F1 v s1 (fun _ _ => trivial) R2 s (fun F3 H3 s3 R3 => hΦ F3 H3 (s.trans s3) R3) ?_
    cases r with
    | dat d => exact rv
    | new es =>
      obtain ⟨a, xs, e1, e2, e3, e4, e5⟩ := rv
      obtain ⟨g1, g2⟩ := R1.freshAt e3
      refine ⟨a, xs, e1, e2, g1, g2, e4, e5, fun i x ex ox el => ?_⟩
      obtain ⟨y, ey, oy⟩ := hown i x ex ox
      cases oy' : y.own with
      | none => exact oy oy'
      | some zs =>
        obtain ⟨a', xs', q1, _, q3, _⟩ := (R1.slot i y _ ey el).own oy'
        cases q1
        rw [e3] at q3
        cases q3
  cases own with
  | false =>
    have h' : Ho P c F σ τ (M.bind (frzAll rs) (fun ds => callD f ds) ρ) Φ := h
    obtain ⟨ds, F1, ρ1, s1, R1, r1, q1⟩ := Ho.frzAll h' R hv
    refine ⟨hn, F1, none, vs, [], ds, rfl, rfl, R1.sub, trivial, r1, ?_⟩
    unfold callD at q1
    match z : f [] ds with
    | none => rw [z] at q1; exact q1
    | some (.ok r, w') =>
      rw [z] at q1
      exact fin (oa := none) (w' := w') (us := vs) (w := []) (ds := ds) R1 s1 q1 (fun F' H' s s' n fr lt => R1.call0 s s' n fr) (fun i x ex ox => ⟨x, ex, ox⟩)
    | some (.error x, w') =>
      rw [z] at q1
      exact fun C dd v F' H' s s' n fr lt g rp hx hn => he _ _ _ (q1 F' H' C dd v s (R1.call0 s s' n fr) g rp hx (R1.freshAt hn).1)
  | true =>
    cases rs with
    | nil => exact (show False from h).elim
    | cons r0 rs =>
      cases r0 with
      | dat d => exact (show False from h).elim
      | exc c d => exact (show False from h).elim
      | loc p =>
        have h' : Ho P c F σ τ (M.bind (frzAll rs) (fun ds => callO f p ds) ρ) Φ := h
        obtain ⟨v, us, rfl, lv, hus⟩ := paired_refv hv
        obtain ⟨ds, F1, ρ1, s1, R1, r1, q1⟩ := Ho.frzAll h' R hus
        unfold callO at q1
        cases ex : ρ1[p]? with
        | none => rw [ex] at q1; exact (show False from q1).elim
        | some x =>
          rw [ex] at q1
          dsimp only at q1
          cases ox : x.own with
          | none => rw [ox] at q1; exact (show False from q1).elim
          | some w =>
            rw [ox] at q1
            dsimp only at q1
            obtain ⟨a, xs, e1, e2, e3, e4⟩ := (R1.slot p x _ ex lv).own ox
            cases e1
            refine ⟨hn, F1, some a, us, w, ds, rfl, rfl, R1.sub, ⟨e2, xs, e3, e4⟩, r1, ?_⟩
            match z : f w ds with
            | none => rw [z] at q1; exact q1
            | some (.ok r, w') =>
              rw [z] at q1
              refine fin (oa := some a) (w' := w') (us := us) (w := w) (ds := ds) R1 s1 q1 (fun F' H' s s' n fr lt => R1.call1 ex ox lv s s' n fr lt) (fun i y ey oy => ?_)
              rcases set_at ey with ⟨rfl, rfl⟩ | ⟨_, ey⟩
              · exact ⟨x, ex, by rw [ox]; simp⟩
              · exact ⟨y, ey, oy⟩
            | some (.error y, w') =>
              rw [z] at q1
              exact fun C dd v F' H' s s' n fr lt g rp hx hn => he _ _ _ (q1 F' H' C dd v s (R1.call1 ex ox lv s s' n fr lt) g rp hx (R1.freshAt hn).1)
theorem tE_call {own : Bool} {n : Nat} {f : Fsp} {ms : M (List DR)} {t : TA} (ht : ∀ σ H Q, t σ H Q → tA P ms σ H fun vs H' => vs.length = n ∧ Q vs H') (σ : L2.St) (H : Hp) (Q : VK) : True := trivial
theorem tE_callS {own : Bool} {n : Nat} {f : Fsp} {ms : M (List DR)} (hl : ∀ ρ rs ρ', ms ρ = some (.ok rs, ρ') → rs.length = n) (σ : L2.St) (H : Hp) (Q : VK) (q : tE P (eCall own f ms) σ H Q) : tCallS (spD P.K own n f) (WE P.W) (tA P ms) σ H Q := by
  obtain ⟨c, F, τ, ρ, R, q⟩ := q
  refine ⟨c, F, τ, ρ, R, ?_⟩
  have q' := Ho.bind q
  match z : ms ρ with
  | none => rw [z] at q'; exact q'
  | some (.error x, ρ1) => rw [z] at q'; exact q'
  | some (.ok rs, ρ1) =>
    rw [z] at q'
    intro F1 H1 s1 R1 vs hvs
    have q1 := q' F1 H1 s1 R1
    have hn : vs.length = n := by rw [← hl ρ rs ρ1 z]; exact Paired.length hvs
    refine callA_sp hn (Ho.bind q1) R1 hvs (fun r ρ2 F2 H2 F1' v _ _ R2 s2 hΦ hr => ?_) fun cls d H' w => w
    have q2 := hΦ F2 H2 (Same.refl _) R2
    cases r with
    | dat d => exact q2 F2 H2 (Same.refl _) R2 v hr
    | new es =>
      obtain ⟨a, xs, e1, e2, e3, e4, e5, e6, e7⟩ := hr
      subst e1
      exact q2 _ H2 (Same.upd e2) (R2.frzAt e2 e5 e3 e7) _ (.lst (.inl (.inl upd_same)) (e6.mono (Same.upd e2)))
theorem tN_callS {own : Bool} {n : Nat} {f : Fsp} {ms : M (List DR)} (hl : ∀ ρ rs ρ', ms ρ = some (.ok rs, ρ') → rs.length = n) (σ : L2.St) (H : Hp) (Q : VK) (q : tN P (nCall own f ms) σ H Q) : tCallS (spD P.K own n f) (WE P.W) (tA P ms) σ H Q := by
  obtain ⟨c, F, τ, ρ, R, q⟩ := q
  refine ⟨c, F, τ, ρ, R, ?_⟩
  have q' := HoN.bind q
  match z : ms ρ with
  | none => rw [z] at q'; exact q'
  | some (.error x, ρ1) => rw [z] at q'; exact q'
  | some (.ok rs, ρ1) =>
    rw [z] at q'
    intro F1 H1 s1 R1 vs hvs
    have q1 := q' F1 H1 s1 R1
    have hn : vs.length = n := by rw [← hl ρ rs ρ1 z]; exact Paired.length hvs
    refine callA_sp hn (HoN.bind q1) R1 hvs (fun r ρ2 F2 H2 F1' v _ _ R2 s2 hΦ hr => ?_) fun cls d H' w => w
    have q2 := hΦ F2 H2 (Same.refl _) R2
    cases r with
    | dat d => exact (show False from q2).elim
    | new es =>
      obtain ⟨a, xs, e1, e2, e3, e4, e5, e6, e7⟩ := hr
      subst e1
      exact q2 F2 H2 _ (Same.refl _) (Rl.pushAt (H0 := H2) R2 e2 e5 e6 e3 e4 e7)
/-- how many arguments a written list has -/
def ALen (ms : M (List DR)) (n : Nat) : Prop := ∀ ρ rs ρ', ms ρ = some (.ok rs, ρ') → rs.length = n
theorem alen_nil : ALen aNil 0 := fun ρ rs ρ' e => by
  cases e
  rfl
theorem alen_cons {m : M DR} {ms : M (List DR)} {n : Nat} (h : ALen ms n) : ALen (aCons m ms) (n + 1) := fun ρ rs ρ' e => by
  unfold aCons M.bind at e
  split at e
  · cases e
  · rename_i r ρ1 _
    dsimp only at e
    split at e
    · cases e
    · rename_i rs' ρ2 e2
      cases e
      rw [List.length_cons, h _ _ _ e2]
    · cases e
  · cases e
theorem de_call {own : Bool} {n k : Nat} {f : Fsp} {ms : M (List DR)} {x : Str} {p : Pos} {fa : Addr} {fd : FuncData} {ps : List Str} (F : FnOk X.prog X.w X.K X.mg X.base (L2.CX X.prog X.w) k fa fd ps (spD P.K own n f)) (hr : Room k X.A) (hg : Gl X x) (hm : X.mg x = some (.ref fa)) (hk : PySem.W.keepIn X.K (.ref fa) = true)
    (hb : Binds X.K fd ps []) (tk : Takes X P.W) (ha : PA X (e :: es) (tA P ms)) (hl : ALen ms n) (hdb : (x == ("__debug__" : Str)) = false) (he : starEach (e :: es) X.env = (false, eval e X.env) :: starEach es X.env) (hpl : (backTo pos (starEach es X.env)).any (·.1) = false) :
    PE X (.Call (.Name x p) (e :: es) [] pos) (tE P (eCall own f ms)) := (pe_callS F hr hg hm hk hb (fun σ => passAt tk σ) ha hdb he hpl).of (tE_callS hl)
theorem dn_call {own : Bool} {n k : Nat} {f : Fsp} {ms : M (List DR)} {x : Str} {p : Pos} {fa : Addr} {fd : FuncData} {ps : List Str} (F : FnOk X.prog X.w X.K X.mg X.base (L2.CX X.prog X.w) k fa fd ps (spD P.K own n f)) (hr : Room k X.A) (hg : Gl X x) (hm : X.mg x = some (.ref fa)) (hk : PySem.W.keepIn X.K (.ref fa) = true)
    (hb : Binds X.K fd ps []) (tk : Takes X P.W) (ha : PA X (e :: es) (tA P ms)) (hl : ALen ms n) (hdb : (x == ("__debug__" : Str)) = false) (he : starEach (e :: es) X.env = (false, eval e X.env) :: starEach es X.env) (hpl : (backTo pos (starEach es X.env)).any (·.1) = false) :
    PE X (.Call (.Name x p) (e :: es) [] pos) (tN P (nCall own f ms)) := (pe_callS F hr hg hm hk hb (fun σ => passAt tk σ) ha hdb he hpl).of (tN_callS hl)
end
end DL

set_option Elab.async false
set_option linter.all false
set_option maxRecDepth 100000
set_option maxHeartbeats 4000000
/-! DL7: a body keeps its promise; calls with keywords; walks; for. -/
namespace DL
open PySem PySem.Spec PyProof.Rows L2

/-! ### a def -/
def initE (own : Bool) (nN : Nat) (w ds : List D) : List DV := (if own then [DV.bor w] else []) ++ ds.map DV.dat ++ List.replicate (nN - (ds.length + (if own then 1 else 0))) .un
def lent0 : Option DV → List D
  | some (.bor w) => w
  | _ => []
def lentOf (own : Bool) (ρ : List DV) : List D := if own then lent0 ρ[0]? else []
def BOf : Option Addr → List (Nat × Addr)
  | none => []
  | some a => [(0, a)]
/-- what a body does, as a def's promise -/
def runF (own : Bool) (nN : Nat) (m : M Fl) : Fsp := fun w ds => match m (initE own nN w ds) with
  | some (.ok .nx, ρ) => some (.ok (.dat .none), lentOf own ρ)
  | some (.ok (.ret r), ρ) => some (.ok r, lentOf own ρ)
  | some (.error x, ρ) => some (.error x, lentOf own ρ)
  | _ => none
theorem lent_of {K : Frag} {c : Ct} {F H : Hp} {ρ : List DV} {σ : L2.St} {oa : Option Addr} (R : Rl K c F ρ σ H) (hB : c.B = BOf oa) : Lent K F H oa (lentOf oa.isSome ρ) := by
  cases oa with
  | none => trivial
  | some a =>
    obtain ⟨⟨ds, e⟩, l⟩ := R.lent (0, a) (by rw [hB]; exact List.mem_singleton.mpr rfl)
    obtain ⟨a', xs, e1, e2, e3, e4⟩ := R.slot 0 _ _ e l
    cases e1
    refine ⟨e2, xs, e3, ?_⟩
    have z : lentOf true ρ = ds := by
      show lent0 ρ[0]? = ds
      rw [show ρ[0]? = some (DV.bor ds) from e]
      rfl
    show RpAll K F xs (lentOf true ρ)
    rw [z]; exact e4
theorem rl_init {K : Frag} {F H : Hp} {oa : Option Addr} {us : List V} {w ds : List D} {N : List Str} (s : Same F H) (lt : Lent K F H oa w) (r : RpAll K F us ds) (hn : (argV oa us).length ≤ N.length) :
    Rl K ⟨H, F, BOf oa⟩ F (initE oa.isSome N.length w ds) (L2.start N (argV oa us)) H := by
  have hlen := r.length
  have slots : ∀ (i : Nat) (x : DV) (v : Option V), (initE oa.isSome N.length w ds)[i]? = some x → (L2.start N (argV oa us))[i]? = some v → (x = .un) ∨ (∃ y d, v = some y ∧ x = .dat d ∧ Rp K F y d) ∨ (∃ a, oa = some a ∧ i = 0 ∧ v = some (.ref a) ∧ x = .bor w) := by
    intro i x v e1 e2
    unfold initE at e1
    unfold L2.start at e2
    cases oa with
    | none =>
      simp only [Option.isSome_none, Bool.false_eq_true, if_false, List.nil_append, argV] at e1 e2
      by_cases hi : i < ds.length
      · rw [List.getElem?_append_left (by simpa using hi), List.getElem?_map] at e1
        rw [List.getElem?_append_left (by simpa using (by omega : i < us.length)), List.getElem?_map] at e2
        cases q : ds[i]? with
        | none => rw [q] at e1; simp at e1
        | some d =>
          obtain ⟨y, ey, ry⟩ := r.get q
          rw [q] at e1
          rw [ey] at e2
          simp at e1 e2
          exact .inr (.inl ⟨y, d, e2.symm, e1.symm, ry⟩)
      · rw [List.getElem?_append_right (by simpa using hi), List.getElem?_replicate] at e1
        split at e1
        · exact .inl (Option.some.inj e1).symm
        · cases e1
    | some a =>
      simp only [Option.isSome_some, if_true, argV] at e1 e2
      cases i with
      | zero =>
        simp at e1 e2
        exact .inr (.inr ⟨a, rfl, rfl, e2.symm, e1.symm⟩)
      | succ i =>
        simp only [List.cons_append, List.nil_append, List.getElem?_cons_succ, List.map_cons] at e1 e2
        by_cases hi : i < ds.length
        · rw [List.getElem?_append_left (by simpa using hi), List.getElem?_map] at e1
          rw [List.getElem?_append_left (by simpa using (by omega : i < us.length)), List.getElem?_map] at e2
          cases q : ds[i]? with
          | none => rw [q] at e1; simp at e1
          | some d =>
            obtain ⟨y, ey, ry⟩ := r.get q
            rw [q] at e1
            rw [ey] at e2
            simp at e1 e2
            exact .inr (.inl ⟨y, d, e2.symm, e1.symm, ry⟩)
        · rw [List.getElem?_append_right (by simpa using hi), List.getElem?_replicate] at e1
          split at e1
          · exact .inl (Option.some.inj e1).symm
          · cases e1
  have own_ : ∀ (i : Nat) (x : DV) (a : Addr), (initE oa.isSome N.length w ds)[i]? = some x → x.own ≠ none → (L2.start N (argV oa us))[i]? = some (some (.ref a)) → oa = some a ∧ i = 0 ∧ x = .bor w := by
    intro i x a e1 o1 e2
    rcases slots i x _ e1 e2 with rfl | ⟨y, d, _, rfl, _⟩ | ⟨a', h1, h2, h3, h4⟩
    · exact absurd rfl o1
    · exact absurd rfl o1
    · cases h3
      exact ⟨h1, h2, h4⟩
  refine ⟨?_, s, fun b o e _ => e, fun i x v e1 e2 => ?_, fun i j x y a e1 e2 o1 o2 l1 l2 => ?_, fun i x a e1 o1 l1 => ?_, fun i es a e1 l1 => ?_, fun q hq => ?_, fun b o e => .inl e⟩
  · unfold initE L2.start
    cases oa with
    | none =>
      simp only [argV] at hn
      simp [argV]
      omega
    | some a =>
      simp only [argV, List.length_cons] at hn
      simp [argV]
      omega
  · rcases slots i x v e1 e2 with rfl | ⟨y, d, h1, rfl, h2⟩ | ⟨a, h1, h2, h3, rfl⟩
    · trivial
    · exact ⟨y, h1, h2⟩
    · subst h1
      obtain ⟨g1, xs, g2, g3⟩ := lt
      exact ⟨a, xs, h3, g1, g2, g3⟩
  · rw [(own_ i x a e1 o1 l1).2.1, (own_ j y a e2 o2 l2).2.1]
  · refine .inr ?_
    obtain ⟨h1, _, _⟩ := own_ i x a e1 o1 l1
    subst h1
    exact List.mem_map.mpr ⟨(0, a), List.mem_singleton.mpr rfl, rfl⟩
  · have z := (own_ i _ a e1 (by simp [DV.own]) l1).2.2
    cases z
  · cases oa with
    | none => exact absurd hq (by simp [BOf])
    | some a =>
      cases (List.mem_singleton.mp hq)
      exact ⟨⟨w, by simp [initE]⟩, by simp [L2.start, argV]⟩
section
variable {Pg : Program} {wd : World} {K : PySem.W.Frag} {mg : Str → Option Value} {base : Heap}
theorem fn_ok {x qual : Str} {st : Stmt} {fa : Addr} {fd : FuncData} {N ps : List Str} {k : Nat} {own : Bool} {m : M Fl} (F : Fun K x qual st fa fd) (S : FnScope N ps (defScope st))
    (hbody : ∀ (cdv : Value) (A : Around) (outer : List Env) (s : Shared) (H : Hp) (E : XK), Room k (A.deeper (envOfC qual (defScope st) s.heap.objs.size fa cdv)) →
      Takes (cxOf (L2.CX Pg wd) Pg wd K mg base N qual (defScope st) fa cdv A outer s H E) (fun cls d _ H => E cls d H) →
      PSs (cxOf (L2.CX Pg wd) Pg wd K mg base N qual (defScope st) fa cdv A outer s H E) (defBody st) (tS ⟨⟨K, mg⟩, fun cls d _ H => E cls d H⟩ m)) :
    FnOk Pg wd K mg base (L2.CX Pg wd) (k + 1) fa fd ps (spD ⟨K, mg⟩ own ps.length (runF own N.length m)) := by
  refine F.okX S (fun vs H Q E h => h.1) fun cdv A outer s H vs Q E hr h => ?_
  refine ⟨tS ⟨⟨K, mg⟩, fun cls d _ H => E cls d H⟩ m, hbody cdv A outer s H E hr (takes_of rfl rfl rfl rfl), ?_⟩
  obtain ⟨hn, F0, oa, us, w, ds, ho, rfl, sF, lt, r, h⟩ := h
  subst ho
  have hpl : ps.length ≤ N.length := by have := congrArg List.length S.pre; rw [List.length_take] at this; omega
  have R0 := rl_init (N := N) sF lt r (by rw [hn]; exact hpl)
  have fr : ∀ {ρ : List DV} {σ : L2.St} {F' H' : Hp}, Rl ⟨K, mg⟩ ⟨H, F0, BOf oa⟩ F' ρ σ H' → Frm oa H H' := fun {ρ σ F' H'} R b o e hb => R.keep b o e (fun z => by
    cases oa with
    | none => exact absurd z (by simp [Ct.ads, BOf])
    | some a =>
      have : b = a := by simpa [Ct.ads, BOf] using z
      exact hb (by rw [this]))
  refine ⟨_, F0, _, R0, ?_⟩
  unfold runF at h
  match z : m (initE oa.isSome N.length w ds) with
  | none => rw [z] at h; exact h
  | some (.ok .nx, ρ) =>
    rw [z] at h
    exact fun σ F' H' s R => h .non F' H' s R.sub R.born (fr R) (lent_of R rfl) .non
  | some (.ok (.ret rv), ρ) =>
    rw [z] at h
    refine fun v σ F' H' s R rr => h v F' H' s R.sub R.born (fr R) (lent_of R rfl) ?_
    cases rv with
    | dat d => exact rr
    | new es =>
      obtain ⟨a, xs, e1, e2, e3, e4, e5, e6⟩ := rr
      exact ⟨a, xs, e1, e2, e3, e5, e6⟩
  | some (.ok .brk, ρ) => rw [z] at h; exact h.elim
  | some (.ok .cnt, ρ) => rw [z] at h; exact h.elim
  | some (.error x, ρ) =>
    rw [z] at h
    exact fun σ F' H' C dd v s R g rp hx hn => by
      rw [List.append_nil] at R
      exact h C dd v F' H' s R.sub R.born (fr R) (lent_of R rfl) g rp hx hn
end

/-! ### f(k = v, ..) -/
section
variable {X : Cx} {P : Ps} {e : Expr} {es : List Expr} {pos : Pos}
theorem run_fnkS {CX : CXT} {k : Nat} {f : Addr} {fd : FuncData} {ps ks : List Str} {sp : Sp} {E : XK} {g : List Value → List Value → List Value} {gV : List V → List V → List V} {pins : List (Addr × Obj)} {σ : L2.St} {H : Hp} {s : Shared} {Q : VK} {us ws : List Value} {vs zs : List V} (F : FnOk X.prog X.w X.K X.mg X.base CX k f fd ps sp) (hr : Room k X.A) (hb : KBinds X.K fd ps ks g gV) (hx : PassesAt CX X σ E)
    (I : Inv X pins σ H s) (r : Vals vs us) (rz : Vals zs ws) (h : sp (gV vs zs) H Q E) : wpAny (model X.prog X.w) X.A (call (.ref f) us (ks.zip ws)) (EP X pins σ Q) X.xe s := by
  have r2 := hb.rel r rz
  have hl : (g us ws).length = ps.length := by rw [← r2.length]; exact F.len _ _ _ _ h
  refine wpAny_call (codeAny_mono (F.run X.A X.stack s H ⟨us, ks.zip ws⟩ (g us ws) (gV vs zs) Q E hr I.env0 (hb.to s us ws I.kIn hl) r2 h) fun r s' hq => ?_)
  cases r with
  | error e => exact hx pins H s e s' I hq
  | ok fl =>
    cases fl with
    | ret u => exact I.after hq
    | next => exact False.elim hq
    | brk => exact False.elim hq
    | cont => exact False.elim hq
def tCallKS (sp : Sp) (gV : List V → List V → List V) (E : L2.St → XK) (tk : TA) : TE := fun σ H Q => tk σ H fun zs H2 => sp (gV [] zs) H2 Q (E σ)
theorem pe_callKS {CX : CXT} {k : Nat} {f : Addr} {fd : FuncData} {ps ks : List Str} {sp : Sp} {E : L2.St → XK} {x : Str} {p : Pos} {kws : List Keyword} {tk : TA} {g : List Value → List Value → List Value} {gV : List V → List V → List V} (F : FnOk X.prog X.w X.K X.mg X.base CX k f fd ps sp) (hr : Room k X.A) (hg : Gl X x) (hm : X.mg x = some (.ref f)) (hk : PySem.W.keepIn X.K (.ref f) = true) (hb : KBinds X.K fd ps ks g gV) (hx : ∀ σ, PassesAt CX X σ (E σ))
    (hkw : PK X kws tk) (hall : (backToKw pos (keywordEach kws X.env)).all (·.1.isSome) = true) (hks : (backToKw pos (keywordEach kws X.env)).filterMap (·.1) = ks)
    (hdb : (x == ("__debug__" : Str)) = false) (hpl : ((backTo pos (starEach [] X.env)).any (·.1) || (backToKw pos (keywordEach kws X.env)).any (·.1.isNone)) = false) :
    PE X (.Call (.Name x p) [] kws pos) (tCallKS sp gV E tk) := by
  refine ⟨fun pins s σ H Q I h => ?_⟩
  refine wpAny_Call_Name_kw (ld_glob I hg hm ?_ hdb)
  refine PySem.W.callWith_KW0 (h₀ := X.base) I.ok.mod.kin hk hall ?_ hpl
  refine thn (hkw.run pos pins s σ H _ I h) fun ws s2 ⟨zs, H2, I2, rz, q2⟩ => ⟨I2.kIn, ?_⟩
  rw [hks]
  exact run_fnkS F hr hb (hx σ) I2 .nil rz q2
theorem dk_nil : PK X [] (tA P aNil) := ⟨fun pos pins s σ H Q I q => pk_nil.run pos pins s σ H Q I (by
  obtain ⟨c, F, τ, ρ, R, q⟩ := q
  exact Ho.now q R [] .nil)⟩
theorem dk_cons {kws : List Keyword} {m : M DR} {ms : M (List DR)} {nm : Option Str} {kpos : Pos} (ha : PE X e (tE P m)) (hr : PK X kws (tA P ms)) : PK X (⟨nm, e, kpos⟩ :: kws) (tA P (aCons m ms)) := ⟨fun pos pins s σ H Q I q => (pk_cons ha hr).run pos pins s σ H Q I (by
  obtain ⟨c, F, τ, ρ, R, q⟩ := q
  refine ⟨c, F, τ, ρ, R, (Ho.bind q).mono fun r ρ1 F1 H1 s1 R1 q1 v hv => ?_⟩
  refine ⟨c, F1, τ, ρ1, R1, (Ho.bind q1).mono fun rs ρ2 F2 H2 s2 R2 q2 vs hvs => ?_⟩
  exact Ho.now q2 R2 (v :: vs) (.cons (hv.mono s2) hvs))⟩
/-- the values by the keywords, put in the parameters' order -/
def permR {α : Type} (π : List Nat) (l : List α) : List α := π.filterMap fun i => l[i]?
def eCallK (π : List Nat) (f : Fsp) (ms : M (List DR)) : M DR := M.bind ms fun rs => M.bind (frzAll rs) fun ds => M.bind (callD f (permR π ds)) fun r => M.ok (.dat (rvD r))
theorem RpAll.perm {K : Frag} {F : Hp} {vs : List V} {ds : List D} (h : RpAll K F vs ds) : ∀ π : List Nat, RpAll K F (permR π vs) (permR π ds)
  | [] => .nil
  | i :: π => by
    unfold permR
    rw [List.filterMap_cons, List.filterMap_cons]
    cases q : ds[i]? with
    | none =>
      have : vs[i]? = none := by
        rw [List.getElem?_eq_none_iff] at q ⊢
        rw [h.length]; exact q
      rw [this]
      exact RpAll.perm h π
    | some d =>
      obtain ⟨v, e, r⟩ := h.get q
      rw [e]
      exact .cons r (RpAll.perm h π)
theorem tE_callK {n nk : Nat} {π : List Nat} {f : Fsp} {ms : M (List DR)} (hl : ALen ms nk) (hπ : ∀ (vs : List V), vs.length = nk → (permR π vs).length = n) (σ : L2.St) (H : Hp) (Q : VK) (q : tE P (eCallK π f ms) σ H Q) : tCallKS (spD P.K false n f) (fun _ zs => permR π zs) (WE P.W) (tA P ms) σ H Q := by
  obtain ⟨c, F, τ, ρ, R, q⟩ := q
  refine ⟨c, F, τ, ρ, R, ?_⟩
  have q' := Ho.bind q
  match z : ms ρ with
  | none => rw [z] at q'; exact q'
  | some (.error x, ρ1) => rw [z] at q'; exact q'
  | some (.ok rs, ρ1) =>
    rw [z] at q'
    intro F1 H1 s1 R1 vs hvs
    have q1 := q' F1 H1 s1 R1
    have hn : vs.length = nk := by rw [← hl ρ rs ρ1 z]; exact Paired.length hvs
    obtain ⟨ds, F2, ρ2, s2, R2, r2, q2⟩ := Ho.frzAll q1 R1 hvs
    have q3 := Ho.bind q2
    unfold callD at q3
    refine ⟨hπ vs hn, F2, none, permR π vs, [], permR π ds, rfl, rfl, R2.sub, trivial, r2.perm π, ?_⟩
    match y : f [] (permR π ds) with
    | none => rw [y] at q3; exact q3
    | some (.ok r, w') =>
      rw [y] at q3
      intro v F' H' s s' n fr lt rv
      have R3 := R2.call0 s s' n fr
      have q4 := q3 F' H' s R3
      cases r with
      | dat d => exact q4 F' H' (Same.refl _) R3 v rv
      | new es =>
        obtain ⟨a, xs, e1, e2, e3, e4, e5⟩ := rv
        subst e1
        obtain ⟨g1, g2⟩ := R2.freshAt e3
        refine q4 _ H' (Same.upd e2) (R3.frzAt e2 e4 g1 fun i x ex ox el => ?_) _ (.lst (.inl (.inl upd_same)) (e5.mono (Same.upd e2)))
        cases oy : x.own with
        | none => exact ox oy
        | some zs =>
          obtain ⟨a', xs', q1, _, q3, _⟩ := (R2.slot i x _ ex el).own oy
          cases q1
          rw [e3] at q3
          cases q3
    | some (.error x, w') =>
      rw [y] at q3
      exact fun C dd v F' H' s s' n fr lt g rp hx hn => q3 F' H' C dd v s (R2.call0 s s' n fr) g rp hx (R2.freshAt hn).1
theorem de_callK {n nk k : Nat} {π : List Nat} {f : Fsp} {ms : M (List DR)} {x : Str} {p : Pos} {fa : Addr} {fd : FuncData} {ps ks : List Str} {kws : List Keyword} {g : List Value → List Value → List Value} (F : FnOk X.prog X.w X.K X.mg X.base (L2.CX X.prog X.w) k fa fd ps (spD P.K false n f)) (hr : Room k X.A) (hg : Gl X x) (hm : X.mg x = some (.ref fa)) (hk : PySem.W.keepIn X.K (.ref fa) = true)
    (hb : KBinds X.K fd ps ks g (fun _ zs => permR π zs)) (tk : Takes X P.W) (hkw : PK X kws (tA P ms)) (hl : ALen ms nk) (hπ : ∀ (vs : List V), vs.length = nk → (permR π vs).length = n) (hall : (backToKw pos (keywordEach kws X.env)).all (·.1.isSome) = true) (hks : (backToKw pos (keywordEach kws X.env)).filterMap (·.1) = ks)
    (hdb : (x == ("__debug__" : Str)) = false) (hpl : ((backTo pos (starEach [] X.env)).any (·.1) || (backToKw pos (keywordEach kws X.env)).any (·.1.isNone)) = false) :
    PE X (.Call (.Name x p) [] kws pos) (tE P (eCallK π f ms)) := (pe_callKS F hr hg hm hk hb (fun σ => passAt tk σ) hkw hall hks hdb hpl).of (tE_callK hl hπ)
end
end DL

set_option Elab.async false
set_option linter.all false
set_option maxRecDepth 100000
set_option maxHeartbeats 4000000
/-! DL8: what is walked; targets; for; list comprehensions. -/
namespace DL
open PySem PySem.Spec PyProof.Rows L2

theorem _root_.L2.PE.ofL {X : Cx} {e : Expr} {t t' : TE} (h : PE X e t) (w : ∀ σ H Q, σ.length = X.N.length → t' σ H Q → t σ H Q) : PE X e t' := ⟨fun pins s σ H Q I q => h.run pins s σ H Q I (w _ _ _ I.len q)⟩
theorem _root_.L2.PS.ofL {X : Cx} {st : Stmt} {t t' : TS} (h : PS X st t) (w : ∀ D σ H, σ.length = X.N.length → t' D σ H → t D σ H) : PS X st t' := ⟨fun pins s σ H D I q => h.run pins s σ H D I (w _ _ _ I.len q)⟩
theorem _root_.L2.PI.of {X : Cx} {tg iter : Expr} {t t' : TI} (h : PI X tg iter t) (w : ∀ σ H R, t' σ H R → t σ H R) : PI X tg iter t' := ⟨fun pins s σ H R I q => h.run pins s σ H R I (w _ _ _ q)⟩

/-! ### slots changed pointwise -/
theorem Rl.patch {K : Frag} {c : Ct} {F H : Hp} {ρ ρ' : List DV} {L L' : List (Option V)} (R : Rl K c F ρ' L' H) (hl : ρ.length = L.length)
    (h : ∀ (i : Nat) (x : DV) (v : Option V), ρ[i]? = some x → L[i]? = some v → (ρ'[i]? = some x ∧ L'[i]? = some v) ∨ (x.own = none ∧ SlotOk K F H v x))
    (hb : ∀ p ∈ c.B, ρ[p.1]? = ρ'[p.1]? ∧ L[p.1]? = L'[p.1]?) : Rl K c F ρ L H := by
  have same : ∀ {i : Nat} {x : DV} {v : Option V}, ρ[i]? = some x → x.own ≠ none → L[i]? = some v → ρ'[i]? = some x ∧ L'[i]? = some v := fun {i x v} e o l => by
    rcases h i x v e l with g | ⟨g, _⟩
    · exact g
    · exact absurd g o
  refine ⟨hl, R.sub, R.keep, fun i x v e1 e2 => ?_, fun i j x y a e1 e2 o1 o2 l1 l2 => ?_, fun i x a e1 o1 l1 => ?_, fun i es a e1 l1 => ?_, fun q hq => ?_, R.born⟩
  · rcases h i x v e1 e2 with ⟨g1, g2⟩ | ⟨_, g⟩
    · exact R.slot i x v g1 g2
    · exact g
  · exact R.sep i j x y a (same e1 o1 l1).1 (same e2 o2 l2).1 o1 o2 (same e1 o1 l1).2 (same e2 o2 l2).2
  · exact R.fresh i x a (same e1 o1 l1).1 o1 (same e1 o1 l1).2
  · exact R.nobor i es a (same e1 (by simp [DV.own]) l1).1 (same e1 (by simp [DV.own]) l1).2
  · obtain ⟨h1, h2⟩ := hb q hq
    rw [h1, h2]; exact R.lent q hq

/-! ### what a loop walks -/
structure WalkD (K : Frag) (F : Hp) (J : It) (ds : List D) : Prop where
  go : ∀ i H1, Same F H1 → i < ds.length → J.go i H1
  stop : ∀ i H1, Same F H1 → ds.length ≤ i → J.stop i H1
  yld : ∀ i H1 x H2, Same F H1 → i < ds.length → J.yld i H1 x H2 → ∃ d, ds[i]? = some d ∧ ((H2 = H1 ∧ Rp K F x d) ∨ ∃ T xs es, x = .ref T ∧ H1 T = none ∧ H2 = upd H1 T (.tup xs) ∧ d = .tuple es ∧ RpAll K F xs es)
def tI (P : Ps) (m : M (List D)) : TI := fun σ H R => ∃ c F τ ρ, Rl P.K c F ρ (σ ++ τ) H ∧ Ho P c F σ τ (m ρ) fun ds _ F' H' => ∀ J, WalkD P.K F' J ds → R J H'
def itemsD : D → Option (List D)
  | .list ds => some ds
  | .tuple ds => some ds
  | _ => none
def iDat (m : M DR) : M (List D) := M.bind m fun r => M.bind (frz r) fun d => M.opt (itemsD d)
theorem walkD_list {K : Frag} {F : Hp} {a : Addr} {xs : List V} {ds : List D} (h : SqL K.K F a xs) (r : RpAll K F xs ds) : WalkD K F (Itl K.K a) ds where
  go := fun i H1 s hi => by
    obtain ⟨v, e, _⟩ := r.get (List.getElem?_eq_getElem hi)
    exact ⟨xs, v, sql_mono s h, e⟩
  stop := fun i H1 s hi => ⟨xs, sql_mono s h, by rw [r.length]; exact hi⟩
  yld := fun i H1 x H2 s hi y => by
    obtain ⟨e, y⟩ := y
    obtain ⟨d, e', r'⟩ := r.get' (y xs (sql_mono s h))
    exact ⟨d, e', .inl ⟨e, r'⟩⟩
theorem walkD_tup {K : Frag} {F : Hp} {a : Addr} {xs : List V} {ds : List D} (h : SqT K.K F a xs) (r : RpAll K F xs ds) : WalkD K F (Itt K.K a) ds where
  go := fun i H1 s hi => by
    obtain ⟨v, e, _⟩ := r.get (List.getElem?_eq_getElem hi)
    exact ⟨xs, v, sqt_mono s h, e⟩
  stop := fun i H1 s hi => ⟨xs, sqt_mono s h, by rw [r.length]; exact hi⟩
  yld := fun i H1 x H2 s hi y => by
    obtain ⟨e, y⟩ := y
    obtain ⟨d, e', r'⟩ := r.get' (y xs (sqt_mono s h))
    exact ⟨d, e', .inl ⟨e, r'⟩⟩
def iLT (K : PySem.W.Frag) (tl : TE) : TI := fun σ H R => tl σ H fun x H1 => ∃ a, x = .ref a ∧ ((∃ xs, SqL K H1 a xs ∧ R (Itl K a) H1) ∨ ∃ xs, SqT K H1 a xs ∧ R (Itt K a) H1)
section
variable {X : Cx} {P : Ps} {tg e : Expr} {pos : Pos} {c : Ct} {F H : Hp} {σ : L2.St} {τ : List (Option V)}
theorem pi_lt {l : Expr} {tl : TE} (hl : PE X l tl) : PI X tg l (iLT X.K tl) := by
  refine ⟨fun pins s σ H R I h => ?_⟩
  refine thn (hl.run pins s σ H _ I h) fun v s1 ⟨x, H1, I1, r1, q1⟩ => ?_
  obtain ⟨a, e, q1⟩ := q1
  subst e
  cases r1
  have fr : ∀ b ∈ [s1.heap.objs.size], FpOk X pins H1 b := fun b hb => by
    have e : b = s1.heap.objs.size := by simpa using hb
    subst e
    exact I1.fpOk (Nat.le_refl _) (I1.hok.fresh (Nat.le_refl _))
  rcases q1 with ⟨xs, hq, q⟩ | ⟨xs, hq, q⟩
  · obtain ⟨its, rv, p, hz⟩ := I1.list hq
    refine wpAny_pyIter_list p.isList ?_
    exact ⟨s1.heap.objs.size, [s1.heap.objs.size], _, _, H1, rfl, I1.kept (t' := s1.toks) fun b o e => Heap.get?_push_of_some _ e, turn_list a _, ⟨_, Heap.get?_push_size _ rfl, rfl, rfl⟩, fr, q⟩
  · obtain ⟨its, rv, p, hz⟩ := I1.tuple hq
    refine wpAny_pyIter_tuple (show s1.heap.IsTuple a its.toArray from p) ?_
    exact ⟨s1.heap.objs.size, [s1.heap.objs.size], _, _, H1, rfl, I1.kept (t' := s1.toks) fun b o e => Heap.get?_push_of_some _ e, turn_tuple a _, ⟨_, Heap.get?_push_size _ rfl, rfl, rfl⟩, fr, q⟩
theorem di_dat {m : M DR} (hK : P.K.K = X.K) (h : PE X e (tE P m)) : PI X tg e (tI P (iDat m)) := (pi_lt h).of fun σ H R q => by
  obtain ⟨c, F, τ, ρ, Rr, q⟩ := q
  refine ⟨c, F, τ, ρ, Rr, (Ho.bind q).mono fun r ρ1 F1 H1 s1 R1 q1 v hv => ?_⟩
  obtain ⟨d, F2, ρ2, s2, R2, r2, q2⟩ := Ho.frz q1 R1 hv
  unfold M.opt at q2
  cases z : itemsD d with
  | none => rw [z] at q2; exact (show False from q2).elim
  | some ds =>
    rw [z] at q2
    have q3 := q2 F2 H1 (Same.refl _) R2
    cases d with
    | list es =>
      cases z
      cases r2 with
      | lst h1 h2 => exact ⟨_, rfl, .inl ⟨_, hK ▸ sql_mono R2.sub h1, q3 _ (hK ▸ walkD_list h1 h2)⟩⟩
    | tuple es =>
      cases z
      cases r2 with
      | tup h1 h2 => exact ⟨_, rfl, .inr ⟨_, hK ▸ sqt_mono R2.sub h1, q3 _ (hK ▸ walkD_tup h1 h2)⟩⟩
    | _ => cases z
/-- range(n), range(a, b) -/
def rangeD (a b : Int) : List D := (List.range (b - a).toNat).map fun i => .int (a + (i : Nat))
def okR (i : Int) : Bool := decide (-(2 ^ 62) ≤ i) && decide (i < 2 ^ 62)
def rngF : List D → Option (List D)
  | [.int j] => if okR j then some (rangeD 0 j) else none
  | [.int i, .int j] => if okR i && okR j then some (rangeD i j) else none
  | _ => none
def iRng (ms : M (List DR)) : M (List D) := M.bind ms fun rs => M.bind (rdAll rs) fun ds => M.opt (rngF ds)
theorem rangeD_length (a b : Int) : (rangeD a b).length = (b - a).toNat := by unfold rangeD; rw [List.length_map, List.length_range]
theorem walkD_range {K : Frag} {F : Hp} (a b : Int) : WalkD K F (Itr a (b - a).toNat) (rangeD a b) where
  go := fun i H1 s hi => by rw [rangeD_length] at hi; exact hi
  stop := fun i H1 s hi => by rw [rangeD_length] at hi; exact hi
  yld := fun i H1 x H2 s hi y => by
    obtain ⟨e, y⟩ := y
    subst y
    rw [rangeD_length] at hi
    refine ⟨.int (a + (i : Nat)), ?_, .inl ⟨e, .int _⟩⟩
    unfold rangeD
    rw [List.getElem?_map, List.getElem?_range hi]
    rfl
theorem okR_of {i : Int} (h : okR i = true) : -(2 ^ 62) ≤ i ∧ i < 2 ^ 62 := by
  unfold okR at h
  simp only [Bool.and_eq_true, decide_eq_true_eq] at h
  exact h
theorem di_rng1 {a : Expr} {p : Pos} {ms : M (List DR)} (hl : ALen ms 1) (hg : Gl X "range") (hm : X.mg "range" = none) (ha : PA X [a] (tA P ms)) (hs : starEach [a] X.env = [(false, eval a X.env)]) : PI X tg (.Call (.Name "range" p) [a] [] pos) (tI P (iRng ms)) :=
  (pi_range1 hg hm ha hs).of fun σ H R q => by
    obtain ⟨c, F, τ, ρ, Rr, q⟩ := q
    refine ⟨c, F, τ, ρ, Rr, ?_⟩
    have q' := Ho.bind q
    match z : ms ρ with
    | none => rw [z] at q'; exact q'
    | some (.error x, ρ1) => rw [z] at q'; exact q'
    | some (.ok rs, ρ1) =>
      rw [z] at q'
      intro F1 H1 s1 R1 vs hvs
      obtain ⟨ds, n, q2⟩ := Ho.rdAll (q' F1 H1 s1 R1) R1 hvs
      unfold M.opt at q2
      cases y : rngF ds with
      | none => rw [y] at q2; exact (show False from q2).elim
      | some es =>
        rw [y] at q2
        have q3 := q2 F1 H1 (Same.refl _) R1
        have hn : ds.length = 1 := by rw [← Paired.length n, Paired.length hvs, hl _ _ _ z]
        unfold rngF at y
        split at y
        · split at y
          · rename_i j hj
            cases y
            obtain ⟨v, rfl, n0⟩ := now1 n
            have w := walkD_range (K := P.K) (F := F1) 0 j
            obtain ⟨g1, g2⟩ := okR_of hj
            refine ⟨_, by rw [n0.int], g1, g2, ?_⟩
            have e := q3 _ w
            rw [Int.sub_zero] at e
            exact e
          · cases y
        · simp at hn
        · cases y
theorem di_rng2 {a b : Expr} {p : Pos} {ms : M (List DR)} (hl : ALen ms 2) (hg : Gl X "range") (hm : X.mg "range" = none) (ha : PA X [a, b] (tA P ms)) (hs : starEach [a, b] X.env = [(false, eval a X.env), (false, eval b X.env)]) (hs2 : starEach [b] X.env = [(false, eval b X.env)]) : PI X tg (.Call (.Name "range" p) [a, b] [] pos) (tI P (iRng ms)) :=
  (pi_range2 hg hm ha hs hs2).of fun σ H R q => by
    obtain ⟨c, F, τ, ρ, Rr, q⟩ := q
    refine ⟨c, F, τ, ρ, Rr, ?_⟩
    have q' := Ho.bind q
    match z : ms ρ with
    | none => rw [z] at q'; exact q'
    | some (.error x, ρ1) => rw [z] at q'; exact q'
    | some (.ok rs, ρ1) =>
      rw [z] at q'
      intro F1 H1 s1 R1 vs hvs
      obtain ⟨ds, n, q2⟩ := Ho.rdAll (q' F1 H1 s1 R1) R1 hvs
      unfold M.opt at q2
      cases y : rngF ds with
      | none => rw [y] at q2; exact (show False from q2).elim
      | some es =>
        rw [y] at q2
        have q3 := q2 F1 H1 (Same.refl _) R1
        have hn : ds.length = 2 := by rw [← Paired.length n, Paired.length hvs, hl _ _ _ z]
        unfold rngF at y
        split at y
        · simp at hn
        · split at y
          · rename_i i j hj
            cases y
            obtain ⟨v, w, rfl, n1, n2⟩ := now2 n
            obtain ⟨h1, h2⟩ := Bool.and_eq_true_iff.mp hj
            exact ⟨i, j, by rw [n1.int, n2.int], ⟨(okR_of h1).1, (okR_of h1).2, (okR_of h2).1, (okR_of h2).2⟩, q3 _ (walkD_range i j)⟩
          · cases y
        · cases y

/-! ### targets -/
inductive DT where
  | nm (i : Nat)
  | tp (is : List Nat)
def DT.slots : DT → List Nat
  | .nm i => [i]
  | .tp is => is
def setDs : List Nat → List D → M Unit
  | [], [] => M.ok ()
  | i :: is, d :: ds => M.bind (setD i d) fun _ => setDs is ds
  | _, _ => M.no
def setT : DT → D → M Unit
  | .nm i, d => setD i d
  | .tp is, .tuple ds => setDs is ds
  | .tp _, _ => M.no
def Tch (ws : List Nat) (σ σ' : L2.St) : Prop := σ'.length = σ.length ∧ ∀ (j : Nat), j ∉ ws → σ'[j]? = σ[j]?
def gT (P : Ps) (t : DT) : TG := fun v σ H Q => ∃ c F τ ρ d, Rl P.K c F ρ (σ ++ τ) H ∧ Rp P.K F v d ∧ ∃ ρ', setT t d ρ = some (.ok (), ρ') ∧ ∀ σ' F' H', Same F F' → Rl P.K c F' ρ' (σ' ++ τ) H' → Tch t.slots σ σ' → Q σ' H'
theorem dg_name {i : Nat} {x : Str} {p : Pos} (hN : X.N.Nodup) (hi : X.N[i]? = some x) (hx : Loc X.env.scope x) (hf : X.fn x = true ∨ X.env.scope.names.lookup x = some .local) : PG X (.Name x p) (gT P (.nm i)) := by
  refine ⟨fun pins s σ H v u Q I r h => (pg_name hN hi hx hf).run pins s σ H v u Q I r ?_⟩
  obtain ⟨c, F, τ, ρ, d, R, rp, ρ', e, h⟩ := h
  have hl : i < σ.length := by rw [I.len]; exact (List.getElem?_eq_some_iff.mp hi).1
  obtain ⟨e1, hb⟩ := setD_some e
  cases e1
  refine h _ F H (Same.refl F) ?_ ⟨by rw [List.length_set], fun j hj => by rw [List.getElem?_set_ne (fun z => hj (by simp [DT.slots, z]))]⟩
  have := R.setD rp hb
  rw [List.set_append_left (h := hl)] at this
  exact this
def gTs (P : Ps) (is : List Nat) : TGs := fun vs σ H Q => ∃ c F τ ρ ds, Rl P.K c F ρ (σ ++ τ) H ∧ RpAll P.K F vs ds ∧ ∃ ρ', setDs is ds ρ = some (.ok (), ρ') ∧ ∀ σ' F' H', Same F F' → Rl P.K c F' ρ' (σ' ++ τ) H' → Tch is σ σ' → Q σ' H'
theorem _root_.L2.PGs.ofL {X : Cx} {es : List Expr} {t t' : TGs} (h : PGs X es t) (w : ∀ vs σ H Q, σ.length = X.N.length → t' vs σ H Q → t vs σ H Q) : PGs X es t' := ⟨fun pins s σ H vs us Q I r q => h.run pins s σ H vs us Q I r (w _ _ _ _ I.len q)⟩
theorem dgs_nil : PGs X [] (gTs P []) := pgs_nil.ofL fun vs σ H Q _ h => by
  obtain ⟨c, F, τ, ρ, ds, R, rp, ρ', e, h⟩ := h
  cases rp with
  | nil =>
    cases e
    exact ⟨rfl, h σ F H (Same.refl F) R ⟨rfl, fun _ _ => rfl⟩⟩
  | cons _ _ => cases e
theorem dgs_cons {i : Nat} {is : List Nat} {x : Str} {p : Pos} {es : List Expr} (hN : X.N.Nodup) (hi : X.N[i]? = some x) (hx : Loc X.env.scope x) (hf : X.fn x = true ∨ X.env.scope.names.lookup x = some .local) (hr : PGs X es (gTs P is))
    (hs : (assignEach (.Name x p :: es) X.env).map (·.2) = assign (.Name x p) X.env :: (assignEach es X.env).map (·.2)) : PGs X (.Name x p :: es) (gTs P (i :: is)) :=
  (pgs_cons (pg_name hN hi hx hf) hr hs).ofL fun vs σ H Q hlen h => by
    obtain ⟨c, F, τ, ρ, ds, R, rp, ρ', e, h⟩ := h
    have hl : i < σ.length := by rw [hlen]; exact (List.getElem?_eq_some_iff.mp hi).1
    cases rp with
    | nil => cases e
    | cons r1 r2 =>
      unfold setDs M.bind at e
      split at e
      · cases e
      · rename_i u ρ1 e1
        obtain ⟨e2, hb⟩ := setD_some e1
        cases e2
        have R1 := R.setD r1 hb
        rw [List.set_append_left (h := hl)] at R1
        refine ⟨_, _, rfl, c, F, τ, _, _, R1, r2, ρ', e, fun σ' F' H' s R' tc => h σ' F' H' s R' ⟨by rw [tc.1, List.length_set], fun j hj => ?_⟩⟩
        rw [tc.2 j (fun z => hj (List.mem_cons_of_mem _ z)), List.getElem?_set_ne (fun z => hj (by rw [z]; exact List.mem_cons_self))]
      · cases e
theorem dg_tup {es : List Expr} {k : Nat} {is : List Nat} (hK : P.K.K = X.K) (hc : X.calm = true) (h : PGs X es (gTs P is)) (hn : (assignEach es X.env).length = is.length) (hst : (assignEach es X.env).findIdx? (·.1) = none) : PG X (.Tuple es k pos) (gT P (.tp is)) := by
  refine ⟨fun pins s σ H v u Q I r q => (pg_tup hc h hn hst).run pins s σ H v u Q I r ?_⟩
  obtain ⟨c, F, τ, ρ, d, R, rp, ρ', e, q⟩ := q
  cases d with
  | tuple ds =>
    cases rp with
    | tup h1 h2 =>
      refine ⟨_, _, rfl, hK ▸ sqt_mono R.sub h1, ?_, c, F, τ, ρ, ds, R, h2, ρ', e, q⟩
      rw [h2.length]
      have z : ∀ (is : List Nat) (ds : List D) (ρ ρ' : List DV), setDs is ds ρ = some (.ok (), ρ') → ds.length = is.length := by
        intro is
        induction is with
        | nil => intro ds ρ ρ' e; cases ds with
          | nil => rfl
          | cons _ _ => cases e
        | cons i is ih =>
          intro ds ρ ρ' e
          cases ds with
          | nil => cases e
          | cons d ds =>
            unfold setDs M.bind at e
            split at e
            · cases e
            · rw [List.length_cons, List.length_cons, ih _ _ _ e]
            · cases e
      exact z is ds ρ ρ' e
  | _ => cases e

/-! ### for -/
def forM_ (b : D → M Fl) : List D → M Fl
  | [] => M.ok .nx
  | d :: ds => M.bind (b d) fun f => match f with
    | .nx => forM_ b ds
    | .cnt => forM_ b ds
    | .brk => M.ok .nx
    | .ret r => M.ok (.ret r)
def sFor (mi : M (List D)) (t : DT) (mb : M Fl) : M Fl := M.bind mi fun ds => forM_ (fun d => M.bind (setT t d) fun _ => mb) ds
theorem setT_ok {t : DT} {d : D} {ρ : List DV} {o : Except Ex Unit × List DV} (h : setT t d ρ = some o) : ∃ ρ', o = (.ok (), ρ') := by
  have z : ∀ (is : List Nat) (ds : List D) (ρ : List DV) (o : Except Ex Unit × List DV), setDs is ds ρ = some o → ∃ ρ', o = (.ok (), ρ') := by
    intro is
    induction is with
    | nil => intro ds ρ o e; cases ds with
      | nil => cases e; exact ⟨_, rfl⟩
      | cons _ _ => cases e
    | cons i is ih =>
      intro ds ρ o e
      cases ds with
      | nil => cases e
      | cons d ds =>
        unfold setDs M.bind at e
        split at e
        · cases e
        · exact ih _ _ _ e
        · rename_i x ρ' e1
          cases (setD_some e1).1
  cases t with
  | nm i => exact ⟨_, (setD_some h).1⟩
  | tp is =>
    cases d with
    | tuple ds => exact z is ds ρ o h
    | _ => cases h
theorem ds_forK {wi : TI} {mi : M (List D)} {t : DT} {mb : M Fl} (D : Ends) (σ : L2.St) (H : Hp) (q : tS P (sFor mi t mb) D σ H) : tFor (tI P mi) (gT P t) (tS P mb) D σ H := by
  obtain ⟨c, F, ρ, R, q⟩ := q
  refine ⟨c, F, [], ρ, nilτ R, (HoS.bind σ q).mono fun ds ρ1 F1 H1 s1 R1 q1 J wk => ?_⟩
  have R1' := nilτ' R1
  refine ⟨fun i m σ H => m = ds.length - i ∧ i ≤ ds.length ∧ ∃ F2 ρ2, Same F1 F2 ∧ Rl P.K c F2 ρ2 σ H ∧ HoS P c F2 (forM_ (fun d => M.bind (setT t d) fun _ => mb) (ds.drop i) ρ2) D,
    ⟨ds.length, by simp, Nat.zero_le _, F1, ρ1, Same.refl _, R1', by simpa using q1⟩, ?_⟩
  rintro i m σ2 H2 ⟨rfl, hi, F2, ρ2, s2, R2, q2⟩
  have sH : Same F1 H2 := s2.trans R2.sub
  by_cases hlt : i < ds.length
  · refine .inr ⟨wk.go i H2 sH hlt, fun σ' H' => ∃ F3 ρ3, Same F1 F3 ∧ Rl P.K c F3 ρ3 σ' H' ∧ HoS P c F3 (forM_ (fun d => M.bind (setT t d) fun _ => mb) (ds.drop (i + 1)) ρ3) D, fun σ' H' ⟨F3, ρ3, a1, a2, a3⟩ => ⟨ds.length - (i + 1), by omega, rfl, hlt, F3, ρ3, a1, a2, a3⟩, fun x H' y => ?_⟩
    obtain ⟨d, ed, y⟩ := wk.yld i H2 x H' sH hlt y
    have e : ds.drop i = d :: ds.drop (i + 1) := by
      rw [List.drop_eq_getElem_cons hlt]
      rw [List.getElem?_eq_getElem hlt] at ed
      cases ed
      rfl
    rw [e] at q2
    -- the item in a heap F3
    obtain ⟨F3, s3, R3, r3⟩ : ∃ F3, Same F2 F3 ∧ Rl P.K c F3 ρ2 σ2 H' ∧ Rp P.K F3 x d := by
      rcases y with ⟨rfl, r⟩ | ⟨T, xs, es, rfl, hT, rfl, rfl, r⟩
      · exact ⟨F2, Same.refl _, R2, r.mono s2⟩
      · have hF : F2 T = none := R2.sub.free hT
        exact ⟨_, Same.upd hF, R2.new hT, rp_newT (r.mono s2) hF⟩
    have q3 : HoS P c F3 (M.bind (M.bind (setT t d) fun _ => mb) (fun f => match f with
      | .nx => forM_ (fun d => M.bind (setT t d) fun _ => mb) (ds.drop (i + 1))
      | .cnt => forM_ (fun d => M.bind (setT t d) fun _ => mb) (ds.drop (i + 1))
      | .brk => M.ok .nx
      | .ret r => M.ok (.ret r)) ρ2) D := HoS.from q2 s3
    rw [M.assoc] at q3
    have q4 := HoS.bind σ2 q3
    match z : setT t d ρ2 with
    | none => rw [z] at q4; exact (show False from q4).elim
    | some o =>
      obtain ⟨ρ3, rfl⟩ := setT_ok z
      unfold M.bind at q3
      rw [z] at q3
      dsimp only at q3
      refine ⟨c, F3, [], ρ2, d, nilτ R3, r3, ρ3, z, fun σ4 F4 H4 s4 R4 _ => ⟨c, F4, ρ3, nilτ' R4, ?_⟩⟩
      have back : Same F1 F4 := (s2.trans s3).trans s4
      match y2 : mb ρ3 with
      | none => rw [y2] at q3; exact q3
      | some (.error x, ρ5) => rw [y2] at q3; exact fun σ => Er.mono (q3 σ) s4
      | some (.ok .nx, ρ5) => rw [y2] at q3; exact fun σ5 F5 H5 s5 R5 => ⟨F5, ρ5, back.trans s5, R5, HoS.from (HoS.from q3 s4) s5⟩
      | some (.ok .cnt, ρ5) => rw [y2] at q3; exact fun σ5 F5 H5 s5 R5 => ⟨F5, ρ5, back.trans s5, R5, HoS.from (HoS.from q3 s4) s5⟩
      | some (.ok .brk, ρ5) => rw [y2] at q3; exact fun σ5 F5 H5 s5 R5 => q3 σ5 F5 H5 (s4.trans s5) R5
      | some (.ok (.ret r), ρ5) => rw [y2] at q3; exact fun v σ5 F5 H5 s5 R5 rr => q3 v σ5 F5 H5 (s4.trans s5) R5 rr
  · have e : i = ds.length := by omega
    subst e
    rw [List.drop_length] at q2
    exact .inl ⟨wk.stop _ H2 sH (Nat.le_refl _), q2 σ2 F2 H2 (Same.refl _) R2⟩
theorem ds_for {iter : Expr} {body : List Stmt} {mi : M (List D)} {t : DT} {mb : M Fl} (hp : PassesOwn (model X.prog X.w) X.A X.env X.xe) (hc : X.calm = true) (hi : PI X tg iter (tI P mi)) (hg : PG X tg (gT P t)) (hb : PSs X body (tS P mb)) (hs : ∀ x, foldedSetIterable iter X.env x = pure x) :
    PS X (.For tg iter body [] pos) (tS P (sFor mi t mb)) := (ps_for hp hc hi hg hb hs).of (ds_forK (wi := tI P mi))
end
end DL

set_option Elab.async false
set_option linter.all false
set_option maxRecDepth 100000
set_option maxHeartbeats 4000000
/-! DL9: list comprehensions; lists that are changed. -/
namespace DL
open PySem PySem.Spec PyProof.Rows L2

/-! ### comprehensions -/
abbrev Ps.quiet (P : Ps) : Ps := { P with W := fun _ _ _ _ => False }
/-- the block's own slots forgotten -/
def wipeOk (vs : List Nat) (ρ : List DV) : Bool := vs.all fun i => match ρ[i]? with
  | some .un => true
  | some (.dat _) => true
  | _ => false
def wipeD (vs : List Nat) (ρ : List DV) : List DV := ρ.mapIdx fun i x => if vs.contains i then .un else x
def mWipe (vs : List Nat) : M Unit := fun ρ => if wipeOk vs ρ then some (.ok (), wipeD vs ρ) else none
def restD (vs : List Nat) (ρ0 ρ : List DV) : List DV := ρ.mapIdx fun i x => if vs.contains i then (ρ0[i]?).getD x else x
def accAdd (y : D) : M Unit := fun ρ => match ρ.getLast? with
  | some (.lst acc) => if acc.length < 16777216 then some (.ok (), ρ.dropLast ++ [.lst (acc ++ [y])]) else none
  | _ => none
def lcTurn (t : DT) (mt : M Bool) (me : M DR) (vs : List Nat) (d : D) : M Unit := M.bind (setT t d) fun _ => M.bind mt fun b => M.bind (if b = true then M.bind me fun r => M.bind (frz r) fun y => accAdd y else M.ok ()) fun _ => mWipe vs
def lcGo (t : DT) (mt : M Bool) (me : M DR) (vs : List Nat) : List D → M Unit
  | [] => M.ok ()
  | d :: ds => M.bind (lcTurn t mt me vs d) fun _ => lcGo t mt me vs ds
def lcRun (t : DT) (mt : M Bool) (me : M DR) (vs : List Nat) (ds : List D) : M Unit := fun ρ => match (M.bind (mWipe vs) fun _ => lcGo t mt me vs ds) ρ with
  | some (.ok _, ρ') => some (.ok (), restD vs ρ ρ')
  | _ => none
def nLc (mi : M (List D)) (t : DT) (mt : M Bool) (me : M DR) (vs : List Nat) : M Unit := M.bind mi fun ds => M.bind (push []) fun _ => lcRun t mt me vs ds
/-- the last temporary, frozen -/
def popD : M DR := fun ρ => match ρ.getLast? with
  | some (.lst ds) => some (.ok (.dat (.list ds)), ρ.dropLast)
  | _ => none
def eLc (mi : M (List D)) (t : DT) (mt : M Bool) (me : M DR) (vs : List Nat) : M DR := M.bind (nLc mi t mt me vs) fun _ => popD

theorem wipe_get (σ : L2.St) : ∀ (vs : List Nat) (i : Nat), (wipe σ vs)[i]? = if vs.contains i then (σ[i]?).map (fun _ => none) else σ[i]?
  | [], i => by simp [wipe]
  | v :: vs, i => by
    show ((wipe σ vs).set v none)[i]? = _
    by_cases h : v = i
    · subst h
      have : (List.contains (v :: vs) v) = true := by simp
      rw [this, if_pos rfl]
      by_cases hv : v < (wipe σ vs).length
      · rw [List.getElem?_set_self hv]
        rw [wipe_length] at hv
        rw [List.getElem?_eq_getElem hv]
        rfl
      · rw [List.getElem?_eq_none (by rw [List.length_set]; omega)]
        rw [wipe_length] at hv
        rw [List.getElem?_eq_none (by omega)]
        rfl
    · rw [List.getElem?_set_ne h, wipe_get σ vs i]
      have : (List.contains (v :: vs) i) = vs.contains i := by
        rw [List.contains_cons]
        have : (i == v) = false := by simpa using fun z => h z.symm
        rw [this, Bool.false_or]
      rw [this]
theorem wipeD_get (vs : List Nat) (ρ : List DV) (i : Nat) : (wipeD vs ρ)[i]? = (ρ[i]?).map fun x => if vs.contains i then .un else x := by
  unfold wipeD
  rw [List.getElem?_mapIdx]
theorem restD_get (vs : List Nat) (ρ0 ρ : List DV) (i : Nat) : (restD vs ρ0 ρ)[i]? = (ρ[i]?).map fun x => if vs.contains i then (ρ0[i]?).getD x else x := by
  unfold restD
  rw [List.getElem?_mapIdx]
theorem wipeOk_at {vs : List Nat} {ρ : List DV} (h : wipeOk vs ρ = true) {i : Nat} (hi : vs.contains i = true) : ρ[i]? = some .un ∨ ∃ d, ρ[i]? = some (.dat d) := by
  have := List.all_eq_true.mp h i (by simpa using hi)
  split at this
  · exact .inl (by assumption)
  · exact .inr ⟨_, by assumption⟩
  · cases this
section
variable {K : Frag} {c : Ct} {F F' H H' : Hp} {ρ ρ' : List DV} {σ σ2 : L2.St} {τ : List (Option V)}
theorem Rl.wiped {vs : List Nat} (R : Rl K c F ρ (σ ++ τ) H) (hv : ∀ i ∈ vs, i < σ.length) (h : wipeOk vs ρ = true) : Rl K c F (wipeD vs ρ) (wipe σ vs ++ τ) H := by
  have hl : ρ.length = σ.length + τ.length := by rw [R.len, List.length_append]
  have getL : ∀ i, (wipe σ vs ++ τ)[i]? = if vs.contains i then ((σ ++ τ)[i]?).map (fun _ => none) else (σ ++ τ)[i]? := fun i => by
    by_cases hi : i < σ.length
    · rw [List.getElem?_append_left (by rw [wipe_length]; exact hi), List.getElem?_append_left hi, wipe_get]
    · rw [List.getElem?_append_right (by rw [wipe_length]; omega), List.getElem?_append_right (by omega), wipe_length]
      have : vs.contains i = false := by
        cases q : vs.contains i with
        | false => rfl
        | true => exact absurd (hv i (by simpa using q)) hi
      rw [this]
      rfl
  refine R.patch (by unfold wipeD; rw [List.length_mapIdx, List.length_append, wipe_length]; omega) (fun i x v e1 e2 => ?_) fun p hp => ?_
  · rw [wipeD_get] at e1
    rw [getL] at e2
    cases q : vs.contains i with
    | true =>
      rw [q] at e1 e2
      rw [if_pos rfl] at e2
      cases z : ρ[i]? with
      | none => rw [z] at e1; cases e1
      | some y =>
        rw [z] at e1
        simp at e1
        subst e1
        exact .inr ⟨rfl, trivial⟩
    | false =>
      rw [q] at e1 e2
      simp at e1 e2
      exact .inl ⟨by simpa using e1, e2⟩
  · obtain ⟨⟨ds, e⟩, l⟩ := R.lent p hp
    have : vs.contains p.1 = false := by
      cases q : vs.contains p.1 with
      | false => rfl
      | true =>
        rcases wipeOk_at h q with g | ⟨d, g⟩
        · rw [g] at e; cases e
        · rw [g] at e; cases e
    rw [wipeD_get, getL, this, e]
    exact ⟨rfl, rfl⟩
theorem Rl.restored {vs : List Nat} {H0 : Hp} {ρ0 : List DV} {τ0 : List (Option V)} {F0 : Hp} (R : Rl K c F ρ (wipe σ vs ++ τ) H) (R0 : Rl K c F0 ρ0 (σ ++ τ0) H0) (s : Same F0 F) (hv : ∀ i ∈ vs, i < σ.length) (h : wipeOk vs ρ0 = true) : Rl K c F (restD vs ρ0 ρ) (σ ++ τ) H := by
  have getL : ∀ i, vs.contains i = false → (wipe σ vs ++ τ)[i]? = (σ ++ τ)[i]? := fun i hi => by
    by_cases hl : i < σ.length
    · rw [List.getElem?_append_left (by rw [wipe_length]; exact hl), List.getElem?_append_left hl, wipe_get, hi]
      rfl
    · rw [List.getElem?_append_right (by rw [wipe_length]; omega), List.getElem?_append_right (by omega), wipe_length]
  refine R.patch (by unfold restD; rw [List.length_mapIdx, R.len, List.length_append, List.length_append, wipe_length]) (fun i x v e1 e2 => ?_) fun p hp => ?_
  · rw [restD_get] at e1
    cases q : vs.contains i with
    | false =>
      rw [q] at e1
      simp at e1
      exact .inl ⟨e1, by rw [getL i q]; exact e2⟩
    | true =>
      rw [q] at e1
      cases z : ρ[i]? with
      | none => rw [z] at e1; cases e1
      | some y =>
        rw [z] at e1
        have hi : i < σ.length := hv i (by simpa using q)
        rw [List.getElem?_append_left hi] at e2
        have e3 : (σ ++ τ0)[i]? = some v := by rw [List.getElem?_append_left hi]; exact e2
        rcases wipeOk_at h q with g | ⟨d, g⟩
        · rw [g] at e1
          simp at e1
          subst e1
          exact .inr ⟨rfl, trivial⟩
        · rw [g] at e1
          simp at e1
          subst e1
          obtain ⟨w, hw, rw'⟩ := R0.slot i _ v g e3
          exact .inr ⟨rfl, w, hw, rw'.mono s⟩
  · obtain ⟨⟨ds, e⟩, l⟩ := R.lent p hp
    have : vs.contains p.1 = false := by
      cases q : vs.contains p.1 with
      | false => rfl
      | true =>
        have hi : p.1 < σ.length := hv p.1 (by simpa using q)
        rw [List.getElem?_append_left (by rw [wipe_length]; exact hi), wipe_get, q, if_pos rfl] at l
        cases z : σ[p.1]? with
        | none => rw [z] at l; cases l
        | some y => rw [z] at l; cases l
    rw [restD_get, getL _ this, this, e]
    exact ⟨rfl, rfl⟩
theorem tch_wipe {ws vs : List Nat} (h : Tch ws σ σ2) (hs : ∀ i ∈ ws, i ∈ vs) : wipe σ2 vs = wipe σ vs := by
  apply List.ext_getElem?
  intro i
  rw [wipe_get, wipe_get]
  cases q : vs.contains i with
  | false => rw [h.2 i (fun z => by rw [show vs.contains i = true by simpa using hs i z] at q; cases q)]
  | true =>
    rw [if_pos rfl, if_pos rfl]
    have : (σ2[i]?).isSome = (σ[i]?).isSome := by
      cases e1 : σ2[i]? with
      | none =>
        have := List.getElem?_eq_none_iff.mp e1
        rw [List.getElem?_eq_none (by rw [← h.1]; exact this)]
      | some a =>
        have := (List.getElem?_eq_some_iff.mp e1).1
        rw [List.getElem?_eq_getElem (by rw [← h.1]; exact this)]
        rfl
    cases e1 : σ2[i]? <;> cases e2 : σ[i]? <;> simp_all
end
section
variable {X : Cx} {P : Ps} {e : Expr} {pos : Pos} {c : Ct} {F H : Hp} {σ : L2.St} {τ : List (Option V)}
theorem ho_quiet {α : Type} {o : Option (Except Ex α × List DV)} {a : α} {ρ : List DV} (h : o = some (.ok a, ρ)) (Φ : α → List DV → Hp → Hp → Prop) (q : ∀ F' H', Same F F' → Rl P.K c F' ρ (σ ++ τ) H' → Φ a ρ F' H') : Ho P.quiet c F σ τ o Φ := by
  subst h; exact q
theorem mbind_ok {α β : Type} {m : M α} {k : α → M β} {ρ : List DV} {b : β} {ρ' : List DV} (h : M.bind m k ρ = some (.ok b, ρ')) : ∃ a ρ1, m ρ = some (.ok a, ρ1) ∧ k a ρ1 = some (.ok b, ρ') := by
  unfold M.bind at h
  split at h
  · cases h
  · exact ⟨_, _, by assumption, h⟩
  · cases h
theorem accAdd_rl {K : Frag} {c : Ct} {F H : Hp} {ρ ρ' : List DV} {L : List (Option V)} {D : Addr} {v : V} {y : PyData} (h : accAdd y ρ = some (.ok (), ρ')) (R : Rl K c F ρ (L ++ [some (.ref D)]) H) (rp : Rp K F v y) :
    ∃ xs, H D = some (.lst xs) ∧ xs.length < sizeLine ∧ Rl K c F ρ' (L ++ [some (.ref D)]) (upd H D (.lst (xs ++ [v]))) := by
  have hs : sizeLine = 16777216 := sizeLine_eq
  unfold accAdd at h
  split at h
  · rename_i acc hl
    split at h
    · rename_i hz
      cases h
      obtain ⟨ys, rfl⟩ := List.getLast?_eq_some_iff.mp hl
      have hlen : ys.length = L.length := by
        have := R.len
        simp only [List.length_append, List.length_singleton] at this
        omega
      have e : (ys ++ [DV.lst acc])[ys.length]? = some (.lst acc) := by rw [List.getElem?_append_right (Nat.le_refl _)]; simp
      have l : (L ++ [some (V.ref D)])[ys.length]? = some (some (.ref D)) := by rw [hlen, List.getElem?_append_right (Nat.le_refl _)]; simp
      obtain ⟨a, xs, e1, e2, e3, e4⟩ := R.slot _ _ _ e l
      cases e1
      refine ⟨xs, e3, by rw [e4.length]; omega, ?_⟩
      have := R.write e (es := acc) rfl l (e4.append (.one rp))
      rw [List.dropLast_concat]
      have z : (ys ++ [DV.lst acc]).set ys.length ((DV.lst acc).put (acc ++ [y])) = ys ++ [DV.lst (acc ++ [y])] := by
        rw [List.set_append_right (h := Nat.le_refl _)]
        simp [DV.put]
      rw [z] at this
      exact this
    · cases h
  · cases h
theorem tN_lc {mi : M (List D)} {t : DT} {mt : M Bool} {me : M DR} {vs : List Nat} (hvs : ∀ i ∈ t.slots, i ∈ vs) (hN : ∀ i ∈ vs, i < X.N.length) (σ : L2.St) (H : Hp) (Q : VK) (hσ : σ.length = X.N.length) (q : tN P (nLc mi t mt me vs) σ H Q) :
    tLc (tI P mi) (gT P.quiet t) (tT P.quiet mt) (tE P.quiet me) vs σ H Q := by
  obtain ⟨c, F, τ, ρ, R, q⟩ := q
  have hv : ∀ i ∈ vs, i < σ.length := fun i hi => by rw [hσ]; exact hN i hi
  refine ⟨c, F, τ, ρ, R, (HoN.bind q).mono fun ds ρ1 F1 H1 s1 R1 q1 J wk Dl hD => ?_⟩
  -- the new list lies as the last temporary
  have Rp0 : Rl P.K c F1 (ρ1 ++ [.lst []]) (σ ++ τ ++ [some (.ref Dl)]) (upd H1 Dl (.lst [])) := R1.push hD .nil
  have q2 : HoN P c F1 σ τ (lcRun t mt me vs ds (ρ1 ++ [.lst []])) fun _ _ H' v => Q v H' := q1
  unfold lcRun at q2
  match z : (M.bind (mWipe vs) fun _ => lcGo t mt me vs ds) (ρ1 ++ [.lst []]) with
  | none => rw [z] at q2; exact (show False from q2).elim
  | some (.error x, ρ2) => rw [z] at q2; exact (show False from q2).elim
  | some (.ok u, ρe) =>
    rw [z] at q2
    have q3 : ∀ F' H', Same F1 F' → Rl P.K c F' ρe (wipe σ vs ++ (τ ++ [some (.ref Dl)])) H' → wipeOk vs (ρ1 ++ [.lst []]) = true → Q (.ref Dl) H' := fun F' H' s R' hw => by
      refine q2 F' H' (.ref Dl) s ?_
      have Rp0' : Rl P.K c F1 (ρ1 ++ [.lst []]) (σ ++ (τ ++ [some (.ref Dl)])) (upd H1 Dl (.lst [])) := by rw [← List.append_assoc]; exact Rp0
      have := R'.restored Rp0' s hv hw
      rw [← List.append_assoc] at this
      exact this
    obtain ⟨u1, ρw, zw, zg⟩ := mbind_ok z
    unfold mWipe at zw
    split at zw
    · rename_i hw
      cases zw
      have Rw : Rl P.K c F1 (wipeD vs (ρ1 ++ [.lst []])) (wipe σ vs ++ (τ ++ [some (.ref Dl)])) (upd H1 Dl (.lst [])) := Rl.wiped (by rw [← List.append_assoc]; exact Rp0) hv hw
      refine ⟨fun i m H => m = ds.length - i ∧ i ≤ ds.length ∧ ∃ F2 ρ2, Same F1 F2 ∧ Rl P.K c F2 ρ2 (wipe σ vs ++ (τ ++ [some (.ref Dl)])) H ∧ lcGo t mt me vs (ds.drop i) ρ2 = some (.ok u, ρe),
        ⟨ds.length, by simp, Nat.zero_le _, F1, _, Same.refl _, Rw, by simpa using zg⟩, ?_⟩
      rintro i m H2 ⟨rfl, hi, F2, ρ2, s2, R2, g2⟩
      have sH : Same F1 H2 := s2.trans R2.sub
      by_cases hlt : i < ds.length
      · refine .inr ⟨wk.go i H2 sH hlt, fun H' => ∃ F3 ρ3, Same F1 F3 ∧ Rl P.K c F3 ρ3 (wipe σ vs ++ (τ ++ [some (.ref Dl)])) H' ∧ lcGo t mt me vs (ds.drop (i + 1)) ρ3 = some (.ok u, ρe),
          fun H' ⟨F3, ρ3, a1, a2, a3⟩ => ⟨ds.length - (i + 1), by omega, rfl, hlt, F3, ρ3, a1, a2, a3⟩, fun x H' y => ?_⟩
        obtain ⟨d, ed, y⟩ := wk.yld i H2 x H' sH hlt y
        have e : ds.drop i = d :: ds.drop (i + 1) := by
          rw [List.drop_eq_getElem_cons hlt]
          rw [List.getElem?_eq_getElem hlt] at ed
          cases ed
          rfl
        rw [e] at g2
        obtain ⟨F3, s3, R3, r3⟩ : ∃ F3, Same F2 F3 ∧ Rl P.K c F3 ρ2 (wipe σ vs ++ (τ ++ [some (.ref Dl)])) H' ∧ Rp P.K F3 x d := by
          rcases y with ⟨rfl, r⟩ | ⟨T, xs, es, rfl, hT, rfl, rfl, r⟩
          · exact ⟨F2, Same.refl _, R2, r.mono s2⟩
          · have hF : F2 T = none := R2.sub.free hT
            exact ⟨_, Same.upd hF, R2.new hT, rp_newT (r.mono s2) hF⟩
        obtain ⟨u2, ρ9, g3, g4⟩ := mbind_ok g2
        obtain ⟨u3, ρ3, g5, g6⟩ := mbind_ok g3
        refine ⟨c, F3, τ ++ [some (.ref Dl)], ρ2, d, R3, r3, ρ3, g5, fun σ4 F4 H4 s4 R4 tc => ⟨tch_wipe tc hvs |>.trans (by
          apply List.ext_getElem?
          intro j
          rw [wipe_get, wipe_get]
          cases vs.contains j with
          | false => rfl
          | true =>
            cases σ[j]? <;> rfl), ?_⟩⟩
        have hσ4 : σ4.length = σ.length := by rw [tc.1, wipe_length]
        have hw4 : wipe σ4 vs = wipe σ vs := tch_wipe tc hvs |>.trans (by
          apply List.ext_getElem?
          intro j
          rw [wipe_get, wipe_get]
          cases vs.contains j with
          | false => rfl
          | true =>
            cases σ[j]? <;> rfl)
        obtain ⟨b, ρ5, g7, g8⟩ := mbind_ok g6
        have b34 : Same F1 F4 := (s2.trans s3).trans s4
        -- behind the turn
        have fin : ∀ {F7 : Hp} {ρ7 : List DV} {H7 : Hp}, Same F4 F7 → Rl P.K c F7 ρ7 (σ4 ++ (τ ++ [some (.ref Dl)])) H7 → mWipe vs ρ7 = some (.ok u2, ρ9) → ∃ F3 ρ3, Same F1 F3 ∧ Rl P.K c F3 ρ3 (wipe σ vs ++ (τ ++ [some (.ref Dl)])) H7 ∧ lcGo t mt me vs (ds.drop (i + 1)) ρ3 = some (.ok u, ρe) := fun {F7 ρ7 H7} s7 R7 g9 => by
          unfold mWipe at g9
          split at g9
          · rename_i hw7
            cases g9
            refine ⟨F7, _, b34.trans s7, ?_, g4⟩
            have := R7.wiped (fun i hi => by rw [hσ4]; exact hv i hi) hw7
            rw [hw4] at this
            exact this
          · cases g9
        refine ⟨c, F4, τ ++ [some (.ref Dl)], ρ3, R4, ho_quiet (P := P) g7 _ fun F5 H5 s5 R5 => ?_⟩
        cases b with
        | false =>
          rw [if_neg Bool.false_ne_true]
          obtain ⟨u4, ρ6, g9, g10⟩ := mbind_ok g8
          rw [if_neg Bool.false_ne_true] at g9
          cases g9
          exact fin s5 R5 g10
        | true =>
          rw [if_pos rfl]
          obtain ⟨u4, ρ6, g9, g10⟩ := mbind_ok g8
          rw [if_pos rfl] at g9
          obtain ⟨r, ρ7, g11, g12⟩ := mbind_ok g9
          refine ⟨c, F5, τ ++ [some (.ref Dl)], ρ5, R5, ho_quiet (P := P) g11 _ fun F6 H6 s6 R6 v hvr => ?_⟩
          obtain ⟨y, ρ8, g13, g14⟩ := mbind_ok g12
          have hfz : Ho P c F6 σ4 (τ ++ [some (.ref Dl)]) (M.bind (frz r) (fun d => M.ok d) ρ7) fun d ρ8' F7 H7 => d = y ∧ ρ8' = ρ8 := by
            unfold M.bind
            rw [g13]
            exact fun _ _ _ _ => ⟨rfl, rfl⟩
          obtain ⟨d', F7, ρ8', s7, R7, r7, q7⟩ := Ho.frz hfz R6 hvr
          obtain ⟨rfl, rfl⟩ := Ho.now q7 R7
          obtain ⟨xs, h1, h2, h3⟩ := accAdd_rl (L := σ4 ++ τ) g14 (by rw [List.append_assoc]; exact R7) r7
          refine ⟨xs, h1, h2, fin ((s5.trans s6).trans s7) (by rw [← List.append_assoc]; exact h3) g10⟩
      · have e : i = ds.length := by omega
        subst e
        rw [List.drop_length] at g2
        cases g2
        exact .inl ⟨wk.stop _ H2 sH (Nat.le_refl _), q3 F2 H2 s2 R2 hw⟩
    · cases zw
theorem dn_lc {tg iter elt : Expr} {ifs : List Expr} {scope : Scope} {own : List (Str × Nat)} {mi : M (List D)} {t : DT} {mt : M Bool} {me : M DR} (hc : X.calm = true) (hN : X.N.Nodup) (hi : PI X tg iter (tI P mi)) (ok : BlkOk X.N X.env.scope scope own)
    (hg : ∀ (s : Shared) (H : Hp) (C : Addr) (cl : List (Str × Addr)) (fp : List Addr), PG (X.blk s H scope (compEnvC scope cl C X.env) fp) tg (gT P.quiet t)) (ht : ∀ (s : Shared) (H : Hp) (C : Addr) (cl : List (Str × Addr)) (fp : List Addr), PTs (X.blk s H scope (compEnvC scope cl C X.env) fp) ifs (tT P.quiet mt))
    (he : ∀ (s : Shared) (H : Hp) (C : Addr) (cl : List (Str × Addr)) (fp : List Addr), PE (X.blk s H scope (compEnvC scope cl C X.env) fp) elt (tE P.quiet me)) (hs : ∀ x, foldedSetIterable iter X.env x = pure x) (hv : ∀ i ∈ t.slots, i ∈ own.map (·.2)) :
    PE X (.ListComp elt [⟨tg, iter, ifs, 0⟩] scope pos) (tN P (nLc mi t mt me (own.map (·.2)))) :=
  (pe_lc hc hN hi ok hg ht he hs).ofL fun σ H Q hσ q => tN_lc (X := X) hv (fun i hi => by
    obtain ⟨p, hp, rfl⟩ := List.mem_map.mp hi
    exact (List.getElem?_eq_some_iff.mp (ok.ix p hp)).1) σ H Q hσ q
theorem popD_rl {K : Frag} {c : Ct} {F H : Hp} {ρ : List DV} {L : List (Option V)} {v : V} (R : Rl K c F ρ (L ++ [some v]) H) {o : Except Ex DR × List DV} (h : popD ρ = some o) : ∃ ds ρ1 F1, o = (.ok (.dat (.list ds)), ρ1) ∧ Same F F1 ∧ Rl K c F1 ρ1 L H ∧ Rp K F1 v (.list ds) := by
  unfold popD at h
  split at h
  · rename_i ds hl
    cases h
    obtain ⟨ys, rfl⟩ := List.getLast?_eq_some_iff.mp hl
    have hlen : ys.length = L.length := by
      have := R.len
      simp only [List.length_append, List.length_singleton] at this
      omega
    have e : (ys ++ [DV.lst ds])[ys.length]? = some (.lst ds) := by rw [List.getElem?_append_right (Nat.le_refl _)]; simp
    have l : (L ++ [some v])[ys.length]? = some (some v) := by rw [hlen, List.getElem?_append_right (Nat.le_refl _)]; simp
    obtain ⟨a, xs, e1, e2, e3, e4⟩ := R.slot _ _ _ e l
    cases e1
    obtain ⟨xs', h1, h2, h3, R'⟩ := R.freeze (xs := xs) e l
    rw [List.dropLast_concat]
    refine ⟨ds, _, _, rfl, Same.upd h2, ?_, .lst (.inl (.inl upd_same)) (h3.mono (Same.upd h2))⟩
    have z : (ys ++ [DV.lst ds]).set ys.length (DV.dat (.list ds)) = ys ++ [DV.dat (.list ds)] := by
      rw [List.set_append_right (h := Nat.le_refl _)]
      simp
    rw [z] at R'
    refine R'.patch hlen (fun i x w e5 e6 => .inl ⟨?_, ?_⟩) fun p hp => ?_
    · rw [List.getElem?_append_left (List.getElem?_eq_some_iff.mp e5).1]; exact e5
    · rw [List.getElem?_append_left (List.getElem?_eq_some_iff.mp e6).1]; exact e6
    · obtain ⟨⟨fs, g1⟩, g2⟩ := R'.lent p hp
      have hp1 : p.1 < ys.length := by
        rcases Nat.lt_or_ge p.1 ys.length with h | h
        · exact h
        · rw [List.getElem?_append_right h] at g1
          have := (List.getElem?_eq_some_iff.mp g1).1
          have : p.1 - ys.length = 0 := by simp at this; omega
          rw [this] at g1
          cases g1
      rw [List.getElem?_append_left hp1, List.getElem?_append_left (by omega)]
      exact ⟨rfl, rfl⟩
  · cases h
/-- a new list, frozen -/
theorem tE_of_tN {m : M Unit} {t : TE} (w : ∀ σ H Q, tN P m σ H Q → t σ H Q) (σ : L2.St) (H : Hp) (Q : VK) (q : tE P (M.bind m fun _ => popD) σ H Q) : t σ H Q := by
  obtain ⟨c, F, τ, ρ, R, q⟩ := q
  refine w σ H Q ⟨c, F, τ, ρ, R, ?_⟩
  unfold M.bind at q
  match z : m ρ with
  | none => rw [z] at q; exact (show False from q).elim
  | some (.error x, ρ1) => rw [z] at q; exact q
  | some (.ok u, ρ1) =>
    rw [z] at q
    intro F' H' v s R1
    dsimp only at q
    cases y : popD ρ1 with
    | none => rw [y] at q; exact (show False from q).elim
    | some o =>
      obtain ⟨ds, ρ2, F1, e, s1, R2, r⟩ := popD_rl R1 y
      subst e
      rw [y] at q
      exact q F1 H' (s.trans s1) R2 v r
theorem dts_nil : PTs X [] (tT P (M.ok true)) := ⟨fun pins s σ H Q I q => pts_nil.run pins s σ H Q I (by
  obtain ⟨c, F, τ, ρ, R, q⟩ := q
  exact Ho.now q R)⟩
theorem dts_one {cx : Expr} {m : M Bool} (h : PT X cx (tT P m)) : PTs X [cx] (tT P m) := pts_one h

/-! ### x[i] = e, x.append(e) on own lists -/
def wrAt (p : Nat) (f : List D → Option (List D)) : M Unit := fun ρ => match ρ[p]? with
  | none => none
  | some x => match x.own with
    | none => none
    | some ds => match f ds with
      | none => none
      | some es => some (.ok (), ρ.set p (x.put es))
theorem wrAt_some {p : Nat} {f : List D → Option (List D)} {ρ : List DV} {o : Except Ex Unit × List DV} (h : wrAt p f ρ = some o) : ∃ x ds es, ρ[p]? = some x ∧ x.own = some ds ∧ f ds = some es ∧ o = (.ok (), ρ.set p (x.put es)) := by
  unfold wrAt at h
  split at h
  · cases h
  · split at h
    · cases h
    · split at h
      · cases h
      · cases h
        exact ⟨_, _, _, by assumption, by assumption, by assumption, rfl⟩
/-- o[i] = e: e first, then o, i -/
def storeK (d : D) : DR → D → M Fl
  | .loc p, .int k => M.bind (wrAt p fun ds => (ixN ds.length k).map fun j => ds.set j d) fun _ => M.ok .nx
  | _, _ => M.no
def sStore (me mo mi : M DR) : M Fl := M.bind me fun r => M.bind (frz r) fun d => M.bind mo fun ro => M.bind mi fun ri => M.bind (rd ri) fun k => storeK d ro k
theorem ds_store {o i : Expr} {tpos : Pos} {me mo mi : M DR} (he : PE X e (tE P me)) (ho : PE X o (tE P mo)) (hi : PE X i (tE P mi)) (hs : swapsWithSole [.Subscript o i tpos] e pos.line X.env = pure false) (hw : swappedStores [.Subscript o i tpos] e X.env = pure none)
    (h1 : (assignEach [.Subscript o i tpos] X.env).map (·.2) = [assign (.Subscript o i tpos) X.env]) (ha : ∀ v, assign (.Subscript o i tpos) X.env v = (do
      let ov ← holding [v] (eval o X.env)
      let iv ← holding [v, ov] (eval i X.env)
      standAt tpos
      holding [v, ov, iv] (setItem ov iv v)
      release [v, ov, iv] [])) : PS X (.Assign [.Subscript o i tpos] e pos) (tS P (sStore me mo mi)) := (ps_asg he (pg_sub ho hi set_list ha) hs hw h1).of fun D σ H q => by
  obtain ⟨c, F, ρ, R, q⟩ := q
  refine ⟨c, F, [], ρ, nilτ R, (HoS.bind σ q).mono fun r ρ1 F1 H1 s1 R1 q1 v hv => ?_⟩
  obtain ⟨d, F2, ρ2, s2, R2, r2, q2, _⟩ := HoS.frz q1 (nilτ' R1) (by rw [List.append_nil] at hv; exact hv)
  refine ⟨c, F2, [], ρ2, nilτ R2, (HoS.bind σ q2).mono fun ro ρ3 F3 H3 s3 R3 q3 vo hvo => ?_⟩
  refine ⟨c, F3, [], ρ3, R3, (HoS.bind σ q3).mono fun ri ρ4 F4 H4 s4 R4 q4 vi hvi => ?_⟩
  have q5 := HoS.bind σ q4
  cases ri with
  | loc p' =>
    have q6 : Ho P c F4 σ [] (M.bind (rd (.loc p')) (fun k => M.ok k) ρ4) fun k ρ5 F5 _ => HoS P c F5 (storeK d ro k ρ5) D := by
      have e : M.bind (rd (.loc p')) (fun k => M.ok k) ρ4 = rd (.loc p') ρ4 := by
        unfold M.bind
        cases rd (.loc p') ρ4 with
        | none => rfl
        | some o => obtain ⟨o, r⟩ := o; cases o <;> rfl
      rw [e]; exact q5
    obtain ⟨k, e1, q7, n⟩ := Ho.rd q6 R4 hvi
    rcases n with n | ⟨a, xs, ds, _, rfl, _⟩
    · unfold rd at e1
      dsimp only at e1
      split at e1
      · cases e1
        have q8 := Ho.now q7 R4
        cases ro <;> exact (show False from q8).elim
      · cases e1
    · have q8 := Ho.now q7 R4
      cases ro <;> exact (show False from q8).elim
  | exc c d => exact (show False from q5).elim
  | dat di =>
    have q8 := q5 F4 H4 (Same.refl _) R4
    cases ro with
    | dat d' => cases di <;> exact (show False from q8).elim
    | exc c d => cases di <;> exact (show False from q8).elim
    | loc p =>
      cases di with
      | int k =>
        cases hvi
        unfold storeK M.bind at q8
        dsimp only at q8
        cases z : wrAt p (fun ds => (ixN ds.length k).map fun j => ds.set j d) ρ4 with
        | none => rw [z] at q8; exact (show False from q8).elim
        | some o =>
          obtain ⟨x, ds, es, ex, ox, fx, rfl⟩ := wrAt_some z
          rw [z] at q8
          cases y : ixN ds.length k with
          | none => rw [y] at fx; cases fx
          | some j =>
            rw [y] at fx
            cases fx
            obtain ⟨a, xs, e1, e2, e3, e4⟩ := (R4.slot p x _ ex hvo).own ox
            cases e1
            refine ⟨a, xs, k, j, rfl, rfl, e3, by rw [e4.length]; exact y, ?_⟩
            exact q8 σ F4 _ (Same.refl _) (nilτ' (R4.write ex ox hvo (e4.set j ((r2.mono s3).mono s4))))
      | _ => exact (show False from q8).elim
/-- o.append(e), as an expression -/
def eApp (mo me : M DR) : M DR := M.bind mo fun ro => match ro with
  | .loc p => M.bind me fun r => M.bind (frz r) fun d => M.bind (wrAt p fun ds => if ds.length < 16777216 then some (ds ++ [d]) else none) fun _ => M.ok (.dat .none)
  | _ => M.no
end
end DL

set_option Elab.async false
set_option linter.all false
set_option maxRecDepth 100000
set_option maxHeartbeats 4000000
/-! DX1: LeaseError's own __init__ (super().__init__("leasesall"); self.value = value), run on a fresh exception of it or of a class under it. -/
namespace PySem
namespace LeX
open PySem.W PySem.Calls PyProof.Rows PySem.HandSPX
def iA (p1 p2 : Pos) : Arguments := { posonlyargs := [], args := [{ arg := "self", annotation := none, pos := p1 }, { arg := "value", annotation := none, pos := p2 }], vararg := none, kwonlyargs := [], kw_defaults := [], kwarg := none, defaults := [] }
theorem su_ev (q1 q2 q3 q4 q5 : Pos) (env : Env) (hl : (q3.endLine == q5.line) = true) : eval (.Call (.Attribute (.Call (.Name "super" q1) [] [] q2) "__init__" q3) [.Constant (.str "leasesall") 0 q4] [] q5) env = (do
      let ov ← attributeBase (.Call (.Name "super" q1) [] [] q2) "__init__" env (eval (.Call (.Name "super" q1) [] [] q2) env)
      standAt q3.atName
      let (f, first) ← holding [ov] (getMethod ov "__init__" (do return (← importBound (.Call (.Name "super" q1) [] [] q2) env).getD true))
      callWith q5 f first (backTo q5 (starEach [.Constant (.str "leasesall") 0 q4] env)) []) := by
  have hpos : methodCallPos true (.Call (.Name "super" q1) [] [] q2) env q3 q5 = pure q5 := by unfold methodCallPos; simp [hl]
  have hform : methodCallForm (([.Constant (.str "leasesall") 0 q4] : List Expr).length + ([] : List Keyword).length) (backTo q5 (starEach [.Constant (.str "leasesall") 0 q4] env)) (backToKw q5 (keywordEach [] env)) = true := rfl
  rw [arm_eval_Call]
  unfold methodCall
  rw [hform, hpos]
  rfl
structure IP where
  (a b q1 q2 q3 q4 q5 q6 q7 q8 q9 q10 : Pos)
  l : (q3.endLine == q5.line) = true
def iB (p : IP) : List Stmt := [.Expr (.Call (.Attribute (.Call (.Name "super" p.q1) [] [] p.q2) "__init__" p.q3) [.Constant (.str "leasesall") 0 p.q4] [] p.q5) p.q6, .Assign [.Attribute (.Name "self" p.q7) "value" p.q8] (.Name "value" p.q9) p.q10]
def iS : Scope := { kind := .function, names := [(PySem.Str.ofString "self", .local), (PySem.Str.ofString "value", .local), (PySem.Str.ofString "__class__", .free), (PySem.Str.ofString "super", .globalImplicit)], isGenerator := false, isCoroutine := false, more := [] }
/-- what the written part says of LeaseError, at D, and its __init__, at fI -/
structure LeTxt (K : Frag) (mg : Str → Option Value) (prog : Program) (D fI : Addr) : Prop where
  fn : ∃ (cc cda : Addr) (oc : Value) (od : Option Addr) (doc pm : Value) (an : Option Addr) (ct : Value) (osl : Array (Option Value)) (p : IP),
    K.lookup fI = some ⟨oc, od, .func (ksFn "__init__" "LeaseError.__init__" (iA p.a p.b) (iB p) iS .none .none doc pm an (.ref cda) ct cc), osl⟩ ∧ codeIn K (.ref cda) "LeaseError.__init__" = true ∧
    (∃ (ccl : Value) (cdd : Option Addr) (vs : Array Value) (ccs : Array (Option Value)) (file : Str) (tf : Tok), K.lookup cda = some ⟨ccl, cdd, .fields vs, ccs⟩ ∧ vs[2]? = some (.str file tf) ∧ ((prog.main.file : Str) == file) = true) ∧
    ∃ (cl : Value) (cld : Option Addr) (csl : Array (Option Value)), K.lookup cc = some ⟨cl, cld, .cell (some (.ref D)), csl⟩
  isD : (clsIn K D).isSome = true
  sup : mg "super" = none
  any : nsIn K cStatics "thirdparty.any" = some none
  top : (prog.main.scope.names.lookup ("super" : Str)).isSome = false
/-- .. of a class at C, LeaseError's or under it -/
structure LcTxt (K : Frag) (D fI C : Addr) : Prop where
  cls : ∃ nm q N bs bm sn sub ab col dd k0 k1 k2 k3 k5, K.lookup C = some (excClassObj nm q C N bs bm true sn sub ab col dd k0 k1 k2 k3 k5 "ValueError.__new__") ∧ refsVE bm = true
  sa : findIn K (.ref C) "__setattr__" = some (some (.builtin "object.__setattr__"))
  ga : findIn K (.ref C) "__getattribute__" = some (some (.builtin "BaseException.__getattribute__"))
  gg : findIn K (.ref C) "__getattr__" = some none
  noN : findIn K (.ref C) "value" = some none
  iC : findIn K (.ref C) "__init__" = some (some (.ref fI))
  tC : typeIn K (.ref fI) = some (.type "function")
  kC : keepIn K (.ref C) = true
  exC : subIn K (.ref C) (.type "BaseException") = some true
  tyC : typeIn K (.ref C) = some (.type "type")
  hdC : hasDictIn K C = true
  suD : mroIn K C (.ref D) = some true
  suI : ks_superIn K C D "__init__" = some (some (.builtin "ValueError.__init__"))
  suV : subIn K (.ref C) (.type "ValueError") = some true
theorem one_size (v : Value) : [v].length ≤ sizeLine := by
  rw [sizeLine_eq]
  exact (by decide : 1 ≤ 16777216)
/-- what __init__ leaves of a fresh exception at x -/
structure InitEnd (h h' : Heap) (x C dx t1 : Addr) (v : Value) : Prop where
  keep : ∀ b o, b ≠ x → h.get? b = some o → h'.get? b = some o
  obj : h'.get? x = some { cls := .ref C, dict := some dx, data := .fields #[.ref t1, .none, .none, .none, .bool false, .none] }
  dbig : h.objs.size ≤ dx
  dne : dx ≠ x
  ns : h'.Ns1 dx (fun y => if y = "value" then some v else none)
section
variable {prog : Program} {w : World} {A : Around} {E : Value → Shared → Prop} {R : Result → Shared → Prop} {s : Shared} {K : Frag} {mg : Str → Option Value} {D fI C : Addr}
theorem le_init (T : LeTxt K mg prog D fI) (U : LcTxt K D fI C) {x t0 : Addr} {v : Value} (X : K.In s.heap) (hlim : s.heap.NoLimit) (G : s.heap.Ns mainGlobals mg) (hb : ∃ mb, s.heap.Ns builtinsNs mb ∧ mb "super" = bootBuiltins "super")
    (hx : s.heap.get? x = some (excO C t0)) (hnx : K.lookup x = none) (hroom : A.depth < recursionLimit)
    (hq : ∀ h' tk dx t1, InitEnd s.heap h' x C dx t1 v → R (.ok (.ret .none)) { s with heap := h', toks := tk }) :
    codeAny (model prog w) A (.call (.ref fI) ⟨[.ref x, v], []⟩) R s := by
  obtain ⟨cc, cda, oc, od, doc, pm, an, ct, osl, p, ho, hcd, ⟨ccl, cdd, vs, ccs, file, tf, hcode, hvs, hfile⟩, cl, cld, csl, hcell⟩ := T.fn
  obtain ⟨nm, q, N, bs, bm, sn, sub, ab, col, dd, k0, k1, k2, k3, k5, hC, hbm⟩ := U.cls
  obtain ⟨cdD, hD⟩ := Option.isSome_iff_exists.mp T.isD
  have hcl : clsIn K C = some { name := nm, bases := bs, mro := .ref C :: bm, ns := N, qualname := q, hasDict := true, slotNames := sn, subclasses := sub, abstract := ab, collection := col, hasDel := false } := by unfold clsIn; rw [hC] <;> rfl
  have hD' : ∃ oD, K.lookup D = some oD ∧ oD.data = .cls cdD := by
    unfold clsIn at hD
    split at hD
    · rename_i c d cd' sl ho
      cases hD
      exact ⟨_, ho, rfl⟩
    · cases hD
  obtain ⟨oD, hD1, hD2⟩ := hD'
  obtain ⟨mb, hbn, hbs⟩ := hb
  have hxC : x ≠ C := fun z => by rw [z, hC] at hnx; cases hnx
  obtain ⟨hp, g, d, t, os⟩ := s
  refine ks_codeAny_call_defAt (fd := ksFn "__init__" "LeaseError.__init__" (iA p.a p.b) (iB p) iS .none .none doc pm an (.ref cda) ct cc) (body := iB p) (binds := [("self", .ref x), ("value", v)]) hroom (X _ _ ho) rfl hlim (codeRec_of X hcd) rfl
    (BindsTo.of_eq (by first | rfl | with_unfolding_all rfl)) (by show ∀ x ∈ iS.names, x.2 ≠ .cell; decide) (fun y hy => by
      show iS.names.lookup y.1 = some .local
      rcases List.mem_cons.mp hy with rfl | hy
      · exact (by decide : iS.names.lookup (PySem.Str.ofString "self") = some .local)
      · cases List.mem_singleton.mp hy; exact (by decide : iS.names.lookup (PySem.Str.ofString "value") = some .local)) (fun h₁ hns hk => ?_)
  show _root_.PySem.wpAt (model prog w) (A.deeper (ksEnv "LeaseError.__init__" iS hp.objs.size fI (.ref cda) cc)) (.func (iB p) (ksEnv "LeaseError.__init__" iS hp.objs.size fI (.ref cda) cc)) (execs (iB p) (ksEnv "LeaseError.__init__" iS hp.objs.size fI (.ref cda) cc)) _ _ _
  have X₁ : K.In h₁ := X.keeps hk
  refine ks_wpAt_execs_cons (ks_wpAt_Expr_any (ks_wpAt_MethodCall ?_ (su_ev _ _ _ _ _ _ p.l)))
  refine ks_wpAt_super_base (f := fI) (cc := cda) (ar := { arg := "self", annotation := none, pos := p.a }) rfl rfl rfl rfl (X₁ _ _ ho) rfl rfl rfl (X₁ _ _ hcode) rfl hvs hfile T.top ?_
  refine ks_loadName_global rfl rfl (loadGlobal_builtin (G.keeps hk) T.sup (hbn.keeps hk) (hbs.trans (by decide +kernel)) ⟨rfl, ?_⟩)
  refine wpAny_loadName_free rfl rfl rfl ⟨_, X₁ _ _ hcell, rfl⟩ ?_
  refine wpAny_loadName_local rfl rfl hns (v := .ref x) (by first | rfl | with_unfolding_all rfl | kernel_rfl) ?_
  refine ks_wpAny_isType_cls (X₁ _ _ hD1) hD2 ⟨rfl, ?_⟩
  refine ks_wpAny_call_super (X₁ _ _ hD1) hD2 (hk _ _ hx) rfl (fun c e => by cases e) (looks_mroIn X₁ U.suD) (fun h₂ e₂ kk₂ => ?_)
  have X₂ : K.In h₂ := X₁.keeps kk₂
  have hx₂ := kk₂ _ _ (hk _ _ hx)
  have I₂ : InstAt h₂ x (excO C t0) C none := ⟨hx₂, rfl, rfl, trivial⟩
  have hI : Looks (model prog w) h₂ (isInstance (.ref x) (.type "ValueError")) true := I₂.type.andThen (looks_subIn X₂ U.suV)
  refine kxs_getMethod kxs_ValueError e₂ (looks_opaque X₂ T.any) (l₀ := .ref C :: bm) (fun A Q E s k q => wpAny_bind ((looks_clsIn X₂ hcl) A _ E s k (wpAny_pure q))) rfl X₂ (by have z := U.suI; unfold ks_superIn at z; rw [hcl] at z; exact z) hI hxC rfl ?_
  show wpAny _ _ (callWith _ (Value.ref h₂.objs.size) [] (backTo _ (starEach [Expr.Constant (.str "leasesall") 0 p.q4] _)) []) _ _ _
  have hu : (h₂.push (kxs_mw "ValueError.__init__" x)).get? h₂.objs.size = some (kxs_mw "ValueError.__init__" x) := Heap.get?_push_at rfl rfl
  refine kxs_callWith (i := "ValueError.__init__") (x := x) (by rfl) ?_
  have hx₃ : (h₂.push (kxs_mw "ValueError.__init__" x)).get? x = some (excO C t0) := Heap.get?_push_of_some _ hx₂
  have X₃ : K.In (h₂.push (kxs_mw "ValueError.__init__" x)) := X₂.keeps fun b o e => Heap.get?_push_of_some _ e
  refine evalArgs_plain ?_
  show wpAny _ _ (spliced ((false, eval (Expr.Constant (.str "leasesall") 0 p.q4) _) :: [])) _ _ _
  refine Calls.spliced_cons (wpAny_Constant_str (Calls.spliced_nil ⟨hu, ?_⟩))
  show wpAny _ _ (call (.ref h₂.objs.size) [Value.str "leasesall" _]) _ _ _
  refine wpAny_call (codeAny_of_tree ?_)
  show wpAny _ _ (callAny (.ref h₂.objs.size) ⟨[Value.str "leasesall" _], []⟩) _ _ _
  simp only [callAny]
  refine wpAny_bind (wpAny_load hu ?_)
  simp only [kxs_mw, show (Value.type "method-wrapper" == Value.type "method" || Value.type "method-wrapper" == Value.type "builtin_function_or_method" || Value.type "method-wrapper" == Value.type "method-wrapper") = true by decide, if_true]
  refine W.KFB.if_so (by decide) ?_
  refine wpAny_bind (check_bound_init F.excBase_ValueError.toExcCallFacts (X₃ _ _ hC) hx₃ rfl ?_)
  refine wpAny_bind (wpAny_pure (wpAny_pure ?_))
  refine ⟨plainId_quiet F.excBase_ValueError.init.plain _, codeAny_builtin F.excBase_ValueError.initEntry ?_⟩
  refine exc_init_tree (cls := .ref C) (t0 := t0) (dv := none) (c2 := .none) (c3 := .none) (b4 := .bool false) hx₃ (one_size _) fun h₄ k₄ e₄ t₄ => ?_
  have X₄ : K.In h₄ := fun a o e => k₄ a o (fun z => by rw [z, hnx] at e; cases e) (X₃ a o e)
  have hxL : hp.objs.size ≠ x := Nat.ne_of_gt (Heap.lt_size hx)
  have k₁₃ : ∀ b o, h₁.get? b = some o → (h₂.push (kxs_mw "ValueError.__init__" x)).get? b = some o := fun b o e => Heap.get?_push_of_some _ (kk₂ b o e)
  have hn₄ : h₄.Ns hp.objs.size (fun y => List.lookup y ([(PySem.Str.ofString "self", Value.ref x), (PySem.Str.ofString "value", v)] : List (Str × Value)).reverse) := hns.at fun o e => k₄ _ _ hxL (k₁₃ _ _ e)
  show _root_.PySem.wpAt _ _ _ _ _ _ _
  refine _root_.PySem.wpAt_of_wpAny ?_
  refine wpAny_execs_cons (plainObj_wpAny_Assign_Attribute ?_)
  refine wpAny_Name (wpAny_loadName_local rfl rfl hn₄ (v := v) (by first | rfl | with_unfolding_all rfl | kernel_rfl) ?_) (by decide)
  refine wpAny_Name (wpAny_loadName_local rfl rfl hn₄ (v := .ref x) (by first | rfl | with_unfolding_all rfl | kernel_rfl) ?_) (by decide)
  refine set_plain X₄ (ox := excO C (h₂.push (kxs_mw "ValueError.__init__" x)).objs.size) (od := none) ⟨e₄, rfl, rfl, trivial⟩ U.sa ?_
  refine exc_osa X₄ e₄ hcl (show refsVE (.ref C :: bm) = true from hbm) rfl U.noN (fun h₅ tk₅ dx k₅ dn dne hx₅ hn₅ => ?_)
  show wpAny _ _ (execs _ _) _ _ _
  have z1 : hp.objs.size < h₄.objs.size := hn₄.lt
  refine wpAny_execs_nil (hq h₅ tk₅ dx _ ⟨fun b o hb e => k₅ b o hb (k₄ b o hb (k₁₃ b o (hk b o e))), hx₅, Nat.le_of_lt (Nat.lt_of_lt_of_le z1 dn), dne, hn₅⟩)
/-- a made error -/
structure OwnMade (h h' : Heap) (e C d : Addr) (v : Value) : Prop where
  keep : ∀ b o, h.get? b = some o → h'.get? b = some o
  new : h.objs.size ≤ e
  obj : ∃ oe vs, h'.get? e = some oe ∧ oe.cls = .ref C ∧ oe.dict = some d ∧ oe.data = .fields vs ∧ vs[1]? = some .none
  dbig : h.objs.size ≤ d
  dne : d ≠ e
  ns : h'.Ns1 d (fun y => if y = "value" then some v else none)
theorem le_made (T : LeTxt K mg prog D fI) (U : LcTxt K D fI C) {v : Value} (X : K.In s.heap) (hlim : s.heap.NoLimit) (G : s.heap.Ns mainGlobals mg) (hb : ∃ mb, s.heap.Ns builtinsNs mb ∧ mb "super" = bootBuiltins "super") (hroom : A.depth + 1 < recursionLimit)
    (hq : ∀ h' tk e d, OwnMade s.heap h' e C d v → R (.ok (.ret (.ref e))) { s with heap := h', toks := tk }) :
    codeAny (model prog w) A (.call (.ref C) ⟨[v], []⟩) R s := by
  obtain ⟨nm, q, N, bs, bm, sn, sub, ab, col, dd, k0, k1, k2, k3, k5, hC, hbm⟩ := U.cls
  obtain ⟨hp, g, dr, tk, os⟩ := s
  have k : ∀ b o, hp.get? b = some o → ((hp.push (kdv_tup [v])).push (excO C hp.objs.size)).get? b = some o := fun b o e => Heap.get?_push_of_some _ (Heap.get?_push_of_some _ e)
  have hget : ((hp.push (kdv_tup [v])).push (excO C hp.objs.size)).get? (hp.objs.size + 1) = some (excO C hp.objs.size) := by heap_get
  have hnx : K.lookup (hp.objs.size + 1) = none := by
    cases e : K.lookup (hp.objs.size + 1) with
    | none => rfl
    | some o =>
      have z : hp.get? (hp.objs.size + 1) = some o := X _ _ e
      exact absurd (Nat.lt_of_succ_lt (Heap.lt_size z)) (Nat.lt_irrefl _)
  obtain ⟨mb, hb1, hb2⟩ := hb
  refine call_own F.excBase_ValueError (fun X => refsVE_contains X bm hbm) (X _ _ hC) (looks_findIn X U.iC) (fun self => bind_fn X self U.tC) (one_size v) ?_
  refine le_init (s := ⟨(hp.push (kdv_tup [v])).push (excO C hp.objs.size), g, dr, tk, os⟩) T U (X.keeps k) (hlim.keeps k) (G.keeps k) ⟨mb, hb1.keeps k, hb2⟩ hget hnx ?_ fun h' tk' dx t1 ⟨k', hx, dn, dne, hns⟩ => ?_
  · show A.depth + 1 < recursionLimit
    exact hroom
  · have old : ∀ b o, hp.get? b = some o → h'.get? b = some o := fun b o e => k' b o (Nat.ne_of_lt (Nat.lt_succ_of_lt (Heap.lt_size e))) (k b o e)
    have z : hp.objs.size + 1 + 1 ≤ dx := by
      first
        | (simpa only [Heap.size_push] using dn)
        | exact dn
        | (have q := dn; rw [Heap.size_push, Heap.size_push] at q; exact q)
    exact ⟨rfl, hq h' tk' (hp.objs.size + 1) dx ⟨old, Nat.le_succ _, ⟨_, _, hx, rfl, rfl, rfl, rfl⟩, Nat.le_trans (Nat.le_trans (Nat.le_succ _) (Nat.le_succ _)) z, dne, hns⟩⟩
end
end LeX
end PySem
namespace DL
open PySem PySem.Spec PyProof.Rows L2
theorem relO_val {v : V} {v' : Value} (r : RelV v v') (f : Str) : RelO (List.lookup f [(("value" : Str), v)]) (if f = "value" then some v' else none) := by
  by_cases hw : f = "value"
  · subst hw
    rw [if_pos rfl]
    have q : List.lookup ("value" : Str) [(("value" : Str), v)] = some v := by simp [List.lookup]
    rw [q]
    exact r
  · rw [if_neg hw]
    have qw : (f == ("value" : Str)) = false := by simpa using hw
    have q2 : List.lookup f [(("value" : Str), v)] = none := by simp [List.lookup, qw]
    rw [q2]
    trivial
section
variable {X : Cx} {C D fI : Addr} {P : Ps}
/-- C(e) -/
def tMkLe (C : Addr) (te : TE) : L2.St → Hp → XK → Prop := fun σ H Q => te σ H fun v H1 => ∀ d, H1 d = none → Q (.ref C) (some d) (upd H1 d (.xd [(("value" : Str), v)]))
theorem pmk_le {x : Str} {a : Expr} {te : TE} {p pos : Pos} {k : Nat} (T : PySem.LeX.LeTxt X.K X.mg X.prog D fI) (U : PySem.LeX.LcTxt X.K D fI C) (gC : X.mg x = some (.ref C)) (hr : Room (k + 1) X.A) (ha : PE X a te) (hg : Gl X x) (hdb : (x == ("__debug__" : Str)) = false)
    (he : starEach (a :: []) X.env = (false, eval a X.env) :: starEach [] X.env) (hpl : (backTo pos (starEach [] X.env)).any (·.1) = false) :
    PMk X (.Call (.Name x p) [a] [] pos) (tMkLe C te) := by
  intro pins s σ H Q I h
  refine wpAny_Call_Name_kw (ld_glob I hg gC ?_ hdb)
  refine PySem.W.callWith_K (h₀ := X.base) I.ok.mod.kin U.kC ?_ he hpl
  rw [he]
  show wpAny _ _ (spliced ((false, eval a X.env) :: backTo pos (starEach [] X.env))) _ _ s
  refine Calls.spliced_cons (thn (ha.run pins s σ H _ I h) fun v' s1 ⟨v, H1, I1, rv, q1⟩ => ?_)
  refine Calls.spliced_nil ⟨I1.kIn, ?_⟩
  show wpAny _ _ (call (.ref C) [v']) _ _ _
  have hlim := I1.nolimit
  have G := I1.mod.glob.keeps I1.bk
  obtain ⟨mb, hb1, hb2⟩ := I1.mod.blt
  have hb : ∃ mb, s1.heap.Ns builtinsNs mb ∧ mb "super" = bootBuiltins "super" := ⟨mb, hb1.keeps I1.bk, hb2 _ (by decide)⟩
  obtain ⟨hp, g, dr, tk, os⟩ := s1
  refine wpAny_call (PySem.LeX.le_made T U I1.kIn hlim G hb (by have := hr.dp; omega) fun h' tk' e d M => ?_)
  show MkP X pins σ Q (.ref e) ⟨h', g, dr, tk', os⟩
  obtain ⟨oe, fv, hoe, hc, hd, hdat, h1⟩ := M.obj
  have hns := M.ns
  obtain ⟨G', g1, g2⟩ := restrict h' fun b => decide (b ≠ e)
  have gk : ∀ b, b ≠ e → G'.get? b = h'.get? b := fun b hb => g1 b (decide_eq_true hb)
  have ge : G'.get? e = none := g2 e (by simp)
  have old : ∀ b o, hp.get? b = some o → G'.get? b = some o := fun b o q => (gk b (Nat.ne_of_lt (Nat.lt_of_lt_of_le (Heap.lt_size q) M.new))).trans (M.keep b o q)
  have ob : ObjOk X.prog X.w (upd H1 d (.xd [(("value" : Str), v)])) G' d (.xd [(("value" : Str), v)]) :=
    ⟨_, hns.at (fun o q => (gk d M.dne).trans q), fun f => relO_val rv f⟩
  have J : Inv X pins σ (upd H1 d (.xd [(("value" : Str), v)])) ⟨G', g, dr, tk', os⟩ := I1.laid (t' := tk') old M.dbig ob
  refine ⟨e, oe, fv, ⟨G', g, dr, tk', os⟩, _, .ref C, some d, rfl, J, fun b o q => ?_, ge, hoe, ⟨hc, hd⟩, hdat, h1, ?_, rfl, I1.bare, raises_own U.exC U.tyC, q1 d (I1.hok.fresh M.dbig)⟩
  · by_cases hb : b = e
    · have q' : G'.get? b = some o := q
      rw [hb, ge] at q'; cases q'
    · exact (gk b hb).symm.trans q
  · rw [upd_ne (Ne.symm M.dne)]
    exact I1.hok.fresh M.new
/-- raise x(e) -/
def sRaise (x : Str) (m : M DR) : M Fl := M.bind m fun r => M.bind (frz r) fun d => M.rais (x, d)
theorem ds_raise {x : Str} {a : Expr} {m : M DR} {p pos pos2 : Pos} {k : Nat} (T : PySem.LeX.LeTxt X.K X.mg X.prog D fI) (U : PySem.LeX.LcTxt X.K D fI C) (gC : X.mg x = some (.ref C)) (gP : P.K.G x = some (.ref C)) (hc : X.calm = true) (hr : Room (k + 1) X.A) (tk : Takes X P.W) (ha : PE X a (tE P m)) (hg : Gl X x) (hdb : (x == ("__debug__" : Str)) = false)
    (he : starEach (a :: []) X.env = (false, eval a X.env) :: starEach [] X.env) (hpl : (backTo pos (starEach [] X.env)).any (·.1) = false) :
    PS X (.Raise (some (.Call (.Name x p) [a] [] pos)) none pos2) (tS P (sRaise x m)) :=
  (ps_raise hc tk (pmk_le T U gC hr ha hg hdb he hpl)).of fun De σ H q => by
    obtain ⟨c, F, ρ, R, q⟩ := q
    refine ⟨c, F, [], ρ, nilτ R, (HoS.bind σ q).mono fun r ρ1 F1 H1 s1 R1 q1 v hv dd hdd => ?_⟩
    obtain ⟨d, F2, ρ2, s2, R2, r2, q2, _⟩ := HoS.frz q1 (nilτ' R1) (by rw [List.append_nil] at hv; exact hv)
    have q3 := q2 σ
    have R3 := R2.new (o := .xd [(("value" : Str), v)]) hdd
    have hFd : F2 dd = none := by
      cases z : F2 dd with
      | none => rfl
      | some u => have := R2.sub dd u z; rw [hdd] at this; cases this
    exact q3 _ _ C dd v (Same.upd hFd) (nilτ R3) gP (r2.mono (Same.upd hFd)) upd_same (R2.freshAt hdd).1
end
end DL

set_option Elab.async false
set_option linter.all false
set_option maxRecDepth 100000
set_option maxHeartbeats 4000000
/-! DX2: try .. except C as n: the exception lies in the slot n as a tracked object; it may be stored and asked later. -/
namespace DL
open PySem PySem.Spec PyProof.Rows L2

section
variable {X : Cx} {pins : List (Addr × Obj)} {σ : L2.St} {H : Hp} {s : Shared}
theorem exK_ok {P : Program} {w : World} {H : Hp} {h : Heap} {a C dd : Addr} {oe : Obj} {vs : Array Value} (e : h.get? a = some oe) (z : Zc (.ref C) (some dd) oe) (d : oe.data = .fields vs) : ObjOk P w H h a (ExK C dd a) :=
  ⟨⟨oe, vs, e, z, d⟩, ⟨oe, e⟩, fun _ _ ⟨o, v, q, r⟩ k => ⟨o, v, k o q, r⟩⟩
theorem Inv.track {a C dd : Addr} {oe : Obj} {vs : Array Value} (I : Inv X pins σ H s) (young : X.s_0.heap.get? a = none) (at_ : s.heap.get? a = some oe) (z : Zc (.ref C) (some dd) oe) (flds : oe.data = .fields vs)
    (na : H a = none) (apart : a ≠ X.env.locals) (unpinned : ∀ p ∈ X.pn ++ pins, p.1 ≠ a) : Inv X pins σ (upd H a (ExK C dd a)) s := by
  have same : ∀ {b : Addr}, b ≠ a → upd H a (ExK C dd a) b = H b := fun n => upd_ne n
  have keepS : ∀ {b : Addr} {u : HO}, H b = some u → upd H a (ExK C dd a) b = some u := fun q => (same (ne_of_none q na)).trans q
  have base' : ∀ b o, X.s_0.heap.get? b = some o → b ≠ a := by
    rintro b o q rfl
    rw [young] at q
    cases q
  have cellApart : ∀ x c, X.env.cells.lookup x = some c → c ≠ a := by
    rintro x c q rfl
    obtain ⟨_, o, ho, isCell⟩ := I.cell x c q
    obtain rfl := Option.some.inj (at_.symm.trans ho)
    rw [flds] at isCell
    cases isCell
  exact { I with
    base := { I.base with
      free := fun b o q n nx => (same (base' b o q)).trans (I.base.free b o q n nx)
      tups := fun b xs q => keepS (I.base.tups b xs q)
      frzs := fun b o u q => keepS (I.base.frzs b o u q)
      tbls := fun b ps q => (I.base.tbls b ps q).imp fun _ r => keepS r }
    free := (same (Ne.symm apart)).trans I.free
    freeC := fun x c q => (same (cellApart x c q)).trans (I.freeC x c q)
    pin := fun p m => by
      obtain ⟨q1, q2, more⟩ := I.pin p m
      exact ⟨q1, (same (unpinned p m)).trans q2, more⟩
    hok := fun b o q => by
      by_cases at_a : b = a
      · obtain rfl := at_a
        obtain rfl := Option.some.inj (upd_same.symm.trans q)
        exact exK_ok at_ z flds
      · exact (I.hok b o ((same at_a).symm.trans q)).stay (fun _ _ _ r => r) (fun _ => keepS) fun _ _ => keepS }
/-- into the clause with nothing pinned anew, and out of it -/
theorem Inv.suiteK (I : Inv X pins σ H s) (a : Addr) : Inv (X.suite a (X.pn ++ pins)) [] σ H s :=
  { I with ok := I.ok.suite _ _, pin := fun p m => I.pin p ((List.mem_append.mp m).elim id fun z => nomatch z) }
theorem Inv.unsuiteK {a : Addr} {more : List (Addr × Obj)} (I : Inv (X.suite a (X.pn ++ pins)) more σ H s) (ok : X.Ok) : Inv X pins σ H s :=
  { I with ok := ok, pin := fun p m => I.pin p (List.mem_append.mpr (.inl m)) }
theorem gone_s0 {a : Addr} (I : Inv X pins σ H s) (none_ : X.ex = []) (nb : s.heap.get? a = none) : X.s_0.heap.get? a = none := by
  match e : X.s_0.heap.get? a with
  | none => rfl
  | some o =>
    obtain ⟨_, q⟩ := I.base.there a o e (by rw [none_]; exact List.not_mem_nil)
    rw [nb] at q
    cases q
end
/-- what the clause wishes: the exception, tracked, in slot i -/
def wKeep (K : PySem.W.Frag) (c : Value) (i : Nat) (ts : TS) (Wout : WX) (D : Ends) : WX := fun cls d σ H =>
  ∃ b, PySem.W.exmOne K cls c = some b ∧ (b = true → ∃ C dd, cls = .ref C ∧ d = some dd ∧ ∀ a, H a = none → ts { nx := fun σ' H' => D.nx (σ'.set i none) H', rt := D.rt, bk := fun σ' H' => D.bk (σ'.set i none) H', ct := fun σ' H' => D.ct (σ'.set i none) H' } (σ.set i (some (.ref a))) (upd H a (ExK C dd a))) ∧
    (b = false → Wout cls d σ H)
/-! the ways of a try, one by one -/
section
variable {X : Cx} {B : Heap} {a : Addr} {cls : Value} {d : Option Addr} {pins pn : List (Addr × Obj)} {D : Ends} {t : Shared}
theorem off_frames {h : Heap} {o : Obj} {vs : Array Value} {es : List Env} (ff : h.FunFrames B es) (at_ : h.get? a = some o) (fl : o.data = .fields vs) : a ∉ frs es := by
  intro m
  obtain ⟨_, o', q, no⟩ := ff.mem m
  obtain rfl := Option.some.inj (at_.symm.trans q)
  exact no vs fl
theorem off_here (hf : X.env.frame = some X.env.locals) (n : a ∉ frs (X.env :: X.outer)) : a ≠ X.env.locals := by
  rintro rfl
  exact n (List.mem_filterMap.mpr ⟨_, .head _, hf⟩)
theorem off_rest (n : a ∉ frs (X.env :: X.outer)) : a ∉ X.fs := by
  intro m
  have ⟨v, mv, q⟩ := List.mem_filterMap.mp m
  exact n (List.mem_filterMap.mpr ⟨v, .tail _ mv, q⟩)
/-- the body came to an end of its own -/
theorem sp_plain {xe : Value → Shared → Prop} (ok : X.Ok) : ∀ fl : Flow, SP (X.tr (X.pn ++ pins) xe) [] D fl t → SP X pins D fl t
  | .next, ⟨_, _, J, q⟩ => ⟨_, _, J.ofTry ok, q⟩
  | .brk, ⟨_, _, J, q⟩ => ⟨_, _, J.ofTry ok, q⟩
  | .cont, ⟨_, _, J, q⟩ => ⟨_, _, J.ofTry ok, q⟩
  | .ret _, ⟨_, _, _, J, r, q⟩ => ⟨_, _, _, J.ofTry ok, r, q⟩
/-- the name of the clause's class is read while a flies -/
theorem class_read {x : Str} {c : Value} {np : Pos} {o : Obj} {σ : L2.St} {H : Hp} {Q E : Value → Shared → Prop} (hc : Names X x c) (S : Inv (X.suite a ((a, o) :: pn)) [] σ H t) (q : Q c t) :
    wpAny (model X.prog X.w) (X.A.mark (some (.ref a))) (eval (.Name x np) X.env) Q E t := by
  rcases hc with ⟨g, nd, own | ⟨noOwn, boot, no⟩⟩
  · exact ld_glob (X := X.suite a _) S g own q nd
  · exact ld_blt (X := X.suite a _) S g noOwn boot q no nd
/-- no clause is left: it flies on, noted at this frame -/
theorem flies_on (hf : X.env.frame = some X.env.locals) (fl : HandSPX.FlyingZ B (X.env :: X.outer) a (Zc cls d) t.heap)
    (out : ∀ g, HandSPX.HeldZ B (X.env :: X.outer) a (Zc cls d) X.env.locals g → t.heap.UpToSlots g → X.xe (.ref a) { t with heap := g }) :
    wpAny (model X.prog X.w) X.A (handleBy (.ref a) X.env []) (SP X pins D) X.xe t := by
  have up : wpAny (model X.prog X.w) X.A (setFlight (.ref a) X.env.frame) (fun _ u => wpAny (model X.prog X.w) X.A (throw (.ref a) : Sem Flow) (SP X pins D) X.xe u) X.xe t := by
    rw [hf]
    exact HandSPX.setFlight_upZ fl fun g held u => wpAny_throw (out g held u)
  have ⟨_, _, _, oe, vs, T, _, _, at_, _, flds, tb, _⟩ := fl
  apply wpAny_handleBy_nil
  unfold PySem.passOn
  apply wpAny_bind
  apply wpAny_field at_ flds tb
  have there : ¬ (Value.ref T == Value.none) = true := Bool.false_ne_true
  rw [if_neg there]
  first
    | exact wpAny_bind up
    | exact wpAny_bind (wpAny_pure (wpAny_bind up))
end
section
variable {X : Cx} {x n : Str} {c : Value} {i : Nat} {body suite : List Stmt} {b₀ : Stmt} {np pos pos' : Pos} {tb : WX → TS} {ts : TS} {Wout : WX}
theorem ps_try_keep (hs : X.stack = X.env :: X.outer) (hf : X.env.frame = some X.env.locals) (hex : X.ex = []) (hN : X.N.Nodup) (hi : X.N[i]? = some n) (hln : X.env.kindOf n = some .local) (hc : Names X x c) (tk : Takes X Wout)
    (hb : ∀ (W : WX) (pn : List (Addr × Obj)) (xe : Value → Shared → Prop), Takes (X.tr pn xe) W → PassesOwn (model X.prog X.w) X.A X.env xe →
      PSs (X.tr pn xe) body (tb W))
    (hsu : ∀ (a : Addr) (pn : List (Addr × Obj)), PSs (X.suite a pn) (b₀ :: suite) ts) : PS X (.Try body [.ExceptHandler (some (.Name x np)) (some n) (b₀ :: suite) pos'] [] [] pos) (fun D σ H => tb (wKeep X.K c i ts Wout D) D σ H) where
  run pins s σ H D I h := by
    have ok := I.ok
    let meets : Value → Shared → Prop := fun e t => wpAny (model X.prog X.w) X.A (noteFrame e X.env)
      (fun _ t => wpAny (model X.prog X.w) X.A (setFlight e none) (fun _ t => wpAny (model X.prog X.w) X.A (handleBy e X.env [.ExceptHandler (some (.Name x np)) (some n) (b₀ :: suite) pos']) (SP X pins D) X.xe t) X.xe t) X.xe t
    have caught : Takes (X.tr (X.pn ++ pins) meets) (wKeep X.K c i ts Wout D) := by
      intro _ t xx
      obtain ⟨a, B, sI, _, σ', H', cls, d, rfl, Jt, new, up, sky, na, os, ag, b, isB, yes, no⟩ := xx
      have J : Inv X pins σ' H' sI := Jt.ofTry ok
      show wpAny (model X.prog X.w) X.A (noteFrame (.ref a) X.env) _ _ _
      apply Sky.land Zc.steady (by rw [ok.frames, hs]) hf (hs ▸ sky)
      intro g fl upg
      have ⟨o, vs, at_, zo, flds⟩ := fl.there
      have off := off_frames fl.2.2.1 at_ flds
      have Jg : Inv X pins σ' H' { t with heap := g } := J.landed new fl.1 (up.trans upg) os ag
      have fresh : sI.heap.get? a = none := by
        match z : sI.heap.get? a with
        | none => rfl
        | some o' =>
          have was := new a o' z (by rw [hs]; exact off)
          rw [fl.2.1] at was
          cases was
      refine wpAny_handleBy_cons (codeAny_handlers_test ?_) (by rintro ⟨⟩)
      refine class_read hc (Jg.suite at_ flds na (off_here hf off) (off_rest off)) ?_
      have typed : PySem.W.Looks (model X.prog X.w) g (typeOf (.ref a)) cls := fun _ _ _ _ k q => wpAny_typeOf_ref (k a o at_) (zo.1.symm ▸ q)
      apply (PySem.W.exm_one (M := model X.prog X.w) Jg.kIn typed isB).here
      match b, yes, no with
      | false, _, no =>
        exact flies_on hf fl fun g' held up' => tk _ _ ⟨a, B, sI, pins, σ', H', cls, d, rfl, J, new, (up.trans upg).trans up', .inr (.inr (by rw [hs]; exact held)), na, os, ag, no rfl⟩
      | true, yes, _ =>
        obtain ⟨C, dd, rfl, rfl, wish⟩ := yes rfl
        apply codeAny_handlers_suite_as
        apply HandSPX.lands_againZ fl
        intro g' fl' up'
        have ⟨o', vs', at', zo', flds'⟩ := fl'.there
        have Jg' : Inv X pins σ' H' { t with heap := g' } := J.landed new fl'.1 ((up.trans upg).trans up') os ag
        have unpinned : ∀ p ∈ X.pn ++ pins, p.1 ≠ a := by
          rintro p m rfl
          have q := (J.pin p m).1
          rw [fresh] at q
          cases q
        have Kept := Inv.suiteK (Inv.track Jg' (gone_s0 J hex fresh) at' zo' flds' na (off_here hf off) unpinned) a
        apply store_ok (X := X.suite a (X.pn ++ pins)) (v := .ref a) Kept hN hi (.inl hln) rfl ?_ (.inr hln)
        intro t5 S5
        refine wpAny_mono ((hsu a (X.pn ++ pins)).run [] t5 _ _ _ S5 (wish a na)) ?_ (fun _ _ z => z.elim)
        rintro (_ | _ | _ | u) t6 ends
        · obtain ⟨_, _, S6, q⟩ := ends
          exact gone_ok (Inv.unsuiteK S6 ok) hN hi hln fun _ J7 => ⟨_, _, J7, q⟩
        · obtain ⟨_, _, S6, q⟩ := ends
          exact gone_ok (Inv.unsuiteK S6 ok) hN hi hln fun _ J7 => ⟨_, _, J7, q⟩
        · obtain ⟨_, _, S6, q⟩ := ends
          exact gone_ok (Inv.unsuiteK S6 ok) hN hi hln fun _ J7 => ⟨_, _, J7, q⟩
        · obtain ⟨_, _, _, S6, r, q⟩ := ends
          exact gone_ok (Inv.unsuiteK S6 ok) hN hi hln fun _ J7 => ⟨_, _, _, J7, r, q⟩
    apply wpAny_Try_except
    refine wpAny_mono ((hb _ (X.pn ++ pins) meets caught PassesOwn.looking).run [] s σ H D (I.toTry _) h) ?_ (fun _ _ z => z)
    rintro (_ | _ | _ | u) t ends
    · exact wpAny_execs_nil (sp_plain ok .next ends)
    · exact sp_plain ok .brk ends
    · exact sp_plain ok .cont ends
    · exact sp_plain ok (.ret u) ends
end
end DL

set_option Elab.async false
set_option linter.all false
set_option maxRecDepth 100000
set_option maxHeartbeats 4000000
/-! DX3: try by data; isinstance; e.value; stores of exceptions. -/
namespace DL
open PySem PySem.Spec PyProof.Rows L2

section
variable {K : Frag} {F F' H : Hp} {c : Ct} {ρ : List DV} {L : List (Option V)}
theorem Rl.setV {i : Nat} {v : Option V} {x : DV} (R : Rl K c F ρ L H) (h : SlotOk K F H v x) (hx : x.own = none) (hb : ∀ x, ρ[i]? = some x → x.isBor = false) : Rl K c F (ρ.set i x) (L.set i v) H := by
  refine ⟨by rw [List.length_set, List.length_set]; exact R.len, R.sub, R.keep, fun j y w e1 e2 => ?_, fun j k y z a e1 e2 o1 o2 l1 l2 => ?_, fun j y a e1 o1 l1 => ?_, fun j es a e1 l1 => ?_, fun q hq => ?_, R.born⟩
  · rcases set_at e1 with ⟨rfl, rfl⟩ | ⟨hne, e1⟩
    · rcases set_at e2 with ⟨_, rfl⟩ | ⟨hne, _⟩
      · exact h
      · exact absurd rfl hne
    · rcases set_at e2 with ⟨rfl, _⟩ | ⟨_, e2⟩
      · exact absurd rfl hne
      · exact R.slot j y w e1 e2
  · rcases set_at e1 with ⟨_, rfl⟩ | ⟨h1, e1⟩
    · exact absurd hx o1
    · rcases set_at e2 with ⟨_, rfl⟩ | ⟨h2, e2⟩
      · exact absurd hx o2
      · rw [List.getElem?_set_ne (fun z => h1 z.symm)] at l1
        rw [List.getElem?_set_ne (fun z => h2 z.symm)] at l2
        exact R.sep j k y z a e1 e2 o1 o2 l1 l2
  · rcases set_at e1 with ⟨_, rfl⟩ | ⟨h1, e1⟩
    · exact absurd hx o1
    · rw [List.getElem?_set_ne (fun z => h1 z.symm)] at l1
      exact R.fresh j y a e1 o1 l1
  · rcases set_at e1 with ⟨_, rfl⟩ | ⟨h1, e1⟩
    · cases hx
    · rw [List.getElem?_set_ne (fun z => h1 z.symm)] at l1
      exact R.nobor j es a e1 l1
  · obtain ⟨⟨es, e'⟩, l'⟩ := R.lent q hq
    have hne : i ≠ q.1 := fun z => by
      rw [← z] at e'
      exact absurd (hb _ e') (by simp [DV.isBor])
    exact ⟨⟨es, by rw [List.getElem?_set_ne hne]; exact e'⟩, by rw [List.getElem?_set_ne hne]; exact l'⟩
/-- an object that is no list is frozen -/
theorem Rl.frzO {p : Addr} {o : HO} (R : Rl K c F ρ L H) (hH : H p = some o) (ho : ∀ xs, o ≠ .lst xs) (h0 : c.Hi p = none) : Rl K c (upd F p o) ρ L H ∧ Same F (upd F p o) := by
  have sF : Same F (upd F p o) := fun b u q => by
    by_cases hb : b = p
    · subst hb
      have := R.sub b u q
      rw [hH] at this
      cases this
      exact upd_same
    · rw [upd_ne hb]; exact q
  refine ⟨⟨R.len, fun b u q => ?_, R.keep, fun i x v e1 e2 => (R.slot i x v e1 e2).mono sF fun b zs hv hox h1 h2 => ⟨?_, h2⟩, R.sep, R.fresh, R.nobor, R.lent, fun b u q => ?_⟩, sF⟩
  · by_cases hb : b = p
    · subst hb; rw [upd_same] at q; cases q; exact hH
    · rw [upd_ne hb] at q; exact R.sub b u q
  · rw [upd_ne (fun z => by subst z; rw [hH] at h2; exact ho zs (Option.some.inj h2))]; exact h1
  · by_cases hb : b = p
    · exact .inr (hb ▸ h0)
    · rw [upd_ne hb] at q; exact R.born b u q
end
def setV (i : Nat) (x : DV) : M Unit := fun ρ => match ρ[i]? with
  | some y => if y.isBor then none else some (.ok (), ρ.set i x)
  | none => none
theorem setV_some {i : Nat} {x : DV} {ρ : List DV} {o : Except Ex Unit × List DV} (h : setV i x ρ = some o) : o = (.ok (), ρ.set i x) ∧ ∀ y, ρ[i]? = some y → y.isBor = false := by
  unfold setV at h
  split at h
  · rename_i y e
    split at h
    · cases h
    · rename_i hb
      refine ⟨(Option.some.inj h).symm, fun z ez => ?_⟩
      rw [e] at ez
      cases ez
      exact Bool.eq_false_iff.mpr hb
  · cases h
/-- try: mb / except ..: as slot i: ms; ca tells which classes are taken -/
def sTry (ca : Str → Option Bool) (i : Nat) (mb ms : M Fl) : M Fl := fun ρ => match mb ρ with
  | none => none
  | some (.ok fl, ρ1) => some (.ok fl, ρ1)
  | some (.error x, ρ1) => match ca x.1 with
    | none => none
    | some false => some (.error x, ρ1)
    | some true => match setV i (.exc x.1 x.2) ρ1 with
      | none => none
      | some (_, ρ2) => match ms ρ2 with
        | some (.ok fl, ρ3) => match setV i .un ρ3 with
          | some (_, ρ4) => some (.ok fl, ρ4)
          | none => none
        | _ => none
theorem exK_lst {C dd a : Addr} {xs : List V} : ExK C dd a ≠ .lst xs := fun z => by
  have z' : HO.ext _ = HO.lst xs := z
  cases z'
section
variable {X : Cx} {P : Ps} {a b e : Expr} {pos : Pos} {c : Ct} {F H : Hp} {σ : L2.St}
theorem ds_try {x n : Str} {cv : Value} {i : Nat} {body suite : List Stmt} {b₀ : Stmt} {np pos pos' : Pos} {ca : Str → Option Bool} {mb ms : M Fl} (hK : P.K.K = X.K) (hs : X.stack = X.env :: X.outer) (hf : X.env.frame = some X.env.locals) (hex : X.ex = []) (hN : X.N.Nodup) (hi : X.N[i]? = some n) (hln : X.env.kindOf n = some .local)
    (hc : Names X x cv) (tk : Takes X P.W) (hca : ∀ y b C, ca y = some b → P.K.G y = some (.ref C) → PySem.W.exmOne X.K (.ref C) cv = some b)
    (hb : ∀ (W : WX) (pn : List (Addr × Obj)) (xe : Value → Shared → Prop), Takes (X.tr pn xe) W → PassesOwn (model X.prog X.w) X.A X.env xe → PSs (X.tr pn xe) body (tS ⟨P.K, W⟩ mb))
    (hsu : ∀ (a : Addr) (pn : List (Addr × Obj)), PSs (X.suite a pn) (b₀ :: suite) (tS ⟨P.K, fun _ _ _ _ => False⟩ ms)) :
    PS X (.Try body [.ExceptHandler (some (.Name x np)) (some n) (b₀ :: suite) pos'] [] [] pos) (tS P (sTry ca i mb ms)) := by
  refine (ps_try_keep hs hf hex hN hi hln hc tk hb hsu).of fun D σ H q => ?_
  obtain ⟨c, F, ρ, R, q⟩ := q
  refine ⟨c, F, ρ, R, ?_⟩
  unfold sTry at q
  match z : mb ρ with
  | none => rw [z] at q; exact q
  | some (.ok .nx, ρ1) => rw [z] at q; exact q
  | some (.ok .brk, ρ1) => rw [z] at q; exact q
  | some (.ok .cnt, ρ1) => rw [z] at q; exact q
  | some (.ok (.ret r), ρ1) => rw [z] at q; exact q
  | some (.error x, ρ1) =>
    rw [z] at q
    dsimp only at q
    intro σ1 F' H' C dd v sF R1 gC rp hdd h0
    cases y : ca x.1 with
    | none => rw [y] at q; exact (show False from q).elim
    | some b =>
      rw [y] at q
      refine ⟨b, hca _ _ _ y gC, fun hb => ?_, fun hb => ?_⟩
      · subst hb
        refine ⟨C, dd, rfl, rfl, fun a na => ?_⟩
        dsimp only at q
        obtain ⟨R2, s2⟩ := R1.frzO hdd (fun xs z => by cases z) h0
        have nFa : upd F' dd (.xd [(("value" : Str), v)]) a = none := by
          cases w : upd F' dd (.xd [(("value" : Str), v)]) a with
          | none => rfl
          | some u => have := R2.sub a u w; rw [na] at this; cases this
        have R3 := R2.new (o := ExK C dd a) na
        have s3 : Same (upd F' dd (.xd [(("value" : Str), v)])) (upd (upd F' dd (.xd [(("value" : Str), v)])) a (ExK C dd a)) := Same.upd nFa
        have hne : dd ≠ a := fun w => by rw [w, na] at hdd; cases hdd
        have at1 : ExAt P.K (upd (upd F' dd (.xd [(("value" : Str), v)])) a (ExK C dd a)) (.ref a) x.1 x.2 := ⟨a, dd, C, v, rfl, gC, upd_same, by rw [upd_ne hne, upd_same], (rp.mono s2).mono s3⟩
        cases w : setV i (.exc x.1 x.2) ρ1 with
        | none => rw [w] at q; exact (show False from q).elim
        | some o =>
          obtain ⟨rfl, hb⟩ := setV_some w
          rw [w] at q
          dsimp only at q
          have R4 := (nilτ' R3).setV (i := i) (v := some (.ref a)) (x := .exc x.1 x.2) ⟨_, rfl, at1⟩ rfl hb
          refine ⟨c, _, _, R4, ?_⟩
          match w2 : ms (ρ1.set i (.exc x.1 x.2)) with
          | none => rw [w2] at q; exact q
          | some (.error x', ρ3) => rw [w2] at q; exact (show False from q).elim
          | some (.ok fl, ρ3) =>
            rw [w2] at q
            dsimp only at q
            cases w3 : setV i .un ρ3 with
            | none => rw [w3] at q; exact (show False from q).elim
            | some o =>
              obtain ⟨rfl, hb3⟩ := setV_some w3
              rw [w3] at q
              have st : Same F (upd (upd F' dd (.xd [(("value" : Str), v)])) a (ExK C dd a)) := (sF.trans s2).trans s3
              have fin : ∀ {σ5 : L2.St} {F5 H5 : Hp}, Rl P.K c F5 ρ3 σ5 H5 → Rl P.K c F5 (ρ3.set i .un) (σ5.set i none) H5 := fun R5 => R5.setV (v := none) (x := .un) trivial rfl hb3
              cases fl with
              | nx => exact fun σ5 F5 H5 s5 R5 => q _ F5 H5 (st.trans s5) (fin R5)
              | brk => exact fun σ5 F5 H5 s5 R5 => q _ F5 H5 (st.trans s5) (fin R5)
              | cnt => exact fun σ5 F5 H5 s5 R5 => q _ F5 H5 (st.trans s5) (fin R5)
              | ret r => exact fun v5 σ5 F5 H5 s5 R5 rv => q v5 _ F5 H5 (st.trans s5) (fin R5) rv
      · subst hb
        exact (q σ1) F' H' C dd v sF R1 gC rp hdd h0
/-- x = e, data or an exception -/
def sSetX (i : Nat) (m : M DR) : M Fl := M.bind m fun r => match r with
  | .exc y d => M.bind (setV i (.exc y d)) fun _ => M.ok .nx
  | r => M.bind (frz r) fun d => M.bind (setD i d) fun _ => M.ok .nx
theorem ds_setXK {i : Nat} {t : TE} {m : M DR} (w : ∀ σ H Q, tE P m σ H Q → t σ H Q) (D : Ends) (σ : L2.St) (H : Hp) (q : tS P (sSetX i m) D σ H) : tAsg t (gName i) D σ H := by
  obtain ⟨c, F, ρ, R, q⟩ := q
  refine w σ H _ ⟨c, F, [], ρ, nilτ R, (HoS.bind σ q).mono fun r ρ1 F1 H1 s R1 q1 v hv => ?_⟩
  rw [List.append_nil] at hv
  cases r with
  | exc y d =>
    dsimp only at q1
    unfold M.bind at q1
    cases z : setV i (.exc y d) ρ1 with
    | none => rw [z] at q1; exact (show False from q1).elim
    | some o =>
      obtain ⟨rfl, hb⟩ := setV_some z
      rw [z] at q1
      exact q1 _ F1 H1 (Same.refl _) ((nilτ' R1).setV ⟨v, rfl, hv⟩ rfl hb)
  | dat d0 =>
    obtain ⟨d, F2, ρ2, s2, R2, r2, q2, _⟩ := HoS.frz (r := .dat d0) q1 (nilτ' R1) hv
    obtain ⟨ρ3, R3, q3⟩ := HoS.setD q2 R2 r2
    exact q3 _ F2 H1 (Same.refl _) R3
  | loc p =>
    obtain ⟨d, F2, ρ2, s2, R2, r2, q2, _⟩ := HoS.frz (r := .loc p) q1 (nilτ' R1) hv
    obtain ⟨ρ3, R3, q3⟩ := HoS.setD q2 R2 r2
    exact q3 _ F2 H1 (Same.refl _) R3
theorem ds_setX {i : Nat} {x : Str} {p2 : Pos} {m : M DR} (hN : X.N.Nodup) (hi : X.N[i]? = some x) (hx : Loc X.env.scope x) (he : PE X e (tE P m)) (hs : swapsWith e (some (.Name x p2)) pos.line X.env = pure false) (hf : X.fn x = true ∨ X.env.scope.names.lookup x = some .local) :
    PS X (.Assign [.Name x p2] e pos) (tS P (sSetX i m)) := (ps_set hN hi hx he hs hf).of (ds_setXK fun _ _ _ q => q)

/-! ### isinstance -/
def tyD : D → String
  | .none => "NoneType"
  | .bool _ => "bool"
  | .int _ => "int"
  | .str _ => "str"
  | .list _ => "list"
  | .tuple _ => "tuple"
  | .dict _ => "dict"
theorem Now.tyX {K : Frag} {F H : Hp} {v : V} {d : D} (n : Now K F H v d) (s : Same F H) : TyX K.K H v (.type (tyD d)) := by
  cases n with
  | own e e' hF hH h => subst e e'; exact .base (.lst hH)
  | dat h =>
    cases h with
    | non => exact .base .non
    | bl b => exact .base (.bl b)
    | int i => exact .base (.int i)
    | str x => exact .base (.str x)
    | lst h1 _ =>
      rcases h1 with (h1 | ⟨o, h1⟩) | ⟨o, its, k, h1, h2, _⟩
      · exact .base (.lst (s _ _ h1))
      · exact .base (.frz (s _ _ h1))
      · exact .kList h1 h2
    | tup h1 _ =>
      rcases h1 with (h1 | ⟨o, h1⟩) | ⟨o, its, k, h1, h2, _⟩
      · exact .base (.tup (s _ _ h1))
      · exact .fTuple (s _ _ h1)
      · exact .kTuple h1 h2
    | dic h1 _ => exact .fDict (s _ _ h1)
/-- isinstance of data, of a tracked exception -/
def rIsG (K : PySem.W.Frag) : List V → Hp → VK → Prop := fun xs H Q => ∃ (x c : V) (u : Value), xs = [x, c] ∧ ClsV c u ∧
  ((∃ t b, TyX K H x t ∧ PySem.W.kitOne K t u = some b ∧ Q (.bl b) H) ∨ ∃ (a C dd : Addr) (fs : List (Str × V)) (b : Bool), x = .ref a ∧ H a = some (ExK C dd a) ∧ H dd = some (.xd fs) ∧ ExcC K C ∧ PySem.W.kitOne K (.ref C) u = some b ∧ Q (.bl b) H)
theorem exK_at {P : Program} {w : World} {H : Hp} {h : Heap} {a C dd : Addr} (hok : HOk P w H h) (e : H a = some (ExK C dd a)) : ∃ (oe : Obj) (vs : Array Value), h.get? a = some oe ∧ Zc (.ref C) (some dd) oe ∧ oe.data = .fields vs :=
  (show ObjOk P w H h a (.ext fun h => ∃ (oe : Obj) (vs : Array Value), h.get? a = some oe ∧ Zc (.ref C) (some dd) oe ∧ oe.data = .fields vs) from hok a _ e).1
theorem call_isG : CallR X (.builtin "isinstance") (rIsG X.K) := by
  intro pins s σ H xs us Q I r h
  obtain ⟨x, c, u, rfl, k, h⟩ := h
  obtain ⟨u1, u2, rfl, r1, r2⟩ := vals2 r
  have e2 := k.eq r2
  subst e2
  rcases h with ⟨t, b, ty, e, q⟩ | ⟨a, C, dd, fs, b, rfl, ha, hdd, EC, e, q⟩
  · obtain ⟨P, Z, p, hx⟩ := kit_of I r1 ty
    exact PySem.W.kia_one Z I.kIn p e hx fun tk => ⟨.bl b, H, I.tok tk, rfl, q⟩
  · cases r1
    obtain ⟨oe, vs, he, hz, hd⟩ := exK_at I.hok ha
    have hx : ObjOk X.prog X.w H s.heap dd (.xd fs) := I.hok dd _ hdd
    obtain ⟨mA, hns, hr⟩ := hx
    obtain ⟨od, ho, hl⟩ := lookIn_ns hns
    have J : PySem.W.InstAt s.heap a oe C (some od) := ⟨he, hz.1, by unfold PySem.W.notCls; rw [hd] <;> rfl, by rw [hz.2]; exact ho⟩
    have hcl : (PySem.W.clsIn X.K C).isSome = true := by
      obtain ⟨cd, h1, _⟩ := PySem.W.any_some EC.hd
      rw [h1]; rfl
    exact PySem.W.kia_one (PySem.W.kitx_exc hcl EC.hg EC.hk EC.hs EC.ha EC.hn EC.ht EC.hm) I.kIn J e (fun z => nomatch z) fun tk => ⟨.bl b, H, I.tok tk, rfl, q⟩
def isR (fd : D → Option Bool) (fx : Str → Option Bool) : DR → M DR := fun r => match r with
  | .exc y _ => M.bind (M.opt (fx y)) fun b => M.ok (.dat (.bool b))
  | r => M.bind (rd r) fun d => M.bind (M.opt (fd d)) fun b => M.ok (.dat (.bool b))
def eIs (fd : D → Option Bool) (fx : Str → Option Bool) (m : M DR) : M DR := M.bind m (isR fd fx)
theorem de_isG {tn : Str} {p p2 : Pos} {m : M DR} {cv : V} {u : Value} {fd : D → Option Bool} {fx : Str → Option Bool} (hK : P.K.K = X.K) (hg : Gl X "isinstance") (hm : X.mg "isinstance" = none) (ha : PE X a (tE P m)) (hc : PE X (.Name tn p2) (tC cv)) (hcv : ClsV cv u)
    (hfd : ∀ d b, fd d = some b → PySem.W.kitOne X.K (.type (tyD d)) u = some b) (hfx : ∀ y b C, fx y = some b → P.K.G y = some (.ref C) → ExcC X.K C ∧ PySem.W.kitOne X.K (.ref C) u = some b)
    (he : starEach (a :: [.Name tn p2]) X.env = (false, eval a X.env) :: starEach [.Name tn p2] X.env) (he2 : starEach ([.Name tn p2] : List Expr) X.env = (false, eval (.Name tn p2) X.env) :: starEach [] X.env) (hpl : (backTo pos (starEach [.Name tn p2] X.env)).any (·.1) = false) :
    PE X (.Call (.Name "isinstance" p) [a, .Name tn p2] [] pos) (tE P (eIs fd fx m)) := by
  refine (pe_callB (id := "isinstance") call_isG hg hm (by decide +kernel) (pa_cons ha (pa_cons hc pa_nil he2) he) (by decide) (by decide) he hpl).of fun σ H Q q => ?_
  obtain ⟨c, F, τ, ρ, R, q⟩ := q
  refine ⟨c, F, τ, ρ, R, (Ho.bind q).mono fun r ρ1 F1 H1 s1 R1 q1 v hv => ?_⟩
  have dat : ∀ {r : DR}, RefV P.K F1 (σ ++ τ) v r → Ho P c F1 σ τ (M.bind (rd r) (fun d => M.bind (M.opt (fd d)) fun b => M.ok (.dat (.bool b))) ρ1) (fun r _ F' H' => ∀ v, RefV P.K F' (σ ++ τ) v r → Q v H') →
      tC cv σ H1 (fun w H2 => tNil σ H2 fun ws H3 => rIsG X.K (v :: w :: ws) H3 Q) := fun {r} hv q1 => by
    obtain ⟨d, q2, n⟩ := Ho.now1 q1 R1 hv
    obtain ⟨b, eb, q3⟩ := Ho.opt (H := H1) q2
    exact ⟨v, cv, u, rfl, hcv, .inl ⟨_, b, hK ▸ n.tyX R1.sub, hfd d b eb, Ho.now q3 R1 _ (.bl b)⟩⟩
  cases r with
  | dat d => exact dat hv q1
  | loc p => exact dat hv q1
  | exc y d =>
    obtain ⟨b, eb, q2⟩ := Ho.opt (H := H1) (k := fun b => M.ok (DR.dat (.bool b))) (o := fx y) (ρ := ρ1) q1
    obtain ⟨a, dd, C, w, rfl, g, e1, e2, e3⟩ := (show ExAt P.K F1 v y d from hv)
    obtain ⟨EC, ek⟩ := hfx y b C eb g
    exact ⟨_, cv, u, rfl, hcv, .inr ⟨a, C, dd, _, b, rfl, R1.sub _ _ e1, R1.sub _ _ e2, EC, ek, Ho.now q2 R1 _ (.bl b)⟩⟩

/-! ### e.value -/
def valR (ok : Str → Bool) : DR → M DR := fun r => match r with
  | .exc y d => if ok y then M.ok (.dat d) else M.no
  | _ => M.no
def eVal (ok : Str → Bool) (m : M DR) : M DR := M.bind m (valR ok)
theorem de_val {m : M DR} {ok : Str → Bool} (hK : P.K.K = X.K) (he : PE X e (tE P m)) (hok : ∀ y C, ok y = true → P.K.G y = some (.ref C) → XfC X.K C ∧ PySem.W.findIn X.K (.ref C) "value" = some none) (hb : attributeBase e "value" X.env (eval e X.env) = eval e X.env) :
    PE X (.Attribute e "value" pos) (tE P (eVal ok m)) := by
  refine ⟨fun pins s σ H Q I h => ?_⟩
  have h2 : tE P m σ H fun v H1 => ∃ F1 y d, ok y = true ∧ ExAt P.K F1 v y d ∧ Same F1 H1 ∧ ∀ w, Rp P.K F1 w d → Q w H1 := by
    obtain ⟨c, F, τ, ρ, R, q⟩ := h
    refine ⟨c, F, τ, ρ, R, (Ho.bind q).mono fun r ρ1 F1 H1 s1 R1 q1 v hv => ?_⟩
    cases r with
    | dat d => exact (show False from q1).elim
    | loc p => exact (show False from q1).elim
    | exc y d =>
      unfold valR at q1
      dsimp only at q1
      cases z : ok y with
      | false => rw [z] at q1; exact (show False from q1).elim
      | true =>
        rw [z] at q1
        exact ⟨F1, y, d, z, hv, R1.sub, fun w hw => Ho.now (a := DR.dat d) q1 R1 w hw⟩
  refine attr_of hb (thn (he.run pins s σ H _ I h2) fun u s1 hh => ?_)
  obtain ⟨x, H1, I1, rx, F1, y, d, z, ⟨a, dd, C, w, rfl, g, e1, e2, e3⟩, sF, q⟩ := hh
  obtain rfl : u = Value.ref a := rx
  obtain ⟨T, hno⟩ := hok y C z g
  have ha := sF _ _ e1
  have hd2 := sF _ _ e2
  obtain ⟨oe, vs, he, hz, hd⟩ := exK_at I1.hok ha
  have hx : ObjOk X.prog X.w H1 s1.heap dd (.xd [(("value" : Str), w)]) := I1.hok dd _ hd2
  obtain ⟨mA, hns, hr⟩ := hx
  obtain ⟨od, ho, hl⟩ := lookIn_ns hns
  have l : List.lookup ("value" : Str) [(("value" : Str), w)] = some w := by simp [List.lookup]
  obtain ⟨u, hu, ru⟩ := RelO.some_of (v := w) (o := mA "value") (by rw [← l]; exact hr "value")
  have J : PySem.W.InstAt s1.heap a oe C (some od) := ⟨he, hz.1, by unfold PySem.W.notCls; rw [hd] <;> rfl, by rw [hz.2]; exact ho⟩
  exact HandSPX.exc_get I1.kIn J T.ga T.gg T.exC (PySem.W.findObj_own T.hdC hno rfl (by rw [hl, hu])) (handed_of ru) ⟨w, H1, I1.tok _, ru, q w e3⟩
end
end DL

set_option Elab.async false
set_option linter.all false
set_option maxRecDepth 100000
set_option maxHeartbeats 4000000
/-! DX4: a def's promise where no repr is under way (guards = []), its calls, the law's end. -/
namespace DL
open PySem PySem.Spec PyProof.Rows L2
/-- what a def keeps to when it is called where no repr is under way. The argument values us are those its parameters ps get. -/
structure FnOkG (P : Program) (w : World) (K : PySem.W.Frag) (mg : Str → Option Value) (base : Heap) (CX : CXT) (k : Nat) (f : Addr) (fd : FuncData) (ps : List Str) (sp : Sp) : Prop where
  len : ∀ (xs : List V) (G : Hp) (W : VK) (Y : XK), sp xs G W Y → xs.length = ps.length
  run : ∀ (A : Around) (outer : List Env) (t : Shared) (G : Hp) (given : Args) (us : List Value) (xs : List V) (W : VK) (Y : XK), Room k A → A.guards = some [] →
    Env0 P w K mg base A outer t G → BindsTo t fd given (ps.zip us) → Vals xs us → sp xs G W Y → codeAny (model P w) A (.call (.ref f) given) (CR CX outer P w G t W Y) t
section
variable {P : Program} {w : World} {K : PySem.W.Frag} {mg : Str → Option Value} {base : Heap} {CX : CXT} {j k : Nat} {f : Addr} {ps : List Str} {sp sp' : Sp}
theorem FnOkG.mono {fd : FuncData} (F : FnOkG P w K mg base CX j f fd ps sp) (h : j ≤ k) : FnOkG P w K mg base CX k f fd ps sp where
  len := F.len
  run A outer t G given us xs W Y room := F.run A outer t G given us xs W Y (room.mono h)
theorem FnOkG.imp {fd : FuncData} (F : FnOkG P w K mg base CX k f fd ps sp) (h : ∀ xs G W Y, sp' xs G W Y → sp xs G W Y) : FnOkG P w K mg base CX k f fd ps sp' where
  len xs G W Y q := F.len xs G W Y (h xs G W Y q)
  run A outer t G given us xs W Y room still at0 to rel q := F.run A outer t G given us xs W Y room still at0 to rel (h xs G W Y q)
/-- a parameter has a slot or a cell of the new environment -/
theorem par_slot {N : List Str} {scope : Scope} {b0 : Nat} {us : List Value} (S : FnScope N ps scope) (y : Str × Value) (m : y ∈ ps.zip us) :
    scope.names.lookup y.1 = some .local ∨ scope.names.lookup y.1 = some .cell ∧ ((cellsFrom b0 scope.names []).lookup y.1).isSome = true := by
  have z := S.par y.1 (List.of_mem_zip (show (y.1, y.2) ∈ ps.zip us from m)).1
  exact z.imp id fun c => ⟨c, PySem.W.cellsFrom_some _ _ _ (.inl c)⟩
/-- the body's end is the call's end -/
theorem body_end {N : List Str} {qual : Str} {scope : Scope} {cdv : Value} {A : Around} {outer : List Env} {t t' : Shared} {G : Hp} {W : VK} {Y : XK} :
    ∀ (fl : Flow), SP (cxOf CX P w K mg base N qual scope f cdv A outer t G Y) [] { nx := fun _ G' => W .non G', rt := W } fl t' →
      CR CX outer P w G t W Y (.ok (.ret (match fl with | .ret v => v | _ => .none))) t'
  | .next, ⟨_, G', J, q⟩ => ⟨.non, G', J.os, J.bare, J.base, J.hok, rfl, q⟩
  | .ret _, ⟨v, _, G', J, rv, q⟩ => ⟨v, G', J.os, J.bare, J.base, J.hok, rv, q⟩
  | .brk, ⟨_, _, _, q⟩ => False.elim q
  | .cont, ⟨_, _, _, q⟩ => False.elim q
theorem fn_ofG {name qual : Str} {params : Arguments} {body : List Stmt} {scope : Scope} {dV kV doc pm cdv ct oc : Value} {an od : Option Addr} {osl : Array (Option Value)} {N : List Str}
    (lk : K.lookup f = some ⟨oc, od, .func (PySem.W.fnOf name qual params body scope dV kV doc pm an cdv ct), osl⟩)
    (hcd : PySem.W.codeIn K cdv qual = true) (S : FnScope N ps scope) (len : ∀ (xs : List V) (G : Hp) (W : VK) (Y : XK), sp xs G W Y → xs.length = ps.length)
    (hbody : ∀ (A : Around) (outer : List Env) (t : Shared) (G : Hp) (xs : List V) (W : VK) (Y : XK), Room k (A.deeper (envOfC qual scope t.heap.objs.size f cdv)) → A.guards = some [] → sp xs G W Y →
      ∃ β, PSs (cxOf CX P w K mg base N qual scope f cdv A outer t G Y) body β ∧ β { nx := fun _ G' => W .non G', rt := W } (start N xs) G) :
    FnOkG P w K mg base CX (k + 1) f (PySem.W.fnOf name qual params body scope dV kV doc pm an cdv ct) ps sp where
  len := len
  run A outer t G given us xs W Y room still at0 to rel q := by
    have old : ∀ (b : Addr) (o : Obj), base.get? b = some o → t.heap.get? b = some o := fun b o z => (at0.bs b o z).1
    have kin := at0.mod.kin.keeps old
    obtain ⟨β, hβ, ends⟩ := hbody A outer t G xs W Y (room.deeper _) still q
    apply codeAny_call_function room.depth (kin _ _ lk) rfl S.co S.gen rfl (PySem.W.codeRec_of kin hcd)
    apply to
    apply wpAny_newFunctionEnv_cells S.kind (par_slot S)
    rintro _ rfl t1 made
    constructor
    · exact (at0.mod.nolimit.keeps old).keeps made.toInCall.keep
    · apply codeAny_func
      exact wpAny_mono (hβ.run [] t1 _ G _ (inv_start S room.hd at0 (len _ _ _ _ q) rel made) ends) (fun fl t' z => body_end fl z) fun _ _ z => z
end
section
variable {X : Cx} {CX : CXT} {k : Nat} {f C : Addr} {fd : FuncData} {ps : List Str} {sp : Sp} {E : L2.St → XK} {x m : Str} {p pos apos : Pos} {e o : Expr} {es : List Expr} {ta : TE} {t : TA}
/-- a call with whatever arguments, once it is known what the parameters get -/
theorem run_given {pins : List (Addr × Obj)} {σ : L2.St} {H : Hp} {s : Shared} {Q : VK} {Y : XK} {given : Args} {us : List Value} {vs : List V} (F : FnOkG X.prog X.w X.K X.mg X.base CX k f fd ps sp) (hr : Room k X.A) (hG : X.A.guards = some []) (hx : PassesAt CX X σ Y) (I : Inv X pins σ H s)
    (to : BindsTo s fd given (ps.zip us)) (r : Vals vs us) (h : sp vs H Q Y) : codeAny (model X.prog X.w) X.A (.call (.ref f) given) (fun r s' => match r with | .ok (.ret u) => EP X pins σ Q u s' | .ok _ => False | .error e => X.xe e s') s :=
  codeAny_mono (F.run X.A X.stack s H given us vs Q Y hr hG I.env0 to r h) fun
    | .ok (.ret _), _, q => I.after q
    | .error e, s', q => hx pins H s e s' I q
    | .ok .next, _, q => False.elim q
    | .ok .brk, _, q => False.elim q
    | .ok .cont, _, q => False.elim q
theorem run_fnSG {pins : List (Addr × Obj)} {σ : L2.St} {H : Hp} {s : Shared} {Q : VK} {us : List Value} {vs : List V} (F : FnOkG X.prog X.w X.K X.mg X.base CX k f fd ps sp) (hr : Room k X.A) (hG : X.A.guards = some []) (hb : Binds X.K fd ps []) (hx : PassesAt CX X σ (E σ)) (I : Inv X pins σ H s)
    (r : Vals vs us) (h : sp vs H Q (E σ)) : wpAny (model X.prog X.w) X.A (call (.ref f) us) (EP X pins σ Q) X.xe s := by
  have to := hb s us I.kIn (by rw [List.append_nil, ← r.length]; exact F.len vs H Q (E σ) h)
  have to' : BindsTo s fd ⟨us, []⟩ (ps.zip us) := by rwa [List.append_nil] at to
  exact wpAny_call (codeAny_mono (run_given F hr hG hx I to' r h) fun
    | .ok (.ret _), _, q => q
    | .error _, _, q => q
    | .ok .next, _, q => False.elim q
    | .ok .brk, _, q => False.elim q
    | .ok .cont, _, q => False.elim q)
theorem pe_callSG (F : FnOkG X.prog X.w X.K X.mg X.base CX k f fd ps sp) (hr : Room k X.A) (hG : X.A.guards = some []) (hg : Gl X x) (hm : X.mg x = some (.ref f)) (hk : PySem.W.keepIn X.K (.ref f) = true) (hb : Binds X.K fd ps []) (hx : ∀ σ, PassesAt CX X σ (E σ))
    (ha : PA X (e :: es) t) (hdb : (x == ("__debug__" : Str)) = false := by decide) (he : starEach (e :: es) X.env = (false, eval e X.env) :: starEach es X.env := by rfl) (hpl : (backTo pos (starEach es X.env)).any (·.1) = false := by rfl) :
    PE X (.Call (.Name x p) (e :: es) [] pos) (tCallS sp E t) := by
  refine ⟨fun pins s σ H Q I h => ?_⟩
  refine wpAny_Call_Name_kw (ld_glob I hg hm ?_ hdb)
  refine PySem.W.callWith_K (h₀ := X.base) I.ok.mod.kin hk (thn (ha.run pos pins s σ H _ I h) fun us s1 ⟨vs, H1, I1, r, q⟩ => ⟨I1.kIn, ?_⟩) he hpl
  exact run_fnSG F hr hG hb (hx σ) I1 r q
end
section
variable {X : Cx} {P : Ps} {e : Expr} {es : List Expr} {pos : Pos}
theorem run_fnkSG {CX : CXT} {k : Nat} {f : Addr} {fd : FuncData} {ps ks : List Str} {sp : Sp} {E : XK} {g : List Value → List Value → List Value} {gV : List V → List V → List V} {pins : List (Addr × Obj)} {σ : L2.St} {H : Hp} {s : Shared} {Q : VK} {us ws : List Value} {vs zs : List V} (F : FnOkG X.prog X.w X.K X.mg X.base CX k f fd ps sp)
    (hr : Room k X.A) (hG : X.A.guards = some []) (hb : KBinds X.K fd ps ks g gV) (hx : PassesAt CX X σ E) (I : Inv X pins σ H s) (r : Vals vs us) (rz : Vals zs ws)
    (h : sp (gV vs zs) H Q E) : wpAny (model X.prog X.w) X.A (call (.ref f) us (ks.zip ws)) (EP X pins σ Q) X.xe s := by
  have both := hb.rel r rz
  have to := hb.to s us ws I.kIn (by rw [← both.length]; exact F.len _ H Q E h)
  exact wpAny_call (codeAny_mono (run_given F hr hG hx I to both h) fun
    | .ok (.ret _), _, q => q
    | .error _, _, q => q
    | .ok .next, _, q => False.elim q
    | .ok .brk, _, q => False.elim q
    | .ok .cont, _, q => False.elim q)
theorem pe_callKSG {CX : CXT} {k : Nat} {f : Addr} {fd : FuncData} {ps ks : List Str} {sp : Sp} {E : L2.St → XK} {x : Str} {p : Pos} {kws : List Keyword} {tk : TA} {g : List Value → List Value → List Value} {gV : List V → List V → List V} (F : FnOkG X.prog X.w X.K X.mg X.base CX k f fd ps sp) (hr : Room k X.A) (hG : X.A.guards = some []) (hg : Gl X x) (hm : X.mg x = some (.ref f)) (hk : PySem.W.keepIn X.K (.ref f) = true) (hb : KBinds X.K fd ps ks g gV) (hx : ∀ σ, PassesAt CX X σ (E σ))
    (hkw : PK X kws tk) (hall : (backToKw pos (keywordEach kws X.env)).all (·.1.isSome) = true) (hks : (backToKw pos (keywordEach kws X.env)).filterMap (·.1) = ks)
    (hdb : (x == ("__debug__" : Str)) = false) (hpl : ((backTo pos (starEach [] X.env)).any (·.1) || (backToKw pos (keywordEach kws X.env)).any (·.1.isNone)) = false) :
    PE X (.Call (.Name x p) [] kws pos) (tCallKS sp gV E tk) := by
  refine ⟨fun pins s σ H Q I h => ?_⟩
  refine wpAny_Call_Name_kw (ld_glob I hg hm ?_ hdb)
  refine PySem.W.callWith_KW0 (h₀ := X.base) I.ok.mod.kin hk hall ?_ hpl
  refine thn (hkw.run pos pins s σ H _ I h) fun ws s2 ⟨zs, H2, I2, rz, q2⟩ => ⟨I2.kIn, ?_⟩
  rw [hks]
  exact run_fnkSG F hr hG hb (hx σ) I2 .nil rz q2
theorem de_callG {own : Bool} {n k : Nat} {f : Fsp} {ms : M (List DR)} {x : Str} {p : Pos} {fa : Addr} {fd : FuncData} {ps : List Str} (F : FnOkG X.prog X.w X.K X.mg X.base (L2.CX X.prog X.w) k fa fd ps (spD P.K own n f)) (hr : Room k X.A) (hG : X.A.guards = some []) (hg : Gl X x) (hm : X.mg x = some (.ref fa)) (hk : PySem.W.keepIn X.K (.ref fa) = true)
    (hb : Binds X.K fd ps []) (tk : Takes X P.W) (ha : PA X (e :: es) (tA P ms)) (hl : ALen ms n) (hdb : (x == ("__debug__" : Str)) = false) (he : starEach (e :: es) X.env = (false, eval e X.env) :: starEach es X.env) (hpl : (backTo pos (starEach es X.env)).any (·.1) = false) :
    PE X (.Call (.Name x p) (e :: es) [] pos) (tE P (eCall own f ms)) := (pe_callSG F hr hG hg hm hk hb (fun σ => passAt tk σ) ha hdb he hpl).of (tE_callS hl)
theorem dn_callG {own : Bool} {n k : Nat} {f : Fsp} {ms : M (List DR)} {x : Str} {p : Pos} {fa : Addr} {fd : FuncData} {ps : List Str} (F : FnOkG X.prog X.w X.K X.mg X.base (L2.CX X.prog X.w) k fa fd ps (spD P.K own n f)) (hr : Room k X.A) (hG : X.A.guards = some []) (hg : Gl X x) (hm : X.mg x = some (.ref fa)) (hk : PySem.W.keepIn X.K (.ref fa) = true)
    (hb : Binds X.K fd ps []) (tk : Takes X P.W) (ha : PA X (e :: es) (tA P ms)) (hl : ALen ms n) (hdb : (x == ("__debug__" : Str)) = false) (he : starEach (e :: es) X.env = (false, eval e X.env) :: starEach es X.env) (hpl : (backTo pos (starEach es X.env)).any (·.1) = false) :
    PE X (.Call (.Name x p) (e :: es) [] pos) (tN P (nCall own f ms)) := (pe_callSG F hr hG hg hm hk hb (fun σ => passAt tk σ) ha hdb he hpl).of (tN_callS hl)
theorem de_callKG {n nk k : Nat} {π : List Nat} {f : Fsp} {ms : M (List DR)} {x : Str} {p : Pos} {fa : Addr} {fd : FuncData} {ps ks : List Str} {kws : List Keyword} {g : List Value → List Value → List Value} (F : FnOkG X.prog X.w X.K X.mg X.base (L2.CX X.prog X.w) k fa fd ps (spD P.K false n f)) (hr : Room k X.A) (hG : X.A.guards = some []) (hg : Gl X x) (hm : X.mg x = some (.ref fa)) (hk : PySem.W.keepIn X.K (.ref fa) = true)
    (hb : KBinds X.K fd ps ks g (fun _ zs => permR π zs)) (tk : Takes X P.W) (hkw : PK X kws (tA P ms)) (hl : ALen ms nk) (hπ : ∀ (vs : List V), vs.length = nk → (permR π vs).length = n) (hall : (backToKw pos (keywordEach kws X.env)).all (·.1.isSome) = true) (hks : (backToKw pos (keywordEach kws X.env)).filterMap (·.1) = ks)
    (hdb : (x == ("__debug__" : Str)) = false) (hpl : ((backTo pos (starEach [] X.env)).any (·.1) || (backToKw pos (keywordEach kws X.env)).any (·.1.isNone)) = false) :
    PE X (.Call (.Name x p) [] kws pos) (tE P (eCallK π f ms)) := (pe_callKSG F hr hG hg hm hk hb (fun σ => passAt tk σ) hkw hall hks hdb hpl).of (tE_callK hl hπ)
end
section
variable {Pg : Program} {wd : World} {K : PySem.W.Frag} {mg : Str → Option Value} {base : Heap}
theorem fn_okG {x qual : Str} {st : Stmt} {fa : Addr} {fd : FuncData} {N ps : List Str} {k : Nat} {own : Bool} {m : M Fl} (F : Fun K x qual st fa fd) (S : FnScope N ps (defScope st))
    (hbody : ∀ (cdv : Value) (A : Around) (outer : List Env) (s : Shared) (H : Hp) (E : XK), Room k (A.deeper (envOfC qual (defScope st) s.heap.objs.size fa cdv)) → (A.deeper (envOfC qual (defScope st) s.heap.objs.size fa cdv)).guards = some [] →
      Takes (cxOf (L2.CX Pg wd) Pg wd K mg base N qual (defScope st) fa cdv A outer s H E) (fun cls d _ H => E cls d H) →
      PSs (cxOf (L2.CX Pg wd) Pg wd K mg base N qual (defScope st) fa cdv A outer s H E) (defBody st) (tS ⟨⟨K, mg⟩, fun cls d _ H => E cls d H⟩ m)) :
    FnOkG Pg wd K mg base (L2.CX Pg wd) (k + 1) fa fd ps (spD ⟨K, mg⟩ own ps.length (runF own N.length m)) := by
  obtain ⟨oc, od, kV, doc, pm, an, cdv, ct, osl, rfl, lk, hcd⟩ := F.ex
  refine fn_ofG lk hcd S (fun vs H Q E h => h.1) fun A outer s H vs Q E hr hG h => ?_
  refine ⟨tS ⟨⟨K, mg⟩, fun cls d _ H => E cls d H⟩ m, hbody cdv A outer s H E hr hG (takes_of rfl rfl rfl rfl), ?_⟩
  obtain ⟨hn, F0, oa, us, w, ds, ho, rfl, sF, lt, r, h⟩ := h
  subst ho
  have hpl : ps.length ≤ N.length := by have := congrArg List.length S.pre; rw [List.length_take] at this; omega
  have R0 := rl_init (N := N) sF lt r (by rw [hn]; exact hpl)
  have fr : ∀ {ρ : List DV} {σ : L2.St} {F' H' : Hp}, Rl ⟨K, mg⟩ ⟨H, F0, BOf oa⟩ F' ρ σ H' → Frm oa H H' := fun {ρ σ F' H'} R b o e hb => R.keep b o e (fun z => by
    cases oa with
    | none => exact absurd z (by simp [Ct.ads, BOf])
    | some a =>
      have : b = a := by simpa [Ct.ads, BOf] using z
      exact hb (by rw [this]))
  refine ⟨_, F0, _, R0, ?_⟩
  unfold runF at h
  match z : m (initE oa.isSome N.length w ds) with
  | none => rw [z] at h; exact h
  | some (.ok .nx, ρ) =>
    rw [z] at h
    exact fun σ F' H' s R => h .non F' H' s R.sub R.born (fr R) (lent_of R rfl) .non
  | some (.ok (.ret rv), ρ) =>
    rw [z] at h
    refine fun v σ F' H' s R rr => h v F' H' s R.sub R.born (fr R) (lent_of R rfl) ?_
    cases rv with
    | dat d => exact rr
    | new es =>
      obtain ⟨a, xs, e1, e2, e3, e4, e5, e6⟩ := rr
      exact ⟨a, xs, e1, e2, e3, e5, e6⟩
  | some (.ok .brk, ρ) => rw [z] at h; exact h.elim
  | some (.ok .cnt, ρ) => rw [z] at h; exact h.elim
  | some (.error x, ρ) =>
    rw [z] at h
    exact fun σ F' H' C dd v s R g rp hx hn => by
      rw [List.append_nil] at R
      exact h C dd v F' H' s R.sub R.born (fr R) (lent_of R rfl) g rp hx hn
end
/-! the law's end: the script is the one argument, so the library's argH of that one address is the abstract heap to start from -/
theorem toV_ints : ∀ {us : List Value} {is : List Int}, IntsAre us is → us.map toV = is.map V.int
  | _, _, .nil => rfl
  | _, _, .cons n _ h => congrArg (V.int n :: ·) (toV_ints h)
theorem okU_ints {B : List Addr} : ∀ {us : List Value} {is : List Int}, IntsAre us is → ∀ u ∈ us, OkU B u
  | _, _, .nil, _, m => nomatch m
  | _, _, .cons _ _ h, u, m => by
    rcases List.mem_cons.mp m with rfl | m
    · trivial
    · exact okU_ints h u m
abbrev seqO (us : List Value) : Obj := { cls := .type "list", data := .seq us.toArray }
section
variable {K : PySem.W.Frag} {h : Heap} {a b : Addr} {us : List Value}
theorem argH_off (n : b ≠ a) : argH K h [a] b = none := by
  match z : argH K h [a] b with
  | none => rfl
  | some _ => exact absurd (List.mem_singleton.mp (of_argH z).1) n
theorem argH_known {o : Obj} (lk : K.lookup b = some o) : argH K h [a] b = none := by
  match z : argH K h [a] b with
  | none => rfl
  | some _ => rw [(of_argH z).2] at lk; cases lk
theorem argH_Only (at_ : h.get? a = some (seqO us)) : Only (argH K h [a]) := fun b => by
  match z : argH K h [a] b with
  | none => exact .inl rfl
  | some _ =>
    obtain ⟨m, nk⟩ := of_argH z
    obtain rfl := List.mem_singleton.mp m
    exact .inr ⟨seqO us, us.map toV, by rw [← z, argH_at m nk at_, hoOf_lst]⟩
theorem ns_behind {ms : Str → Option Value} (at_ : h.get? a = some (seqO us)) (ns : h.Ns b ms) : (hidT h (argH K h [a])).Ns b ms := by
  obtain ⟨o, es, ep, e, d, more⟩ := ns
  have apart : b ≠ a := by
    rintro rfl
    obtain rfl := Option.some.inj (e.symm.trans at_)
    exact Data.noConfusion (show Data.seq us.toArray = Data.dict es ep from d)
  exact ⟨o, es, ep, hidT_get e (argH_off apart), d, more⟩
end
theorem law_callG {P : Program} {w : World} {K : PySem.W.Frag} {mg mb : Str → Option Value} {CX : CXT} {k : Nat} {fa a : Addr} {fd : FuncData} {x : Str} {sp : Sp} {t : Shared} {us : List Value} {is : List Int} (inn : K.In t.heap) (gs : t.heap.Ns mainGlobals mg) (bs : t.heap.Ns builtinsNs mb)
    (boot : ∀ y : Str, y ≠ "__name__" → mb y = bootBuiltins y) (free : t.heap.NoLimit) (calm : t.gens = #[]) (at_ : t.heap.get? a = some (seqO us)) (nums : IntsAre us is) (short : is.length ≤ sizeLine) (room : Room k callerA)
    (F : ∀ base : Heap, K.In base → base.Ns mainGlobals mg → FnOkG P w K mg base CX k fa fd [x] sp) (to : ∀ (t : Shared) (u : Value), BindsTo t fd ⟨[u], []⟩ [(x, u)])
    (yes : ∀ G : Hp, Only G → SqL K G a (is.map V.int) → sp [.ref a] G (fun v _ => v = .bl true) fun _ _ _ => False) (none_ : ∀ G e t', CX [] G t (fun _ _ _ => False) e t' → False) :
    codeAny (model P w) callerA (.call (.ref fa) ⟨[.ref a], []⟩) (fun r t' => r = .ok (.ret (.bool true)) ∧ OldK t.heap t'.heap ∧ t'.os = t.os ∧ AllBare t'.gens) t := by
  have area : ∀ b ∈ [a], ArgOb t.heap [a] b := fun b m => by
    obtain rfl := List.mem_singleton.mp m
    exact ⟨us, by rw [nums.length]; exact short, okU_ints nums, .inl at_⟩
  have seq := (argL inn area (List.mem_singleton.mpr rfl) at_).2
  rw [toV_ints nums] at seq
  have only : Only (argH K t.heap [a]) := argH_Only at_
  have good : HOk P w (argH K t.heap [a]) t.heap := argH_ok area
  have inn' : K.In (hidT t.heap (argH K t.heap [a])) := fun b o lk => hidT_get (inn b o lk) (argH_known lk)
  have gs' := ns_behind (K := K) at_ gs
  have free' : (hidT t.heap (argH K t.heap [a])).NoLimit := by
    obtain ⟨mc, q1, q2⟩ := free
    exact ⟨mc, ns_behind at_ q1, q2⟩
  have at0 : Env0 P w K mg (hidT t.heap (argH K t.heap [a])) callerA [] t (argH K t.heap [a]) :=
    { frames := rfl, mod := ⟨inn', gs', ⟨mb, ns_behind at_ bs, boot⟩, free'⟩, bs := fun _ _ => of_hidT, bsz := by rw [hidT_size]; exact Nat.le_refl _, funs := trivial, frf := fun _ m => (nomatch m), hok := good, bare := .of_eq calm }
  have one : Vals [V.ref a] [Value.ref a] := .cons rfl .nil
  refine codeAny_mono ((F _ inn' gs').run callerA [] t _ _ _ _ _ _ room rfl at0 (to t _) one (yes _ only seq)) fun
    | .error e, t', q => (none_ _ e t' q).elim
    | .ok .next, _, q => False.elim q
    | .ok .brk, _, q => False.elim q
    | .ok .cont, _, q => False.elim q
    | .ok (.ret u), t', ⟨v, G', os, bare, un, good', rv, (isT : v = .bl true)⟩ => ?_
  subst isT
  cases (show u = Value.bool true from rv)
  refine ⟨rfl, OldK.of_keep fun b o e => ?_, os, bare⟩
  rcases only b with z | ⟨ob, xs, z⟩
  · exact un.keep b o e z (fun m => (nomatch m)) List.not_mem_nil
  · have before := (good b _ z).1
    have after := (good' b _ (un.frzs b ob _ z)).1
    exact after.trans (before.symm.trans e)
section
variable {l : PySem.W.OpenLaw} {n k : Nat} {q : Program} {loose : List Str} {XP : (Str → Option Value) → Heap → Prop} {YP : World → Heap → Prop} {d : DefRec} {K : Params → PySem.W.Frag} {CX : World → CXT} {sp : World → Sp} {x : Str}
/-- from the law def's promise to the row's walk -/
theorem walk_ofG (most : l.most = some n) (small : n ≤ sizeLine) (bare : d.params.defaults = []) (room : Room k callerA) (part : ∀ (w : World) (g : Heap), YP w g → (K w.params).In g)
    (F : ∀ (w : World) (mg : Str → Option Value) (fa : Addr) (g : Heap), (K w.params).In g → g.Ns mainGlobals mg → mg d.name = some (.ref fa) → ∃ fd : FuncData, (∀ (t : Shared) (u : Value), BindsTo t fd ⟨[u], []⟩ [(x, u)]) ∧
      ∀ base : Heap, (K w.params).In base → base.Ns mainGlobals mg → FnOkG l.prog w (K w.params) mg base (CX w) k fa fd [x] (sp w))
    (yes : ∀ (w : World) (G : Hp) (a : Addr) (is : List Int), is.length ≤ n → Only G → SqL (K w.params) G a (is.map V.int) → sp w [.ref a] G (fun v _ => v = .bl true) fun _ _ _ => False)
    (none_ : ∀ (w : World) (G : Hp) (t : Shared) (e : Value) (t' : Shared), CX w [] G t (fun _ _ _ => False) e t' → False) : PySem.W.WalkO q loose XP YP l.row.toRowW d [] (fun f us => PySem.call f us) := by
  apply Att.attach_call most bare
  intro w _ t mg mb fa _ _ _ _ a us is Gd Y _ _ _ glob at_ nums short calm
  have inn := part w _ Y
  obtain ⟨fd, to, promise⟩ := F w mg fa _ inn Gd.T.g glob
  exact law_callG inn Gd.T.g Gd.T.b Gd.T.builtins Gd.T.nolimit calm at_ nums (Nat.le_trans short small) room promise to (fun G only => yes w G a is short only) (fun G => none_ w G t)
end
end DL

set_option Elab.async false
set_option linter.all false
set_option maxRecDepth 100000
set_option maxHeartbeats 4000000
/-! DX5: repr; list(x), tuple(x), list(range(..)); max, min, sum, all, any of a list; is None of exceptions; tuple stores. -/
namespace DL
open PySem PySem.Spec PyProof.Rows L2

section
variable {X : Cx} {P : Ps} {a b e : Expr} {es : List Expr} {pos : Pos} {c : Ct} {F H : Hp} {σ : L2.St} {τ : List (Option V)}
theorem de_never {m : M DR} : PE X e (tE P (M.no)) := ⟨fun _ _ _ _ _ _ ⟨_, _, _, _, _, h⟩ => (show False from h).elim⟩

/-! ### repr -/
mutual
/-- no less than the length of repr's text -/
def rz : D → Nat
  | .none => 4
  | .bool _ => 5
  | .int i => i.natAbs.log2 + 2
  | .str x => (reprText x).length
  | .list ds => rzAll ds + 2
  | .tuple ds => rzAll ds + 3
  | .dict _ => 0
def rzAll : List D → Nat
  | [] => 0
  | d :: ds => rz d + 2 + rzAll ds
end
theorem textFrom_le : ∀ (ts : List Str) (k : Nat) (acc : Str), (textFrom k acc ts).length ≤ acc.length + piled ts
  | [], k, acc => by show acc.length ≤ _; omega
  | t :: r, k, acc => by
    have h := textFrom_le r (k + 1) (acc ++ (if k > 0 then ", " else "" : String) ++ t)
    have e : (acc ++ (if k > 0 then ", " else "" : String) ++ t).length ≤ acc.length + 2 + t.length := by
      rw [strLen_append, strLen_append]
      by_cases hk : k > 0
      · rw [if_pos hk]; show _ + 2 + _ ≤ _; omega
      · rw [if_neg hk]; show _ + 0 + _ ≤ _; omega
    rw [piled_cons]
    show (textFrom (k + 1) (acc ++ (if k > 0 then ", " else "" : String) ++ t) r).length ≤ _
    omega
theorem listText_le (ts : List Str) : (listText ts).length ≤ piled ts + 2 := by
  unfold listText
  rw [strLen_append]
  have := textFrom_le ts 0 "["
  have e1 : (("[" : String) : Str).length = 1 := rfl
  have e2 : (("]" : String) : Str).length = 1 := rfl
  omega
theorem tupleText_le (ts : List Str) : (tupleText ts).length ≤ piled ts + 3 := by
  unfold tupleText
  rw [strLen_append, strLen_append]
  have e1 : (("(" : String) : Str).length = 1 := rfl
  have hj : (Str.join ", " ts).length ≤ piled ts := by
    by_cases h : ts = []
    · subst h; exact Nat.le_of_eq rfl
    · have := join_length_add ts h; omega
  by_cases h : (ts.length == 1) = true
  · rw [if_pos h]
    have e2 : ((",)" : String) : Str).length = 2 := rfl
    omega
  · rw [if_neg h]
    have e2 : ((")" : String) : Str).length = 1 := rfl
    omega
mutual
theorem shown_le : ∀ d : D, d.hasDict = false → d.shown.length ≤ rz d
  | .none, _ => by simp only [PyData.shown, rz]; exact Nat.le_of_eq rfl
  | .bool true, _ => by simp only [PyData.shown, rz]; exact (by decide : (4 : Nat) ≤ 5)
  | .bool false, _ => by simp only [PyData.shown, rz]; exact Nat.le_of_eq rfl
  | .int i, _ => by
    simp only [PyData.shown, rz]
    rw [PySem.ofString_length]
    exact int_text_length_le (k := i.natAbs.log2 + 1) (Nat.succ_pos _) (Nat.lt_succ_self _)
  | .str x, _ => by simp only [PyData.shown, rz]; exact Nat.le_refl _
  | .list ds, h => by
    simp only [PyData.shown, rz]
    have := listText_le (PyData.shownAll ds)
    have := shownAll_le ds (by simpa only [PyData.hasDict] using h)
    omega
  | .tuple ds, h => by
    simp only [PyData.shown, rz]
    have := tupleText_le (PyData.shownAll ds)
    have := shownAll_le ds (by simpa only [PyData.hasDict] using h)
    omega
  | .dict _, h => by simp [PyData.hasDict] at h
theorem shownAll_le : ∀ ds : List D, PyData.hasDictAll ds = false → piled (PyData.shownAll ds) ≤ rzAll ds
  | [], _ => Nat.le_refl _
  | d :: ds, h => by
    simp only [PyData.hasDictAll, Bool.or_eq_false_iff] at h
    simp only [PyData.shownAll, rzAll, piled_cons]
    have := shown_le d h.1
    have := shownAll_le ds h.2
    omega
end
def reprOk (d : D) : Bool := d.showable && SeqAt.shaped d && decide (d.depth ≤ 64) && decide (rz d ≤ 16777216)
def reprF : List D → Option D
  | [d] => if reprOk d then some (.str d.shown) else none
  | _ => none
theorem call_reprG (hG : X.A.guards = some []) (hu : X.A.units + 200 < cLine) : CallR X (.builtin "repr") (fun xs H Q => ∃ x d, xs = [x] ∧ Dp X.K H x d ∧ d.showable = true ∧ d.hasDict = false ∧ d.depth ≤ 64 ∧ d.shown.length ≤ sizeLine ∧ Q (.str d.shown) H) := by
  intro pins s σ H xs us Q I r h
  obtain ⟨x, d, rfl, hd, hs, hnd, h64, hz, q⟩ := h
  obtain ⟨u, rfl, rx⟩ := vals1 r
  obtain ⟨as, rd⟩ := Dp.reads I d x u hd rx
  have ref : ∀ a, u = .ref a → wpAny (model X.prog X.w) X.A (call (.builtin "repr") [u]) (EP X pins σ Q) X.xe s := fun a e => by
    subst e
    exact repr_of_reads' rd hs (PyData.noDict_hsm hnd) hG (by omega) (fun _ _ e => e) (fun h' u tk hk => ⟨.str d.shown, H, I.kept hk, ⟨_, rfl⟩, q⟩) hz
  cases hd with
  | non => cases (show u = Value.none from rx); exact PySem.P.repr_of_none ⟨.str _, H, I.tok _, ⟨_, rfl⟩, by simpa only [PyData.shown] using q⟩
  | bl k => cases (show u = Value.bool k from rx); exact PySem.P.repr_of_bool ⟨.str _, H, I.tok _, ⟨_, rfl⟩, by simpa only [PyData.shown] using q⟩
  | int i =>
    obtain ⟨t, e⟩ := (show ∃ t, u = Value.int i t from rx)
    subst e
    exact PySem.P.repr_of_int (by simpa only [PyData.showable, decide_eq_true_eq] using hs) ⟨.str _, H, I.tok _, ⟨_, rfl⟩, by simpa only [PyData.shown] using q⟩
  | str y =>
    obtain ⟨t, e⟩ := (show ∃ t, u = Value.str y t from rx)
    subst e
    exact PySem.P.repr_of_str ⟨.str _, H, I.tok _, ⟨_, rfl⟩, by simpa only [PyData.shown] using q⟩ (by simpa only [PyData.shown] using hz)
  | lst _ _ => exact ref _ rx
  | tup _ _ => exact ref _ rx
theorem cbd_repr (hK : P.K.K = X.K) : CbD P (fun xs H Q => ∃ x d, xs = [x] ∧ Dp X.K H x d ∧ d.showable = true ∧ d.hasDict = false ∧ d.depth ≤ 64 ∧ d.shown.length ≤ sizeLine ∧ Q (.str d.shown) H) reprF := by
  intro c F H L ρ vs ds z Q R n hz q
  have hs : sizeLine = 16777216 := sizeLine_eq
  unfold reprF at hz
  split at hz
  · rename_i d
    split at hz
    · rename_i hok
      cases wid hz
      obtain ⟨v, rfl, n0⟩ := now1 n
      unfold reprOk at hok
      simp only [Bool.and_eq_true, decide_eq_true_eq] at hok
      obtain ⟨⟨⟨h1, h2⟩, h3⟩, h4⟩ := hok
      have hnd := PyData.hasDict_of_canLay d (SeqAt.canLay_of_shaped h2)
      exact ⟨v, d, rfl, hK ▸ n0.dp R.sub h2, h1, hnd, h3, by have := shown_le d hnd; omega, q F H _ (Same.refl F) R (.str _)⟩
    · cases hz
  · cases hz

/-! ### list(x), tuple(x) of data -/
def listF : List D → Option D
  | [.list ds] => some (.list ds)
  | [.tuple ds] => some (.list ds)
  | _ => none
def tupleF : List D → Option D
  | [.list ds] => some (.tuple ds)
  | [.tuple ds] => some (.tuple ds)
  | _ => none
theorem fresh_of {K : Frag} {c : Ct} {F H : Hp} {ρ : List DV} {L : List (Option V)} (R : Rl K c F ρ L H) {p : Addr} (hp : H p = none) : F p = none := by
  cases z : F p with
  | none => rfl
  | some u => have := R.sub p u z; rw [hp] at this; cases this
theorem cbd_list (hK : P.K.K = X.K) : CbD P (fun xs H Q => ∃ p ys, xs = [.ref p] ∧ (SqL X.K H p ys ∨ SqT X.K H p ys) ∧ ∀ l, H l = none → Q (.ref l) (upd H l (.lst ys))) listF := by
  intro c F H L ρ vs ds z Q R n hz q
  unfold listF at hz
  split at hz
  · cases wid hz
    obtain ⟨v, rfl, n0⟩ := now1 n
    obtain ⟨a1, ws, rfl, h1, r1⟩ := n0.list R.sub
    refine ⟨a1, ws, rfl, .inl (hK ▸ h1), fun l hl => ?_⟩
    exact q _ _ _ (Same.upd (fresh_of R hl)) (R.new hl) (.lst (.inl (.inl upd_same)) (r1.mono (Same.upd (fresh_of R hl))))
  · cases wid hz
    obtain ⟨v, rfl, n0⟩ := now1 n
    obtain ⟨a1, ws, rfl, h1, h2, r1⟩ := n0.tuple R.sub
    refine ⟨a1, ws, rfl, .inr (hK ▸ h1), fun l hl => ?_⟩
    exact q _ _ _ (Same.upd (fresh_of R hl)) (R.new hl) (.lst (.inl (.inl upd_same)) (r1.mono (Same.upd (fresh_of R hl))))
  · cases hz
theorem cbd_tuple (hK : P.K.K = X.K) : CbD P (fun xs H Q => ∃ p ys, xs = [.ref p] ∧ ((SqL X.K H p ys ∧ ∀ l, H l = none → Q (.ref l) (upd H l (.tup ys))) ∨ (SqT X.K H p ys ∧ Q (.ref p) H))) tupleF := by
  intro c F H L ρ vs ds z Q R n hz q
  unfold tupleF at hz
  split at hz
  · cases wid hz
    obtain ⟨v, rfl, n0⟩ := now1 n
    obtain ⟨a1, ws, rfl, h1, r1⟩ := n0.list R.sub
    exact ⟨a1, ws, rfl, .inl ⟨hK ▸ h1, fun l hl => q _ _ _ (Same.upd (fresh_of R hl)) (R.new hl) (.tup (.inl (.inl upd_same)) (r1.mono (Same.upd (fresh_of R hl))))⟩⟩
  · cases wid hz
    obtain ⟨v, rfl, n0⟩ := now1 n
    obtain ⟨a1, ws, rfl, h1, h2, r1⟩ := n0.tuple R.sub
    exact ⟨a1, ws, rfl, .inr ⟨hK ▸ h1, q _ _ _ (Same.refl F) R (.tup h2 r1)⟩⟩
  · cases hz

/-! ### max, min, sum, all, any of a list -/
def asInts : List D → Option (List Int)
  | [] => some []
  | .int i :: ds => (asInts ds).map (i :: ·)
  | _ => none
theorem asInts_some : ∀ {ds : List D} {ns : List Int}, asInts ds = some ns → ds = ns.map PyData.int
  | [], ns, h => by cases h; rfl
  | .int i :: ds, ns, h => by
    cases e : asInts ds with
    | none => simp [asInts, e] at h
    | some ms =>
      simp [asInts, e] at h
      subst h
      rw [List.map_cons, ← asInts_some e]
  | .none :: _, _, h => by cases h
  | .bool _ :: _, _, h => by cases h
  | .str _ :: _, _, h => by cases h
  | .list _ :: _, _, h => by cases h
  | .tuple _ :: _, _, h => by cases h
  | .dict _ :: _, _, h => by cases h
def asBools : List D → Option (List Bool)
  | [] => some []
  | .bool i :: ds => (asBools ds).map (i :: ·)
  | _ => none
theorem asBools_some : ∀ {ds : List D} {ns : List Bool}, asBools ds = some ns → ds = ns.map PyData.bool
  | [], ns, h => by cases h; rfl
  | .bool i :: ds, ns, h => by
    cases e : asBools ds with
    | none => simp [asBools, e] at h
    | some ms =>
      simp [asBools, e] at h
      subst h
      rw [List.map_cons, ← asBools_some e]
  | .none :: _, _, h => by cases h
  | .int _ :: _, _, h => by cases h
  | .str _ :: _, _, h => by cases h
  | .list _ :: _, _, h => by cases h
  | .tuple _ :: _, _, h => by cases h
  | .dict _ :: _, _, h => by cases h
theorem rp_ints : ∀ {K : Frag} {F : Hp} {vs : List V} {ns : List Int}, RpAll K F vs (ns.map PyData.int) → vs = ns.map V.int
  | _, _, _, [], .nil => rfl
  | _, _, _, _ :: _, .cons h t => by cases h; rw [rp_ints t]; rfl
theorem rp_bools : ∀ {K : Frag} {F : Hp} {vs : List V} {ns : List Bool}, RpAll K F vs (ns.map PyData.bool) → vs = ns.map V.bl
  | _, _, _, [], .nil => rfl
  | _, _, _, _ :: _, .cons h t => by cases h; rw [rp_bools t]; rfl
def maxN : List Int → Int
  | [] => 0
  | [i] => i
  | i :: ns => if maxN ns ≤ i then i else maxN ns
def minN : List Int → Int
  | [] => 0
  | [i] => i
  | i :: ns => if i ≤ minN ns then i else minN ns
theorem maxN_is : ∀ {ns : List Int}, 0 < ns.length → maxN ns ∈ ns ∧ ∀ y ∈ ns, y ≤ maxN ns
  | [], h => by simp at h
  | [i], _ => by simp [maxN]
  | i :: j :: ns, _ => by
    obtain ⟨h1, h2⟩ := maxN_is (ns := j :: ns) (by simp)
    unfold maxN
    by_cases hc : maxN (j :: ns) ≤ i
    · rw [if_pos hc]
      refine ⟨List.mem_cons_self, fun y hy => ?_⟩
      rcases List.mem_cons.mp hy with rfl | hy
      · exact Int.le_refl _
      · exact Int.le_trans (h2 y hy) hc
    · rw [if_neg hc]
      refine ⟨List.mem_cons_of_mem _ h1, fun y hy => ?_⟩
      rcases List.mem_cons.mp hy with rfl | hy
      · omega
      · exact h2 y hy
theorem minN_is : ∀ {ns : List Int}, 0 < ns.length → minN ns ∈ ns ∧ ∀ y ∈ ns, minN ns ≤ y
  | [], h => by simp at h
  | [i], _ => by simp [minN]
  | i :: j :: ns, _ => by
    obtain ⟨h1, h2⟩ := minN_is (ns := j :: ns) (by simp)
    unfold minN
    by_cases hc : i ≤ minN (j :: ns)
    · rw [if_pos hc]
      refine ⟨List.mem_cons_self, fun y hy => ?_⟩
      rcases List.mem_cons.mp hy with rfl | hy
      · exact Int.le_refl _
      · exact Int.le_trans hc (h2 y hy)
    · rw [if_neg hc]
      refine ⟨List.mem_cons_of_mem _ h1, fun y hy => ?_⟩
      rcases List.mem_cons.mp hy with rfl | hy
      · omega
      · exact h2 y hy
def lInt (f : List Int → Option D) : List D → Option D
  | [.list ds] => (asInts ds).bind f
  | _ => none
def lBool (f : List Bool → D) : List D → Option D
  | [.list ds] => (asBools ds).map f
  | _ => none
def maxLF : List D → Option D := lInt fun ns => if ns.isEmpty then none else some (.int (maxN ns))
def minLF : List D → Option D := lInt fun ns => if ns.isEmpty then none else some (.int (minN ns))
def sumF : List D → Option D := lInt fun ns => some (.int ns.sum)
def allF : List D → Option D := lBool fun bs => .bool (bs.all id)
def anyF : List D → Option D := lBool fun bs => .bool (bs.any id)
theorem lInt_some {f : List Int → Option D} {ds : List D} {z : D} (h : lInt f ds = some z) : ∃ ns : List Int, ds = [.list (ns.map PyData.int)] ∧ f ns = some z := by
  unfold lInt at h
  split at h
  · rename_i es
    cases e : asInts es with
    | none => rw [e] at h; cases h
    | some ns => rw [e] at h; exact ⟨ns, by rw [asInts_some e], h⟩
  · cases h
theorem lBool_some {f : List Bool → D} {ds : List D} {z : D} (h : lBool f ds = some z) : ∃ ns : List Bool, ds = [.list (ns.map PyData.bool)] ∧ z = f ns := by
  unfold lBool at h
  split at h
  · rename_i es
    cases e : asBools es with
    | none => rw [e] at h; cases h
    | some ns => rw [e] at h; exact ⟨ns, by rw [asBools_some e], (Option.some.inj h).symm⟩
  · cases h
theorem cbd_maxL (hK : P.K.K = X.K) : CbD P (rMax X.K) maxLF := by
  intro c F H L ρ vs ds z Q R n hz q
  obtain ⟨ns, rfl, h⟩ := lInt_some hz
  obtain ⟨v, rfl, n0⟩ := now1 n
  obtain ⟨a1, ws, rfl, h1, r1⟩ := n0.list R.sub
  cases hne : ns.isEmpty with
  | true => rw [hne] at h; cases h
  | false =>
    rw [hne] at h
    cases h
    have hpos : 0 < ns.length := by cases ns with | nil => simp at hne | cons _ _ => simp
    rw [rp_ints r1] at h1
    refine ⟨a1, ns, rfl, hK ▸ h1, hpos, fun m m1 m2 => q F H _ (Same.refl F) R ?_⟩
    obtain ⟨k1, k2⟩ := maxN_is hpos
    have : m = maxN ns := Int.le_antisymm (k2 m m1) (m2 _ k1)
    rw [this]; exact .int _
theorem cbd_minL (hK : P.K.K = X.K) : CbD P (rMin X.K) minLF := by
  intro c F H L ρ vs ds z Q R n hz q
  obtain ⟨ns, rfl, h⟩ := lInt_some hz
  obtain ⟨v, rfl, n0⟩ := now1 n
  obtain ⟨a1, ws, rfl, h1, r1⟩ := n0.list R.sub
  cases hne : ns.isEmpty with
  | true => rw [hne] at h; cases h
  | false =>
    rw [hne] at h
    cases h
    have hpos : 0 < ns.length := by cases ns with | nil => simp at hne | cons _ _ => simp
    rw [rp_ints r1] at h1
    refine ⟨a1, ns, rfl, hK ▸ h1, hpos, fun m m1 m2 => q F H _ (Same.refl F) R ?_⟩
    obtain ⟨k1, k2⟩ := minN_is hpos
    have : m = minN ns := Int.le_antisymm (m2 _ k1) (k2 m m1)
    rw [this]; exact .int _
theorem cbd_sum (hK : P.K.K = X.K) : CbD P (rSum X.K) sumF := by
  intro c F H L ρ vs ds z Q R n hz q
  obtain ⟨ns, rfl, h⟩ := lInt_some hz
  obtain ⟨v, rfl, n0⟩ := now1 n
  obtain ⟨a1, ws, rfl, h1, r1⟩ := n0.list R.sub
  cases h
  rw [rp_ints r1] at h1
  exact ⟨a1, ns, rfl, hK ▸ h1, q F H _ (Same.refl F) R (.int _)⟩
theorem cbd_all (hK : P.K.K = X.K) : CbD P (rAll X.K) allF := by
  intro c F H L ρ vs ds z Q R n hz q
  obtain ⟨ns, rfl, rfl⟩ := lBool_some hz
  obtain ⟨v, rfl, n0⟩ := now1 n
  obtain ⟨a1, ws, rfl, h1, r1⟩ := n0.list R.sub
  rw [rp_bools r1] at h1
  exact ⟨a1, ns, rfl, hK ▸ h1, q F H _ (Same.refl F) R (.bl _)⟩
theorem cbd_any (hK : P.K.K = X.K) : CbD P (rAny X.K) anyF := by
  intro c F H L ρ vs ds z Q R n hz q
  obtain ⟨ns, rfl, rfl⟩ := lBool_some hz
  obtain ⟨v, rfl, n0⟩ := now1 n
  obtain ⟨a1, ws, rfl, h1, r1⟩ := n0.list R.sub
  rw [rp_bools r1] at h1
  exact ⟨a1, ns, rfl, hK ▸ h1, q F H _ (Same.refl F) R (.bl _)⟩

/-! ### a, b = (x, y) -/
theorem HoS.frzAll {rs : List DR} {k : List D → M Fl} {ρ : List DV} {vs : List V} {De : Ends} (h : HoS P c F (M.bind (DL.frzAll rs) k ρ) De) (R : Rl P.K c F ρ σ H) (hv : Paired (RefV P.K F σ) vs rs) :
    ∃ ds F1 ρ1, Same F F1 ∧ Rl P.K c F1 ρ1 σ H ∧ RpAll P.K F1 vs ds ∧ HoS P c F1 (k ds ρ1) De := by
  have h1 := HoS.bind σ h
  have e : M.bind (DL.frzAll rs) (fun ds => M.ok ds) ρ = DL.frzAll rs ρ := by
    unfold M.bind
    cases DL.frzAll rs ρ with
    | none => rfl
    | some o => obtain ⟨o, r⟩ := o; cases o <;> rfl
  rw [← e] at h1
  obtain ⟨ds, F1, ρ1, s1, R1, r1, q1⟩ := Ho.frzAll h1 (nilτ R) (by rw [List.append_nil]; exact hv)
  exact ⟨ds, F1, ρ1, s1, nilτ' R1, r1, Ho.now q1 R1⟩
theorem setDs_ok : ∀ {is : List Nat} {ds : List D} {ρ : List DV} {o : Except Ex Unit × List DV}, setDs is ds ρ = some o → ∃ ρ', o = (.ok (), ρ') ∧ ds.length = is.length
  | [], [], ρ, o, h => by cases h; exact ⟨ρ, rfl, rfl⟩
  | [], _ :: _, _, _, h => by cases h
  | _ :: _, [], _, _, h => by cases h
  | i :: is, d :: ds, ρ, o, h => by
    unfold setDs M.bind at h
    cases z : setD i d ρ with
    | none => rw [z] at h; cases h
    | some o1 =>
      obtain ⟨e, _⟩ := setD_some z
      subst e
      rw [z] at h
      obtain ⟨ρ', e1, e2⟩ := setDs_ok (show setDs is ds _ = some o from h)
      exact ⟨ρ', e1, by rw [List.length_cons, List.length_cons, e2]⟩
def sPar (is : List Nat) (ms : M (List DR)) : M Fl := M.bind ms fun rs => M.bind (frzAll rs) fun ds => M.bind (setDs is ds) fun _ => M.ok .nx
theorem HoS.setDs {is : List Nat} {ds : List D} {k : Unit → M Fl} {ρ : List DV} {De : Ends} (h : HoS P c F (M.bind (DL.setDs is ds) k ρ) De) : ∃ ρ', DL.setDs is ds ρ = some (.ok (), ρ') ∧ ds.length = is.length ∧ HoS P c F (k () ρ') De := by
  unfold M.bind at h
  cases z : DL.setDs is ds ρ with
  | none => rw [z] at h; exact (show False from h).elim
  | some o =>
    obtain ⟨ρ', e1, e2⟩ := setDs_ok z
    subst e1
    rw [z] at h
    exact ⟨ρ', rfl, e2, h⟩
theorem ds_par2 {i j : Nat} {x y : Str} {px py pt : Pos} {kt k2 pt2} {ms : M (List DR)} (hc : X.calm = true) (hN : X.N.Nodup) (hi : X.N[i]? = some x) (hj : X.N[j]? = some y) (hij : i ≠ j)
    (hx : X.env.scope.names.lookup x = some .local) (hy : X.env.scope.names.lookup y = some .local) (ha : PA X [a, b] (tA P ms))
    (hw : swappedStores [.Tuple [.Name x px, .Name y py] kt pt] (.Tuple [a, b] k2 pt2) X.env = pure (some [x, y]))
    (hs : swapsWithSole [.Tuple [.Name x px, .Name y py] kt pt] (.Tuple [a, b] k2 pt2) pos.line X.env = pure false) :
    PS X (.Assign [.Tuple [.Name x px, .Name y py] kt pt] (.Tuple [a, b] k2 pt2) pos) (tS P (sPar [i, j] ms)) := (ps_par hc hN hi hj hij hx hy ha hw hs).of fun De σ H q => by
  obtain ⟨c, F, ρ, R, q⟩ := q
  refine ⟨c, F, [], ρ, nilτ R, (HoS.bind σ q).mono fun rs ρ1 F1 H1 s1 R1 q1 vs hvs => ?_⟩
  obtain ⟨ds, F2, ρ2, s2, R2, r2, q2⟩ := HoS.frzAll q1 (nilτ' R1) (by rw [List.append_nil] at hvs; exact hvs)
  obtain ⟨ρ3, e3, hl, q3⟩ := HoS.setDs q2
  match ds, hl, r2 with
  | [d, f], _, .cons (v := v) rv (.cons (v := w) rw' .nil) =>
    refine ⟨v, w, rfl, ?_⟩
    unfold DL.setDs M.bind at e3
    cases z : setD i d ρ2 with
    | none => rw [z] at e3; cases e3
    | some o =>
      obtain ⟨e, hb⟩ := setD_some z
      subst e
      rw [z] at e3
      dsimp only at e3
      unfold DL.setDs M.bind at e3
      cases z2 : setD j f (ρ2.set i (.dat d)) with
      | none => rw [z2] at e3; cases e3
      | some o =>
        obtain ⟨e, hb2⟩ := setD_some z2
        subst e
        rw [z2] at e3
        cases e3
        exact q3 _ F2 H1 (Same.refl _) ((R2.setD rv hb).setD rw' hb2)
theorem ds_par3 {i j l : Nat} {x y w : Str} {px py pz pt : Pos} {kt k2 pt2} {e3 : Expr} {ms : M (List DR)} (hc : X.calm = true) (hN : X.N.Nodup) (hi : X.N[i]? = some x) (hj : X.N[j]? = some y) (hl : X.N[l]? = some w) (hij : i ≠ j) (hil : i ≠ l) (hjl : j ≠ l)
    (hx : X.env.scope.names.lookup x = some .local) (hy : X.env.scope.names.lookup y = some .local) (hz : X.env.scope.names.lookup w = some .local) (ha : PA X [a, b, e3] (tA P ms))
    (hw : swappedStores [.Tuple [.Name x px, .Name y py, .Name w pz] kt pt] (.Tuple [a, b, e3] k2 pt2) X.env = pure (some [x, y, w]))
    (hs : swapsWithSole [.Tuple [.Name x px, .Name y py, .Name w pz] kt pt] (.Tuple [a, b, e3] k2 pt2) pos.line X.env = pure false) :
    PS X (.Assign [.Tuple [.Name x px, .Name y py, .Name w pz] kt pt] (.Tuple [a, b, e3] k2 pt2) pos) (tS P (sPar [i, j, l] ms)) := (ps_par3 hc hN hi hj hl hij hil hjl hx hy hz ha hw hs).of fun De σ H q => by
  obtain ⟨c, F, ρ, R, q⟩ := q
  refine ⟨c, F, [], ρ, nilτ R, (HoS.bind σ q).mono fun rs ρ1 F1 H1 s1 R1 q1 vs hvs => ?_⟩
  obtain ⟨ds, F2, ρ2, s2, R2, r2, q2⟩ := HoS.frzAll q1 (nilτ' R1) (by rw [List.append_nil] at hvs; exact hvs)
  obtain ⟨ρ3, e3, hl, q3⟩ := HoS.setDs q2
  match ds, hl, r2 with
  | [d, f, g], _, .cons (v := v) rv (.cons (v := w) rw' (.cons (v := u) ru .nil)) =>
    refine ⟨v, w, u, rfl, ?_⟩
    unfold DL.setDs M.bind at e3
    cases z : setD i d ρ2 with
    | none => rw [z] at e3; cases e3
    | some o =>
      obtain ⟨e, hb⟩ := setD_some z
      subst e
      rw [z] at e3
      dsimp only at e3
      unfold DL.setDs M.bind at e3
      cases z2 : setD j f (ρ2.set i (.dat d)) with
      | none => rw [z2] at e3; cases e3
      | some o =>
        obtain ⟨e, hb2⟩ := setD_some z2
        subst e
        rw [z2] at e3
        dsimp only at e3
        unfold DL.setDs M.bind at e3
        cases z3 : setD l g ((ρ2.set i (.dat d)).set j (.dat f)) with
        | none => rw [z3] at e3; cases e3
        | some o =>
          obtain ⟨e, hb3⟩ := setD_some z3
          subst e
          rw [z3] at e3
          cases e3
          exact q3 _ F2 H1 (Same.refl _) (((R2.setD rv hb).setD rw' hb2).setD ru hb3)
/-- the ordinary path: a tuple is made, then taken apart -/
theorem ds_parT {tes : List Expr} {is : List Nat} {kt k2 : Nat} {pt pt2 : Pos} {ms : M (List DR)} (hK : P.K.K = X.K) (hc : X.calm = true) (ha : PA X es (tA P ms)) (hg : PGs X tes (gTs P is)) (hn : (assignEach tes X.env).length = is.length) (hst : (assignEach tes X.env).findIdx? (·.1) = none) (hsz : is.length ≤ 1000)
    (hs : swapsWithSole [.Tuple tes kt pt] (.Tuple es k2 pt2) pos.line X.env = pure false) (hw : swappedStores [.Tuple tes kt pt] (.Tuple es k2 pt2) X.env = pure none) (h1 : (assignEach [.Tuple tes kt pt] X.env).map (·.2) = [assign (.Tuple tes kt pt) X.env]) :
    PS X (.Assign [.Tuple tes kt pt] (.Tuple es k2 pt2) pos) (tS P (sPar is ms)) := (ps_asg (pe_tup ha) (pg_tup hc hg hn hst) hs hw h1).of fun De σ H q => by
  have hz : sizeLine = 16777216 := sizeLine_eq
  obtain ⟨c, F, ρ, R, q⟩ := q
  refine ⟨c, F, [], ρ, nilτ R, (HoS.bind σ q).mono fun rs ρ1 F1 H1 s1 R1 q1 vs hvs => ?_⟩
  obtain ⟨ds, F2, ρ2, s2, R2, r2, q2⟩ := HoS.frzAll q1 (nilτ' R1) (by rw [List.append_nil] at hvs; exact hvs)
  obtain ⟨ρ3, e3, hl, q3⟩ := HoS.setDs q2
  have hlen : vs.length = is.length := by rw [r2.length, hl]
  refine ⟨by rw [hlen]; omega, fun p hp => ?_⟩
  have R3 := R2.new (o := .tup vs) hp
  have s3 : Same F2 (upd F2 p (.tup vs)) := Same.upd (fresh_of R2 hp)
  exact ⟨p, vs, rfl, .inl (.inl upd_same), hlen, c, _, [], ρ2, ds, nilτ R3, r2.mono s3, ρ3, e3, fun σ' F' H' s R' _ => q3 σ' F' H' (s3.trans s) (nilτ' R')⟩
/-- a, b = e, a tuple -/
def sUnp (is : List Nat) (m : M DR) : M Fl := M.bind m fun r => match r with
  | .dat (.tuple ds) => M.bind (setDs is ds) fun _ => M.ok .nx
  | _ => M.no
theorem ds_unp {tes : List Expr} {is : List Nat} {kt : Nat} {pt : Pos} {m : M DR} (hK : P.K.K = X.K) (hc : X.calm = true) (he : PE X e (tE P m)) (hg : PGs X tes (gTs P is)) (hn : (assignEach tes X.env).length = is.length) (hst : (assignEach tes X.env).findIdx? (·.1) = none)
    (hs : swapsWithSole [.Tuple tes kt pt] e pos.line X.env = pure false) (hw : swappedStores [.Tuple tes kt pt] e X.env = pure none) (h1 : (assignEach [.Tuple tes kt pt] X.env).map (·.2) = [assign (.Tuple tes kt pt) X.env]) :
    PS X (.Assign [.Tuple tes kt pt] e pos) (tS P (sUnp is m)) := (ps_asg he (pg_tup hc hg hn hst) hs hw h1).of fun De σ H q => by
  obtain ⟨c, F, ρ, R, q⟩ := q
  refine ⟨c, F, [], ρ, nilτ R, (HoS.bind σ q).mono fun r ρ1 F1 H1 s1 R1 q1 v hv => ?_⟩
  match r, hv, q1 with
  | .dat (.tuple ds), hv, q1 =>
    obtain ⟨ρ3, e3, hl, q3⟩ := HoS.setDs (show HoS P c F1 (M.bind (DL.setDs is ds) (fun _ => M.ok .nx) ρ1) De from q1)
    have hv' : Rp P.K F1 v (.tuple ds) := hv
    cases hv' with
    | @tup a xs _ h1 h2 =>
      exact ⟨a, xs, rfl, hK ▸ sqt_mono R1.sub h1, by rw [h2.length, hl], c, F1, [], ρ1, ds, R1, h2, ρ3, e3, fun σ' F' H' s R' _ => q3 σ' F' H' s (nilτ' R')⟩
/-- is None, of an exception too -/
def isNR (neg : Bool) : DR → M DR := fun r => match r with
  | .exc _ _ => M.ok (.dat (.bool neg))
  | r => M.bind (rd r) fun d => M.ok (.dat (.bool (if neg then !isNoneB d else isNoneB d)))
def eIsN (neg : Bool) (m : M DR) : M DR := M.bind m (isNR neg)
theorem isN_step {neg : Bool} {r : DR} {ρ1 : List DV} {v : V} {Q : VK} (R1 : Rl P.K c F ρ1 (σ ++ τ) H) (hv : RefV P.K F (σ ++ τ) v r) (q1 : Ho P c F σ τ (isNR neg r ρ1) fun r _ F' H' => ∀ v, RefV P.K F' (σ ++ τ) v r → Q v H') : Q (.bl (if neg then !decide (v = .non) else decide (v = .non))) H := by
  have dat : ∀ {r : DR}, RefV P.K F (σ ++ τ) v r → Ho P c F σ τ (M.bind (rd r) (fun d => M.ok (.dat (.bool (if neg then !isNoneB d else isNoneB d)))) ρ1) (fun r _ F' H' => ∀ v, RefV P.K F' (σ ++ τ) v r → Q v H') → Q (.bl (if neg then !decide (v = .non) else decide (v = .non))) H := fun {r} hv q1 => by
    obtain ⟨d, q2, n⟩ := Ho.now1 q1 R1 hv
    rw [n.isN]
    exact Ho.now q2 R1 _ (.bl _)
  cases r with
  | dat d => exact dat hv q1
  | loc p => exact dat hv q1
  | exc y d =>
    obtain ⟨a, dd, C, w, rfl, _⟩ := (show ExAt P.K F v y d from hv)
    have e : decide (V.ref a = V.non) = false := decide_eq_false (fun z => nomatch z)
    rw [e]
    have := Ho.now (a := DR.dat (.bool neg)) q1 R1 (.bl neg) (.bl neg)
    cases neg <;> exact this
theorem de_isNx {ma : M DR} {j : Nat} {p2 : Pos} (ha : PE X a (tE P ma)) : PE X (.Compare a [.Is] [.Constant .none j p2] pos) (tE P (eIsN false ma)) := (pe_cmp (pc_isN ha) rfl).of fun σ H Q q => by
  obtain ⟨c, F, τ, ρ, R, q⟩ := q
  exact ⟨c, F, τ, ρ, R, (Ho.bind q).mono fun x ρ1 F1 H1 s1 R1 q1 v hv => isN_step R1 hv q1⟩
theorem de_notNx {ma : M DR} {j : Nat} {p2 : Pos} (ha : PE X a (tE P ma)) : PE X (.Compare a [.IsNot] [.Constant .none j p2] pos) (tE P (eIsN true ma)) := (pe_cmp (pc_notN ha) rfl).of fun σ H Q q => by
  obtain ⟨c, F, τ, ρ, R, q⟩ := q
  exact ⟨c, F, τ, ρ, R, (Ho.bind q).mono fun x ρ1 F1 H1 s1 R1 q1 v hv => isN_step R1 hv q1⟩
theorem dt_isNx {ma : M DR} {j : Nat} {p2 : Pos} (ha : PE X a (tE P ma)) : PT X (.Compare a [.Is] [.Constant .none j p2] pos) (tT P (eB (eIsN false ma))) := (pt_cmp (pc_isN ha) rfl).of fun σ H Q q => tT_tB (t := tIsN (tE P ma)) (fun σ H Q q => by
  obtain ⟨c, F, τ, ρ, R, q⟩ := q
  exact ⟨c, F, τ, ρ, R, (Ho.bind q).mono fun x ρ1 F1 H1 s1 R1 q1 v hv => isN_step R1 hv q1⟩) σ H Q q
theorem dt_notNx {ma : M DR} {j : Nat} {p2 : Pos} (ha : PE X a (tE P ma)) : PT X (.Compare a [.IsNot] [.Constant .none j p2] pos) (tT P (eB (eIsN true ma))) := (pt_cmp (pc_notN ha) rfl).of fun σ H Q q => tT_tB (t := tNotN (tE P ma)) (fun σ H Q q => by
  obtain ⟨c, F, τ, ρ, R, q⟩ := q
  exact ⟨c, F, τ, ρ, R, (Ho.bind q).mono fun x ρ1 F1 H1 s1 R1 q1 v hv => isN_step R1 hv q1⟩) σ H Q q

/-! ### list(range(a, b)) -/
theorem rp_map {K : Frag} {F : Hp} {α : Type} (f : α → V) (g : α → D) (h : ∀ x, Rp K F (f x) (g x)) : ∀ l : List α, RpAll K F (l.map f) (l.map g)
  | [] => .nil
  | x :: l => .cons (h x) (rp_map f g h l)
def rgOk (i j : Int) : Bool := okR i && okR j && decide ((j - i).toNat ≤ 2 ^ 24)
def rgLF (d e : D) : Option D := match d, e with
  | .int i, .int j => if rgOk i j then some (.list (rangeD i j)) else none
  | _, _ => none
def rLrg : R2 := fun x y H Q => ∃ i j, x = .int i ∧ y = .int j ∧ RgOk i j ∧ ∀ q, H q = none → Q (.ref q) (upd H q (.lst (rgV i j)))
theorem rgOk_of {i j : Int} (h : rgOk i j = true) : RgOk i j := by
  unfold rgOk at h
  simp only [Bool.and_eq_true, decide_eq_true_eq] at h
  obtain ⟨⟨h1, h2⟩, h3⟩ := h
  exact ⟨(okR_of h1).1, (okR_of h1).2, (okR_of h2).1, (okR_of h2).2, h3⟩
theorem rg_rp {K : Frag} {F : Hp} (i j : Int) : RpAll K F (rgV i j) (rangeD i j) := rp_map _ _ (fun _ => .int _) _
theorem opd_lrg : OpD X P rLrg rgLF := by
  intro c F H L ρ x y d e z Q R n1 n2 hz q
  unfold rgLF at hz
  split at hz
  · split at hz
    · rename_i i j hok
      cases wid hz
      exact ⟨i, j, n1.int, n2.int, rgOk_of hok, fun p hp => q _ _ _ (Same.upd (fresh_of R hp)) (R.new hp) (.lst (.inl (.inl upd_same)) (rg_rp i j))⟩
    · cases hz
  · cases hz
theorem de_lrg2 {p p2 pos2 : Pos} {ma mb : M DR} (hc : X.calm = true) (hg : Gl X "list") (hm : X.mg "list" = none) (hg2 : Gl X "range") (hm2 : X.mg "range" = none) (ha : PE X a (tE P ma)) (hb : PE X b (tE P mb))
    (n1 : starEach [a, b] X.env = (false, eval a X.env) :: starEach [b] X.env) (n2 : starEach [b] X.env = (false, eval b X.env) :: starEach [] X.env) (n3 : starEach [Expr.Call (.Name "range" p2) [a, b] [] pos2] X.env = (false, eval (Expr.Call (.Name "range" p2) [a, b] [] pos2) X.env) :: starEach [] X.env) (hp : (backTo pos2 (starEach [b] X.env)).any (·.1) = false) :
    PE X (.Call (.Name "list" p) [.Call (.Name "range" p2) [a, b] [] pos2] [] pos) (tE P (eOp2 rgLF ma mb)) :=
  (pe_listRg hc hg hm (prg_2 hg2 hm2 ha hb n1 n2 hp) n3).of fun σ H Q q => by
    obtain ⟨c, F, τ, ρ, R, q⟩ := tE_op2 (X := X) (opd_lrg (X := X)) σ H Q q
    refine ⟨c, F, τ, ρ, R, q.mono fun r ρ1 F1 H1 s1 R1 q1 v hv => ?_⟩
    obtain ⟨c2, F2, τ2, ρ2, R2, q2⟩ := q1 v hv
    refine ⟨c2, F2, τ2, ρ2, R2, q2.mono fun r2 ρ3 F3 H3 s3 R3 q3 w hw => ?_⟩
    obtain ⟨i, j, e1, e2, e3, e4⟩ := q3 w hw
    exact ⟨i, j, e1, e2, e3, e4⟩
end
end DL

set_option Elab.async false
set_option linter.all false
set_option maxRecDepth 100000
set_option maxHeartbeats 4000000
/-! DX6: return of a new list; x = [.. for ..] on one line; append; small helps for printed proofs. -/
namespace DL
open PySem PySem.Spec PyProof.Rows L2

section
variable {K : Frag} {c : Ct} {F H : Hp} {ρ : List DV} {L : List (Option V)}
/-- the last temporary is let go -/
theorem Rl.dropLast {x : DV} {v : Option V} (R : Rl K c F (ρ ++ [x]) (L ++ [v]) H) (hl : ρ.length = L.length) (hb : x.isBor = false) : Rl K c F ρ L H := by
  refine Rl.patch R hl (fun i y w e1 e2 => .inl ⟨?_, ?_⟩) fun p hp => ?_
  · rw [List.getElem?_append_left (List.getElem?_eq_some_iff.mp e1).1]; exact e1
  · rw [List.getElem?_append_left (List.getElem?_eq_some_iff.mp e2).1]; exact e2
  · obtain ⟨⟨fs, g1⟩, g2⟩ := R.lent p hp
    have hp1 : p.1 < ρ.length := by
      rcases Nat.lt_or_ge p.1 ρ.length with h | h
      · exact h
      · rw [List.getElem?_append_right h] at g1
        have h1 := (List.getElem?_eq_some_iff.mp g1).1
        have h2 : p.1 - ρ.length = 0 := by simp at h1; omega
        rw [h2] at g1
        cases g1
        simp [DV.isBor] at hb
    rw [List.getElem?_append_left hp1, List.getElem?_append_left (by omega)]
    exact ⟨rfl, rfl⟩
end
section
variable {X : Cx} {P : Ps} {a b e : Expr} {es : List Expr} {pos : Pos} {c : Ct} {F H : Hp} {σ : L2.St} {τ : List (Option V)}
theorem _root_.L2.PW.fin {X : Cx} {e : Expr} {t : TT} (h : PW X e t) : PT X e t := h.pt
/-- return of a list that was made just now -/
theorem ds_retN {m : M Unit} (h : PE X e (tN P m)) : PS X (.Return (some e) pos) (tS P (sRetN m)) := (ps_ret h).of fun De σ H q => by
  obtain ⟨c, F, ρ, R, q⟩ := q
  refine ⟨c, F, [], ρ, nilτ R, ?_⟩
  unfold sRetN M.bind at q
  match z : m ρ with
  | none => rw [z] at q; exact q
  | some (.error x, ρ1) => rw [z] at q; exact q σ
  | some (.ok u, ρ1) =>
    rw [z] at q
    intro F' H' v s R1
    rw [List.append_nil] at R1
    dsimp only at q
    split at q
    · rename_i ds hl
      obtain ⟨ys, rfl⟩ := List.getLast?_eq_some_iff.mp hl
      rw [List.dropLast_concat] at q
      have hlen : ys.length = σ.length := by
        have := R1.len
        simp only [List.length_append, List.length_singleton] at this
        omega
      have ex : (ys ++ [DV.lst ds])[ys.length]? = some (.lst ds) := by rw [List.getElem?_append_right (Nat.le_refl _)]; simp
      have ev : (σ ++ [some v])[ys.length]? = some (some v) := by rw [hlen, List.getElem?_append_right (Nat.le_refl _)]; simp
      obtain ⟨a, xs, e1, e2, e3, e4⟩ := R1.slot _ _ _ ex ev
      cases e1
      refine q _ σ F' H' s (R1.dropLast hlen rfl) ⟨a, xs, rfl, e2, ?_, R1.nobor _ ds a ex ev, e3, e4⟩
      rcases R1.fresh _ _ a ex (by simp [DV.own]) ev with g | g
      · exact g
      · exact absurd g (R1.nobor _ ds a ex ev)
    · exact (show False from q).elim
theorem ds_setLc {i : Nat} {y : Str} {py : Pos} {elt tg iter : Expr} {ifs : List Expr} {scope : Scope} {own : List (Str × Nat)} {spos : Pos} {mi : M (List D)} {t : DT} {mt : M Bool} {me : M DR} (hc : X.calm = true) (hN : X.N.Nodup) (hy : X.N[i]? = some y) (hyl : X.env.scope.names.lookup y = some .local)
    (hsw : swapsWith (.ListComp elt [⟨tg, iter, ifs, 0⟩] scope pos) (some (.Name y py)) spos.line X.env = pure true) (hi : PI X tg iter (tI P mi)) (ok : BlkOk X.N X.env.scope scope own)
    (hg : ∀ (s : Shared) (H : Hp) (C : Addr) (cl : List (Str × Addr)) (fp : List Addr), PG (X.blk s H scope (compEnvC scope cl C X.env) fp) tg (gT P.quiet t)) (ht : ∀ (s : Shared) (H : Hp) (C : Addr) (cl : List (Str × Addr)) (fp : List Addr), PTs (X.blk s H scope (compEnvC scope cl C X.env) fp) ifs (tT P.quiet mt))
    (he : ∀ (s : Shared) (H : Hp) (C : Addr) (cl : List (Str × Addr)) (fp : List Addr), PE (X.blk s H scope (compEnvC scope cl C X.env) fp) elt (tE P.quiet me)) (hs : ∀ x, foldedSetIterable iter X.env x = pure x) (hv : ∀ i ∈ t.slots, i ∈ own.map (·.2)) :
    PS X (.Assign [.Name y py] (.ListComp elt [⟨tg, iter, ifs, 0⟩] scope pos) spos) (tS P (sSetN i (nLc mi t mt me (own.map (·.2))))) :=
  (ps_setLc hc hN hy hyl hsw hi ok hg ht he hs).ofL fun De σ H hσ q =>
    ds_setNK (t := fun σ H Q => σ.length = X.N.length → _) (fun σ H Q q hσ => tN_lc (X := X) hv (fun i hi => by
      obtain ⟨p, hp, rfl⟩ := List.mem_map.mp hi
      exact (List.getElem?_eq_some_iff.mp (ok.ix p hp)).1) σ H Q hσ q) De σ H q hσ
theorem ds_setLcX {i : Nat} {y : Str} {py : Pos} {elt tg iter : Expr} {ifs : List Expr} {scope : Scope} {own : List (Str × Nat)} {spos : Pos} {mi : M (List D)} {t : DT} {mt : M Bool} {me : M DR} (hc : X.calm = true) (hN : X.N.Nodup) (hy : X.N[i]? = some y) (hyl : X.env.scope.names.lookup y = some .local)
    (hsw : swapsWith (.ListComp elt [⟨tg, iter, ifs, 0⟩] scope pos) (some (.Name y py)) spos.line X.env = pure true) (hi : PI X tg iter (tI P mi)) (ok : BlkOk X.N X.env.scope scope own)
    (hg : ∀ (s : Shared) (H : Hp) (C : Addr) (cl : List (Str × Addr)) (fp : List Addr), PG (X.blk s H scope (compEnvC scope cl C X.env) fp) tg (gT P.quiet t)) (ht : ∀ (s : Shared) (H : Hp) (C : Addr) (cl : List (Str × Addr)) (fp : List Addr), PTs (X.blk s H scope (compEnvC scope cl C X.env) fp) ifs (tT P.quiet mt))
    (he : ∀ (s : Shared) (H : Hp) (C : Addr) (cl : List (Str × Addr)) (fp : List Addr), PE (X.blk s H scope (compEnvC scope cl C X.env) fp) elt (tE P.quiet me)) (hs : ∀ x, foldedSetIterable iter X.env x = pure x) (hv : ∀ i ∈ t.slots, i ∈ own.map (·.2)) :
    PS X (.Assign [.Name y py] (.ListComp elt [⟨tg, iter, ifs, 0⟩] scope pos) spos) (tS P (sSetX i (eLc mi t mt me (own.map (·.2))))) :=
  (ps_setLc hc hN hy hyl hsw hi ok hg ht he hs).ofL fun De σ H hσ q =>
    ds_setXK (t := fun σ H Q => σ.length = X.N.length → _) (fun σ H Q q hσ => tE_of_tN (P := P) (t := fun σ H Q => σ.length = X.N.length → _) (fun σ H Q q hσ => tN_lc (X := X) hv (fun i hi => by
      obtain ⟨p, hp, rfl⟩ := List.mem_map.mp hi
      exact (List.getElem?_eq_some_iff.mp (ok.ix p hp)).1) σ H Q hσ q) σ H Q q hσ) De σ H q hσ
theorem de_lc {tg iter elt : Expr} {ifs : List Expr} {scope : Scope} {own : List (Str × Nat)} {mi : M (List D)} {t : DT} {mt : M Bool} {me : M DR} (hc : X.calm = true) (hN : X.N.Nodup) (hi : PI X tg iter (tI P mi)) (ok : BlkOk X.N X.env.scope scope own)
    (hg : ∀ (s : Shared) (H : Hp) (C : Addr) (cl : List (Str × Addr)) (fp : List Addr), PG (X.blk s H scope (compEnvC scope cl C X.env) fp) tg (gT P.quiet t)) (ht : ∀ (s : Shared) (H : Hp) (C : Addr) (cl : List (Str × Addr)) (fp : List Addr), PTs (X.blk s H scope (compEnvC scope cl C X.env) fp) ifs (tT P.quiet mt))
    (he : ∀ (s : Shared) (H : Hp) (C : Addr) (cl : List (Str × Addr)) (fp : List Addr), PE (X.blk s H scope (compEnvC scope cl C X.env) fp) elt (tE P.quiet me)) (hs : ∀ x, foldedSetIterable iter X.env x = pure x) (hv : ∀ i ∈ t.slots, i ∈ own.map (·.2)) :
    PE X (.ListComp elt [⟨tg, iter, ifs, 0⟩] scope pos) (tE P (eLc mi t mt me (own.map (·.2)))) :=
  (dn_lc hc hN hi ok hg ht he hs hv).of (tE_of_tN (P := P) fun _ _ _ q => q)
theorem de_v {i : Nat} {x : Str} (hN : X.N[i]? = some x) (hv : Vis X.env.scope x) (hd : (x == ("__debug__" : Str)) = false := by decide) (hcd : (x == ("__classdict__" : Str)) = false := by decide) : PE X (.Name x pos) (tE P (eVar i)) :=
  de_var hN hv (fun σ h => by rw [h]; exact (List.getElem?_eq_some_iff.mp hN).1) hd hcd
/-- units for repr -/
theorem room_u64 {k : Nat} {A : Around} (r : Room k A) : A.units + 64 < cLine := by have := r.un; omega
theorem room_u {k : Nat} {A : Around} (r : Room k A) : A.units + 200 < cLine := by have := r.un; omega
theorem gl_of {X : Cx} {x : Str} {sc : Scope} (h : sc.names.lookup x = some .globalImplicit) (e : X.env.scope = sc) : Gl X x := by
  subst e; exact h
/-- the answers of isinstance for a built-in type -/
def isTy (t : String) : D → Option Bool := fun d => kitB (tyD d) t
theorem paired_len {α β : Type} {r : α → β → Prop} : ∀ {xs : List α} {ys : List β}, Paired r xs ys → xs.length = ys.length
  | _, _, .nil => rfl
  | _, _, .cons _ t => by rw [List.length_cons, List.length_cons, paired_len t]
theorem paired_at {α β : Type} {r : α → β → Prop} : ∀ {xs : List α} {ys : List β} {i : Nat} {x : α}, Paired r xs ys → xs[i]? = some x → ∃ y, ys[i]? = some y ∧ r x y
  | _, _, _, _, .nil, e => by simp at e
  | _, _, 0, _, .cons h _, e => by simp at e; subst e; exact ⟨_, rfl, h⟩
  | _, _, i + 1, _, .cons _ t, e => by
    obtain ⟨y, e1, h1⟩ := paired_at (i := i) t (by simpa using e)
    exact ⟨y, by simpa using e1, h1⟩
theorem paired_perm {α β : Type} {r : α → β → Prop} {xs : List α} {ys : List β} (h : Paired r xs ys) : ∀ π : List Nat, Paired r (permR π xs) (permR π ys)
  | [] => .nil
  | i :: π => by
    have ih := paired_perm h π
    show Paired r ((i :: π).filterMap fun i => xs[i]?) ((i :: π).filterMap fun i => ys[i]?)
    cases e : xs[i]? with
    | none =>
      have e2 : ys[i]? = none := by
        rw [List.getElem?_eq_none_iff] at e ⊢
        rw [← paired_len h]; exact e
      rw [List.filterMap_cons_none e, List.filterMap_cons_none e2]
      exact ih
    | some x =>
      obtain ⟨y, e2, hr⟩ := paired_at h e
      rw [List.filterMap_cons_some e, List.filterMap_cons_some e2]
      exact .cons hr ih
/-- how a call by names binds: π puts the written values in the parameters' order -/
def KwB (fd : FuncData) (ps ks : List Str) (π : List Nat) : Prop := ∀ (s : Shared) (ws : List Value), ws.length = ks.length → BindsTo s fd ⟨[], ks.zip ws⟩ (ps.zip (permR π ws))
theorem kwB_of {K : PySem.W.Frag} {x qual : Str} {st : Stmt} {f : Addr} {fd : FuncData} {ps ks : List Str} {π : List Nat} (F : Fun K x qual st f fd)
    (h : ∀ (kV doc pm : Value) (an : Option Addr) (cdv ct : Value) (ws : List Value), ws.length = ks.length → bindArgs (PySem.W.fnOf x qual (defArgs st) (defBody st) (defScope st) .none kV doc pm an cdv ct) ⟨[], ks.zip ws⟩ = pure (ps.zip (permR π ws))) : KwB fd ps ks π := by
  obtain ⟨oc, od, kV, doc, pm, an, cdv, ct, osl, rfl, lk, hcd⟩ := F.ex
  exact fun s ws hl => .of_eq (h kV doc pm an cdv ct ws hl)
theorem de_kw {n nk k : Nat} {π : List Nat} {f : Fsp} {ms : M (List DR)} {x : Str} {p : Pos} {fa : Addr} {fd : FuncData} {ps ks : List Str} {kws : List Keyword} (F : FnOkG X.prog X.w X.K X.mg X.base (L2.CX X.prog X.w) k fa fd ps (spD P.K false n f)) (hr : Room k X.A) (hG : X.A.guards = some []) (hg : Gl X x) (hm : X.mg x = some (.ref fa)) (hk : PySem.W.keepIn X.K (.ref fa) = true)
    (hb : KwB fd ps ks π) (tk : Takes X P.W) (hkw : PK X kws (tA P ms)) (hl : ALen ms nk) (hkl : ks.length = nk) (hπ : ∀ (vs : List V), vs.length = nk → (permR π vs).length = n) (hall : (backToKw pos (keywordEach kws X.env)).all (·.1.isSome) = true) (hks : (backToKw pos (keywordEach kws X.env)).filterMap (·.1) = ks)
    (hdb : (x == ("__debug__" : Str)) = false) (hpl : ((backTo pos (starEach [] X.env)).any (·.1) || (backToKw pos (keywordEach kws X.env)).any (·.1.isNone)) = false) :
    PE X (.Call (.Name x p) [] kws pos) (tE P (eCallK π f ms)) := by
  refine ⟨fun pins s σ H Q I h => ?_⟩
  have h2 : (fun σ H Q => (tA P ms) σ H fun zs H2 => zs.length = nk ∧ spD P.K false n f (permR π zs) H2 Q (WE P.W σ)) σ H Q := by
    have h3 := tE_callK (P := P) hl hπ σ H Q h
    obtain ⟨c, F0, τ, ρ, R, q⟩ := h3
    refine ⟨c, F0, τ, ρ, R, ?_⟩
    match z : ms ρ with
    | none => rw [z] at q; exact q
    | some (.error x, ρ1) => rw [z] at q; exact q
    | some (.ok rs, ρ1) =>
      rw [z] at q
      exact fun F1 H1 s1 R1 vs hvs => ⟨by rw [paired_len hvs, hl _ _ _ z], q F1 H1 s1 R1 vs hvs⟩
  refine wpAny_Call_Name_kw (ld_glob I hg hm ?_ hdb)
  refine PySem.W.callWith_KW0 (h₀ := X.base) I.ok.mod.kin hk hall ?_ hpl
  refine thn (hkw.run pos pins s σ H _ I h2) fun ws s2 ⟨zs, H2, I2, rz, hz, q2⟩ => ⟨I2.kIn, ?_⟩
  rw [hks]
  have r2 := paired_perm rz π
  refine wpAny_call (codeAny_mono (F.run X.A X.stack s2 H2 ⟨[], ks.zip ws⟩ (permR π ws) (permR π zs) Q _ hr hG I2.env0 (hb s2 ws (by rw [← paired_len rz, hz, hkl])) r2 q2) fun r s' hq => ?_)
  cases r with
  | error e => exact passAt tk σ pins H2 s2 e s' I2 hq
  | ok fl =>
    cases fl with
    | ret u => exact I2.after hq
    | next => exact False.elim hq
    | brk => exact False.elim hq
    | cont => exact False.elim hq
/-- == of texts of any signs, of other data -/
def eqX : D → D → Option D
  | .str x, .str y => some (.bool (x == y))
  | d, e => eqD d e
def neX : D → D → Option D
  | .str x, .str y => some (.bool (!(x == y)))
  | d, e => neD d e
theorem opd_eqX (hK : P.K.K = X.K) : OpD X P (fun x y H Q => rEq x y H Q ∨ rEqD X.K x y H Q) eqX := by
  intro c F H L ρ x y d e z Q R n1 n2 hz q
  unfold eqX at hz
  split at hz
  · rename_i a b
    cases wid hz
    rw [n1.str, n2.str]
    refine .inl ⟨rfl, ?_⟩
    rw [dec_str]
    exact q F H _ (Same.refl F) R (.bl _)
  · exact .inr (opd_eq hK c F H L ρ x y d e z Q R n1 n2 hz q)
theorem opd_neX (hK : P.K.K = X.K) : OpD X P (fun x y H Q => rNe x y H Q ∨ rNeD X.K x y H Q) neX := by
  intro c F H L ρ x y d e z Q R n1 n2 hz q
  unfold neX at hz
  split at hz
  · rename_i a b
    cases wid hz
    rw [n1.str, n2.str]
    refine .inl ⟨rfl, ?_⟩
    rw [dec_str]
    exact q F H _ (Same.refl F) R (.bl _)
  · exact .inr (opd_ne hK c F H L ρ x y d e z Q R n1 n2 hz q)
end
end DL

set_option Elab.async false
set_option linter.all false
set_option maxRecDepth 100000
set_option maxHeartbeats 4000000
/-! DY1: reading the readings: what a step does, by simp. -/
namespace DL
open PySem PySem.Spec PyProof.Rows L2
/-- the step goes through, and Q holds behind it -/
def Wp {α : Type} (m : M α) (ρ : List DV) (Q : α → List DV → Prop) : Prop := ∃ a ρ', m ρ = some (.ok a, ρ') ∧ Q a ρ'
section
variable {α β : Type} {ρ : List DV}
theorem Wp.mono {m : M α} {Q Q' : α → List DV → Prop} (h : Wp m ρ Q) (f : ∀ a ρ', Q a ρ' → Q' a ρ') : Wp m ρ Q' := by
  obtain ⟨a, ρ', e, q⟩ := h; exact ⟨a, ρ', e, f a ρ' q⟩
@[simp] theorem wp_ok {a : α} {Q : α → List DV → Prop} : Wp (M.ok a) ρ Q ↔ Q a ρ := ⟨fun ⟨b, ρ', e, q⟩ => by cases e; exact q, fun q => ⟨a, ρ, rfl, q⟩⟩
@[simp] theorem wp_no {Q : α → List DV → Prop} : Wp (M.no : M α) ρ Q ↔ False := ⟨fun ⟨b, ρ', e, q⟩ => (by cases e), False.elim⟩
@[simp] theorem wp_bind {m : M α} {k : α → M β} {Q : β → List DV → Prop} : Wp (M.bind m k) ρ Q ↔ Wp m ρ fun a ρ' => Wp (k a) ρ' Q := by
  constructor
  · rintro ⟨b, ρ', e, q⟩
    unfold M.bind at e
    match z : m ρ with
    | none => rw [z] at e; cases e
    | some (.ok a, ρ1) => rw [z] at e; exact ⟨a, ρ1, z, b, ρ', e, q⟩
    | some (.error x, ρ1) => rw [z] at e; cases e
  · rintro ⟨a, ρ1, z, b, ρ', e, q⟩
    exact ⟨b, ρ', by unfold M.bind; rw [z]; exact e, q⟩
@[simp] theorem wp_opt {o : Option α} {Q : α → List DV → Prop} : Wp (M.opt o) ρ Q ↔ ∃ a, o = some a ∧ Q a ρ := by
  constructor
  · rintro ⟨a, ρ', e, q⟩
    unfold M.opt at e
    cases o with
    | none => cases e
    | some b => cases e; exact ⟨_, rfl, q⟩
  · rintro ⟨a, rfl, q⟩; exact ⟨a, ρ, rfl, q⟩
def vr (i : Nat) : Option DV → Option DR
  | some (.dat d) => some (.dat d)
  | some (.lst _) => some (.loc i)
  | some (.bor _) => some (.loc i)
  | some (.exc c d) => some (.exc c d)
  | _ => none
@[simp] theorem wp_eVar {i : Nat} {Q : DR → List DV → Prop} : Wp (eVar i) ρ Q ↔ ∃ r, vr i ρ[i]? = some r ∧ Q r ρ := by
  constructor
  · rintro ⟨a, ρ', e, q⟩
    unfold eVar at e
    split at e
    all_goals first | cases e | skip
    all_goals first | (rename_i h; rw [h]; exact ⟨_, rfl, q⟩) | (rename_i h _; rw [h]; exact ⟨_, rfl, q⟩)
  · rintro ⟨r, e, q⟩
    refine ⟨r, ρ, ?_, q⟩
    unfold eVar
    cases h : ρ[i]? with
    | none => rw [h] at e; cases e
    | some x =>
      rw [h] at e
      cases x <;> cases e <;> rfl
@[simp] theorem wp_eLit {d : D} {Q : DR → List DV → Prop} : Wp (eLit d) ρ Q ↔ Q (.dat d) ρ := wp_ok
@[simp] theorem wp_rd_dat {d : D} {Q : D → List DV → Prop} : Wp (rd (.dat d)) ρ Q ↔ Q d ρ := ⟨fun ⟨b, ρ', e, q⟩ => by cases e; exact q, fun q => ⟨d, ρ, rfl, q⟩⟩
@[simp] theorem wp_rd_loc {p : Nat} {Q : D → List DV → Prop} : Wp (rd (.loc p)) ρ Q ↔ ∃ ds, (ρ[p]?).bind DV.own = some ds ∧ Q (.list ds) ρ := by
  constructor
  · rintro ⟨a, ρ', e, q⟩
    unfold rd at e
    dsimp only at e
    split at e
    · cases e; rename_i h; exact ⟨_, h, q⟩
    · cases e
  · rintro ⟨ds, h, q⟩
    refine ⟨.list ds, ρ, ?_, q⟩
    unfold rd; dsimp only; rw [h]
@[simp] theorem wp_frz_dat {d : D} {Q : D → List DV → Prop} : Wp (frz (.dat d)) ρ Q ↔ Q d ρ := ⟨fun ⟨b, ρ', e, q⟩ => by cases e; exact q, fun q => ⟨d, ρ, rfl, q⟩⟩
@[simp] theorem wp_frzAll_nil {Q : List D → List DV → Prop} : Wp (frzAll []) ρ Q ↔ Q [] ρ := wp_ok
@[simp] theorem wp_frzAll_cons {r : DR} {rs : List DR} {Q : List D → List DV → Prop} : Wp (frzAll (r :: rs)) ρ Q ↔ Wp (frz r) ρ fun d ρ1 => Wp (frzAll rs) ρ1 fun ds ρ2 => Q (d :: ds) ρ2 := by
  show Wp (M.bind _ _) ρ Q ↔ _
  simp only [wp_bind, wp_ok]
@[simp] theorem wp_rdAll_nil {Q : List D → List DV → Prop} : Wp (rdAll []) ρ Q ↔ Q [] ρ := wp_ok
@[simp] theorem wp_rdAll_cons {r : DR} {rs : List DR} {Q : List D → List DV → Prop} : Wp (rdAll (r :: rs)) ρ Q ↔ Wp (rd r) ρ fun d ρ1 => Wp (rdAll rs) ρ1 fun ds ρ2 => Q (d :: ds) ρ2 := by
  show Wp (M.bind _ _) ρ Q ↔ _
  simp only [wp_bind, wp_ok]
@[simp] theorem wp_setD {i : Nat} {d : D} {Q : Unit → List DV → Prop} : Wp (setD i d) ρ Q ↔ ∃ x, ρ[i]? = some x ∧ x.isBor = false ∧ Q () (ρ.set i (.dat d)) := by
  constructor
  · rintro ⟨a, ρ', e, q⟩
    unfold setD at e
    split at e
    · rename_i x h
      split at e
      · cases e
      · rename_i hb; cases e; exact ⟨x, h, Bool.eq_false_iff.mpr hb, q⟩
    · cases e
  · rintro ⟨x, h, hb, q⟩
    exact ⟨(), _, by unfold setD; rw [h]; dsimp only; rw [hb]; rfl, q⟩
@[simp] theorem wp_setV {i : Nat} {d : DV} {Q : Unit → List DV → Prop} : Wp (setV i d) ρ Q ↔ ∃ x, ρ[i]? = some x ∧ x.isBor = false ∧ Q () (ρ.set i d) := by
  constructor
  · rintro ⟨a, ρ', e, q⟩
    unfold setV at e
    split at e
    · rename_i x h
      split at e
      · cases e
      · rename_i hb; cases e; exact ⟨x, h, Bool.eq_false_iff.mpr hb, q⟩
    · cases e
  · rintro ⟨x, h, hb, q⟩
    exact ⟨(), _, by unfold setV; rw [h]; dsimp only; rw [hb]; rfl, q⟩
@[simp] theorem wp_eOp2 {f : D → D → Option D} {ma mb : M DR} {Q : DR → List DV → Prop} : Wp (eOp2 f ma mb) ρ Q ↔ Wp ma ρ fun x ρ1 => Wp mb ρ1 fun y ρ2 => Wp (rd x) ρ2 fun d ρ3 => Wp (rd y) ρ3 fun e ρ4 => ∃ z, f d e = some z ∧ Q (.dat z) ρ4 := by
  unfold eOp2; simp only [wp_bind, wp_opt, wp_ok]
@[simp] theorem wp_eOp1 {f : D → Option D} {ma : M DR} {Q : DR → List DV → Prop} : Wp (eOp1 f ma) ρ Q ↔ Wp ma ρ fun x ρ1 => Wp (rd x) ρ1 fun d ρ2 => ∃ z, f d = some z ∧ Q (.dat z) ρ2 := by
  unfold eOp1; simp only [wp_bind, wp_opt, wp_ok]
@[simp] theorem wp_asB {b : Bool} {Q : Bool → List DV → Prop} : Wp (asB (.dat (.bool b))) ρ Q ↔ Q b ρ := ⟨fun ⟨c, ρ', e, q⟩ => by cases e; exact q, fun q => ⟨b, ρ, rfl, q⟩⟩
@[simp] theorem wp_eB {m : M DR} {Q : Bool → List DV → Prop} : Wp (eB m) ρ Q ↔ Wp m ρ fun r ρ1 => Wp (asB r) ρ1 Q := by unfold eB; simp only [wp_bind]
@[simp] theorem wp_if {c : Bool} {m1 m2 : M α} {Q : α → List DV → Prop} : Wp (if c = true then m1 else m2) ρ Q ↔ (if c = true then Wp m1 ρ Q else Wp m2 ρ Q) := by cases c <;> rfl
@[simp] theorem wp_andT {m1 m2 : M Bool} {Q : Bool → List DV → Prop} : Wp (andT m1 m2) ρ Q ↔ Wp m1 ρ fun b ρ1 => if b = true then Wp m2 ρ1 Q else Q false ρ1 := by unfold andT; simp only [wp_bind, wp_if, wp_ok]
@[simp] theorem wp_orT {m1 m2 : M Bool} {Q : Bool → List DV → Prop} : Wp (orT m1 m2) ρ Q ↔ Wp m1 ρ fun b ρ1 => if b = true then Q true ρ1 else Wp m2 ρ1 Q := by unfold orT; simp only [wp_bind, wp_if, wp_ok]
@[simp] theorem wp_notT {m : M Bool} {Q : Bool → List DV → Prop} : Wp (notT m) ρ Q ↔ Wp m ρ fun b ρ1 => Q (!b) ρ1 := by unfold notT; simp only [wp_bind, wp_ok]
@[simp] theorem wp_andV {m1 m2 : M DR} {Q : DR → List DV → Prop} : Wp (andV m1 m2) ρ Q ↔ Wp m1 ρ fun r ρ1 => Wp (asB r) ρ1 fun b ρ1 => if b = true then Wp m2 ρ1 Q else Q (.dat (.bool false)) ρ1 := by unfold andV; simp only [wp_bind, wp_eB, wp_if, wp_ok]
@[simp] theorem wp_orV {m1 m2 : M DR} {Q : DR → List DV → Prop} : Wp (orV m1 m2) ρ Q ↔ Wp m1 ρ fun r ρ1 => Wp (asB r) ρ1 fun b ρ1 => if b = true then Q (.dat (.bool true)) ρ1 else Wp m2 ρ1 Q := by unfold orV; simp only [wp_bind, wp_eB, wp_if, wp_ok]
@[simp] theorem wp_notV {m : M DR} {Q : DR → List DV → Prop} : Wp (notV m) ρ Q ↔ Wp m ρ fun r ρ1 => Wp (asB r) ρ1 fun b ρ1 => Q (.dat (.bool (!b))) ρ1 := by unfold notV; simp only [wp_bind, wp_eB, wp_ok]
@[simp] theorem wp_ifV {mc : M Bool} {m1 m2 : M DR} {Q : DR → List DV → Prop} : Wp (ifV mc m1 m2) ρ Q ↔ Wp mc ρ fun b ρ1 => if b = true then Wp m1 ρ1 Q else Wp m2 ρ1 Q := by unfold ifV; simp only [wp_bind, wp_if]
@[simp] theorem wp_eChain {f g : D → D → Option D} {ma mb mc : M DR} {Q : DR → List DV → Prop} : Wp (eChain f g ma mb mc) ρ Q ↔ Wp ma ρ fun x ρ1 => Wp mb ρ1 fun y ρ2 => Wp (rd x) ρ2 fun d ρ3 => Wp (rd y) ρ3 fun e ρ4 => ∃ b : Bool, f d e = some (.bool b) ∧
    (if b = true then (Wp mc ρ4 fun w ρ5 => Wp (rd y) ρ5 fun e ρ6 => Wp (rd w) ρ6 fun u ρ7 => ∃ z, g e u = some z ∧ Q (.dat z) ρ7) else Q (.dat (.bool false)) ρ4) := by
  unfold eChain
  simp only [wp_bind, wp_opt]
  constructor
  · intro h
    refine h.mono fun x ρ1 h => h.mono fun y ρ2 h => h.mono fun d ρ3 h => h.mono fun e ρ4 h => ?_
    obtain ⟨z, hz, h⟩ := h
    cases z with
    | bool b =>
      refine ⟨b, hz, ?_⟩
      cases b with
      | true => simpa only [wp_bind, wp_opt, wp_ok, if_true] using h
      | false => simpa only [wp_ok, Bool.false_eq_true, if_false] using h
    | _ => simp only [wp_no] at h
  · intro h
    refine h.mono fun x ρ1 h => h.mono fun y ρ2 h => h.mono fun d ρ3 h => h.mono fun e ρ4 h => ?_
    obtain ⟨b, hz, h⟩ := h
    refine ⟨_, hz, ?_⟩
    cases b with
    | true => simpa only [wp_bind, wp_opt, wp_ok, if_true] using h
    | false => simpa only [wp_ok, Bool.false_eq_true, if_false] using h
@[simp] theorem wp_aNil {Q : List DR → List DV → Prop} : Wp aNil ρ Q ↔ Q [] ρ := wp_ok
@[simp] theorem wp_aCons {m : M DR} {ms : M (List DR)} {Q : List DR → List DV → Prop} : Wp (aCons m ms) ρ Q ↔ Wp m ρ fun r ρ1 => Wp ms ρ1 fun rs ρ2 => Q (r :: rs) ρ2 := by unfold aCons; simp only [wp_bind, wp_ok]
@[simp] theorem wp_ifp {p : Prop} [Decidable p] {m : M α} {Q : α → List DV → Prop} : Wp (if p then m else M.no) ρ Q ↔ p ∧ Wp m ρ Q := by
  by_cases h : p
  · rw [if_pos h]; exact ⟨fun q => ⟨h, q⟩, fun q => q.2⟩
  · rw [if_neg h, wp_no]; exact ⟨False.elim, fun q => h q.1⟩
@[simp] theorem wp_eTup {ms : M (List DR)} {Q : DR → List DV → Prop} : Wp (eTup ms) ρ Q ↔ Wp ms ρ fun rs ρ1 => Wp (frzAll rs) ρ1 fun ds ρ2 => ds.length ≤ 16777216 ∧ Q (.dat (.tuple ds)) ρ2 := by unfold eTup; simp only [wp_bind, wp_ifp, wp_ok]
@[simp] theorem wp_eLst {ms : M (List DR)} {Q : DR → List DV → Prop} : Wp (eLst ms) ρ Q ↔ Wp ms ρ fun rs ρ1 => Wp (frzAll rs) ρ1 fun ds ρ2 => ds.length ≤ 16777216 ∧ Q (.dat (.list ds)) ρ2 := by unfold eLst; simp only [wp_bind, wp_ifp, wp_ok]
@[simp] theorem wp_eCB {f : List D → Option D} {ms : M (List DR)} {Q : DR → List DV → Prop} : Wp (eCB f ms) ρ Q ↔ Wp ms ρ fun rs ρ1 => Wp (rdAll rs) ρ1 fun ds ρ2 => ∃ z, f ds = some z ∧ Q (.dat z) ρ2 := by unfold eCB; simp only [wp_bind, wp_opt, wp_ok]
theorem wp_callD {f : Fsp} {ds : List D} {Q : RV → List DV → Prop} : Wp (callD f ds) ρ Q ↔ ∃ r w, f [] ds = some (.ok r, w) ∧ Q r ρ := by
  constructor
  · rintro ⟨a, ρ', e, q⟩
    unfold callD at e
    split at e
    · cases e
    · rename_i h; cases e; exact ⟨_, _, h, q⟩
    · cases e
  · rintro ⟨r, w, e, q⟩
    exact ⟨r, ρ, by unfold callD; rw [e], q⟩
theorem wp_callO {f : Fsp} {p : Nat} {ds : List D} {Q : RV → List DV → Prop} : Wp (callO f p ds) ρ Q ↔ ∃ x w r w', ρ[p]? = some x ∧ x.own = some w ∧ f w ds = some (.ok r, w') ∧ Q r (ρ.set p (x.put w')) := by
  constructor
  · rintro ⟨a, ρ', e, q⟩
    unfold callO at e
    split at e
    · cases e
    · rename_i x hx
      split at e
      · cases e
      · rename_i w hw
        split at e
        · cases e
        · rename_i h; cases e; exact ⟨_, _, _, _, hx, hw, h, q⟩
        · cases e
  · rintro ⟨x, w, r, w', hx, hw, e, q⟩
    exact ⟨r, _, by unfold callO; rw [hx]; dsimp only; rw [hw]; dsimp only; rw [e], q⟩
@[simp] theorem wp_callF {f : Fsp} {ms : M (List DR)} {Q : DR → List DV → Prop} : Wp (eCall false f ms) ρ Q ↔ Wp ms ρ fun rs ρ1 => Wp (frzAll rs) ρ1 fun ds ρ2 => ∃ r w, f [] ds = some (.ok r, w) ∧ Q (.dat (rvD r)) ρ2 := by
  unfold eCall callA; simp only [wp_bind, wp_callD, wp_ok, Bool.false_eq_true, if_false]
@[simp] theorem wp_callT {f : Fsp} {ms : M (List DR)} {Q : DR → List DV → Prop} : Wp (eCall true f ms) ρ Q ↔ Wp ms ρ fun rs ρ1 => ∃ p rs', rs = .loc p :: rs' ∧ Wp (frzAll rs') ρ1 fun ds ρ2 => ∃ x w r w', ρ2[p]? = some x ∧ x.own = some w ∧ f w ds = some (.ok r, w') ∧ Q (.dat (rvD r)) (ρ2.set p (x.put w')) := by
  unfold eCall callA
  simp only [wp_bind, if_true]
  constructor
  · intro h
    refine h.mono fun rs ρ1 h => ?_
    match rs, h with
    | .loc p :: rs, h => exact ⟨p, rs, rfl, by simpa only [wp_bind, wp_callO, wp_ok] using h⟩
    | [], h => simp only [wp_no] at h
    | .dat _ :: _, h => simp only [wp_no] at h
    | .exc _ _ :: _, h => simp only [wp_no] at h
  · intro h
    refine h.mono fun rs ρ1 h => ?_
    obtain ⟨p, rs', rfl, h⟩ := h
    simpa only [wp_bind, wp_callO, wp_ok] using h
@[simp] theorem wp_callK {π : List Nat} {f : Fsp} {ms : M (List DR)} {Q : DR → List DV → Prop} : Wp (eCallK π f ms) ρ Q ↔ Wp ms ρ fun rs ρ1 => Wp (frzAll rs) ρ1 fun ds ρ2 => ∃ r w, f [] (permR π ds) = some (.ok r, w) ∧ Q (.dat (rvD r)) ρ2 := by
  unfold eCallK; simp only [wp_bind, wp_callD, wp_ok]
theorem wp_nCallF {f : Fsp} {ms : M (List DR)} {Q : Unit → List DV → Prop} : Wp (nCall false f ms) ρ Q ↔ Wp ms ρ fun rs ρ1 => Wp (frzAll rs) ρ1 fun ds ρ2 => ∃ es w, f [] ds = some (.ok (.new es), w) ∧ Q () (ρ2 ++ [.lst es]) := by
  unfold nCall callA
  simp only [wp_bind, wp_callD, Bool.false_eq_true, if_false]
  constructor
  · intro h
    refine h.mono fun rs ρ1 h => h.mono fun ds ρ2 h => ?_
    obtain ⟨r, w, e, q⟩ := h
    cases r with
    | dat d => simp only [wp_no] at q
    | new es => obtain ⟨u, ρ', e2, q⟩ := q; cases e2; exact ⟨es, w, e, q⟩
  · intro h
    refine h.mono fun rs ρ1 h => h.mono fun ds ρ2 h => ?_
    obtain ⟨es, w, e, q⟩ := h
    exact ⟨_, w, e, (), _, rfl, q⟩
/-! statements -/
@[simp] theorem wp_sNil {Q : Fl → List DV → Prop} : Wp sNil ρ Q ↔ Q .nx ρ := wp_ok
@[simp] theorem wp_sNever {Q : Fl → List DV → Prop} : Wp sNever ρ Q ↔ False := wp_no
@[simp] theorem wp_sCons {m1 m2 : M Fl} {Q : Fl → List DV → Prop} : Wp (sCons m1 m2) ρ Q ↔ Wp m1 ρ fun f ρ1 => match f with
    | .nx => Wp m2 ρ1 Q
    | .brk => Q .brk ρ1
    | .cnt => Q .cnt ρ1
    | .ret r => Q (.ret r) ρ1 := by
  unfold sCons
  rw [wp_bind]
  constructor <;> intro h <;> refine h.mono fun f ρ1 h => ?_ <;> cases f <;> simpa only [wp_ok] using h
@[simp] theorem wp_sIf {mc : M Bool} {m1 m2 : M Fl} {Q : Fl → List DV → Prop} : Wp (sIf mc m1 m2) ρ Q ↔ Wp mc ρ fun b ρ1 => if b = true then Wp m1 ρ1 Q else Wp m2 ρ1 Q := by unfold sIf; simp only [wp_bind, wp_if]
@[simp] theorem wp_sRet {m : M DR} {Q : Fl → List DV → Prop} : Wp (sRet m) ρ Q ↔ Wp m ρ fun r ρ1 => Wp (frz r) ρ1 fun d ρ2 => Q (.ret (.dat d)) ρ2 := by unfold sRet; simp only [wp_bind, wp_ok]
@[simp] theorem wp_sExpr {m : M DR} {Q : Fl → List DV → Prop} : Wp (sExpr m) ρ Q ↔ Wp m ρ fun r ρ1 => Q .nx ρ1 := by unfold sExpr; simp only [wp_bind, wp_ok]
/-- a store of a value -/
def stX (i : Nat) (r : DR) : M Fl := match r with
  | .exc y d => M.bind (setV i (.exc y d)) fun _ => M.ok .nx
  | r => M.bind (frz r) fun d => M.bind (setD i d) fun _ => M.ok .nx
@[simp] theorem wp_sSetX {i : Nat} {m : M DR} {Q : Fl → List DV → Prop} : Wp (sSetX i m) ρ Q ↔ Wp m ρ fun r ρ1 => Wp (stX i r) ρ1 Q := by unfold sSetX; rw [wp_bind]; rfl
@[simp] theorem wp_stX_dat {i : Nat} {d : D} {Q : Fl → List DV → Prop} : Wp (stX i (.dat d)) ρ Q ↔ ∃ x, ρ[i]? = some x ∧ x.isBor = false ∧ Q .nx (ρ.set i (.dat d)) := by
  unfold stX; simp only [wp_bind, wp_frz_dat, wp_setD, wp_ok]
@[simp] theorem wp_stX_exc {i : Nat} {c : Str} {d : D} {Q : Fl → List DV → Prop} : Wp (stX i (.exc c d)) ρ Q ↔ ∃ x, ρ[i]? = some x ∧ x.isBor = false ∧ Q .nx (ρ.set i (.exc c d)) := by
  unfold stX; simp only [wp_bind, wp_setV, wp_ok]
@[simp] theorem wp_sPar {is : List Nat} {ms : M (List DR)} {Q : Fl → List DV → Prop} : Wp (sPar is ms) ρ Q ↔ Wp ms ρ fun rs ρ1 => Wp (frzAll rs) ρ1 fun ds ρ2 => Wp (setDs is ds) ρ2 fun _ ρ3 => Q .nx ρ3 := by unfold sPar; simp only [wp_bind, wp_ok]
@[simp] theorem wp_setDs_nil {Q : Unit → List DV → Prop} : Wp (setDs [] []) ρ Q ↔ Q () ρ := wp_ok
@[simp] theorem wp_setDs_cons {i : Nat} {is : List Nat} {d : D} {ds : List D} {Q : Unit → List DV → Prop} : Wp (setDs (i :: is) (d :: ds)) ρ Q ↔ ∃ x, ρ[i]? = some x ∧ x.isBor = false ∧ Wp (setDs is ds) (ρ.set i (.dat d)) Q := by
  show Wp (M.bind _ _) ρ Q ↔ _
  simp only [wp_bind, wp_setD]
@[simp] theorem wp_push {ds : List D} {Q : Unit → List DV → Prop} : Wp (push ds) ρ Q ↔ Q () (ρ ++ [.lst ds]) := ⟨fun ⟨b, ρ', e, q⟩ => by cases e; exact q, fun q => ⟨(), _, rfl, q⟩⟩
@[simp] theorem wp_sRetN {m : M Unit} {Q : Fl → List DV → Prop} : Wp (sRetN m) ρ Q ↔ Wp m ρ fun _ ρ1 => ∃ ds ρ2, ρ1 = ρ2 ++ [.lst ds] ∧ Q (.ret (.new ds)) ρ2 := by
  unfold sRetN
  rw [wp_bind]
  constructor
  · intro h
    refine h.mono fun u ρ1 h => ?_
    obtain ⟨a, ρ', e, q⟩ := h
    dsimp only at e
    split at e
    · rename_i ds hl
      cases e
      obtain ⟨ys, rfl⟩ := List.getLast?_eq_some_iff.mp hl
      exact ⟨ds, ys, rfl, by simpa using q⟩
    · cases e
  · intro h
    refine h.mono fun u ρ1 h => ?_
    obtain ⟨ds, ρ2, rfl, q⟩ := h
    exact ⟨_, _, by simp, q⟩
@[simp] theorem wp_nLst {ms : M (List DR)} {Q : Unit → List DV → Prop} : Wp (nLst ms) ρ Q ↔ Wp ms ρ fun rs ρ1 => Wp (frzAll rs) ρ1 fun ds ρ2 => ds.length ≤ 16777216 ∧ Q () (ρ2 ++ [.lst ds]) := by unfold nLst; simp only [wp_bind, wp_ifp, wp_push]
theorem wp_sSetN {i : Nat} {m : M Unit} {Q : Fl → List DV → Prop} : Wp (sSetN i m) ρ Q ↔ Wp m ρ fun _ ρ1 => ∃ ds ρ2 x, ρ1 = ρ2 ++ [.lst ds] ∧ ρ2[i]? = some x ∧ x.isBor = false ∧ Q .nx (ρ2.set i (.lst ds)) := by
  unfold sSetN
  simp only [wp_bind, wp_ok]
  constructor
  · intro h
    refine h.mono fun u ρ1 h => ?_
    obtain ⟨a, ρ', e, q⟩ := h
    unfold popTo at e
    split at e
    · rename_i ds hl
      obtain ⟨ys, rfl⟩ := List.getLast?_eq_some_iff.mp hl
      rw [List.dropLast_concat] at e
      split at e
      · rename_i x hx
        split at e
        · cases e
        · rename_i hb; cases e; exact ⟨ds, ys, x, rfl, hx, Bool.eq_false_iff.mpr hb, q⟩
      · cases e
    · cases e
  · intro h
    refine h.mono fun u ρ1 h => ?_
    obtain ⟨ds, ρ2, x, rfl, hx, hb, q⟩ := h
    refine ⟨(), _, ?_, q⟩
    unfold popTo
    simp only [List.getLast?_append, List.getLast?_singleton, Option.or_some, List.dropLast_concat, hx, hb]
    rfl
@[simp] theorem wp_sStore {me mo mi : M DR} {Q : Fl → List DV → Prop} : Wp (sStore me mo mi) ρ Q ↔ Wp me ρ fun r ρ1 => Wp (frz r) ρ1 fun d ρ2 => Wp mo ρ2 fun ro ρ3 => Wp mi ρ3 fun ri ρ4 => Wp (rd ri) ρ4 fun k ρ5 => Wp (storeK d ro k) ρ5 Q := by unfold sStore; simp only [wp_bind]
@[simp] theorem wp_storeK {d : D} {p : Nat} {k : Int} {Q : Fl → List DV → Prop} : Wp (storeK d (.loc p) (.int k)) ρ Q ↔ ∃ x ds j, ρ[p]? = some x ∧ x.own = some ds ∧ ixN ds.length k = some j ∧ Q .nx (ρ.set p (x.put (ds.set j d))) := by
  unfold storeK
  simp only [wp_bind, wp_ok]
  constructor
  · rintro ⟨a, ρ', e, q⟩
    obtain ⟨x, ds, es, h1, h2, h3, h4⟩ := wrAt_some e
    cases h4
    cases h : ixN ds.length k with
    | none => rw [h] at h3; cases h3
    | some j => rw [h] at h3; cases h3; exact ⟨x, ds, j, h1, h2, h, q⟩
  · rintro ⟨x, ds, j, h1, h2, h3, q⟩
    refine ⟨(), _, ?_, q⟩
    unfold wrAt; rw [h1]; dsimp only; rw [h2]; dsimp only; rw [h3]; rfl
@[simp] theorem wp_sFor {mi : M (List D)} {t : DT} {mb : M Fl} {Q : Fl → List DV → Prop} : Wp (sFor mi t mb) ρ Q ↔ Wp mi ρ fun ds ρ1 => Wp (forM_ (fun d => M.bind (setT t d) fun _ => mb) ds) ρ1 Q := by unfold sFor; simp only [wp_bind]
@[simp] theorem wp_iRng {ms : M (List DR)} {Q : List D → List DV → Prop} : Wp (iRng ms) ρ Q ↔ Wp ms ρ fun rs ρ1 => Wp (rdAll rs) ρ1 fun ds ρ2 => ∃ es, rngF ds = some es ∧ Q es ρ2 := by unfold iRng; simp only [wp_bind, wp_opt]
@[simp] theorem wp_iDat {m : M DR} {Q : List D → List DV → Prop} : Wp (iDat m) ρ Q ↔ Wp m ρ fun r ρ1 => Wp (frz r) ρ1 fun d ρ2 => ∃ es, itemsD d = some es ∧ Q es ρ2 := by unfold iDat; simp only [wp_bind, wp_opt]
/-- a loop, by what holds at each turn -/
theorem wp_for {b : D → M Fl} {Q : Fl → List DV → Prop} (I : List D → List DV → Prop) (hn : ∀ ρ, I [] ρ → Q .nx ρ) (hs : ∀ d ds ρ, I (d :: ds) ρ → Wp (b d) ρ fun f ρ1 => match f with
    | .nx => I ds ρ1
    | .cnt => I ds ρ1
    | .brk => Q .nx ρ1
    | .ret r => Q (.ret r) ρ1) : ∀ (ds : List D) (ρ : List DV), I ds ρ → Wp (forM_ b ds) ρ Q
  | [], ρ, h => wp_ok.mpr (hn ρ h)
  | d :: ds, ρ, h => by
    show Wp (M.bind (b d) _) ρ Q
    rw [wp_bind]
    refine (hs d ds ρ h).mono fun f ρ1 h1 => ?_
    cases f with
    | nx => exact wp_for I hn hs ds ρ1 h1
    | cnt => exact wp_for I hn hs ds ρ1 h1
    | brk => exact wp_ok.mpr h1
    | ret r => exact wp_ok.mpr h1
/-- a def, by its body -/
theorem runF_of {own : Bool} {n : Nat} {m : M Fl} {w ds : List D} {Q : RV → List D → Prop} (h : Wp m (initE own n w ds) fun f ρ => match f with
    | .nx => Q (.dat .none) (lentOf own ρ)
    | .ret r => Q r (lentOf own ρ)
    | _ => False) : ∃ r w', runF own n m w ds = some (.ok r, w') ∧ Q r w' := by
  obtain ⟨f, ρ, e, q⟩ := h
  unfold runF
  rw [e]
  cases f with
  | nx => exact ⟨_, _, rfl, q⟩
  | ret r => exact ⟨_, _, rfl, q⟩
  | brk => exact q.elim
  | cnt => exact q.elim
end
/-! data -/
theorem exists_some {α : Type} {x : α} {p : α → Prop} : (∃ a, some x = some a ∧ p a) ↔ p x := ⟨fun ⟨a, e, h⟩ => by cases e; exact h, fun h => ⟨x, rfl, h⟩⟩
@[simp] theorem addD_i {i j : Int} : addD (.int i) (.int j) = some (.int (i + j)) := rfl
@[simp] theorem subD_i {i j : Int} : subD (.int i) (.int j) = some (.int (i - j)) := rfl
@[simp] theorem ltD_i {i j : Int} : ltD (.int i) (.int j) = some (.bool (decide (i < j))) := rfl
@[simp] theorem leD_i {i j : Int} : leD (.int i) (.int j) = some (.bool (decide (i ≤ j))) := rfl
@[simp] theorem gtD_i {i j : Int} : gtD (.int i) (.int j) = some (.bool (decide (j < i))) := rfl
@[simp] theorem geD_i {i j : Int} : geD (.int i) (.int j) = some (.bool (decide (j ≤ i))) := rfl
@[simp] theorem negD_i {i : Int} : negD (.int i) = some (.int (-i)) := rfl
theorem mulD_i {i j : Int} (h : mulC i j = true) : mulD (.int i) (.int j) = some (.int (i * j)) := by show (if mulC i j then _ else _) = _; rw [if_pos h]
theorem modD_i {i j : Int} (h : 0 < j) : modD (.int i) (.int j) = some (.int (i % j)) := by show (if modC i j then _ else _) = _; rw [if_pos (show modC i j = true from decide_eq_true h)]
theorem fdivD_i {i j : Int} (h : 0 < j) (h2 : j.natAbs.log2 < 9000) : fdivD (.int i) (.int j) = some (.int (i / j)) := by
  show (if divC i j then _ else _) = _
  rw [if_pos (by unfold divC; rw [decide_eq_true h, decide_eq_true h2]; rfl)]
@[simp] theorem intF_i {i : Int} : intF [.int i] = some (.int i) := rfl
@[simp] theorem intF_b {b : Bool} : intF [.bool b] = some (.int (if b then 1 else 0)) := rfl
@[simp] theorem absF_i {i : Int} : absF [.int i] = some (.int (if i < 0 then -i else i)) := rfl
@[simp] theorem maxF_i {i j : Int} : maxF [.int i, .int j] = some (.int (if j > i then j else i)) := rfl
@[simp] theorem minF_i {i j : Int} : minF [.int i, .int j] = some (.int (if j < i then j else i)) := rfl
@[simp] theorem lenF_l {ds : List D} : lenF [.list ds] = some (.int ds.length) := rfl
@[simp] theorem lenF_t {ds : List D} : lenF [.tuple ds] = some (.int ds.length) := rfl
@[simp] theorem ixD_l {ds : List D} {i : Int} : ixD (.list ds) (.int i) = atI ds i := rfl
@[simp] theorem ixD_t {ds : List D} {i : Int} : ixD (.tuple ds) (.int i) = atI ds i := rfl
theorem mul_c1 {i j : Int} (h : j.natAbs < 2 ^ 64) : mulC i j = true := by unfold mulC; rw [decide_eq_true h, Bool.or_true, Bool.or_true]
theorem mul_c2 {i j : Int} (h : i.natAbs < 2 ^ 64) : mulC i j = true := by unfold mulC; rw [decide_eq_true h, Bool.true_or, Bool.or_true]
theorem log2_of {n k : Nat} (h : n < 2 ^ k) (hk : 0 < k) : n.log2 < k := by
  by_cases h0 : n = 0
  · subst h0; simpa using hk
  · exact (Nat.log2_lt h0).mpr h
theorem mul_c3 {i j : Int} (hi : i.natAbs < 2 ^ 1000) (hj : j.natAbs < 2 ^ 1000) : mulC i j = true := by
  have h1 := log2_of hi (by decide)
  have h2 := log2_of hj (by decide)
  unfold mulC
  rw [decide_eq_true (by omega : i.natAbs.log2 + j.natAbs.log2 < 1000000), Bool.true_or]
end DL

set_option Elab.async false
set_option linter.all false
set_option maxRecDepth 100000
set_option maxHeartbeats 4000000
namespace LK
open PySem PySem.Spec PyProof.Rows L2 DL
def top (i : Nat) : Stmt := PySem.Challenge.pw_leasesall_k31_least_servers_and_clocks_t.main.body.getD i (.Pass ⟨0, 0, 0, 0⟩)
abbrev st_is_integer : Stmt := top 5
abbrev st_is_between : Stmt := top 6
abbrev st_is_tuple : Stmt := top 7
abbrev st_need_number : Stmt := top 8
abbrev st_anew : Stmt := top 9
abbrev st_are_bounds : Stmt := top 12
abbrev st_need_bounds : Stmt := top 13
abbrev st_lease_is_safe : Stmt := top 14
abbrev st_least_server : Stmt := top 15
abbrev st_drifted : Stmt := top 16
abbrev st__law_well : Stmt := top 18
abbrev st__law_draw : Stmt := top 19
abbrev st__law_some_bounds : Stmt := top 20
abbrev st__law_drift : Stmt := top 21
abbrev st__law_refused : Stmt := top 22
abbrev st_law : Stmt := top 23
structure Ad where
  (init k_LeaseError k_InvalidNumber k_InvalidBounds : Addr)
  (is_integer is_between is_tuple need_number are_bounds need_bounds lease_is_safe least_server drifted _law_well _law_draw _law_some_bounds _law_drift _law_refused law : Addr)
structure Fd where
  (is_integer is_between is_tuple need_number are_bounds need_bounds lease_is_safe least_server drifted _law_well _law_draw _law_some_bounds _law_drift _law_refused law : FuncData)
/-- the classes that are raised, caught -/
def clsNs : List Str := ["LeaseError", "InvalidNumber", "InvalidBounds"]
def isCls (y : Str) : Bool := clsNs.contains y
def isCls2 (y : Str) : Option Bool := if isCls y then some true else none
def isEx (x y : Str) : Option Bool := if isCls y then some (x == y || x == "LeaseError") else none
def isNon : D → Option Bool
  | .none => some false
  | _ => none
structure Txt (Pg : Program) (K : PySem.W.Frag) (mg : Str → Option Value) (a : Ad) (d : Fd) : Prop where
  f_is_integer : Fun K "is_integer" "is_integer" st_is_integer a.is_integer d.is_integer
  g_is_integer : mg "is_integer" = some (.ref a.is_integer)
  f_is_between : Fun K "is_between" "is_between" st_is_between a.is_between d.is_between
  g_is_between : mg "is_between" = some (.ref a.is_between)
  f_is_tuple : Fun K "is_tuple" "is_tuple" st_is_tuple a.is_tuple d.is_tuple
  g_is_tuple : mg "is_tuple" = some (.ref a.is_tuple)
  f_need_number : Fun K "need_number" "need_number" st_need_number a.need_number d.need_number
  g_need_number : mg "need_number" = some (.ref a.need_number)
  f_are_bounds : Fun K "are_bounds" "are_bounds" st_are_bounds a.are_bounds d.are_bounds
  g_are_bounds : mg "are_bounds" = some (.ref a.are_bounds)
  f_need_bounds : Fun K "need_bounds" "need_bounds" st_need_bounds a.need_bounds d.need_bounds
  g_need_bounds : mg "need_bounds" = some (.ref a.need_bounds)
  f_lease_is_safe : Fun K "lease_is_safe" "lease_is_safe" st_lease_is_safe a.lease_is_safe d.lease_is_safe
  g_lease_is_safe : mg "lease_is_safe" = some (.ref a.lease_is_safe)
  f_least_server : Fun K "least_server" "least_server" st_least_server a.least_server d.least_server
  g_least_server : mg "least_server" = some (.ref a.least_server)
  f_drifted : Fun K "drifted" "drifted" st_drifted a.drifted d.drifted
  g_drifted : mg "drifted" = some (.ref a.drifted)
  f__law_well : Fun K "_law_well" "_law_well" st__law_well a._law_well d._law_well
  g__law_well : mg "_law_well" = some (.ref a._law_well)
  f__law_draw : Fun K "_law_draw" "_law_draw" st__law_draw a._law_draw d._law_draw
  g__law_draw : mg "_law_draw" = some (.ref a._law_draw)
  f__law_some_bounds : Fun K "_law_some_bounds" "_law_some_bounds" st__law_some_bounds a._law_some_bounds d._law_some_bounds
  g__law_some_bounds : mg "_law_some_bounds" = some (.ref a._law_some_bounds)
  f__law_drift : Fun K "_law_drift" "_law_drift" st__law_drift a._law_drift d._law_drift
  g__law_drift : mg "_law_drift" = some (.ref a._law_drift)
  f__law_refused : Fun K "_law_refused" "_law_refused" st__law_refused a._law_refused d._law_refused
  g__law_refused : mg "_law_refused" = some (.ref a._law_refused)
  f_law : Fun K "law" "law" st_law a.law d.law
  g_law : mg "law" = some (.ref a.law)
  b_abs : mg "abs" = none
  b_bool : mg "bool" = none
  b_int : mg "int" = none
  b_isinstance : mg "isinstance" = none
  b_len : mg "len" = none
  b_list : mg "list" = none
  b_max : mg "max" = none
  b_min : mg "min" = none
  b_range : mg "range" = none
  b_repr : mg "repr" = none
  b_tuple : mg "tuple" = none
  c_MOST_BOUND : ∃ t, mg "MOST_BOUND" = some (.int (60) t)
  le : PySem.LeX.LeTxt K mg Pg a.k_LeaseError a.init
  lc_LeaseError : PySem.LeX.LcTxt K a.k_LeaseError a.init a.k_LeaseError
  k_LeaseError : mg "LeaseError" = some (.ref a.k_LeaseError)
  lc_InvalidNumber : PySem.LeX.LcTxt K a.k_LeaseError a.init a.k_InvalidNumber
  k_InvalidNumber : mg "InvalidNumber" = some (.ref a.k_InvalidNumber)
  lc_InvalidBounds : PySem.LeX.LcTxt K a.k_LeaseError a.init a.k_InvalidBounds
  k_InvalidBounds : mg "InvalidBounds" = some (.ref a.k_InvalidBounds)
  nn_InvalidNumber : ∀ (d : D) (b : Bool), isNon d = some b → PySem.W.kitOne K (.type (tyD d)) (.ref a.k_InvalidNumber) = some b
  ie_InvalidNumber : ∀ (y : Str) (b : Bool) (C : Addr), isEx "InvalidNumber" y = some b → mg y = some (.ref C) → ExcC K C ∧ PySem.W.kitOne K (.ref C) (.ref a.k_InvalidNumber) = some b
  caOk : ∀ (y : Str) (b : Bool) (C : Addr), isCls2 y = some b → mg y = some (.ref C) → PySem.W.exmOne K (.ref C) (.ref a.k_LeaseError) = some b
  valOk : ∀ (y : Str) (C : Addr), isCls y = true → mg y = some (.ref C) → XfC K C ∧ PySem.W.findIn K (.ref C) "value" = some none
section
variable {Pg : Program} {wd : World} {K : PySem.W.Frag} {mg : Str → Option Value} {base : Heap} {a : Ad} {d : Fd}
/-! ### is_integer -/
abbrev N_is_integer : List Str := ["value"]
theorem sc_is_integer : FnScope N_is_integer ["value"] (defScope st_is_integer) := ⟨rfl, rfl, rfl, by decide +kernel, rfl, by decide +kernel, by decide +kernel⟩
theorem v_is_integer_value : Vis (defScope st_is_integer) ("value" : Str) := .inl (by decide +kernel)
theorem g_is_integer_isinstance : ((defScope st_is_integer)).names.lookup ("isinstance" : Str) = some .globalImplicit := by decide +kernel
theorem g_is_integer_int : ((defScope st_is_integer)).names.lookup ("int" : Str) = some .globalImplicit := by decide +kernel
theorem g_is_integer_bool : ((defScope st_is_integer)).names.lookup ("bool" : Str) = some .globalImplicit := by decide +kernel
def m_is_integer : M Fl := (sCons (sRet (andV (eIs (isTy "int") (fun _ => none) (eVar 0)) (notV (eIs (isTy "bool") (fun _ => none) (eVar 0))))) sNil)
def F_is_integer : Fsp := runF false 1 m_is_integer
theorem bi_is_integer (T : Txt Pg K mg a d) : Binds K d.is_integer ["value"] [] := T.f_is_integer.binds fun _ _ _ _ _ _ us hl => match us, hl with | [_], _ => rfl
theorem ok_is_integer (T : Txt Pg K mg a d) : FnOkG Pg wd K mg base (L2.CX Pg wd) 1 a.is_integer d.is_integer ["value"] (spD ⟨K, mg⟩ false 1 F_is_integer) :=
  fn_okG (k := 0) T.f_is_integer sc_is_integer fun cdv A outer s H E hr hG tk =>
    (ds_cons (ds_ret (de_and (de_isG rfl g_is_integer_isinstance T.b_isinstance (de_v (i := 0) rfl v_is_integer_value) (pe_bltn g_is_integer_int T.b_int (by decide +kernel) (v := .ty "int") rfl) (.ty "int") (fun _ _ h => kit_ty h) (fun _ _ _ h => nomatch h) rfl rfl rfl) (pe_one (de_not (de_isG rfl g_is_integer_isinstance T.b_isinstance (de_v (i := 0) rfl v_is_integer_value) (pe_bltn g_is_integer_bool T.b_bool (by decide +kernel) (v := .ty "bool") rfl) (.ty "bool") (fun _ _ h => kit_ty h) (fun _ _ _ h => nomatch h) rfl rfl rfl))))) ds_nil)
/-! ### is_between -/
abbrev N_is_between : List Str := ["value", "low", "high"]
theorem sc_is_between : FnScope N_is_between ["value", "low", "high"] (defScope st_is_between) := ⟨rfl, rfl, rfl, by decide +kernel, rfl, by decide +kernel, by decide +kernel⟩
theorem v_is_between_value : Vis (defScope st_is_between) ("value" : Str) := .inl (by decide +kernel)
theorem g_is_between_is_integer : ((defScope st_is_between)).names.lookup ("is_integer" : Str) = some .globalImplicit := by decide +kernel
theorem v_is_between_low : Vis (defScope st_is_between) ("low" : Str) := .inl (by decide +kernel)
theorem v_is_between_high : Vis (defScope st_is_between) ("high" : Str) := .inl (by decide +kernel)
def m_is_between : M Fl := (sCons (sRet (andV (eCall false F_is_integer (aCons (eVar 0) aNil)) (eChain leD leD (eVar 1) (eVar 0) (eVar 2)))) sNil)
def F_is_between : Fsp := runF false 3 m_is_between
theorem bi_is_between (T : Txt Pg K mg a d) : Binds K d.is_between ["value", "low", "high"] [] := T.f_is_between.binds fun _ _ _ _ _ _ us hl => match us, hl with | [_, _, _], _ => rfl
theorem ok_is_between (T : Txt Pg K mg a d) : FnOkG Pg wd K mg base (L2.CX Pg wd) 2 a.is_between d.is_between ["value", "low", "high"] (spD ⟨K, mg⟩ false 3 F_is_between) :=
  fn_okG (k := 1) T.f_is_between sc_is_between fun cdv A outer s H E hr hG tk =>
    (ds_cons (ds_ret (de_and (de_callG ((ok_is_integer T).mono (by decide : 1 ≤ 1)) hr hG g_is_between_is_integer T.g_is_integer T.f_is_integer.kp (bi_is_integer T) tk (da_cons (de_v (i := 0) rfl v_is_between_value) da_nil rfl) (alen_cons alen_nil) (by decide) rfl rfl) (pe_one (de_chain op_le opd_le op_le opd_le (de_v (i := 1) rfl v_is_between_low) (de_v (i := 0) rfl v_is_between_value) (de_v (i := 2) rfl v_is_between_high) rfl)))) ds_nil)
/-! ### is_tuple -/
abbrev N_is_tuple : List Str := ["value", "low", "high"]
theorem sc_is_tuple : FnScope N_is_tuple ["value", "low", "high"] (defScope st_is_tuple) := ⟨rfl, rfl, rfl, by decide +kernel, rfl, by decide +kernel, by decide +kernel⟩
theorem v_is_tuple_value : Vis (defScope st_is_tuple) ("value" : Str) := .inl (by decide +kernel)
theorem g_is_tuple_isinstance : ((defScope st_is_tuple)).names.lookup ("isinstance" : Str) = some .globalImplicit := by decide +kernel
theorem g_is_tuple_tuple : ((defScope st_is_tuple)).names.lookup ("tuple" : Str) = some .globalImplicit := by decide +kernel
theorem v_is_tuple_low : Vis (defScope st_is_tuple) ("low" : Str) := .inl (by decide +kernel)
theorem g_is_tuple_len : ((defScope st_is_tuple)).names.lookup ("len" : Str) = some .globalImplicit := by decide +kernel
theorem v_is_tuple_high : Vis (defScope st_is_tuple) ("high" : Str) := .inl (by decide +kernel)
def m_is_tuple : M Fl := (sCons (sRet (andV (eIs (isTy "tuple") (fun _ => none) (eVar 0)) (eChain leD leD (eVar 1) (eCB lenF (aCons (eVar 0) aNil)) (eVar 2)))) sNil)
def F_is_tuple : Fsp := runF false 3 m_is_tuple
theorem bi_is_tuple (T : Txt Pg K mg a d) : Binds K d.is_tuple ["value", "low", "high"] [] := T.f_is_tuple.binds fun _ _ _ _ _ _ us hl => match us, hl with | [_, _, _], _ => rfl
theorem ok_is_tuple (T : Txt Pg K mg a d) : FnOkG Pg wd K mg base (L2.CX Pg wd) 1 a.is_tuple d.is_tuple ["value", "low", "high"] (spD ⟨K, mg⟩ false 3 F_is_tuple) :=
  fn_okG (k := 0) T.f_is_tuple sc_is_tuple fun cdv A outer s H E hr hG tk =>
    (ds_cons (ds_ret (de_and (de_isG rfl g_is_tuple_isinstance T.b_isinstance (de_v (i := 0) rfl v_is_tuple_value) (pe_bltn g_is_tuple_tuple T.b_tuple (by decide +kernel) (v := .ty "tuple") rfl) (.ty "tuple") (fun _ _ h => kit_ty h) (fun _ _ _ h => nomatch h) rfl rfl rfl) (pe_one (de_chain op_le opd_le op_le opd_le (de_v (i := 1) rfl v_is_tuple_low) (de_cb call_len_seq (cbd_len rfl) g_is_tuple_len T.b_len (by decide +kernel) (da_cons (de_v (i := 0) rfl v_is_tuple_value) da_nil rfl) (by decide) (by decide) rfl rfl) (de_v (i := 2) rfl v_is_tuple_high) rfl)))) ds_nil)
/-! ### need_number -/
abbrev N_need_number : List Str := ["number", "low", "high"]
theorem sc_need_number : FnScope N_need_number ["number", "low", "high"] (defScope st_need_number) := ⟨rfl, rfl, rfl, by decide +kernel, rfl, by decide +kernel, by decide +kernel⟩
theorem v_need_number_number : Vis (defScope st_need_number) ("number" : Str) := .inl (by decide +kernel)
theorem v_need_number_low : Vis (defScope st_need_number) ("low" : Str) := .inl (by decide +kernel)
theorem v_need_number_high : Vis (defScope st_need_number) ("high" : Str) := .inl (by decide +kernel)
theorem g_need_number_InvalidNumber : ((defScope st_need_number)).names.lookup ("InvalidNumber" : Str) = some .globalImplicit := by decide +kernel
def m_need_number : M Fl := (sCons (sIf (orT (eB (eOp2 ltD (eVar 0) (eVar 1))) (andT (eB (eIsN true (eVar 2))) (eB (eOp2 gtD (eVar 0) (eVar 2))))) (sCons (sRaise "InvalidNumber" (eVar 0)) sNil) sNil) sNil)
def F_need_number : Fsp := runF false 3 m_need_number
theorem bi_need_number (T : Txt Pg K mg a d) : Binds K d.need_number ["number", "low", "high"] [] := T.f_need_number.binds fun _ _ _ _ _ _ us hl => match us, hl with | [_, _, _], _ => rfl
theorem ok_need_number (T : Txt Pg K mg a d) : FnOkG Pg wd K mg base (L2.CX Pg wd) 2 a.need_number d.need_number ["number", "low", "high"] (spD ⟨K, mg⟩ false 3 F_need_number) :=
  fn_okG (k := 1) T.f_need_number sc_need_number fun cdv A outer s H E hr hG tk =>
    (ds_cons (ds_if (PW.fin (dw_or (dt_cmp op_lt opd_lt (de_v (i := 0) rfl v_need_number_number) (de_v (i := 1) rfl v_need_number_low) rfl) (pw_or1 (PW.fin (dw_and (dt_notNx (de_v (i := 2) rfl v_need_number_high)) (pw_and1 (dt_cmp op_gt opd_gt (de_v (i := 0) rfl v_need_number_number) (de_v (i := 2) rfl v_need_number_high) rfl))))))) (ds_cons (ds_raise (x := "InvalidNumber") (k := 0) T.le T.lc_InvalidNumber T.k_InvalidNumber T.k_InvalidNumber rfl (hr.mono (by decide : 1 ≤ 1)) tk (de_v (i := 0) rfl v_need_number_number) g_need_number_InvalidNumber (by decide) rfl rfl) ds_nil) ds_nil) ds_nil)
/-! ### are_bounds -/
abbrev N_are_bounds : List Str := ["value"]
theorem sc_are_bounds : FnScope N_are_bounds ["value"] (defScope st_are_bounds) := ⟨rfl, rfl, rfl, by decide +kernel, rfl, by decide +kernel, by decide +kernel⟩
theorem g_are_bounds_MOST_BOUND : ((defScope st_are_bounds)).names.lookup ("MOST_BOUND" : Str) = some .globalImplicit := by decide +kernel
theorem v_are_bounds_value : Vis (defScope st_are_bounds) ("value" : Str) := .inl (by decide +kernel)
theorem g_are_bounds_is_between : ((defScope st_are_bounds)).names.lookup ("is_between" : Str) = some .globalImplicit := by decide +kernel
theorem g_are_bounds_is_tuple : ((defScope st_are_bounds)).names.lookup ("is_tuple" : Str) = some .globalImplicit := by decide +kernel
def m_are_bounds : M Fl := (sCons (sIf (orT (notT (eB (eCall false F_is_tuple (aCons (eVar 0) (aCons (eLit (.int (2))) (aCons (eLit (.int (2))) aNil)))))) (notT (eB (eCall false F_is_between (aCons (eOp2 ixD (eVar 0) (eLit (.int (0)))) (aCons (eLit (.int (0))) (aCons (eLit (.int (60))) aNil))))))) (sCons (sRet (eLit (.bool false))) sNil) sNil) (sCons (sRet (eCall false F_is_between (aCons (eOp2 ixD (eVar 0) (eLit (.int (1)))) (aCons (eOp2 ixD (eVar 0) (eLit (.int (0)))) (aCons (eLit (.int (60))) aNil))))) sNil))
def F_are_bounds : Fsp := runF false 1 m_are_bounds
theorem bi_are_bounds (T : Txt Pg K mg a d) : Binds K d.are_bounds ["value"] [] := T.f_are_bounds.binds fun _ _ _ _ _ _ us hl => match us, hl with | [_], _ => rfl
theorem ok_are_bounds (T : Txt Pg K mg a d) : FnOkG Pg wd K mg base (L2.CX Pg wd) 3 a.are_bounds d.are_bounds ["value"] (spD ⟨K, mg⟩ false 1 F_are_bounds) :=
  fn_okG (k := 2) T.f_are_bounds sc_are_bounds fun cdv A outer s H E hr hG tk =>
    (ds_cons (ds_if (PW.fin (dw_or (dt_not (dt_val (de_callG ((ok_is_tuple T).mono (by decide : 1 ≤ 2)) hr hG g_are_bounds_is_tuple T.g_is_tuple T.f_is_tuple.kp (bi_is_tuple T) tk (da_cons (de_v (i := 0) rfl v_are_bounds_value) (da_cons de_int (da_cons de_int da_nil rfl) rfl) rfl) (alen_cons (alen_cons (alen_cons alen_nil))) (by decide) rfl rfl) (fun _ => rfl))) (pw_or1 (dt_not (dt_val (de_callG ((ok_is_between T).mono (by decide : 2 ≤ 2)) hr hG g_are_bounds_is_between T.g_is_between T.f_is_between.kp (bi_is_between T) tk (da_cons (de_ix rfl (de_v (i := 0) rfl v_are_bounds_value) de_int (fun _ _ => rfl)) (da_cons de_int (da_cons (de_glob (v := (.int (60))) g_are_bounds_MOST_BOUND T.c_MOST_BOUND.choose_spec ⟨_, rfl⟩ (fun _ => .int _)) da_nil rfl) rfl) rfl) (alen_cons (alen_cons (alen_cons alen_nil))) (by decide) rfl rfl) (fun _ => rfl)))))) (ds_cons (ds_ret de_bool) ds_nil) ds_nil) (ds_cons (ds_ret (de_callG ((ok_is_between T).mono (by decide : 2 ≤ 2)) hr hG g_are_bounds_is_between T.g_is_between T.f_is_between.kp (bi_is_between T) tk (da_cons (de_ix rfl (de_v (i := 0) rfl v_are_bounds_value) de_int (fun _ _ => rfl)) (da_cons (de_ix rfl (de_v (i := 0) rfl v_are_bounds_value) de_int (fun _ _ => rfl)) (da_cons (de_glob (v := (.int (60))) g_are_bounds_MOST_BOUND T.c_MOST_BOUND.choose_spec ⟨_, rfl⟩ (fun _ => .int _)) da_nil rfl) rfl) rfl) (alen_cons (alen_cons (alen_cons alen_nil))) (by decide) rfl rfl)) ds_nil))
/-! ### need_bounds -/
abbrev N_need_bounds : List Str := ["bounds", "own"]
theorem sc_need_bounds : FnScope N_need_bounds ["bounds"] (defScope st_need_bounds) := ⟨rfl, rfl, rfl, by decide +kernel, rfl, by decide +kernel, by decide +kernel⟩
theorem v_need_bounds_bounds : Vis (defScope st_need_bounds) ("bounds" : Str) := .inl (by decide +kernel)
theorem o_need_bounds_own : Loc (defScope st_need_bounds) ("own" : Str) := .inl (by decide +kernel)
theorem v_need_bounds_own : Vis (defScope st_need_bounds) ("own" : Str) := .inl (by decide +kernel)
theorem g_need_bounds_are_bounds : ((defScope st_need_bounds)).names.lookup ("are_bounds" : Str) = some .globalImplicit := by decide +kernel
def m_need_bounds : M Fl := (sCons (sFor (iDat (eVar 0)) (.nm 1) (sCons (sIf (notT (eB (eCall false F_are_bounds (aCons (eVar 1) aNil)))) (sCons sNever sNil) sNil) sNil)) sNil)
def F_need_bounds : Fsp := runF false 2 m_need_bounds
theorem bi_need_bounds (T : Txt Pg K mg a d) : Binds K d.need_bounds ["bounds"] [] := T.f_need_bounds.binds fun _ _ _ _ _ _ us hl => match us, hl with | [_], _ => rfl
theorem ok_need_bounds (T : Txt Pg K mg a d) : FnOkG Pg wd K mg base (L2.CX Pg wd) 4 a.need_bounds d.need_bounds ["bounds"] (spD ⟨K, mg⟩ false 1 F_need_bounds) :=
  fn_okG (k := 3) T.f_need_bounds sc_need_bounds fun cdv A outer s H E hr hG tk =>
    (ds_cons (ds_for PassesOwn.leaving rfl (di_dat rfl (de_v (i := 0) rfl v_need_bounds_bounds)) (dg_name (i := 1) sc_need_bounds.nd rfl o_need_bounds_own ((.inl rfl))) (ds_cons (ds_if (dt_not (dt_val (de_callG ((ok_are_bounds T).mono (by decide : 3 ≤ 3)) hr hG g_need_bounds_are_bounds T.g_are_bounds T.f_are_bounds.kp (bi_are_bounds T) tk (da_cons (de_v (i := 1) rfl v_need_bounds_own) da_nil rfl) (alen_cons alen_nil) (by decide) rfl rfl) (fun _ => rfl))) (ds_cons ds_never ds_nil) ds_nil) ds_nil) (fun _ => rfl)) ds_nil)
/-! ### lease_is_safe -/
abbrev N_lease_is_safe : List Str := ["server", "message", "use"]
theorem sc_lease_is_safe : FnScope N_lease_is_safe ["server", "message", "use"] (defScope st_lease_is_safe) := ⟨rfl, rfl, rfl, by decide +kernel, rfl, by decide +kernel, by decide +kernel⟩
theorem v_lease_is_safe_message : Vis (defScope st_lease_is_safe) ("message" : Str) := .inl (by decide +kernel)
theorem v_lease_is_safe_use : Vis (defScope st_lease_is_safe) ("use" : Str) := .inl (by decide +kernel)
theorem v_lease_is_safe_server : Vis (defScope st_lease_is_safe) ("server" : Str) := .inl (by decide +kernel)
theorem g_lease_is_safe_need_bounds : ((defScope st_lease_is_safe)).names.lookup ("need_bounds" : Str) = some .globalImplicit := by decide +kernel
def m_lease_is_safe : M Fl := (sCons (sExpr (eCall false F_need_bounds (aCons (eTup (aCons (eVar 0) (aCons (eVar 1) (aCons (eVar 2) aNil)))) aNil))) (sCons (sRet (eOp2 ltD (eOp2 addD (eOp2 ixD (eVar 1) (eLit (.int (1)))) (eOp2 ixD (eVar 2) (eLit (.int (1))))) (eOp2 addD (eOp2 ixD (eVar 0) (eLit (.int (0)))) (eOp2 ixD (eVar 1) (eLit (.int (0))))))) sNil))
def F_lease_is_safe : Fsp := runF false 3 m_lease_is_safe
theorem bi_lease_is_safe (T : Txt Pg K mg a d) : Binds K d.lease_is_safe ["server", "message", "use"] [] := T.f_lease_is_safe.binds fun _ _ _ _ _ _ us hl => match us, hl with | [_, _, _], _ => rfl
theorem ok_lease_is_safe (T : Txt Pg K mg a d) : FnOkG Pg wd K mg base (L2.CX Pg wd) 5 a.lease_is_safe d.lease_is_safe ["server", "message", "use"] (spD ⟨K, mg⟩ false 3 F_lease_is_safe) :=
  fn_okG (k := 4) T.f_lease_is_safe sc_lease_is_safe fun cdv A outer s H E hr hG tk =>
    (ds_cons (ds_expr (de_callG ((ok_need_bounds T).mono (by decide : 4 ≤ 4)) hr hG g_lease_is_safe_need_bounds T.g_need_bounds T.f_need_bounds.kp (bi_need_bounds T) tk (da_cons (de_tup (da_cons (de_v (i := 0) rfl v_lease_is_safe_server) (da_cons (de_v (i := 1) rfl v_lease_is_safe_message) (da_cons (de_v (i := 2) rfl v_lease_is_safe_use) da_nil rfl) rfl) rfl)) da_nil rfl) (alen_cons alen_nil) (by decide) rfl rfl) rfl) (ds_cons (ds_ret (de_cmp op_lt opd_lt (de_bin op_addA (opd_add rfl) (de_ix rfl (de_v (i := 1) rfl v_lease_is_safe_message) de_int (fun _ _ => rfl)) (de_ix rfl (de_v (i := 2) rfl v_lease_is_safe_use) de_int (fun _ _ => rfl))) (de_bin op_addA (opd_add rfl) (de_ix rfl (de_v (i := 0) rfl v_lease_is_safe_server) de_int (fun _ _ => rfl)) (de_ix rfl (de_v (i := 1) rfl v_lease_is_safe_message) de_int (fun _ _ => rfl))) rfl)) ds_nil))
/-! ### least_server -/
abbrev N_least_server : List Str := ["message", "use"]
theorem sc_least_server : FnScope N_least_server ["message", "use"] (defScope st_least_server) := ⟨rfl, rfl, rfl, by decide +kernel, rfl, by decide +kernel, by decide +kernel⟩
theorem v_least_server_message : Vis (defScope st_least_server) ("message" : Str) := .inl (by decide +kernel)
theorem v_least_server_use : Vis (defScope st_least_server) ("use" : Str) := .inl (by decide +kernel)
theorem g_least_server_need_bounds : ((defScope st_least_server)).names.lookup ("need_bounds" : Str) = some .globalImplicit := by decide +kernel
def m_least_server : M Fl := (sCons (sExpr (eCall false F_need_bounds (aCons (eTup (aCons (eVar 0) (aCons (eVar 1) aNil))) aNil))) (sCons (sRet (eOp2 addD (eOp2 subD (eOp2 addD (eOp2 ixD (eVar 0) (eLit (.int (1)))) (eOp2 ixD (eVar 1) (eLit (.int (1))))) (eOp2 ixD (eVar 0) (eLit (.int (0))))) (eLit (.int (1))))) sNil))
def F_least_server : Fsp := runF false 2 m_least_server
theorem bi_least_server (T : Txt Pg K mg a d) : Binds K d.least_server ["message", "use"] [] := T.f_least_server.binds fun _ _ _ _ _ _ us hl => match us, hl with | [_, _], _ => rfl
theorem ok_least_server (T : Txt Pg K mg a d) : FnOkG Pg wd K mg base (L2.CX Pg wd) 5 a.least_server d.least_server ["message", "use"] (spD ⟨K, mg⟩ false 2 F_least_server) :=
  fn_okG (k := 4) T.f_least_server sc_least_server fun cdv A outer s H E hr hG tk =>
    (ds_cons (ds_expr (de_callG ((ok_need_bounds T).mono (by decide : 4 ≤ 4)) hr hG g_least_server_need_bounds T.g_need_bounds T.f_need_bounds.kp (bi_need_bounds T) tk (da_cons (de_tup (da_cons (de_v (i := 0) rfl v_least_server_message) (da_cons (de_v (i := 1) rfl v_least_server_use) da_nil rfl) rfl)) da_nil rfl) (alen_cons alen_nil) (by decide) rfl rfl) rfl) (ds_cons (ds_ret (de_bin op_addA (opd_add rfl) (de_bin op_sub opd_sub (de_bin op_addA (opd_add rfl) (de_ix rfl (de_v (i := 0) rfl v_least_server_message) de_int (fun _ _ => rfl)) (de_ix rfl (de_v (i := 1) rfl v_least_server_use) de_int (fun _ _ => rfl))) (de_ix rfl (de_v (i := 0) rfl v_least_server_message) de_int (fun _ _ => rfl))) de_int)) ds_nil))
/-! ### drifted -/
abbrev N_drifted : List Str := ["length", "above", "below"]
theorem sc_drifted : FnScope N_drifted ["length", "above", "below"] (defScope st_drifted) := ⟨rfl, rfl, rfl, by decide +kernel, rfl, by decide +kernel, by decide +kernel⟩
theorem v_drifted_length : Vis (defScope st_drifted) ("length" : Str) := .inl (by decide +kernel)
theorem v_drifted_below : Vis (defScope st_drifted) ("below" : Str) := .inl (by decide +kernel)
theorem v_drifted_above : Vis (defScope st_drifted) ("above" : Str) := .inl (by decide +kernel)
theorem g_drifted_InvalidNumber : ((defScope st_drifted)).names.lookup ("InvalidNumber" : Str) = some .globalImplicit := by decide +kernel
theorem g_drifted_need_number : ((defScope st_drifted)).names.lookup ("need_number" : Str) = some .globalImplicit := by decide +kernel
theorem g_drifted_MOST_BOUND : ((defScope st_drifted)).names.lookup ("MOST_BOUND" : Str) = some .globalImplicit := by decide +kernel
def m_drifted : M Fl := (sCons (sExpr (eCall false F_need_number (aCons (eVar 0) (aCons (eLit (.int (0))) (aCons (eLit (.int (60))) aNil))))) (sCons (sExpr (eCall false F_need_number (aCons (eVar 1) (aCons (eLit (.int (0))) (aCons (eLit .none) aNil))))) (sCons (sIf (eB (eOp2 leD (eVar 2) (eVar 1))) (sCons (sRaise "InvalidNumber" (eVar 2)) sNil) sNil) (sCons (sRet (eTup (aCons (eOp2 fdivD (eOp2 mulD (eVar 0) (eOp2 subD (eVar 2) (eVar 1))) (eVar 2)) (aCons (eOp1 negD (eOp2 fdivD (eOp2 mulD (eOp1 negD (eVar 0)) (eOp2 addD (eVar 2) (eVar 1))) (eVar 2))) aNil)))) sNil))))
def F_drifted : Fsp := runF false 3 m_drifted
theorem bi_drifted (T : Txt Pg K mg a d) : Binds K d.drifted ["length", "above", "below"] [] := T.f_drifted.binds fun _ _ _ _ _ _ us hl => match us, hl with | [_, _, _], _ => rfl
theorem ok_drifted (T : Txt Pg K mg a d) : FnOkG Pg wd K mg base (L2.CX Pg wd) 3 a.drifted d.drifted ["length", "above", "below"] (spD ⟨K, mg⟩ false 3 F_drifted) :=
  fn_okG (k := 2) T.f_drifted sc_drifted fun cdv A outer s H E hr hG tk =>
    (ds_cons (ds_expr (de_callG ((ok_need_number T).mono (by decide : 2 ≤ 2)) hr hG g_drifted_need_number T.g_need_number T.f_need_number.kp (bi_need_number T) tk (da_cons (de_v (i := 0) rfl v_drifted_length) (da_cons de_int (da_cons (de_glob (v := (.int (60))) g_drifted_MOST_BOUND T.c_MOST_BOUND.choose_spec ⟨_, rfl⟩ (fun _ => .int _)) da_nil rfl) rfl) rfl) (alen_cons (alen_cons (alen_cons alen_nil))) (by decide) rfl rfl) rfl) (ds_cons (ds_expr (de_callG ((ok_need_number T).mono (by decide : 2 ≤ 2)) hr hG g_drifted_need_number T.g_need_number T.f_need_number.kp (bi_need_number T) tk (da_cons (de_v (i := 1) rfl v_drifted_above) (da_cons de_int (da_cons de_none da_nil rfl) rfl) rfl) (alen_cons (alen_cons (alen_cons alen_nil))) (by decide) rfl rfl) rfl) (ds_cons (ds_if (dt_cmp op_le opd_le (de_v (i := 2) rfl v_drifted_below) (de_v (i := 1) rfl v_drifted_above) rfl) (ds_cons (ds_raise (x := "InvalidNumber") (k := 0) T.le T.lc_InvalidNumber T.k_InvalidNumber T.k_InvalidNumber rfl (hr.mono (by decide : 1 ≤ 2)) tk (de_v (i := 2) rfl v_drifted_below) g_drifted_InvalidNumber (by decide) rfl rfl) ds_nil) ds_nil) (ds_cons (ds_ret (de_tup (da_cons (de_bin op_fdivW opd_fdiv (de_bin op_mulX opd_mul (de_v (i := 0) rfl v_drifted_length) (de_bin op_sub opd_sub (de_v (i := 2) rfl v_drifted_below) (de_v (i := 1) rfl v_drifted_above))) (de_v (i := 2) rfl v_drifted_below)) (da_cons (de_neg (de_bin op_fdivW opd_fdiv (de_bin op_mulX opd_mul (de_neg (de_v (i := 0) rfl v_drifted_length)) (de_bin op_addA (opd_add rfl) (de_v (i := 2) rfl v_drifted_below) (de_v (i := 1) rfl v_drifted_above))) (de_v (i := 2) rfl v_drifted_below))) da_nil rfl) rfl))) ds_nil))))
/-! ### _law_well -/
abbrev N__law_well : List Str := ["script", "k", "cell", "whole", "part", "mixed"]
theorem sc__law_well : FnScope N__law_well ["script", "k"] (defScope st__law_well) := ⟨rfl, rfl, rfl, by decide +kernel, rfl, by decide +kernel, by decide +kernel⟩
theorem v__law_well_mixed : Vis (defScope st__law_well) ("mixed" : Str) := .inl (by decide +kernel)
theorem g__law_well_max : ((defScope st__law_well)).names.lookup ("max" : Str) = some .globalImplicit := by decide +kernel
theorem g__law_well_abs : ((defScope st__law_well)).names.lookup ("abs" : Str) = some .globalImplicit := by decide +kernel
theorem v__law_well_cell : Vis (defScope st__law_well) ("cell" : Str) := .inl (by decide +kernel)
theorem g__law_well_int : ((defScope st__law_well)).names.lookup ("int" : Str) = some .globalImplicit := by decide +kernel
theorem v__law_well_whole : Vis (defScope st__law_well) ("whole" : Str) := .inl (by decide +kernel)
theorem v__law_well_k : Vis (defScope st__law_well) ("k" : Str) := .inl (by decide +kernel)
theorem o__law_well_mixed : Loc (defScope st__law_well) ("mixed" : Str) := .inl (by decide +kernel)
theorem v__law_well_script : Vis (defScope st__law_well) ("script" : Str) := .inl (by decide +kernel)
theorem o__law_well_part : Loc (defScope st__law_well) ("part" : Str) := .inl (by decide +kernel)
theorem v__law_well_part : Vis (defScope st__law_well) ("part" : Str) := .inl (by decide +kernel)
theorem o__law_well_whole : Loc (defScope st__law_well) ("whole" : Str) := .inl (by decide +kernel)
theorem g__law_well_len : ((defScope st__law_well)).names.lookup ("len" : Str) = some .globalImplicit := by decide +kernel
theorem o__law_well_cell : Loc (defScope st__law_well) ("cell" : Str) := .inl (by decide +kernel)
def m__law_well : M Fl := (sCons (sSetX 2 (ifV (eB (eOp2 ltD (eVar 1) (eCB lenF (aCons (eVar 0) aNil)))) (eCB intF (aCons (eOp2 ixD (eVar 0) (eVar 1)) aNil)) (eOp2 addD (eOp2 mulD (eLit (.int (71))) (eVar 1)) (eLit (.int (37)))))) (sCons (sSetX 3 (eOp2 addD (eLit (.int (29))) (eCB lenF (aCons (eVar 0) aNil)))) (sCons (sFor (iDat (eVar 0)) (.nm 4) (sCons (sSetX 3 (eOp2 modD (eCB intF (aCons (eOp2 addD (eOp2 mulD (eVar 3) (eLit (.int (5323)))) (eOp2 modD (eCB intF (aCons (eVar 4) aNil)) (eOp2 addD (eOp2 powD (eLit (.int (10))) (eLit (.int (19)))) (eLit (.int (51)))))) aNil)) (eOp2 addD (eOp2 powD (eLit (.int (10))) (eLit (.int (25)))) (eLit (.int (13)))))) sNil)) (sCons (sSetX 5 (eOp2 modD (eCB intF (aCons (eOp2 addD (eOp2 addD (eOp2 addD (eOp2 mulD (eCB absF (aCons (eVar 2) aNil)) (eLit (.int (7129)))) (eOp2 mulD (eVar 3) (eLit (.int (41))))) (eOp2 mulD (eLit (.int (3))) (eCB intF (aCons (eOp2 ltD (eVar 2) (eLit (.int (0)))) aNil)))) (eOp2 mulD (eLit (.int (61))) (eVar 1))) aNil)) (eOp2 addD (eOp2 powD (eLit (.int (10))) (eLit (.int (28)))) (eLit (.int (331)))))) (sCons (sRetN (nLst (aCons (eCB maxF (aCons (eLit (.int (0))) (aCons (eOp2 subD (eCB absF (aCons (eVar 2) aNil)) (eOp2 powD (eLit (.int (10))) (eLit (.int (18))))) aNil))) (aCons (eVar 5) (aCons (eLit (.int (0))) aNil))))) sNil)))))
def F__law_well : Fsp := runF false 6 m__law_well
theorem bi__law_well (T : Txt Pg K mg a d) : Binds K d._law_well ["script", "k"] [] := T.f__law_well.binds fun _ _ _ _ _ _ us hl => match us, hl with | [_, _], _ => rfl
theorem ok__law_well (T : Txt Pg K mg a d) : FnOkG Pg wd K mg base (L2.CX Pg wd) 1 a._law_well d._law_well ["script", "k"] (spD ⟨K, mg⟩ false 2 F__law_well) :=
  fn_okG (k := 0) T.f__law_well sc__law_well fun cdv A outer s H E hr hG tk =>
    (ds_cons (ds_setX (i := 2) sc__law_well.nd rfl o__law_well_cell (de_if (dt_cmp op_lt opd_lt (de_v (i := 1) rfl v__law_well_k) (de_cb call_len_seq (cbd_len rfl) g__law_well_len T.b_len (by decide +kernel) (da_cons (de_v (i := 0) rfl v__law_well_script) da_nil rfl) (by decide) (by decide) rfl rfl) rfl) (de_cty call_int1 cbd_int g__law_well_int T.b_int (by decide +kernel) (da_cons (de_ix rfl (de_v (i := 0) rfl v__law_well_script) (de_v (i := 1) rfl v__law_well_k) (fun _ _ => rfl)) da_nil rfl) (by decide) (by decide) rfl rfl) (de_bin op_addA (opd_add rfl) (de_bin op_mulX opd_mul de_int (de_v (i := 1) rfl v__law_well_k)) de_int)) rfl (.inl rfl)) (ds_cons (ds_setX (i := 3) sc__law_well.nd rfl o__law_well_whole (de_bin op_addA (opd_add rfl) de_int (de_cb call_len_seq (cbd_len rfl) g__law_well_len T.b_len (by decide +kernel) (da_cons (de_v (i := 0) rfl v__law_well_script) da_nil rfl) (by decide) (by decide) rfl rfl)) rfl (.inl rfl)) (ds_cons (ds_for PassesOwn.leaving rfl (di_dat rfl (de_v (i := 0) rfl v__law_well_script)) (dg_name (i := 4) sc__law_well.nd rfl o__law_well_part ((.inl rfl))) (ds_cons (ds_setX (i := 3) sc__law_well.nd rfl o__law_well_whole (de_bin op_mod opd_mod (de_cty call_int1 cbd_int g__law_well_int T.b_int (by decide +kernel) (da_cons (de_bin op_addA (opd_add rfl) (de_bin op_mulX opd_mul (de_v (i := 3) rfl v__law_well_whole) de_int) (de_bin op_mod opd_mod (de_cty call_int1 cbd_int g__law_well_int T.b_int (by decide +kernel) (da_cons (de_v (i := 4) rfl v__law_well_part) da_nil rfl) (by decide) (by decide) rfl rfl) (de_bin op_addA (opd_add rfl) (de_bin op_pow opd_pow de_int de_int) de_int))) da_nil rfl) (by decide) (by decide) rfl rfl) (de_bin op_addA (opd_add rfl) (de_bin op_pow opd_pow de_int de_int) de_int)) rfl (.inl rfl)) ds_nil) (fun _ => rfl)) (ds_cons (ds_setX (i := 5) sc__law_well.nd rfl o__law_well_mixed (de_bin op_mod opd_mod (de_cty call_int1 cbd_int g__law_well_int T.b_int (by decide +kernel) (da_cons (de_bin op_addA (opd_add rfl) (de_bin op_addA (opd_add rfl) (de_bin op_addA (opd_add rfl) (de_bin op_mulX opd_mul (de_cb call_abs cbd_abs g__law_well_abs T.b_abs (by decide +kernel) (da_cons (de_v (i := 2) rfl v__law_well_cell) da_nil rfl) (by decide) (by decide) rfl rfl) de_int) (de_bin op_mulX opd_mul (de_v (i := 3) rfl v__law_well_whole) de_int)) (de_bin op_mulX opd_mul de_int (de_cty call_int1 cbd_int g__law_well_int T.b_int (by decide +kernel) (da_cons (de_cmp op_lt opd_lt (de_v (i := 2) rfl v__law_well_cell) de_int rfl) da_nil rfl) (by decide) (by decide) rfl rfl))) (de_bin op_mulX opd_mul de_int (de_v (i := 1) rfl v__law_well_k))) da_nil rfl) (by decide) (by decide) rfl rfl) (de_bin op_addA (opd_add rfl) (de_bin op_pow opd_pow de_int de_int) de_int)) rfl (.inl rfl)) (ds_cons (ds_retN (dn_lst (da_cons (de_cb (call_max2 rfl) cbd_max g__law_well_max T.b_max (by decide +kernel) (da_cons de_int (da_cons (de_bin op_sub opd_sub (de_cb call_abs cbd_abs g__law_well_abs T.b_abs (by decide +kernel) (da_cons (de_v (i := 2) rfl v__law_well_cell) da_nil rfl) (by decide) (by decide) rfl rfl) (de_bin op_pow opd_pow de_int de_int)) da_nil rfl) rfl) (by decide) (by decide) rfl rfl) (da_cons (de_v (i := 5) rfl v__law_well_mixed) (da_cons de_int da_nil rfl) rfl) rfl))) ds_nil)))))
/-! ### _law_draw -/
abbrev N__law_draw : List Str := ["well", "many", "found", "step", "mixed"]
theorem sc__law_draw : FnScope N__law_draw ["well", "many"] (defScope st__law_draw) := ⟨rfl, rfl, rfl, by decide +kernel, rfl, by decide +kernel, by decide +kernel⟩
theorem g__law_draw_int : ((defScope st__law_draw)).names.lookup ("int" : Str) = some .globalImplicit := by decide +kernel
theorem v__law_draw_mixed : Vis (defScope st__law_draw) ("mixed" : Str) := .inl (by decide +kernel)
theorem v__law_draw_many : Vis (defScope st__law_draw) ("many" : Str) := .inl (by decide +kernel)
theorem o__law_draw_mixed : Loc (defScope st__law_draw) ("mixed" : Str) := .inl (by decide +kernel)
theorem v__law_draw_well : Vis (defScope st__law_draw) ("well" : Str) := .inl (by decide +kernel)
theorem v__law_draw_step : Vis (defScope st__law_draw) ("step" : Str) := .inl (by decide +kernel)
theorem o__law_draw_step : Loc (defScope st__law_draw) ("step" : Str) := .inl (by decide +kernel)
theorem v__law_draw_found : Vis (defScope st__law_draw) ("found" : Str) := .inl (by decide +kernel)
theorem o__law_draw_found : Loc (defScope st__law_draw) ("found" : Str) := .inl (by decide +kernel)
def m__law_draw : M Fl := (sCons (sIf (eB (eOp2 gtD (eOp2 ixD (eVar 0) (eLit (.int (0)))) (eLit (.int (0))))) (sCons (sSetX 2 (eOp2 modD (eCB intF (aCons (eOp2 ixD (eVar 0) (eLit (.int (0)))) aNil)) (eVar 1))) (sCons (sStore (eOp2 fdivD (eOp2 ixD (eVar 0) (eLit (.int (0)))) (eVar 1)) (eVar 0) (eLit (.int (0)))) (sCons (sRet (eVar 2)) sNil))) sNil) (sCons (sStore (eOp2 addD (eOp2 ixD (eVar 0) (eLit (.int (2)))) (eLit (.int (1)))) (eVar 0) (eLit (.int (2)))) (sCons (sSetX 3 (eOp2 ixD (eVar 0) (eLit (.int (2))))) (sCons (sSetX 4 (eOp2 modD (eCB intF (aCons (eOp2 addD (eOp2 addD (eOp2 mulD (eOp2 mulD (eOp2 addD (eOp2 ixD (eVar 0) (eLit (.int (1)))) (eLit (.int (31)))) (eOp2 addD (eVar 3) (eLit (.int (5))))) (eLit (.int (998244353)))) (eOp2 mulD (eOp2 mulD (eOp2 mulD (eVar 3) (eVar 3)) (eVar 3)) (eLit (.int (424242427))))) (eLit (.int (77)))) aNil)) (eOp2 addD (eOp2 powD (eLit (.int (10))) (eLit (.int (29)))) (eLit (.int (319)))))) (sCons (sSetX 4 (eOp2 modD (eCB intF (aCons (eOp2 addD (eOp2 addD (eOp2 mulD (eVar 4) (eVar 4)) (eOp2 mulD (eOp2 ixD (eVar 0) (eLit (.int (1)))) (eLit (.int (7))))) (eVar 3)) aNil)) (eOp2 addD (eOp2 powD (eLit (.int (10))) (eLit (.int (31)))) (eLit (.int (33)))))) (sCons (sSetX 4 (eOp2 modD (eCB intF (aCons (eOp2 addD (eOp2 mulD (eOp2 mulD (eVar 4) (eVar 4)) (eLit (.int (3)))) (eOp2 mulD (eVar 4) (eLit (.int (11))))) aNil)) (eOp2 addD (eOp2 powD (eLit (.int (10))) (eLit (.int (33)))) (eLit (.int (603)))))) (sCons (sRet (eOp2 modD (eCB intF (aCons (eOp2 fdivD (eVar 4) (eLit (.int (50021)))) aNil)) (eVar 1))) sNil)))))))
def F__law_draw : Fsp := runF true 5 m__law_draw
theorem bi__law_draw (T : Txt Pg K mg a d) : Binds K d._law_draw ["well", "many"] [] := T.f__law_draw.binds fun _ _ _ _ _ _ us hl => match us, hl with | [_, _], _ => rfl
theorem ok__law_draw (T : Txt Pg K mg a d) : FnOkG Pg wd K mg base (L2.CX Pg wd) 1 a._law_draw d._law_draw ["well", "many"] (spD ⟨K, mg⟩ true 2 F__law_draw) :=
  fn_okG (k := 0) T.f__law_draw sc__law_draw fun cdv A outer s H E hr hG tk =>
    (ds_cons (ds_if (dt_cmp op_gt opd_gt (de_ix rfl (de_v (i := 0) rfl v__law_draw_well) de_int (fun _ _ => rfl)) de_int rfl) (ds_cons (ds_setX (i := 2) sc__law_draw.nd rfl o__law_draw_found (de_bin op_mod opd_mod (de_cty call_int1 cbd_int g__law_draw_int T.b_int (by decide +kernel) (da_cons (de_ix rfl (de_v (i := 0) rfl v__law_draw_well) de_int (fun _ _ => rfl)) da_nil rfl) (by decide) (by decide) rfl rfl) (de_v (i := 1) rfl v__law_draw_many)) rfl (.inl rfl)) (ds_cons (ds_store (de_bin op_fdivW opd_fdiv (de_ix rfl (de_v (i := 0) rfl v__law_draw_well) de_int (fun _ _ => rfl)) (de_v (i := 1) rfl v__law_draw_many)) (de_v (i := 0) rfl v__law_draw_well) de_int rfl rfl rfl (fun _ => rfl)) (ds_cons (ds_ret (de_v (i := 2) rfl v__law_draw_found)) ds_nil))) ds_nil) (ds_cons (ds_store (de_bin op_addA (opd_add rfl) (de_ix rfl (de_v (i := 0) rfl v__law_draw_well) de_int (fun _ _ => rfl)) de_int) (de_v (i := 0) rfl v__law_draw_well) de_int rfl rfl rfl (fun _ => rfl)) (ds_cons (ds_setX (i := 3) sc__law_draw.nd rfl o__law_draw_step (de_ix rfl (de_v (i := 0) rfl v__law_draw_well) de_int (fun _ _ => rfl)) rfl (.inl rfl)) (ds_cons (ds_setX (i := 4) sc__law_draw.nd rfl o__law_draw_mixed (de_bin op_mod opd_mod (de_cty call_int1 cbd_int g__law_draw_int T.b_int (by decide +kernel) (da_cons (de_bin op_addA (opd_add rfl) (de_bin op_addA (opd_add rfl) (de_bin op_mulX opd_mul (de_bin op_mulX opd_mul (de_bin op_addA (opd_add rfl) (de_ix rfl (de_v (i := 0) rfl v__law_draw_well) de_int (fun _ _ => rfl)) de_int) (de_bin op_addA (opd_add rfl) (de_v (i := 3) rfl v__law_draw_step) de_int)) de_int) (de_bin op_mulX opd_mul (de_bin op_mulX opd_mul (de_bin op_mulX opd_mul (de_v (i := 3) rfl v__law_draw_step) (de_v (i := 3) rfl v__law_draw_step)) (de_v (i := 3) rfl v__law_draw_step)) de_int)) de_int) da_nil rfl) (by decide) (by decide) rfl rfl) (de_bin op_addA (opd_add rfl) (de_bin op_pow opd_pow de_int de_int) de_int)) rfl (.inl rfl)) (ds_cons (ds_setX (i := 4) sc__law_draw.nd rfl o__law_draw_mixed (de_bin op_mod opd_mod (de_cty call_int1 cbd_int g__law_draw_int T.b_int (by decide +kernel) (da_cons (de_bin op_addA (opd_add rfl) (de_bin op_addA (opd_add rfl) (de_bin op_mulX opd_mul (de_v (i := 4) rfl v__law_draw_mixed) (de_v (i := 4) rfl v__law_draw_mixed)) (de_bin op_mulX opd_mul (de_ix rfl (de_v (i := 0) rfl v__law_draw_well) de_int (fun _ _ => rfl)) de_int)) (de_v (i := 3) rfl v__law_draw_step)) da_nil rfl) (by decide) (by decide) rfl rfl) (de_bin op_addA (opd_add rfl) (de_bin op_pow opd_pow de_int de_int) de_int)) rfl (.inl rfl)) (ds_cons (ds_setX (i := 4) sc__law_draw.nd rfl o__law_draw_mixed (de_bin op_mod opd_mod (de_cty call_int1 cbd_int g__law_draw_int T.b_int (by decide +kernel) (da_cons (de_bin op_addA (opd_add rfl) (de_bin op_mulX opd_mul (de_bin op_mulX opd_mul (de_v (i := 4) rfl v__law_draw_mixed) (de_v (i := 4) rfl v__law_draw_mixed)) de_int) (de_bin op_mulX opd_mul (de_v (i := 4) rfl v__law_draw_mixed) de_int)) da_nil rfl) (by decide) (by decide) rfl rfl) (de_bin op_addA (opd_add rfl) (de_bin op_pow opd_pow de_int de_int) de_int)) rfl (.inl rfl)) (ds_cons (ds_ret (de_bin op_mod opd_mod (de_cty call_int1 cbd_int g__law_draw_int T.b_int (by decide +kernel) (da_cons (de_bin op_fdivW opd_fdiv (de_v (i := 4) rfl v__law_draw_mixed) de_int) da_nil rfl) (by decide) (by decide) rfl rfl) (de_v (i := 1) rfl v__law_draw_many))) ds_nil)))))))
/-! ### _law_some_bounds -/
abbrev N__law_some_bounds : List Str := ["well", "low"]
theorem sc__law_some_bounds : FnScope N__law_some_bounds ["well"] (defScope st__law_some_bounds) := ⟨rfl, rfl, rfl, by decide +kernel, rfl, by decide +kernel, by decide +kernel⟩
theorem g__law_some_bounds_min : ((defScope st__law_some_bounds)).names.lookup ("min" : Str) = some .globalImplicit := by decide +kernel
theorem v__law_some_bounds_low : Vis (defScope st__law_some_bounds) ("low" : Str) := .inl (by decide +kernel)
theorem v__law_some_bounds_well : Vis (defScope st__law_some_bounds) ("well" : Str) := .inl (by decide +kernel)
theorem g__law_some_bounds__law_draw : ((defScope st__law_some_bounds)).names.lookup ("_law_draw" : Str) = some .globalImplicit := by decide +kernel
theorem o__law_some_bounds_low : Loc (defScope st__law_some_bounds) ("low" : Str) := .inl (by decide +kernel)
def m__law_some_bounds : M Fl := (sCons (sSetX 1 (eCall true F__law_draw (aCons (eVar 0) (aCons (eOp2 ixD (eLst (aCons (eLit (.int (4))) (aCons (eLit (.int (61))) aNil))) (eCall true F__law_draw (aCons (eVar 0) (aCons (eLit (.int (2))) aNil)))) aNil)))) (sCons (sRet (eTup (aCons (eVar 1) (aCons (eCB minF (aCons (eLit (.int (60))) (aCons (eOp2 addD (eVar 1) (eCall true F__law_draw (aCons (eVar 0) (aCons (eOp2 ixD (eLst (aCons (eLit (.int (4))) (aCons (eLit (.int (61))) aNil))) (eCall true F__law_draw (aCons (eVar 0) (aCons (eLit (.int (2))) aNil)))) aNil)))) aNil))) aNil)))) sNil))
def F__law_some_bounds : Fsp := runF true 2 m__law_some_bounds
theorem bi__law_some_bounds (T : Txt Pg K mg a d) : Binds K d._law_some_bounds ["well"] [] := T.f__law_some_bounds.binds fun _ _ _ _ _ _ us hl => match us, hl with | [_], _ => rfl
theorem ok__law_some_bounds (T : Txt Pg K mg a d) : FnOkG Pg wd K mg base (L2.CX Pg wd) 2 a._law_some_bounds d._law_some_bounds ["well"] (spD ⟨K, mg⟩ true 1 F__law_some_bounds) :=
  fn_okG (k := 1) T.f__law_some_bounds sc__law_some_bounds fun cdv A outer s H E hr hG tk =>
    (ds_cons (ds_setX (i := 1) sc__law_some_bounds.nd rfl o__law_some_bounds_low (de_callG ((ok__law_draw T).mono (by decide : 1 ≤ 1)) hr hG g__law_some_bounds__law_draw T.g__law_draw T.f__law_draw.kp (bi__law_draw T) tk (da_cons (de_v (i := 0) rfl v__law_some_bounds_well) (da_cons (de_ix rfl (de_lst (da_cons de_int (da_cons de_int da_nil rfl) rfl)) (de_callG ((ok__law_draw T).mono (by decide : 1 ≤ 1)) hr hG g__law_some_bounds__law_draw T.g__law_draw T.f__law_draw.kp (bi__law_draw T) tk (da_cons (de_v (i := 0) rfl v__law_some_bounds_well) (da_cons de_int da_nil rfl) rfl) (alen_cons (alen_cons alen_nil)) (by decide) rfl rfl) (fun _ _ => rfl)) da_nil rfl) rfl) (alen_cons (alen_cons alen_nil)) (by decide) rfl rfl) rfl (.inl rfl)) (ds_cons (ds_ret (de_tup (da_cons (de_v (i := 1) rfl v__law_some_bounds_low) (da_cons (de_cb (call_min2 rfl) cbd_min g__law_some_bounds_min T.b_min (by decide +kernel) (da_cons de_int (da_cons (de_bin op_addA (opd_add rfl) (de_v (i := 1) rfl v__law_some_bounds_low) (de_callG ((ok__law_draw T).mono (by decide : 1 ≤ 1)) hr hG g__law_some_bounds__law_draw T.g__law_draw T.f__law_draw.kp (bi__law_draw T) tk (da_cons (de_v (i := 0) rfl v__law_some_bounds_well) (da_cons (de_ix rfl (de_lst (da_cons de_int (da_cons de_int da_nil rfl) rfl)) (de_callG ((ok__law_draw T).mono (by decide : 1 ≤ 1)) hr hG g__law_some_bounds__law_draw T.g__law_draw T.f__law_draw.kp (bi__law_draw T) tk (da_cons (de_v (i := 0) rfl v__law_some_bounds_well) (da_cons de_int da_nil rfl) rfl) (alen_cons (alen_cons alen_nil)) (by decide) rfl rfl) (fun _ _ => rfl)) da_nil rfl) rfl) (alen_cons (alen_cons alen_nil)) (by decide) rfl rfl)) da_nil rfl) rfl) (by decide) (by decide) rfl rfl) da_nil rfl) rfl))) ds_nil))
/-! ### _law_drift -/
abbrev N__law_drift : List Str := ["length", "above", "below", "low", "high", "n"]
theorem sc__law_drift : FnScope N__law_drift ["length", "above", "below"] (defScope st__law_drift) := ⟨rfl, rfl, rfl, by decide +kernel, rfl, by decide +kernel, by decide +kernel⟩
abbrev bs__law_drift_b1 : Scope := { kind := .function, names := [(PySem.Str.ofString ".0", .local), (PySem.Str.ofString "n", .local), (PySem.Str.ofString "above", .free), (PySem.Str.ofString "below", .free), (PySem.Str.ofString "length", .free)], isGenerator := false, isCoroutine := false, more := [] }
theorem bk__law_drift_b1 : blkC N__law_drift (defScope st__law_drift) bs__law_drift_b1 [("n", 5)] = true := by decide +kernel
abbrev bs__law_drift_b2 : Scope := { kind := .function, names := [(PySem.Str.ofString ".0", .local), (PySem.Str.ofString "n", .local), (PySem.Str.ofString "above", .free), (PySem.Str.ofString "below", .free), (PySem.Str.ofString "length", .free)], isGenerator := false, isCoroutine := false, more := [] }
theorem bk__law_drift_b2 : blkC N__law_drift (defScope st__law_drift) bs__law_drift_b2 [("n", 5)] = true := by decide +kernel
theorem v__law_drift_high : Vis (defScope st__law_drift) ("high" : Str) := .inl (by decide +kernel)
theorem v__law_drift_low : Vis (defScope st__law_drift) ("low" : Str) := .inl (by decide +kernel)
theorem g__law_drift_min : ((defScope st__law_drift)).names.lookup ("min" : Str) = some .globalImplicit := by decide +kernel
theorem v__law_drift_length : Vis (defScope st__law_drift) ("length" : Str) := .inr (.inl (by decide +kernel))
theorem g__law_drift_range : ((defScope st__law_drift)).names.lookup ("range" : Str) = some .globalImplicit := by decide +kernel
theorem o__law_drift_b1_n : Loc (relS bs__law_drift_b1 (defScope st__law_drift)) ("n" : Str) := .inl (by decide +kernel)
theorem l__law_drift_b1_n : ((relS bs__law_drift_b1 (defScope st__law_drift))).names.lookup ("n" : Str) = some .local := by decide +kernel
theorem v__law_drift_b1_n : Vis (relS bs__law_drift_b1 (defScope st__law_drift)) ("n" : Str) := .inl (by decide +kernel)
theorem v__law_drift_b1_below : Vis (relS bs__law_drift_b1 (defScope st__law_drift)) ("below" : Str) := .inr (.inl (by decide +kernel))
theorem v__law_drift_b1_length : Vis (relS bs__law_drift_b1 (defScope st__law_drift)) ("length" : Str) := .inr (.inl (by decide +kernel))
theorem v__law_drift_b1_above : Vis (relS bs__law_drift_b1 (defScope st__law_drift)) ("above" : Str) := .inr (.inl (by decide +kernel))
theorem o__law_drift_high : Loc (defScope st__law_drift) ("high" : Str) := .inl (by decide +kernel)
theorem g__law_drift_max : ((defScope st__law_drift)).names.lookup ("max" : Str) = some .globalImplicit := by decide +kernel
theorem o__law_drift_b2_n : Loc (relS bs__law_drift_b2 (defScope st__law_drift)) ("n" : Str) := .inl (by decide +kernel)
theorem l__law_drift_b2_n : ((relS bs__law_drift_b2 (defScope st__law_drift))).names.lookup ("n" : Str) = some .local := by decide +kernel
theorem v__law_drift_b2_n : Vis (relS bs__law_drift_b2 (defScope st__law_drift)) ("n" : Str) := .inl (by decide +kernel)
theorem v__law_drift_b2_below : Vis (relS bs__law_drift_b2 (defScope st__law_drift)) ("below" : Str) := .inr (.inl (by decide +kernel))
theorem v__law_drift_b2_length : Vis (relS bs__law_drift_b2 (defScope st__law_drift)) ("length" : Str) := .inr (.inl (by decide +kernel))
theorem v__law_drift_b2_above : Vis (relS bs__law_drift_b2 (defScope st__law_drift)) ("above" : Str) := .inr (.inl (by decide +kernel))
theorem o__law_drift_low : Loc (defScope st__law_drift) ("low" : Str) := .inl (by decide +kernel)
def m__law_drift : M Fl := (sCons (sSetX 3 (eCB maxLF (aCons (eLc (iRng (aCons (eOp2 addD (eVar 0) (eLit (.int (1)))) aNil)) (.nm 5) (eB (eOp2 leD (eOp2 mulD (eVar 5) (eVar 2)) (eOp2 mulD (eVar 0) (eOp2 subD (eVar 2) (eVar 1))))) (eVar 5) [5]) aNil))) (sCons (sSetX 4 (eCB minLF (aCons (eLc (iRng (aCons (eVar 0) (aCons (eOp2 addD (eOp2 mulD (eLit (.int (2))) (eVar 0)) (eLit (.int (1)))) aNil))) (.nm 5) (eB (eOp2 geD (eOp2 mulD (eVar 5) (eVar 2)) (eOp2 mulD (eVar 0) (eOp2 addD (eVar 2) (eVar 1))))) (eVar 5) [5]) aNil))) (sCons (sRet (eTup (aCons (eVar 3) (aCons (eVar 4) aNil)))) sNil)))
def F__law_drift : Fsp := runF false 6 m__law_drift
theorem bi__law_drift (T : Txt Pg K mg a d) : Binds K d._law_drift ["length", "above", "below"] [] := T.f__law_drift.binds fun _ _ _ _ _ _ us hl => match us, hl with | [_, _, _], _ => rfl
theorem ok__law_drift (T : Txt Pg K mg a d) : FnOkG Pg wd K mg base (L2.CX Pg wd) 1 a._law_drift d._law_drift ["length", "above", "below"] (spD ⟨K, mg⟩ false 3 F__law_drift) :=
  fn_okG (k := 0) T.f__law_drift sc__law_drift fun cdv A outer s H E hr hG tk =>
    (ds_cons (ds_setX (i := 3) sc__law_drift.nd rfl o__law_drift_low (de_cb (cr_max rfl) (cbd_maxL rfl) g__law_drift_max T.b_max (by decide +kernel) (da_cons (de_lc rfl sc__law_drift.nd (di_rng1 (alen_cons alen_nil) g__law_drift_range T.b_range (da_cons (de_bin op_addA (opd_add rfl) (de_v (i := 0) rfl v__law_drift_length) de_int) da_nil rfl) rfl) (own := [("n", 5)]) (blkOk_by bk__law_drift_b2) (fun _ _ _ _ _ => (dg_name (i := 5) sc__law_drift.nd rfl o__law_drift_b2_n (.inr l__law_drift_b2_n))) (fun _ _ _ _ _ => (dts_one (dt_cmp op_le opd_le (de_bin op_mulX opd_mul (de_v (i := 5) rfl v__law_drift_b2_n) (de_v (i := 2) rfl v__law_drift_b2_below)) (de_bin op_mulX opd_mul (de_v (i := 0) rfl v__law_drift_b2_length) (de_bin op_sub opd_sub (de_v (i := 2) rfl v__law_drift_b2_below) (de_v (i := 1) rfl v__law_drift_b2_above))) rfl))) (fun _ _ _ _ _ => (de_v (i := 5) rfl v__law_drift_b2_n)) (fun _ => rfl) (by decide)) da_nil rfl) (by decide) (by decide) rfl rfl) rfl (.inl rfl)) (ds_cons (ds_setX (i := 4) sc__law_drift.nd rfl o__law_drift_high (de_cb (cr_min rfl) (cbd_minL rfl) g__law_drift_min T.b_min (by decide +kernel) (da_cons (de_lc rfl sc__law_drift.nd (di_rng2 (alen_cons (alen_cons alen_nil)) g__law_drift_range T.b_range (da_cons (de_v (i := 0) rfl v__law_drift_length) (da_cons (de_bin op_addA (opd_add rfl) (de_bin op_mulX opd_mul de_int (de_v (i := 0) rfl v__law_drift_length)) de_int) da_nil rfl) rfl) rfl rfl) (own := [("n", 5)]) (blkOk_by bk__law_drift_b1) (fun _ _ _ _ _ => (dg_name (i := 5) sc__law_drift.nd rfl o__law_drift_b1_n (.inr l__law_drift_b1_n))) (fun _ _ _ _ _ => (dts_one (dt_cmp op_ge opd_ge (de_bin op_mulX opd_mul (de_v (i := 5) rfl v__law_drift_b1_n) (de_v (i := 2) rfl v__law_drift_b1_below)) (de_bin op_mulX opd_mul (de_v (i := 0) rfl v__law_drift_b1_length) (de_bin op_addA (opd_add rfl) (de_v (i := 2) rfl v__law_drift_b1_below) (de_v (i := 1) rfl v__law_drift_b1_above))) rfl))) (fun _ _ _ _ _ => (de_v (i := 5) rfl v__law_drift_b1_n)) (fun _ => rfl) (by decide)) da_nil rfl) (by decide) (by decide) rfl rfl) rfl (.inl rfl)) (ds_cons (ds_ret (de_tup (da_cons (de_v (i := 3) rfl v__law_drift_low) (da_cons (de_v (i := 4) rfl v__law_drift_high) da_nil rfl) rfl))) ds_nil)))
/-! ### _law_refused -/
abbrev N__law_refused : List Str := ["length", "above", "below", "due", "caught", "e"]
theorem sc__law_refused : FnScope N__law_refused ["length", "above", "below", "due"] (defScope st__law_refused) := ⟨rfl, rfl, rfl, by decide +kernel, rfl, by decide +kernel, by decide +kernel⟩
theorem v__law_refused_caught : Vis (defScope st__law_refused) ("caught" : Str) := .inl (by decide +kernel)
theorem g__law_refused_isinstance : ((defScope st__law_refused)).names.lookup ("isinstance" : Str) = some .globalImplicit := by decide +kernel
theorem g__law_refused_InvalidNumber : ((defScope st__law_refused)).names.lookup ("InvalidNumber" : Str) = some .globalImplicit := by decide +kernel
theorem g__law_refused_repr : ((defScope st__law_refused)).names.lookup ("repr" : Str) = some .globalImplicit := by decide +kernel
theorem v__law_refused_due : Vis (defScope st__law_refused) ("due" : Str) := .inl (by decide +kernel)
theorem v__law_refused_below : Vis (defScope st__law_refused) ("below" : Str) := .inl (by decide +kernel)
theorem v__law_refused_above : Vis (defScope st__law_refused) ("above" : Str) := .inl (by decide +kernel)
theorem v__law_refused_length : Vis (defScope st__law_refused) ("length" : Str) := .inl (by decide +kernel)
theorem g__law_refused_drifted : ((defScope st__law_refused)).names.lookup ("drifted" : Str) = some .globalImplicit := by decide +kernel
theorem v__law_refused_e : Vis (defScope st__law_refused) ("e" : Str) := .inl (by decide +kernel)
theorem o__law_refused_caught : Loc (defScope st__law_refused) ("caught" : Str) := .inl (by decide +kernel)
theorem l__law_refused_e : ((defScope st__law_refused)).names.lookup ("e" : Str) = some .local := by decide +kernel
theorem g__law_refused_LeaseError : ((defScope st__law_refused)).names.lookup ("LeaseError" : Str) = some .globalImplicit := by decide +kernel
def m__law_refused : M Fl := (sCons (sSetX 4 (eLit .none)) (sCons (sTry isCls2 5 (sCons (sExpr (eCall false F_drifted (aCons (eVar 0) (aCons (eVar 1) (aCons (eVar 2) aNil))))) sNil) (sCons (sSetX 4 (eVar 5)) sNil)) (sCons (sRet (andV (eIs isNon (isEx "InvalidNumber") (eVar 4)) (eOp2 eqX (eCB reprF (aCons (eVal isCls (eVar 4)) aNil)) (eCB reprF (aCons (eVar 3) aNil))))) sNil)))
def F__law_refused : Fsp := runF false 6 m__law_refused
theorem bi__law_refused (T : Txt Pg K mg a d) : Binds K d._law_refused ["length", "above", "below", "due"] [] := T.f__law_refused.binds fun _ _ _ _ _ _ us hl => match us, hl with | [_, _, _, _], _ => rfl
theorem ok__law_refused (T : Txt Pg K mg a d) : FnOkG Pg wd K mg base (L2.CX Pg wd) 4 a._law_refused d._law_refused ["length", "above", "below", "due"] (spD ⟨K, mg⟩ false 4 F__law_refused) :=
  fn_okG (k := 3) T.f__law_refused sc__law_refused fun cdv A outer s H E hr hG tk =>
    (ds_cons (ds_setX (i := 4) sc__law_refused.nd rfl o__law_refused_caught de_none rfl (.inl rfl)) (ds_cons (ds_try (i := 5) rfl rfl rfl rfl sc__law_refused.nd rfl l__law_refused_e ⟨g__law_refused_LeaseError, by decide, .inl T.k_LeaseError⟩ tk T.caOk (fun W pn xe tk' hpo => (ds_cons (ds_expr (de_callG ((ok_drifted T).mono (by decide : 3 ≤ 3)) hr hG g__law_refused_drifted T.g_drifted T.f_drifted.kp (bi_drifted T) tk' (da_cons (de_v (i := 0) rfl v__law_refused_length) (da_cons (de_v (i := 1) rfl v__law_refused_above) (da_cons (de_v (i := 2) rfl v__law_refused_below) da_nil rfl) rfl) rfl) (alen_cons (alen_cons (alen_cons alen_nil))) (by decide) rfl rfl) rfl) ds_nil)) (fun a pn => (ds_cons (ds_setX (i := 4) sc__law_refused.nd rfl o__law_refused_caught (de_v (i := 5) rfl v__law_refused_e) rfl (.inl rfl)) ds_nil))) (ds_cons (ds_ret (de_and (de_isG rfl g__law_refused_isinstance T.b_isinstance (de_v (i := 4) rfl v__law_refused_caught) (pe_glob g__law_refused_InvalidNumber T.k_InvalidNumber (v := .ref a.k_InvalidNumber) rfl) (.own _) T.nn_InvalidNumber T.ie_InvalidNumber rfl rfl rfl) (pe_one (de_cmp (op_eq.or (op_eqD (room_u64 hr))) (opd_eqX rfl) (de_cb (call_reprG hG (room_u hr)) (cbd_repr rfl) g__law_refused_repr T.b_repr (by decide +kernel) (da_cons (de_val rfl (de_v (i := 4) rfl v__law_refused_caught) T.valOk rfl) da_nil rfl) (by decide) (by decide) rfl rfl) (de_cb (call_reprG hG (room_u hr)) (cbd_repr rfl) g__law_refused_repr T.b_repr (by decide +kernel) (da_cons (de_v (i := 3) rfl v__law_refused_due) da_nil rfl) (by decide) (by decide) rfl rfl) rfl)))) ds_nil)))
theorem kwb_drifted_2_1_0 (T : Txt Pg K mg a d) : KwB d.drifted ["length", "above", "below"] ["below", "above", "length"] [2, 1, 0] := kwB_of T.f_drifted fun _ _ _ _ _ _ ws hl => match ws, hl with | [_, _, _], _ => rfl
theorem kwb_least_server_1_0 (T : Txt Pg K mg a d) : KwB d.least_server ["message", "use"] ["use", "message"] [1, 0] := kwB_of T.f_least_server fun _ _ _ _ _ _ ws hl => match ws, hl with | [_, _], _ => rfl
/-! ### law -/
abbrev N_law : List Str := ["script", "k", "well", "turn", "message", "use", "due", "safe", "length", "size", "below", "above", "told", "wide", "bad", "less", "low"]
theorem sc_law : FnScope N_law ["script"] (defScope st_law) := ⟨rfl, rfl, rfl, by decide +kernel, rfl, by decide +kernel, by decide +kernel⟩
abbrev bs_law_b1 : Scope := { kind := .function, names := [(PySem.Str.ofString ".0", .local), (PySem.Str.ofString "low", .local), (PySem.Str.ofString "lease_is_safe", .globalImplicit), (PySem.Str.ofString "message", .free), (PySem.Str.ofString "use", .free)], isGenerator := false, isCoroutine := false, more := [] }
theorem bk_law_b1 : blkC N_law (defScope st_law) bs_law_b1 [("low", 16)] = true := by decide +kernel
theorem g_law_max : ((defScope st_law)).names.lookup ("max" : Str) = some .globalImplicit := by decide +kernel
theorem g_law_min : ((defScope st_law)).names.lookup ("min" : Str) = some .globalImplicit := by decide +kernel
theorem g_law_len : ((defScope st_law)).names.lookup ("len" : Str) = some .globalImplicit := by decide +kernel
theorem v_law_script : Vis (defScope st_law) ("script" : Str) := .inl (by decide +kernel)
theorem g_law_range : ((defScope st_law)).names.lookup ("range" : Str) = some .globalImplicit := by decide +kernel
theorem o_law_k : Loc (defScope st_law) ("k" : Str) := .inl (by decide +kernel)
theorem o_law_turn : Loc (defScope st_law) ("turn" : Str) := .inl (by decide +kernel)
theorem v_law_less : Vis (defScope st_law) ("less" : Str) := .inl (by decide +kernel)
theorem v_law_above : Vis (defScope st_law) ("above" : Str) := .inl (by decide +kernel)
theorem v_law_length : Vis (defScope st_law) ("length" : Str) := .inl (by decide +kernel)
theorem g_law__law_refused : ((defScope st_law)).names.lookup ("_law_refused" : Str) = some .globalImplicit := by decide +kernel
theorem v_law_well : Vis (defScope st_law) ("well" : Str) := .inl (by decide +kernel)
theorem g_law__law_draw : ((defScope st_law)).names.lookup ("_law_draw" : Str) = some .globalImplicit := by decide +kernel
theorem o_law_less : Loc (defScope st_law) ("less" : Str) := .inl (by decide +kernel)
theorem v_law_bad : Vis (defScope st_law) ("bad" : Str) := .inl (by decide +kernel)
theorem o_law_bad : Loc (defScope st_law) ("bad" : Str) := .inl (by decide +kernel)
theorem v_law_wide : Vis (defScope st_law) ("wide" : Str) := .inl (by decide +kernel)
theorem v_law_due : Vis (defScope st_law) ("due" : Str) := .inl (by decide +kernel)
theorem v_law_below : Vis (defScope st_law) ("below" : Str) := .inl (by decide +kernel)
theorem g_law_drifted : ((defScope st_law)).names.lookup ("drifted" : Str) = some .globalImplicit := by decide +kernel
theorem o_law_wide : Loc (defScope st_law) ("wide" : Str) := .inl (by decide +kernel)
theorem g_law_repr : ((defScope st_law)).names.lookup ("repr" : Str) = some .globalImplicit := by decide +kernel
theorem v_law_told : Vis (defScope st_law) ("told" : Str) := .inl (by decide +kernel)
theorem o_law_told : Loc (defScope st_law) ("told" : Str) := .inl (by decide +kernel)
theorem g_law__law_drift : ((defScope st_law)).names.lookup ("_law_drift" : Str) = some .globalImplicit := by decide +kernel
theorem o_law_due : Loc (defScope st_law) ("due" : Str) := .inl (by decide +kernel)
theorem o_law_above : Loc (defScope st_law) ("above" : Str) := .inl (by decide +kernel)
theorem v_law_size : Vis (defScope st_law) ("size" : Str) := .inl (by decide +kernel)
theorem o_law_below : Loc (defScope st_law) ("below" : Str) := .inl (by decide +kernel)
theorem l_law_length : ((defScope st_law)).names.lookup ("length" : Str) = some .local := by decide +kernel
theorem l_law_size : ((defScope st_law)).names.lookup ("size" : Str) = some .local := by decide +kernel
theorem v_law_safe : Vis (defScope st_law) ("safe" : Str) := .inl (by decide +kernel)
theorem g_law_list : ((defScope st_law)).names.lookup ("list" : Str) = some .globalImplicit := by decide +kernel
theorem l_law_safe : ((defScope st_law)).names.lookup ("safe" : Str) = some .local := by decide +kernel
theorem o_law_b1_low : Loc (relS bs_law_b1 (defScope st_law)) ("low" : Str) := .inl (by decide +kernel)
theorem l_law_b1_low : ((relS bs_law_b1 (defScope st_law))).names.lookup ("low" : Str) = some .local := by decide +kernel
theorem v_law_b1_use : Vis (relS bs_law_b1 (defScope st_law)) ("use" : Str) := .inr (.inl (by decide +kernel))
theorem v_law_b1_message : Vis (relS bs_law_b1 (defScope st_law)) ("message" : Str) := .inr (.inl (by decide +kernel))
theorem v_law_b1_low : Vis (relS bs_law_b1 (defScope st_law)) ("low" : Str) := .inl (by decide +kernel)
theorem g_law_b1_lease_is_safe : ((relS bs_law_b1 (defScope st_law))).names.lookup ("lease_is_safe" : Str) = some .globalImplicit := by decide +kernel
theorem v_law_message : Vis (defScope st_law) ("message" : Str) := .inr (.inl (by decide +kernel))
theorem v_law_use : Vis (defScope st_law) ("use" : Str) := .inr (.inl (by decide +kernel))
theorem g_law_least_server : ((defScope st_law)).names.lookup ("least_server" : Str) = some .globalImplicit := by decide +kernel
theorem g_law__law_some_bounds : ((defScope st_law)).names.lookup ("_law_some_bounds" : Str) = some .globalImplicit := by decide +kernel
theorem o_law_use : Loc (defScope st_law) ("use" : Str) := .inr (by decide +kernel)
theorem o_law_message : Loc (defScope st_law) ("message" : Str) := .inr (by decide +kernel)
theorem v_law_k : Vis (defScope st_law) ("k" : Str) := .inl (by decide +kernel)
theorem g_law__law_well : ((defScope st_law)).names.lookup ("_law_well" : Str) = some .globalImplicit := by decide +kernel
theorem o_law_well : Loc (defScope st_law) ("well" : Str) := .inl (by decide +kernel)
def m_law : M Fl := (sCons (sFor (iRng (aCons (eCB maxF (aCons (eLit (.int (1))) (aCons (eCB minF (aCons (eLit (.int (4))) (aCons (eCB lenF (aCons (eVar 0) aNil)) aNil))) aNil))) aNil)) (.nm 1) (sCons (sSetN 2 (nCall false F__law_well (aCons (eVar 0) (aCons (eVar 1) aNil)))) (sCons (sFor (iRng (aCons (eLit (.int (5))) aNil)) (.nm 3) (sCons (sPar [4, 5] (aCons (eCall true F__law_some_bounds (aCons (eVar 2) aNil)) (aCons (eCall true F__law_some_bounds (aCons (eVar 2) aNil)) aNil))) (sCons (sSetX 6 (eOp2 addD (eOp2 subD (eOp2 addD (eOp2 ixD (eVar 4) (eLit (.int (1)))) (eOp2 ixD (eVar 5) (eLit (.int (1))))) (eOp2 ixD (eVar 4) (eLit (.int (0))))) (eLit (.int (1))))) (sCons (sIf (eB (eOp2 neX (eCB reprF (aCons (eLst (aCons (eCall false F_least_server (aCons (eVar 4) (aCons (eVar 5) aNil))) (aCons (eCallK [1, 0] F_least_server (aCons (eVar 5) (aCons (eVar 4) aNil))) aNil))) aNil)) (eCB reprF (aCons (eLst (aCons (eVar 6) (aCons (eVar 6) aNil))) aNil)))) (sCons (sRet (eLit (.bool false))) sNil) sNil) (sCons (sSetX 7 (eLc (iRng (aCons (eLit (.int (61))) aNil)) (.nm 16) (eB (eCall false F_lease_is_safe (aCons (eTup (aCons (eVar 16) (aCons (eLit (.int (60))) aNil))) (aCons (eVar 4) (aCons (eVar 5) aNil))))) (eVar 16) [16])) (sCons (sIf (eB (eOp2 neX (eVar 7) (eOp2 rgLF (eCB minF (aCons (eLit (.int (61))) (aCons (eCB maxF (aCons (eLit (.int (0))) (aCons (eVar 6) aNil))) aNil))) (eLit (.int (61)))))) (sCons (sRet (eLit (.bool false))) sNil) sNil) (sCons (sPar [8, 9] (aCons (eCall true F__law_draw (aCons (eVar 2) (aCons (eLit (.int (61))) aNil))) (aCons (eOp2 ixD (eLst (aCons (eLit (.int (10))) (aCons (eLit (.int (1000))) (aCons (eOp2 powD (eLit (.int (10))) (eLit (.int (20)))) aNil)))) (eCall true F__law_draw (aCons (eVar 2) (aCons (eLit (.int (3))) aNil)))) aNil))) (sCons (sSetX 10 (eOp2 addD (eLit (.int (1))) (eCall true F__law_draw (aCons (eVar 2) (aCons (eVar 9) aNil))))) (sCons (sSetX 11 (eCall true F__law_draw (aCons (eVar 2) (aCons (eVar 10) aNil)))) (sCons (sSetX 6 (eCall false F__law_drift (aCons (eVar 8) (aCons (eVar 11) (aCons (eVar 10) aNil))))) (sCons (sSetX 12 (eLst (aCons (eCall false F_drifted (aCons (eVar 8) (aCons (eVar 11) (aCons (eVar 10) aNil)))) (aCons (eCallK [2, 1, 0] F_drifted (aCons (eVar 10) (aCons (eVar 11) (aCons (eVar 8) aNil)))) aNil)))) (sCons (sIf (eB (eOp2 neX (eCB reprF (aCons (eVar 12) aNil)) (eCB reprF (aCons (eLst (aCons (eVar 6) (aCons (eVar 6) aNil))) aNil)))) (sCons (sRet (eLit (.bool false))) sNil) sNil) (sCons (sSetX 13 (eCall false F_drifted (aCons (eVar 8) (aCons (eOp2 fdivD (eOp2 addD (eVar 11) (eVar 10)) (eLit (.int (2)))) (aCons (eVar 10) aNil))))) (sCons (sIf (orT (eB (eOp2 gtD (eOp2 ixD (eVar 13) (eLit (.int (0)))) (eOp2 ixD (eVar 6) (eLit (.int (0)))))) (orT (eB (eOp2 ltD (eOp2 ixD (eVar 13) (eLit (.int (1)))) (eOp2 ixD (eVar 6) (eLit (.int (1)))))) (eB (eOp2 neX (eCall false F_drifted (aCons (eVar 8) (aCons (eLit (.int (0))) (aCons (eVar 10) aNil)))) (eTup (aCons (eVar 8) (aCons (eVar 8) aNil))))))) (sCons (sRet (eLit (.bool false))) sNil) sNil) (sCons (sSetX 14 (eOp2 ixD (eLst (aCons (eOp1 negD (eLit (.int (1)))) (aCons (eLit (.int (61))) (aCons (eOp2 powD (eLit (.int (10))) (eLit (.int (9)))) aNil)))) (eCall true F__law_draw (aCons (eVar 2) (aCons (eLit (.int (3))) aNil))))) (sCons (sIf (orT (notT (eB (eCall false F__law_refused (aCons (eVar 14) (aCons (eOp1 negD (eLit (.int (1)))) (aCons (eOp1 negD (eLit (.int (2)))) (aCons (eVar 14) aNil))))))) (notT (eB (eCall false F__law_refused (aCons (eVar 8) (aCons (eOp2 subD (eOp1 negD (eLit (.int (1)))) (eVar 11)) (aCons (eLit (.int (0))) (aCons (eOp2 subD (eOp1 negD (eLit (.int (1)))) (eVar 11)) aNil)))))))) (sCons (sRet (eLit (.bool false))) sNil) sNil) (sCons (sSetX 15 (eOp2 ixD (eLst (aCons (eVar 11) (aCons (eOp2 subD (eVar 11) (eLit (.int (1)))) (aCons (eLit (.int (0))) (aCons (eOp1 negD (eLit (.int (5)))) aNil))))) (eCall true F__law_draw (aCons (eVar 2) (aCons (eLit (.int (4))) aNil))))) (sCons (sIf (andT (eB (eOp2 leD (eVar 15) (eVar 11))) (notT (eB (eCall false F__law_refused (aCons (eVar 8) (aCons (eVar 11) (aCons (eVar 15) (aCons (eVar 15) aNil)))))))) (sCons (sRet (eLit (.bool false))) sNil) sNil) sNil)))))))))))))))))) sNil))) (sCons (sRet (eLit (.bool true))) sNil))
def F_law : Fsp := runF false 17 m_law
theorem bi_law (T : Txt Pg K mg a d) : Binds K d.law ["script"] [] := T.f_law.binds fun _ _ _ _ _ _ us hl => match us, hl with | [_], _ => rfl
theorem ok_law (T : Txt Pg K mg a d) : FnOkG Pg wd K mg base (L2.CX Pg wd) 6 a.law d.law ["script"] (spD ⟨K, mg⟩ false 1 F_law) :=
  fn_okG (k := 5) T.f_law sc_law fun cdv A outer s H E hr hG tk =>
    (ds_cons (ds_for PassesOwn.leaving rfl (di_rng1 (alen_cons alen_nil) g_law_range T.b_range (da_cons (de_cb (call_max2 rfl) cbd_max g_law_max T.b_max (by decide +kernel) (da_cons de_int (da_cons (de_cb (call_min2 rfl) cbd_min g_law_min T.b_min (by decide +kernel) (da_cons de_int (da_cons (de_cb call_len_seq (cbd_len rfl) g_law_len T.b_len (by decide +kernel) (da_cons (de_v (i := 0) rfl v_law_script) da_nil rfl) (by decide) (by decide) rfl rfl) da_nil rfl) rfl) (by decide) (by decide) rfl rfl) da_nil rfl) rfl) (by decide) (by decide) rfl rfl) da_nil rfl) rfl) (dg_name (i := 1) sc_law.nd rfl o_law_k ((.inl rfl))) (ds_cons (ds_setN (i := 2) sc_law.nd rfl o_law_well (dn_callG ((ok__law_well T).mono (by decide : 1 ≤ 5)) hr hG g_law__law_well T.g__law_well T.f__law_well.kp (bi__law_well T) tk (da_cons (de_v (i := 0) rfl v_law_script) (da_cons (de_v (i := 1) rfl v_law_k) da_nil rfl) rfl) (alen_cons (alen_cons alen_nil)) (by decide) rfl rfl) rfl (.inl rfl)) (ds_cons (ds_for PassesOwn.leaving rfl (di_rng1 (alen_cons alen_nil) g_law_range T.b_range (da_cons de_int da_nil rfl) rfl) (dg_name (i := 3) sc_law.nd rfl o_law_turn ((.inl rfl))) (ds_cons (ds_parT rfl rfl (da_cons (de_callG ((ok__law_some_bounds T).mono (by decide : 2 ≤ 5)) hr hG g_law__law_some_bounds T.g__law_some_bounds T.f__law_some_bounds.kp (bi__law_some_bounds T) tk (da_cons (de_v (i := 2) rfl v_law_well) da_nil rfl) (alen_cons alen_nil) (by decide) rfl rfl) (da_cons (de_callG ((ok__law_some_bounds T).mono (by decide : 2 ≤ 5)) hr hG g_law__law_some_bounds T.g__law_some_bounds T.f__law_some_bounds.kp (bi__law_some_bounds T) tk (da_cons (de_v (i := 2) rfl v_law_well) da_nil rfl) (alen_cons alen_nil) (by decide) rfl rfl) da_nil rfl) rfl) (dgs_cons (i := 4) sc_law.nd rfl o_law_message ((.inl rfl)) (dgs_cons (i := 5) sc_law.nd rfl o_law_use ((.inl rfl)) dgs_nil rfl) rfl) rfl rfl (by decide) rfl rfl rfl) (ds_cons (ds_setX (i := 6) sc_law.nd rfl o_law_due (de_bin op_addA (opd_add rfl) (de_bin op_sub opd_sub (de_bin op_addA (opd_add rfl) (de_ix rfl (de_v (i := 4) rfl v_law_message) de_int (fun _ _ => rfl)) (de_ix rfl (de_v (i := 5) rfl v_law_use) de_int (fun _ _ => rfl))) (de_ix rfl (de_v (i := 4) rfl v_law_message) de_int (fun _ _ => rfl))) de_int) rfl (.inl rfl)) (ds_cons (ds_if (dt_cmp (op_ne.or (op_neD (room_u64 hr))) (opd_neX rfl) (de_cb (call_reprG hG (room_u hr)) (cbd_repr rfl) g_law_repr T.b_repr (by decide +kernel) (da_cons (de_lst (da_cons (de_callG ((ok_least_server T).mono (by decide : 5 ≤ 5)) hr hG g_law_least_server T.g_least_server T.f_least_server.kp (bi_least_server T) tk (da_cons (de_v (i := 4) rfl v_law_message) (da_cons (de_v (i := 5) rfl v_law_use) da_nil rfl) rfl) (alen_cons (alen_cons alen_nil)) (by decide) rfl rfl) (da_cons (de_kw ((ok_least_server T).mono (by decide : 5 ≤ 5)) hr hG g_law_least_server T.g_least_server T.f_least_server.kp (kwb_least_server_1_0 T) tk (dk_cons (de_v (i := 5) rfl v_law_use) (dk_cons (de_v (i := 4) rfl v_law_message) dk_nil)) (alen_cons (alen_cons alen_nil)) rfl (fun vs h => match vs, h with | [_, _], _ => rfl) rfl rfl rfl rfl) da_nil rfl) rfl)) da_nil rfl) (by decide) (by decide) rfl rfl) (de_cb (call_reprG hG (room_u hr)) (cbd_repr rfl) g_law_repr T.b_repr (by decide +kernel) (da_cons (de_lst (da_cons (de_v (i := 6) rfl v_law_due) (da_cons (de_v (i := 6) rfl v_law_due) da_nil rfl) rfl)) da_nil rfl) (by decide) (by decide) rfl rfl) rfl) (ds_cons (ds_ret de_bool) ds_nil) ds_nil) (ds_cons (ds_setLcX (i := 7) rfl sc_law.nd rfl l_law_safe (sw_true rfl l_law_safe (by decide) (by decide +kernel)) (di_rng1 (alen_cons alen_nil) g_law_range T.b_range (da_cons de_int da_nil rfl) rfl) (own := [("low", 16)]) (blkOk_by bk_law_b1) (fun _ _ _ _ _ => (dg_name (i := 16) sc_law.nd rfl o_law_b1_low (.inr l_law_b1_low))) (fun _ _ _ _ _ => (dts_one (dt_val (de_callG ((ok_lease_is_safe T).mono (by decide : 5 ≤ 5)) hr hG g_law_b1_lease_is_safe T.g_lease_is_safe T.f_lease_is_safe.kp (bi_lease_is_safe T) takes0 (da_cons (de_tup (da_cons (de_v (i := 16) rfl v_law_b1_low) (da_cons de_int da_nil rfl) rfl)) (da_cons (de_v (i := 4) rfl v_law_b1_message) (da_cons (de_v (i := 5) rfl v_law_b1_use) da_nil rfl) rfl) rfl) (alen_cons (alen_cons (alen_cons alen_nil))) (by decide) rfl rfl) (fun _ => rfl)))) (fun _ _ _ _ _ => (de_v (i := 16) rfl v_law_b1_low)) (fun _ => rfl) (by decide)) (ds_cons (ds_if (dt_cmp (op_ne.or (op_neD (room_u64 hr))) (opd_neX rfl) (de_v (i := 7) rfl v_law_safe) (de_lrg2 rfl g_law_list T.b_list g_law_range T.b_range (de_cb (call_min2 rfl) cbd_min g_law_min T.b_min (by decide +kernel) (da_cons de_int (da_cons (de_cb (call_max2 rfl) cbd_max g_law_max T.b_max (by decide +kernel) (da_cons de_int (da_cons (de_v (i := 6) rfl v_law_due) da_nil rfl) rfl) (by decide) (by decide) rfl rfl) da_nil rfl) rfl) (by decide) (by decide) rfl rfl) de_int rfl rfl rfl rfl) rfl) (ds_cons (ds_ret de_bool) ds_nil) ds_nil) (ds_cons (ds_par2 (i := 8) (j := 9) rfl sc_law.nd rfl rfl (by decide) l_law_length l_law_size (da_cons (de_callG ((ok__law_draw T).mono (by decide : 1 ≤ 5)) hr hG g_law__law_draw T.g__law_draw T.f__law_draw.kp (bi__law_draw T) tk (da_cons (de_v (i := 2) rfl v_law_well) (da_cons de_int da_nil rfl) rfl) (alen_cons (alen_cons alen_nil)) (by decide) rfl rfl) (da_cons (de_ix rfl (de_lst (da_cons de_int (da_cons de_int (da_cons (de_bin op_pow opd_pow de_int de_int) da_nil rfl) rfl) rfl)) (de_callG ((ok__law_draw T).mono (by decide : 1 ≤ 5)) hr hG g_law__law_draw T.g__law_draw T.f__law_draw.kp (bi__law_draw T) tk (da_cons (de_v (i := 2) rfl v_law_well) (da_cons de_int da_nil rfl) rfl) (alen_cons (alen_cons alen_nil)) (by decide) rfl rfl) (fun _ _ => rfl)) da_nil rfl) rfl) rfl rfl) (ds_cons (ds_setX (i := 10) sc_law.nd rfl o_law_below (de_bin op_addA (opd_add rfl) de_int (de_callG ((ok__law_draw T).mono (by decide : 1 ≤ 5)) hr hG g_law__law_draw T.g__law_draw T.f__law_draw.kp (bi__law_draw T) tk (da_cons (de_v (i := 2) rfl v_law_well) (da_cons (de_v (i := 9) rfl v_law_size) da_nil rfl) rfl) (alen_cons (alen_cons alen_nil)) (by decide) rfl rfl)) rfl (.inl rfl)) (ds_cons (ds_setX (i := 11) sc_law.nd rfl o_law_above (de_callG ((ok__law_draw T).mono (by decide : 1 ≤ 5)) hr hG g_law__law_draw T.g__law_draw T.f__law_draw.kp (bi__law_draw T) tk (da_cons (de_v (i := 2) rfl v_law_well) (da_cons (de_v (i := 10) rfl v_law_below) da_nil rfl) rfl) (alen_cons (alen_cons alen_nil)) (by decide) rfl rfl) rfl (.inl rfl)) (ds_cons (ds_setX (i := 6) sc_law.nd rfl o_law_due (de_callG ((ok__law_drift T).mono (by decide : 1 ≤ 5)) hr hG g_law__law_drift T.g__law_drift T.f__law_drift.kp (bi__law_drift T) tk (da_cons (de_v (i := 8) rfl v_law_length) (da_cons (de_v (i := 11) rfl v_law_above) (da_cons (de_v (i := 10) rfl v_law_below) da_nil rfl) rfl) rfl) (alen_cons (alen_cons (alen_cons alen_nil))) (by decide) rfl rfl) rfl (.inl rfl)) (ds_cons (ds_setX (i := 12) sc_law.nd rfl o_law_told (de_lst (da_cons (de_callG ((ok_drifted T).mono (by decide : 3 ≤ 5)) hr hG g_law_drifted T.g_drifted T.f_drifted.kp (bi_drifted T) tk (da_cons (de_v (i := 8) rfl v_law_length) (da_cons (de_v (i := 11) rfl v_law_above) (da_cons (de_v (i := 10) rfl v_law_below) da_nil rfl) rfl) rfl) (alen_cons (alen_cons (alen_cons alen_nil))) (by decide) rfl rfl) (da_cons (de_kw ((ok_drifted T).mono (by decide : 3 ≤ 5)) hr hG g_law_drifted T.g_drifted T.f_drifted.kp (kwb_drifted_2_1_0 T) tk (dk_cons (de_v (i := 10) rfl v_law_below) (dk_cons (de_v (i := 11) rfl v_law_above) (dk_cons (de_v (i := 8) rfl v_law_length) dk_nil))) (alen_cons (alen_cons (alen_cons alen_nil))) rfl (fun vs h => match vs, h with | [_, _, _], _ => rfl) rfl rfl rfl rfl) da_nil rfl) rfl)) rfl (.inl rfl)) (ds_cons (ds_if (dt_cmp (op_ne.or (op_neD (room_u64 hr))) (opd_neX rfl) (de_cb (call_reprG hG (room_u hr)) (cbd_repr rfl) g_law_repr T.b_repr (by decide +kernel) (da_cons (de_v (i := 12) rfl v_law_told) da_nil rfl) (by decide) (by decide) rfl rfl) (de_cb (call_reprG hG (room_u hr)) (cbd_repr rfl) g_law_repr T.b_repr (by decide +kernel) (da_cons (de_lst (da_cons (de_v (i := 6) rfl v_law_due) (da_cons (de_v (i := 6) rfl v_law_due) da_nil rfl) rfl)) da_nil rfl) (by decide) (by decide) rfl rfl) rfl) (ds_cons (ds_ret de_bool) ds_nil) ds_nil) (ds_cons (ds_setX (i := 13) sc_law.nd rfl o_law_wide (de_callG ((ok_drifted T).mono (by decide : 3 ≤ 5)) hr hG g_law_drifted T.g_drifted T.f_drifted.kp (bi_drifted T) tk (da_cons (de_v (i := 8) rfl v_law_length) (da_cons (de_bin op_fdivW opd_fdiv (de_bin op_addA (opd_add rfl) (de_v (i := 11) rfl v_law_above) (de_v (i := 10) rfl v_law_below)) de_int) (da_cons (de_v (i := 10) rfl v_law_below) da_nil rfl) rfl) rfl) (alen_cons (alen_cons (alen_cons alen_nil))) (by decide) rfl rfl) rfl (.inl rfl)) (ds_cons (ds_if (PW.fin (dw_or (dt_cmp op_gt opd_gt (de_ix rfl (de_v (i := 13) rfl v_law_wide) de_int (fun _ _ => rfl)) (de_ix rfl (de_v (i := 6) rfl v_law_due) de_int (fun _ _ => rfl)) rfl) (dw_or (dt_cmp op_lt opd_lt (de_ix rfl (de_v (i := 13) rfl v_law_wide) de_int (fun _ _ => rfl)) (de_ix rfl (de_v (i := 6) rfl v_law_due) de_int (fun _ _ => rfl)) rfl) (pw_or1 (dt_cmp (op_ne.or (op_neD (room_u64 hr))) (opd_neX rfl) (de_callG ((ok_drifted T).mono (by decide : 3 ≤ 5)) hr hG g_law_drifted T.g_drifted T.f_drifted.kp (bi_drifted T) tk (da_cons (de_v (i := 8) rfl v_law_length) (da_cons de_int (da_cons (de_v (i := 10) rfl v_law_below) da_nil rfl) rfl) rfl) (alen_cons (alen_cons (alen_cons alen_nil))) (by decide) rfl rfl) (de_tup (da_cons (de_v (i := 8) rfl v_law_length) (da_cons (de_v (i := 8) rfl v_law_length) da_nil rfl) rfl)) rfl))))) (ds_cons (ds_ret de_bool) ds_nil) ds_nil) (ds_cons (ds_setX (i := 14) sc_law.nd rfl o_law_bad (de_ix rfl (de_lst (da_cons (de_neg de_int) (da_cons de_int (da_cons (de_bin op_pow opd_pow de_int de_int) da_nil rfl) rfl) rfl)) (de_callG ((ok__law_draw T).mono (by decide : 1 ≤ 5)) hr hG g_law__law_draw T.g__law_draw T.f__law_draw.kp (bi__law_draw T) tk (da_cons (de_v (i := 2) rfl v_law_well) (da_cons de_int da_nil rfl) rfl) (alen_cons (alen_cons alen_nil)) (by decide) rfl rfl) (fun _ _ => rfl)) rfl (.inl rfl)) (ds_cons (ds_if (PW.fin (dw_or (dt_not (dt_val (de_callG ((ok__law_refused T).mono (by decide : 4 ≤ 5)) hr hG g_law__law_refused T.g__law_refused T.f__law_refused.kp (bi__law_refused T) tk (da_cons (de_v (i := 14) rfl v_law_bad) (da_cons (de_neg de_int) (da_cons (de_neg de_int) (da_cons (de_v (i := 14) rfl v_law_bad) da_nil rfl) rfl) rfl) rfl) (alen_cons (alen_cons (alen_cons (alen_cons alen_nil)))) (by decide) rfl rfl) (fun _ => rfl))) (pw_or1 (dt_not (dt_val (de_callG ((ok__law_refused T).mono (by decide : 4 ≤ 5)) hr hG g_law__law_refused T.g__law_refused T.f__law_refused.kp (bi__law_refused T) tk (da_cons (de_v (i := 8) rfl v_law_length) (da_cons (de_bin op_sub opd_sub (de_neg de_int) (de_v (i := 11) rfl v_law_above)) (da_cons de_int (da_cons (de_bin op_sub opd_sub (de_neg de_int) (de_v (i := 11) rfl v_law_above)) da_nil rfl) rfl) rfl) rfl) (alen_cons (alen_cons (alen_cons (alen_cons alen_nil)))) (by decide) rfl rfl) (fun _ => rfl)))))) (ds_cons (ds_ret de_bool) ds_nil) ds_nil) (ds_cons (ds_setX (i := 15) sc_law.nd rfl o_law_less (de_ix rfl (de_lst (da_cons (de_v (i := 11) rfl v_law_above) (da_cons (de_bin op_sub opd_sub (de_v (i := 11) rfl v_law_above) de_int) (da_cons de_int (da_cons (de_neg de_int) da_nil rfl) rfl) rfl) rfl)) (de_callG ((ok__law_draw T).mono (by decide : 1 ≤ 5)) hr hG g_law__law_draw T.g__law_draw T.f__law_draw.kp (bi__law_draw T) tk (da_cons (de_v (i := 2) rfl v_law_well) (da_cons de_int da_nil rfl) rfl) (alen_cons (alen_cons alen_nil)) (by decide) rfl rfl) (fun _ _ => rfl)) rfl (.inl rfl)) (ds_cons (ds_if (PW.fin (dw_and (dt_cmp op_le opd_le (de_v (i := 15) rfl v_law_less) (de_v (i := 11) rfl v_law_above) rfl) (pw_and1 (dt_not (dt_val (de_callG ((ok__law_refused T).mono (by decide : 4 ≤ 5)) hr hG g_law__law_refused T.g__law_refused T.f__law_refused.kp (bi__law_refused T) tk (da_cons (de_v (i := 8) rfl v_law_length) (da_cons (de_v (i := 11) rfl v_law_above) (da_cons (de_v (i := 15) rfl v_law_less) (da_cons (de_v (i := 15) rfl v_law_less) da_nil rfl) rfl) rfl) rfl) (alen_cons (alen_cons (alen_cons (alen_cons alen_nil)))) (by decide) rfl rfl) (fun _ => rfl)))))) (ds_cons (ds_ret de_bool) ds_nil) ds_nil) ds_nil))))))))))))))))) (fun _ => rfl)) ds_nil)) (fun _ => rfl)) (ds_cons (ds_ret de_bool) ds_nil))
end
end LK

set_option Elab.async false
set_option linter.all false
set_option maxRecDepth 100000
set_option maxHeartbeats 4000000
namespace LK
open PySem PySem.Spec PyProof.Rows L2 DL
theorem runF_ret {n : Nat} {m : M Fl} {ds : List D} {r : RV} (h : Wp m (initE false n [] ds) fun f _ => f = .ret r) : runF false n m [] ds = some (.ok r, []) := by
  obtain ⟨f, ρ, e, rfl⟩ := h
  unfold runF
  rw [e]; rfl
theorem runF_nx {n : Nat} {m : M Fl} {ds : List D} (h : Wp m (initE false n [] ds) fun f _ => f = .nx) : runF false n m [] ds = some (.ok (.dat .none), []) := by
  obtain ⟨f, ρ, e, rfl⟩ := h
  unfold runF
  rw [e]; rfl
@[simp] theorem wp_isR_dat {fd : D → Option Bool} {fx : Str → Option Bool} {d : D} {ρ : List DV} {Q : DR → List DV → Prop} : Wp (isR fd fx (.dat d)) ρ Q ↔ ∃ b, fd d = some b ∧ Q (.dat (.bool b)) ρ := by
  show Wp (M.bind (rd (.dat d)) fun d => M.bind (M.opt (fd d)) fun b => M.ok (.dat (.bool b))) ρ Q ↔ _
  simp only [wp_bind, wp_rd_dat, wp_opt, wp_ok]
@[simp] theorem wp_isR_exc {fd : D → Option Bool} {fx : Str → Option Bool} {c : Str} {d : D} {ρ : List DV} {Q : DR → List DV → Prop} : Wp (isR fd fx (.exc c d)) ρ Q ↔ ∃ b, fx c = some b ∧ Q (.dat (.bool b)) ρ := by
  show Wp (M.bind (M.opt (fx c)) fun b => M.ok (.dat (.bool b))) ρ Q ↔ _
  simp only [wp_bind, wp_opt, wp_ok]
@[simp] theorem wp_eIs {fd : D → Option Bool} {fx : Str → Option Bool} {m : M DR} {ρ : List DV} {Q : DR → List DV → Prop} : Wp (eIs fd fx m) ρ Q ↔ Wp m ρ fun r ρ1 => Wp (isR fd fx r) ρ1 Q := by unfold eIs; rw [wp_bind]
@[simp] theorem wp_isNR_dat {n : Bool} {d : D} {ρ : List DV} {Q : DR → List DV → Prop} : Wp (isNR n (.dat d)) ρ Q ↔ Q (.dat (.bool (if n then !isNoneB d else isNoneB d))) ρ := by
  show Wp (M.bind (rd (.dat d)) fun d => M.ok (.dat (.bool (if n then !isNoneB d else isNoneB d)))) ρ Q ↔ _
  simp only [wp_bind, wp_rd_dat, wp_ok]
@[simp] theorem wp_eIsN {n : Bool} {m : M DR} {ρ : List DV} {Q : DR → List DV → Prop} : Wp (eIsN n m) ρ Q ↔ Wp m ρ fun r ρ1 => Wp (isNR n r) ρ1 Q := by unfold eIsN; rw [wp_bind]
@[simp] theorem ty_ii {i : Int} : isTy "int" (.int i) = some true := by show kitB "int" "int" = some true; decide +kernel
@[simp] theorem ty_bi {i : Int} : isTy "bool" (.int i) = some false := by show kitB "int" "bool" = some false; decide +kernel
@[simp] theorem ty_tt {ds : List D} : isTy "tuple" (.tuple ds) = some true := by show kitB "tuple" "tuple" = some true; decide +kernel
theorem atN {α : Type} {l : List α} {k : Nat} (h : k < l.length) : atI l (k : Int) = l[k]? := by
  unfold atI ixN
  rw [if_pos (Int.natCast_nonneg k), if_pos (by omega)]
  simp
theorem at0 {α : Type} {x : α} {l : List α} : atI (x :: l) 0 = some x := atN (k := 0) (by simp)
theorem at1 {α : Type} {x y : α} {l : List α} : atI (x :: y :: l) 1 = some y := atN (k := 1) (by simp)
theorem at2 {α : Type} {x y z : α} {l : List α} : atI (x :: y :: z :: l) 2 = some z := atN (k := 2) (by simp)
theorem at3 {α : Type} {x y z w : α} {l : List α} : atI (x :: y :: z :: w :: l) 3 = some w := atN (k := 3) (by simp)
theorem e_is_integer (i : Int) : F_is_integer [] [.int i] = some (.ok (.dat (.bool true)), []) := by
  refine runF_ret ?_
  simp [m_is_integer, initE, vr]
theorem e_is_between (i a b : Int) : F_is_between [] [.int i, .int a, .int b] = some (.ok (.dat (.bool (decide (a ≤ i ∧ i ≤ b)))), []) := by
  refine runF_ret ?_
  simp [m_is_between, initE, vr, e_is_integer, rvD]
  omega
theorem e_is_tuple (ds : List D) (a b : Int) : F_is_tuple [] [.tuple ds, .int a, .int b] = some (.ok (.dat (.bool (decide (a ≤ ds.length ∧ (ds.length : Int) ≤ b)))), []) := by
  refine runF_ret ?_
  simp [m_is_tuple, initE, vr, rvD]
  omega
theorem e_need (n lo hi : Int) (h : lo ≤ n ∧ n ≤ hi) : F_need_number [] [.int n, .int lo, .int hi] = some (.ok (.dat .none), []) := by
  refine runF_nx ?_
  simp [m_need_number, initE, vr, rvD, isNoneB]
  rw [if_neg (by omega)]
  intro; omega
theorem e_needN (n lo : Int) (h : lo ≤ n) : F_need_number [] [.int n, .int lo, .none] = some (.ok (.dat .none), []) := by
  refine runF_nx ?_
  simp [m_need_number, initE, vr, rvD, isNoneB]
  omega
theorem e_are_bounds (a b : Int) (h : 0 ≤ a ∧ a ≤ b ∧ b ≤ 60) : F_are_bounds [] [.tuple [.int a, .int b]] = some (.ok (.dat (.bool true)), []) := by
  refine runF_ret ?_
  simp [m_are_bounds, initE, vr, e_is_tuple, e_is_between, rvD, at0, at1]
  omega
@[simp] theorem wp_forM_nil {b : D → M Fl} {ρ : List DV} {Q : Fl → List DV → Prop} : Wp (forM_ b []) ρ Q ↔ Q .nx ρ := wp_ok
@[simp] theorem wp_forM_cons {b : D → M Fl} {d : D} {ds : List D} {ρ : List DV} {Q : Fl → List DV → Prop} : Wp (forM_ b (d :: ds)) ρ Q ↔ Wp (b d) ρ fun f ρ1 => match f with
    | .nx => Wp (forM_ b ds) ρ1 Q
    | .cnt => Wp (forM_ b ds) ρ1 Q
    | .brk => Q .nx ρ1
    | .ret r => Q (.ret r) ρ1 := by
  show Wp (M.bind (b d) _) ρ Q ↔ _
  rw [wp_bind]
  constructor <;> intro h <;> refine h.mono fun f ρ1 h => ?_ <;> cases f <;> simpa only [wp_ok] using h
@[simp] theorem wp_setT_nm {i : Nat} {d : D} {ρ : List DV} {Q : Unit → List DV → Prop} : Wp (setT (.nm i) d) ρ Q ↔ Wp (setD i d) ρ Q := Iff.rfl
def Bd (p : Int × Int) : D := .tuple [.int p.1, .int p.2]
def BdOk (p : Int × Int) : Prop := 0 ≤ p.1 ∧ p.1 ≤ p.2 ∧ p.2 ≤ 60
theorem e_bd (p : Int × Int) (h : BdOk p) : F_are_bounds [] [.tuple [.int p.1, .int p.2]] = some (.ok (.dat (.bool true)), []) := e_are_bounds _ _ h
theorem e_nb2 (p q : Int × Int) (hp : BdOk p) (hq : BdOk q) : F_need_bounds [] [.tuple [.tuple [.int p.1, .int p.2], .tuple [.int q.1, .int q.2]]] = some (.ok (.dat .none), []) := by
  refine runF_nx ?_
  simp [m_need_bounds, initE, vr, rvD, itemsD, e_bd p hp, e_bd q hq, DV.isBor]
theorem e_nb3 (p q r : Int × Int) (hp : BdOk p) (hq : BdOk q) (hr : BdOk r) : F_need_bounds [] [.tuple [.tuple [.int p.1, .int p.2], .tuple [.int q.1, .int q.2], .tuple [.int r.1, .int r.2]]] = some (.ok (.dat .none), []) := by
  refine runF_nx ?_
  simp [m_need_bounds, initE, vr, rvD, itemsD, e_bd p hp, e_bd q hq, e_bd r hr, DV.isBor]
theorem e_least (p q : Int × Int) (hp : BdOk p) (hq : BdOk q) : F_least_server [] [.tuple [.int p.1, .int p.2], .tuple [.int q.1, .int q.2]] = some (.ok (.dat (.int (p.2 + q.2 - p.1 + 1))), []) := by
  refine runF_ret ?_
  simp [m_least_server, initE, vr, rvD, e_nb2 p q hp hq, at0, at1]
theorem e_safe (s p q : Int × Int) (hs : BdOk s) (hp : BdOk p) (hq : BdOk q) : F_lease_is_safe [] [.tuple [.int s.1, .int s.2], .tuple [.int p.1, .int p.2], .tuple [.int q.1, .int q.2]] = some (.ok (.dat (.bool (decide (p.2 + q.2 < s.1 + p.1)))), []) := by
  refine runF_ret ?_
  simp [m_lease_is_safe, initE, vr, rvD, e_nb3 s p q hs hp hq, at0, at1]
/-! errors -/
def Wx {α : Type} (m : M α) (ρ : List DV) (x : Ex) (ρ1 : List DV) : Prop := m ρ = some (.error x, ρ1)
theorem wx_l {α β : Type} {m : M α} {k : α → M β} {ρ ρ1 : List DV} {x : Ex} (h : Wx m ρ x ρ1) : Wx (M.bind m k) ρ x ρ1 := by
  unfold Wx M.bind; rw [show m ρ = _ from h]
theorem wx_r {α β : Type} {m : M α} {k : α → M β} {ρ ρ1 : List DV} {x : Ex} (h : Wp m ρ fun a ρ' => Wx (k a) ρ' x ρ1) : Wx (M.bind m k) ρ x ρ1 := by
  obtain ⟨a, ρ', e, q⟩ := h
  unfold Wx M.bind; rw [e]; exact q
theorem wx_call {f : Fsp} {ms : M (List DR)} {ds w : List D} {ρ : List DV} {x : Ex} (h : Wp ms ρ fun rs ρ1 => Wp (frzAll rs) ρ1 fun es ρ2 => es = ds ∧ ρ2 = ρ) (hf : f [] ds = some (.error x, w)) : Wx (eCall false f ms) ρ x ρ := by
  unfold eCall callA
  refine wx_r (h.mono fun rs ρ1 h => wx_l ?_)
  simp only [Bool.false_eq_true, if_false]
  refine wx_r (h.mono fun es ρ2 h => ?_)
  obtain ⟨rfl, rfl⟩ := h
  unfold Wx callD; rw [hf]
theorem wx_raise {c : Str} {m : M DR} {d : D} {ρ ρ1 : List DV} (h : Wp m ρ fun r ρ1' => Wp (frz r) ρ1' fun d' ρ2 => d' = d ∧ ρ2 = ρ1) : Wx (sRaise c m) ρ (c, d) ρ1 := by
  unfold sRaise
  refine wx_r (h.mono fun r ρ1' h => wx_r (h.mono fun d' ρ2 h => ?_))
  obtain ⟨rfl, rfl⟩ := h
  rfl
theorem runF_err {n : Nat} {m : M Fl} {ds : List D} {x : Ex} {ρ1 : List DV} (h : Wx m (initE false n [] ds) x ρ1) : runF false n m [] ds = some (.error x, []) := by
  unfold runF; rw [show m _ = _ from h]; rfl
theorem x_need (n lo hi : Int) (h : ¬ (lo ≤ n ∧ n ≤ hi)) : F_need_number [] [.int n, .int lo, .int hi] = some (.error ("InvalidNumber", .int n), []) := by
  refine runF_err (ρ1 := initE false 3 [] [.int n, .int lo, .int hi]) ?_
  unfold m_need_number
  refine wx_l ?_
  unfold sIf
  refine wx_r ?_
  have hb : (decide (n < lo) || decide (hi < n)) = true := by simp; omega
  simp [initE, vr, isNoneB]
  by_cases h1 : n < lo
  · rw [if_pos h1]
    exact wx_l (wx_raise (by simp [vr]))
  · rw [if_neg h1]
    have h2 : hi < n := by omega
    rw [if_pos h2]
    exact wx_l (wx_raise (by simp [vr]))
theorem x_needN (n lo : Int) (h : n < lo) : F_need_number [] [.int n, .int lo, .none] = some (.error ("InvalidNumber", .int n), []) := by
  refine runF_err (ρ1 := initE false 3 [] [.int n, .int lo, .none]) ?_
  unfold m_need_number
  refine wx_l ?_
  unfold sIf
  refine wx_r ?_
  simp [initE, vr, isNoneB]
  rw [if_pos h]
  exact wx_l (wx_raise (by simp [vr]))
theorem e_drifted (l a b : Int) (hl : 0 ≤ l ∧ l ≤ 60) (ha : 0 ≤ a) (hb : a < b) (hz : b.natAbs < 2 ^ 1000) : F_drifted [] [.int l, .int a, .int b] = some (.ok (.dat (.tuple [.int (l * (b - a) / b), .int (-(-l * (b + a) / b))])), []) := by
  refine runF_ret ?_
  have m1 : mulD (.int l) (.int (b - a)) = some (.int (l * (b - a))) := mulD_i (mul_c2 (by omega))
  have m2 : mulD (.int (-l)) (.int (b + a)) = some (.int (-l * (b + a))) := mulD_i (mul_c2 (by omega))
  have hg : b.natAbs.log2 < 9000 := Nat.lt_trans (log2_of hz (by decide)) (by decide)
  have d1 : ∀ i : Int, fdivD (.int i) (.int b) = some (.int (i / b)) := fun i => fdivD_i (by omega) hg
  simp [m_drifted, initE, vr, rvD, e_need l 0 60 hl, e_needN a 0 ha, m1, m2, d1]
  omega
theorem wx_sExpr {m : M DR} {ρ ρ1 : List DV} {x : Ex} (h : Wx m ρ x ρ1) : Wx (sExpr m) ρ x ρ1 := wx_l h
theorem x_drifted (l a b v : Int) (h : (¬ (0 ≤ l ∧ l ≤ 60) ∧ v = l) ∨ ((0 ≤ l ∧ l ≤ 60) ∧ a < 0 ∧ v = a) ∨ ((0 ≤ l ∧ l ≤ 60) ∧ 0 ≤ a ∧ b ≤ a ∧ v = b)) : F_drifted [] [.int l, .int a, .int b] = some (.error ("InvalidNumber", .int v), []) := by
  refine runF_err (ρ1 := initE false 3 [] [.int l, .int a, .int b]) ?_
  unfold m_drifted
  rcases h with ⟨h1, rfl⟩ | ⟨h1, h2, rfl⟩ | ⟨h1, h2, h3, rfl⟩
  · exact wx_l (wx_sExpr (wx_call (ds := [.int v, .int 0, .int 60]) (by simp [initE, vr]) (x_need v 0 60 h1)))
  · refine wx_r ?_
    simp [initE, vr, e_need l 0 60 h1]
    exact wx_l (wx_sExpr (wx_call (ds := [.int v, .int 0, .none]) (by simp [vr]) (x_needN v 0 h2)))
  · refine wx_r ?_
    simp [initE, vr, e_need l 0 60 h1]
    refine wx_r ?_
    simp [vr, e_needN a 0 h2]
    refine wx_l ?_
    unfold sIf
    refine wx_r ?_
    simp [vr]
    rw [if_pos h3]
    exact wx_l (wx_raise (by simp [vr]))
/-! repr of ints, pairs -/
theorem rOk_i (i : Int) (h : i.natAbs < 2 ^ 1000) : reprOk (.int i) = true := by
  have := log2_of h (by decide)
  simp [reprOk, PyData.showable, SeqAt.shaped, PyData.canLay0, PyData.depth, rz]
  omega
theorem r_i (i : Int) (h : i.natAbs < 2 ^ 1000) : reprF [.int i] = some (.str (PyData.shown (.int i))) := by
  show (if reprOk (.int i) then _ else _) = _
  rw [if_pos (rOk_i i h)]
@[simp] theorem eqX_s {x : Str} : eqX (.str x) (.str x) = some (.bool true) := by show some (PyData.bool (x == x)) = _; rw [beq_self_eq_true]
@[simp] theorem neX_s {x : Str} : neX (.str x) (.str x) = some (.bool false) := by show some (PyData.bool (!(x == x))) = _; rw [beq_self_eq_true]; rfl
theorem r_2i (i j : Int) (hi : i.natAbs < 2 ^ 1000) (hj : j.natAbs < 2 ^ 1000) : ∃ x, reprF [.list [.int i, .int j]] = some (.str x) := by
  have h1 := log2_of hi (by decide)
  have h2 := log2_of hj (by decide)
  refine ⟨(PyData.list [.int i, .int j]).shown, ?_⟩
  show (if reprOk (.list [.int i, .int j]) then _ else _) = _
  rw [if_pos]
  simp [reprOk, PyData.showable, PyData.showableAll, SeqAt.shaped, PyData.canLay0, PyData.canLayAll0, PyData.depth, PyData.depthAll, rz, rzAll]
  omega
theorem wp_sTry_x {ca : Str → Option Bool} {i : Nat} {mb ms : M Fl} {ρ ρ1 : List DV} {x : Ex} {Q : Fl → List DV → Prop} (h : Wx mb ρ x ρ1) (hc : ca x.1 = some true)
    (h2 : Wp (setV i (.exc x.1 x.2)) ρ1 fun _ ρ2 => Wp ms ρ2 fun fl ρ3 => Wp (setV i .un) ρ3 fun _ ρ4 => Q fl ρ4) : Wp (sTry ca i mb ms) ρ Q := by
  obtain ⟨u, ρ2, e2, fl, ρ3, e3, u4, ρ4, e4, q⟩ := h2
  refine ⟨fl, ρ4, ?_, q⟩
  unfold sTry
  rw [show mb ρ = _ from h]
  dsimp only
  rw [hc]
  dsimp only
  rw [e2]
  dsimp only
  rw [e3]
  dsimp only
  rw [e4]
@[simp] theorem wp_valR {ok : Str → Bool} {c : Str} {d : D} {ρ : List DV} {Q : DR → List DV → Prop} : Wp (valR ok (.exc c d)) ρ Q ↔ ok c = true ∧ Q (.dat d) ρ := by
  show Wp (if ok c = true then M.ok (.dat d) else M.no) ρ Q ↔ _
  rw [wp_ifp, wp_ok]
@[simp] theorem wp_eVal {ok : Str → Bool} {m : M DR} {ρ : List DV} {Q : DR → List DV → Prop} : Wp (eVal ok m) ρ Q ↔ Wp m ρ fun r ρ1 => Wp (valR ok r) ρ1 Q := by unfold eVal; rw [wp_bind]
theorem e_refused (l a b v : Int) (h : (¬ (0 ≤ l ∧ l ≤ 60) ∧ v = l) ∨ ((0 ≤ l ∧ l ≤ 60) ∧ a < 0 ∧ v = a) ∨ ((0 ≤ l ∧ l ≤ 60) ∧ 0 ≤ a ∧ b ≤ a ∧ v = b)) (hv : v.natAbs < 2 ^ 1000) :
    F__law_refused [] [.int l, .int a, .int b, .int v] = some (.ok (.dat (.bool true)), []) := by
  refine runF_ret ?_
  unfold m__law_refused
  simp only [wp_sCons, wp_sSetX, wp_eLit, wp_stX_dat]
  refine ⟨.un, rfl, rfl, ?_⟩
  refine wp_sTry_x (x := ("InvalidNumber", .int v)) (wx_l (wx_sExpr (wx_call (ds := [.int l, .int a, .int b]) (by simp [initE, vr]) (x_drifted l a b v h)))) (show isCls2 "InvalidNumber" = some true by decide +kernel) ?_
  have hx : isEx "InvalidNumber" "InvalidNumber" = some true := by decide +kernel
  have hy : isCls "InvalidNumber" = true := by decide +kernel
  simp [initE, vr, DV.isBor, hx, hy, r_i v hv]
end LK

set_option Elab.async false
set_option linter.all false
set_option maxRecDepth 100000
set_option maxHeartbeats 4000000
namespace LK
open PySem PySem.Spec PyProof.Rows L2 DL
/-! comprehensions -/
@[simp] theorem wp_accAdd {y : D} {ρ : List DV} {Q : Unit → List DV → Prop} : Wp (accAdd y) ρ Q ↔ ∃ acc, ρ.getLast? = some (.lst acc) ∧ acc.length < 16777216 ∧ Q () (ρ.dropLast ++ [.lst (acc ++ [y])]) := by
  constructor
  · rintro ⟨a, ρ', e, q⟩
    unfold accAdd at e
    split at e
    · rename_i acc h
      split at e
      · rename_i hl; cases e; exact ⟨acc, h, hl, q⟩
      · cases e
    · cases e
  · rintro ⟨acc, h, hl, q⟩
    refine ⟨(), _, ?_, q⟩
    unfold accAdd; rw [h]; dsimp only; rw [if_pos hl]
@[simp] theorem wp_mWipe {vs : List Nat} {ρ : List DV} {Q : Unit → List DV → Prop} : Wp (mWipe vs) ρ Q ↔ wipeOk vs ρ = true ∧ Q () (wipeD vs ρ) := by
  constructor
  · rintro ⟨a, ρ', e, q⟩
    unfold mWipe at e
    split at e
    · rename_i h; cases e; exact ⟨h, q⟩
    · cases e
  · rintro ⟨h, q⟩
    exact ⟨(), _, by unfold mWipe; rw [if_pos h], q⟩
@[simp] theorem wp_lcTurn {t : DT} {mt : M Bool} {me : M DR} {vs : List Nat} {d : D} {ρ : List DV} {Q : Unit → List DV → Prop} : Wp (lcTurn t mt me vs d) ρ Q ↔ Wp (setT t d) ρ fun _ ρ1 => Wp mt ρ1 fun b ρ2 =>
    if b = true then Wp me ρ2 fun r ρ3 => Wp (frz r) ρ3 fun y ρ4 => Wp (accAdd y) ρ4 fun _ ρ5 => Wp (mWipe vs) ρ5 Q else Wp (mWipe vs) ρ2 Q := by
  unfold lcTurn
  simp only [wp_bind]
  constructor
  · intro h
    refine h.mono fun _ ρ1 h => h.mono fun b ρ2 h => ?_
    cases b with
    | true => simpa only [if_true, wp_bind] using h
    | false => simpa only [Bool.false_eq_true, if_false, wp_ok] using h
  · intro h
    refine h.mono fun _ ρ1 h => h.mono fun b ρ2 h => ?_
    cases b with
    | true => simpa only [if_true, wp_bind] using h
    | false => simpa only [Bool.false_eq_true, if_false, wp_ok] using h
theorem wp_lcGo {t : DT} {mt : M Bool} {me : M DR} {vs : List Nat} {W : List DV} {st : D → List D} (hst : ∀ d, (st d).length ≤ 1) : ∀ (ds acc : List D), acc.length + ds.length ≤ 16777216 →
    (∀ d ∈ ds, ∀ acc : List D, acc.length < 16777216 → Wp (lcTurn t mt me vs d) (W ++ [.lst acc]) fun _ ρ' => ρ' = W ++ [.lst (acc ++ st d)]) →
    Wp (lcGo t mt me vs ds) (W ++ [.lst acc]) fun _ ρ' => ρ' = W ++ [.lst (acc ++ ds.flatMap st)]
  | [], acc, _, _ => wp_ok.mpr (by simp)
  | d :: ds, acc, hl, h => by
    show Wp (M.bind _ _) _ _
    rw [wp_bind]
    rw [List.length_cons] at hl
    refine (h d List.mem_cons_self acc (by omega)).mono fun _ ρ1 e => ?_
    subst e
    have := hst d
    refine (wp_lcGo hst ds (acc ++ st d) (by rw [List.length_append]; omega) fun d' hd => h d' (List.mem_cons_of_mem _ hd)).mono fun _ ρ2 e => ?_
    rw [e, List.flatMap_cons, List.append_assoc]
theorem wp_eLc {mi : M (List D)} {t : DT} {mt : M Bool} {me : M DR} {vs : List Nat} {ρ W : List DV} {ds : List D} {Q : DR → List DV → Prop} (st : D → List D) (hst : ∀ d, (st d).length ≤ 1) (hi : Wp mi ρ fun es ρ1 => es = ds ∧ ρ1 = ρ) (hl : ds.length ≤ 16777216)
    (hw : wipeOk vs (ρ ++ [.lst []]) = true) (hw2 : wipeD vs (ρ ++ [.lst []]) = W ++ [.lst []]) (hr : ∀ l, restD vs (ρ ++ [.lst []]) (W ++ [.lst l]) = ρ ++ [.lst l])
    (h : ∀ d ∈ ds, ∀ acc : List D, acc.length < 16777216 → Wp (lcTurn t mt me vs d) (W ++ [.lst acc]) fun _ ρ' => ρ' = W ++ [.lst (acc ++ st d)]) (hQ : Q (.dat (.list (ds.flatMap st))) ρ) : Wp (eLc mi t mt me vs) ρ Q := by
  unfold eLc nLc
  simp only [wp_bind, wp_push]
  refine hi.mono fun es ρ1 e => ?_
  obtain ⟨rfl, rfl⟩ := e
  have g := wp_lcGo (t := t) (mt := mt) (me := me) (vs := vs) (W := W) hst es [] (by simpa using hl) h
  have g2 : Wp (M.bind (mWipe vs) fun _ => lcGo t mt me vs es) (ρ1 ++ [.lst []]) fun _ ρ' => ρ' = W ++ [.lst (es.flatMap st)] := by
    rw [wp_bind, wp_mWipe]
    refine ⟨hw, ?_⟩
    rw [hw2]
    simpa using g
  obtain ⟨u, ρ2, e, rfl⟩ := g2
  refine ⟨(), ρ1 ++ [.lst (es.flatMap st)], ?_, ?_⟩
  · unfold lcRun; rw [e]; dsimp only; rw [hr]
  · refine ⟨_, _, ?_, hQ⟩
    unfold popD; simp
def stF (p : Int → Bool) : D → List D
  | .int n => if p n then [.int n] else []
  | _ => []
theorem stF_len (p : Int → Bool) (d : D) : (stF p d).length ≤ 1 := by
  cases d <;> simp [stF]
  split <;> simp
theorem flatMap_filter (p : Int → Bool) : ∀ ns : List Int, (ns.map PyData.int).flatMap (stF p) = (ns.filter p).map PyData.int
  | [] => rfl
  | n :: ns => by
    rw [List.map_cons, List.flatMap_cons, flatMap_filter p ns]
    by_cases h : p n = true
    · rw [List.filter_cons_of_pos h]; simp [h, stF]
    · rw [List.filter_cons_of_neg h]; simp [h, stF]
theorem asInts_map : ∀ ns : List Int, asInts (ns.map PyData.int) = some ns
  | [] => rfl
  | n :: ns => by simp [asInts, asInts_map ns]
theorem maxLF_of {ns : List Int} {m : Int} (h1 : m ∈ ns) (h2 : ∀ y ∈ ns, y ≤ m) : maxLF [.list (ns.map PyData.int)] = some (.int m) := by
  have hpos : 0 < ns.length := List.length_pos_of_mem h1
  obtain ⟨k1, k2⟩ := maxN_is hpos
  have e : maxN ns = m := Int.le_antisymm (h2 _ k1) (k2 m h1)
  show (asInts (ns.map PyData.int)).bind _ = _
  rw [asInts_map]
  show (if ns.isEmpty = true then none else some (PyData.int (maxN ns))) = _
  rw [if_neg (by cases ns <;> simp at hpos ⊢), e]
theorem minLF_of {ns : List Int} {m : Int} (h1 : m ∈ ns) (h2 : ∀ y ∈ ns, m ≤ y) : minLF [.list (ns.map PyData.int)] = some (.int m) := by
  have hpos : 0 < ns.length := List.length_pos_of_mem h1
  obtain ⟨k1, k2⟩ := minN_is hpos
  have e : minN ns = m := Int.le_antisymm (k2 m h1) (h2 _ k1)
  show (asInts (ns.map PyData.int)).bind _ = _
  rw [asInts_map]
  show (if ns.isEmpty = true then none else some (PyData.int (minN ns))) = _
  rw [if_neg (by cases ns <;> simp at hpos ⊢), e]
def rgI (a b : Int) : List Int := (List.range (b - a).toNat).map fun i => a + (i : Nat)
theorem rangeD_rgI (a b : Int) : rangeD a b = (rgI a b).map PyData.int := by unfold rangeD rgI; rw [List.map_map]; rfl
theorem mem_rgI {a b n : Int} : n ∈ rgI a b ↔ a ≤ n ∧ n < b := by
  unfold rgI
  rw [List.mem_map]
  constructor
  · rintro ⟨i, hi, rfl⟩
    rw [List.mem_range] at hi
    omega
  · intro h
    exact ⟨(n - a).toNat, by rw [List.mem_range]; omega, by omega⟩
theorem okR_s {i : Int} (h : -1000000 ≤ i ∧ i ≤ 1000000) : okR i = true := by
  unfold okR
  rw [decide_eq_true (by omega : -(2 ^ 62) ≤ i), decide_eq_true (by omega : i < 2 ^ 62)]; rfl
theorem rngF1 {n : Int} (h : -1000000 ≤ n ∧ n ≤ 1000000) : rngF [.int n] = some ((rgI 0 n).map PyData.int) := by
  show (if okR n = true then some (rangeD 0 n) else none) = _
  rw [if_pos (okR_s h), rangeD_rgI]
theorem rngF2 {a n : Int} (h : -1000000 ≤ n ∧ n ≤ 1000000) (h2 : -1000000 ≤ a ∧ a ≤ 1000000) : rngF [.int a, .int n] = some ((rgI a n).map PyData.int) := by
  show (if (okR a && okR n) = true then some (rangeD a n) else none) = _
  rw [okR_s h, okR_s h2]; simp [rangeD_rgI]
theorem rgI_len (a b : Int) : (rgI a b).length = (b - a).toNat := by unfold rgI; rw [List.length_map, List.length_range]
/-! drift -/
theorem e_drift (l a b : Int) (hl : 0 ≤ l ∧ l ≤ 60) (ha : 0 ≤ a) (hb : a < b) (hz : b.natAbs < 2 ^ 500) : F__law_drift [] [.int l, .int a, .int b] = some (.ok (.dat (.tuple [.int (l * (b - a) / b), .int (-(-l * (b + a) / b))])), []) := by
  refine runF_ret ?_
  unfold m__law_drift
  have m1 : mulD (.int l) (.int (b - a)) = some (.int (l * (b - a))) := mulD_i (mul_c2 (by omega))
  have m2 : mulD (.int l) (.int (b + a)) = some (.int (l * (b + a))) := mulD_i (mul_c2 (by omega))
  have mn : ∀ n : Int, 0 ≤ n ∧ n < 1000 → mulD (.int n) (.int b) = some (.int (n * b)) := fun n hn => mulD_i (mul_c2 (by omega))
  have m4 : mulD (.int 2) (.int l) = some (.int (2 * l)) := mulD_i (mul_c2 (by decide))
  have hb0 : 0 < b := by omega
  have hlo : l * (b - a) / b ∈ (rgI 0 (l + 1)).filter (fun n => decide (n * b ≤ l * (b - a))) := by
    rw [List.mem_filter, mem_rgI, decide_eq_true_eq]
    have h1 : 0 ≤ l * (b - a) := Int.mul_nonneg hl.1 (by omega)
    have h2 : l * (b - a) / b * b ≤ l * (b - a) := Int.ediv_mul_le _ (by omega)
    have h3 : 0 ≤ l * (b - a) / b := Int.ediv_nonneg h1 (by omega)
    have h4 : l * (b - a) / b ≤ l := by
      refine Int.le_of_mul_le_mul_right (Int.le_trans h2 ?_) hb0
      exact Int.mul_le_mul_of_nonneg_left (by omega) hl.1
    exact ⟨⟨h3, by omega⟩, h2⟩
  have hlo2 : ∀ y ∈ (rgI 0 (l + 1)).filter (fun n => decide (n * b ≤ l * (b - a))), y ≤ l * (b - a) / b := by
    intro y hy
    rw [List.mem_filter, decide_eq_true_eq] at hy
    exact (Int.le_ediv_iff_mul_le hb0).mpr hy.2
  have hhi : -(-l * (b + a) / b) ∈ (rgI l (2 * l + 1)).filter (fun n => decide (l * (b + a) ≤ n * b)) := by
    rw [List.mem_filter, mem_rgI, decide_eq_true_eq]
    have e1 : -l * (b + a) = -(l * (b + a)) := Int.neg_mul _ _
    rw [e1]
    have h2 : -(l * (b + a)) / b * b ≤ -(l * (b + a)) := Int.ediv_mul_le _ (by omega)
    have h5 : l * (b + a) ≤ -(-(l * (b + a)) / b) * b := by rw [Int.neg_mul]; omega
    have h6 : l * b ≤ l * (b + a) := Int.mul_le_mul_of_nonneg_left (by omega) hl.1
    have h7 : l ≤ -(-(l * (b + a)) / b) := Int.le_of_mul_le_mul_right (Int.le_trans h6 h5) hb0
    have h8 : l * (b + a) ≤ (2 * l) * b := by
      have : l * (b + a) ≤ l * (b + b) := Int.mul_le_mul_of_nonneg_left (by omega) hl.1
      have e : l * (b + b) = 2 * l * b := by rw [Int.mul_add, Int.mul_assoc]; omega
      omega
    have h9 : -(2 * l) ≤ -(l * (b + a)) / b := (Int.le_ediv_iff_mul_le hb0).mpr (by rw [Int.neg_mul]; omega)
    exact ⟨⟨h7, by omega⟩, h5⟩
  have hhi2 : ∀ y ∈ (rgI l (2 * l + 1)).filter (fun n => decide (l * (b + a) ≤ n * b)), -(-l * (b + a) / b) ≤ y := by
    intro y hy
    rw [List.mem_filter, decide_eq_true_eq] at hy
    have e1 : -l * (b + a) = -(l * (b + a)) := Int.neg_mul _ _
    rw [e1]
    have := (Int.le_ediv_iff_mul_le (a := -y) (b := -(l * (b + a))) hb0).mpr (by rw [Int.neg_mul]; omega)
    omega
  simp only [wp_sCons, wp_sSetX, wp_eCB, wp_aCons]
  refine wp_eLc (ds := (rgI 0 (l + 1)).map PyData.int) (W := [.dat (.int l), .dat (.int a), .dat (.int b), .un, .un, .un]) (stF fun n => decide (n * b ≤ l * (b - a))) (stF_len _) ?_ (by rw [List.length_map, rgI_len]; omega) rfl rfl (fun _ => rfl) ?_ ?_
  · simp [initE, vr, rngF1 (n := l + 1) (by omega)]
  · intro d hd acc hacc
    obtain ⟨n, hn, rfl⟩ := List.mem_map.mp hd
    rw [mem_rgI] at hn
    simp [vr, DV.isBor, mn n (by omega), m1]
    by_cases hc : n * b ≤ l * (b - a)
    · rw [if_pos hc]
      simp [vr, hc, hacc, stF]
      exact ⟨rfl, rfl⟩
    · rw [if_neg hc]
      simp [hc, stF]
      exact ⟨rfl, rfl⟩
  · rw [flatMap_filter fun n => decide (n * b ≤ l * (b - a))]
    simp only [wp_aNil, wp_rdAll_cons, wp_rdAll_nil, wp_rd_dat, maxLF_of hlo hlo2, exists_some, wp_stX_dat]
    refine ⟨.un, rfl, rfl, ?_⟩
    refine wp_eLc (ds := (rgI l (2 * l + 1)).map PyData.int) (W := [.dat (.int l), .dat (.int a), .dat (.int b), .dat (.int (l * (b - a) / b)), .un, .un]) (stF fun n => decide (l * (b + a) ≤ n * b)) (stF_len _) ?_ (by rw [List.length_map, rgI_len]; omega) rfl rfl (fun _ => rfl) ?_ ?_
    · simp [initE, vr, m4, rngF2 (a := l) (n := 2 * l + 1) (by omega) (by omega)]
    · intro d hd acc hacc
      obtain ⟨n, hn, rfl⟩ := List.mem_map.mp hd
      rw [mem_rgI] at hn
      simp [vr, DV.isBor, mn n (by omega), m2]
      by_cases hc : l * (b + a) ≤ n * b
      · rw [if_pos hc]
        simp [vr, hc, hacc, stF]
        exact ⟨rfl, rfl⟩
      · rw [if_neg hc]
        simp [hc, stF]
        exact ⟨rfl, rfl⟩
    · rw [flatMap_filter fun n => decide (l * (b + a) ≤ n * b)]
      simp only [wp_aNil, wp_rdAll_cons, wp_rdAll_nil, wp_rd_dat, minLF_of hhi hhi2, exists_some, wp_stX_dat]
      refine ⟨.un, rfl, rfl, ?_⟩
      simp [initE, vr]
end LK

set_option Elab.async false
set_option linter.all false
set_option maxRecDepth 100000
set_option maxHeartbeats 4000000
namespace LK
open PySem PySem.Spec PyProof.Rows L2 DL
/-! expressions whose value is an int, or data -/
def Ev (m : M DR) (ρ : List DV) (d : D) : Prop := Wp m ρ fun r ρ1 => r = .dat d ∧ ρ1 = ρ
section
variable {m ma mb : M DR} {ρ : List DV} {i j v : Int} {d e : D} {k : Nat}
theorem ev_lit : Ev (eLit d) ρ d := wp_ok.mpr ⟨rfl, rfl⟩
theorem ev_var (h : ρ[k]? = some (.dat d)) : Ev (eVar k) ρ d := by
  unfold Ev; rw [wp_eVar, h]; exact ⟨_, rfl, rfl, rfl⟩
theorem ev_op2 {f : D → D → Option D} {z : D} (ha : Ev ma ρ d) (hb : Ev mb ρ e) (h : f d e = some z) : Ev (eOp2 f ma mb) ρ z := by
  unfold Ev; rw [wp_eOp2]
  refine ha.mono fun r ρ1 q => ?_
  obtain ⟨rfl, rfl⟩ := q
  refine hb.mono fun r ρ2 q => ?_
  obtain ⟨rfl, rfl⟩ := q
  rw [wp_rd_dat, wp_rd_dat]
  exact ⟨z, h, rfl, rfl⟩
theorem ev_op1 {f : D → Option D} {z : D} (ha : Ev ma ρ d) (h : f d = some z) : Ev (eOp1 f ma) ρ z := by
  unfold Ev; rw [wp_eOp1]
  refine ha.mono fun r ρ1 q => ?_
  obtain ⟨rfl, rfl⟩ := q
  rw [wp_rd_dat]
  exact ⟨z, h, rfl, rfl⟩
theorem ev_add (ha : Ev ma ρ (.int i)) (hb : Ev mb ρ (.int j)) : Ev (eOp2 addD ma mb) ρ (.int (i + j)) := ev_op2 ha hb rfl
theorem ev_sub (ha : Ev ma ρ (.int i)) (hb : Ev mb ρ (.int j)) : Ev (eOp2 subD ma mb) ρ (.int (i - j)) := ev_op2 ha hb rfl
theorem ev_mul (ha : Ev ma ρ (.int i)) (hb : Ev mb ρ (.int j)) (h : mulC i j = true) : Ev (eOp2 mulD ma mb) ρ (.int (i * j)) := ev_op2 ha hb (mulD_i h)
theorem ev_mod (ha : Ev ma ρ (.int i)) (hb : Ev mb ρ (.int j)) (h : 0 < j) : Ev (eOp2 modD ma mb) ρ (.int (i % j)) := ev_op2 ha hb (modD_i h)
theorem ev_fdiv (ha : Ev ma ρ (.int i)) (hb : Ev mb ρ (.int j)) (h : 0 < j) (h2 : j.natAbs < 2 ^ 1000) : Ev (eOp2 fdivD ma mb) ρ (.int (i / j)) := ev_op2 ha hb (fdivD_i h (Nat.lt_trans (log2_of h2 (by decide)) (by decide)))
theorem ev_pow (n : Nat) (hn : n ≤ 1000000) : Ev (eOp2 powD (eLit (.int 10)) (eLit (.int n))) ρ (.int (10 ^ n)) := ev_op2 ev_lit ev_lit (by
  show (if powC 10 n then some (PyData.int (10 ^ (n : Int).toNat)) else none) = _
  rw [if_pos (by unfold powC; rw [decide_eq_true (by omega : (0 : Int) ≤ n), decide_eq_true (by omega : (n : Int) ≤ 1000000)]; decide)]
  rfl)
theorem ev_cb1 {f : List D → Option D} {z : D} (ha : Ev ma ρ d) (h : f [d] = some z) : Ev (eCB f (aCons ma aNil)) ρ z := by
  unfold Ev; rw [wp_eCB, wp_aCons]
  refine ha.mono fun r ρ1 q => ?_
  obtain ⟨rfl, rfl⟩ := q
  rw [wp_aNil, wp_rdAll_cons, wp_rd_dat, wp_rdAll_nil]
  exact ⟨z, h, rfl, rfl⟩
theorem ev_cb2 {f : List D → Option D} {z : D} (ha : Ev ma ρ d) (hb : Ev mb ρ e) (h : f [d, e] = some z) : Ev (eCB f (aCons ma (aCons mb aNil))) ρ z := by
  unfold Ev; rw [wp_eCB, wp_aCons]
  refine ha.mono fun r ρ1 q => ?_
  obtain ⟨rfl, rfl⟩ := q
  rw [wp_aCons]
  refine hb.mono fun r ρ2 q => ?_
  obtain ⟨rfl, rfl⟩ := q
  rw [wp_aNil, wp_rdAll_cons, wp_rd_dat, wp_rdAll_cons, wp_rd_dat, wp_rdAll_nil]
  exact ⟨z, h, rfl, rfl⟩
theorem ev_int (ha : Ev ma ρ (.int i)) : Ev (eCB intF (aCons ma aNil)) ρ (.int i) := ev_cb1 ha rfl
/-- x[n] of an own or lent list -/
theorem ev_ixo {x : DV} {ds : List D} {n : Int} (hx : ρ[k]? = some x) (ho : x.own = some ds) (h : atI ds n = some d) : Ev (eOp2 ixD (eVar k) (eLit (.int n))) ρ d := by
  unfold Ev; rw [wp_eOp2, wp_eVar, hx]
  have hr : vr k (some x) = some (.loc k) := by cases x <;> simp_all [DV.own, vr]
  refine ⟨_, hr, ?_⟩
  rw [wp_eLit, wp_rd_loc, hx]
  refine ⟨ds, ho, ?_⟩
  rw [wp_rd_dat]
  exact ⟨d, h, rfl, rfl⟩
theorem ev_test {b : Bool} {Q : Bool → List DV → Prop} (ha : Ev m ρ (.bool b)) (h : Q b ρ) : Wp (eB m) ρ Q := by
  rw [wp_eB]
  refine ha.mono fun r ρ1 q => ?_
  obtain ⟨rfl, rfl⟩ := q
  exact wp_asB.mpr h
theorem ev_set {Q : Fl → List DV → Prop} {x : DV} (ha : Ev m ρ d) (hx : ρ[k]? = some x) (hb : x.isBor = false) (h : Q .nx (ρ.set k (.dat d))) : Wp (sSetX k m) ρ Q := by
  rw [wp_sSetX]
  refine ha.mono fun r ρ1 q => ?_
  obtain ⟨rfl, rfl⟩ := q
  exact wp_stX_dat.mpr ⟨x, hx, hb, h⟩
theorem ev_ret {Q : Fl → List DV → Prop} (ha : Ev m ρ d) (h : Q (.ret (.dat d)) ρ) : Wp (sRet m) ρ Q := by
  rw [wp_sRet]
  refine ha.mono fun r ρ1 q => ?_
  obtain ⟨rfl, rfl⟩ := q
  exact wp_frz_dat.mpr h
theorem ev_store {Q : Fl → List DV → Prop} {x : DV} {ds : List D} {n : Int} {p : Nat} (ha : Ev m ρ d) (hx : ρ[k]? = some x) (ho : x.own = some ds) (hi : ixN ds.length n = some p) (h : Q .nx (ρ.set k (x.put (ds.set p d)))) : Wp (sStore m (eVar k) (eLit (.int n))) ρ Q := by
  rw [wp_sStore]
  refine ha.mono fun r ρ1 q => ?_
  obtain ⟨rfl, rfl⟩ := q
  rw [wp_frz_dat, wp_eVar, hx]
  have hr : vr k (some x) = some (.loc k) := by cases x <;> simp_all [DV.own, vr]
  refine ⟨_, hr, ?_⟩
  rw [wp_eLit, wp_rd_dat, wp_storeK]
  exact ⟨x, ds, p, hx, ho, hi, h⟩
theorem wp_seq {m1 m2 : M Fl} {Q : Fl → List DV → Prop} (h : Wp m1 ρ fun f ρ1 => f = .nx ∧ Wp m2 ρ1 Q) : Wp (sCons m1 m2) ρ Q := by
  rw [wp_sCons]
  refine h.mono fun f ρ1 q => ?_
  obtain ⟨rfl, q⟩ := q
  exact q
theorem wp_fin {m1 m2 : M Fl} {Q : Fl → List DV → Prop} {r : RV} (h : Wp m1 ρ fun f ρ1 => f = .ret r ∧ Q (.ret r) ρ1) : Wp (sCons m1 m2) ρ Q := by
  rw [wp_sCons]
  refine h.mono fun f ρ1 q => ?_
  obtain ⟨rfl, q⟩ := q
  exact q
end
/-! draws -/
def Wl (n : Nat) (w : List D) : Prop := ∃ a b c : Int, w = [.int a, .int b, .int c] ∧ 0 ≤ a ∧ 0 ≤ b ∧ b < 2 ^ 100 ∧ 0 ≤ c ∧ c + n < 2 ^ 60
theorem Wl.less {n m : Nat} {w : List D} (h : Wl n w) (hm : m ≤ n) : Wl m w := by
  obtain ⟨a, b, c, e, h1, h2, h3, h4, h5⟩ := h
  exact ⟨a, b, c, e, h1, h2, h3, h4, by omega⟩
theorem mod_lt {i j : Int} (h : 0 < j) : 0 ≤ i % j ∧ i % j < j := ⟨Int.emod_nonneg _ (by omega), Int.emod_lt_of_pos _ h⟩
theorem e_draw {n : Nat} {w : List D} (hw : Wl (n + 1) w) (many : Int) (hm : 0 < many) (hz : many.natAbs < 2 ^ 1000) :
    ∃ r w', F__law_draw w [.int many] = some (.ok (.dat (.int r)), w') ∧ 0 ≤ r ∧ r < many ∧ Wl n w' := by
  obtain ⟨a, b, c, rfl, h1, h2, h3, h4, h5⟩ := hw
  suffices h : Wp m__law_draw (initE true 5 [.int a, .int b, .int c] [.int many]) (fun f ρ => ∃ r : Int, f = .ret (.dat (.int r)) ∧ 0 ≤ r ∧ r < many ∧ Wl n (lentOf true ρ)) by
    obtain ⟨f, ρ, e, r, rfl, q⟩ := h
    exact ⟨r, lentOf true ρ, by unfold F__law_draw runF; rw [e], q⟩
  show Wp m__law_draw [.bor [.int a, .int b, .int c], .dat (.int many), .un, .un, .un] _
  unfold m__law_draw
  rw [wp_sCons, wp_sIf]
  refine ev_test (ev_op2 (ev_ixo rfl rfl at0) ev_lit rfl) ?_
  by_cases ha : 0 < a
  · rw [decide_eq_true ha, if_pos rfl]
    refine wp_seq (ev_set (ev_mod (ev_int (ev_ixo rfl rfl at0)) (ev_var rfl) hm) rfl rfl ⟨rfl, ?_⟩)
    refine wp_seq (ev_store (ev_fdiv (ev_ixo rfl rfl at0) (ev_var rfl) hm hz) rfl rfl rfl ⟨rfl, ?_⟩)
    refine wp_fin (ev_ret (ev_var rfl) ⟨rfl, ?_⟩)
    exact ⟨_, rfl, (mod_lt hm).1, (mod_lt hm).2, a / many, b, c, rfl, Int.ediv_nonneg h1 (by omega), h2, h3, h4, by omega⟩
  · rw [decide_eq_false ha, if_neg Bool.false_ne_true]
    rw [wp_sNil]
    show Wp (sCons _ _) _ _
    refine wp_seq (ev_store (ev_add (ev_ixo rfl rfl at2) ev_lit) rfl rfl rfl ⟨rfl, ?_⟩)
    refine wp_seq (ev_set (ev_ixo rfl rfl at2) rfl rfl ⟨rfl, ?_⟩)
    have m1 : 0 ≤ (((b + 31) * (c + 1 + 5) * 998244353 + (c + 1) * (c + 1) * (c + 1) * 424242427 + 77) % (10 ^ 29 + 319) : Int) ∧ (((b + 31) * (c + 1 + 5) * 998244353 + (c + 1) * (c + 1) * (c + 1) * 424242427 + 77) % (10 ^ 29 + 319) : Int) < 10 ^ 29 + 319 := mod_lt (by decide)
    refine wp_seq (ev_set (ev_mod (ev_int (ev_add (ev_add (ev_mul (ev_mul (ev_add (ev_ixo rfl rfl at1) ev_lit) (ev_add (ev_var rfl) ev_lit) (mul_c1 (by omega))) ev_lit (mul_c1 (by decide))) (ev_mul (ev_mul (ev_mul (ev_var rfl) (ev_var rfl) (mul_c1 (by omega))) (ev_var rfl) (mul_c1 (by omega))) ev_lit (mul_c1 (by decide)))) ev_lit)) (ev_add (ev_pow 29 (by decide)) ev_lit) (by decide)) rfl rfl ⟨rfl, ?_⟩)
    generalize ((b + 31) * (c + 1 + 5) * 998244353 + (c + 1) * (c + 1) * (c + 1) * 424242427 + 77) % (10 ^ 29 + 319) = x1 at m1 ⊢
    have m2 : 0 ≤ ((x1 * x1 + b * 7 + (c + 1)) % (10 ^ 31 + 33) : Int) ∧ ((x1 * x1 + b * 7 + (c + 1)) % (10 ^ 31 + 33) : Int) < 10 ^ 31 + 33 := mod_lt (by decide)
    refine wp_seq (ev_set (ev_mod (ev_int (ev_add (ev_add (ev_mul (ev_var rfl) (ev_var rfl) (mul_c3 (by omega) (by omega))) (ev_mul (ev_ixo rfl rfl at1) ev_lit (mul_c1 (by decide)))) (ev_var rfl))) (ev_add (ev_pow 31 (by decide)) ev_lit) (by decide)) rfl rfl ⟨rfl, ?_⟩)
    generalize (x1 * x1 + b * 7 + (c + 1)) % (10 ^ 31 + 33) = x2 at m2 ⊢
    refine wp_seq (ev_set (ev_mod (ev_int (ev_add (ev_mul (ev_mul (ev_var rfl) (ev_var rfl) (mul_c3 (by omega) (by omega))) ev_lit (mul_c1 (by decide))) (ev_mul (ev_var rfl) ev_lit (mul_c1 (by decide))))) (ev_add (ev_pow 33 (by decide)) ev_lit) (by decide)) rfl rfl ⟨rfl, ?_⟩)
    refine wp_fin (ev_ret (ev_mod (ev_int (ev_fdiv (ev_var rfl) ev_lit (by decide) (by decide))) (ev_var rfl) hm) ⟨rfl, ?_⟩)
    exact ⟨_, rfl, (mod_lt hm).1, (mod_lt hm).2, a, b, c + 1, rfl, h1, h2, h3, by omega, by omega⟩
end LK

set_option Elab.async false
set_option linter.all false
set_option maxRecDepth 100000
set_option maxHeartbeats 4000000
namespace LK
open PySem PySem.Spec PyProof.Rows L2 DL
section
variable {m ma mb : M DR} {ρ : List DV} {i j v : Int} {d e : D} {k : Nat}
theorem ev_if {mc : M Bool} {b : Bool} {d1 d2 : D} (hc : Wp mc ρ fun c ρ1 => c = b ∧ ρ1 = ρ) (h1 : b = true → Ev ma ρ d) (h2 : b = false → Ev mb ρ d) : Ev (ifV mc ma mb) ρ d := by
  unfold Ev; rw [wp_ifV]
  refine hc.mono fun c ρ1 q => ?_
  obtain ⟨rfl, rfl⟩ := q
  cases c with
  | true => rw [if_pos rfl]; exact h1 rfl
  | false => rw [if_neg Bool.false_ne_true]; exact h2 rfl
theorem ev_tst {b : Bool} (ha : Ev m ρ (.bool b)) : Wp (eB m) ρ fun c ρ1 => c = b ∧ ρ1 = ρ := ev_test ha ⟨rfl, rfl⟩
end
theorem atI_map (ns : List Int) (k : Int) (h0 : 0 ≤ k) (h : k < ns.length) : ∃ z, atI (ns.map PyData.int) k = some (.int z) := by
  obtain ⟨n, rfl⟩ := Int.eq_ofNat_of_zero_le h0
  rw [atN (by rw [List.length_map]; omega), List.getElem?_map, List.getElem?_eq_getElem (by omega)]
  exact ⟨_, rfl⟩
theorem e_well (ns : List Int) (k : Int) (hk : 0 ≤ k ∧ k ≤ 3) : ∃ w, F__law_well [] [.list (ns.map PyData.int), .int k] = some (.ok (.new w), []) ∧ Wl 1000000 w := by
  suffices h : Wp m__law_well (initE false 6 [] [.list (ns.map PyData.int), .int k]) (fun f ρ => ∃ w, f = .ret (.new w) ∧ Wl 1000000 w) by
    obtain ⟨f, ρ, e, w, rfl, q⟩ := h
    exact ⟨w, by unfold F__law_well runF; rw [e]; rfl, q⟩
  show Wp m__law_well [.dat (.list (ns.map PyData.int)), .dat (.int k), .un, .un, .un, .un] _
  unfold m__law_well
  obtain ⟨cell, hcell⟩ : ∃ cell : Int, Ev (ifV (eB (eOp2 ltD (eVar 1) (eCB lenF (aCons (eVar 0) aNil)))) (eCB intF (aCons (eOp2 ixD (eVar 0) (eVar 1)) aNil)) (eOp2 addD (eOp2 mulD (eLit (.int (71))) (eVar 1)) (eLit (.int (37)))))
      [.dat (.list (ns.map PyData.int)), .dat (.int k), .un, .un, .un, .un] (.int cell) := by
    by_cases hc : k < ns.length
    · obtain ⟨z, hz⟩ := atI_map ns k hk.1 hc
      refine ⟨z, ev_if (b := true) (d1 := .none) (d2 := .none) (ev_tst ?_) (fun _ => ev_int (ev_op2 (ev_var rfl) (ev_var rfl) hz)) (fun h => by cases h)⟩
      have e : decide (k < ((ns.map PyData.int).length : Int)) = true := decide_eq_true (by rw [List.length_map]; exact hc)
      rw [← e]
      exact ev_op2 (ev_var rfl) (ev_cb1 (ev_var rfl) rfl) rfl
    · refine ⟨71 * k + 37, ev_if (b := false) (d1 := .none) (d2 := .none) (ev_tst ?_) (fun h => by cases h) (fun _ => ev_add (ev_mul ev_lit (ev_var rfl) (mul_c2 (by decide))) ev_lit)⟩
      have e : decide (k < ((ns.map PyData.int).length : Int)) = false := decide_eq_false (by rw [List.length_map]; exact hc)
      rw [← e]
      exact ev_op2 (ev_var rfl) (ev_cb1 (ev_var rfl) rfl) rfl
  refine wp_seq (ev_set hcell rfl rfl ⟨rfl, ?_⟩)
  refine wp_seq (ev_set (ev_add ev_lit (ev_cb1 (ev_var rfl) rfl)) rfl rfl ⟨rfl, ?_⟩)
  refine wp_seq ?_
  rw [wp_sFor, wp_iDat, wp_eVar]
  refine ⟨.dat (.list (ns.map PyData.int)), rfl, ?_⟩
  rw [wp_frz_dat]
  refine ⟨_, rfl, ?_⟩
  refine wp_for (fun ds ρ => (∃ ms : List Int, ds = ms.map PyData.int) ∧ ∃ (wh : Int) (x : DV), ρ = [.dat (.list (ns.map PyData.int)), .dat (.int k), .dat (.int cell), .dat (.int wh), x, .un] ∧ x.isBor = false) ?_ ?_ (ns.map PyData.int) _ ?_
  · rintro ρ ⟨_, wh, x, rfl, hx⟩
    refine ⟨rfl, ?_⟩
    refine wp_seq (ev_set (ev_mod (j := 10 ^ 28 + 331) (ev_int (ev_add (ev_add (ev_add (ev_mul (ev_cb1 (ev_var rfl) absF_i) ev_lit (mul_c1 (by decide))) (ev_mul (ev_var rfl) ev_lit (mul_c1 (by decide)))) (ev_mul ev_lit (ev_cb1 (ev_op2 (ev_var rfl) ev_lit rfl) intF_b) (mul_c2 (by decide)))) (ev_mul ev_lit (ev_var rfl) (mul_c2 (by decide))))) (ev_add (ev_pow 28 (by decide)) ev_lit) (by decide)) rfl rfl ⟨rfl, ?_⟩)
    rw [wp_sCons, wp_sRetN, wp_nLst, wp_aCons]
    refine (ev_cb2 ev_lit (ev_sub (ev_cb1 (ev_var rfl) absF_i) (ev_pow 18 (by decide))) maxF_i).mono fun r ρ1 q => ?_
    obtain ⟨rfl, rfl⟩ := q
    rw [wp_aCons]
    refine (ev_var rfl).mono fun r ρ1 q => ?_
    obtain ⟨rfl, rfl⟩ := q
    rw [wp_aCons, wp_eLit, wp_aNil, wp_frzAll_cons, wp_frz_dat, wp_frzAll_cons, wp_frz_dat, wp_frzAll_cons, wp_frz_dat, wp_frzAll_nil]
    refine ⟨by simp, _, _, rfl, ?_⟩
    have hm := mod_lt (i := (if cell < 0 then -cell else cell) * 7129 + wh * 41 + 3 * (if decide (cell < 0) = true then 1 else 0) + 61 * k) (j := 10 ^ 28 + 331) (by decide)
    refine ⟨_, rfl, _, _, 0, rfl, ?_, hm.1, ?_, by decide, by decide⟩
    · split <;> omega
    · exact Int.lt_trans hm.2 (by decide)
  · rintro d ds ρ ⟨⟨ms, hms⟩, wh, x, rfl, hx⟩
    obtain ⟨z, zs, rfl, rfl, rfl⟩ : ∃ (z : Int) (zs : List Int), ms = z :: zs ∧ d = .int z ∧ ds = zs.map PyData.int := by
      cases ms with
      | nil => cases hms
      | cons z zs => cases hms; exact ⟨z, zs, rfl, rfl, rfl⟩
    rw [wp_bind, wp_setT_nm, wp_setD]
    refine ⟨x, rfl, hx, ?_⟩
    refine wp_seq (ev_set (ev_mod (j := 10 ^ 25 + 13) (ev_int (ev_add (ev_mul (ev_var rfl) ev_lit (mul_c1 (by decide))) (ev_mod (j := 10 ^ 19 + 51) (ev_int (ev_var rfl)) (ev_add (ev_pow 19 (by decide)) ev_lit) (by decide)))) (ev_add (ev_pow 25 (by decide)) ev_lit) (by decide)) rfl rfl ⟨rfl, ?_⟩)
    rw [wp_sNil]
    exact ⟨⟨zs, rfl⟩, _, _, rfl, rfl⟩
  · exact ⟨⟨ns, rfl⟩, _, _, rfl, rfl⟩
/-- a draw: the bound is worked out first -/
theorem wp_draw {k n : Nat} {m : M DR} {ρ : List DV} {Q : DR → List DV → Prop} {x : DV} {w : List D} (hx : ρ[k]? = some x) (ho : x.own = some w)
    (h : Wp m ρ fun r ρ1 => ∃ (many : Int) (x1 : DV) (w1 : List D), r = .dat (.int many) ∧ 0 < many ∧ many.natAbs < 2 ^ 1000 ∧ ρ1[k]? = some x1 ∧ x1.own = some w1 ∧ Wl (n + 1) w1 ∧ ∀ (r : Int) (w' : List D), 0 ≤ r → r < many → Wl n w' → Q (.dat (.int r)) (ρ1.set k (x1.put w'))) :
    Wp (eCall true F__law_draw (aCons (eVar k) (aCons m aNil))) ρ Q := by
  rw [wp_callT, wp_aCons, wp_eVar, hx]
  have hr : vr k (some x) = some (.loc k) := by cases x <;> simp_all [DV.own, vr]
  refine ⟨_, hr, ?_⟩
  rw [wp_aCons]
  refine h.mono fun r ρ1 h => ?_
  obtain ⟨many, x1, w1, rfl, h1, h2, h3, h4, h5, q⟩ := h
  rw [wp_aNil]
  refine ⟨k, _, rfl, ?_⟩
  rw [wp_frzAll_cons, wp_frz_dat, wp_frzAll_nil]
  obtain ⟨r, w', e, g1, g2, g3⟩ := e_draw h5 many h1 h2
  exact ⟨x1, w1, _, w', h3, h4, e, q r w' g1 g2 g3⟩
/-- a draw below a number that is written -/
theorem wp_draw1 {k n : Nat} {c : Int} {ρ : List DV} {Q : DR → List DV → Prop} {x : DV} {w : List D} (hc : 0 < c) (hz : c.natAbs < 2 ^ 1000) (hx : ρ[k]? = some x) (ho : x.own = some w) (hw : Wl (n + 1) w)
    (h : ∀ (r : Int) (w' : List D), 0 ≤ r → r < c → Wl n w' → Q (.dat (.int r)) (ρ.set k (x.put w'))) : Wp (eCall true F__law_draw (aCons (eVar k) (aCons (eLit (.int c)) aNil))) ρ Q :=
  wp_draw hx ho (wp_eLit.mpr ⟨c, x, w, rfl, hc, hz, hx, ho, hw, h⟩)
/-- one of two -/
theorem wp_pick2 {k n : Nat} {a b : D} {ρ : List DV} {Q : DR → List DV → Prop} {x : DV} {w : List D} (hx : ρ[k]? = some x) (ho : x.own = some w) (hw : Wl (n + 1) w)
    (h : ∀ (d : D) (w' : List D), (d = a ∨ d = b) → Wl n w' → Q (.dat d) (ρ.set k (x.put w'))) : Wp (eOp2 ixD (eLst (aCons (eLit a) (aCons (eLit b) aNil))) (eCall true F__law_draw (aCons (eVar k) (aCons (eLit (.int 2)) aNil)))) ρ Q := by
  rw [wp_eOp2, wp_eLst, wp_aCons, wp_eLit, wp_aCons, wp_eLit, wp_aNil, wp_frzAll_cons, wp_frz_dat, wp_frzAll_cons, wp_frz_dat, wp_frzAll_nil]
  refine ⟨by simp, ?_⟩
  refine wp_draw1 (by decide) (by decide) hx ho hw fun r w' h1 h2 hw' => ?_
  rw [wp_rd_dat, wp_rd_dat]
  have hr : r = 0 ∨ r = 1 := by omega
  rcases hr with rfl | rfl
  · exact ⟨a, at0, h a w' (.inl rfl) hw'⟩
  · exact ⟨b, at1, h b w' (.inr rfl) hw'⟩
theorem e_some {n : Nat} {w : List D} (hw : Wl (n + 4) w) : ∃ p w', F__law_some_bounds w [] = some (.ok (.dat (Bd p)), w') ∧ BdOk p ∧ Wl n w' := by
  suffices h : Wp m__law_some_bounds (initE true 2 w []) (fun f ρ => ∃ p, f = .ret (.dat (Bd p)) ∧ BdOk p ∧ Wl n (lentOf true ρ)) by
    obtain ⟨f, ρ, e, p, rfl, q⟩ := h
    exact ⟨p, lentOf true ρ, by unfold F__law_some_bounds runF; rw [e], q⟩
  show Wp m__law_some_bounds [.bor w, .un] _
  unfold m__law_some_bounds
  rw [wp_sCons, wp_sSetX]
  refine wp_draw (n := n + 2) rfl rfl (wp_pick2 (n := n + 3) rfl rfl hw fun d w1 hd hw1 => ?_)
  have hd2 : ∃ c : Int, d = .int c ∧ 0 < c ∧ c ≤ 61 := by
    rcases hd with rfl | rfl
    · exact ⟨4, rfl, by decide, by decide⟩
    · exact ⟨61, rfl, by decide, by decide⟩
  obtain ⟨c, rfl, hc1, hc2⟩ := hd2
  refine ⟨c, _, _, rfl, hc1, by omega, rfl, rfl, hw1, fun low w2 hl1 hl2 hw2 => ?_⟩
  rw [wp_stX_dat]
  refine ⟨.un, rfl, rfl, ?_⟩
  show Wp (sCons _ _) [.bor w2, .dat (.int low)] _
  rw [wp_sCons, wp_sRet, wp_eTup, wp_aCons]
  refine (ev_var rfl).mono fun r ρ1 q => ?_
  obtain ⟨rfl, rfl⟩ := q
  rw [wp_aCons, wp_eCB, wp_aCons, wp_eLit, wp_aCons, wp_eOp2]
  refine (ev_var rfl).mono fun r ρ1 q => ?_
  obtain ⟨rfl, rfl⟩ := q
  refine wp_draw (n := n) rfl rfl (wp_pick2 (n := n + 1) rfl rfl hw2 fun d w3 hd hw3 => ?_)
  have hd2 : ∃ c : Int, d = .int c ∧ 0 < c ∧ c ≤ 61 := by
    rcases hd with rfl | rfl
    · exact ⟨4, rfl, by decide, by decide⟩
    · exact ⟨61, rfl, by decide, by decide⟩
  obtain ⟨c2, rfl, hc3, hc4⟩ := hd2
  refine ⟨c2, _, _, rfl, hc3, by omega, rfl, rfl, hw3, fun mo w4 hm1 hm2 hw4 => ?_⟩
  rw [wp_rd_dat, wp_rd_dat]
  refine ⟨_, rfl, ?_⟩
  rw [wp_aNil, wp_rdAll_cons, wp_rd_dat, wp_rdAll_cons, wp_rd_dat, wp_rdAll_nil]
  refine ⟨_, minF_i, ?_⟩
  rw [wp_aNil, wp_frzAll_cons, wp_frz_dat, wp_frzAll_cons, wp_frz_dat, wp_frzAll_nil]
  refine ⟨by simp, ?_⟩
  rw [wp_frz_dat]
  refine ⟨(low, if low + mo < 60 then low + mo else 60), rfl, ⟨hl1, ?_, ?_⟩, hw4⟩
  · show low ≤ if low + mo < 60 then low + mo else 60
    split <;> omega
  · show (if low + mo < 60 then low + mo else 60) ≤ 60
    split <;> omega
end LK

set_option Elab.async false
set_option linter.all false
set_option maxRecDepth 100000
set_option maxHeartbeats 4000000
namespace LK
open PySem PySem.Spec PyProof.Rows L2 DL
def EvA (ms : M (List DR)) (ρ : List DV) (ds : List D) : Prop := Wp ms ρ fun rs ρ1 => rs = ds.map DR.dat ∧ ρ1 = ρ
def Tf (mc : M Bool) (ρ : List DV) (b : Bool) : Prop := Wp mc ρ fun c ρ1 => c = b ∧ ρ1 = ρ
section
variable {m ma mb : M DR} {ρ : List DV} {d e : D} {k : Nat} {ms : M (List DR)} {ds w : List D} {f : Fsp} {r : RV} {m1 m2 : M Bool} {b : Bool}
theorem wp_frz_dats {Q : List D → List DV → Prop} : ∀ ds : List D, Wp (frzAll (ds.map DR.dat)) ρ Q ↔ Q ds ρ
  | [] => wp_frzAll_nil
  | d :: ds => by rw [List.map_cons, wp_frzAll_cons, wp_frz_dat, wp_frz_dats ds]
theorem wp_rd_dats {Q : List D → List DV → Prop} : ∀ ds : List D, Wp (rdAll (ds.map DR.dat)) ρ Q ↔ Q ds ρ
  | [] => wp_rdAll_nil
  | d :: ds => by rw [List.map_cons, wp_rdAll_cons, wp_rd_dat, wp_rd_dats ds]
theorem eva_nil : EvA aNil ρ [] := wp_aNil.mpr ⟨rfl, rfl⟩
theorem eva_cons (h : Ev m ρ d) (t : EvA ms ρ ds) : EvA (aCons m ms) ρ (d :: ds) := by
  unfold EvA; rw [wp_aCons]
  refine h.mono fun r ρ1 q => ?_
  obtain ⟨rfl, rfl⟩ := q
  refine t.mono fun rs ρ2 q => ?_
  obtain ⟨rfl, rfl⟩ := q
  exact ⟨rfl, rfl⟩
theorem ev_callF (h : EvA ms ρ ds) (e : f [] ds = some (.ok r, w)) : Ev (eCall false f ms) ρ (rvD r) := by
  unfold Ev; rw [wp_callF]
  refine h.mono fun rs ρ1 q => ?_
  obtain ⟨rfl, rfl⟩ := q
  rw [wp_frz_dats]
  exact ⟨r, w, e, rfl, rfl⟩
theorem ev_callK {π : List Nat} (h : EvA ms ρ ds) (e : f [] (permR π ds) = some (.ok r, w)) : Ev (eCallK π f ms) ρ (rvD r) := by
  unfold Ev; rw [wp_callK]
  refine h.mono fun rs ρ1 q => ?_
  obtain ⟨rfl, rfl⟩ := q
  rw [wp_frz_dats]
  exact ⟨r, w, e, rfl, rfl⟩
theorem ev_tup (h : EvA ms ρ ds) (hl : ds.length ≤ 1000) : Ev (eTup ms) ρ (.tuple ds) := by
  unfold Ev; rw [wp_eTup]
  refine h.mono fun rs ρ1 q => ?_
  obtain ⟨rfl, rfl⟩ := q
  rw [wp_frz_dats]
  exact ⟨by omega, rfl, rfl⟩
theorem ev_lst (h : EvA ms ρ ds) (hl : ds.length ≤ 1000) : Ev (eLst ms) ρ (.list ds) := by
  unfold Ev; rw [wp_eLst]
  refine h.mono fun rs ρ1 q => ?_
  obtain ⟨rfl, rfl⟩ := q
  rw [wp_frz_dats]
  exact ⟨by omega, rfl, rfl⟩
theorem ev_cbA {g : List D → Option D} {z : D} (h : EvA ms ρ ds) (e : g ds = some z) : Ev (eCB g ms) ρ z := by
  unfold Ev; rw [wp_eCB]
  refine h.mono fun rs ρ1 q => ?_
  obtain ⟨rfl, rfl⟩ := q
  rw [wp_rd_dats]
  exact ⟨z, e, rfl, rfl⟩
theorem ev_neg {i : Int} (h : Ev m ρ (.int i)) : Ev (eOp1 negD m) ρ (.int (-i)) := ev_op1 h rfl
theorem tf_b (h : Ev m ρ (.bool b)) : Tf (eB m) ρ b := ev_tst h
theorem tf_or (h1 : Tf m1 ρ false) (h2 : Tf m2 ρ false) : Tf (orT m1 m2) ρ false := by
  unfold Tf; rw [wp_orT]
  refine h1.mono fun c ρ1 q => ?_
  obtain ⟨rfl, rfl⟩ := q
  rw [if_neg Bool.false_ne_true]; exact h2
theorem tf_not (h1 : Tf m1 ρ b) : Tf (notT m1) ρ (!b) := by
  unfold Tf; rw [wp_notT]
  refine h1.mono fun c ρ1 q => ?_
  obtain ⟨rfl, rfl⟩ := q
  exact ⟨rfl, rfl⟩
theorem tf_and {c : Bool} (h1 : Tf m1 ρ c) (h2 : c = true → Tf m2 ρ false) : Tf (andT m1 m2) ρ false := by
  unfold Tf; rw [wp_andT]
  refine h1.mono fun c' ρ1 q => ?_
  obtain ⟨rfl, rfl⟩ := q
  cases c' with
  | true => rw [if_pos rfl]; exact h2 rfl
  | false => rw [if_neg Bool.false_ne_true]; exact ⟨rfl, rfl⟩
theorem wp_skip {mc : M Bool} {s : M Fl} {Q : Fl → List DV → Prop} (h : Tf mc ρ false) (q : Q .nx ρ) : Wp (sIf mc s sNil) ρ Q := by
  rw [wp_sIf]
  refine h.mono fun c ρ1 e => ?_
  obtain ⟨rfl, rfl⟩ := e
  rw [if_neg Bool.false_ne_true, wp_sNil]; exact q
/-- an item of a list by a draw -/
theorem wp_pick {n : Nat} {m : M DR} {Q : DR → List DV → Prop} {x : DV} (c : Nat) (hm : Ev m ρ (.list ds)) (hl : ds.length = c) (hc : 0 < c) (hc2 : c < 1000) (hx : ρ[k]? = some x) (ho : x.own = some w) (hw : Wl (n + 1) w)
    (h : ∀ (d : D) (w' : List D), d ∈ ds → Wl n w' → Q (.dat d) (ρ.set k (x.put w'))) : Wp (eOp2 ixD m (eCall true F__law_draw (aCons (eVar k) (aCons (eLit (.int c)) aNil)))) ρ Q := by
  rw [wp_eOp2]
  refine hm.mono fun r ρ1 q => ?_
  obtain ⟨rfl, rfl⟩ := q
  refine wp_draw1 (by omega) (by
    have : (c : Int).natAbs = c := by omega
    rw [this]; exact Nat.lt_trans hc2 (by decide)) hx ho hw fun r w' h1 h2 hw' => ?_
  rw [wp_rd_dat, wp_rd_dat]
  obtain ⟨j, rfl⟩ := Int.eq_ofNat_of_zero_le h1
  have hj : j < ds.length := by omega
  exact ⟨ds[j], by show atI ds (j : Int) = _; rw [atN hj, List.getElem?_eq_getElem hj], h _ w' (List.getElem_mem hj) hw'⟩
end
/-! small facts -/
theorem clamp_filter : ∀ d : Nat, d < 62 → (rgI 0 61).filter (fun n => decide ((d : Int) ≤ n)) = rgI d 61 := by decide +kernel
theorem safe_list (due : Int) : (rgI 0 61).filter (fun n => decide (due ≤ n)) = rgI (if (if due > 0 then due else 0) < 61 then (if due > 0 then due else 0) else 61) 61 := by
  obtain ⟨c, hc, e⟩ : ∃ c : Nat, c < 62 ∧ (if (if due > 0 then due else 0) < 61 then (if due > 0 then due else 0) else 61) = (c : Int) := by
    refine ⟨(if (if due > 0 then due else 0) < 61 then (if due > 0 then due else 0) else 61).toNat, ?_, ?_⟩ <;> (split <;> split at * <;> omega)
  rw [e, ← clamp_filter c hc]
  refine List.filter_congr fun n hn => ?_
  rw [mem_rgI] at hn
  rw [decide_eq_decide, ← e]
  split <;> split at * <;> omega
mutual
theorem eqv_rfl : ∀ d : D, d.hasDict = false → PyData.eqv d d = true
  | .none, _ => by simp [PyData.eqv]
  | .bool _, _ => by simp [PyData.eqv]
  | .int _, _ => by simp [PyData.eqv]
  | .str _, _ => by simp [PyData.eqv]
  | .list ds, h => by simp only [PyData.eqv]; exact eqvAll_rfl ds (by simpa only [PyData.hasDict] using h)
  | .tuple ds, h => by simp only [PyData.eqv]; exact eqvAll_rfl ds (by simpa only [PyData.hasDict] using h)
  | .dict _, h => by simp [PyData.hasDict] at h
theorem eqvAll_rfl : ∀ ds : List D, PyData.hasDictAll ds = false → PyData.eqvAll ds ds = true
  | [], _ => by simp [PyData.eqvAll]
  | d :: ds, h => by
    simp only [PyData.hasDictAll, Bool.or_eq_false_iff] at h
    simp only [PyData.eqvAll, eqv_rfl d h.1, eqvAll_rfl ds h.2, Bool.and_self]
end
theorem ne_same {d : D} (h : SeqAt.shaped d = true) : neX d d = some (.bool false) := by
  have e : neD d d = some (.bool false) := by
    unfold neD
    rw [h, Bool.and_self, if_pos rfl, eqv_rfl d (PyData.hasDict_of_canLay d (SeqAt.canLay_of_shaped h))]; rfl
  cases d with
  | str x => exact neX_s
  | _ => exact e
theorem canLay_ints : ∀ ns : List Int, PyData.canLayAll0 (ns.map PyData.int) = true
  | [] => by simp [PyData.canLayAll0]
  | n :: ns => by simp [PyData.canLayAll0, PyData.canLay0, canLay_ints ns]
theorem depth_ints : ∀ ns : List Int, PyData.depthAll (ns.map PyData.int) ≤ 1
  | [] => by simp [PyData.depthAll]
  | n :: ns => by
    have := depth_ints ns
    simp [PyData.depthAll, PyData.depth]
    omega
theorem sh_ints (ns : List Int) : SeqAt.shaped (.list (ns.map PyData.int)) = true := by
  have := depth_ints ns
  simp [SeqAt.shaped, PyData.canLay0, PyData.depth, canLay_ints]
  omega
theorem sh_pair (i j : Int) : SeqAt.shaped (.tuple [.int i, .int j]) = true := by
  simp [SeqAt.shaped, PyData.canLay0, PyData.canLayAll0, PyData.depth, PyData.depthAll]
theorem r_2t (i j : Int) (hi : i.natAbs < 2 ^ 1000) (hj : j.natAbs < 2 ^ 1000) : ∃ x, reprF [.list [.tuple [.int i, .int j], .tuple [.int i, .int j]]] = some (.str x) := by
  have h1 := log2_of hi (by decide)
  have h2 := log2_of hj (by decide)
  refine ⟨(PyData.list [.tuple [.int i, .int j], .tuple [.int i, .int j]]).shown, ?_⟩
  show (if reprOk _ then _ else _) = _
  rw [if_pos]
  simp [reprOk, PyData.showable, PyData.showableAll, SeqAt.shaped, PyData.canLay0, PyData.canLayAll0, PyData.depth, PyData.depthAll, rz, rzAll]
  omega
theorem drift_lo {l a b : Int} (hl : 0 ≤ l) (ha : 0 ≤ a) (hb : a < b) : 0 ≤ l * (b - a) / b ∧ l * (b - a) / b ≤ l := by
  have hb0 : 0 < b := by omega
  have h1 : 0 ≤ l * (b - a) := Int.mul_nonneg hl (by omega)
  have h2 : l * (b - a) / b * b ≤ l * (b - a) := Int.ediv_mul_le _ (by omega)
  refine ⟨Int.ediv_nonneg h1 (by omega), Int.le_of_mul_le_mul_right (Int.le_trans h2 ?_) hb0⟩
  exact Int.mul_le_mul_of_nonneg_left (by omega) hl
theorem drift_hi {l a b : Int} (hl : 0 ≤ l) (ha : 0 ≤ a) (hb : a < b) : l ≤ -(-l * (b + a) / b) ∧ -(-l * (b + a) / b) ≤ 2 * l := by
  have hb0 : 0 < b := by omega
  have e1 : -l * (b + a) = -(l * (b + a)) := Int.neg_mul _ _
  rw [e1]
  have h2 : -(l * (b + a)) / b * b ≤ -(l * (b + a)) := Int.ediv_mul_le _ (by omega)
  have h5 : l * (b + a) ≤ -(-(l * (b + a)) / b) * b := by rw [Int.neg_mul]; omega
  have h6 : l * b ≤ l * (b + a) := Int.mul_le_mul_of_nonneg_left (by omega) hl
  have h8 : l * (b + a) ≤ (2 * l) * b := by
    have : l * (b + a) ≤ l * (b + b) := Int.mul_le_mul_of_nonneg_left (by omega) hl
    have e : l * (b + b) = 2 * l * b := by rw [Int.mul_add, Int.mul_assoc]; omega
    omega
  have h9 : -(2 * l) ≤ -(l * (b + a)) / b := (Int.le_ediv_iff_mul_le hb0).mpr (by rw [Int.neg_mul]; omega)
  exact ⟨Int.le_of_mul_le_mul_right (Int.le_trans h6 h5) hb0, by omega⟩
theorem wider_lo {l a c b : Int} (hl : 0 ≤ l) (hac : a ≤ c) (hb : 0 < b) : l * (b - c) / b ≤ l * (b - a) / b :=
  Int.ediv_le_ediv hb (Int.mul_le_mul_of_nonneg_left (by omega) hl)
theorem wider_hi {l a c b : Int} (hl : 0 ≤ l) (hac : a ≤ c) (hb : 0 < b) : -(-l * (b + a) / b) ≤ -(-l * (b + c) / b) := by
  have : -l * (b + c) / b ≤ -l * (b + a) / b := by
    refine Int.ediv_le_ediv hb ?_
    rw [Int.neg_mul, Int.neg_mul]
    have := Int.mul_le_mul_of_nonneg_left (a := b + a) (b := b + c) (by omega : b + a ≤ b + c) hl
    omega
  omega
end LK

set_option Elab.async false
set_option linter.all false
set_option maxRecDepth 100000
set_option maxHeartbeats 4000000
namespace LK
open PySem PySem.Spec PyProof.Rows L2 DL
theorem wipeD_one {j : Nat} {ρ : List DV} : wipeD [j] ρ = ρ.set j .un := by
  unfold wipeD
  apply List.ext_getElem?
  intro i
  rw [List.getElem?_mapIdx, List.getElem?_set]
  by_cases h : j = i
  · subst h
    rw [if_pos rfl]
    by_cases hl : j < ρ.length
    · rw [List.getElem?_eq_getElem hl, if_pos hl]; simp
    · rw [List.getElem?_eq_none (by omega), if_neg hl]; rfl
  · rw [if_neg h]
    have : ([j].contains i) = false := by simp; exact fun z => h z.symm
    cases ρ[i]? with
    | none => rfl
    | some x => simp only [Option.map_some, this]; rfl
theorem restD_one {j : Nat} {ρ0 ρ : List DV} {x : DV} (h : ρ0[j]? = some x) : restD [j] ρ0 ρ = ρ.set j x := by
  unfold restD
  apply List.ext_getElem?
  intro i
  rw [List.getElem?_mapIdx, List.getElem?_set]
  by_cases hj : j = i
  · subst hj
    rw [if_pos rfl]
    by_cases hl : j < ρ.length
    · rw [show ρ[j]? = some ρ[j] from List.getElem?_eq_getElem hl, if_pos hl]; simp [h]
    · rw [show ρ[j]? = none from List.getElem?_eq_none (by omega), if_neg hl]; rfl
  · rw [if_neg hj]
    have : ([j].contains i) = false := by simp; exact fun z => hj z.symm
    cases ρ[i]? with
    | none => rfl
    | some x => simp only [Option.map_some, this]; rfl
theorem wipeOk_one {j : Nat} {ρ : List DV} {x : DV} (h : ρ[j]? = some x) (hx : x = .un ∨ ∃ d, x = .dat d) : wipeOk [j] ρ = true := by
  unfold wipeOk
  simp only [List.all_cons, List.all_nil, Bool.and_true, h]
  rcases hx with rfl | ⟨d, rfl⟩ <;> rfl
end LK

set_option Elab.async false
set_option linter.all false
set_option maxRecDepth 100000
set_option maxHeartbeats 8000000
namespace LK
open PySem PySem.Spec PyProof.Rows L2 DL
def m_turn : M Fl := (sCons (sPar [4, 5] (aCons (eCall true F__law_some_bounds (aCons (eVar 2) aNil)) (aCons (eCall true F__law_some_bounds (aCons (eVar 2) aNil)) aNil))) (sCons (sSetX 6 (eOp2 addD (eOp2 subD (eOp2 addD (eOp2 ixD (eVar 4) (eLit (.int (1)))) (eOp2 ixD (eVar 5) (eLit (.int (1))))) (eOp2 ixD (eVar 4) (eLit (.int (0))))) (eLit (.int (1))))) (sCons (sIf (eB (eOp2 neX (eCB reprF (aCons (eLst (aCons (eCall false F_least_server (aCons (eVar 4) (aCons (eVar 5) aNil))) (aCons (eCallK [1, 0] F_least_server (aCons (eVar 5) (aCons (eVar 4) aNil))) aNil))) aNil)) (eCB reprF (aCons (eLst (aCons (eVar 6) (aCons (eVar 6) aNil))) aNil)))) (sCons (sRet (eLit (.bool false))) sNil) sNil) (sCons (sSetX 7 (eLc (iRng (aCons (eLit (.int (61))) aNil)) (.nm 16) (eB (eCall false F_lease_is_safe (aCons (eTup (aCons (eVar 16) (aCons (eLit (.int (60))) aNil))) (aCons (eVar 4) (aCons (eVar 5) aNil))))) (eVar 16) [16])) (sCons (sIf (eB (eOp2 neX (eVar 7) (eOp2 rgLF (eCB minF (aCons (eLit (.int (61))) (aCons (eCB maxF (aCons (eLit (.int (0))) (aCons (eVar 6) aNil))) aNil))) (eLit (.int (61)))))) (sCons (sRet (eLit (.bool false))) sNil) sNil) (sCons (sPar [8, 9] (aCons (eCall true F__law_draw (aCons (eVar 2) (aCons (eLit (.int (61))) aNil))) (aCons (eOp2 ixD (eLst (aCons (eLit (.int (10))) (aCons (eLit (.int (1000))) (aCons (eOp2 powD (eLit (.int (10))) (eLit (.int (20)))) aNil)))) (eCall true F__law_draw (aCons (eVar 2) (aCons (eLit (.int (3))) aNil)))) aNil))) (sCons (sSetX 10 (eOp2 addD (eLit (.int (1))) (eCall true F__law_draw (aCons (eVar 2) (aCons (eVar 9) aNil))))) (sCons (sSetX 11 (eCall true F__law_draw (aCons (eVar 2) (aCons (eVar 10) aNil)))) (sCons (sSetX 6 (eCall false F__law_drift (aCons (eVar 8) (aCons (eVar 11) (aCons (eVar 10) aNil))))) (sCons (sSetX 12 (eLst (aCons (eCall false F_drifted (aCons (eVar 8) (aCons (eVar 11) (aCons (eVar 10) aNil)))) (aCons (eCallK [2, 1, 0] F_drifted (aCons (eVar 10) (aCons (eVar 11) (aCons (eVar 8) aNil)))) aNil)))) (sCons (sIf (eB (eOp2 neX (eCB reprF (aCons (eVar 12) aNil)) (eCB reprF (aCons (eLst (aCons (eVar 6) (aCons (eVar 6) aNil))) aNil)))) (sCons (sRet (eLit (.bool false))) sNil) sNil) (sCons (sSetX 13 (eCall false F_drifted (aCons (eVar 8) (aCons (eOp2 fdivD (eOp2 addD (eVar 11) (eVar 10)) (eLit (.int (2)))) (aCons (eVar 10) aNil))))) (sCons (sIf (orT (eB (eOp2 gtD (eOp2 ixD (eVar 13) (eLit (.int (0)))) (eOp2 ixD (eVar 6) (eLit (.int (0)))))) (orT (eB (eOp2 ltD (eOp2 ixD (eVar 13) (eLit (.int (1)))) (eOp2 ixD (eVar 6) (eLit (.int (1)))))) (eB (eOp2 neX (eCall false F_drifted (aCons (eVar 8) (aCons (eLit (.int (0))) (aCons (eVar 10) aNil)))) (eTup (aCons (eVar 8) (aCons (eVar 8) aNil))))))) (sCons (sRet (eLit (.bool false))) sNil) sNil) (sCons (sSetX 14 (eOp2 ixD (eLst (aCons (eOp1 negD (eLit (.int (1)))) (aCons (eLit (.int (61))) (aCons (eOp2 powD (eLit (.int (10))) (eLit (.int (9)))) aNil)))) (eCall true F__law_draw (aCons (eVar 2) (aCons (eLit (.int (3))) aNil))))) (sCons (sIf (orT (notT (eB (eCall false F__law_refused (aCons (eVar 14) (aCons (eOp1 negD (eLit (.int (1)))) (aCons (eOp1 negD (eLit (.int (2)))) (aCons (eVar 14) aNil))))))) (notT (eB (eCall false F__law_refused (aCons (eVar 8) (aCons (eOp2 subD (eOp1 negD (eLit (.int (1)))) (eVar 11)) (aCons (eLit (.int (0))) (aCons (eOp2 subD (eOp1 negD (eLit (.int (1)))) (eVar 11)) aNil)))))))) (sCons (sRet (eLit (.bool false))) sNil) sNil) (sCons (sSetX 15 (eOp2 ixD (eLst (aCons (eVar 11) (aCons (eOp2 subD (eVar 11) (eLit (.int (1)))) (aCons (eLit (.int (0))) (aCons (eOp1 negD (eLit (.int (5)))) aNil))))) (eCall true F__law_draw (aCons (eVar 2) (aCons (eLit (.int (4))) aNil))))) (sCons (sIf (andT (eB (eOp2 leD (eVar 15) (eVar 11))) (notT (eB (eCall false F__law_refused (aCons (eVar 8) (aCons (eVar 11) (aCons (eVar 15) (aCons (eVar 15) aNil)))))))) (sCons (sRet (eLit (.bool false))) sNil) sNil) sNil)))))))))))))))))
theorem m_law_eq : m_law = (sCons (sFor (iRng (aCons (eCB maxF (aCons (eLit (.int (1))) (aCons (eCB minF (aCons (eLit (.int (4))) (aCons (eCB lenF (aCons (eVar 0) aNil)) aNil))) aNil))) aNil)) (.nm 1) (sCons (sSetN 2 (nCall false F__law_well (aCons (eVar 0) (aCons (eVar 1) aNil)))) (sCons (sFor (iRng (aCons (eLit (.int (5))) aNil)) (.nm 3) m_turn) sNil))) (sCons (sRet (eLit (.bool true))) sNil)) := rfl
def Pl (x : DV) : Prop := x = .un ∨ ∃ d, x = .dat d
theorem Pl.bor {x : DV} (h : Pl x) : x.isBor = false := by
  rcases h with rfl | ⟨d, rfl⟩ <;> rfl
theorem pl_dat (d : D) : Pl (.dat d) := .inr ⟨d, rfl⟩
theorem Pl.wipe {x : DV} (h : Pl x) : (match some x with | some .un => true | some (.dat _) => true | _ => false) = true := by
  rcases h with rfl | ⟨d, rfl⟩ <;> rfl
def m_turn2 : M Fl := (sCons (sPar [8, 9] (aCons (eCall true F__law_draw (aCons (eVar 2) (aCons (eLit (.int (61))) aNil))) (aCons (eOp2 ixD (eLst (aCons (eLit (.int (10))) (aCons (eLit (.int (1000))) (aCons (eOp2 powD (eLit (.int (10))) (eLit (.int (20)))) aNil)))) (eCall true F__law_draw (aCons (eVar 2) (aCons (eLit (.int (3))) aNil)))) aNil))) (sCons (sSetX 10 (eOp2 addD (eLit (.int (1))) (eCall true F__law_draw (aCons (eVar 2) (aCons (eVar 9) aNil))))) (sCons (sSetX 11 (eCall true F__law_draw (aCons (eVar 2) (aCons (eVar 10) aNil)))) (sCons (sSetX 6 (eCall false F__law_drift (aCons (eVar 8) (aCons (eVar 11) (aCons (eVar 10) aNil))))) (sCons (sSetX 12 (eLst (aCons (eCall false F_drifted (aCons (eVar 8) (aCons (eVar 11) (aCons (eVar 10) aNil)))) (aCons (eCallK [2, 1, 0] F_drifted (aCons (eVar 10) (aCons (eVar 11) (aCons (eVar 8) aNil)))) aNil)))) (sCons (sIf (eB (eOp2 neX (eCB reprF (aCons (eVar 12) aNil)) (eCB reprF (aCons (eLst (aCons (eVar 6) (aCons (eVar 6) aNil))) aNil)))) (sCons (sRet (eLit (.bool false))) sNil) sNil) (sCons (sSetX 13 (eCall false F_drifted (aCons (eVar 8) (aCons (eOp2 fdivD (eOp2 addD (eVar 11) (eVar 10)) (eLit (.int (2)))) (aCons (eVar 10) aNil))))) (sCons (sIf (orT (eB (eOp2 gtD (eOp2 ixD (eVar 13) (eLit (.int (0)))) (eOp2 ixD (eVar 6) (eLit (.int (0)))))) (orT (eB (eOp2 ltD (eOp2 ixD (eVar 13) (eLit (.int (1)))) (eOp2 ixD (eVar 6) (eLit (.int (1)))))) (eB (eOp2 neX (eCall false F_drifted (aCons (eVar 8) (aCons (eLit (.int (0))) (aCons (eVar 10) aNil)))) (eTup (aCons (eVar 8) (aCons (eVar 8) aNil))))))) (sCons (sRet (eLit (.bool false))) sNil) sNil) (sCons (sSetX 14 (eOp2 ixD (eLst (aCons (eOp1 negD (eLit (.int (1)))) (aCons (eLit (.int (61))) (aCons (eOp2 powD (eLit (.int (10))) (eLit (.int (9)))) aNil)))) (eCall true F__law_draw (aCons (eVar 2) (aCons (eLit (.int (3))) aNil))))) (sCons (sIf (orT (notT (eB (eCall false F__law_refused (aCons (eVar 14) (aCons (eOp1 negD (eLit (.int (1)))) (aCons (eOp1 negD (eLit (.int (2)))) (aCons (eVar 14) aNil))))))) (notT (eB (eCall false F__law_refused (aCons (eVar 8) (aCons (eOp2 subD (eOp1 negD (eLit (.int (1)))) (eVar 11)) (aCons (eLit (.int (0))) (aCons (eOp2 subD (eOp1 negD (eLit (.int (1)))) (eVar 11)) aNil)))))))) (sCons (sRet (eLit (.bool false))) sNil) sNil) (sCons (sSetX 15 (eOp2 ixD (eLst (aCons (eVar 11) (aCons (eOp2 subD (eVar 11) (eLit (.int (1)))) (aCons (eLit (.int (0))) (aCons (eOp1 negD (eLit (.int (5)))) aNil))))) (eCall true F__law_draw (aCons (eVar 2) (aCons (eLit (.int (4))) aNil))))) (sCons (sIf (andT (eB (eOp2 leD (eVar 15) (eVar 11))) (notT (eB (eCall false F__law_refused (aCons (eVar 8) (aCons (eVar 11) (aCons (eVar 15) (aCons (eVar 15) aNil)))))))) (sCons (sRet (eLit (.bool false))) sNil) sNil) sNil))))))))))))
theorem turn2 {n : Nat} {w : List D} {S k t : D} {x4 x5 x6 x7 x8 x9 x10 x11 x12 x13 x14 x15 x16 : DV} (hw : Wl (n + 6) w) (p4 : Pl x4) (p5 : Pl x5) (p6 : Pl x6) (p7 : Pl x7) (p8 : Pl x8) (p9 : Pl x9) (p10 : Pl x10) (p11 : Pl x11) (p12 : Pl x12) (p13 : Pl x13) (p14 : Pl x14) (p15 : Pl x15) (p16 : Pl x16) :
    Wp m_turn2 [.dat S, .dat k, .lst w, .dat t, x4, x5, x6, x7, x8, x9, x10, x11, x12, x13, x14, x15, x16] fun f ρ' => f = .nx ∧ ∃ (w' : List D) (y4 y5 y6 y7 y8 y9 y10 y11 y12 y13 y14 y15 y16 : DV),
      ρ' = [.dat S, .dat k, .lst w', .dat t, y4, y5, y6, y7, y8, y9, y10, y11, y12, y13, y14, y15, y16] ∧ Wl n w' ∧ Pl y4 ∧ Pl y5 ∧ Pl y6 ∧ Pl y7 ∧ Pl y8 ∧ Pl y9 ∧ Pl y10 ∧ Pl y11 ∧ Pl y12 ∧ Pl y13 ∧ Pl y14 ∧ Pl y15 ∧ Pl y16 := by
  unfold m_turn2
  -- length, size
  refine wp_seq ?_
  rw [wp_sPar, wp_aCons]
  refine wp_draw1 (n := n + 5) (by decide) (by decide) rfl rfl hw fun l w1 hl1 hl2 hw1 => ?_
  show Wp _ [.dat S, .dat k, .lst w1, .dat t, x4, x5, x6, x7, x8, x9, x10, x11, x12, x13, x14, x15, x16] _
  rw [wp_aCons]
  refine wp_pick (n := n + 4) 3 (ev_lst (eva_cons ev_lit (eva_cons ev_lit (eva_cons (ev_pow 20 (by decide)) eva_nil))) (Nat.le_of_ble_eq_true rfl)) rfl (by decide) (by decide) rfl rfl hw1 fun ds w2 hds hw2 => ?_
  obtain ⟨size, rfl, hs1, hs2⟩ : ∃ s : Int, ds = .int s ∧ 0 < s ∧ s ≤ 10 ^ 20 := by
    simp only [List.mem_cons, List.not_mem_nil, or_false] at hds
    rcases hds with rfl | rfl | rfl
    · exact ⟨_, rfl, by decide, by decide⟩
    · exact ⟨_, rfl, by decide, by decide⟩
    · exact ⟨_, rfl, by decide, by decide⟩
  show Wp _ [.dat S, .dat k, .lst w2, .dat t, x4, x5, x6, x7, x8, x9, x10, x11, x12, x13, x14, x15, x16] _
  rw [wp_aNil, wp_frzAll_cons, wp_frz_dat, wp_frzAll_cons, wp_frz_dat, wp_frzAll_nil, wp_setDs_cons]
  refine ⟨x8, rfl, p8.bor, ?_⟩
  rw [wp_setDs_cons]
  refine ⟨x9, rfl, p9.bor, ?_⟩
  rw [wp_setDs_nil]
  refine ⟨rfl, ?_⟩
  show Wp _ [.dat S, .dat k, .lst w2, .dat t, x4, x5, x6, x7, .dat (.int l), .dat (.int size), x10, x11, x12, x13, x14, x15, x16] _
  -- below
  refine wp_seq ?_
  rw [wp_sSetX, wp_eOp2, wp_eLit]
  refine wp_draw (n := n + 3) rfl rfl ((ev_var rfl).mono fun r ρ1 e => ?_)
  obtain ⟨rfl, rfl⟩ := e
  refine ⟨size, _, w2, rfl, hs1, Nat.lt_trans (by omega : size.natAbs < 10 ^ 20 + 1) (by decide), rfl, rfl, hw2, fun d1 w3 hd1 hd2 hw3 => ?_⟩
  rw [wp_rd_dat, wp_rd_dat]
  refine ⟨_, addD_i, ?_⟩
  rw [wp_stX_dat]
  refine ⟨x10, rfl, p10.bor, rfl, ?_⟩
  obtain ⟨b, hb⟩ : ∃ b : Int, b = 1 + d1 := ⟨_, rfl⟩
  have hb1 : 0 < b := by omega
  have hb2 : b.natAbs < 10 ^ 20 + 2 := by omega
  have hb3 : b.natAbs < 2 ^ 500 := Nat.lt_trans hb2 (by decide)
  have hb4 : b.natAbs < 2 ^ 1000 := Nat.lt_trans hb2 (by decide)
  rw [← hb]
  show Wp _ [.dat S, .dat k, .lst w3, .dat t, x4, x5, x6, x7, .dat (.int l), .dat (.int size), .dat (.int b), x11, x12, x13, x14, x15, x16] _
  -- above
  refine wp_seq ?_
  rw [wp_sSetX]
  refine wp_draw (n := n + 2) rfl rfl ((ev_var rfl).mono fun r ρ1 e => ?_)
  obtain ⟨rfl, rfl⟩ := e
  refine ⟨b, _, w3, rfl, hb1, hb4, rfl, rfl, hw3, fun a w4 ha1 ha2 hw4 => ?_⟩
  rw [wp_stX_dat]
  refine ⟨x11, rfl, p11.bor, rfl, ?_⟩
  show Wp _ [.dat S, .dat k, .lst w4, .dat t, x4, x5, x6, x7, .dat (.int l), .dat (.int size), .dat (.int b), .dat (.int a), x12, x13, x14, x15, x16] _
  have hl : 0 ≤ l ∧ l ≤ 60 := ⟨hl1, by omega⟩
  have ha3 : a.natAbs < 2 ^ 1000 := Nat.lt_trans (by omega : a.natAbs < 10 ^ 20 + 2) (by decide)
  have hlo := drift_lo hl.1 ha1 ha2
  have hhi := drift_hi hl.1 ha1 ha2
  have hwl := wider_lo (l := l) (a := a) (c := (a + b) / 2) (b := b) hl.1 (by omega) hb1
  have hwh := wider_hi (l := l) (a := a) (c := (a + b) / 2) (b := b) hl.1 (by omega) hb1
  have ed := e_drift l a b hl ha1 ha2 hb3
  have ed2 := e_drifted l a b hl ha1 ha2 hb4
  have ed3 := e_drifted l ((a + b) / 2) b hl (by omega) (by omega) hb4
  have ed4 := e_drifted l 0 b hl (by decide) hb1 hb4
  have z1 : l * (b - 0) / b = l := by rw [Int.sub_zero]; exact Int.mul_ediv_cancel _ (by omega)
  have z2 : -(-l * (b + 0) / b) = l := by rw [Int.add_zero, Int.mul_ediv_cancel _ (by omega)]; omega
  rw [z1, z2] at ed4
  generalize l * (b - a) / b = lo at *
  generalize -(-l * (b + a) / b) = hi at *
  generalize l * (b - (a + b) / 2) / b = wlo at *
  generalize -(-l * (b + (a + b) / 2) / b) = whi at *
  -- due, told
  refine wp_seq (ev_set (ev_callF (eva_cons (ev_var rfl) (eva_cons (ev_var rfl) (eva_cons (ev_var rfl) eva_nil))) ed) rfl p6.bor ⟨rfl, ?_⟩)
  refine wp_seq (ev_set (ev_lst (eva_cons (ev_callF (eva_cons (ev_var rfl) (eva_cons (ev_var rfl) (eva_cons (ev_var rfl) eva_nil))) ed2) (eva_cons (ev_callK (ds := [.int b, .int a, .int l]) (eva_cons (ev_var rfl) (eva_cons (ev_var rfl) (eva_cons (ev_var rfl) eva_nil))) ed2) eva_nil)) (Nat.le_of_ble_eq_true rfl)) rfl p12.bor ⟨rfl, ?_⟩)
  show Wp _ [.dat S, .dat k, .lst w4, .dat t, x4, x5, .dat (.tuple [.int lo, .int hi]), x7, .dat (.int l), .dat (.int size), .dat (.int b), .dat (.int a), .dat (.list [.tuple [.int lo, .int hi], .tuple [.int lo, .int hi]]), x13, x14, x15, x16] _
  obtain ⟨xs, hxs⟩ := r_2t lo hi (Nat.lt_trans (by omega : lo.natAbs < 1000) (by decide)) (Nat.lt_trans (by omega : hi.natAbs < 1000) (by decide))
  refine wp_seq (wp_skip (tf_b (ev_op2 (ev_cbA (eva_cons (ev_var rfl) eva_nil) hxs) (ev_cbA (eva_cons (ev_lst (eva_cons (ev_var rfl) (eva_cons (ev_var rfl) eva_nil)) (Nat.le_of_ble_eq_true rfl)) eva_nil) hxs) neX_s)) ⟨rfl, ?_⟩)
  -- wide
  refine wp_seq (ev_set (ev_callF (eva_cons (ev_var rfl) (eva_cons (ev_fdiv (ev_add (ev_var rfl) (ev_var rfl)) ev_lit (by decide) (by decide)) (eva_cons (ev_var rfl) eva_nil))) ed3) rfl p13.bor ⟨rfl, ?_⟩)
  show Wp _ [.dat S, .dat k, .lst w4, .dat t, x4, x5, .dat (.tuple [.int lo, .int hi]), x7, .dat (.int l), .dat (.int size), .dat (.int b), .dat (.int a), .dat (.list [.tuple [.int lo, .int hi], .tuple [.int lo, .int hi]]), .dat (.tuple [.int wlo, .int whi]), x14, x15, x16] _
  have t1 : gtD (.int wlo) (.int lo) = some (.bool false) := by rw [gtD_i, decide_eq_false (by omega)]
  have t2 : ltD (.int whi) (.int hi) = some (.bool false) := by rw [ltD_i, decide_eq_false (by omega)]
  refine wp_seq (wp_skip (tf_or (tf_b (ev_op2 (ev_op2 (ev_var rfl) ev_lit at0) (ev_op2 (ev_var rfl) ev_lit at0) t1)) (tf_or (tf_b (ev_op2 (ev_op2 (ev_var rfl) ev_lit at1) (ev_op2 (ev_var rfl) ev_lit at1) t2))
    (tf_b (ev_op2 (ev_callF (eva_cons (ev_var rfl) (eva_cons ev_lit (eva_cons (ev_var rfl) eva_nil))) ed4) (ev_tup (eva_cons (ev_var rfl) (eva_cons (ev_var rfl) eva_nil)) (Nat.le_of_ble_eq_true rfl)) (ne_same (sh_pair _ _)))))) ⟨rfl, ?_⟩)
  -- bad
  refine wp_seq ?_
  rw [wp_sSetX]
  refine wp_pick (n := n + 1) 3 (ev_lst (eva_cons (ev_neg ev_lit) (eva_cons ev_lit (eva_cons (ev_pow 9 (by decide)) eva_nil))) (Nat.le_of_ble_eq_true rfl)) rfl (by decide) (by decide) rfl rfl hw4 fun dbad w5 hdb hw5 => ?_
  obtain ⟨bad, rfl, hbad, hbad2⟩ : ∃ s : Int, dbad = .int s ∧ ¬ (0 ≤ s ∧ s ≤ 60) ∧ s.natAbs < 2 ^ 1000 := by
    simp only [List.mem_cons, List.not_mem_nil, or_false] at hdb
    rcases hdb with rfl | rfl | rfl
    · exact ⟨_, rfl, by decide, by decide⟩
    · exact ⟨_, rfl, by decide, by decide⟩
    · exact ⟨_, rfl, by decide, by decide⟩
  rw [wp_stX_dat]
  refine ⟨x14, rfl, p14.bor, rfl, ?_⟩
  show Wp _ [.dat S, .dat k, .lst w5, .dat t, x4, x5, .dat (.tuple [.int lo, .int hi]), x7, .dat (.int l), .dat (.int size), .dat (.int b), .dat (.int a), .dat (.list [.tuple [.int lo, .int hi], .tuple [.int lo, .int hi]]), .dat (.tuple [.int wlo, .int whi]), .dat (.int bad), x15, x16] _
  have ha4 : (-1 - a).natAbs < 2 ^ 1000 := Nat.lt_trans (by omega : (-1 - a).natAbs < 10 ^ 20 + 4) (by decide)
  refine wp_seq (wp_skip (tf_or (tf_not (tf_b (ev_callF (eva_cons (ev_var rfl) (eva_cons (ev_neg ev_lit) (eva_cons (ev_neg ev_lit) (eva_cons (ev_var rfl) eva_nil)))) (e_refused bad (-1) (-2) bad (.inl ⟨hbad, rfl⟩) hbad2))))
    (tf_not (tf_b (ev_callF (eva_cons (ev_var rfl) (eva_cons (ev_sub (ev_neg ev_lit) (ev_var rfl)) (eva_cons ev_lit (eva_cons (ev_sub (ev_neg ev_lit) (ev_var rfl)) eva_nil)))) (e_refused l (-1 - a) 0 (-1 - a) (.inr (.inl ⟨hl, by omega, rfl⟩)) ha4))))) ⟨rfl, ?_⟩)
  -- less
  refine wp_seq ?_
  rw [wp_sSetX]
  refine wp_pick (n := n) 4 (ev_lst (eva_cons (ev_var rfl) (eva_cons (ev_sub (ev_var rfl) ev_lit) (eva_cons ev_lit (eva_cons (ev_neg ev_lit) eva_nil)))) (Nat.le_of_ble_eq_true rfl)) rfl (by decide) (by decide) rfl rfl hw5 fun dl w6 hdl hw6 => ?_
  obtain ⟨less, rfl, hless2⟩ : ∃ s : Int, dl = .int s ∧ s.natAbs < 2 ^ 1000 := by
    simp only [List.mem_cons, List.not_mem_nil, or_false] at hdl
    rcases hdl with rfl | rfl | rfl | rfl
    · exact ⟨_, rfl, ha3⟩
    · exact ⟨_, rfl, Nat.lt_trans (by omega : (a - 1).natAbs < 10 ^ 20 + 4) (by decide)⟩
    · exact ⟨_, rfl, by decide⟩
    · exact ⟨_, rfl, by decide⟩
  rw [wp_stX_dat]
  refine ⟨x15, rfl, p15.bor, rfl, ?_⟩
  show Wp _ [.dat S, .dat k, .lst w6, .dat t, x4, x5, .dat (.tuple [.int lo, .int hi]), x7, .dat (.int l), .dat (.int size), .dat (.int b), .dat (.int a), .dat (.list [.tuple [.int lo, .int hi], .tuple [.int lo, .int hi]]), .dat (.tuple [.int wlo, .int whi]), .dat (.int bad), .dat (.int less), x16] _
  refine wp_seq (wp_skip (tf_and (tf_b (ev_op2 (ev_var rfl) (ev_var rfl) leD_i)) fun hc => tf_not (tf_b (ev_callF (eva_cons (ev_var rfl) (eva_cons (ev_var rfl) (eva_cons (ev_var rfl) (eva_cons (ev_var rfl) eva_nil)))) (e_refused l a less less (.inr (.inr ⟨hl, ha1, of_decide_eq_true hc, rfl⟩)) hless2)))) ⟨rfl, ?_⟩)
  rw [wp_sNil]
  exact ⟨rfl, w6, _, _, _, _, _, _, _, _, _, _, _, _, _, rfl, hw6, p4, p5, pl_dat _, p7, pl_dat _, pl_dat _, pl_dat _, pl_dat _, pl_dat _, pl_dat _, pl_dat _, pl_dat _, p16⟩
theorem turn_ok {n : Nat} {w : List D} {S k t : D} {x4 x5 x6 x7 x8 x9 x10 x11 x12 x13 x14 x15 x16 : DV} (hw : Wl (n + 14) w) (p4 : Pl x4) (p5 : Pl x5) (p6 : Pl x6) (p7 : Pl x7) (p8 : Pl x8) (p9 : Pl x9) (p10 : Pl x10) (p11 : Pl x11) (p12 : Pl x12) (p13 : Pl x13) (p14 : Pl x14) (p15 : Pl x15) (p16 : Pl x16) :
    Wp m_turn [.dat S, .dat k, .lst w, .dat t, x4, x5, x6, x7, x8, x9, x10, x11, x12, x13, x14, x15, x16] fun f ρ' => f = .nx ∧ ∃ (w' : List D) (y4 y5 y6 y7 y8 y9 y10 y11 y12 y13 y14 y15 y16 : DV),
      ρ' = [.dat S, .dat k, .lst w', .dat t, y4, y5, y6, y7, y8, y9, y10, y11, y12, y13, y14, y15, y16] ∧ Wl n w' ∧ Pl y4 ∧ Pl y5 ∧ Pl y6 ∧ Pl y7 ∧ Pl y8 ∧ Pl y9 ∧ Pl y10 ∧ Pl y11 ∧ Pl y12 ∧ Pl y13 ∧ Pl y14 ∧ Pl y15 ∧ Pl y16 := by
  unfold m_turn
  -- message, use
  refine wp_seq ?_
  rw [wp_sPar, wp_aCons, wp_callT, wp_aCons, wp_eVar]
  refine ⟨.loc 2, rfl, ?_⟩
  rw [wp_aNil]
  refine ⟨2, [], rfl, ?_⟩
  rw [wp_frzAll_nil]
  obtain ⟨p, w1, e1, hp, hw1⟩ := e_some (n := n + 10) hw
  refine ⟨_, _, _, w1, rfl, rfl, e1, ?_⟩
  show Wp _ [.dat S, .dat k, .lst w1, .dat t, x4, x5, x6, x7, x8, x9, x10, x11, x12, x13, x14, x15, x16] _
  rw [wp_aCons, wp_callT, wp_aCons, wp_eVar]
  refine ⟨.loc 2, rfl, ?_⟩
  rw [wp_aNil]
  refine ⟨2, [], rfl, ?_⟩
  rw [wp_frzAll_nil]
  obtain ⟨q, w2, e2, hq, hw2⟩ := e_some (n := n + 6) hw1
  refine ⟨_, _, _, w2, rfl, rfl, e2, ?_⟩
  show Wp _ [.dat S, .dat k, .lst w2, .dat t, x4, x5, x6, x7, x8, x9, x10, x11, x12, x13, x14, x15, x16] _
  rw [wp_aNil, wp_frzAll_cons]
  show Wp (frz (.dat (Bd p))) _ _
  rw [wp_frz_dat, wp_frzAll_cons]
  show Wp (frz (.dat (Bd q))) _ _
  rw [wp_frz_dat, wp_frzAll_nil, wp_setDs_cons]
  refine ⟨x4, rfl, p4.bor, ?_⟩
  rw [wp_setDs_cons]
  refine ⟨x5, rfl, p5.bor, ?_⟩
  rw [wp_setDs_nil]
  refine ⟨rfl, ?_⟩
  show Wp _ [.dat S, .dat k, .lst w2, .dat t, .dat (Bd p), .dat (Bd q), x6, x7, x8, x9, x10, x11, x12, x13, x14, x15, x16] _
  -- due
  refine wp_seq (ev_set (ev_add (ev_sub (ev_add (ev_op2 (ev_var rfl) ev_lit at1) (ev_op2 (ev_var rfl) ev_lit at1)) (ev_op2 (ev_var rfl) ev_lit at0)) ev_lit) rfl p6.bor ⟨rfl, ?_⟩)
  show Wp _ [.dat S, .dat k, .lst w2, .dat t, .dat (Bd p), .dat (Bd q), .dat (.int (p.2 + q.2 - p.1 + 1)), x7, x8, x9, x10, x11, x12, x13, x14, x15, x16] _
  have hdue : (p.2 + q.2 - p.1 + 1).natAbs < 2 ^ 1000 := by
    obtain ⟨h1, h2, h3⟩ := hp
    obtain ⟨h4, h5, h6⟩ := hq
    exact Nat.lt_trans (by omega : (p.2 + q.2 - p.1 + 1).natAbs < 1000) (by decide)
  obtain ⟨xs, hxs⟩ := r_2i _ _ hdue hdue
  refine wp_seq (wp_skip (tf_b (ev_op2 (ev_cbA (eva_cons (ev_lst (eva_cons (ev_callF (eva_cons (ev_var rfl) (eva_cons (ev_var rfl) eva_nil)) (e_least p q hp hq)) (eva_cons (ev_callK (ds := [Bd q, Bd p]) (eva_cons (ev_var rfl) (eva_cons (ev_var rfl) eva_nil)) (e_least p q hp hq)) eva_nil)) (Nat.le_of_ble_eq_true rfl)) eva_nil) hxs)
    (ev_cbA (eva_cons (ev_lst (eva_cons (ev_var rfl) (eva_cons (ev_var rfl) eva_nil)) (Nat.le_of_ble_eq_true rfl)) eva_nil) hxs) neX_s)) ⟨rfl, ?_⟩)
  -- safe
  refine wp_seq ?_
  rw [wp_sSetX]
  have hsafe : ∀ (n : Int) (acc : List D) (x16 : DV), 0 ≤ n ∧ n < 61 → F_lease_is_safe [] [.tuple [.int n, .int 60], Bd p, Bd q] = some (.ok (.dat (.bool (decide (p.2 + q.2 - p.1 + 1 ≤ n)))), []) := fun n _ _ hn => by
    rw [show (PyData.tuple [.int n, .int 60]) = .tuple [.int (n, (60 : Int)).1, .int (n, (60 : Int)).2] from rfl]
    rw [show F_lease_is_safe [] [.tuple [.int (n, (60 : Int)).1, .int (n, (60 : Int)).2], Bd p, Bd q] = _ from e_safe (n, 60) p q ⟨hn.1, by show n ≤ 60; omega, Int.le_refl 60⟩ hp hq]
    have : (decide (p.2 + q.2 < n + p.1)) = decide (p.2 + q.2 - p.1 + 1 ≤ n) := by rw [decide_eq_decide]; omega
    rw [show (n, (60 : Int)).1 = n from rfl, this]
  refine wp_eLc (ds := (rgI 0 61).map PyData.int) (W := [.dat S, .dat k, .lst w2, .dat t, .dat (Bd p), .dat (Bd q), .dat (.int (p.2 + q.2 - p.1 + 1)), x7, x8, x9, x10, x11, x12, x13, x14, x15, .un]) (stF fun n => decide (p.2 + q.2 - p.1 + 1 ≤ n)) (stF_len _) ?_ (by rw [List.length_map, rgI_len]; decide) (wipeOk_one (x := x16) rfl p16) (wipeD_one.trans rfl) (fun l => (restD_one (x := x16) rfl).trans rfl) ?_ ?_
  · rw [wp_iRng, wp_aCons, wp_eLit, wp_aNil, wp_rdAll_cons, wp_rd_dat, wp_rdAll_nil]
    exact ⟨_, rngF1 (by decide), rfl, rfl⟩
  · intro d hd acc hacc
    obtain ⟨z, hz, rfl⟩ := List.mem_map.mp hd
    rw [mem_rgI] at hz
    rw [wp_lcTurn, wp_setT_nm, wp_setD]
    refine ⟨.un, rfl, rfl, ?_⟩
    show Wp _ [.dat S, .dat k, .lst w2, .dat t, .dat (Bd p), .dat (Bd q), .dat (.int (p.2 + q.2 - p.1 + 1)), x7, x8, x9, x10, x11, x12, x13, x14, x15, .dat (.int z), .lst acc] _
    refine (tf_b (ev_callF (ds := [.tuple [.int z, .int 60], Bd p, Bd q]) (eva_cons (ev_tup (eva_cons (ev_var rfl) (eva_cons ev_lit eva_nil)) (Nat.le_of_ble_eq_true rfl)) (eva_cons (ev_var rfl) (eva_cons (ev_var rfl) eva_nil))) (hsafe z acc .un hz))).mono fun c ρ1 e => ?_
    obtain ⟨rfl, rfl⟩ := e
    by_cases hc : p.2 + q.2 - p.1 + 1 ≤ z
    · rw [if_pos (decide_eq_true hc)]
      refine (ev_var (k := 16) rfl).mono fun r ρ1 e => ?_
      obtain ⟨rfl, rfl⟩ := e
      rw [wp_frz_dat, wp_accAdd]
      refine ⟨acc, rfl, hacc, ?_⟩
      rw [wp_mWipe]
      refine ⟨wipeOk_one (x := .dat (.int z)) rfl (.inr ⟨_, rfl⟩), ?_⟩
      rw [wipeD_one, stF, if_pos (decide_eq_true hc)]
      rfl
    · rw [if_neg (by simp [hc])]
      rw [wp_mWipe]
      refine ⟨wipeOk_one (x := .dat (.int z)) rfl (.inr ⟨_, rfl⟩), ?_⟩
      rw [wipeD_one, stF, if_neg (by simp [hc]), List.append_nil]
      rfl
  rw [flatMap_filter fun n => decide (p.2 + q.2 - p.1 + 1 ≤ n), safe_list, wp_stX_dat]
  refine ⟨x7, rfl, p7.bor, rfl, ?_⟩
  generalize hcl : (if (if p.2 + q.2 - p.1 + 1 > 0 then p.2 + q.2 - p.1 + 1 else 0) < 61 then (if p.2 + q.2 - p.1 + 1 > 0 then p.2 + q.2 - p.1 + 1 else 0) else 61) = cl
  have hcl2 : 0 ≤ cl ∧ cl ≤ 61 := by
    rw [← hcl]; split <;> split at * <;> omega
  have hrg : rgLF (.int cl) (.int 61) = some (.list ((rgI cl 61).map PyData.int)) := by
    show (if rgOk cl 61 then some (PyData.list (rangeD cl 61)) else none) = _
    rw [if_pos (by unfold rgOk; rw [okR_s (by omega), okR_s (by decide), decide_eq_true (by omega)]; rfl), rangeD_rgI]
  refine wp_seq (wp_skip (tf_b (ev_op2 (ev_var rfl) (ev_op2 (ev_cb2 ev_lit (ev_cb2 ev_lit (ev_var rfl) maxF_i) minF_i) ev_lit (by rw [hcl]; exact hrg)) (ne_same (sh_ints _)))) ⟨rfl, ?_⟩)
  show Wp _ [.dat S, .dat k, .lst w2, .dat t, .dat (Bd p), .dat (Bd q), .dat (.int (p.2 + q.2 - p.1 + 1)), .dat (.list ((rgI cl 61).map PyData.int)), x8, x9, x10, x11, x12, x13, x14, x15, x16] _
  exact turn2 hw2 (pl_dat _) (pl_dat _) (pl_dat _) (pl_dat _) p8 p9 p10 p11 p12 p13 p14 p15 p16
end LK

set_option Elab.async false
set_option linter.all false
set_option maxRecDepth 100000
set_option maxHeartbeats 8000000
namespace LK
open PySem PySem.Spec PyProof.Rows L2 DL
theorem law_true (ns : List Int) (h : ns.length ≤ 63) : ∃ w, F_law [] [.list (ns.map PyData.int)] = some (.ok (.dat (.bool true)), w) := by
  refine ⟨[], runF_ret ?_⟩
  generalize hS : PyData.list (ns.map PyData.int) = S
  show Wp m_law [.dat S, .un, .un, .un, .un, .un, .un, .un, .un, .un, .un, .un, .un, .un, .un, .un, .un] _
  rw [m_law_eq]
  refine wp_seq ?_
  rw [wp_sFor, wp_iRng, wp_aCons]
  have hm : ∃ c : Int, Ev (eCB maxF (aCons (eLit (.int (1))) (aCons (eCB minF (aCons (eLit (.int (4))) (aCons (eCB lenF (aCons (eVar 0) aNil)) aNil))) aNil))) [.dat S, .un, .un, .un, .un, .un, .un, .un, .un, .un, .un, .un, .un, .un, .un, .un, .un] (.int c) ∧ 1 ≤ c ∧ c ≤ 4 := by
    refine ⟨_, ev_cb2 ev_lit (ev_cb2 ev_lit (ev_cb1 (ev_var rfl) (by rw [← hS]; rfl)) minF_i) maxF_i, ?_, ?_⟩
    · split <;> omega
    · split
      · split <;> omega
      · omega
  obtain ⟨c, hc, hc1, hc2⟩ := hm
  refine hc.mono fun r ρ1 e => ?_
  obtain ⟨rfl, rfl⟩ := e
  rw [wp_aNil, wp_rdAll_cons, wp_rd_dat, wp_rdAll_nil]
  refine ⟨_, rngF1 (by omega), ?_⟩
  refine wp_for (fun ds ρ => (∀ d ∈ ds, ∃ k : Int, d = .int k ∧ 0 ≤ k ∧ k ≤ 3) ∧ ∃ (x1 x2 x3 x4 x5 x6 x7 x8 x9 x10 x11 x12 x13 x14 x15 x16 : DV), ρ = [.dat S, x1, x2, x3, x4, x5, x6, x7, x8, x9, x10, x11, x12, x13, x14, x15, x16] ∧
    Pl x1 ∧ x2.isBor = false ∧ Pl x3 ∧ Pl x4 ∧ Pl x5 ∧ Pl x6 ∧ Pl x7 ∧ Pl x8 ∧ Pl x9 ∧ Pl x10 ∧ Pl x11 ∧ Pl x12 ∧ Pl x13 ∧ Pl x14 ∧ Pl x15 ∧ Pl x16) ?_ ?_ _ _ ?_
  · rintro ρ ⟨_, x1, x2, x3, x4, x5, x6, x7, x8, x9, x10, x11, x12, x13, x14, x15, x16, rfl, _⟩
    exact ⟨rfl, wp_fin (ev_ret ev_lit ⟨rfl, rfl⟩)⟩
  · rintro d ds ρ ⟨hd, x1, x2, x3, x4, x5, x6, x7, x8, x9, x10, x11, x12, x13, x14, x15, x16, rfl, p1, p2, p3, p4, p5, p6, p7, p8, p9, p10, p11, p12, p13, p14, p15, p16⟩
    obtain ⟨k, rfl, hk⟩ := hd d List.mem_cons_self
    rw [wp_bind, wp_setT_nm, wp_setD]
    refine ⟨x1, rfl, p1.bor, ?_⟩
    show Wp _ [.dat S, .dat (.int k), x2, x3, x4, x5, x6, x7, x8, x9, x10, x11, x12, x13, x14, x15, x16] _
    refine wp_seq ?_
    rw [wp_sSetN, wp_nCallF]
    refine (eva_cons (ev_var (k := 0) (d := S) rfl) (eva_cons (ev_var (k := 1) (d := .int k) rfl) eva_nil)).mono fun rs ρ1 e => ?_
    obtain ⟨rfl, rfl⟩ := e
    rw [wp_frz_dats]
    obtain ⟨w, ew, hw⟩ := e_well ns k hk
    rw [hS] at ew
    refine ⟨w, [], ew, w, _, x2, rfl, rfl, p2, rfl, ?_⟩
    show Wp _ [.dat S, .dat (.int k), .lst w, x3, x4, x5, x6, x7, x8, x9, x10, x11, x12, x13, x14, x15, x16] _
    refine wp_seq ?_
    rw [wp_sFor, wp_iRng, wp_aCons, wp_eLit, wp_aNil, wp_rdAll_cons, wp_rd_dat, wp_rdAll_nil]
    refine ⟨_, rngF1 (by decide), ?_⟩
    refine wp_for (fun es ρ => ∃ (w : List D) (x3 x4 x5 x6 x7 x8 x9 x10 x11 x12 x13 x14 x15 x16 : DV), ρ = [.dat S, .dat (.int k), .lst w, x3, x4, x5, x6, x7, x8, x9, x10, x11, x12, x13, x14, x15, x16] ∧ Wl (20 * es.length) w ∧
      Pl x3 ∧ Pl x4 ∧ Pl x5 ∧ Pl x6 ∧ Pl x7 ∧ Pl x8 ∧ Pl x9 ∧ Pl x10 ∧ Pl x11 ∧ Pl x12 ∧ Pl x13 ∧ Pl x14 ∧ Pl x15 ∧ Pl x16) ?_ ?_ _ _ ?_
    · rintro ρ ⟨w, x3, x4, x5, x6, x7, x8, x9, x10, x11, x12, x13, x14, x15, x16, rfl, _, p3, p4, p5, p6, p7, p8, p9, p10, p11, p12, p13, p14, p15, p16⟩
      refine ⟨rfl, ?_⟩
      rw [wp_sNil]
      exact ⟨fun d' hd' => hd d' (List.mem_cons_of_mem _ hd'), _, _, x3, x4, x5, x6, x7, x8, x9, x10, x11, x12, x13, x14, x15, x16, rfl, pl_dat _, rfl, p3, p4, p5, p6, p7, p8, p9, p10, p11, p12, p13, p14, p15, p16⟩
    · rintro t es ρ ⟨w, x3, x4, x5, x6, x7, x8, x9, x10, x11, x12, x13, x14, x15, x16, rfl, hw, p3, p4, p5, p6, p7, p8, p9, p10, p11, p12, p13, p14, p15, p16⟩
      rw [wp_bind, wp_setT_nm, wp_setD]
      refine ⟨x3, rfl, p3.bor, ?_⟩
      show Wp _ [.dat S, .dat (.int k), .lst w, .dat t, x4, x5, x6, x7, x8, x9, x10, x11, x12, x13, x14, x15, x16] _
      rw [List.length_cons] at hw
      refine (turn_ok (n := 20 * es.length) (hw.less (by omega)) p4 p5 p6 p7 p8 p9 p10 p11 p12 p13 p14 p15 p16).mono fun f ρ1 q => ?_
      obtain ⟨rfl, w', y4, y5, y6, y7, y8, y9, y10, y11, y12, y13, y14, y15, y16, rfl, hw', q4, q5, q6, q7, q8, q9, q10, q11, q12, q13, q14, q15, q16⟩ := q
      exact ⟨w', _, y4, y5, y6, y7, y8, y9, y10, y11, y12, y13, y14, y15, y16, rfl, hw', pl_dat _, q4, q5, q6, q7, q8, q9, q10, q11, q12, q13, q14, q15, q16⟩
    · refine ⟨w, x3, x4, x5, x6, x7, x8, x9, x10, x11, x12, x13, x14, x15, x16, rfl, hw.less ?_, p3, p4, p5, p6, p7, p8, p9, p10, p11, p12, p13, p14, p15, p16⟩
      rw [List.length_map, rgI_len]; decide
  · refine ⟨fun d hd => ?_, .un, .un, .un, .un, .un, .un, .un, .un, .un, .un, .un, .un, .un, .un, .un, .un, rfl, .inl rfl, rfl, .inl rfl, .inl rfl, .inl rfl, .inl rfl, .inl rfl, .inl rfl, .inl rfl, .inl rfl, .inl rfl, .inl rfl, .inl rfl, .inl rfl, .inl rfl, .inl rfl⟩
    obtain ⟨z, hz, rfl⟩ := List.mem_map.mp hd
    rw [mem_rgI] at hz
    exact ⟨z, rfl, hz.1, by omega⟩
end LK

set_option Elab.async false
set_option linter.all false
set_option maxRecDepth 100000
set_option maxHeartbeats 4000000
namespace LK
open PySem PySem.Spec PyProof.Rows L2 DL
theorem cx_none {P : Program} {w : World} {H : Hp} {s : Shared} {e : Value} {s' : Shared} (h : L2.CX P w [] H s (fun _ _ _ => False) e s') : False := by
  obtain ⟨_, _, _, _, _, _, h⟩ := h
  simp at h

def spLaw (K : PySem.W.Frag) : Sp := fun vs H Q E => ∃ (a : Addr) (ns : List Int), vs = [.ref a] ∧ SqL K H a (ns.map V.int) ∧ ns.length ≤ 63 ∧ ∀ H', Q (.bl true) H'
theorem spLaw_imp {K : PySem.W.Frag} {mg : Str → Option Value} (vs : List V) (H : Hp) (Q : VK) (E : XK) (h : spLaw K vs H Q E) : spD ⟨K, mg⟩ false 1 F_law vs H Q E := by
  obtain ⟨a, ns, rfl, hS, hl, q⟩ := h
  refine ⟨rfl, H, none, [.ref a], [], [.list (ns.map PyData.int)], rfl, rfl, Same.refl H, trivial, .cons (.lst hS (RpAll.ints ns)) .nil, ?_⟩
  obtain ⟨w, e⟩ := law_true ns hl
  rw [e]
  intro v F' H' s s' n fr lt rv
  cases (show Rp ⟨K, mg⟩ F' v (.bool true) from rv)
  exact q H'
theorem walk {l : PySem.W.OpenLaw} {q : Program} {loose : List Str} {XP : (Str → Option Value) → Heap → Prop} {YP : World → Heap → Prop} {d : DefRec} {K : Params → PySem.W.Frag} (hn : l.most = some 63) (hdf : d.params.defaults = [])
    (hY : ∀ (w : World) (h : Heap), YP w h → (K w.params).In h)
    (F : ∀ (w : World) (mg : Str → Option Value) (fa : Addr) (h : Heap), (K w.params).In h → h.Ns mainGlobals mg → mg d.name = some (.ref fa) →
      ∃ fd : FuncData, (∀ (s : Shared) (u : Value), BindsTo s fd ⟨[u], []⟩ [("script", u)]) ∧ ∀ base : Heap, (K w.params).In base → base.Ns mainGlobals mg → FnOkG l.prog w (K w.params) mg base (L2.CX l.prog w) 6 fa fd ["script"] (spLaw (K w.params))) :
    PySem.W.WalkO q loose XP YP l.row.toRowW d [] (fun f vs => PySem.call f vs) :=
  walk_ofG (n := 63) (k := 6) (x := "script") (CX := fun w => L2.CX l.prog w) (sp := fun w => spLaw (K w.params)) hn (by decide) hdf ⟨rfl, by decide, by decide⟩ hY F (fun _ _ a ns hl _ hS => ⟨a, ns, rfl, hS, hl, fun _ => rfl⟩) fun _ _ _ _ _ z => cx_none z
theorem all_mk {w : World} {K : PySem.W.Frag} {h : Heap} {mg : Str → Option Value} {fa : Addr} (X : K.In h) (G : h.Ns mainGlobals mg) (hfa : mg "law" = some (.ref fa))
    (pI : PySem.LeX.IP)
    {f_is_integer f_is_between f_is_tuple f_need_number f_are_bounds f_need_bounds f_lease_is_safe f_least_server f_drifted f__law_well f__law_draw f__law_some_bounds f__law_drift f__law_refused f_law C_LeaseError C_InvalidNumber C_InvalidBounds fI cc cda : Addr}
    {od_is_integer an_is_integer : Option Addr} {sl_is_integer : Array (Option Value)} {oc_is_integer kV_is_integer dc_is_integer pm_is_integer cd_is_integer ct_is_integer : Value}
    {od_is_between an_is_between : Option Addr} {sl_is_between : Array (Option Value)} {oc_is_between kV_is_between dc_is_between pm_is_between cd_is_between ct_is_between : Value}
    {od_is_tuple an_is_tuple : Option Addr} {sl_is_tuple : Array (Option Value)} {oc_is_tuple kV_is_tuple dc_is_tuple pm_is_tuple cd_is_tuple ct_is_tuple : Value}
    {od_need_number an_need_number : Option Addr} {sl_need_number : Array (Option Value)} {oc_need_number kV_need_number dc_need_number pm_need_number cd_need_number ct_need_number : Value}
    {od_are_bounds an_are_bounds : Option Addr} {sl_are_bounds : Array (Option Value)} {oc_are_bounds kV_are_bounds dc_are_bounds pm_are_bounds cd_are_bounds ct_are_bounds : Value}
    {od_need_bounds an_need_bounds : Option Addr} {sl_need_bounds : Array (Option Value)} {oc_need_bounds kV_need_bounds dc_need_bounds pm_need_bounds cd_need_bounds ct_need_bounds : Value}
    {od_lease_is_safe an_lease_is_safe : Option Addr} {sl_lease_is_safe : Array (Option Value)} {oc_lease_is_safe kV_lease_is_safe dc_lease_is_safe pm_lease_is_safe cd_lease_is_safe ct_lease_is_safe : Value}
    {od_least_server an_least_server : Option Addr} {sl_least_server : Array (Option Value)} {oc_least_server kV_least_server dc_least_server pm_least_server cd_least_server ct_least_server : Value}
    {od_drifted an_drifted : Option Addr} {sl_drifted : Array (Option Value)} {oc_drifted kV_drifted dc_drifted pm_drifted cd_drifted ct_drifted : Value}
    {od__law_well an__law_well : Option Addr} {sl__law_well : Array (Option Value)} {oc__law_well kV__law_well dc__law_well pm__law_well cd__law_well ct__law_well : Value}
    {od__law_draw an__law_draw : Option Addr} {sl__law_draw : Array (Option Value)} {oc__law_draw kV__law_draw dc__law_draw pm__law_draw cd__law_draw ct__law_draw : Value}
    {od__law_some_bounds an__law_some_bounds : Option Addr} {sl__law_some_bounds : Array (Option Value)} {oc__law_some_bounds kV__law_some_bounds dc__law_some_bounds pm__law_some_bounds cd__law_some_bounds ct__law_some_bounds : Value}
    {od__law_drift an__law_drift : Option Addr} {sl__law_drift : Array (Option Value)} {oc__law_drift kV__law_drift dc__law_drift pm__law_drift cd__law_drift ct__law_drift : Value}
    {od__law_refused an__law_refused : Option Addr} {sl__law_refused : Array (Option Value)} {oc__law_refused kV__law_refused dc__law_refused pm__law_refused cd__law_refused ct__law_refused : Value}
    {od_law an_law : Option Addr} {sl_law : Array (Option Value)} {oc_law kV_law dc_law pm_law cd_law ct_law : Value}
    {t_MOST_BOUND : Tok}
    {nm_LeaseError qn_LeaseError : Str} {N_LeaseError : Addr} {bs_LeaseError sub_LeaseError : List Value} {sn_LeaseError : List Str} {ab_LeaseError : Bool} {col_LeaseError : Option Bool} {dd_LeaseError : Option Addr} {m0_LeaseError m1_LeaseError m2_LeaseError m3_LeaseError m5_LeaseError : Option Value}
    {nm_InvalidNumber qn_InvalidNumber : Str} {N_InvalidNumber : Addr} {bs_InvalidNumber sub_InvalidNumber : List Value} {sn_InvalidNumber : List Str} {ab_InvalidNumber : Bool} {col_InvalidNumber : Option Bool} {dd_InvalidNumber : Option Addr} {m0_InvalidNumber m1_InvalidNumber m2_InvalidNumber m3_InvalidNumber m5_InvalidNumber : Option Value}
    {nm_InvalidBounds qn_InvalidBounds : Str} {N_InvalidBounds : Addr} {bs_InvalidBounds sub_InvalidBounds : List Value} {sn_InvalidBounds : List Str} {ab_InvalidBounds : Bool} {col_InvalidBounds : Option Bool} {dd_InvalidBounds : Option Addr} {m0_InvalidBounds m1_InvalidBounds m2_InvalidBounds m3_InvalidBounds m5_InvalidBounds : Option Value}
    {odI anI cdd cld : Option Addr} {ocI dcI pmI ctI ccl cl : Value} {slI ccs csl : Array (Option Value)} {vsC : Array Value} {fileC : Str} {tfC : Tok}
    (a_is_integer : PySem.W.nsIn K mainGlobals "is_integer" = some (some (.ref f_is_integer)))
    (l_is_integer : K.lookup f_is_integer = some ⟨oc_is_integer, od_is_integer, .func (PySem.W.fnOf "is_integer" "is_integer" (defArgs st_is_integer) (defBody st_is_integer) (defScope st_is_integer) .none kV_is_integer dc_is_integer pm_is_integer an_is_integer cd_is_integer ct_is_integer), sl_is_integer⟩)
    (c_is_integer : PySem.W.codeIn K cd_is_integer "is_integer" = true)
    (k_is_integer : PySem.W.keepIn K (.ref f_is_integer) = true)
    (a_is_between : PySem.W.nsIn K mainGlobals "is_between" = some (some (.ref f_is_between)))
    (l_is_between : K.lookup f_is_between = some ⟨oc_is_between, od_is_between, .func (PySem.W.fnOf "is_between" "is_between" (defArgs st_is_between) (defBody st_is_between) (defScope st_is_between) .none kV_is_between dc_is_between pm_is_between an_is_between cd_is_between ct_is_between), sl_is_between⟩)
    (c_is_between : PySem.W.codeIn K cd_is_between "is_between" = true)
    (k_is_between : PySem.W.keepIn K (.ref f_is_between) = true)
    (a_is_tuple : PySem.W.nsIn K mainGlobals "is_tuple" = some (some (.ref f_is_tuple)))
    (l_is_tuple : K.lookup f_is_tuple = some ⟨oc_is_tuple, od_is_tuple, .func (PySem.W.fnOf "is_tuple" "is_tuple" (defArgs st_is_tuple) (defBody st_is_tuple) (defScope st_is_tuple) .none kV_is_tuple dc_is_tuple pm_is_tuple an_is_tuple cd_is_tuple ct_is_tuple), sl_is_tuple⟩)
    (c_is_tuple : PySem.W.codeIn K cd_is_tuple "is_tuple" = true)
    (k_is_tuple : PySem.W.keepIn K (.ref f_is_tuple) = true)
    (a_need_number : PySem.W.nsIn K mainGlobals "need_number" = some (some (.ref f_need_number)))
    (l_need_number : K.lookup f_need_number = some ⟨oc_need_number, od_need_number, .func (PySem.W.fnOf "need_number" "need_number" (defArgs st_need_number) (defBody st_need_number) (defScope st_need_number) .none kV_need_number dc_need_number pm_need_number an_need_number cd_need_number ct_need_number), sl_need_number⟩)
    (c_need_number : PySem.W.codeIn K cd_need_number "need_number" = true)
    (k_need_number : PySem.W.keepIn K (.ref f_need_number) = true)
    (a_are_bounds : PySem.W.nsIn K mainGlobals "are_bounds" = some (some (.ref f_are_bounds)))
    (l_are_bounds : K.lookup f_are_bounds = some ⟨oc_are_bounds, od_are_bounds, .func (PySem.W.fnOf "are_bounds" "are_bounds" (defArgs st_are_bounds) (defBody st_are_bounds) (defScope st_are_bounds) .none kV_are_bounds dc_are_bounds pm_are_bounds an_are_bounds cd_are_bounds ct_are_bounds), sl_are_bounds⟩)
    (c_are_bounds : PySem.W.codeIn K cd_are_bounds "are_bounds" = true)
    (k_are_bounds : PySem.W.keepIn K (.ref f_are_bounds) = true)
    (a_need_bounds : PySem.W.nsIn K mainGlobals "need_bounds" = some (some (.ref f_need_bounds)))
    (l_need_bounds : K.lookup f_need_bounds = some ⟨oc_need_bounds, od_need_bounds, .func (PySem.W.fnOf "need_bounds" "need_bounds" (defArgs st_need_bounds) (defBody st_need_bounds) (defScope st_need_bounds) .none kV_need_bounds dc_need_bounds pm_need_bounds an_need_bounds cd_need_bounds ct_need_bounds), sl_need_bounds⟩)
    (c_need_bounds : PySem.W.codeIn K cd_need_bounds "need_bounds" = true)
    (k_need_bounds : PySem.W.keepIn K (.ref f_need_bounds) = true)
    (a_lease_is_safe : PySem.W.nsIn K mainGlobals "lease_is_safe" = some (some (.ref f_lease_is_safe)))
    (l_lease_is_safe : K.lookup f_lease_is_safe = some ⟨oc_lease_is_safe, od_lease_is_safe, .func (PySem.W.fnOf "lease_is_safe" "lease_is_safe" (defArgs st_lease_is_safe) (defBody st_lease_is_safe) (defScope st_lease_is_safe) .none kV_lease_is_safe dc_lease_is_safe pm_lease_is_safe an_lease_is_safe cd_lease_is_safe ct_lease_is_safe), sl_lease_is_safe⟩)
    (c_lease_is_safe : PySem.W.codeIn K cd_lease_is_safe "lease_is_safe" = true)
    (k_lease_is_safe : PySem.W.keepIn K (.ref f_lease_is_safe) = true)
    (a_least_server : PySem.W.nsIn K mainGlobals "least_server" = some (some (.ref f_least_server)))
    (l_least_server : K.lookup f_least_server = some ⟨oc_least_server, od_least_server, .func (PySem.W.fnOf "least_server" "least_server" (defArgs st_least_server) (defBody st_least_server) (defScope st_least_server) .none kV_least_server dc_least_server pm_least_server an_least_server cd_least_server ct_least_server), sl_least_server⟩)
    (c_least_server : PySem.W.codeIn K cd_least_server "least_server" = true)
    (k_least_server : PySem.W.keepIn K (.ref f_least_server) = true)
    (a_drifted : PySem.W.nsIn K mainGlobals "drifted" = some (some (.ref f_drifted)))
    (l_drifted : K.lookup f_drifted = some ⟨oc_drifted, od_drifted, .func (PySem.W.fnOf "drifted" "drifted" (defArgs st_drifted) (defBody st_drifted) (defScope st_drifted) .none kV_drifted dc_drifted pm_drifted an_drifted cd_drifted ct_drifted), sl_drifted⟩)
    (c_drifted : PySem.W.codeIn K cd_drifted "drifted" = true)
    (k_drifted : PySem.W.keepIn K (.ref f_drifted) = true)
    (a__law_well : PySem.W.nsIn K mainGlobals "_law_well" = some (some (.ref f__law_well)))
    (l__law_well : K.lookup f__law_well = some ⟨oc__law_well, od__law_well, .func (PySem.W.fnOf "_law_well" "_law_well" (defArgs st__law_well) (defBody st__law_well) (defScope st__law_well) .none kV__law_well dc__law_well pm__law_well an__law_well cd__law_well ct__law_well), sl__law_well⟩)
    (c__law_well : PySem.W.codeIn K cd__law_well "_law_well" = true)
    (k__law_well : PySem.W.keepIn K (.ref f__law_well) = true)
    (a__law_draw : PySem.W.nsIn K mainGlobals "_law_draw" = some (some (.ref f__law_draw)))
    (l__law_draw : K.lookup f__law_draw = some ⟨oc__law_draw, od__law_draw, .func (PySem.W.fnOf "_law_draw" "_law_draw" (defArgs st__law_draw) (defBody st__law_draw) (defScope st__law_draw) .none kV__law_draw dc__law_draw pm__law_draw an__law_draw cd__law_draw ct__law_draw), sl__law_draw⟩)
    (c__law_draw : PySem.W.codeIn K cd__law_draw "_law_draw" = true)
    (k__law_draw : PySem.W.keepIn K (.ref f__law_draw) = true)
    (a__law_some_bounds : PySem.W.nsIn K mainGlobals "_law_some_bounds" = some (some (.ref f__law_some_bounds)))
    (l__law_some_bounds : K.lookup f__law_some_bounds = some ⟨oc__law_some_bounds, od__law_some_bounds, .func (PySem.W.fnOf "_law_some_bounds" "_law_some_bounds" (defArgs st__law_some_bounds) (defBody st__law_some_bounds) (defScope st__law_some_bounds) .none kV__law_some_bounds dc__law_some_bounds pm__law_some_bounds an__law_some_bounds cd__law_some_bounds ct__law_some_bounds), sl__law_some_bounds⟩)
    (c__law_some_bounds : PySem.W.codeIn K cd__law_some_bounds "_law_some_bounds" = true)
    (k__law_some_bounds : PySem.W.keepIn K (.ref f__law_some_bounds) = true)
    (a__law_drift : PySem.W.nsIn K mainGlobals "_law_drift" = some (some (.ref f__law_drift)))
    (l__law_drift : K.lookup f__law_drift = some ⟨oc__law_drift, od__law_drift, .func (PySem.W.fnOf "_law_drift" "_law_drift" (defArgs st__law_drift) (defBody st__law_drift) (defScope st__law_drift) .none kV__law_drift dc__law_drift pm__law_drift an__law_drift cd__law_drift ct__law_drift), sl__law_drift⟩)
    (c__law_drift : PySem.W.codeIn K cd__law_drift "_law_drift" = true)
    (k__law_drift : PySem.W.keepIn K (.ref f__law_drift) = true)
    (a__law_refused : PySem.W.nsIn K mainGlobals "_law_refused" = some (some (.ref f__law_refused)))
    (l__law_refused : K.lookup f__law_refused = some ⟨oc__law_refused, od__law_refused, .func (PySem.W.fnOf "_law_refused" "_law_refused" (defArgs st__law_refused) (defBody st__law_refused) (defScope st__law_refused) .none kV__law_refused dc__law_refused pm__law_refused an__law_refused cd__law_refused ct__law_refused), sl__law_refused⟩)
    (c__law_refused : PySem.W.codeIn K cd__law_refused "_law_refused" = true)
    (k__law_refused : PySem.W.keepIn K (.ref f__law_refused) = true)
    (a_law : PySem.W.nsIn K mainGlobals "law" = some (some (.ref f_law)))
    (l_law : K.lookup f_law = some ⟨oc_law, od_law, .func (PySem.W.fnOf "law" "law" (defArgs st_law) (defBody st_law) (defScope st_law) .none kV_law dc_law pm_law an_law cd_law ct_law), sl_law⟩)
    (c_law : PySem.W.codeIn K cd_law "law" = true)
    (k_law : PySem.W.keepIn K (.ref f_law) = true)
    (b_abs : PySem.W.nsIn K mainGlobals "abs" = some none)
    (b_bool : PySem.W.nsIn K mainGlobals "bool" = some none)
    (b_int : PySem.W.nsIn K mainGlobals "int" = some none)
    (b_isinstance : PySem.W.nsIn K mainGlobals "isinstance" = some none)
    (b_len : PySem.W.nsIn K mainGlobals "len" = some none)
    (b_list : PySem.W.nsIn K mainGlobals "list" = some none)
    (b_max : PySem.W.nsIn K mainGlobals "max" = some none)
    (b_min : PySem.W.nsIn K mainGlobals "min" = some none)
    (b_range : PySem.W.nsIn K mainGlobals "range" = some none)
    (b_repr : PySem.W.nsIn K mainGlobals "repr" = some none)
    (b_tuple : PySem.W.nsIn K mainGlobals "tuple" = some none)
    (v_MOST_BOUND : PySem.W.nsIn K mainGlobals "MOST_BOUND" = some (some (.int (60) t_MOST_BOUND)))
    (ca_LeaseError : PySem.W.nsIn K mainGlobals "LeaseError" = some (some (.ref C_LeaseError)))
    (cx_LeaseError : K.lookup C_LeaseError = some (excClassObj nm_LeaseError qn_LeaseError C_LeaseError N_LeaseError bs_LeaseError [.type "ValueError", .type "Exception", .type "BaseException", .type "object"] true sn_LeaseError sub_LeaseError ab_LeaseError col_LeaseError dd_LeaseError m0_LeaseError m1_LeaseError m2_LeaseError m3_LeaseError m5_LeaseError "ValueError.__new__"))
    (sa_LeaseError : PySem.W.findIn K (.ref C_LeaseError) "__setattr__" = some (some (.builtin "object.__setattr__")))
    (ga_LeaseError : PySem.W.findIn K (.ref C_LeaseError) "__getattribute__" = some (some (.builtin "BaseException.__getattribute__")))
    (gg_LeaseError : PySem.W.findIn K (.ref C_LeaseError) "__getattr__" = some none)
    (nb_LeaseError : PySem.W.findIn K (.ref C_LeaseError) "value" = some none)
    (iC_LeaseError : PySem.W.findIn K (.ref C_LeaseError) "__init__" = some (some (.ref fI)))
    (kC_LeaseError : PySem.W.keepIn K (.ref C_LeaseError) = true)
    (eC_LeaseError : PySem.W.subIn K (.ref C_LeaseError) (.type "BaseException") = some true)
    (tC_LeaseError : PySem.W.typeIn K (.ref C_LeaseError) = some (.type "type"))
    (hC_LeaseError : PySem.W.hasDictIn K C_LeaseError = true)
    (mD_LeaseError : PySem.W.mroIn K C_LeaseError (.ref C_LeaseError) = some true)
    (sI_LeaseError : PySem.W.ks_superIn K C_LeaseError C_LeaseError "__init__" = some (some (.builtin "ValueError.__init__")))
    (sV_LeaseError : PySem.W.subIn K (.ref C_LeaseError) (.type "ValueError") = some true)
    (sD_LeaseError : PySem.W.subIn K (.ref C_LeaseError) (.ref C_LeaseError) = some true)
    (cC_LeaseError : PySem.W.findIn K (.ref C_LeaseError) "__class__" = some (some (.builtin "object.__class__")))
    (mO_LeaseError : PySem.W.mroIn K C_LeaseError (.type "object") = some true)
    (ca_InvalidNumber : PySem.W.nsIn K mainGlobals "InvalidNumber" = some (some (.ref C_InvalidNumber)))
    (cx_InvalidNumber : K.lookup C_InvalidNumber = some (excClassObj nm_InvalidNumber qn_InvalidNumber C_InvalidNumber N_InvalidNumber bs_InvalidNumber [.ref C_LeaseError, .type "ValueError", .type "Exception", .type "BaseException", .type "object"] true sn_InvalidNumber sub_InvalidNumber ab_InvalidNumber col_InvalidNumber dd_InvalidNumber m0_InvalidNumber m1_InvalidNumber m2_InvalidNumber m3_InvalidNumber m5_InvalidNumber "ValueError.__new__"))
    (sa_InvalidNumber : PySem.W.findIn K (.ref C_InvalidNumber) "__setattr__" = some (some (.builtin "object.__setattr__")))
    (ga_InvalidNumber : PySem.W.findIn K (.ref C_InvalidNumber) "__getattribute__" = some (some (.builtin "BaseException.__getattribute__")))
    (gg_InvalidNumber : PySem.W.findIn K (.ref C_InvalidNumber) "__getattr__" = some none)
    (nb_InvalidNumber : PySem.W.findIn K (.ref C_InvalidNumber) "value" = some none)
    (iC_InvalidNumber : PySem.W.findIn K (.ref C_InvalidNumber) "__init__" = some (some (.ref fI)))
    (kC_InvalidNumber : PySem.W.keepIn K (.ref C_InvalidNumber) = true)
    (eC_InvalidNumber : PySem.W.subIn K (.ref C_InvalidNumber) (.type "BaseException") = some true)
    (tC_InvalidNumber : PySem.W.typeIn K (.ref C_InvalidNumber) = some (.type "type"))
    (hC_InvalidNumber : PySem.W.hasDictIn K C_InvalidNumber = true)
    (mD_InvalidNumber : PySem.W.mroIn K C_InvalidNumber (.ref C_LeaseError) = some true)
    (sI_InvalidNumber : PySem.W.ks_superIn K C_InvalidNumber C_LeaseError "__init__" = some (some (.builtin "ValueError.__init__")))
    (sV_InvalidNumber : PySem.W.subIn K (.ref C_InvalidNumber) (.type "ValueError") = some true)
    (sD_InvalidNumber : PySem.W.subIn K (.ref C_InvalidNumber) (.ref C_LeaseError) = some true)
    (cC_InvalidNumber : PySem.W.findIn K (.ref C_InvalidNumber) "__class__" = some (some (.builtin "object.__class__")))
    (mO_InvalidNumber : PySem.W.mroIn K C_InvalidNumber (.type "object") = some true)
    (ca_InvalidBounds : PySem.W.nsIn K mainGlobals "InvalidBounds" = some (some (.ref C_InvalidBounds)))
    (cx_InvalidBounds : K.lookup C_InvalidBounds = some (excClassObj nm_InvalidBounds qn_InvalidBounds C_InvalidBounds N_InvalidBounds bs_InvalidBounds [.ref C_LeaseError, .type "ValueError", .type "Exception", .type "BaseException", .type "object"] true sn_InvalidBounds sub_InvalidBounds ab_InvalidBounds col_InvalidBounds dd_InvalidBounds m0_InvalidBounds m1_InvalidBounds m2_InvalidBounds m3_InvalidBounds m5_InvalidBounds "ValueError.__new__"))
    (sa_InvalidBounds : PySem.W.findIn K (.ref C_InvalidBounds) "__setattr__" = some (some (.builtin "object.__setattr__")))
    (ga_InvalidBounds : PySem.W.findIn K (.ref C_InvalidBounds) "__getattribute__" = some (some (.builtin "BaseException.__getattribute__")))
    (gg_InvalidBounds : PySem.W.findIn K (.ref C_InvalidBounds) "__getattr__" = some none)
    (nb_InvalidBounds : PySem.W.findIn K (.ref C_InvalidBounds) "value" = some none)
    (iC_InvalidBounds : PySem.W.findIn K (.ref C_InvalidBounds) "__init__" = some (some (.ref fI)))
    (kC_InvalidBounds : PySem.W.keepIn K (.ref C_InvalidBounds) = true)
    (eC_InvalidBounds : PySem.W.subIn K (.ref C_InvalidBounds) (.type "BaseException") = some true)
    (tC_InvalidBounds : PySem.W.typeIn K (.ref C_InvalidBounds) = some (.type "type"))
    (hC_InvalidBounds : PySem.W.hasDictIn K C_InvalidBounds = true)
    (mD_InvalidBounds : PySem.W.mroIn K C_InvalidBounds (.ref C_LeaseError) = some true)
    (sI_InvalidBounds : PySem.W.ks_superIn K C_InvalidBounds C_LeaseError "__init__" = some (some (.builtin "ValueError.__init__")))
    (sV_InvalidBounds : PySem.W.subIn K (.ref C_InvalidBounds) (.type "ValueError") = some true)
    (sD_InvalidBounds : PySem.W.subIn K (.ref C_InvalidBounds) (.ref C_LeaseError) = some true)
    (cC_InvalidBounds : PySem.W.findIn K (.ref C_InvalidBounds) "__class__" = some (some (.builtin "object.__class__")))
    (mO_InvalidBounds : PySem.W.mroIn K C_InvalidBounds (.type "object") = some true)
    (tI : PySem.W.typeIn K (.ref fI) = some (.type "function"))
    (lI : K.lookup fI = some ⟨ocI, odI, .func (PySem.W.ksFn "__init__" "LeaseError.__init__" (PySem.LeX.iA pI.a pI.b) (PySem.LeX.iB pI) PySem.LeX.iS .none .none dcI pmI anI (.ref cda) ctI cc), slI⟩)
    (cI : PySem.W.codeIn K (.ref cda) "LeaseError.__init__" = true)
    (lc : K.lookup cda = some ⟨ccl, cdd, .fields vsC, ccs⟩)
    (vc : vsC[2]? = some (.str fileC tfC))
    (fc : ((PySem.Challenge.pw_leasesall_k31_least_servers_and_clocks_t.main.file : Str) == fileC) = true)
    (ll : K.lookup cc = some ⟨cl, cld, .cell (some (.ref C_LeaseError)), csl⟩)
    (isD : PySem.W.isClsIn K C_LeaseError = true)
    (nsu : PySem.W.nsIn K mainGlobals "super" = some none)
    (any : PySem.W.nsIn K cStatics "thirdparty.any" = some none)
    (gs : PySem.W.specialIn K (.builtin "object.__class__") "__get__" = some (some (.builtin "getset_descriptor.__get__")))
    (tk : PySem.W.takesIn K (.builtin "object.__class__") = some true)
    (kn_InvalidNumber : PySem.W.kitOne K (.type "NoneType") (.ref C_InvalidNumber) = some false)
    (kk_LeaseError_InvalidNumber : PySem.W.kitOne K (.ref C_LeaseError) (.ref C_InvalidNumber) = some false)
    (kk_InvalidNumber_InvalidNumber : PySem.W.kitOne K (.ref C_InvalidNumber) (.ref C_InvalidNumber) = some true)
    (kk_InvalidBounds_InvalidNumber : PySem.W.kitOne K (.ref C_InvalidBounds) (.ref C_InvalidNumber) = some false)
    : ∃ fd : FuncData, (∀ (s : Shared) (u : Value), BindsTo s fd ⟨[u], []⟩ [("script", u)]) ∧ ∀ base : Heap, K.In base → base.Ns mainGlobals mg → FnOkG PySem.Challenge.pw_leasesall_k31_least_servers_and_clocks_t w K mg base (L2.CX PySem.Challenge.pw_leasesall_k31_least_servers_and_clocks_t w) 6 fa fd ["script"] (spLaw K) := by
  have e := hfa.symm.trans (PySem.W.mg_of X G a_law)
  cases e
  have F_is_integer := fun_mk (st := st_is_integer) l_is_integer c_is_integer k_is_integer
  have F_is_between := fun_mk (st := st_is_between) l_is_between c_is_between k_is_between
  have F_is_tuple := fun_mk (st := st_is_tuple) l_is_tuple c_is_tuple k_is_tuple
  have F_need_number := fun_mk (st := st_need_number) l_need_number c_need_number k_need_number
  have F_are_bounds := fun_mk (st := st_are_bounds) l_are_bounds c_are_bounds k_are_bounds
  have F_need_bounds := fun_mk (st := st_need_bounds) l_need_bounds c_need_bounds k_need_bounds
  have F_lease_is_safe := fun_mk (st := st_lease_is_safe) l_lease_is_safe c_lease_is_safe k_lease_is_safe
  have F_least_server := fun_mk (st := st_least_server) l_least_server c_least_server k_least_server
  have F_drifted := fun_mk (st := st_drifted) l_drifted c_drifted k_drifted
  have F__law_well := fun_mk (st := st__law_well) l__law_well c__law_well k__law_well
  have F__law_draw := fun_mk (st := st__law_draw) l__law_draw c__law_draw k__law_draw
  have F__law_some_bounds := fun_mk (st := st__law_some_bounds) l__law_some_bounds c__law_some_bounds k__law_some_bounds
  have F__law_drift := fun_mk (st := st__law_drift) l__law_drift c__law_drift k__law_drift
  have F__law_refused := fun_mk (st := st__law_refused) l__law_refused c__law_refused k__law_refused
  have F_law := fun_mk (st := st_law) l_law c_law k_law
  have lc_LeaseError : PySem.LeX.LcTxt K C_LeaseError fI C_LeaseError := { cls := ⟨nm_LeaseError, qn_LeaseError, N_LeaseError, bs_LeaseError, _, sn_LeaseError, sub_LeaseError, ab_LeaseError, col_LeaseError, dd_LeaseError, m0_LeaseError, m1_LeaseError, m2_LeaseError, m3_LeaseError, m5_LeaseError, cx_LeaseError, by first | rfl | decide +kernel⟩, sa := sa_LeaseError, ga := ga_LeaseError, gg := gg_LeaseError, noN := nb_LeaseError, iC := iC_LeaseError, tC := tI, kC := kC_LeaseError, exC := eC_LeaseError, tyC := tC_LeaseError, hdC := hC_LeaseError, suD := mD_LeaseError, suI := sI_LeaseError, suV := sV_LeaseError }
  have xc_LeaseError : ExcC K C_LeaseError := ⟨ga_LeaseError, gg_LeaseError, eC_LeaseError, hC_LeaseError, cC_LeaseError, gs, tk, mO_LeaseError⟩
  have xf_LeaseError : XfC K C_LeaseError := ⟨ga_LeaseError, gg_LeaseError, eC_LeaseError, hC_LeaseError⟩
  have g_LeaseError := PySem.W.mg_of X G ca_LeaseError
  have lc_InvalidNumber : PySem.LeX.LcTxt K C_LeaseError fI C_InvalidNumber := { cls := ⟨nm_InvalidNumber, qn_InvalidNumber, N_InvalidNumber, bs_InvalidNumber, _, sn_InvalidNumber, sub_InvalidNumber, ab_InvalidNumber, col_InvalidNumber, dd_InvalidNumber, m0_InvalidNumber, m1_InvalidNumber, m2_InvalidNumber, m3_InvalidNumber, m5_InvalidNumber, cx_InvalidNumber, by first | rfl | decide +kernel⟩, sa := sa_InvalidNumber, ga := ga_InvalidNumber, gg := gg_InvalidNumber, noN := nb_InvalidNumber, iC := iC_InvalidNumber, tC := tI, kC := kC_InvalidNumber, exC := eC_InvalidNumber, tyC := tC_InvalidNumber, hdC := hC_InvalidNumber, suD := mD_InvalidNumber, suI := sI_InvalidNumber, suV := sV_InvalidNumber }
  have xc_InvalidNumber : ExcC K C_InvalidNumber := ⟨ga_InvalidNumber, gg_InvalidNumber, eC_InvalidNumber, hC_InvalidNumber, cC_InvalidNumber, gs, tk, mO_InvalidNumber⟩
  have xf_InvalidNumber : XfC K C_InvalidNumber := ⟨ga_InvalidNumber, gg_InvalidNumber, eC_InvalidNumber, hC_InvalidNumber⟩
  have g_InvalidNumber := PySem.W.mg_of X G ca_InvalidNumber
  have lc_InvalidBounds : PySem.LeX.LcTxt K C_LeaseError fI C_InvalidBounds := { cls := ⟨nm_InvalidBounds, qn_InvalidBounds, N_InvalidBounds, bs_InvalidBounds, _, sn_InvalidBounds, sub_InvalidBounds, ab_InvalidBounds, col_InvalidBounds, dd_InvalidBounds, m0_InvalidBounds, m1_InvalidBounds, m2_InvalidBounds, m3_InvalidBounds, m5_InvalidBounds, cx_InvalidBounds, by first | rfl | decide +kernel⟩, sa := sa_InvalidBounds, ga := ga_InvalidBounds, gg := gg_InvalidBounds, noN := nb_InvalidBounds, iC := iC_InvalidBounds, tC := tI, kC := kC_InvalidBounds, exC := eC_InvalidBounds, tyC := tC_InvalidBounds, hdC := hC_InvalidBounds, suD := mD_InvalidBounds, suI := sI_InvalidBounds, suV := sV_InvalidBounds }
  have xc_InvalidBounds : ExcC K C_InvalidBounds := ⟨ga_InvalidBounds, gg_InvalidBounds, eC_InvalidBounds, hC_InvalidBounds, cC_InvalidBounds, gs, tk, mO_InvalidBounds⟩
  have xf_InvalidBounds : XfC K C_InvalidBounds := ⟨ga_InvalidBounds, gg_InvalidBounds, eC_InvalidBounds, hC_InvalidBounds⟩
  have g_InvalidBounds := PySem.W.mg_of X G ca_InvalidBounds
  have byCls : ∀ (Φ : Str → Addr → Prop), Φ "LeaseError" C_LeaseError ∧ Φ "InvalidNumber" C_InvalidNumber ∧ Φ "InvalidBounds" C_InvalidBounds → ∀ (y : Str) (C : Addr), isCls y = true → mg y = some (.ref C) → Φ y C := fun Φ h y C hy hC => by
    have hy2 : y ∈ clsNs := by simpa [isCls] using hy
    simp only [clsNs, List.mem_cons, List.not_mem_nil, or_false] at hy2
    obtain ⟨h_LeaseError, h_InvalidNumber, h_InvalidBounds⟩ := h
    rcases hy2 with rfl | rfl | rfl
    · have e := hC.symm.trans g_LeaseError; cases e; exact h_LeaseError
    · have e := hC.symm.trans g_InvalidNumber; cases e; exact h_InvalidNumber
    · have e := hC.symm.trans g_InvalidBounds; cases e; exact h_InvalidBounds
  have T : Txt PySem.Challenge.pw_leasesall_k31_least_servers_and_clocks_t K mg ⟨fI, C_LeaseError, C_InvalidNumber, C_InvalidBounds, f_is_integer, f_is_between, f_is_tuple, f_need_number, f_are_bounds, f_need_bounds, f_lease_is_safe, f_least_server, f_drifted, f__law_well, f__law_draw, f__law_some_bounds, f__law_drift, f__law_refused, fa⟩ ⟨_, _, _, _, _, _, _, _, _, _, _, _, _, _, _⟩ := {
    f_is_integer := F_is_integer, g_is_integer := PySem.W.mg_of X G a_is_integer,
    f_is_between := F_is_between, g_is_between := PySem.W.mg_of X G a_is_between,
    f_is_tuple := F_is_tuple, g_is_tuple := PySem.W.mg_of X G a_is_tuple,
    f_need_number := F_need_number, g_need_number := PySem.W.mg_of X G a_need_number,
    f_are_bounds := F_are_bounds, g_are_bounds := PySem.W.mg_of X G a_are_bounds,
    f_need_bounds := F_need_bounds, g_need_bounds := PySem.W.mg_of X G a_need_bounds,
    f_lease_is_safe := F_lease_is_safe, g_lease_is_safe := PySem.W.mg_of X G a_lease_is_safe,
    f_least_server := F_least_server, g_least_server := PySem.W.mg_of X G a_least_server,
    f_drifted := F_drifted, g_drifted := PySem.W.mg_of X G a_drifted,
    f__law_well := F__law_well, g__law_well := PySem.W.mg_of X G a__law_well,
    f__law_draw := F__law_draw, g__law_draw := PySem.W.mg_of X G a__law_draw,
    f__law_some_bounds := F__law_some_bounds, g__law_some_bounds := PySem.W.mg_of X G a__law_some_bounds,
    f__law_drift := F__law_drift, g__law_drift := PySem.W.mg_of X G a__law_drift,
    f__law_refused := F__law_refused, g__law_refused := PySem.W.mg_of X G a__law_refused,
    f_law := F_law, g_law := PySem.W.mg_of X G a_law,
    b_abs := PySem.W.mg_none_of X G b_abs,
    b_bool := PySem.W.mg_none_of X G b_bool,
    b_int := PySem.W.mg_none_of X G b_int,
    b_isinstance := PySem.W.mg_none_of X G b_isinstance,
    b_len := PySem.W.mg_none_of X G b_len,
    b_list := PySem.W.mg_none_of X G b_list,
    b_max := PySem.W.mg_none_of X G b_max,
    b_min := PySem.W.mg_none_of X G b_min,
    b_range := PySem.W.mg_none_of X G b_range,
    b_repr := PySem.W.mg_none_of X G b_repr,
    b_tuple := PySem.W.mg_none_of X G b_tuple,
    c_MOST_BOUND := ⟨_, PySem.W.mg_of X G v_MOST_BOUND⟩,
    le := { fn := ⟨cc, cda, _, _, _, _, _, _, _, pI, lI, cI, ⟨_, _, _, _, _, _, lc, vc, fc⟩, _, _, _, ll⟩, isD := isD, sup := PySem.W.mg_none_of X G nsu, any := any, top := by decide +kernel },
    lc_LeaseError := lc_LeaseError, k_LeaseError := g_LeaseError,
    lc_InvalidNumber := lc_InvalidNumber, k_InvalidNumber := g_InvalidNumber,
    lc_InvalidBounds := lc_InvalidBounds, k_InvalidBounds := g_InvalidBounds,
    nn_InvalidNumber := fun d b hb => (by cases d <;> first | (cases hb; exact kn_InvalidNumber) | cases hb),
    ie_InvalidNumber := fun y b C hb hC => (by
        unfold isEx at hb
        split at hb
        · rename_i hy
          cases hb
          exact byCls (fun y C => ExcC K C ∧ PySem.W.kitOne K (.ref C) (.ref C_InvalidNumber) = some (("InvalidNumber" : Str) == y || ("InvalidNumber" : Str) == ("LeaseError" : Str))) ⟨⟨xc_LeaseError, kk_LeaseError_InvalidNumber⟩, ⟨xc_InvalidNumber, kk_InvalidNumber_InvalidNumber⟩, ⟨xc_InvalidBounds, kk_InvalidBounds_InvalidNumber⟩⟩ y C hy hC
        · cases hb),
    caOk := fun y b C hb hC => (by
        unfold isCls2 at hb
        split at hb
        · rename_i hy
          cases hb
          exact byCls (fun y C => PySem.W.exmOne K (.ref C) (.ref C_LeaseError) = some true) ⟨PySem.W.exm_ref eC_LeaseError hC_LeaseError tC_LeaseError sD_LeaseError, PySem.W.exm_ref eC_LeaseError hC_LeaseError tC_LeaseError sD_InvalidNumber, PySem.W.exm_ref eC_LeaseError hC_LeaseError tC_LeaseError sD_InvalidBounds⟩ y C hy hC
        · cases hb),
    valOk := fun y C hy hC => byCls (fun y C => XfC K C ∧ PySem.W.findIn K (.ref C) "value" = some none) ⟨⟨xf_LeaseError, nb_LeaseError⟩, ⟨xf_InvalidNumber, nb_InvalidNumber⟩, ⟨xf_InvalidBounds, nb_InvalidBounds⟩⟩ y C hy hC }
  exact ⟨_, fun s u => .of_eq rfl, fun base _ _ => (ok_law T).imp spLaw_imp⟩
end LK
open PySem PySem.W PyProof.Rows in
set_option maxRecDepth 100000 in
set_option maxHeartbeats 0 in
theorem PySem.Challenge.cw_leasesall_k31_least_servers_and_clocks_t_holds : PySem.Challenge.rw_leasesall_k31_least_servers_and_clocks_t.Holds := by
  w_on; o_law; k_head; (case hw => w_witness2)
  k_fill
  refine LK.walk (l := PySem.Challenge.rw_leasesall_k31_least_servers_and_clocks_t) rfl rfl (fun w h Y => PySem.W.kIn_of Y) ?F
  case F =>
    intro w mg fa h KX G hmg
    refine' LK.all_mk KX G hmg ⟨⟨4, 17, 4, 21⟩, ⟨4, 23, 4, 28⟩, ⟨5, 8, 5, 13⟩, ⟨5, 8, 5, 15⟩, ⟨5, 8, 5, 24⟩, ⟨5, 25, 5, 36⟩, ⟨5, 8, 5, 37⟩, ⟨5, 8, 5, 37⟩, ⟨6, 8, 6, 12⟩, ⟨6, 8, 6, 18⟩, ⟨6, 21, 6, 26⟩, ⟨6, 8, 6, 26⟩, by decide⟩ ?a_is_integer ?l_is_integer ?c_is_integer ?k_is_integer ?a_is_between ?l_is_between ?c_is_between ?k_is_between ?a_is_tuple ?l_is_tuple ?c_is_tuple ?k_is_tuple ?a_need_number ?l_need_number ?c_need_number ?k_need_number ?a_are_bounds ?l_are_bounds ?c_are_bounds ?k_are_bounds ?a_need_bounds ?l_need_bounds ?c_need_bounds ?k_need_bounds ?a_lease_is_safe ?l_lease_is_safe ?c_lease_is_safe ?k_lease_is_safe ?a_least_server ?l_least_server ?c_least_server ?k_least_server ?a_drifted ?l_drifted ?c_drifted ?k_drifted ?a__law_well ?l__law_well ?c__law_well ?k__law_well ?a__law_draw ?l__law_draw ?c__law_draw ?k__law_draw ?a__law_some_bounds ?l__law_some_bounds ?c__law_some_bounds ?k__law_some_bounds ?a__law_drift ?l__law_drift ?c__law_drift ?k__law_drift ?a__law_refused ?l__law_refused ?c__law_refused ?k__law_refused ?a_law ?l_law ?c_law ?k_law ?b_abs ?b_bool ?b_int ?b_isinstance ?b_len ?b_list ?b_max ?b_min ?b_range ?b_repr ?b_tuple ?v_MOST_BOUND ?ca_LeaseError ?cx_LeaseError ?sa_LeaseError ?ga_LeaseError ?gg_LeaseError ?nb_LeaseError ?iC_LeaseError ?kC_LeaseError ?eC_LeaseError ?tC_LeaseError ?hC_LeaseError ?mD_LeaseError ?sI_LeaseError ?sV_LeaseError ?sD_LeaseError ?cC_LeaseError ?mO_LeaseError ?ca_InvalidNumber ?cx_InvalidNumber ?sa_InvalidNumber ?ga_InvalidNumber ?gg_InvalidNumber ?nb_InvalidNumber ?iC_InvalidNumber ?kC_InvalidNumber ?eC_InvalidNumber ?tC_InvalidNumber ?hC_InvalidNumber ?mD_InvalidNumber ?sI_InvalidNumber ?sV_InvalidNumber ?sD_InvalidNumber ?cC_InvalidNumber ?mO_InvalidNumber ?ca_InvalidBounds ?cx_InvalidBounds ?sa_InvalidBounds ?ga_InvalidBounds ?gg_InvalidBounds ?nb_InvalidBounds ?iC_InvalidBounds ?kC_InvalidBounds ?eC_InvalidBounds ?tC_InvalidBounds ?hC_InvalidBounds ?mD_InvalidBounds ?sI_InvalidBounds ?sV_InvalidBounds ?sD_InvalidBounds ?cC_InvalidBounds ?mO_InvalidBounds ?tI ?lI ?cI ?lc ?vc ?fc ?ll ?isD ?nsu ?any ?gs ?tk ?kn_InvalidNumber ?kk_LeaseError_InvalidNumber ?kk_InvalidNumber_InvalidNumber ?kk_InvalidBounds_InvalidNumber
    (case a_is_integer => k_is)
    (case l_is_integer => k_is)
    (case c_is_integer => k_is)
    (case k_is_integer => k_is)
    (case a_is_between => k_is)
    (case l_is_between => k_is)
    (case c_is_between => k_is)
    (case k_is_between => k_is)
    (case a_is_tuple => k_is)
    (case l_is_tuple => k_is)
    (case c_is_tuple => k_is)
    (case k_is_tuple => k_is)
    (case a_need_number => k_is)
    (case l_need_number => k_is)
    (case c_need_number => k_is)
    (case k_need_number => k_is)
    (case a_are_bounds => k_is)
    (case l_are_bounds => k_is)
    (case c_are_bounds => k_is)
    (case k_are_bounds => k_is)
    (case a_need_bounds => k_is)
    (case l_need_bounds => k_is)
    (case c_need_bounds => k_is)
    (case k_need_bounds => k_is)
    (case a_lease_is_safe => k_is)
    (case l_lease_is_safe => k_is)
    (case c_lease_is_safe => k_is)
    (case k_lease_is_safe => k_is)
    (case a_least_server => k_is)
    (case l_least_server => k_is)
    (case c_least_server => k_is)
    (case k_least_server => k_is)
    (case a_drifted => k_is)
    (case l_drifted => k_is)
    (case c_drifted => k_is)
    (case k_drifted => k_is)
    (case a__law_well => k_is)
    (case l__law_well => k_is)
    (case c__law_well => k_is)
    (case k__law_well => k_is)
    (case a__law_draw => k_is)
    (case l__law_draw => k_is)
    (case c__law_draw => k_is)
    (case k__law_draw => k_is)
    (case a__law_some_bounds => k_is)
    (case l__law_some_bounds => k_is)
    (case c__law_some_bounds => k_is)
    (case k__law_some_bounds => k_is)
    (case a__law_drift => k_is)
    (case l__law_drift => k_is)
    (case c__law_drift => k_is)
    (case k__law_drift => k_is)
    (case a__law_refused => k_is)
    (case l__law_refused => k_is)
    (case c__law_refused => k_is)
    (case k__law_refused => k_is)
    (case a_law => k_is)
    (case l_law => k_is)
    (case c_law => k_is)
    (case k_law => k_is)
    (case b_abs => k_is)
    (case b_bool => k_is)
    (case b_int => k_is)
    (case b_isinstance => k_is)
    (case b_len => k_is)
    (case b_list => k_is)
    (case b_max => k_is)
    (case b_min => k_is)
    (case b_range => k_is)
    (case b_repr => k_is)
    (case b_tuple => k_is)
    (case v_MOST_BOUND => k_is)
    (case ca_LeaseError => k_is)
    (case cx_LeaseError => k_is)
    (case sa_LeaseError => k_is)
    (case ga_LeaseError => k_is)
    (case gg_LeaseError => k_is)
    (case nb_LeaseError => k_is)
    (case iC_LeaseError => k_is)
    (case kC_LeaseError => k_is)
    (case eC_LeaseError => k_is)
    (case tC_LeaseError => k_is)
    (case hC_LeaseError => k_is)
    (case mD_LeaseError => k_is)
    (case sI_LeaseError => ks_is)
    (case sV_LeaseError => k_is)
    (case sD_LeaseError => first | rfl | k_is)
    (case cC_LeaseError => k_is)
    (case mO_LeaseError => k_is)
    (case ca_InvalidNumber => k_is)
    (case cx_InvalidNumber => k_is)
    (case sa_InvalidNumber => k_is)
    (case ga_InvalidNumber => k_is)
    (case gg_InvalidNumber => k_is)
    (case nb_InvalidNumber => k_is)
    (case iC_InvalidNumber => k_is)
    (case kC_InvalidNumber => k_is)
    (case eC_InvalidNumber => k_is)
    (case tC_InvalidNumber => k_is)
    (case hC_InvalidNumber => k_is)
    (case mD_InvalidNumber => k_is)
    (case sI_InvalidNumber => ks_is)
    (case sV_InvalidNumber => k_is)
    (case sD_InvalidNumber => k_is)
    (case cC_InvalidNumber => k_is)
    (case mO_InvalidNumber => k_is)
    (case ca_InvalidBounds => k_is)
    (case cx_InvalidBounds => k_is)
    (case sa_InvalidBounds => k_is)
    (case ga_InvalidBounds => k_is)
    (case gg_InvalidBounds => k_is)
    (case nb_InvalidBounds => k_is)
    (case iC_InvalidBounds => k_is)
    (case kC_InvalidBounds => k_is)
    (case eC_InvalidBounds => k_is)
    (case tC_InvalidBounds => k_is)
    (case hC_InvalidBounds => k_is)
    (case mD_InvalidBounds => k_is)
    (case sI_InvalidBounds => ks_is)
    (case sV_InvalidBounds => k_is)
    (case sD_InvalidBounds => k_is)
    (case cC_InvalidBounds => k_is)
    (case mO_InvalidBounds => k_is)
    (case tI => k_is)
    (case lI => k_is)
    (case cI => k_is)
    (case lc => k_is)
    (case vc => first | rfl | decide +kernel)
    (case fc => first | rfl | decide +kernel)
    (case ll => k_is)
    (case isD => k_is)
    (case nsu => k_is)
    (case any => k_is)
    (case gs => k_is)
    (case tk => k_is)
    (case kn_InvalidNumber => kit_is)
    (case kk_LeaseError_InvalidNumber => kit_is)
    (case kk_InvalidNumber_InvalidNumber => kit_is)
    (case kk_InvalidBounds_InvalidNumber => kit_is)

