import PyProof.Rows.All
import Wide.All
import OpenK.AllK
import Wide.FinOn
import PyProof.EqAt
import PyProof.EqKinds
import PyProof.TupleCall
import HandS.ForMost
import HandS.ForExc
import HandS.Wide
import HandS.Dict
import HandS.DictTup
import KE.KDictKeyed
import KE.KeyNested
import HandS.IsInst
import HandS.TupAny
import HandS.TupMul
import HandS.Conv
import HandS.Zip
import KE.KExcSuper
import KE.KExcIs
import HandS.ExcIs
import HandS.ExcField
import HandS.Ends
import HandS.ExcOwn
import HandS.WordsExc
import HandS.Spec
import HandS.RaiseMore
import HandS.List
import HandS.Style
import HandS.Deep
import HandS.Iter
import HandS.WideMore
import PyProof.ListMulAny
import KE.SortData
import PyProof.TupleOfSeq
import HandS.TupLe
import PySem.Challenge.RW_leasesall_k57_fences
set_option Elab.async false
set_option linter.all false
set_option maxRecDepth 100000
set_option maxHeartbeats 4000000
/-! DL1: the data layer's ground. Data d : D (PyData) of a value v in a heap F that only grows (Rp); slots and temporaries hold frozen data or an owned list (DV); the relation Rl of such an environment with the hand layer's slots and abstract heap; the monad M. -/
namespace DL
open PySem PySem.Spec PyProof.Rows L2

abbrev D := PyData
/-- the kept part, the module's names -/
structure Frag where
  K : PySem.W.Frag
  G : Str → Option Value
  pg : Program
  wd : World

/-! ### keys of data -/
mutual
def nkD : D → Option NestedKey
  | .none => some .none
  | .int i => some (.num i)
  | .str x => some (.text x)
  | .tuple ds => (nkAll ds).map NestedKey.tup
  | .bool _ => none
  | .list _ => none
  | .dict _ => none
def nkAll : List D → Option (List NestedKey)
  | [] => some []
  | d :: ds => match nkD d, nkAll ds with
    | some k, some ks => some (k :: ks)
    | _, _ => none
end
/-- the key that a tuple is -/
def tkD : D → Option NestedKey
  | .tuple ds => match nkAll ds with
    | some ks => if (NestedKey.tup ks).depth ≤ 8 then some (.tup ks) else none
    | none => none
  | _ => none

/-! ### dicts whose keys are tuples -/
abbrev TEn := NestedKey × Addr × V
def TRel (e : TEn) (x : NestedKey × Addr × Value) : Prop := e.1 = x.1 ∧ e.2.1 = x.2.1 ∧ RelV e.2.2 x.2.2
def TkO (P : Program) (w : World) (a : Addr) (es : List TEn) : HO := .ext fun h => es.length ≤ sizeLine ∧ (a == sysModules) = false ∧ ∃ xs : List (NestedKey × Addr × Value), Paired TRel es xs ∧ ∃ o ds ep, h.get? a = some o ∧ o.ExactDict ∧ o.data = .dict ds ep ∧ ds.toList = xs.map (entryOfKey (nestedKind P w)) ∧ (xs.map (·.1)).Nodup

/-! ### data in a heap -/
mutual
inductive Rp (K : Frag) (F : Hp) : V → D → Prop
  | non : Rp K F .non .none
  | bl (b : Bool) : Rp K F (.bl b) (.bool b)
  | int (i : Int) : Rp K F (.int i) (.int i)
  | str (x : Str) : Rp K F (.str x) (.str x)
  | lst {a : Addr} {xs : List V} {ds : List D} : SqL K.K F a xs → RpAll K F xs ds → Rp K F (.ref a) (.list ds)
  | tup {a : Addr} {xs : List V} {ds : List D} : SqT K.K F a xs → RpAll K F xs ds → Rp K F (.ref a) (.tuple ds)
  | dic {a : Addr} {kvs : List (Key × V)} {ds : List (D × D)} : Rd F a (.dK kvs) → RpKv K F kvs ds → Rp K F (.ref a) (.dict ds)
  | dit {a : Addr} {es : List TEn} {ds : List (D × D)} : F a = some (TkO K.pg K.wd a es) → RpTk K F es ds → Rp K F (.ref a) (.dict ds)
inductive RpAll (K : Frag) (F : Hp) : List V → List D → Prop
  | nil : RpAll K F [] []
  | cons {v : V} {vs : List V} {d : D} {ds : List D} : Rp K F v d → RpAll K F vs ds → RpAll K F (v :: vs) (d :: ds)
inductive RpKv (K : Frag) (F : Hp) : List (Key × V) → List (D × D) → Prop
  | nil : RpKv K F [] []
  | int {i : Int} {v : V} {kvs : List (Key × V)} {d : D} {ds : List (D × D)} : Rp K F v d → RpKv K F kvs ds → RpKv K F ((.inl i, v) :: kvs) ((.int i, d) :: ds)
  | str {x : Str} {v : V} {kvs : List (Key × V)} {d : D} {ds : List (D × D)} : Rp K F v d → RpKv K F kvs ds → RpKv K F ((.inr x, v) :: kvs) ((.str x, d) :: ds)
inductive RpTk (K : Frag) (F : Hp) : List TEn → List (D × D) → Prop
  | nil : RpTk K F [] []
  | cons {k : NestedKey} {b : Addr} {v : V} {es : List TEn} {kd d : D} {ds : List (D × D)} : Rp K F (.ref b) kd → tkD kd = some k → Rp K F v d → RpTk K F es ds → RpTk K F ((k, b, v) :: es) ((kd, d) :: ds)
end

section
variable {K : Frag} {F F' H : Hp}
theorem rd_mono {a : Addr} {u : HO} (e : Same F F') (h : Rd F a u) : Rd F' a u := by
  rcases h with h | ⟨o, h⟩
  · exact .inl (e _ _ h)
  · exact .inr ⟨o, e _ _ h⟩
theorem sql_mono {K : PySem.W.Frag} {a : Addr} {xs : List V} (e : Same F F') (h : SqL K F a xs) : SqL K F' a xs := by
  rcases h with (h | ⟨o, h⟩) | h
  · exact .inl (.inl (e _ _ h))
  · exact .inl (.inr ⟨o, e _ _ h⟩)
  · exact .inr h
theorem sqt_mono {K : PySem.W.Frag} {a : Addr} {xs : List V} (e : Same F F') (h : SqT K F a xs) : SqT K F' a xs := by
  rcases h with (h | ⟨o, h⟩) | h
  · exact .inl (.inl (e _ _ h))
  · exact .inl (.inr ⟨o, e _ _ h⟩)
  · exact .inr h
mutual
theorem Rp.mono (e : Same F F') : ∀ {v : V} {d : D}, Rp K F v d → Rp K F' v d
  | _, _, .non => .non
  | _, _, .bl b => .bl b
  | _, _, .int i => .int i
  | _, _, .str x => .str x
  | _, _, .lst h a => .lst (sql_mono e h) (RpAll.mono e a)
  | _, _, .tup h a => .tup (sqt_mono e h) (RpAll.mono e a)
  | _, _, .dic h a => .dic (rd_mono e h) (RpKv.mono e a)
  | _, _, .dit h a => .dit (e _ _ h) (RpTk.mono e a)
theorem RpAll.mono (e : Same F F') : ∀ {vs : List V} {ds : List D}, RpAll K F vs ds → RpAll K F' vs ds
  | _, _, .nil => .nil
  | _, _, .cons h t => .cons (Rp.mono e h) (RpAll.mono e t)
theorem RpKv.mono (e : Same F F') : ∀ {vs : List (Key × V)} {ds : List (D × D)}, RpKv K F vs ds → RpKv K F' vs ds
  | _, _, .nil => .nil
  | _, _, .int h t => .int (Rp.mono e h) (RpKv.mono e t)
  | _, _, .str h t => .str (Rp.mono e h) (RpKv.mono e t)
theorem RpTk.mono (e : Same F F') : ∀ {es : List TEn} {ds : List (D × D)}, RpTk K F es ds → RpTk K F' es ds
  | _, _, .nil => .nil
  | _, _, .cons k q v t => .cons (Rp.mono e k) q (Rp.mono e v) (RpTk.mono e t)
end
theorem RpAll.length : ∀ {vs : List V} {ds : List D}, RpAll K F vs ds → vs.length = ds.length
  | _, _, .nil => rfl
  | _, _, .cons _ t => by rw [List.length_cons, List.length_cons, RpAll.length t]
theorem RpAll.get : ∀ {vs : List V} {ds : List D} {i : Nat} {d : D}, RpAll K F vs ds → ds[i]? = some d → ∃ v, vs[i]? = some v ∧ Rp K F v d
  | _, _, _, _, .nil, e => by simp at e
  | _, _, 0, _, .cons h _, e => by
    simp at e; subst e; exact ⟨_, rfl, h⟩
  | _, _, i + 1, _, .cons _ t, e => by
    obtain ⟨v, e1, h1⟩ := RpAll.get (i := i) t (by simpa using e)
    exact ⟨v, by simpa using e1, h1⟩
theorem RpAll.get' : ∀ {vs : List V} {ds : List D} {i : Nat} {v : V}, RpAll K F vs ds → vs[i]? = some v → ∃ d, ds[i]? = some d ∧ Rp K F v d
  | _, _, _, _, .nil, e => by simp at e
  | _, _, 0, _, .cons h _, e => by
    simp at e; subst e; exact ⟨_, rfl, h⟩
  | _, _, i + 1, _, .cons _ t, e => by
    obtain ⟨v, e1, h1⟩ := RpAll.get' (i := i) t (by simpa using e)
    exact ⟨v, by simpa using e1, h1⟩
theorem RpAll.append : ∀ {vs : List V} {ds : List D} {ws : List V} {es : List D}, RpAll K F vs ds → RpAll K F ws es → RpAll K F (vs ++ ws) (ds ++ es)
  | _, _, _, _, .nil, h => h
  | _, _, _, _, .cons h t, u => .cons h (RpAll.append t u)
theorem RpAll.one {v : V} {d : D} (h : Rp K F v d) : RpAll K F [v] [d] := .cons h .nil
theorem RpAll.take : ∀ {vs : List V} {ds : List D} (n : Nat), RpAll K F vs ds → RpAll K F (vs.take n) (ds.take n)
  | _, _, 0, _ => by simpa using RpAll.nil
  | _, _, n + 1, .nil => by simpa using RpAll.nil
  | _, _, n + 1, .cons h t => by simpa using RpAll.cons h (RpAll.take n t)
theorem RpAll.drop : ∀ {vs : List V} {ds : List D} (n : Nat), RpAll K F vs ds → RpAll K F (vs.drop n) (ds.drop n)
  | _, _, 0, h => by simpa using h
  | _, _, n + 1, .nil => by simpa using RpAll.nil
  | _, _, n + 1, .cons _ t => by simpa using RpAll.drop n t
theorem RpAll.set : ∀ {vs : List V} {ds : List D} {v : V} {d : D} (n : Nat), RpAll K F vs ds → Rp K F v d → RpAll K F (vs.set n v) (ds.set n d)
  | _, _, _, _, _, .nil, _ => by simpa using RpAll.nil
  | _, _, _, _, 0, .cons _ t, h => by simpa using RpAll.cons h t
  | _, _, _, _, n + 1, .cons g t, h => by simpa using RpAll.cons g (RpAll.set n t h)
theorem RpAll.erase : ∀ {vs : List V} {ds : List D} (n : Nat), RpAll K F vs ds → RpAll K F (vs.eraseIdx n) (ds.eraseIdx n)
  | _, _, _, .nil => by simpa using RpAll.nil
  | _, _, 0, .cons _ t => by simpa using t
  | _, _, n + 1, .cons h t => by simpa using RpAll.cons h (RpAll.erase n t)
theorem RpAll.reverse {vs : List V} {ds : List D} (h : RpAll K F vs ds) : RpAll K F vs.reverse ds.reverse := by
  induction vs generalizing ds with
  | nil => cases h; exact .nil
  | cons v vs ih =>
    cases h with
    | cons h t => rw [List.reverse_cons, List.reverse_cons]; exact (ih t).append (.one h)
theorem RpAll.ints : ∀ (ns : List Int), RpAll K F (ns.map V.int) (ns.map PyData.int)
  | [] => .nil
  | n :: ns => .cons (.int n) (RpAll.ints ns)

/-! ### slots -/
/-- what an own object holds: a list, a dict -/
inductive OC where
  | l (ds : List D)
  | d (kvs : List (D × D))
def OC.data : OC → D
  | .l ds => .list ds
  | .d kvs => .dict kvs
/-- the object o at a holds c -/
def Hold (K : Frag) (F : Hp) (a : Addr) (o : Option HO) : OC → Prop
  | .l ds => ∃ xs, o = some (.lst xs) ∧ RpAll K F xs ds
  | .d kvs => (∃ ks, o = some (.dK ks) ∧ RpKv K F ks kvs) ∨ ∃ es, o = some (TkO K.pg K.wd a es) ∧ RpTk K F es kvs
theorem Hold.mono {a : Addr} {o : Option HO} {c : OC} (h : Hold K F a o c) (e : Same F F') : Hold K F' a o c := by
  cases c with
  | l ds => obtain ⟨xs, h1, h2⟩ := h; exact ⟨xs, h1, h2.mono e⟩
  | d kvs =>
    rcases h with ⟨ks, h1, h2⟩ | ⟨es, h1, h2⟩
    · exact .inl ⟨ks, h1, h2.mono e⟩
    · exact .inr ⟨es, h1, h2.mono e⟩
theorem Hold.there {a : Addr} {o : Option HO} {c : OC} (h : Hold K F a o c) : ∃ u, o = some u := by
  cases c with
  | l ds => obtain ⟨xs, h1, h2⟩ := h; exact ⟨_, h1⟩
  | d kvs =>
    rcases h with ⟨ks, h1, h2⟩ | ⟨es, h1, h2⟩
    · exact ⟨_, h1⟩
    · exact ⟨_, h1⟩
/-- the object as data, once it is frozen -/
theorem Hold.rp {a : Addr} {u : HO} {c : OC} (h : Hold K F a (some u) c) (e : Same F F') (hf : F' a = some u) : Rp K F' (.ref a) c.data := by
  cases c with
  | l ds => obtain ⟨xs, h1, h2⟩ := h; cases h1; exact .lst (.inl (.inl hf)) (h2.mono e)
  | d kvs =>
    rcases h with ⟨ks, h1, h2⟩ | ⟨es, h1, h2⟩
    · cases h1; exact .dic (.inl hf) (h2.mono e)
    · cases h1; exact .dit hf (h2.mono e)
/-- what a slot (or a temporary) holds: nothing, frozen data, an own object, one that the caller owns and lends, an exception -/
inductive DV where
  | un
  | dat (d : D)
  | ow (c : OC)
  | bo (c : OC)
  | exc (c : Str) (d : D)
abbrev DV.lst (ds : List D) : DV := .ow (.l ds)
abbrev DV.bor (ds : List D) : DV := .bo (.l ds)
abbrev DV.dic (ds : List (D × D)) : DV := .ow (.d ds)
/-- the content, where the slot owns or has borrowed an object -/
def DV.cont : DV → Option OC
  | .ow c => some c
  | .bo c => some c
  | _ => none
/-- the list's content -/
def DV.own : DV → Option (List D)
  | .ow (.l ds) => some ds
  | .bo (.l ds) => some ds
  | _ => none
def DV.isBor : DV → Bool
  | .bo _ => true
  | _ => false
theorem DV.cont_of {x : DV} {ds : List D} (h : x.own = some ds) : x.cont = some (.l ds) := by
  cases x with
  | ow c => cases c <;> simp_all [DV.own, DV.cont]
  | bo c => cases c <;> simp_all [DV.own, DV.cont]
  | _ => simp [DV.own] at h
theorem DV.cont_ne {x : DV} (h : x.own ≠ none) : x.cont ≠ none := by
  cases q : x.own with
  | none => exact absurd q h
  | some ds => rw [DV.cont_of q]; simp

/-- at a lies an exception of the class at C, its dict at dd -/
def ExK (C dd a : Addr) : HO := .ext fun h => ∃ (oe : Obj) (vs : Array Value), h.get? a = some oe ∧ Zc (.ref C) (some dd) oe ∧ oe.data = .fields vs
/-- the value v is an exception of the class named c about d -/
def ExAt (K : Frag) (F : Hp) (v : V) (c : Str) (d : D) : Prop := ∃ (a dd C : Addr) (w : V), v = .ref a ∧ K.G c = some (.ref C) ∧ F a = some (ExK C dd a) ∧ F dd = some (.xd [(("value" : Str), w)]) ∧ Rp K F w d
theorem ExAt.mono {v : V} {c : Str} {d : D} (e : Same F F') (h : ExAt K F v c d) : ExAt K F' v c d := by
  obtain ⟨a, dd, C, w, h1, h2, h3, h4, h5⟩ := h
  exact ⟨a, dd, C, w, h1, h2, e _ _ h3, e _ _ h4, h5.mono e⟩
def SlotOk (K : Frag) (F H : Hp) (v : Option V) : DV → Prop
  | .un => True
  | .dat d => ∃ x, v = some x ∧ Rp K F x d
  | .ow c => ∃ a, v = some (.ref a) ∧ F a = none ∧ Hold K F a (H a) c
  | .bo c => ∃ a, v = some (.ref a) ∧ F a = none ∧ Hold K F a (H a) c
  | .exc c d => ∃ x, v = some x ∧ ExAt K F x c d

/-- what stays the same within a body: the heap at the entry, the addresses of the lent lists -/
structure Ct where
  Hi : Hp
  F0 : Hp
  B : List (Nat × Addr)
def Ct.ads (c : Ct) : List Addr := c.B.map (·.2)

/-- the environment ρ (slots, then temporaries) lies at the places L in the heap H, its frozen data in F -/
structure Rl (K : Frag) (c : Ct) (F : Hp) (ρ : List DV) (L : List (Option V)) (H : Hp) : Prop where
  len : ρ.length = L.length
  sub : Same F H
  keep : ∀ b o, c.Hi b = some o → b ∉ c.ads → H b = some o
  slot : ∀ (i : Nat) (x : DV) (v : Option V), ρ[i]? = some x → L[i]? = some v → SlotOk K F H v x
  sep : ∀ (i j : Nat) (x y : DV) (a : Addr), ρ[i]? = some x → ρ[j]? = some y → x.cont ≠ none → y.cont ≠ none → L[i]? = some (some (.ref a)) → L[j]? = some (some (.ref a)) → i = j
  fresh : ∀ (i : Nat) (x : DV) (a : Addr), ρ[i]? = some x → x.cont ≠ none → L[i]? = some (some (.ref a)) → c.Hi a = none ∨ a ∈ c.ads
  nobor : ∀ (i : Nat) (oc : OC) (a : Addr), ρ[i]? = some (.ow oc) → L[i]? = some (some (.ref a)) → a ∉ c.ads
  lent : ∀ p ∈ c.B, (∃ ds, ρ[p.1]? = some (.bor ds)) ∧ L[p.1]? = some (some (.ref p.2))
  born : ∀ b o, F b = some o → c.F0 b = some o ∨ c.Hi b = none

theorem SlotOk.mono {v : Option V} {x : DV} {H' : Hp} (h : SlotOk K F H v x) (e : Same F F') (ho : ∀ a, v = some (.ref a) → x.cont ≠ none → F a = none → (∃ u, H a = some u) → F' a = none ∧ H' a = H a) : SlotOk K F' H' v x := by
  cases x with
  | un => trivial
  | dat d => obtain ⟨y, e1, h1⟩ := h; exact ⟨y, e1, h1.mono e⟩
  | ow oc =>
    obtain ⟨a, e1, e2, h1⟩ := h
    obtain ⟨g1, g2⟩ := ho a e1 (by simp [DV.cont]) e2 h1.there
    exact ⟨a, e1, g1, g2 ▸ h1.mono e⟩
  | bo oc =>
    obtain ⟨a, e1, e2, h1⟩ := h
    obtain ⟨g1, g2⟩ := ho a e1 (by simp [DV.cont]) e2 h1.there
    exact ⟨a, e1, g1, g2 ▸ h1.mono e⟩
  | exc c d => obtain ⟨y, e1, h1⟩ := h; exact ⟨y, e1, h1.mono e⟩
theorem SlotOk.holds {v : Option V} {x : DV} {oc : OC} (h : SlotOk K F H v x) (e : x.cont = some oc) : ∃ a, v = some (.ref a) ∧ F a = none ∧ Hold K F a (H a) oc := by
  cases x with
  | ow c => simp only [DV.cont, Option.some.injEq] at e; subst e; exact h
  | bo c => simp only [DV.cont, Option.some.injEq] at e; subst e; exact h
  | _ => simp [DV.cont] at e
theorem SlotOk.own {v : Option V} {x : DV} {ds : List D} (h : SlotOk K F H v x) (e : x.own = some ds) : ∃ a xs, v = some (.ref a) ∧ F a = none ∧ H a = some (.lst xs) ∧ RpAll K F xs ds := by
  obtain ⟨a, e1, e2, xs, e3, e4⟩ := h.holds (DV.cont_of e)
  exact ⟨a, xs, e1, e2, e3, e4⟩

/-! ### the relation goes on -/
section
variable {c : Ct} {ρ : List DV} {L : List (Option V)}
theorem Rl.lentAt {p : Addr} (R : Rl K c F ρ L H) (h : p ∈ c.ads) : ∃ u, H p = some u := by
  obtain ⟨q, hq, rfl⟩ := List.mem_map.mp h
  obtain ⟨⟨oc, e⟩, l⟩ := R.lent q hq
  obtain ⟨a, e1, _, e3⟩ := R.slot _ _ _ e l
  cases e1
  exact e3.there
theorem Rl.freshAt {p : Addr} (R : Rl K c F ρ L H) (hp : H p = none) : c.Hi p = none ∧ p ∉ c.ads := by
  have hB : p ∉ c.ads := fun z => by
    obtain ⟨xs, e⟩ := R.lentAt z
    rw [hp] at e; cases e
  refine ⟨?_, hB⟩
  cases q : c.Hi p with
  | none => rfl
  | some o => have := R.keep p o q hB; rw [hp] at this; cases this
/-- a new object that is frozen from the beginning -/
theorem Rl.new {p : Addr} {o : HO} (R : Rl K c F ρ L H) (hp : H p = none) : Rl K c (upd F p o) ρ L (upd H p o) := by
  have hF : F p = none := by
    cases q : F p with
    | none => rfl
    | some u => have := R.sub p u q; rw [hp] at this; cases this
  have eF : Same F (upd F p o) := fun b u q => by rw [upd_ne (ne_of_none q hF)]; exact q
  refine ⟨R.len, fun b u q => ?_, fun b u q n => ?_, fun i x v e1 e2 => ?_, R.sep, R.fresh, R.nobor, R.lent, fun b u q => ?_⟩
  · by_cases hb : b = p
    · subst hb; rw [upd_same] at q ⊢; exact q
    · rw [upd_ne hb] at q ⊢; exact R.sub b u q
  · rw [upd_ne (ne_of_none (R.keep b u q n) hp)]; exact R.keep b u q n
  · refine (R.slot i x v e1 e2).mono eF fun a _ _ h1 ⟨u, h2⟩ => ?_
    have : a ≠ p := ne_of_none h2 hp
    exact ⟨by rw [upd_ne this]; exact h1, by rw [upd_ne this]⟩
  · by_cases hb : b = p
    · exact .inr (hb ▸ (R.freshAt hp).1)
    · rw [upd_ne hb] at q; exact R.born b u q
/-- a new object, owned by a new temporary -/
theorem Rl.pushO {p : Addr} {o : HO} {oc : OC} (R : Rl K c F ρ L H) (hp : H p = none) (h : Hold K F p (some o) oc) : Rl K c F (ρ ++ [.ow oc]) (L ++ [some (.ref p)]) (upd H p o) := by
  have hF : F p = none := by
    cases q : F p with
    | none => rfl
    | some u => have := R.sub p u q; rw [hp] at this; cases this
  have at_ : ∀ {i : Nat} {x : DV}, (ρ ++ [DV.ow oc])[i]? = some x → (ρ[i]? = some x ∧ i < ρ.length) ∨ (i = ρ.length ∧ x = .ow oc) := fun {i x} e => by
    by_cases hi : i < ρ.length
    · rw [List.getElem?_append_left hi] at e; exact .inl ⟨e, hi⟩
    · rw [List.getElem?_append_right (by omega)] at e
      have : i - ρ.length = 0 := by
        cases q : i - ρ.length with
        | zero => rfl
        | succ k => rw [q] at e; simp at e
      rw [this] at e
      simp at e
      exact .inr ⟨by omega, e.symm⟩
  have lt_ : ∀ {i : Nat} {v : Option V}, i < ρ.length → (L ++ [some (V.ref p)])[i]? = some v → L[i]? = some v := fun {i v} hi e => by
    rw [List.getElem?_append_left (by rw [← R.len]; exact hi)] at e; exact e
  have last_ : ∀ {v : Option V}, (L ++ [some (V.ref p)])[ρ.length]? = some v → v = some (.ref p) := fun {v} e => by
    rw [R.len, List.getElem?_append_right (Nat.le_refl _)] at e
    simp at e
    exact e.symm
  have ne_ : ∀ {i : Nat} {x : DV} {a : Addr}, ρ[i]? = some x → x.cont ≠ none → L[i]? = some (some (.ref a)) → a ≠ p := fun {i x a} e o l => by
    cases q : x.cont with
    | none => exact absurd q o
    | some es =>
      obtain ⟨a', e1, _, e3⟩ := (R.slot i x _ e l).holds q
      cases e1
      obtain ⟨u, hu⟩ := e3.there
      exact ne_of_none hu hp
  obtain ⟨hi, hB⟩ := R.freshAt hp
  refine ⟨by rw [List.length_append, List.length_append, R.len] <;> rfl, fun b u q => ?_, fun b u q n => ?_, fun i x v e1 e2 => ?_, fun i j x y a e1 e2 o1 o2 l1 l2 => ?_, fun i x a e1 o1 l1 => ?_, fun i es a e1 l1 => ?_, fun q hq => ?_, R.born⟩
  · rw [upd_ne (ne_of_none (R.sub b u q) hp)]; exact R.sub b u q
  · rw [upd_ne (ne_of_none (R.keep b u q n) hp)]; exact R.keep b u q n
  · rcases at_ e1 with ⟨e1, hl⟩ | ⟨rfl, rfl⟩
    · refine (R.slot i x v e1 (lt_ hl e2)).mono (Same.refl F) fun a _ _ h1 ⟨u, h2⟩ => ⟨h1, ?_⟩
      rw [upd_ne (ne_of_none h2 hp)]
    · have := last_ e2
      subst this
      exact ⟨p, rfl, hF, by rw [upd_same]; exact h⟩
  · rcases at_ e1 with ⟨e1, hl1⟩ | ⟨rfl, rfl⟩
    · rcases at_ e2 with ⟨e2, hl2⟩ | ⟨rfl, rfl⟩
      · exact R.sep i j x y a e1 e2 o1 o2 (lt_ hl1 l1) (lt_ hl2 l2)
      · have q := last_ l2
        cases q
        exact absurd rfl (ne_ e1 o1 (lt_ hl1 l1))
    · rcases at_ e2 with ⟨e2, hl2⟩ | ⟨rfl, rfl⟩
      · have q := last_ l1
        cases q
        exact absurd rfl (ne_ e2 o2 (lt_ hl2 l2))
      · rfl
  · rcases at_ e1 with ⟨e1, hl1⟩ | ⟨rfl, rfl⟩
    · exact R.fresh i x a e1 o1 (lt_ hl1 l1)
    · have q := last_ l1
      cases q
      exact .inl hi
  · rcases at_ e1 with ⟨e1, hl1⟩ | ⟨rfl, q⟩
    · exact R.nobor i es a e1 (lt_ hl1 l1)
    · have q := last_ l1
      cases q
      exact hB
  · obtain ⟨⟨es, e⟩, l⟩ := R.lent q hq
    have h1 : q.1 < ρ.length := (List.getElem?_eq_some_iff.mp e).1
    exact ⟨⟨es, by rw [List.getElem?_append_left h1]; exact e⟩, by rw [List.getElem?_append_left (by rw [← R.len]; exact h1)]; exact l⟩
/-- a new list -/
theorem Rl.push {p : Addr} {xs : List V} {ds : List D} (R : Rl K c F ρ L H) (hp : H p = none) (h : RpAll K F xs ds) : Rl K c F (ρ ++ [.lst ds]) (L ++ [some (.ref p)]) (upd H p (.lst xs)) := R.pushO hp ⟨xs, rfl, h⟩
end
end
end DL

set_option Elab.async false
set_option linter.all false
set_option maxRecDepth 100000
set_option maxHeartbeats 4000000
/-! DL2: the monad M over environments, the judgements (tE, tT, tA, tS) and the rules of plain expressions. -/
namespace DL
open PySem PySem.Spec PyProof.Rows L2

abbrev St := L2.St
/-- an exception: its class's name, its value -/
abbrev Ex := Str × D
/-- a step: stuck, or a value or an exception, with the environment behind it -/
abbrev M (α : Type) := List DV → Option (Except Ex α × List DV)
namespace M
def ok {α : Type} (a : α) : M α := fun ρ => some (.ok a, ρ)
def no {α : Type} : M α := fun _ => none
def rais {α : Type} (x : Ex) : M α := fun ρ => some (.error x, ρ)
def bind {α β : Type} (m : M α) (k : α → M β) : M β := fun ρ => match m ρ with
  | none => none
  | some (.ok a, ρ') => k a ρ'
  | some (.error x, ρ') => some (.error x, ρ')
def opt {α : Type} (o : Option α) : M α := fun ρ => match o with
  | none => none
  | some a => some (.ok a, ρ)
end M
theorem M.bind_ok {α β : Type} {a : α} {k : α → M β} {ρ : List DV} : M.bind (M.ok a) k ρ = k a ρ := rfl
theorem M.bind_no {α β : Type} {k : α → M β} {ρ : List DV} : M.bind M.no k ρ = none := rfl

/-- an expression's value: data, or the list that the position p owns (or has borrowed) -/
inductive DR where
  | dat (d : D)
  | loc (p : Nat)
  | exc (c : Str) (d : D)
/-- its data now -/
def rd (r : DR) : M D := fun ρ => match r with
  | .dat d => some (.ok d, ρ)
  | .loc p => match (ρ[p]?).bind DV.cont with
    | some oc => some (.ok oc.data, ρ)
    | none => none
  | .exc _ _ => none

/-- the static part: the module's names, the wish about exceptions -/
structure Ps where
  K : Frag
  W : WX

def RefV (K : Frag) (F : Hp) (L : List (Option V)) (v : V) : DR → Prop
  | .dat d => Rp K F v d
  | .loc p => L[p]? = some (some v)
  | .exc c d => ExAt K F v c d
theorem RefV.mono {K : Frag} {F F' : Hp} {L : List (Option V)} {v : V} {r : DR} (h : RefV K F L v r) (e : Same F F') : RefV K F' L v r := by
  cases r with
  | dat d => exact Rp.mono e h
  | loc p => exact h
  | exc c d => exact ExAt.mono e h

/-- what is asked of an exception -/
def Er (P : Ps) (c : Ct) (F : Hp) (σ : St) (τ : List (Option V)) (x : Ex) (ρ : List DV) : Prop :=
  ∀ (F' H' : Hp) (C dd : Addr) (v : V), Same F F' → Rl P.K c F' ρ (σ ++ τ) H' → P.K.G x.1 = some (.ref C) → Rp P.K F' v x.2 → H' dd = some (.xd [(("value" : Str), v)]) → c.Hi dd = none → P.W (.ref C) (some dd) σ H'
theorem Er.mono {P : Ps} {c : Ct} {F F' : Hp} {σ : St} {τ : List (Option V)} {x : Ex} {ρ : List DV} (h : Er P c F σ τ x ρ) (e : Same F F') : Er P c F' σ τ x ρ :=
  fun F2 H' C dd v s => h F2 H' C dd v (e.trans s)

/-- the outcome o of a step that began in F, c, σ, τ -/
def Ho {α : Type} (P : Ps) (c : Ct) (F : Hp) (σ : St) (τ : List (Option V)) (o : Option (Except Ex α × List DV)) (Φ : α → List DV → Hp → Hp → Prop) : Prop := match o with
  | none => False
  | some (.ok a, ρ) => ∀ F' H', Same F F' → Rl P.K c F' ρ (σ ++ τ) H' → Φ a ρ F' H'
  | some (.error x, ρ) => Er P c F σ τ x ρ

def tE (P : Ps) (m : M DR) : TE := fun σ H Q => ∃ c F τ ρ, Rl P.K c F ρ (σ ++ τ) H ∧ Ho P c F σ τ (m ρ) fun r _ F' H' => ∀ v, RefV P.K F' (σ ++ τ) v r → Q v H'
def tT (P : Ps) (m : M Bool) : TT := fun σ H Q => ∃ c F τ ρ, Rl P.K c F ρ (σ ++ τ) H ∧ Ho P c F σ τ (m ρ) fun b _ _ H' => Q b H'
def tA (P : Ps) (m : M (List DR)) : TA := fun σ H Q => ∃ c F τ ρ, Rl P.K c F ρ (σ ++ τ) H ∧ Ho P c F σ τ (m ρ) fun rs _ F' H' => ∀ vs, Paired (RefV P.K F' (σ ++ τ)) vs rs → Q vs H'

theorem Ho.mono {α : Type} {P : Ps} {c : Ct} {F : Hp} {σ : St} {τ : List (Option V)} {o : Option (Except Ex α × List DV)} {Φ Ψ : α → List DV → Hp → Hp → Prop} (h : Ho P c F σ τ o Φ) (f : ∀ a ρ F' H', Same F F' → Rl P.K c F' ρ (σ ++ τ) H' → Φ a ρ F' H' → Ψ a ρ F' H') : Ho P c F σ τ o Ψ := by
  match o, h with
  | some (.ok a, ρ), h => exact fun F' H' e R => f a ρ F' H' e R (h F' H' e R)
  | some (.error x, ρ), h => exact h
theorem Ho.from {α : Type} {P : Ps} {c : Ct} {F F1 : Hp} {σ : St} {τ : List (Option V)} {o : Option (Except Ex α × List DV)} {Φ : α → List DV → Hp → Hp → Prop} (h : Ho P c F σ τ o Φ) (e : Same F F1) : Ho P c F1 σ τ o Φ := by
  match o, h with
  | some (.ok a, ρ), h => exact fun F' H' s R => h F' H' (e.trans s) R
  | some (.error x, ρ), h => exact Er.mono h e
/-- a step, then another one -/
theorem Ho.bind {α β : Type} {P : Ps} {c : Ct} {F : Hp} {σ : St} {τ : List (Option V)} {m : M α} {k : α → M β} {ρ : List DV} {Φ : β → List DV → Hp → Hp → Prop} (h : Ho P c F σ τ (M.bind m k ρ) Φ) :
    Ho P c F σ τ (m ρ) fun a ρ1 F1 H1 => Ho P c F1 σ τ (k a ρ1) Φ := by
  unfold M.bind at h
  match q : m ρ with
  | none => rw [q] at h; exact h
  | some (.ok a, ρ1) =>
    rw [q] at h
    exact fun F1 H1 e R => Ho.from h e
  | some (.error x, ρ1) => rw [q] at h; exact h
theorem Ho.now {α : Type} {P : Ps} {c : Ct} {F H : Hp} {σ : St} {τ : List (Option V)} {a : α} {ρ : List DV} {Φ : α → List DV → Hp → Hp → Prop} (h : Ho P c F σ τ (M.ok a ρ) Φ) (R : Rl P.K c F ρ (σ ++ τ) H) : Φ a ρ F H := h F H (Same.refl F) R
/-- a value found without a step -/
theorem Ho.opt {α β : Type} {P : Ps} {c : Ct} {F H : Hp} {σ : St} {τ : List (Option V)} {o : Option α} {k : α → M β} {ρ : List DV} {Φ : β → List DV → Hp → Hp → Prop} (h : Ho P c F σ τ (M.bind (M.opt o) k ρ) Φ) : ∃ a, o = some a ∧ Ho P c F σ τ (k a ρ) Φ := by
  cases o with
  | none => exact (show False from h).elim
  | some a => exact ⟨a, rfl, h⟩
/-- data read -/
theorem Ho.rd {β : Type} {P : Ps} {c : Ct} {F H : Hp} {σ : St} {τ : List (Option V)} {r : DR} {k : D → M β} {ρ : List DV} {v : V} {Φ : β → List DV → Hp → Hp → Prop} (h : Ho P c F σ τ (M.bind (rd r) k ρ) Φ) (R : Rl P.K c F ρ (σ ++ τ) H) (hv : RefV P.K F (σ ++ τ) v r) :
    ∃ d, (rd r ρ = some (.ok d, ρ)) ∧ Ho P c F σ τ (k d ρ) Φ ∧ ((Rp P.K F v d) ∨ ∃ a oc, v = .ref a ∧ d = oc.data ∧ F a = none ∧ Hold P.K F a (H a) oc) := by
  cases r with
  | dat d => exact ⟨d, rfl, h, .inl hv⟩
  | exc c d => exact (show False from h).elim
  | loc p =>
    unfold M.bind DL.rd at h
    dsimp only at h
    cases q : (ρ[p]?).bind DV.cont with
    | none => rw [q] at h; exact (show False from h).elim
    | some oc =>
      rw [q] at h
      refine ⟨oc.data, by unfold DL.rd; dsimp only; rw [q], h, .inr ?_⟩
      cases e : ρ[p]? with
      | none => rw [e] at q; simp at q
      | some x =>
        rw [e] at q
        obtain ⟨a, e1, e2, e3⟩ := (R.slot p x _ e hv).holds (by simpa using q)
        cases e1
        exact ⟨a, oc, rfl, rfl, e2, e3⟩

section
variable {X : Cx} {P : Ps} {a b e : Expr} {pos : Pos}
theorem _root_.L2.PE.of {X : Cx} {e : Expr} {t t' : TE} (h : PE X e t) (w : ∀ σ H Q, t' σ H Q → t σ H Q) : PE X e t' := ⟨fun pins s σ H Q I q => h.run pins s σ H Q I (w _ _ _ q)⟩
theorem _root_.L2.PT.of {X : Cx} {e : Expr} {t t' : TT} (h : PT X e t) (w : ∀ σ H Q, t' σ H Q → t σ H Q) : PT X e t' := ⟨fun pins s σ H Q I q => h.run pins s σ H Q I (w _ _ _ q)⟩
theorem _root_.L2.PA.of {X : Cx} {es : List Expr} {t t' : TA} (h : PA X es t) (w : ∀ σ H Q, t' σ H Q → t σ H Q) : PA X es t' := ⟨fun pos pins s σ H Q I q => h.run pos pins s σ H Q I (w _ _ _ q)⟩
theorem _root_.L2.PS.of {X : Cx} {st : Stmt} {t t' : TS} (h : PS X st t) (w : ∀ D σ H, t' D σ H → t D σ H) : PS X st t' := ⟨fun pins s σ H D I q => h.run pins s σ H D I (w _ _ _ q)⟩
theorem _root_.L2.PSs.of {X : Cx} {st : List Stmt} {t t' : TS} (h : PSs X st t) (w : ∀ D σ H, t' D σ H → t D σ H) : PSs X st t' := ⟨fun pins s σ H D I q => h.run pins s σ H D I (w _ _ _ q)⟩

/-! ### names, constants -/
def eVar (i : Nat) : M DR := fun ρ => match ρ[i]? with
  | some (.dat d) => some (.ok (.dat d), ρ)
  | some (.ow _) => some (.ok (.loc i), ρ)
  | some (.bo _) => some (.ok (.loc i), ρ)
  | some (.exc c d) => some (.ok (.exc c d), ρ)
  | _ => none
theorem de_var {i : Nat} {x : Str} (hN : X.N[i]? = some x) (hv : Vis X.env.scope x) (hl : ∀ (σ : St), σ.length = X.N.length → i < σ.length := by intro σ h; rw [h]; exact (List.getElem?_eq_some_iff.mp ‹_›).1) (hd : (x == ("__debug__" : Str)) = false := by decide) (hcd : (x == ("__classdict__" : Str)) = false := by decide) : PE X (.Name x pos) (tE P (eVar i)) := by
  refine ⟨fun pins s σ H Q I h => ?_⟩
  refine (pe_var (i := i) hN hv hd hcd).run pins s σ H Q I ?_
  obtain ⟨c, F, τ, ρ, R, h⟩ := h
  have hi : i < σ.length := by rw [I.len]; exact (List.getElem?_eq_some_iff.mp hN).1
  have hL : (σ ++ τ)[i]? = σ[i]? := List.getElem?_append_left hi
  unfold eVar at h
  cases e : ρ[i]? with
  | none => rw [e] at h; exact (show False from h).elim
  | some x =>
    rw [e] at h
    obtain ⟨v, ev⟩ : ∃ v, (σ ++ τ)[i]? = some v := by
      rw [List.getElem?_eq_getElem (by rw [List.length_append]; omega)]; exact ⟨_, rfl⟩
    have sl := R.slot i x v e ev
    cases x with
    | un => exact (show False from h).elim
    | dat d =>
      obtain ⟨y, e1, r⟩ := sl
      subst e1
      exact ⟨y, by rw [← hL]; exact ev, h F H (Same.refl F) R y r⟩
    | ow oc =>
      obtain ⟨a, e1, _⟩ := sl
      subst e1
      exact ⟨.ref a, by rw [← hL]; exact ev, h F H (Same.refl F) R _ ev⟩
    | bo oc =>
      obtain ⟨a, e1, _⟩ := sl
      subst e1
      exact ⟨.ref a, by rw [← hL]; exact ev, h F H (Same.refl F) R _ ev⟩
    | exc c d =>
      obtain ⟨y, e1, r⟩ := sl
      subst e1
      exact ⟨y, by rw [← hL]; exact ev, h F H (Same.refl F) R y r⟩
def eLit (d : D) : M DR := M.ok (.dat d)
theorem de_const {t : TE} {v : V} {d : D} (h : PE X e t) (w : ∀ σ H Q, Q v H → t σ H Q) (r : ∀ F, Rp P.K F v d) : PE X e (tE P (eLit d)) := by
  refine h.of fun σ H Q h => ?_
  obtain ⟨c, F, τ, ρ, R, h⟩ := h
  exact w σ H Q (Ho.now h R v (r F))
theorem de_int {i : Int} {k : Nat} : PE X (.Constant (.int i) k pos) (tE P (eLit (.int i))) := de_const pe_int (fun _ _ _ q => q) fun _ => .int i
theorem de_bool {b : Bool} {k : Nat} : PE X (.Constant (.bool b) k pos) (tE P (eLit (.bool b))) := de_const pe_bl (fun _ _ _ q => q) fun _ => .bl b
theorem de_none {k : Nat} : PE X (.Constant .none k pos) (tE P (eLit .none)) := de_const pe_non (fun _ _ _ q => q) fun _ => .non
theorem de_str {x : Str} {k : Nat} : PE X (.Constant (.str x) k pos) (tE P (eLit (.str x))) := de_const pe_str (fun _ _ _ q => q) fun _ => .str x
/-- a module's constant -/
theorem de_glob {x : Str} {v : V} {u : Value} {d : D} (hg : Gl X x) (hm : X.mg x = some u) (r : RelV v u) (rp : ∀ F, Rp P.K F v d) (hd : (x == ("__debug__" : Str)) = false := by decide) : PE X (.Name x pos) (tE P (eLit d)) :=
  de_const (pe_glob hg hm r hd) (fun _ _ _ q => q) rp

/-! ### two operands -/
/-- an operator on data: f tells the result -/
def eOp2 (f : D → D → Option D) (ma mb : M DR) : M DR := M.bind ma fun x => M.bind mb fun y => M.bind (rd x) fun d => M.bind (rd y) fun e => M.bind (M.opt (f d e)) fun z => M.ok (.dat z)
/-- an operand as data in the heap as it stands -/
inductive Now (K : Frag) (F H : Hp) (v : V) (d : D) : Prop
  | dat (h : Rp K F v d)
  | own {a : Addr} {oc : OC} (e : v = .ref a) (e' : d = oc.data) (hF : F a = none) (h : Hold K F a (H a) oc)
theorem Now.list {K : Frag} {F H : Hp} {v : V} {ds : List D} (n : Now K F H v (.list ds)) (s : Same F H) : ∃ a xs, v = .ref a ∧ SqL K.K H a xs ∧ RpAll K F xs ds := by
  cases n with
  | dat h =>
    cases h with
    | lst hs ha => exact ⟨_, _, rfl, sql_mono s hs, ha⟩
  | @own a oc e e' hF h =>
    cases oc with
    | d kvs => cases e'
    | l es =>
      cases e'
      obtain ⟨xs, hH, h⟩ := h
      exact ⟨_, _, e, .inl (.inl hH), h⟩
theorem Now.int {K : Frag} {F H : Hp} {v : V} {i : Int} (n : Now K F H v (.int i)) : v = .int i := by
  cases n with
  | dat h => cases h; rfl
  | @own a oc e e' hF h => cases oc <;> cases e'
theorem Now.str {K : Frag} {F H : Hp} {v : V} {i : Str} (n : Now K F H v (.str i)) : v = .str i := by
  cases n with
  | dat h => cases h; rfl
  | @own a oc e e' hF h => cases oc <;> cases e'
theorem Now.bool {K : Frag} {F H : Hp} {v : V} {i : Bool} (n : Now K F H v (.bool i)) : v = .bl i := by
  cases n with
  | dat h => cases h; rfl
  | @own a oc e e' hF h => cases oc <;> cases e'
theorem Now.none {K : Frag} {F H : Hp} {v : V} (n : Now K F H v .none) : v = .non := by
  cases n with
  | dat h => cases h; rfl
  | @own a oc e e' hF h => cases oc <;> cases e'
theorem Now.tuple {K : Frag} {F H : Hp} {v : V} {ds : List D} (n : Now K F H v (.tuple ds)) (s : Same F H) : ∃ a xs, v = .ref a ∧ SqT K.K H a xs ∧ SqT K.K F a xs ∧ RpAll K F xs ds := by
  cases n with
  | dat h =>
    cases h with
    | tup hs ha => exact ⟨_, _, rfl, sqt_mono s hs, hs, ha⟩
  | @own a oc e e' hF h => cases oc <;> cases e'
/-- the operator's rule by data -/
def OpD (X : Cx) (P : Ps) (r : R2) (f : D → D → Option D) : Prop :=
  ∀ (c : Ct) (F H : Hp) (L : List (Option V)) (ρ : List DV) (x y : V) (d e z : D) (Q : VK), Rl P.K c F ρ L H → Now P.K F H x d → Now P.K F H y e → f d e = some z →
    (∀ F' H' v, Same F F' → Rl P.K c F' ρ L H' → Rp P.K F' v z → Q v H') → r x y H Q
theorem tE_op2 {r : R2} {f : D → D → Option D} {ma mb : M DR} (h : OpD X P r f) (σ : St) (H : Hp) (Q : VK) (q : tE P (eOp2 f ma mb) σ H Q) : tOp r (tE P ma) (tE P mb) σ H Q := by
  obtain ⟨c, F, τ, ρ, R, q⟩ := q
  refine ⟨c, F, τ, ρ, R, (Ho.bind q).mono fun x ρ1 F1 H1 s1 R1 q1 v hv => ?_⟩
  refine ⟨c, F1, τ, ρ1, R1, (Ho.bind q1).mono fun y ρ2 F2 H2 s2 R2 q2 u hu => ?_⟩
  obtain ⟨d, _, q3, n1⟩ := Ho.rd q2 R2 (hv.mono s2)
  obtain ⟨e, _, q4, n2⟩ := Ho.rd q3 R2 hu
  obtain ⟨z, ez, q5⟩ := Ho.opt (H := H2) q4
  have m1 : Now P.K F2 H2 v d := by
    rcases n1 with n1 | ⟨a, oc, e1, e2, e3, e4⟩
    · exact .dat n1
    · exact .own e1 e2 e3 e4
  have m2 : Now P.K F2 H2 u e := by
    rcases n2 with n2 | ⟨a, oc, e1, e2, e3, e4⟩
    · exact .dat n2
    · exact .own e1 e2 e3 e4
  exact h c F2 H2 (σ ++ τ) ρ2 v u d e z Q R2 m1 m2 ez fun F' H' w s R' rp => q5 F' H' s R' w rp
theorem de_bin {op : Operator} {r : R2} {f : D → D → Option D} {ma mb : M DR} (ho : OpR X (binaryOp op) r) (h : OpD X P r f) (ha : PE X a (tE P ma)) (hb : PE X b (tE P mb)) : PE X (.BinOp a op b pos) (tE P (eOp2 f ma mb)) :=
  (pe_op ho ha hb).of (tE_op2 h)
theorem de_cmp {op : CmpOp} {r : R2} {f : D → D → Option D} {ma mb : M DR} (ho : OpR X (compareOp op) r) (h : OpD X P r f) (ha : PE X a (tE P ma)) (hb : PE X b (tE P mb)) (hm : behindInMarks op b = false) : PE X (.Compare a [op] [b] pos) (tE P (eOp2 f ma mb)) :=
  (pe_cmpR ho ha hb hm).of (tE_op2 h)
/-- a value as a bool -/
def asB (r : DR) : M Bool := fun ρ => match r with
  | .dat (.bool b) => some (.ok b, ρ)
  | _ => none
/-- a test whose value is a bool -/
def eB (m : M DR) : M Bool := M.bind m asB
theorem tT_B {m : M DR} (σ : St) (H : Hp) (Q : Bool → Hp → Prop) (q : tT P (eB m) σ H Q) : (tTest (tE P m)) σ H Q := by
  obtain ⟨c, F, τ, ρ, R, q⟩ := q
  refine ⟨c, F, τ, ρ, R, (Ho.bind q).mono fun x ρ1 F1 H1 s1 R1 q1 v hv => ?_⟩
  cases x with
  | loc p => exact (show False from q1).elim
  | exc c d => exact (show False from q1).elim
  | dat d =>
    cases d with
    | bool b =>
      cases (show Rp P.K F1 v (.bool b) from hv)
      exact ⟨b, rfl, q1 F1 H1 (Same.refl _) R1⟩
    | _ => exact (show False from q1).elim
theorem dt_cmp {op : CmpOp} {r : R2} {f : D → D → Option D} {ma mb : M DR} (ho : OpR X (compareOp op) r) (h : OpD X P r f) (ha : PE X a (tE P ma)) (hb : PE X b (tE P mb)) (hm : behindInMarks op b = false) : PT X (.Compare a [op] [b] pos) (tT P (eB (eOp2 f ma mb))) := by
  refine (pt_cmpR ho ha hb hm).of fun σ H Q q => ?_
  obtain ⟨c, F, τ, ρ, R, q⟩ := tT_B (P := P) σ H Q q
  exact tE_op2 h σ H _ ⟨c, F, τ, ρ, R, q⟩

/-! the operators on ints -/
def intOp (C : Int → Int → Bool) (g : Int → Int → D) : D → D → Option D := fun d e => match d, e with
  | .int i, .int j => if C i j then some (g i j) else none
  | _, _ => none
theorem intOp_some {C : Int → Int → Bool} {g : Int → Int → D} {d e z : D} (h : intOp C g d e = some z) : ∃ i j, d = .int i ∧ e = .int j ∧ C i j = true ∧ z = g i j := by
  unfold intOp at h
  split at h
  · split at h
    · rename_i i j hc
      exact ⟨i, j, rfl, rfl, hc, (Option.some.inj h).symm⟩
    · cases h
  · cases h
theorem opd_int {C : Int → Int → Prop} {C' : Int → Int → Bool} {g : Int → Int → V} {g' : Int → Int → D} (hc : ∀ i j, C' i j = true → C i j) (hg : ∀ F i j, Rp P.K F (g i j) (g' i j)) : OpD X P (rI C g) (intOp C' g') := by
  intro c F H L ρ x y d e z Q R n1 n2 hz q
  obtain ⟨i, j, rfl, rfl, h1, rfl⟩ := intOp_some hz
  exact ⟨i, j, n1.int, n2.int, hc i j h1, q F H _ (Same.refl F) R (hg F i j)⟩
theorem opd_int0 {g : Int → Int → V} {g' : Int → Int → D} (hg : ∀ F i j, Rp P.K F (g i j) (g' i j)) : OpD X P (rI0 g) (intOp (fun _ _ => true) g') := by
  intro c F H L ρ x y d e z Q R n1 n2 hz q
  obtain ⟨i, j, rfl, rfl, _, rfl⟩ := intOp_some hz
  exact ⟨i, j, n1.int, n2.int, q F H _ (Same.refl F) R (hg F i j)⟩
end
end DL

set_option Elab.async false
set_option linter.all false
set_option maxRecDepth 100000
set_option maxHeartbeats 4000000
/-! DL3: rules of expressions, further. -/
namespace DL
open PySem PySem.Spec PyProof.Rows L2
section
variable {X : Cx} {P : Ps} {a b e : Expr} {pos : Pos}

theorem Rd.sql {K : PySem.W.Frag} {H : Hp} {a : Addr} {xs : List V} (h : Rd H a (.lst xs)) : SqL K H a xs := .inl h
theorem wid {α : Type} {a b : α} (h : some a = some b) : b = a := (Option.some.inj h).symm

/-! ### int operators -/
def mulC (i j : Int) : Bool := decide (i.natAbs.log2 + j.natAbs.log2 < 1000000) || (decide (i.natAbs < 2 ^ 64) || decide (j.natAbs < 2 ^ 64))
def CMulX (i j : Int) : Prop := CMulW i j ∨ CMul i j
theorem op_mulX {X : Cx} : OpR X (binaryOp .Mult) (rI CMulX fun i j => .int (i * j)) := fun pins s σ H x y v u Q I rx ry q => by
  obtain ⟨i, j, e1, e2, h, q⟩ := q
  rcases h with h | h
  · exact op_mulW pins s σ H x y v u Q I rx ry ⟨i, j, e1, e2, h, q⟩
  · exact op_mul pins s σ H x y v u Q I rx ry ⟨i, j, e1, e2, h, q⟩
def divC (_ j : Int) : Bool := decide (0 < j) && decide (j.natAbs.log2 < 9000)
def modC (_ j : Int) : Bool := decide (0 < j)
def powC (i j : Int) : Bool := decide (0 ≤ j) && decide (j ≤ 1000000) && decide (i.natAbs < 2 ^ 64)
def subD : D → D → Option D := intOp (fun _ _ => true) fun i j => .int (i - j)
def fdivD : D → D → Option D := intOp divC fun i j => .int (i / j)
def modD : D → D → Option D := intOp modC fun i j => .int (i % j)
def powD : D → D → Option D := intOp powC fun i j => .int (i ^ j.toNat)
def ltD : D → D → Option D := intOp (fun _ _ => true) fun i j => .bool (decide (i < j))
def leD : D → D → Option D := intOp (fun _ _ => true) fun i j => .bool (decide (i ≤ j))
def gtD : D → D → Option D := intOp (fun _ _ => true) fun i j => .bool (decide (j < i))
def geD : D → D → Option D := intOp (fun _ _ => true) fun i j => .bool (decide (j ≤ i))
theorem opd_sub : OpD X P (rI0 fun i j => .int (i - j)) subD := opd_int0 fun _ _ _ => .int _
theorem opd_fdiv : OpD X P (rI CDivW fun i j => .int (i / j)) fdivD := opd_int (fun i j h => by
  unfold divC at h
  simp only [Bool.and_eq_true, decide_eq_true_eq] at h
  exact h) fun _ _ _ => .int _
theorem opd_mod : OpD X P (rI (fun _ j => 0 < j) fun i j => .int (i % j)) modD := opd_int (fun i j h => of_decide_eq_true h) fun _ _ _ => .int _
theorem opd_pow : OpD X P (rI CPow fun i j => .int (i ^ j.toNat)) powD := opd_int (fun i j h => by
  unfold powC at h
  simp only [Bool.and_eq_true, decide_eq_true_eq] at h
  exact ⟨h.1.1, h.1.2, h.2⟩) fun _ _ _ => .int _
theorem opd_lt : OpD X P (rI0 fun i j => .bl (decide (i < j))) ltD := opd_int0 fun _ _ _ => .bl _
theorem opd_le : OpD X P (rI0 fun i j => .bl (decide (i ≤ j))) leD := opd_int0 fun _ _ _ => .bl _
theorem opd_gt : OpD X P (rI0 fun i j => .bl (decide (j < i))) gtD := opd_int0 fun _ _ _ => .bl _
theorem opd_ge : OpD X P (rI0 fun i j => .bl (decide (j ≤ i))) geD := opd_int0 fun _ _ _ => .bl _

/-! ### + : ints, lists, tuples -/
def rCatL (K : PySem.W.Frag) : R2 := fun x y H Q => ∃ l b xs zs, x = .ref l ∧ y = .ref b ∧ SqL K H l xs ∧ SqL K H b zs ∧ xs.length + zs.length ≤ sizeLine ∧ ∀ p, H p = none → Q (.ref p) (upd H p (.lst (xs ++ zs)))
theorem op_catL : OpR X (binaryOp .Add) (rCatL X.K) := by
  intro pins s σ H x y v u Q I rx ry h
  obtain ⟨l, b, xs, zs, rfl, rfl, hH, hB, hz, q⟩ := h
  cases rx
  cases ry
  obtain ⟨its, r, ⟨o, n, ho, hc, _, hd⟩, _⟩ := I.list hH
  obtain ⟨its2, r2, ⟨o2, n2, ho2, hc2, _, hd2⟩, _⟩ := I.list hB
  have l1 := r.length
  have l2 := r2.length
  obtain ⟨c1, dd, d1, sl⟩ := o
  obtain ⟨c2, dd2, d2, sl2⟩ := o2
  dsimp only at hc hd hc2 hd2
  subst hc hd hc2 hd2
  refine concat_meets ⟨_, ho, rfl⟩ ⟨_, ho2, rfl⟩ noFill_list_add seq_list_add PySem.F.slot_list_add PySem.F.entry_list_add (PySem.F.args_list_add_2 _ _) (list_addW l b its.toArray its2.toArray n n2 dd dd2 sl sl2 (by rw [List.size_toArray, List.size_toArray]; omega)) ⟨ho, ho2, ?_⟩
  have ea : its.toArray ++ its2.toArray = (its ++ its2).toArray := by simp
  rw [ea]
  exact ⟨.ref _, _, I.lnew (t' := s.toks) (r.append r2) (by rw [List.length_append]; omega), rfl, q _ I.fresh⟩
def addD : D → D → Option D
  | .int i, .int j => some (.int (i + j))
  | .list xs, .list ys => if xs.length + ys.length ≤ 16777216 then some (.list (xs ++ ys)) else none
  | .tuple xs, .tuple ys => if xs.length + ys.length ≤ 16777216 then some (.tuple (xs ++ ys)) else none
  | _, _ => none
def rAddA (K : PySem.W.Frag) : R2 := fun x y H Q => (rI0 fun i j => .int (i + j)) x y H Q ∨ (rCatL K x y H Q ∨ rCatA K x y H Q)
theorem op_addA : OpR X (binaryOp .Add) (rAddA X.K) := op_add.or (op_catL.or op_catA)
theorem rp_new {K : Frag} {F : Hp} {p : Addr} {xs : List V} {ds : List D} (h : RpAll K F xs ds) (hp : F p = none) : Rp K (upd F p (.lst xs)) (.ref p) (.list ds) :=
  .lst (.inl (.inl upd_same)) (h.mono fun b o q => by rw [upd_ne (ne_of_none q hp)]; exact q)
theorem rp_newT {K : Frag} {F : Hp} {p : Addr} {xs : List V} {ds : List D} (h : RpAll K F xs ds) (hp : F p = none) : Rp K (upd F p (.tup xs)) (.ref p) (.tuple ds) :=
  .tup (.inl (.inl upd_same)) (h.mono fun b o q => by rw [upd_ne (ne_of_none q hp)]; exact q)
theorem Same.upd {H : Hp} {p : Addr} {o : HO} (hp : H p = none) : Same H (upd H p o) := fun b u q => by rw [upd_ne (ne_of_none q hp)]; exact q
theorem opd_add (hK : P.K.K = X.K) : OpD X P (rAddA X.K) addD := by
  intro c F H L ρ x y d e z Q R n1 n2 hz q
  have hs : sizeLine = 16777216 := sizeLine_eq
  unfold addD at hz
  split at hz
  · rename_i i j
    cases wid hz
    exact .inl ⟨i, j, n1.int, n2.int, q F H _ (Same.refl F) R (.int _)⟩
  · rename_i xs ys
    split at hz
    · rename_i hl
      cases wid hz
      obtain ⟨a1, vs, rfl, h1, r1⟩ := n1.list R.sub
      obtain ⟨a2, ws, rfl, h2, r2⟩ := n2.list R.sub
      rw [hK] at h1 h2
      refine .inr (.inl ⟨a1, a2, vs, ws, rfl, rfl, h1, h2, by rw [r1.length, r2.length]; omega, fun p hp => ?_⟩)
      have hF : F p = none := R.sub.free hp
      exact q _ _ _ (Same.upd hF) (R.new hp) (rp_new (r1.append r2) hF)
    · cases hz
  · rename_i xs ys
    split at hz
    · rename_i hl
      cases wid hz
      obtain ⟨a1, vs, rfl, h1, f1, r1⟩ := n1.tuple R.sub
      obtain ⟨a2, ws, rfl, h2, f2, r2⟩ := n2.tuple R.sub
      rw [hK] at h1 h2
      refine .inr (.inr ⟨a1, a2, vs, ws, rfl, rfl, h1, h2, by rw [r1.length, r2.length]; omega, fun e => ?_, fun _ e => ?_, fun _ _ p hp => ?_⟩)
      · subst e
        cases r1
        rw [List.nil_append] at q
        exact q F H _ (Same.refl F) R (.tup f2 r2)
      · subst e
        cases r2
        rw [List.append_nil] at q
        exact q F H _ (Same.refl F) R (.tup f1 r1)
      · have hF : F p = none := R.sub.free hp
        exact q _ _ _ (Same.upd hF) (R.new hp) (rp_newT (r1.append r2) hF)
    · cases hz
  · cases hz

/-! ### * : ints -/
def mulD : D → D → Option D := intOp mulC fun i j => .int (i * j)
theorem opd_mul : OpD X P (rI CMulX fun i j => .int (i * j)) mulD := opd_int (fun i j h => by
  unfold mulC at h
  rw [Bool.or_eq_true, Bool.or_eq_true] at h
  rcases h with h | h | h
  · have h : i.natAbs.log2 + j.natAbs.log2 < 1000000 := of_decide_eq_true h
    exact .inl h
  · have h := of_decide_eq_true h
    exact .inr (.inl ⟨by omega, by omega⟩)
  · have h := of_decide_eq_true h
    exact .inr (.inr ⟨by omega, by omega⟩)) fun _ _ _ => .int _

/-! ### == and != of data -/
mutual
def noDict : D → Bool
  | .dict _ => false
  | .list xs => noDictAll xs
  | .tuple xs => noDictAll xs
  | _ => true
def noDictAll : List D → Bool
  | [] => true
  | x :: xs => noDict x && noDictAll xs
end
mutual
theorem Rp.dp {K : Frag} {F : Hp} : ∀ {v : V} {d : D}, Rp K F v d → d.canLay0 = true → Dp K.K F v d
  | _, _, .non, _ => .non
  | _, _, .bl b, _ => .bl b
  | _, _, .int i, _ => .int i
  | _, _, .str x, _ => .str x
  | _, _, .lst h a, e => .lst h (RpAll.dp a (by simpa [PyData.canLay0] using e))
  | _, _, .tup h a, e => .tup h (RpAll.dp a (by simpa [PyData.canLay0] using e))
  | _, _, .dic h a, e => by simp [PyData.canLay0] at e
  | _, _, .dit h a, e => by simp [PyData.canLay0] at e
theorem RpAll.dp {K : Frag} {F : Hp} : ∀ {v : List V} {d : List D}, RpAll K F v d → PyData.canLayAll0 d = true → DpAll K.K F v d
  | _, _, .nil, _ => .nil
  | _, _, .cons h t, e => by
    simp only [PyData.canLayAll0, Bool.and_eq_true] at e
    exact .cons (Rp.dp h e.1) (RpAll.dp t e.2)
end
theorem rpAll_mono_H {K : Frag} {F H : Hp} (s : Same F H) {xs : List V} {ds : List D} (h : RpAll K F xs ds) : RpAll K H xs ds := h.mono s
theorem Now.dp {K : Frag} {F H : Hp} {v : V} {d : D} (n : Now K F H v d) (s : Same F H) (e : SeqAt.shaped d = true) : Dp K.K H v d := by
  have e' : d.canLay0 = true := by unfold SeqAt.shaped at e; exact (Bool.and_eq_true_iff.mp e).1
  cases n with
  | dat h => exact Rp.dp (h.mono s) e'
  | @own a oc e1 e2 hF h =>
    subst e1 e2
    cases oc with
    | l ds =>
      obtain ⟨xs, hH, h⟩ := h
      exact Rp.dp (.lst (.inl (.inl hH)) (h.mono s)) e'
    | d kvs => simp [OC.data, PyData.canLay0] at e'
def eqD (d e : D) : Option D := if SeqAt.shaped d && SeqAt.shaped e then some (.bool (PyData.eqv d e)) else none
def neD (d e : D) : Option D := if SeqAt.shaped d && SeqAt.shaped e then some (.bool (!PyData.eqv d e)) else none
theorem opd_eq (hK : P.K.K = X.K) : OpD X P (rEqD X.K) eqD := by
  intro c F H L ρ x y d e z Q R n1 n2 hz q
  unfold eqD at hz
  split at hz
  · rename_i h
    cases wid hz
    obtain ⟨h1, h2⟩ := Bool.and_eq_true_iff.mp h
    exact ⟨d, e, hK ▸ n1.dp R.sub h1, hK ▸ n2.dp R.sub h2, h1, h2, q F H _ (Same.refl F) R (.bl _)⟩
  · cases hz
theorem opd_ne (hK : P.K.K = X.K) : OpD X P (rNeD X.K) neD := by
  intro c F H L ρ x y d e z Q R n1 n2 hz q
  unfold neD at hz
  split at hz
  · rename_i h
    cases wid hz
    obtain ⟨h1, h2⟩ := Bool.and_eq_true_iff.mp h
    exact ⟨d, e, hK ▸ n1.dp R.sub h1, hK ▸ n2.dp R.sub h2, h1, h2, q F H _ (Same.refl F) R (.bl _)⟩
  · cases hz

/-! ### x[i] -/
def ixD : D → D → Option D
  | .list xs, .int i => atI xs i
  | .tuple xs, .int i => atI xs i
  | _, _ => none
theorem atI_rp {K : Frag} {F : Hp} {xs : List V} {ds : List D} {i : Int} {d : D} (h : RpAll K F xs ds) (e : atI ds i = some d) : ∃ v, atI xs i = some v ∧ Rp K F v d := by
  unfold atI at e ⊢
  rw [h.length]
  cases q : ixN ds.length i with
  | none => rw [q] at e; simp at e
  | some j =>
    rw [q, Option.bind_some] at e
    rw [Option.bind_some]
    exact h.get e
def rIxLT (K : PySem.W.Frag) : R2 := fun x y H Q => rIxL K x y H Q ∨ rIxT K x y H Q
theorem opd_ix (hK : P.K.K = X.K) : OpD X P (rIxLT X.K) ixD := by
  intro c F H L ρ x y d e z Q R n1 n2 hz q
  unfold ixD at hz
  split at hz
  · obtain ⟨a1, vs, rfl, h1, r1⟩ := n1.list R.sub
    obtain ⟨v, e1, r⟩ := atI_rp r1 hz
    exact .inl ⟨a1, vs, _, v, rfl, n2.int, hK ▸ h1, e1, q F H v (Same.refl F) R r⟩
  · obtain ⟨a1, vs, rfl, h1, _, r1⟩ := n1.tuple R.sub
    obtain ⟨v, e1, r⟩ := atI_rp r1 hz
    exact .inr ⟨a1, vs, _, v, rfl, n2.int, hK ▸ h1, e1, q F H v (Same.refl F) R r⟩
  · cases hz
theorem de_ix {ma mb : M DR} (hK : P.K.K = X.K) (ha : PE X a (tE P ma)) (hb : PE X b (tE P mb)) (hs : PlainIx b) : PE X (.Subscript a b pos) (tE P (eOp2 ixD ma mb)) :=
  (pe_ix (ix_list.or ix_tup) ha hb hs).of (tE_op2 (opd_ix hK))

/-! ### one operand -/
def eOp1 (f : D → Option D) (ma : M DR) : M DR := M.bind ma fun x => M.bind (rd x) fun d => M.bind (M.opt (f d)) fun z => M.ok (.dat z)
theorem Ho.now1 {β : Type} {c : Ct} {F H : Hp} {σ : L2.St} {τ : List (Option V)} {r : DR} {k : D → M β} {ρ : List DV} {v : V} {Φ : β → List DV → Hp → Hp → Prop} (h : Ho P c F σ τ (M.bind (DL.rd r) k ρ) Φ) (R : Rl P.K c F ρ (σ ++ τ) H) (hv : RefV P.K F (σ ++ τ) v r) :
    ∃ d, Ho P c F σ τ (k d ρ) Φ ∧ Now P.K F H v d := by
  obtain ⟨d, _, h1, h2⟩ := Ho.rd h R hv
  refine ⟨d, h1, ?_⟩
  rcases h2 with h2 | ⟨a, oc, e1, e2, e3, e4⟩
  · exact .dat h2
  · exact .own e1 e2 e3 e4
def UnD (P : Ps) (r : V → Hp → VK → Prop) (f : D → Option D) : Prop :=
  ∀ (c : Ct) (F H : Hp) (L : List (Option V)) (ρ : List DV) (x : V) (d z : D) (Q : VK), Rl P.K c F ρ L H → Now P.K F H x d → f d = some z →
    (∀ F' H' v, Same F F' → Rl P.K c F' ρ L H' → Rp P.K F' v z → Q v H') → r x H Q
theorem tE_op1 {r : V → Hp → VK → Prop} {f : D → Option D} {ma : M DR} (h : UnD P r f) (σ : L2.St) (H : Hp) (Q : VK) (q : tE P (eOp1 f ma) σ H Q) : tUn r (tE P ma) σ H Q := by
  obtain ⟨c, F, τ, ρ, R, q⟩ := q
  refine ⟨c, F, τ, ρ, R, (Ho.bind q).mono fun x ρ1 F1 H1 s1 R1 q1 v hv => ?_⟩
  obtain ⟨d, q2, n⟩ := Ho.now1 q1 R1 hv
  obtain ⟨z, ez, q3⟩ := Ho.opt (H := H1) q2
  exact h c F1 H1 (σ ++ τ) ρ1 v d z Q R1 n ez fun F' H' w s R' rp => q3 F' H' s R' w rp
def negD : D → Option D
  | .int i => some (.int (-i))
  | _ => none
theorem de_neg {ma : M DR} (ha : PE X a (tE P ma)) : PE X (.UnaryOp .USub a pos) (tE P (eOp1 negD ma)) := (pe_un un_neg ha).of (tE_op1 (by
  intro c F H L ρ x d z Q R n hz q
  unfold negD at hz
  split at hz
  · cases wid hz
    exact ⟨_, n.int, q F H _ (Same.refl F) R (.int _)⟩
  · cases hz))

/-! ### is None -/
def isNoneB : D → Bool
  | .none => true
  | _ => false
def isNoneD (neg : Bool) : D → Option D := fun d => some (.bool (if neg then !isNoneB d else isNoneB d))
theorem Now.isN {K : Frag} {F H : Hp} {v : V} {d : D} (n : Now K F H v d) : decide (v = .non) = isNoneB d := by
  cases n with
  | dat h => cases h <;> rfl
  | @own a oc e e' hF h => rw [e, e']; cases oc <;> rfl
theorem de_isN {ma : M DR} {j : Nat} {p2 : Pos} (ha : PE X a (tE P ma)) : PE X (.Compare a [.Is] [.Constant .none j p2] pos) (tE P (eOp1 (isNoneD false) ma)) := by
  refine (pe_cmp (pc_isN ha) rfl).of fun σ H Q q => ?_
  obtain ⟨c, F, τ, ρ, R, q⟩ := q
  refine ⟨c, F, τ, ρ, R, (Ho.bind q).mono fun x ρ1 F1 H1 s1 R1 q1 v hv => ?_⟩
  obtain ⟨d, q2, n⟩ := Ho.now1 q1 R1 hv
  obtain ⟨z, ez, q3⟩ := Ho.opt (H := H1) q2
  unfold isNoneD at ez
  cases wid ez
  refine q3 F1 H1 (Same.refl _) R1 _ ?_
  rw [n.isN]
  exact .bl _
theorem de_notN {ma : M DR} {j : Nat} {p2 : Pos} (ha : PE X a (tE P ma)) : PE X (.Compare a [.IsNot] [.Constant .none j p2] pos) (tE P (eOp1 (isNoneD true) ma)) := by
  refine (pe_cmp (pc_notN ha) rfl).of fun σ H Q q => ?_
  obtain ⟨c, F, τ, ρ, R, q⟩ := q
  refine ⟨c, F, τ, ρ, R, (Ho.bind q).mono fun x ρ1 F1 H1 s1 R1 q1 v hv => ?_⟩
  obtain ⟨d, q2, n⟩ := Ho.now1 q1 R1 hv
  obtain ⟨z, ez, q3⟩ := Ho.opt (H := H1) q2
  unfold isNoneD at ez
  cases wid ez
  refine q3 F1 H1 (Same.refl _) R1 _ ?_
  rw [n.isN]
  exact .bl _
theorem tT_tB {m : M DR} {t : TE} (w : ∀ σ H Q, tE P m σ H Q → t σ H Q) (σ : L2.St) (H : Hp) (Q : Bool → Hp → Prop) (q : tT P (eB m) σ H Q) : tB t σ H Q := by
  obtain ⟨c, F, τ, ρ, R, q⟩ := tT_B (P := P) σ H Q q
  exact w σ H _ ⟨c, F, τ, ρ, R, q⟩
theorem dt_isN {ma : M DR} {j : Nat} {p2 : Pos} (ha : PE X a (tE P ma)) : PT X (.Compare a [.Is] [.Constant .none j p2] pos) (tT P (eB (eOp1 (isNoneD false) ma))) := by
  refine (pt_cmp (pc_isN ha) rfl).of fun σ H Q q => tT_tB (t := tIsN (tE P ma)) (fun σ H Q q => ?_) σ H Q q
  obtain ⟨c, F, τ, ρ, R, q⟩ := q
  refine ⟨c, F, τ, ρ, R, (Ho.bind q).mono fun x ρ1 F1 H1 s1 R1 q1 v hv => ?_⟩
  obtain ⟨d, q2, n⟩ := Ho.now1 q1 R1 hv
  obtain ⟨z, ez, q3⟩ := Ho.opt (H := H1) q2
  unfold isNoneD at ez
  cases wid ez
  refine q3 F1 H1 (Same.refl _) R1 _ ?_
  rw [n.isN]
  exact .bl _
theorem dt_notN {ma : M DR} {j : Nat} {p2 : Pos} (ha : PE X a (tE P ma)) : PT X (.Compare a [.IsNot] [.Constant .none j p2] pos) (tT P (eB (eOp1 (isNoneD true) ma))) := by
  refine (pt_cmp (pc_notN ha) rfl).of fun σ H Q q => tT_tB (t := tNotN (tE P ma)) (fun σ H Q q => ?_) σ H Q q
  obtain ⟨c, F, τ, ρ, R, q⟩ := q
  refine ⟨c, F, τ, ρ, R, (Ho.bind q).mono fun x ρ1 F1 H1 s1 R1 q1 v hv => ?_⟩
  obtain ⟨d, q2, n⟩ := Ho.now1 q1 R1 hv
  obtain ⟨z, ez, q3⟩ := Ho.opt (H := H1) q2
  unfold isNoneD at ez
  cases wid ez
  refine q3 F1 H1 (Same.refl _) R1 _ ?_
  rw [n.isN]
  exact .bl _
end
end DL

set_option Elab.async false
set_option linter.all false
set_option maxRecDepth 100000
set_option maxHeartbeats 4000000
/-! DL4: freezing; tests; displays; arguments; calls of built-ins. -/
namespace DL
open PySem PySem.Spec PyProof.Rows L2

/-! ### freezing an own list -/
theorem set_at {α : Type} {l : List α} {i j : Nat} {x y : α} (h : (l.set i x)[j]? = some y) : (j = i ∧ y = x) ∨ (j ≠ i ∧ l[j]? = some y) := by
  by_cases e : i = j
  · subst e
    by_cases hi : i < l.length
    · rw [List.getElem?_set_self hi] at h; exact .inl ⟨rfl, (Option.some.inj h).symm⟩
    · rw [List.getElem?_eq_none (by rw [List.length_set]; omega)] at h; cases h
  · rw [List.getElem?_set_ne e] at h; exact .inr ⟨fun z => e z.symm, h⟩
section
variable {K : Frag} {F F' H : Hp} {c : Ct} {ρ : List DV} {L : List (Option V)}
theorem Rl.freezeO {p : Nat} {a : Addr} {oc : OC} (R : Rl K c F ρ L H) (e : ρ[p]? = some (.ow oc)) (l : L[p]? = some (some (.ref a))) :
    ∃ u, H a = some u ∧ F a = none ∧ Hold K F a (some u) oc ∧ Rl K c (upd F a u) (ρ.set p (.dat oc.data)) L H := by
  obtain ⟨a', e1, e2, e4⟩ := R.slot p _ _ e l
  cases e1
  obtain ⟨u, e3⟩ := e4.there
  rw [e3] at e4
  have eF : Same F (upd F a u) := fun b w q => by rw [upd_ne (ne_of_none q e2)]; exact q
  refine ⟨u, e3, e2, e4, ⟨by rw [List.length_set]; exact R.len, fun b w q => ?_, R.keep, fun i x v e5 e6 => ?_, fun i j x y b h1 h2 o1 o2 l1 l2 => ?_, fun i x b h1 o1 l1 => ?_, fun i es b h1 l1 => ?_, fun q hq => ?_, fun b w q => ?_⟩⟩
  · by_cases hb : b = a
    · subst hb; rw [upd_same] at q; cases q; exact e3
    · rw [upd_ne hb] at q; exact R.sub b w q
  · rcases set_at e5 with ⟨rfl, rfl⟩ | ⟨hne, e5⟩
    · rw [l] at e6
      cases e6
      exact ⟨.ref a, rfl, e4.rp eF upd_same⟩
    · refine (R.slot i x v e5 e6).mono eF fun b hv ho h1 h2 => ⟨?_, rfl⟩
      have : b ≠ a := fun z => by
        subst z
        subst hv
        exact hne (R.sep i p x _ b e5 e ho (by simp [DV.cont]) e6 l)
      rw [upd_ne this]; exact h1
  · rcases set_at h1 with ⟨_, rfl⟩ | ⟨_, h1⟩
    · exact absurd rfl o1
    · rcases set_at h2 with ⟨_, rfl⟩ | ⟨_, h2⟩
      · exact absurd rfl o2
      · exact R.sep i j x y b h1 h2 o1 o2 l1 l2
  · rcases set_at h1 with ⟨_, rfl⟩ | ⟨_, h1⟩
    · exact absurd rfl o1
    · exact R.fresh i x b h1 o1 l1
  · rcases set_at h1 with ⟨_, q⟩ | ⟨_, h1⟩
    · cases q
    · exact R.nobor i es b h1 l1
  · obtain ⟨⟨es, e'⟩, l'⟩ := R.lent q hq
    refine ⟨⟨es, ?_⟩, l'⟩
    rw [List.getElem?_set_ne (fun z => by rw [z] at e; rw [e] at e'; cases e')]
    exact e'
  · by_cases hb : b = a
    · subst hb
      rcases R.fresh p _ b e (by simp [DV.cont]) l with g | g
      · exact .inr g
      · exact absurd g (R.nobor p oc b e l)
    · rw [upd_ne hb] at q; exact R.born b w q
theorem Rl.freeze {p : Nat} {a : Addr} {xs : List V} {ds : List D} (R : Rl K c F ρ L H) (e : ρ[p]? = some (.lst ds)) (l : L[p]? = some (some (.ref a))) :
    ∃ xs, H a = some (.lst xs) ∧ F a = none ∧ RpAll K F xs ds ∧ Rl K c (upd F a (.lst xs)) (ρ.set p (.dat (.list ds))) L H := by
  obtain ⟨u, h1, h2, ⟨xs, h3, h4⟩, h5⟩ := R.freezeO e l
  cases h3
  exact ⟨xs, h1, h2, h4, h5⟩
end
def frz (r : DR) : M D := fun ρ => match r with
  | .dat d => some (.ok d, ρ)
  | .loc p => match ρ[p]? with
    | some (.ow oc) => some (.ok oc.data, ρ.set p (.dat oc.data))
    | _ => none
  | .exc _ _ => none
def frzAll : List DR → M (List D)
  | [] => M.ok []
  | r :: rs => M.bind (frz r) fun d => M.bind (frzAll rs) fun ds => M.ok (d :: ds)
section
variable {X : Cx} {P : Ps} {a b e : Expr} {pos : Pos} {c : Ct} {F H : Hp} {σ : L2.St} {τ : List (Option V)}
theorem Ho.frz {β : Type} {r : DR} {k : D → M β} {ρ : List DV} {v : V} {Φ : β → List DV → Hp → Hp → Prop} (h : Ho P c F σ τ (M.bind (DL.frz r) k ρ) Φ) (R : Rl P.K c F ρ (σ ++ τ) H) (hv : RefV P.K F (σ ++ τ) v r) :
    ∃ d F1 ρ1, Same F F1 ∧ Rl P.K c F1 ρ1 (σ ++ τ) H ∧ Rp P.K F1 v d ∧ Ho P c F1 σ τ (k d ρ1) Φ := by
  cases r with
  | dat d => exact ⟨d, F, ρ, Same.refl F, R, hv, h⟩
  | exc c d => exact (show False from h).elim
  | loc p =>
    unfold M.bind DL.frz at h
    dsimp only at h
    cases q : ρ[p]? with
    | none => rw [q] at h; exact (show False from h).elim
    | some x =>
      rw [q] at h
      cases x with
      | ow oc =>
        obtain ⟨a, e1, _⟩ := R.slot p _ _ q hv
        cases e1
        obtain ⟨u, h1, h2, h3, R'⟩ := R.freezeO q hv
        have sF : Same F (upd F a u) := Same.upd h2
        exact ⟨oc.data, _, _, sF, R', h3.rp sF upd_same, Ho.from h sF⟩
      | _ => exact (show False from h).elim
theorem Ho.frzAll {β : Type} : ∀ {rs : List DR} {k : List D → M β} {ρ : List DV} {vs : List V} {F : Hp} {Φ : β → List DV → Hp → Hp → Prop} (h : Ho P c F σ τ (M.bind (DL.frzAll rs) k ρ) Φ) (R : Rl P.K c F ρ (σ ++ τ) H) (hv : Paired (RefV P.K F (σ ++ τ)) vs rs),
    ∃ ds F1 ρ1, Same F F1 ∧ Rl P.K c F1 ρ1 (σ ++ τ) H ∧ RpAll P.K F1 vs ds ∧ Ho P c F1 σ τ (k ds ρ1) Φ
  | [], k, ρ, _, F, Φ, h, R, .nil => ⟨[], F, ρ, Same.refl F, R, .nil, h⟩
  | r :: rs, k, ρ, v :: vs, F, Φ, h, R, .cons h1 h2 => by
    have h' : Ho P c F σ τ (M.bind (DL.frz r) (fun d => M.bind (DL.frzAll rs) fun ds => k (d :: ds)) ρ) Φ := by
      have e : M.bind (DL.frzAll (r :: rs)) k ρ = M.bind (DL.frz r) (fun d => M.bind (DL.frzAll rs) fun ds => k (d :: ds)) ρ := by
        show M.bind (M.bind (DL.frz r) fun d => M.bind (DL.frzAll rs) fun ds => M.ok (d :: ds)) k ρ = _
        unfold M.bind
        cases DL.frz r ρ with
        | none => rfl
        | some o =>
          obtain ⟨o, ρ1⟩ := o
          cases o with
          | error x => rfl
          | ok d =>
            dsimp only
            cases DL.frzAll rs ρ1 with
            | none => rfl
            | some o =>
              obtain ⟨o, ρ2⟩ := o
              cases o <;> rfl
      rw [← e]; exact h
    obtain ⟨d, F1, ρ1, s1, R1, r1, q1⟩ := Ho.frz h' R h1
    obtain ⟨ds, F2, ρ2, s2, R2, r2, q2⟩ := Ho.frzAll q1 R1 (L2.Paired.mapP h2 fun v r x => x.mono s1)
    exact ⟨d :: ds, F2, ρ2, s1.trans s2, R2, .cons (r1.mono s2) r2, q2⟩

/-! ### and, or, not, if -/
def andT (m1 m2 : M Bool) : M Bool := M.bind m1 fun b => if b = true then m2 else M.ok false
def orT (m1 m2 : M Bool) : M Bool := M.bind m1 fun b => if b = true then M.ok true else m2
def notT (m : M Bool) : M Bool := M.bind m fun b => M.ok (!b)
theorem _root_.L2.PW.of {X : Cx} {e : Expr} {t t' : TT} (h : PW X e t) (w : ∀ σ H Q, t' σ H Q → t σ H Q) : PW X e t' := ⟨fun wh pins s σ H Q I q => h.run wh pins s σ H Q I (w _ _ _ q)⟩
section
variable {rest : List Expr} {m1 m2 : M Bool}
theorem dw_and (ha : PT X a (tT P m1)) (hb : PW X (.BoolOp .And (b :: rest) pos) (tT P m2)) : PW X (.BoolOp .And (a :: b :: rest) pos) (tT P (andT m1 m2)) := by
  refine (pw_and ha hb).of fun σ H Q q => ?_
  obtain ⟨c, F, τ, ρ, R, q⟩ := q
  refine ⟨c, F, τ, ρ, R, (Ho.bind q).mono fun x ρ1 F1 H1 s1 R1 q1 => ?_⟩
  cases x with
  | true => exact ⟨c, F1, τ, ρ1, R1, q1⟩
  | false => exact Ho.now q1 R1
theorem dw_or (ha : PT X a (tT P m1)) (hb : PW X (.BoolOp .Or (b :: rest) pos) (tT P m2)) : PW X (.BoolOp .Or (a :: b :: rest) pos) (tT P (orT m1 m2)) := by
  refine (pw_or ha hb).of fun σ H Q q => ?_
  obtain ⟨c, F, τ, ρ, R, q⟩ := q
  refine ⟨c, F, τ, ρ, R, (Ho.bind q).mono fun x ρ1 F1 H1 s1 R1 q1 => ?_⟩
  cases x with
  | true => exact Ho.now q1 R1
  | false => exact ⟨c, F1, τ, ρ1, R1, q1⟩
theorem dt_not (ha : PT X a (tT P m1)) : PT X (.UnaryOp .Not a pos) (tT P (notT m1)) := by
  refine (pt_not ha).of fun σ H Q q => ?_
  obtain ⟨c, F, τ, ρ, R, q⟩ := q
  exact ⟨c, F, τ, ρ, R, (Ho.bind q).mono fun x ρ1 F1 H1 s1 R1 q1 => Ho.now q1 R1⟩
end
/-- as values (bools all but the last) -/
def andV (m1 m2 : M DR) : M DR := M.bind (eB m1) fun b => if b = true then m2 else M.ok (.dat (.bool false))
def orV (m1 m2 : M DR) : M DR := M.bind (eB m1) fun b => if b = true then M.ok (.dat (.bool true)) else m2
def notV (m : M DR) : M DR := M.bind (eB m) fun b => M.ok (.dat (.bool (!b)))
section
variable {rest : List Expr} {m1 m2 : M DR}
theorem Ho.bl {m : M DR} {β : Type} {k : Bool → M β} {ρ : List DV} {Φ : β → List DV → Hp → Hp → Prop} (h : Ho P c F σ τ (M.bind (eB m) k ρ) Φ) :
    Ho P c F σ τ (m ρ) fun r ρ1 F1 H1 => ∀ v, RefV P.K F1 (σ ++ τ) v r → ∃ b, v = .bl b ∧ Ho P c F1 σ τ (k b ρ1) Φ := by
  have h1 := Ho.bind h
  refine (Ho.bind (show Ho P c F σ τ (M.bind m asB ρ) _ from h1)).mono fun r ρ1 F1 H1 s1 R1 q1 v hv => ?_
  cases r with
  | loc p => exact (show False from q1).elim
  | exc c d => exact (show False from q1).elim
  | dat d =>
    cases d with
    | bool b =>
      cases (show Rp P.K F1 v (.bool b) from hv)
      exact ⟨b, rfl, q1 F1 H1 (Same.refl _) R1⟩
    | _ => exact (show False from q1).elim
theorem de_and (ha : PE X a (tE P m1)) (hb : PE X (.BoolOp .And (b :: rest) pos) (tE P m2)) : PE X (.BoolOp .And (a :: b :: rest) pos) (tE P (andV m1 m2)) := by
  refine (pe_and ha hb).of fun σ H Q q => ?_
  obtain ⟨c, F, τ, ρ, R, q⟩ := q
  refine ⟨c, F, τ, ρ, R, (Ho.bl q).mono fun r ρ1 F1 H1 s1 R1 q1 v hv => ?_⟩
  obtain ⟨x, e, q1⟩ := q1 v hv
  refine ⟨x, e, ?_⟩
  cases x with
  | true => exact ⟨c, F1, τ, ρ1, R1, q1⟩
  | false => exact Ho.now q1 R1 _ (.bl false)
theorem de_or (ha : PE X a (tE P m1)) (hb : PE X (.BoolOp .Or (b :: rest) pos) (tE P m2)) : PE X (.BoolOp .Or (a :: b :: rest) pos) (tE P (orV m1 m2)) := by
  refine (pe_or ha hb).of fun σ H Q q => ?_
  obtain ⟨c, F, τ, ρ, R, q⟩ := q
  refine ⟨c, F, τ, ρ, R, (Ho.bl q).mono fun r ρ1 F1 H1 s1 R1 q1 v hv => ?_⟩
  obtain ⟨x, e, q1⟩ := q1 v hv
  refine ⟨x, e, ?_⟩
  cases x with
  | true => exact Ho.now q1 R1 _ (.bl true)
  | false => exact ⟨c, F1, τ, ρ1, R1, q1⟩
theorem de_not (ha : PE X a (tE P m1)) : PE X (.UnaryOp .Not a pos) (tE P (notV m1)) := by
  refine (pe_not ha).of fun σ H Q q => ?_
  obtain ⟨c, F, τ, ρ, R, q⟩ := q
  refine ⟨c, F, τ, ρ, R, (Ho.bl q).mono fun r ρ1 F1 H1 s1 R1 q1 v hv => ?_⟩
  obtain ⟨x, e, q1⟩ := q1 v hv
  exact ⟨x, e, Ho.now q1 R1 _ (.bl _)⟩
/-- any expression whose value is a bool, as a test -/
theorem dt_val {m : M DR} (h : PE X e (tE P m)) (he : ∀ whole, isTrue e X.env whole = (do let v ← whole; standAt e.pos; holding [v] (truthy v))) : PT X e (tT P (eB m)) :=
  (pt_val h he).of fun σ H Q q => tT_B (P := P) σ H Q q
def ifV (mc : M Bool) (m1 m2 : M DR) : M DR := M.bind mc fun b => if b = true then m1 else m2
theorem de_if {c : Expr} {mc : M Bool} (hc : PT X c (tT P mc)) (ha : PE X a (tE P m1)) (hb : PE X b (tE P m2)) : PE X (.IfExp c a b pos) (tE P (ifV mc m1 m2)) := by
  refine (pe_ifExp hc ha hb).of fun σ H Q q => ?_
  obtain ⟨c, F, τ, ρ, R, q⟩ := q
  refine ⟨c, F, τ, ρ, R, (Ho.bind q).mono fun x ρ1 F1 H1 s1 R1 q1 => ?_⟩
  cases x with
  | true => exact ⟨c, F1, τ, ρ1, R1, q1⟩
  | false => exact ⟨c, F1, τ, ρ1, R1, q1⟩
/-- a op1 b op2 c -/
def eChain (f g : D → D → Option D) (ma mb mc : M DR) : M DR := M.bind ma fun x => M.bind mb fun y => M.bind (rd x) fun d => M.bind (rd y) fun e => M.bind (M.opt (f d e)) fun z =>
  match z with
  | .bool true => M.bind mc fun w => M.bind (rd y) fun e => M.bind (rd w) fun u => M.bind (M.opt (g e u)) fun z => M.ok (.dat z)
  | .bool false => M.ok (.dat (.bool false))
  | _ => M.no
theorem tE_chain {r r' : R2} {f g : D → D → Option D} {ma mb mc : M DR} (hf : OpD X P r f) (hg : OpD X P r' g) (σ : L2.St) (H : Hp) (Q : VK) (q : tE P (eChain f g ma mb mc) σ H Q) : tChain r r' (tE P ma) (tE P mb) (tE P mc) σ H Q := by
  obtain ⟨c, F, τ, ρ, R, q⟩ := q
  refine ⟨c, F, τ, ρ, R, (Ho.bind q).mono fun x ρ1 F1 H1 s1 R1 q1 v hv => ?_⟩
  refine ⟨c, F1, τ, ρ1, R1, (Ho.bind q1).mono fun y ρ2 F2 H2 s2 R2 q2 u hu => ?_⟩
  obtain ⟨d, q3, n1⟩ := Ho.now1 q2 R2 (hv.mono s2)
  obtain ⟨e, q4, n2⟩ := Ho.now1 q3 R2 hu
  obtain ⟨z, ez, q5⟩ := Ho.opt (H := H2) q4
  refine hf c F2 H2 (σ ++ τ) ρ2 v u d e z _ R2 n1 n2 ez fun F' H' w s R' rp => ?_
  cases z with
  | bool k =>
    cases rp
    refine ⟨k, rfl, ?_⟩
    cases k with
    | false => exact Ho.now (Ho.from (P := P) q5 s) R' _ (.bl false)
    | true =>
      refine ⟨c, F', τ, ρ2, R', (Ho.bind (Ho.from q5 s)).mono fun y3 ρ3 F3 H3 s3 R3 q6 w3 hw3 => ?_⟩
      obtain ⟨e', q7, n3⟩ := Ho.now1 q6 R3 ((hu.mono s).mono s3)
      obtain ⟨u', q8, n4⟩ := Ho.now1 q7 R3 hw3
      obtain ⟨z', ez', q9⟩ := Ho.opt (H := H3) q8
      exact hg c F3 H3 (σ ++ τ) ρ3 u w3 e' u' z' Q R3 n3 n4 ez' fun F' H' w s R' rp => q9 F' H' s R' w rp
  | _ => exact (show False from q5).elim
theorem de_chain {op op' : CmpOp} {r r' : R2} {f g : D → D → Option D} {cx : Expr} {ma mb mc : M DR} (ho : OpR X (compareOp op) r) (hf : OpD X P r f) (ho' : OpR X (compareOp op') r') (hg : OpD X P r' g) (ha : PE X a (tE P ma)) (hb : PE X b (tE P mb)) (hc : PE X cx (tE P mc))
    (hm : lastMarks [op, op'] [b, cx] = false) : PE X (.Compare a [op, op'] [b, cx] pos) (tE P (eChain f g ma mb mc)) := (pe_chain ho ho' ha hb hc hm).of (tE_chain hf hg)
theorem dt_chain {op op' : CmpOp} {r r' : R2} {f g : D → D → Option D} {cx : Expr} {ma mb mc : M DR} (ho : OpR X (compareOp op) r) (hf : OpD X P r f) (ho' : OpR X (compareOp op') r') (hg : OpD X P r' g) (ha : PE X a (tE P ma)) (hb : PE X b (tE P mb)) (hc : PE X cx (tE P mc))
    (hm : lastMarks [op, op'] [b, cx] = false) : PT X (.Compare a [op, op'] [b, cx] pos) (tT P (eB (eChain f g ma mb mc))) := (pt_chain ho ho' ha hb hc hm).of fun σ H Q q => by
  obtain ⟨c, F, τ, ρ, R, q⟩ := tT_B (P := P) σ H Q q
  exact tE_chain hf hg σ H _ ⟨c, F, τ, ρ, R, q⟩
end

/-! ### arguments, displays -/
def aNil : M (List DR) := M.ok []
def aCons (m : M DR) (ms : M (List DR)) : M (List DR) := M.bind m fun r => M.bind ms fun rs => M.ok (r :: rs)
theorem da_nil : PA X [] (tA P aNil) := pa_nil.of fun σ H Q q => by
  obtain ⟨c, F, τ, ρ, R, q⟩ := q
  exact Ho.now q R [] .nil
theorem paired_mono {P : Ps} {F F' : Hp} {L : List (Option V)} {vs : List V} {rs : List DR} (h : Paired (RefV P.K F L) vs rs) (s : Same F F') : Paired (RefV P.K F' L) vs rs   := L2.Paired.mapP h fun v r x => x.mono s
theorem da_cons {es : List Expr} {m : M DR} {ms : M (List DR)} (ha : PE X e (tE P m)) (hr : PA X es (tA P ms)) (hs : starEach (e :: es) X.env = (false, eval e X.env) :: starEach es X.env) : PA X (e :: es) (tA P (aCons m ms)) := by
  refine (pa_cons ha hr hs).of fun σ H Q q => ?_
  obtain ⟨c, F, τ, ρ, R, q⟩ := q
  refine ⟨c, F, τ, ρ, R, (Ho.bind q).mono fun r ρ1 F1 H1 s1 R1 q1 v hv => ?_⟩
  refine ⟨c, F1, τ, ρ1, R1, (Ho.bind q1).mono fun rs ρ2 F2 H2 s2 R2 q2 vs hvs => ?_⟩
  exact Ho.now q2 R2 (v :: vs) (.cons (hv.mono s2) hvs)
def eTup (ms : M (List DR)) : M DR := M.bind ms fun rs => M.bind (frzAll rs) fun ds => if ds.length ≤ 16777216 then M.ok (.dat (.tuple ds)) else M.no
def eLst (ms : M (List DR)) : M DR := M.bind ms fun rs => M.bind (frzAll rs) fun ds => if ds.length ≤ 16777216 then M.ok (.dat (.list ds)) else M.no
theorem Ho.if_ {α : Type} {p : Prop} [Decidable p] {m : M α} {ρ : List DV} {Φ : α → List DV → Hp → Hp → Prop} (h : Ho P c F σ τ ((if p then m else M.no) ρ) Φ) : p ∧ Ho P c F σ τ (m ρ) Φ := by
  by_cases hp : p
  · rw [if_pos hp] at h; exact ⟨hp, h⟩
  · rw [if_neg hp] at h; exact (show False from h).elim
theorem de_tup {es : List Expr} {k : Nat} {ms : M (List DR)} (h : PA X es (tA P ms)) : PE X (.Tuple es k pos) (tE P (eTup ms)) := by
  refine (pe_tup h).of fun σ H Q q => ?_
  have hs : sizeLine = 16777216 := sizeLine_eq
  obtain ⟨c, F, τ, ρ, R, q⟩ := q
  refine ⟨c, F, τ, ρ, R, (Ho.bind q).mono fun rs ρ1 F1 H1 s1 R1 q1 vs hvs => ?_⟩
  obtain ⟨ds, F2, ρ2, s2, R2, r2, q2⟩ := Ho.frzAll q1 R1 hvs
  obtain ⟨hl, q3⟩ := Ho.if_ q2
  refine ⟨by rw [r2.length]; omega, fun p hp => ?_⟩
  have hF : F2 p = none := R2.sub.free hp
  exact q3 _ _ (Same.upd hF) (R2.new hp) _ (rp_newT r2 hF)
theorem de_lst {es : List Expr} {ms : M (List DR)} (h : PA X es (tA P ms)) : PE X (.List es pos) (tE P (eLst ms)) := by
  refine (pe_lst h).of fun σ H Q q => ?_
  have hs : sizeLine = 16777216 := sizeLine_eq
  obtain ⟨c, F, τ, ρ, R, q⟩ := q
  refine ⟨c, F, τ, ρ, R, (Ho.bind q).mono fun rs ρ1 F1 H1 s1 R1 q1 vs hvs => ?_⟩
  obtain ⟨ds, F2, ρ2, s2, R2, r2, q2⟩ := Ho.frzAll q1 R1 hvs
  obtain ⟨hl, q3⟩ := Ho.if_ q2
  refine ⟨by rw [r2.length]; omega, fun p hp => ?_⟩
  have hF : F2 p = none := R2.sub.free hp
  exact q3 _ _ (Same.upd hF) (R2.new hp) _ (rp_new r2 hF)

/-! ### calls of built-ins -/
def rdAll : List DR → M (List D)
  | [] => M.ok []
  | r :: rs => M.bind (rd r) fun d => M.bind (rdAll rs) fun ds => M.ok (d :: ds)
def eCB (f : List D → Option D) (ms : M (List DR)) : M DR := M.bind ms fun rs => M.bind (rdAll rs) fun ds => M.bind (M.opt (f ds)) fun z => M.ok (.dat z)
theorem M.assoc {α β γ : Type} (m : M α) (k : α → M β) (l : β → M γ) (ρ : List DV) : M.bind (M.bind m k) l ρ = M.bind m (fun a => M.bind (k a) l) ρ := by
  unfold M.bind
  cases m ρ with
  | none => rfl
  | some o =>
    obtain ⟨o, ρ1⟩ := o
    cases o <;> rfl
theorem Ho.rdAll {β : Type} : ∀ {rs : List DR} {k : List D → M β} {ρ : List DV} {vs : List V} {Φ : β → List DV → Hp → Hp → Prop} (h : Ho P c F σ τ (M.bind (DL.rdAll rs) k ρ) Φ) (R : Rl P.K c F ρ (σ ++ τ) H) (hv : Paired (RefV P.K F (σ ++ τ)) vs rs),
    ∃ ds, Paired (Now P.K F H) vs ds ∧ Ho P c F σ τ (k ds ρ) Φ
  | [], k, ρ, _, Φ, h, R, .nil => ⟨[], .nil, h⟩
  | r :: rs, k, ρ, v :: vs, Φ, h, R, .cons h1 h2 => by
    have h' : Ho P c F σ τ (M.bind (DL.rd r) (fun d => M.bind (DL.rdAll rs) fun ds => k (d :: ds)) ρ) Φ := by
      have e : M.bind (DL.rdAll (r :: rs)) k ρ = M.bind (DL.rd r) (fun d => M.bind (DL.rdAll rs) fun ds => k (d :: ds)) ρ := by
        show M.bind (M.bind (DL.rd r) fun d => M.bind (DL.rdAll rs) fun ds => M.ok (d :: ds)) k ρ = _
        rw [M.assoc]
        have z : (fun a => M.bind (M.bind (DL.rdAll rs) fun ds => M.ok (a :: ds)) k) = (fun d => M.bind (DL.rdAll rs) fun ds => k (d :: ds)) := by
          funext d ρ'
          rw [M.assoc]
          rfl
        rw [z]
      rw [← e]; exact h
    obtain ⟨d, q1, n1⟩ := Ho.now1 h' R h1
    obtain ⟨ds, n2, q2⟩ := Ho.rdAll q1 R h2
    exact ⟨d :: ds, .cons n1 n2, q2⟩
/-- a built-in's rule by data -/
def CbD (P : Ps) (r : List V → Hp → VK → Prop) (f : List D → Option D) : Prop :=
  ∀ (c : Ct) (F H : Hp) (L : List (Option V)) (ρ : List DV) (vs : List V) (ds : List D) (z : D) (Q : VK), Rl P.K c F ρ L H → Paired (Now P.K F H) vs ds → f ds = some z →
    (∀ F' H' v, Same F F' → Rl P.K c F' ρ L H' → Rp P.K F' v z → Q v H') → r vs H Q
theorem tE_cb {r : List V → Hp → VK → Prop} {f : List D → Option D} {ms : M (List DR)} (h : CbD P r f) (σ : L2.St) (H : Hp) (Q : VK) (q : tE P (eCB f ms) σ H Q) : tCB r (tA P ms) σ H Q := by
  obtain ⟨c, F, τ, ρ, R, q⟩ := q
  refine ⟨c, F, τ, ρ, R, (Ho.bind q).mono fun rs ρ1 F1 H1 s1 R1 q1 vs hvs => ?_⟩
  obtain ⟨ds, n, q2⟩ := Ho.rdAll q1 R1 hvs
  obtain ⟨z, ez, q3⟩ := Ho.opt (H := H1) q2
  exact h c F1 H1 (σ ++ τ) ρ1 vs ds z Q R1 n ez fun F' H' w s R' rp => q3 F' H' s R' w rp
theorem de_cb {x : Str} {p : Pos} {es : List Expr} {id : String} {r : List V → Hp → VK → Prop} {f : List D → Option D} {ms : M (List DR)} (hc : CallR X (.builtin id) r) (h : CbD P r f) (hg : Gl X x) (hm : X.mg x = none) (hv : bootBuiltins x = some (.builtin id)) (ha : PA X (e :: es) (tA P ms)) (hn : x ≠ "__name__") (hdb : (x == ("__debug__" : Str)) = false)
    (he : starEach (e :: es) X.env = (false, eval e X.env) :: starEach es X.env) (hpl : (backTo pos (starEach es X.env)).any (·.1) = false) : PE X (.Call (.Name x p) (e :: es) [] pos) (tE P (eCB f ms)) := (pe_callB hc hg hm hv ha hn hdb he hpl).of (tE_cb h)
theorem de_cty {x : Str} {p : Pos} {es : List Expr} {T : String} {r : List V → Hp → VK → Prop} {f : List D → Option D} {ms : M (List DR)} (hc : CallR X (.type T) r) (h : CbD P r f) (hg : Gl X x) (hm : X.mg x = none) (hv : bootBuiltins x = some (.type T)) (ha : PA X (e :: es) (tA P ms)) (hn : x ≠ "__name__") (hdb : (x == ("__debug__" : Str)) = false)
    (he : starEach (e :: es) X.env = (false, eval e X.env) :: starEach es X.env) (hpl : (backTo pos (starEach es X.env)).any (·.1) = false) : PE X (.Call (.Name x p) (e :: es) [] pos) (tE P (eCB f ms)) := (pe_callTy hc hg hm hv ha hn hdb he hpl).of (tE_cb h)
def absF : List D → Option D
  | [.int i] => some (.int (if i < 0 then -i else i))
  | _ => none
def maxF : List D → Option D
  | [.int i, .int j] => some (.int (if j > i then j else i))
  | _ => none
def minF : List D → Option D
  | [.int i, .int j] => some (.int (if j < i then j else i))
  | _ => none
def intF : List D → Option D
  | [.int i] => some (.int i)
  | [.bool b] => some (.int (if b then 1 else 0))
  | _ => none
def lenF : List D → Option D
  | [.list xs] => some (.int xs.length)
  | [.tuple xs] => some (.int xs.length)
  | _ => none
theorem now1 {K : Frag} {H : Hp} {vs : List V} {d : D} (h : Paired (Now K F H) vs [d]) : ∃ v, vs = [v] ∧ Now K F H v d := by
  cases h with
  | cons h1 h2 => cases h2; exact ⟨_, rfl, h1⟩
theorem now2 {K : Frag} {H : Hp} {vs : List V} {d e : D} (h : Paired (Now K F H) vs [d, e]) : ∃ v w, vs = [v, w] ∧ Now K F H v d ∧ Now K F H w e := by
  cases h with
  | cons h1 h2 =>
    cases h2 with
    | cons h3 h4 => cases h4; exact ⟨_, _, rfl, h1, h3⟩
theorem cbd_abs : CbD P (fun xs H Q => ∃ i, xs = [.int i] ∧ Q (.int (if i < 0 then -i else i)) H) absF := by
  intro c F H L ρ vs ds z Q R n hz q
  unfold absF at hz
  split at hz
  · cases wid hz
    obtain ⟨v, rfl, n0⟩ := now1 n
    exact ⟨_, by rw [n0.int], q F H _ (Same.refl F) R (.int _)⟩
  · cases hz
theorem cbd_max : CbD P (fun xs H Q => ∃ i j, xs = [.int i, .int j] ∧ Q (.int (if j > i then j else i)) H) maxF := by
  intro c F H L ρ vs ds z Q R n hz q
  unfold maxF at hz
  split at hz
  · cases wid hz
    obtain ⟨v, w, rfl, n1, n2⟩ := now2 n
    exact ⟨_, _, by rw [n1.int, n2.int], q F H _ (Same.refl F) R (.int _)⟩
  · cases hz
theorem cbd_min : CbD P (fun xs H Q => ∃ i j, xs = [.int i, .int j] ∧ Q (.int (if j < i then j else i)) H) minF := by
  intro c F H L ρ vs ds z Q R n hz q
  unfold minF at hz
  split at hz
  · cases wid hz
    obtain ⟨v, w, rfl, n1, n2⟩ := now2 n
    exact ⟨_, _, by rw [n1.int, n2.int], q F H _ (Same.refl F) R (.int _)⟩
  · cases hz
theorem cbd_int : CbD P (fun xs H Q => (∃ i, xs = [.int i] ∧ Q (.int i) H) ∨ ∃ k, xs = [.bl k] ∧ Q (.int (if k then 1 else 0)) H) intF := by
  intro c F H L ρ vs ds z Q R n hz q
  unfold intF at hz
  split at hz
  · cases wid hz
    obtain ⟨v, rfl, n0⟩ := now1 n
    exact .inl ⟨_, by rw [n0.int], q F H _ (Same.refl F) R (.int _)⟩
  · cases wid hz
    obtain ⟨v, rfl, n0⟩ := now1 n
    exact .inr ⟨_, by rw [n0.bool], q F H _ (Same.refl F) R (.int _)⟩
  · cases hz
theorem cbd_len (hK : P.K.K = X.K) : CbD P (fun xs H Q => ∃ p ys, xs = [.ref p] ∧ (SqL X.K H p ys ∨ SqT X.K H p ys) ∧ Q (.int ys.length) H) lenF := by
  intro c F H L ρ vs ds z Q R n hz q
  unfold lenF at hz
  split at hz
  · cases wid hz
    obtain ⟨v, rfl, n0⟩ := now1 n
    obtain ⟨a1, ws, rfl, h1, r1⟩ := n0.list R.sub
    refine ⟨a1, ws, rfl, .inl (hK ▸ h1), q F H _ (Same.refl F) R ?_⟩
    rw [r1.length]; exact .int _
  · cases wid hz
    obtain ⟨v, rfl, n0⟩ := now1 n
    obtain ⟨a1, ws, rfl, h1, _, r1⟩ := n0.tuple R.sub
    refine ⟨a1, ws, rfl, .inr (hK ▸ h1), q F H _ (Same.refl F) R ?_⟩
    rw [r1.length]; exact .int _
  · cases hz
end
end DL

set_option Elab.async false
set_option linter.all false
set_option maxRecDepth 100000
set_option maxHeartbeats 4000000
/-! DL5: statements: stores, if, return, blocks, for, while; lists that are changed. -/
namespace DL
open PySem PySem.Spec PyProof.Rows L2

section
variable {K : Frag} {F F' H : Hp} {c : Ct} {ρ : List DV} {L : List (Option V)}
/-- a slot is given data -/
theorem Rl.setD {i : Nat} {v : V} {d : D} (R : Rl K c F ρ L H) (h : Rp K F v d) (hb : ∀ x, ρ[i]? = some x → x.isBor = false) : Rl K c F (ρ.set i (.dat d)) (L.set i (some v)) H := by
  refine ⟨by rw [List.length_set, List.length_set]; exact R.len, R.sub, R.keep, fun j x w e1 e2 => ?_, fun j k x y a e1 e2 o1 o2 l1 l2 => ?_, fun j x a e1 o1 l1 => ?_, fun j es a e1 l1 => ?_, fun q hq => ?_, R.born⟩
  · rcases set_at e1 with ⟨rfl, rfl⟩ | ⟨hne, e1⟩
    · rcases set_at e2 with ⟨_, rfl⟩ | ⟨hne, _⟩
      · exact ⟨v, rfl, h⟩
      · exact absurd rfl hne
    · rcases set_at e2 with ⟨rfl, _⟩ | ⟨_, e2⟩
      · exact absurd rfl hne
      · exact R.slot j x w e1 e2
  · rcases set_at e1 with ⟨_, rfl⟩ | ⟨h1, e1⟩
    · exact absurd rfl o1
    · rcases set_at e2 with ⟨_, rfl⟩ | ⟨h2, e2⟩
      · exact absurd rfl o2
      · rw [List.getElem?_set_ne (fun z => h1 z.symm)] at l1
        rw [List.getElem?_set_ne (fun z => h2 z.symm)] at l2
        exact R.sep j k x y a e1 e2 o1 o2 l1 l2
  · rcases set_at e1 with ⟨_, rfl⟩ | ⟨h1, e1⟩
    · exact absurd rfl o1
    · rw [List.getElem?_set_ne (fun z => h1 z.symm)] at l1
      exact R.fresh j x a e1 o1 l1
  · rcases set_at e1 with ⟨_, q⟩ | ⟨h1, e1⟩
    · cases q
    · rw [List.getElem?_set_ne (fun z => h1 z.symm)] at l1
      exact R.nobor j es a e1 l1
  · obtain ⟨⟨es, e'⟩, l'⟩ := R.lent q hq
    have hne : i ≠ q.1 := fun z => by
      rw [← z] at e'
      exact absurd (hb _ e') (by simp [DV.isBor])
    exact ⟨⟨es, by rw [List.getElem?_set_ne hne]; exact e'⟩, by rw [List.getElem?_set_ne hne]; exact l'⟩
/-- the last temporary becomes the slot i's -/
theorem Rl.popTo {i : Nat} {v : V} {oc : OC} (R : Rl K c F (ρ ++ [.ow oc]) (L ++ [some v]) H) (hl : ρ.length = L.length) (hb : ∀ x, ρ[i]? = some x → x.isBor = false) : Rl K c F (ρ.set i (.ow oc)) (L.set i (some v)) H := by
  have lt_ : ∀ {j : Nat} {x : DV}, ρ[j]? = some x → (ρ ++ [DV.ow oc])[j]? = some x := fun {j x} e => by
    rw [List.getElem?_append_left (List.getElem?_eq_some_iff.mp e).1]; exact e
  have ltL : ∀ {j : Nat} {x : Option V}, L[j]? = some x → (L ++ [some v])[j]? = some x := fun {j x} e => by
    rw [List.getElem?_append_left (List.getElem?_eq_some_iff.mp e).1]; exact e
  have last1 : (ρ ++ [DV.ow oc])[ρ.length]? = some (.ow oc) := by rw [List.getElem?_append_right (Nat.le_refl _)]; simp
  have last2 : (L ++ [some v])[ρ.length]? = some (some v) := by rw [hl, List.getElem?_append_right (Nat.le_refl _)]; simp
  have ne_ : ∀ {j : Nat} {x : DV}, ρ[j]? = some x → j ≠ ρ.length := fun {j x} e => Nat.ne_of_lt (List.getElem?_eq_some_iff.mp e).1
  refine ⟨by rw [List.length_set, List.length_set]; exact hl, R.sub, R.keep, fun j x w e1 e2 => ?_, fun j k x y a e1 e2 o1 o2 l1 l2 => ?_, fun j x a e1 o1 l1 => ?_, fun j es a e1 l1 => ?_, fun q hq => ?_, R.born⟩
  · rcases set_at e1 with ⟨rfl, rfl⟩ | ⟨hne, e1⟩
    · rcases set_at e2 with ⟨_, rfl⟩ | ⟨hne, _⟩
      · exact R.slot _ _ _ last1 last2
      · exact absurd rfl hne
    · rcases set_at e2 with ⟨rfl, _⟩ | ⟨_, e2⟩
      · exact absurd rfl hne
      · exact R.slot j x w (lt_ e1) (ltL e2)
  · rcases set_at e1 with ⟨rfl, rfl⟩ | ⟨h1, g1⟩
    · rcases set_at e2 with ⟨rfl, rfl⟩ | ⟨h2, e2⟩
      · rfl
      · rw [List.getElem?_set_ne (fun z => h2 z.symm)] at l2
        rcases set_at l1 with ⟨_, z⟩ | ⟨hne, _⟩
        · cases z
          exact absurd (R.sep _ _ _ _ a (lt_ e2) last1 o2 (by simp [DV.cont]) (ltL l2) last2) (ne_ e2)
        · exact absurd rfl hne
    · rw [List.getElem?_set_ne (fun z => h1 z.symm)] at l1
      rcases set_at e2 with ⟨rfl, rfl⟩ | ⟨h2, g2⟩
      · rcases set_at l2 with ⟨_, z⟩ | ⟨hne, _⟩
        · cases z
          exact absurd (R.sep _ _ _ _ a (lt_ g1) last1 o1 (by simp [DV.cont]) (ltL l1) last2) (ne_ g1)
        · exact absurd rfl hne
      · rw [List.getElem?_set_ne (fun z => h2 z.symm)] at l2
        exact R.sep j k x y a (lt_ g1) (lt_ g2) o1 o2 (ltL l1) (ltL l2)
  · rcases set_at e1 with ⟨rfl, rfl⟩ | ⟨h1, e1⟩
    · rcases set_at l1 with ⟨_, z⟩ | ⟨hne, _⟩
      · cases z
        exact R.fresh _ _ a last1 (by simp [DV.cont]) last2
      · exact absurd rfl hne
    · rw [List.getElem?_set_ne (fun z => h1 z.symm)] at l1
      exact R.fresh j x a (lt_ e1) o1 (ltL l1)
  · rcases set_at e1 with ⟨rfl, z⟩ | ⟨h1, e1⟩
    · rcases set_at l1 with ⟨_, z⟩ | ⟨hne, _⟩
      · cases z
        exact R.nobor _ oc a last1 last2
      · exact absurd rfl hne
    · rw [List.getElem?_set_ne (fun z => h1 z.symm)] at l1
      exact R.nobor j es a (lt_ e1) (ltL l1)
  · obtain ⟨⟨es, e'⟩, l'⟩ := R.lent q hq
    have hlt : q.1 < ρ.length := by
      rcases Nat.lt_or_ge q.1 ρ.length with h | h
      · exact h
      · have e3 := (List.getElem?_eq_some_iff.mp e').1
        rw [List.length_append] at e3
        have : q.1 = ρ.length := by simp at e3; omega
        rw [this, last1] at e'
        cases e'
    rw [List.getElem?_append_left hlt] at e'
    rw [List.getElem?_append_left (by rw [← hl]; exact hlt)] at l'
    have hne : i ≠ q.1 := fun z => by
      rw [← z] at e'
      exact absurd (hb _ e') (by simp [DV.isBor])
    exact ⟨⟨es, by rw [List.getElem?_set_ne hne]; exact e'⟩, by rw [List.getElem?_set_ne hne]; exact l'⟩
/-- an own (or lent) object is changed -/
def DV.putO (x : DV) (oc : OC) : DV := match x with
  | .ow _ => .ow oc
  | .bo _ => .bo oc
  | y => y
abbrev DV.put (x : DV) (ds : List D) : DV := x.putO (.l ds)
theorem DV.putO_cont {x : DV} {oc ec : OC} (h : x.cont = some ec) : (x.putO oc).cont = some oc := by
  cases x <;> simp_all [DV.putO, DV.cont]
theorem DV.put_own {x : DV} {ds es : List D} (h : x.own = some es) : (x.put ds).own = some ds := by
  have := DV.cont_of h
  cases x <;> simp_all [DV.put, DV.putO, DV.own, DV.cont]
theorem Rl.writeO {p : Nat} {x : DV} {a : Addr} {oc es : OC} {u0 : HO} (R : Rl K c F ρ L H) (e : ρ[p]? = some x) (o : x.cont = some es) (l : L[p]? = some (some (.ref a))) (h : Hold K F a (some u0) oc) (hk : x.isBor = true → ∃ ds, oc = .l ds) : Rl K c F (ρ.set p (x.putO oc)) L (upd H a u0) := by
  obtain ⟨a', q1, hF, _⟩ := (R.slot p x _ e l).holds o
  cases q1
  have hp : p < ρ.length := (List.getElem?_eq_some_iff.mp e).1
  have at_ : ∀ {j : Nat} {y : DV}, (ρ.set p (x.putO oc))[j]? = some y → y.cont ≠ none → ∃ z, ρ[j]? = some z ∧ z.cont ≠ none := fun {j y} e1 o1 => by
    rcases set_at e1 with ⟨rfl, rfl⟩ | ⟨_, e1⟩
    · exact ⟨x, e, by rw [o]; simp⟩
    · exact ⟨y, e1, o1⟩
  refine ⟨by rw [List.length_set]; exact R.len, fun b u q => ?_, fun b u q n => ?_, fun j y w e1 e2 => ?_, fun j k y z b e1 e2 o1 o2 l1 l2 => ?_, fun j y b e1 o1 l1 => ?_, fun j fs b e1 l1 => ?_, fun q hq => ?_, R.born⟩
  · have : b ≠ a := fun z => by rw [z, hF] at q; cases q
    rw [upd_ne this]; exact R.sub b u q
  · have : b ≠ a := fun z => by
      rcases R.fresh p x a e (by rw [o]; simp) l with g | g
      · rw [z, g] at q; cases q
      · exact n (z ▸ g)
    rw [upd_ne this]; exact R.keep b u q n
  · rcases set_at e1 with ⟨rfl, rfl⟩ | ⟨hne, e1⟩
    · rw [l] at e2
      cases e2
      cases x with
      | ow _ => exact ⟨a, rfl, hF, by rw [upd_same]; exact h⟩
      | bo _ => exact ⟨a, rfl, hF, by rw [upd_same]; exact h⟩
      | _ => simp [DV.cont] at o
    · refine (R.slot j y w e1 e2).mono (Same.refl F) fun b hv ho h1 h2 => ⟨h1, ?_⟩
      have : b ≠ a := fun z => by
        subst z hv
        exact hne (R.sep j p y x b e1 e ho (by rw [o]; simp) e2 l)
      rw [upd_ne this]
  · obtain ⟨y', e1', o1'⟩ := at_ e1 o1
    obtain ⟨z', e2', o2'⟩ := at_ e2 o2
    exact R.sep j k y' z' b e1' e2' o1' o2' l1 l2
  · obtain ⟨y', e1', o1'⟩ := at_ e1 o1
    exact R.fresh j y' b e1' o1' l1
  · rcases set_at e1 with ⟨rfl, q⟩ | ⟨_, e1⟩
    · cases x with
      | ow es' => exact R.nobor _ es' b e l1
      | _ => simp [DV.putO] at q
    · exact R.nobor j fs b e1 l1
  · obtain ⟨⟨fs, e'⟩, l'⟩ := R.lent q hq
    by_cases hq' : p = q.1
    · rw [← hq'] at e'
      rw [e] at e'
      cases e'
      obtain ⟨ds, rfl⟩ := hk rfl
      exact ⟨⟨ds, by rw [← hq', List.getElem?_set_self hp]; rfl⟩, l'⟩
    · exact ⟨⟨fs, by rw [List.getElem?_set_ne hq']; exact e'⟩, l'⟩
theorem Rl.write {p : Nat} {x : DV} {a : Addr} {ds es : List D} {xs : List V} (R : Rl K c F ρ L H) (e : ρ[p]? = some x) (o : x.own = some es) (l : L[p]? = some (some (.ref a))) (h : RpAll K F xs ds) : Rl K c F (ρ.set p (x.put ds)) L (upd H a (.lst xs)) := R.writeO e (DV.cont_of o) l ⟨xs, rfl, h⟩ fun _ => ⟨ds, rfl⟩
end

/-! ### statements -/
inductive RV where
  | dat (d : D)
  | new (ds : List D)
inductive Fl where
  | nx
  | brk
  | cnt
  | ret (r : RV)
def RetV (K : Frag) (c : Ct) (F H : Hp) (v : V) : RV → Prop
  | .dat d => Rp K F v d
  | .new ds => ∃ a xs, v = .ref a ∧ F a = none ∧ c.Hi a = none ∧ a ∉ c.ads ∧ H a = some (.lst xs) ∧ RpAll K F xs ds
def HoS (P : Ps) (c : Ct) (F : Hp) (o : Option (Except Ex Fl × List DV)) (D : Ends) : Prop := match o with
  | none => False
  | some (.ok .nx, ρ) => ∀ σ F' H, Same F F' → Rl P.K c F' ρ σ H → D.nx σ H
  | some (.ok .brk, ρ) => ∀ σ F' H, Same F F' → Rl P.K c F' ρ σ H → D.bk σ H
  | some (.ok .cnt, ρ) => ∀ σ F' H, Same F F' → Rl P.K c F' ρ σ H → D.ct σ H
  | some (.ok (.ret r), ρ) => ∀ v σ F' H, Same F F' → Rl P.K c F' ρ σ H → RetV P.K c F' H v r → D.rt v H
  | some (.error x, ρ) => ∀ σ, Er P c F σ [] x ρ
theorem HoS.from {P : Ps} {c : Ct} {F F1 : Hp} {o : Option (Except Ex Fl × List DV)} {D : Ends} (h : HoS P c F o D) (s : Same F F1) : HoS P c F1 o D := by
  match o, h with
  | some (.ok .nx, ρ), h => exact fun σ F' H e R => h σ F' H (s.trans e) R
  | some (.ok .brk, ρ), h => exact fun σ F' H e R => h σ F' H (s.trans e) R
  | some (.ok .cnt, ρ), h => exact fun σ F' H e R => h σ F' H (s.trans e) R
  | some (.ok (.ret r), ρ), h => exact fun v σ F' H e R => h v σ F' H (s.trans e) R
  | some (.error x, ρ), h => exact fun σ => (h σ).mono s
def tS (P : Ps) (m : M Fl) : TS := fun D σ H => ∃ c F ρ, Rl P.K c F ρ σ H ∧ HoS P c F (m ρ) D

section
variable {X : Cx} {P : Ps} {a b e : Expr} {pos : Pos} {c : Ct} {F H : Hp} {σ : L2.St}
/-- an expression's step within a statement -/
theorem HoS.bind {α : Type} {m : M α} {k : α → M Fl} {ρ : List DV} {D : Ends} (σ : L2.St) (h : HoS P c F (M.bind m k ρ) D) :
    Ho P c F σ [] (m ρ) fun a ρ1 F1 _ => HoS P c F1 (k a ρ1) D := by
  unfold M.bind at h
  match q : m ρ with
  | none => rw [q] at h; exact h
  | some (.ok a, ρ1) =>
    rw [q] at h
    exact fun F1 H1 s R => HoS.from h s
  | some (.error x, ρ1) => rw [q] at h; exact h σ
theorem HoS.frz {r : DR} {k : D → M Fl} {ρ : List DV} {v : V} {D : Ends} (h : HoS P c F (M.bind (DL.frz r) k ρ) D) (R : Rl P.K c F ρ σ H) (hv : RefV P.K F σ v r) :
    ∃ d F1 ρ1, Same F F1 ∧ Rl P.K c F1 ρ1 σ H ∧ Rp P.K F1 v d ∧ HoS P c F1 (k d ρ1) D ∧ (∀ (i : Nat) (x : DV), ρ1[i]? = some x → x.isBor = true → ∃ y : DV, ρ[i]? = some y ∧ y.isBor = true) := by
  cases r with
  | dat d => exact ⟨d, F, ρ, Same.refl F, R, hv, h, fun i x e b => ⟨x, e, b⟩⟩
  | exc c d => exact (show False from h).elim
  | loc p =>
    unfold M.bind DL.frz at h
    dsimp only at h
    cases q : ρ[p]? with
    | none => rw [q] at h; exact (show False from h).elim
    | some x =>
      rw [q] at h
      cases x with
      | ow oc =>
        obtain ⟨a, e1, _⟩ := R.slot p _ _ q hv
        cases e1
        obtain ⟨u, h1, h2, h3, R'⟩ := R.freezeO q hv
        have sF : Same F (upd F a u) := Same.upd h2
        exact ⟨oc.data, _, _, sF, R', h3.rp sF upd_same, HoS.from h sF, fun i x e b => by
          rcases set_at e with ⟨_, rfl⟩ | ⟨_, e⟩
          · simp [DV.isBor] at b
          · exact ⟨x, e, b⟩⟩
      | _ => exact (show False from h).elim
theorem nilτ {K : Frag} {c : Ct} {F : Hp} {ρ : List DV} {σ : L2.St} {H : Hp} (R : Rl K c F ρ σ H) : Rl K c F ρ (σ ++ []) H := by rw [List.append_nil]; exact R
theorem nilτ' {K : Frag} {c : Ct} {F : Hp} {ρ : List DV} {σ : L2.St} {H : Hp} (R : Rl K c F ρ (σ ++ []) H) : Rl K c F ρ σ H := by rw [List.append_nil] at R; exact R

def sNil : M Fl := M.ok .nx
def sCons (m1 m2 : M Fl) : M Fl := M.bind m1 fun f => match f with
  | .nx => m2
  | f => M.ok f
theorem ds_nil : PSs X [] (tS P sNil) := pss_nil.of fun D σ H q => by
  obtain ⟨c, F, ρ, R, q⟩ := q
  exact q σ F H (Same.refl F) R
theorem ds_cons {st : Stmt} {rest : List Stmt} {m1 m2 : M Fl} (h1 : PS X st (tS P m1)) (h2 : PSs X rest (tS P m2)) : PSs X (st :: rest) (tS P (sCons m1 m2)) := (pss_cons h1 h2).of fun D σ H q => by
  obtain ⟨c, F, ρ, R, q⟩ := q
  refine ⟨c, F, ρ, R, ?_⟩
  unfold sCons M.bind at q
  match z : m1 ρ with
  | none => rw [z] at q; exact q
  | some (.ok .nx, ρ1) => rw [z] at q; exact fun σ1 F1 H1 s R1 => ⟨c, F1, ρ1, R1, HoS.from q s⟩
  | some (.ok .brk, ρ1) => rw [z] at q; exact q
  | some (.ok .cnt, ρ1) => rw [z] at q; exact q
  | some (.ok (.ret r), ρ1) => rw [z] at q; exact q
  | some (.error x, ρ1) => rw [z] at q; exact q
/-- a statement that is never reached -/
def sNever : M Fl := M.no
theorem ds_never {st : Stmt} : PS X st (tS P sNever) := ⟨fun _ _ _ _ _ _ ⟨_, _, _, _, h⟩ => (show False from h).elim⟩
def sPass : M Fl := M.ok .nx
theorem ds_pass : PS X (.Pass pos) (tS P sPass) := ps_pass.of fun D σ H q => by
  obtain ⟨c, F, ρ, R, q⟩ := q
  exact q σ F H (Same.refl F) R
def sBrk : M Fl := M.ok .brk
theorem ds_brk : PS X (.Break pos) (tS P sBrk) := ps_break.of fun D σ H q => by
  obtain ⟨c, F, ρ, R, q⟩ := q
  exact q σ F H (Same.refl F) R
def sCnt : M Fl := M.ok .cnt
theorem ds_cnt : PS X (.Continue pos) (tS P sCnt) := ps_continue.of fun D σ H q => by
  obtain ⟨c, F, ρ, R, q⟩ := q
  exact q σ F H (Same.refl F) R
def sExpr (m : M DR) : M Fl := M.bind m fun _ => M.ok .nx
theorem ds_expr {m : M DR} (h : PE X e (tE P m)) (hs : swapsWith e none pos.line X.env = pure false) : PS X (.Expr e pos) (tS P (sExpr m)) := (ps_expr h hs).of fun D σ H q => by
  obtain ⟨c, F, ρ, R, q⟩ := q
  refine ⟨c, F, [], ρ, nilτ R, (HoS.bind σ q).mono fun r ρ1 F1 H1 s R1 q1 v hv => ?_⟩
  exact q1 σ F1 H1 (Same.refl _) (nilτ' R1)
def sIf (mc : M Bool) (m1 m2 : M Fl) : M Fl := M.bind mc fun b => if b = true then m1 else m2
theorem ds_if {cx : Expr} {s1 s2 : List Stmt} {mc : M Bool} {m1 m2 : M Fl} (hc : PT X cx (tT P mc)) (h1 : PSs X s1 (tS P m1)) (h2 : PSs X s2 (tS P m2)) : PS X (.If cx s1 s2 pos) (tS P (sIf mc m1 m2)) := (ps_if hc h1 h2).of fun D σ H q => by
  obtain ⟨c, F, ρ, R, q⟩ := q
  refine ⟨c, F, [], ρ, nilτ R, (HoS.bind σ q).mono fun r ρ1 F1 H1 s R1 q1 => ?_⟩
  cases r with
  | true => exact ⟨c, F1, ρ1, nilτ' R1, q1⟩
  | false => exact ⟨c, F1, ρ1, nilτ' R1, q1⟩
/-- return of data -/
def sRet (m : M DR) : M Fl := M.bind m fun r => M.bind (frz r) fun d => M.ok (.ret (.dat d))
theorem ds_ret {m : M DR} (h : PE X e (tE P m)) : PS X (.Return (some e) pos) (tS P (sRet m)) := (ps_ret h).of fun D σ H q => by
  obtain ⟨c, F, ρ, R, q⟩ := q
  refine ⟨c, F, [], ρ, nilτ R, (HoS.bind σ q).mono fun r ρ1 F1 H1 s R1 q1 v hv => ?_⟩
  obtain ⟨d, F2, ρ2, s2, R2, r2, q2, _⟩ := HoS.frz q1 (nilτ' R1) (by rw [List.append_nil] at hv; exact hv)
  exact q2 v σ F2 H1 (Same.refl _) R2 r2
/-- return of an own list -/
def sRetOwn (i : Nat) : M Fl := fun ρ => match ρ[i]? with
  | some (.lst ds) => some (.ok (.ret (.new ds)), ρ)
  | _ => none
theorem ds_retOwn {i : Nat} {x : Str} {p2 : Pos} (hN : X.N[i]? = some x) (hv : Vis X.env.scope x) (hd : (x == ("__debug__" : Str)) = false := by decide) (hcd : (x == ("__classdict__" : Str)) = false := by decide) : PS X (.Return (some (.Name x p2)) pos) (tS P (sRetOwn i)) := by
  refine ⟨fun pins s σ H D I q => (ps_ret (pe_var (i := i) hN hv hd hcd)).run pins s σ H D I ?_⟩
  obtain ⟨c, F, ρ, R, q⟩ := q
  have hi : i < σ.length := by rw [I.len]; exact (List.getElem?_eq_some_iff.mp hN).1
  unfold sRetOwn at q
  cases z : ρ[i]? with
  | none => rw [z] at q; exact (show False from q).elim
  | some y =>
    rw [z] at q
    cases y with
    | ow oc =>
      cases oc with
      | d kvs => exact (show False from q).elim
      | l ds =>
      obtain ⟨v, ev⟩ : ∃ v, σ[i]? = some v := by rw [List.getElem?_eq_getElem hi]; exact ⟨_, rfl⟩
      obtain ⟨a, e1, e2, xs, e3, e4⟩ := R.slot i _ v z ev
      subst e1
      refine ⟨.ref a, ev, q _ σ F H (Same.refl F) R ⟨a, xs, rfl, e2, ?_, R.nobor i (.l ds) a z ev, e3, e4⟩⟩
      rcases R.fresh i _ a z (by simp [DV.cont]) ev with g | g
      · exact g
      · exact absurd g (R.nobor i (.l ds) a z ev)
    | _ => exact (show False from q).elim
/-- x = e, data -/
def setD (i : Nat) (d : D) : M Unit := fun ρ => match ρ[i]? with
  | some x => if x.isBor then none else some (.ok (), ρ.set i (.dat d))
  | none => none
def sSet (i : Nat) (m : M DR) : M Fl := M.bind m fun r => M.bind (frz r) fun d => M.bind (setD i d) fun _ => M.ok .nx
theorem setD_some {i : Nat} {d : D} {ρ : List DV} {o : Except Ex Unit × List DV} (h : setD i d ρ = some o) : o = (.ok (), ρ.set i (.dat d)) ∧ ∀ x, ρ[i]? = some x → x.isBor = false := by
  unfold setD at h
  split at h
  · rename_i x e
    split at h
    · cases h
    · rename_i hb
      refine ⟨(Option.some.inj h).symm, fun y ey => ?_⟩
      rw [e] at ey
      cases ey
      exact Bool.eq_false_iff.mpr hb
  · cases h
theorem HoS.setD {i : Nat} {d : D} {k : Unit → M Fl} {ρ : List DV} {v : V} {D : Ends} (h : HoS P c F (M.bind (DL.setD i d) k ρ) D) (R : Rl P.K c F ρ σ H) (hv : Rp P.K F v d) :
    ∃ ρ1, Rl P.K c F ρ1 (σ.set i (some v)) H ∧ HoS P c F (k () ρ1) D := by
  unfold M.bind at h
  cases q : DL.setD i d ρ with
  | none => rw [q] at h; exact (show False from h).elim
  | some o =>
    obtain ⟨e, hb⟩ := setD_some q
    subst e
    rw [q] at h
    exact ⟨_, R.setD hv hb, h⟩
theorem ds_setK {i : Nat} {t : TE} {m : M DR} (w : ∀ σ H Q, tE P m σ H Q → t σ H Q) (D : Ends) (σ : L2.St) (H : Hp) (q : tS P (sSet i m) D σ H) : tAsg t (gName i) D σ H := by
  obtain ⟨c, F, ρ, R, q⟩ := q
  refine w σ H _ ⟨c, F, [], ρ, nilτ R, (HoS.bind σ q).mono fun r ρ1 F1 H1 s R1 q1 v hv => ?_⟩
  obtain ⟨d, F2, ρ2, s2, R2, r2, q2, _⟩ := HoS.frz q1 (nilτ' R1) (by rw [List.append_nil] at hv; exact hv)
  obtain ⟨ρ3, R3, q3⟩ := HoS.setD q2 R2 r2
  exact q3 _ F2 H1 (Same.refl _) R3
theorem ds_set {i : Nat} {x : Str} {p2 : Pos} {m : M DR} (hN : X.N.Nodup) (hi : X.N[i]? = some x) (hx : Loc X.env.scope x) (he : PE X e (tE P m)) (hs : swapsWith e (some (.Name x p2)) pos.line X.env = pure false) (hf : X.fn x = true ∨ X.env.scope.names.lookup x = some .local) :
    PS X (.Assign [.Name x p2] e pos) (tS P (sSet i m)) := (ps_set hN hi hx he hs hf).of (ds_setK fun _ _ _ q => q)

/-! ### new lists that a slot owns -/
def HoN (P : Ps) (c : Ct) (F : Hp) (σ : L2.St) (τ : List (Option V)) (o : Option (Except Ex Unit × List DV)) (Φ : List DV → Hp → Hp → V → Prop) : Prop := match o with
  | none => False
  | some (.ok _, ρ) => ∀ F' H' v, Same F F' → Rl P.K c F' ρ (σ ++ τ ++ [some v]) H' → Φ ρ F' H' v
  | some (.error x, ρ) => Er P c F σ τ x ρ
/-- an expression that makes a list of its own: it lies behind as the last temporary -/
def tN (P : Ps) (m : M Unit) : TE := fun σ H Q => ∃ c F τ ρ, Rl P.K c F ρ (σ ++ τ) H ∧ HoN P c F σ τ (m ρ) fun _ _ H' v => Q v H'
def push (ds : List D) : M Unit := fun ρ => some (.ok (), ρ ++ [.lst ds])
theorem Ho.push {τ : List (Option V)} {ρ : List DV} {ds : List D} {Φ : List DV → Hp → Hp → V → Prop} (h : HoN P c F σ τ (DL.push ds ρ) Φ) (R : Rl P.K c F ρ (σ ++ τ) H) {p : Addr} {xs : List V} (hp : H p = none) (r : RpAll P.K F xs ds) : Φ (ρ ++ [.lst ds]) F (upd H p (.lst xs)) (.ref p) :=
  h F _ _ (Same.refl F) (R.push hp r)
theorem HoN.bind {α : Type} {m : M α} {k : α → M Unit} {τ : List (Option V)} {ρ : List DV} {Φ : List DV → Hp → Hp → V → Prop} (h : HoN P c F σ τ (M.bind m k ρ) Φ) :
    Ho P c F σ τ (m ρ) fun a ρ1 F1 _ => HoN P c F1 σ τ (k a ρ1) Φ := by
  unfold M.bind at h
  match q : m ρ with
  | none => rw [q] at h; exact h
  | some (.ok a, ρ1) =>
    rw [q] at h
    dsimp only at h
    intro F1 H1 s R
    match z : k a ρ1 with
    | none => rw [z] at h; exact h
    | some (.ok u, ρ2) => rw [z] at h; exact fun F' H' v s' R' => h F' H' v (s.trans s') R'
    | some (.error x, ρ2) => rw [z] at h; exact Er.mono h s
  | some (.error x, ρ1) => rw [q] at h; exact h
def nLst (ms : M (List DR)) : M Unit := M.bind ms fun rs => M.bind (frzAll rs) fun ds => if ds.length ≤ 16777216 then push ds else M.no
theorem dn_lst {es : List Expr} {ms : M (List DR)} (h : PA X es (tA P ms)) : PE X (.List es pos) (tN P (nLst ms)) := by
  refine (pe_lst h).of fun σ H Q q => ?_
  have hs : sizeLine = 16777216 := sizeLine_eq
  obtain ⟨c, F, τ, ρ, R, q⟩ := q
  refine ⟨c, F, τ, ρ, R, (HoN.bind q).mono fun rs ρ1 F1 H1 s1 R1 q1 vs hvs => ?_⟩
  have q1' : Ho P c F1 σ τ (M.bind (frzAll rs) (fun ds => M.ok ds) ρ1) fun ds ρ2 F2 _ => HoN P c F2 σ τ ((if ds.length ≤ 16777216 then push ds else M.no) ρ2) fun _ _ H' v => Q v H' := by
    have := HoN.bind q1
    have e : M.bind (frzAll rs) (fun ds => M.ok ds) ρ1 = frzAll rs ρ1 := by
      unfold M.bind
      cases frzAll rs ρ1 with
      | none => rfl
      | some o => obtain ⟨o, r⟩ := o; cases o <;> rfl
    rw [e]; exact this
  obtain ⟨ds, F2, ρ2, s2, R2, r2, q2⟩ := Ho.frzAll q1' R1 hvs
  have q3 := Ho.now q2 R2
  by_cases hl : ds.length ≤ 16777216
  · rw [if_pos hl] at q3
    refine ⟨by rw [r2.length]; omega, fun p hp => ?_⟩
    exact Ho.push q3 R2 hp r2
  · rw [if_neg hl] at q3
    exact (show False from q3).elim
/-- x = a new list that x owns -/
def popTo (i : Nat) : M Unit := fun ρ => match ρ.getLast? with
  | some (.ow oc) => match ρ.dropLast[i]? with
    | some x => if x.isBor then none else some (.ok (), ρ.dropLast.set i (.ow oc))
    | none => none
  | _ => none
def sSetN (i : Nat) (m : M Unit) : M Fl := M.bind m fun _ => M.bind (popTo i) fun _ => M.ok .nx
theorem popTo_rl {K : Frag} {c : Ct} {F H : Hp} {ρ : List DV} {L : List (Option V)} {v : V} {i : Nat} {o : Except Ex Unit × List DV} (h : popTo i ρ = some o) (R : Rl K c F ρ (L ++ [some v]) H) : ∃ ρ1, o = (.ok (), ρ1) ∧ Rl K c F ρ1 (L.set i (some v)) H := by
  unfold popTo at h
  split at h
  · rename_i ds hl
    split at h
    · rename_i x hx
      split at h
      · cases h
      · rename_i hb
        cases h
        refine ⟨_, rfl, ?_⟩
        obtain ⟨ys, rfl⟩ := List.getLast?_eq_some_iff.mp hl
        rw [List.dropLast_concat] at hx ⊢
        have hlen : ys.length = L.length := by
          have := R.len
          simp only [List.length_append, List.length_singleton] at this
          omega
        refine Rl.popTo R hlen fun y hy => ?_
        rw [hx] at hy
        cases hy
        exact Bool.eq_false_iff.mpr hb
    · cases h
  · cases h
theorem ds_setNK {i : Nat} {t : TE} {m : M Unit} (w : ∀ σ H Q, tN P m σ H Q → t σ H Q) (D : Ends) (σ : L2.St) (H : Hp) (q : tS P (sSetN i m) D σ H) : tAsg t (gName i) D σ H := by
  obtain ⟨c, F, ρ, R, q⟩ := q
  refine w σ H _ ⟨c, F, [], ρ, nilτ R, ?_⟩
  unfold sSetN M.bind at q
  match z : m ρ with
  | none => rw [z] at q; exact q
  | some (.error x, ρ1) => rw [z] at q; exact q σ
  | some (.ok u, ρ1) =>
    rw [z] at q
    intro F' H' v s R1
    rw [List.append_nil] at R1
    dsimp only at q
    cases y : popTo i ρ1 with
    | none => rw [y] at q; exact (show False from q).elim
    | some o =>
      obtain ⟨ρ2, e, R2⟩ := popTo_rl y R1
      subst e
      rw [y] at q
      exact q _ F' H' s R2
theorem ds_setN {i : Nat} {x : Str} {p2 : Pos} {m : M Unit} (hN : X.N.Nodup) (hi : X.N[i]? = some x) (hx : Loc X.env.scope x) (he : PE X e (tN P m)) (hs : swapsWith e (some (.Name x p2)) pos.line X.env = pure false) (hf : X.fn x = true ∨ X.env.scope.names.lookup x = some .local) :
    PS X (.Assign [.Name x p2] e pos) (tS P (sSetN i m)) := (ps_set hN hi hx he hs hf).of (ds_setNK fun _ _ _ q => q)
/-- return of a new list -/
def sRetN (m : M Unit) : M Fl := M.bind m fun _ => fun ρ => match ρ.getLast? with
  | some (.lst ds) => some (.ok (.ret (.new ds)), ρ.dropLast)
  | _ => none
end
end DL

set_option Elab.async false
set_option linter.all false
set_option maxRecDepth 100000
set_option maxHeartbeats 4000000
/-! DL6: a def's promise by data, and its calls. -/
namespace DL
open PySem PySem.Spec PyProof.Rows L2

/-- what a def does by data: the lent list's content (the first parameter's, where it has one), the other arguments; the result, the content behind -/
abbrev Fsp := List D → List D → Option (Except Ex RV × List D)
def Lent (K : Frag) (F H : Hp) (oa : Option Addr) (w : List D) : Prop := match oa with
  | none => True
  | some a => F a = none ∧ ∃ xs, H a = some (.lst xs) ∧ RpAll K F xs w
def Frm (oa : Option Addr) (H H' : Hp) : Prop := ∀ b o, H b = some o → oa ≠ some b → H' b = some o
def New (F H F' : Hp) : Prop := ∀ b o, F' b = some o → F b = some o ∨ H b = none
def RvOk (K : Frag) (F' H H' : Hp) (v : V) : RV → Prop
  | .dat d => Rp K F' v d
  | .new ds => ∃ a xs, v = .ref a ∧ F' a = none ∧ H a = none ∧ H' a = some (.lst xs) ∧ RpAll K F' xs ds
def argV (oa : Option Addr) (us : List V) : List V := match oa with
  | none => us
  | some a => .ref a :: us
/-- the promise -/
def spD (K : Frag) (own : Bool) (n : Nat) (f : Fsp) : Sp := fun vs H Q E => vs.length = n ∧ ∃ (F : Hp) (oa : Option Addr) (us : List V) (w ds : List D), oa.isSome = own ∧ vs = argV oa us ∧ Same F H ∧ Lent K F H oa w ∧ RpAll K F us ds ∧
  match f w ds with
  | none => False
  | some (.ok r, w') => ∀ v F' H', Same F F' → Same F' H' → New F H F' → Frm oa H H' → Lent K F' H' oa w' → RvOk K F' H H' v r → Q v H'
  | some (.error x, w') => ∀ C dd v F' H', Same F F' → Same F' H' → New F H F' → Frm oa H H' → Lent K F' H' oa w' → K.G x.1 = some (.ref C) → Rp K F' v x.2 → H' dd = some (.xd [(("value" : Str), v)]) → H dd = none → E (.ref C) (some dd) H'

section
variable {K : Frag} {F F' H H' : Hp} {c : Ct} {ρ : List DV} {L : List (Option V)}
theorem New.refl (F H : Hp) : New F H F := fun _ _ e => .inl e
/-- behind a call that was lent nothing -/
theorem Rl.call0 (R : Rl K c F ρ L H) (s : Same F F') (s' : Same F' H') (n : New F H F') (fr : Frm none H H') : Rl K c F' ρ L H' := by
  have keepH : ∀ b o, H b = some o → H' b = some o := fun b o e => fr b o e (fun z => nomatch z)
  refine ⟨R.len, s', fun b o q nb => keepH b o (R.keep b o q nb), fun i x v e1 e2 => (R.slot i x v e1 e2).mono s fun a _ _ h1 ⟨u, h2⟩ => ⟨?_, (keepH _ _ h2).trans h2.symm⟩, R.sep, R.fresh, R.nobor, R.lent, fun b o q => ?_⟩
  · cases q : F' a with
    | none => rfl
    | some o =>
      rcases n a o q with g | g
      · rw [h1] at g; cases g
      · rw [h2] at g; cases g
  · rcases n b o q with g | g
    · exact R.born b o g
    · exact .inr (R.freshAt g).1
/-- behind a call that was lent the list of the position p -/
theorem Rl.call1 {p : Nat} {x : DV} {a : Addr} {es w : List D} (R : Rl K c F ρ L H) (e : ρ[p]? = some x) (o : x.own = some es) (l : L[p]? = some (some (.ref a))) (s : Same F F') (s' : Same F' H') (n : New F H F') (fr : Frm (some a) H H')
    (lt : Lent K F' H' (some a) w) : Rl K c F' (ρ.set p (x.put w)) L H' := by
  obtain ⟨hF', xs, hH', hxs⟩ := lt
  have oc := DV.cont_of o
  obtain ⟨a', ys, q1, hF, hH, _⟩ := (R.slot p x _ e l).own o
  cases q1
  have hp : p < ρ.length := (List.getElem?_eq_some_iff.mp e).1
  have keepH : ∀ b o, b ≠ a → H b = some o → H' b = some o := fun b o hb e => fr b o e (fun z => hb (Option.some.inj z).symm)
  have at_ : ∀ {j : Nat} {y : DV}, (ρ.set p (x.put w))[j]? = some y → y.cont ≠ none → ∃ z, ρ[j]? = some z ∧ z.cont ≠ none := fun {j y} e1 o1 => by
    rcases set_at e1 with ⟨rfl, rfl⟩ | ⟨_, e1⟩
    · exact ⟨x, e, by rw [oc]; simp⟩
    · exact ⟨y, e1, o1⟩
  refine ⟨by rw [List.length_set]; exact R.len, s', fun b u q nb => ?_, fun j y v e1 e2 => ?_, fun j k y z b e1 e2 o1 o2 l1 l2 => ?_, fun j y b e1 o1 l1 => ?_, fun j fs b e1 l1 => ?_, fun q hq => ?_, fun b u q => ?_⟩
  · refine keepH b u (fun z => ?_) (R.keep b u q nb)
    rcases R.fresh p x a e (by rw [oc]; simp) l with g | g
    · rw [z, g] at q; cases q
    · exact nb (z ▸ g)
  · rcases set_at e1 with ⟨rfl, rfl⟩ | ⟨hne, e1⟩
    · rw [l] at e2
      cases e2
      cases x with
      | ow _ => exact ⟨a, rfl, hF', xs, hH', hxs⟩
      | bo _ => exact ⟨a, rfl, hF', xs, hH', hxs⟩
      | _ => simp [DV.own] at o
    · refine (R.slot j y v e1 e2).mono s fun b hv ho h1 ⟨u, h2⟩ => ⟨?_, (keepH b _ (fun z => ?_) h2).trans h2.symm⟩
      · cases q : F' b with
        | none => rfl
        | some u =>
          rcases n b u q with g | g
          · rw [h1] at g; cases g
          · rw [h2] at g; cases g
      · subst z hv
        exact hne (R.sep j p y x b e1 e ho (by rw [oc]; simp) e2 l)
  · obtain ⟨y', e1', o1'⟩ := at_ e1 o1
    obtain ⟨z', e2', o2'⟩ := at_ e2 o2
    exact R.sep j k y' z' b e1' e2' o1' o2' l1 l2
  · obtain ⟨y', e1', o1'⟩ := at_ e1 o1
    exact R.fresh j y' b e1' o1' l1
  · rcases set_at e1 with ⟨rfl, q⟩ | ⟨_, e1⟩
    · cases x with
      | ow es' => exact R.nobor _ es' b e l1
      | _ => simp [DV.put, DV.putO] at q
    · exact R.nobor j fs b e1 l1
  · obtain ⟨⟨fs, e'⟩, l'⟩ := R.lent q hq
    by_cases hq' : p = q.1
    · rw [← hq'] at e'
      rw [e] at e'
      cases e'
      exact ⟨⟨w, by rw [← hq', List.getElem?_set_self hp]; rfl⟩, l'⟩
    · exact ⟨⟨fs, by rw [List.getElem?_set_ne hq']; exact e'⟩, l'⟩
  · rcases n b u q with g | g
    · exact R.born b u g
    · exact .inr (R.freshAt g).1
/-- a list that came back new is owned by a new temporary -/
theorem Rl.pushAt {a : Addr} {xs : List V} {ds : List D} {H0 : Hp} (R : Rl K c F ρ L H) (hF : F a = none) (hH : H a = some (.lst xs)) (h : RpAll K F xs ds) (h0 : c.Hi a = none) (hB : a ∉ c.ads) (hno : ∀ (i : Nat) (x : DV), ρ[i]? = some x → x.cont ≠ none → L[i]? ≠ some (some (.ref a))) :
    Rl K c F (ρ ++ [.lst ds]) (L ++ [some (.ref a)]) H := by
  have at_ : ∀ {i : Nat} {x : DV}, (ρ ++ [DV.lst ds])[i]? = some x → (ρ[i]? = some x ∧ i < ρ.length) ∨ (i = ρ.length ∧ x = .lst ds) := fun {i x} e => by
    by_cases hi : i < ρ.length
    · rw [List.getElem?_append_left hi] at e; exact .inl ⟨e, hi⟩
    · rw [List.getElem?_append_right (by omega)] at e
      have : i - ρ.length = 0 := by
        cases q : i - ρ.length with
        | zero => rfl
        | succ k => rw [q] at e; simp at e
      rw [this] at e
      simp at e
      exact .inr ⟨by omega, e.symm⟩
  have lt_ : ∀ {i : Nat} {v : Option V}, i < ρ.length → (L ++ [some (V.ref a)])[i]? = some v → L[i]? = some v := fun {i v} hi e => by
    rw [List.getElem?_append_left (by rw [← R.len]; exact hi)] at e; exact e
  have last_ : ∀ {v : Option V}, (L ++ [some (V.ref a)])[ρ.length]? = some v → v = some (.ref a) := fun {v} e => by
    rw [R.len, List.getElem?_append_right (Nat.le_refl _)] at e
    simp at e
    exact e.symm
  refine ⟨by rw [List.length_append, List.length_append, R.len] <;> rfl, R.sub, R.keep, fun i x v e1 e2 => ?_, fun i j x y b e1 e2 o1 o2 l1 l2 => ?_, fun i x b e1 o1 l1 => ?_, fun i es b e1 l1 => ?_, fun q hq => ?_, R.born⟩
  · rcases at_ e1 with ⟨e1, hl⟩ | ⟨rfl, rfl⟩
    · exact R.slot i x v e1 (lt_ hl e2)
    · have := last_ e2
      subst this
      exact ⟨a, rfl, hF, xs, hH, h⟩
  · rcases at_ e1 with ⟨e1, hl1⟩ | ⟨rfl, rfl⟩
    · rcases at_ e2 with ⟨e2, hl2⟩ | ⟨rfl, rfl⟩
      · exact R.sep i j x y b e1 e2 o1 o2 (lt_ hl1 l1) (lt_ hl2 l2)
      · have q := last_ l2
        cases q
        exact absurd (lt_ hl1 l1) (hno i x e1 o1)
    · rcases at_ e2 with ⟨e2, hl2⟩ | ⟨rfl, rfl⟩
      · have q := last_ l1
        cases q
        exact absurd (lt_ hl2 l2) (hno j y e2 o2)
      · rfl
  · rcases at_ e1 with ⟨e1, hl1⟩ | ⟨rfl, rfl⟩
    · exact R.fresh i x b e1 o1 (lt_ hl1 l1)
    · have q := last_ l1
      cases q
      exact .inl h0
  · rcases at_ e1 with ⟨e1, hl1⟩ | ⟨rfl, q⟩
    · exact R.nobor i es b e1 (lt_ hl1 l1)
    · have q := last_ l1
      cases q
      exact hB
  · obtain ⟨⟨es, e⟩, l⟩ := R.lent q hq
    have h1 : q.1 < ρ.length := (List.getElem?_eq_some_iff.mp e).1
    exact ⟨⟨es, by rw [List.getElem?_append_left h1]; exact e⟩, by rw [List.getElem?_append_left (by rw [← R.len]; exact h1)]; exact l⟩
/-- .. or frozen -/
theorem Rl.frzAt {a : Addr} {xs : List V} (R : Rl K c F ρ L H) (hF : F a = none) (hH : H a = some (.lst xs)) (h0 : c.Hi a = none) (hno : ∀ (i : Nat) (x : DV), ρ[i]? = some x → x.cont ≠ none → L[i]? ≠ some (some (.ref a))) :
    Rl K c (upd F a (.lst xs)) ρ L H := by
  have sF : Same F (upd F a (.lst xs)) := Same.upd hF
  refine ⟨R.len, fun b o q => ?_, R.keep, fun i x v e1 e2 => (R.slot i x v e1 e2).mono sF fun b hv ho h1 h2 => ⟨?_, rfl⟩, R.sep, R.fresh, R.nobor, R.lent, fun b o q => ?_⟩
  · by_cases hb : b = a
    · subst hb; rw [upd_same] at q; cases q; exact hH
    · rw [upd_ne hb] at q; exact R.sub b o q
  · rw [upd_ne (fun z => by subst z hv; exact hno i x e1 ho e2)]; exact h1
  · by_cases hb : b = a
    · exact .inr (hb ▸ h0)
    · rw [upd_ne hb] at q; exact R.born b o q
end

/-! ### the call within a body -/
/-- the result in an expression (a new list is frozen) -/
def rvD : RV → D
  | .dat d => d
  | .new ds => .list ds
def callD (f : Fsp) (ds : List D) : M RV := fun ρ => match f [] ds with
  | none => none
  | some (.ok r, _) => some (.ok r, ρ)
  | some (.error x, _) => some (.error x, ρ)
def callO (f : Fsp) (p : Nat) (ds : List D) : M RV := fun ρ => match ρ[p]? with
  | none => none
  | some x => match x.own with
    | none => none
    | some w => match f w ds with
      | none => none
      | some (.ok r, w') => some (.ok r, ρ.set p (x.put w'))
      | some (.error z, w') => some (.error z, ρ.set p (x.put w'))
def callA (own : Bool) (f : Fsp) (rs : List DR) : M RV := if own then (match rs with
    | .loc p :: rs => M.bind (frzAll rs) fun ds => callO f p ds
    | _ => M.no) else M.bind (frzAll rs) fun ds => callD f ds
def eCall (own : Bool) (f : Fsp) (ms : M (List DR)) : M DR := M.bind ms fun rs => M.bind (callA own f rs) fun r => M.ok (.dat (rvD r))
def nCall (own : Bool) (f : Fsp) (ms : M (List DR)) : M Unit := M.bind ms fun rs => M.bind (callA own f rs) fun r => match r with
  | .new ds => push ds
  | .dat _ => M.no
section
variable {X : Cx} {P : Ps} {e : Expr} {es : List Expr} {pos : Pos} {c : Ct} {F H : Hp} {σ : L2.St} {τ : List (Option V)}
theorem paired_refv {K : Frag} {F : Hp} {L : List (Option V)} {p : Nat} {rs : List DR} {vs : List V} (h : Paired (RefV K F L) vs (.loc p :: rs)) : ∃ v us, vs = v :: us ∧ L[p]? = some (some v) ∧ Paired (RefV K F L) us rs := by
  cases h with
  | cons h1 h2 => exact ⟨_, _, rfl, h1, h2⟩
/-- what a call's promise asks, from the step: Φ the rest -/
theorem callA_sp {own : Bool} {n : Nat} {f : Fsp} {rs : List DR} {vs : List V} {ρ : List DV} {Φ : RV → List DV → Hp → Hp → Prop} {Q : VK} {E : XK} (hn : vs.length = n) (h : Ho P c F σ τ (callA own f rs ρ) Φ) (R : Rl P.K c F ρ (σ ++ τ) H) (hv : Paired (RefV P.K F (σ ++ τ)) vs rs)
    (hq : ∀ r ρ1 F1 H1 F2 v, Same F F2 → (∀ (Ψ : Hp → Prop), (∀ F1 H1, Same F2 F1 → Rl P.K c F1 ρ1 (σ ++ τ) H1 → Φ r ρ1 F1 H1) → True) → Rl P.K c F1 ρ1 (σ ++ τ) H1 → Same F2 F1 → (∀ F3 H3, Same F1 F3 → Rl P.K c F3 ρ1 (σ ++ τ) H3 → Φ r ρ1 F3 H3) →
      (match r with | .dat d => Rp P.K F1 v d | .new ds => ∃ a xs, v = .ref a ∧ F1 a = none ∧ c.Hi a = none ∧ a ∉ c.ads ∧ H1 a = some (.lst xs) ∧ RpAll P.K F1 xs ds ∧ ∀ (i : Nat) (x : DV), ρ1[i]? = some x → x.cont ≠ none → (σ ++ τ)[i]? ≠ some (some (.ref a))) → Q v H1)
    (he : ∀ cls d H', P.W cls d σ H' → E cls d H') : spD P.K own n f vs H Q E := by
  have fin : ∀ {oa : Option Addr} {F1 : Hp} {ρ1 ρ2 : List DV} {us : List V} {w w' ds : List D} {r : RV}, Rl P.K c F1 ρ1 (σ ++ τ) H → Same F F1 → (∀ F3 H3, Same F1 F3 → Rl P.K c F3 ρ2 (σ ++ τ) H3 → Φ r ρ2 F3 H3) →
      (∀ F' H', Same F1 F' → Same F' H' → New F1 H F' → Frm oa H H' → Lent P.K F' H' oa w' → Rl P.K c F' ρ2 (σ ++ τ) H') → (∀ (i : Nat) (x : DV), ρ2[i]? = some x → x.cont ≠ none → ∃ y, ρ1[i]? = some y ∧ y.cont ≠ none) →
      ∀ v F' H', Same F1 F' → Same F' H' → New F1 H F' → Frm oa H H' → Lent P.K F' H' oa w' → RvOk P.K F' H H' v r → Q v H' := by
    intro oa F1 ρ1 ρ2 us w w' ds r R1 s1 hΦ hR hown v F' H' s s' n fr lt rv
    have R2 := hR F' H' s s' n fr lt
    refine hq r ρ2 F' H' F1 v s1 (fun _ _ => trivial) R2 s (fun F3 H3 s3 R3 => hΦ F3 H3 (s.trans s3) R3) ?_
    cases r with
    | dat d => exact rv
    | new es =>
      obtain ⟨a, xs, e1, e2, e3, e4, e5⟩ := rv
      obtain ⟨g1, g2⟩ := R1.freshAt e3
      refine ⟨a, xs, e1, e2, g1, g2, e4, e5, fun i x ex ox el => ?_⟩
      obtain ⟨y, ey, oy⟩ := hown i x ex ox
      cases oy' : y.cont with
      | none => exact oy oy'
      | some zs =>
        obtain ⟨a', q1, _, q3⟩ := (R1.slot i y _ ey el).holds oy'
        cases q1
        obtain ⟨u, q3⟩ := q3.there
        rw [e3] at q3
        cases q3
  cases own with
  | false =>
    have h' : Ho P c F σ τ (M.bind (frzAll rs) (fun ds => callD f ds) ρ) Φ := h
    obtain ⟨ds, F1, ρ1, s1, R1, r1, q1⟩ := Ho.frzAll h' R hv
    refine ⟨hn, F1, none, vs, [], ds, rfl, rfl, R1.sub, trivial, r1, ?_⟩
    unfold callD at q1
    match z : f [] ds with
    | none => rw [z] at q1; exact q1
    | some (.ok r, w') =>
      rw [z] at q1
      exact fin (oa := none) (w' := w') (us := vs) (w := []) (ds := ds) R1 s1 q1 (fun F' H' s s' n fr lt => R1.call0 s s' n fr) (fun i x ex ox => ⟨x, ex, ox⟩)
    | some (.error x, w') =>
      rw [z] at q1
      exact fun C dd v F' H' s s' n fr lt g rp hx hn => he _ _ _ (q1 F' H' C dd v s (R1.call0 s s' n fr) g rp hx (R1.freshAt hn).1)
  | true =>
    cases rs with
    | nil => exact (show False from h).elim
    | cons r0 rs =>
      cases r0 with
      | dat d => exact (show False from h).elim
      | exc c d => exact (show False from h).elim
      | loc p =>
        have h' : Ho P c F σ τ (M.bind (frzAll rs) (fun ds => callO f p ds) ρ) Φ := h
        obtain ⟨v, us, rfl, lv, hus⟩ := paired_refv hv
        obtain ⟨ds, F1, ρ1, s1, R1, r1, q1⟩ := Ho.frzAll h' R hus
        unfold callO at q1
        cases ex : ρ1[p]? with
        | none => rw [ex] at q1; exact (show False from q1).elim
        | some x =>
          rw [ex] at q1
          dsimp only at q1
          cases ox : x.own with
          | none => rw [ox] at q1; exact (show False from q1).elim
          | some w =>
            rw [ox] at q1
            dsimp only at q1
            obtain ⟨a, xs, e1, e2, e3, e4⟩ := (R1.slot p x _ ex lv).own ox
            cases e1
            refine ⟨hn, F1, some a, us, w, ds, rfl, rfl, R1.sub, ⟨e2, xs, e3, e4⟩, r1, ?_⟩
            match z : f w ds with
            | none => rw [z] at q1; exact q1
            | some (.ok r, w') =>
              rw [z] at q1
              refine fin (oa := some a) (w' := w') (us := us) (w := w) (ds := ds) R1 s1 q1 (fun F' H' s s' n fr lt => R1.call1 ex ox lv s s' n fr lt) (fun i y ey oy => ?_)
              rcases set_at ey with ⟨rfl, rfl⟩ | ⟨_, ey⟩
              · exact ⟨x, ex, by rw [DV.cont_of ox]; simp⟩
              · exact ⟨y, ey, oy⟩
            | some (.error y, w') =>
              rw [z] at q1
              exact fun C dd v F' H' s s' n fr lt g rp hx hn => he _ _ _ (q1 F' H' C dd v s (R1.call1 ex ox lv s s' n fr lt) g rp hx (R1.freshAt hn).1)
theorem tE_call {own : Bool} {n : Nat} {f : Fsp} {ms : M (List DR)} {t : TA} (ht : ∀ σ H Q, t σ H Q → tA P ms σ H fun vs H' => vs.length = n ∧ Q vs H') (σ : L2.St) (H : Hp) (Q : VK) : True := trivial
theorem tE_callS {own : Bool} {n : Nat} {f : Fsp} {ms : M (List DR)} (hl : ∀ ρ rs ρ', ms ρ = some (.ok rs, ρ') → rs.length = n) (σ : L2.St) (H : Hp) (Q : VK) (q : tE P (eCall own f ms) σ H Q) : tCallS (spD P.K own n f) (WE P.W) (tA P ms) σ H Q := by
  obtain ⟨c, F, τ, ρ, R, q⟩ := q
  refine ⟨c, F, τ, ρ, R, ?_⟩
  have q' := Ho.bind q
  match z : ms ρ with
  | none => rw [z] at q'; exact q'
  | some (.error x, ρ1) => rw [z] at q'; exact q'
  | some (.ok rs, ρ1) =>
    rw [z] at q'
    intro F1 H1 s1 R1 vs hvs
    have q1 := q' F1 H1 s1 R1
    have hn : vs.length = n := by rw [← hl ρ rs ρ1 z]; exact Paired.length hvs
    refine callA_sp hn (Ho.bind q1) R1 hvs (fun r ρ2 F2 H2 F1' v _ _ R2 s2 hΦ hr => ?_) fun cls d H' w => w
    have q2 := hΦ F2 H2 (Same.refl _) R2
    cases r with
    | dat d => exact q2 F2 H2 (Same.refl _) R2 v hr
    | new es =>
      obtain ⟨a, xs, e1, e2, e3, e4, e5, e6, e7⟩ := hr
      subst e1
      exact q2 _ H2 (Same.upd e2) (R2.frzAt e2 e5 e3 e7) _ (.lst (.inl (.inl upd_same)) (e6.mono (Same.upd e2)))
theorem tN_callS {own : Bool} {n : Nat} {f : Fsp} {ms : M (List DR)} (hl : ∀ ρ rs ρ', ms ρ = some (.ok rs, ρ') → rs.length = n) (σ : L2.St) (H : Hp) (Q : VK) (q : tN P (nCall own f ms) σ H Q) : tCallS (spD P.K own n f) (WE P.W) (tA P ms) σ H Q := by
  obtain ⟨c, F, τ, ρ, R, q⟩ := q
  refine ⟨c, F, τ, ρ, R, ?_⟩
  have q' := HoN.bind q
  match z : ms ρ with
  | none => rw [z] at q'; exact q'
  | some (.error x, ρ1) => rw [z] at q'; exact q'
  | some (.ok rs, ρ1) =>
    rw [z] at q'
    intro F1 H1 s1 R1 vs hvs
    have q1 := q' F1 H1 s1 R1
    have hn : vs.length = n := by rw [← hl ρ rs ρ1 z]; exact Paired.length hvs
    refine callA_sp hn (HoN.bind q1) R1 hvs (fun r ρ2 F2 H2 F1' v _ _ R2 s2 hΦ hr => ?_) fun cls d H' w => w
    have q2 := hΦ F2 H2 (Same.refl _) R2
    cases r with
    | dat d => exact (show False from q2).elim
    | new es =>
      obtain ⟨a, xs, e1, e2, e3, e4, e5, e6, e7⟩ := hr
      subst e1
      exact q2 F2 H2 _ (Same.refl _) (Rl.pushAt (H0 := H2) R2 e2 e5 e6 e3 e4 e7)
/-- how many arguments a written list has -/
def ALen (ms : M (List DR)) (n : Nat) : Prop := ∀ ρ rs ρ', ms ρ = some (.ok rs, ρ') → rs.length = n
theorem alen_nil : ALen aNil 0 := fun ρ rs ρ' e => by
  cases e
  rfl
theorem alen_cons {m : M DR} {ms : M (List DR)} {n : Nat} (h : ALen ms n) : ALen (aCons m ms) (n + 1) := fun ρ rs ρ' e => by
  unfold aCons M.bind at e
  split at e
  · cases e
  · rename_i r ρ1 _
    dsimp only at e
    split at e
    · cases e
    · rename_i rs' ρ2 e2
      cases e
      rw [List.length_cons, h _ _ _ e2]
    · cases e
  · cases e
theorem de_call {own : Bool} {n k : Nat} {f : Fsp} {ms : M (List DR)} {x : Str} {p : Pos} {fa : Addr} {fd : FuncData} {ps : List Str} (F : FnOk X.prog X.w X.K X.mg X.base (L2.CX X.prog X.w) k fa fd ps (spD P.K own n f)) (hr : Room k X.A) (hg : Gl X x) (hm : X.mg x = some (.ref fa)) (hk : PySem.W.keepIn X.K (.ref fa) = true)
    (hb : Binds X.K fd ps []) (tk : Takes X P.W) (ha : PA X (e :: es) (tA P ms)) (hl : ALen ms n) (hdb : (x == ("__debug__" : Str)) = false) (he : starEach (e :: es) X.env = (false, eval e X.env) :: starEach es X.env) (hpl : (backTo pos (starEach es X.env)).any (·.1) = false) :
    PE X (.Call (.Name x p) (e :: es) [] pos) (tE P (eCall own f ms)) := (pe_callS F hr hg hm hk hb (fun σ => passAt tk σ) ha hdb he hpl).of (tE_callS hl)
theorem dn_call {own : Bool} {n k : Nat} {f : Fsp} {ms : M (List DR)} {x : Str} {p : Pos} {fa : Addr} {fd : FuncData} {ps : List Str} (F : FnOk X.prog X.w X.K X.mg X.base (L2.CX X.prog X.w) k fa fd ps (spD P.K own n f)) (hr : Room k X.A) (hg : Gl X x) (hm : X.mg x = some (.ref fa)) (hk : PySem.W.keepIn X.K (.ref fa) = true)
    (hb : Binds X.K fd ps []) (tk : Takes X P.W) (ha : PA X (e :: es) (tA P ms)) (hl : ALen ms n) (hdb : (x == ("__debug__" : Str)) = false) (he : starEach (e :: es) X.env = (false, eval e X.env) :: starEach es X.env) (hpl : (backTo pos (starEach es X.env)).any (·.1) = false) :
    PE X (.Call (.Name x p) (e :: es) [] pos) (tN P (nCall own f ms)) := (pe_callS F hr hg hm hk hb (fun σ => passAt tk σ) ha hdb he hpl).of (tN_callS hl)
end
end DL

set_option Elab.async false
set_option linter.all false
set_option maxRecDepth 100000
set_option maxHeartbeats 4000000
/-! DL7: a body keeps its promise; calls with keywords; walks; for. -/
namespace DL
open PySem PySem.Spec PyProof.Rows L2

/-! ### a def -/
def initE (own : Bool) (nN : Nat) (w ds : List D) : List DV := (if own then [DV.bor w] else []) ++ ds.map DV.dat ++ List.replicate (nN - (ds.length + (if own then 1 else 0))) .un
def lent0 : Option DV → List D
  | some (.bor w) => w
  | _ => []
def lentOf (own : Bool) (ρ : List DV) : List D := if own then lent0 ρ[0]? else []
def BOf : Option Addr → List (Nat × Addr)
  | none => []
  | some a => [(0, a)]
/-- what a body does, as a def's promise -/
def runF (own : Bool) (nN : Nat) (m : M Fl) : Fsp := fun w ds => match m (initE own nN w ds) with
  | some (.ok .nx, ρ) => some (.ok (.dat .none), lentOf own ρ)
  | some (.ok (.ret r), ρ) => some (.ok r, lentOf own ρ)
  | some (.error x, ρ) => some (.error x, lentOf own ρ)
  | _ => none
theorem lent_of {K : Frag} {c : Ct} {F H : Hp} {ρ : List DV} {σ : L2.St} {oa : Option Addr} (R : Rl K c F ρ σ H) (hB : c.B = BOf oa) : Lent K F H oa (lentOf oa.isSome ρ) := by
  cases oa with
  | none => trivial
  | some a =>
    obtain ⟨⟨ds, e⟩, l⟩ := R.lent (0, a) (by rw [hB]; exact List.mem_singleton.mpr rfl)
    obtain ⟨a', e1, e2, xs, e3, e4⟩ := R.slot 0 _ _ e l
    cases e1
    refine ⟨e2, xs, e3, ?_⟩
    have z : lentOf true ρ = ds := by
      show lent0 ρ[0]? = ds
      rw [show ρ[0]? = some (DV.bor ds) from e]
      rfl
    show RpAll K F xs (lentOf true ρ)
    rw [z]; exact e4
theorem rl_init {K : Frag} {F H : Hp} {oa : Option Addr} {us : List V} {w ds : List D} {N : List Str} (s : Same F H) (lt : Lent K F H oa w) (r : RpAll K F us ds) (hn : (argV oa us).length ≤ N.length) :
    Rl K ⟨H, F, BOf oa⟩ F (initE oa.isSome N.length w ds) (L2.start N (argV oa us)) H := by
  have hlen := r.length
  have slots : ∀ (i : Nat) (x : DV) (v : Option V), (initE oa.isSome N.length w ds)[i]? = some x → (L2.start N (argV oa us))[i]? = some v → (x = .un) ∨ (∃ y d, v = some y ∧ x = .dat d ∧ Rp K F y d) ∨ (∃ a, oa = some a ∧ i = 0 ∧ v = some (.ref a) ∧ x = .bor w) := by
    intro i x v e1 e2
    unfold initE at e1
    unfold L2.start at e2
    cases oa with
    | none =>
      simp only [Option.isSome_none, Bool.false_eq_true, if_false, List.nil_append, argV] at e1 e2
      by_cases hi : i < ds.length
      · rw [List.getElem?_append_left (by simpa using hi), List.getElem?_map] at e1
        rw [List.getElem?_append_left (by simpa using (by omega : i < us.length)), List.getElem?_map] at e2
        cases q : ds[i]? with
        | none => rw [q] at e1; simp at e1
        | some d =>
          obtain ⟨y, ey, ry⟩ := r.get q
          rw [q] at e1
          rw [ey] at e2
          simp at e1 e2
          exact .inr (.inl ⟨y, d, e2.symm, e1.symm, ry⟩)
      · rw [List.getElem?_append_right (by simpa using hi), List.getElem?_replicate] at e1
        split at e1
        · exact .inl (Option.some.inj e1).symm
        · cases e1
    | some a =>
      simp only [Option.isSome_some, if_true, argV] at e1 e2
      cases i with
      | zero =>
        simp at e1 e2
        exact .inr (.inr ⟨a, rfl, rfl, e2.symm, e1.symm⟩)
      | succ i =>
        simp only [List.cons_append, List.nil_append, List.getElem?_cons_succ, List.map_cons] at e1 e2
        by_cases hi : i < ds.length
        · rw [List.getElem?_append_left (by simpa using hi), List.getElem?_map] at e1
          rw [List.getElem?_append_left (by simpa using (by omega : i < us.length)), List.getElem?_map] at e2
          cases q : ds[i]? with
          | none => rw [q] at e1; simp at e1
          | some d =>
            obtain ⟨y, ey, ry⟩ := r.get q
            rw [q] at e1
            rw [ey] at e2
            simp at e1 e2
            exact .inr (.inl ⟨y, d, e2.symm, e1.symm, ry⟩)
        · rw [List.getElem?_append_right (by simpa using hi), List.getElem?_replicate] at e1
          split at e1
          · exact .inl (Option.some.inj e1).symm
          · cases e1
  have own_ : ∀ (i : Nat) (x : DV) (a : Addr), (initE oa.isSome N.length w ds)[i]? = some x → x.cont ≠ none → (L2.start N (argV oa us))[i]? = some (some (.ref a)) → oa = some a ∧ i = 0 ∧ x = .bor w := by
    intro i x a e1 o1 e2
    rcases slots i x _ e1 e2 with rfl | ⟨y, d, _, rfl, _⟩ | ⟨a', h1, h2, h3, h4⟩
    · exact absurd rfl o1
    · exact absurd rfl o1
    · cases h3
      exact ⟨h1, h2, h4⟩
  refine ⟨?_, s, fun b o e _ => e, fun i x v e1 e2 => ?_, fun i j x y a e1 e2 o1 o2 l1 l2 => ?_, fun i x a e1 o1 l1 => ?_, fun i es a e1 l1 => ?_, fun q hq => ?_, fun b o e => .inl e⟩
  · unfold initE L2.start
    cases oa with
    | none =>
      simp only [argV] at hn
      simp [argV]
      omega
    | some a =>
      simp only [argV, List.length_cons] at hn
      simp [argV]
      omega
  · rcases slots i x v e1 e2 with rfl | ⟨y, d, h1, rfl, h2⟩ | ⟨a, h1, h2, h3, rfl⟩
    · trivial
    · exact ⟨y, h1, h2⟩
    · subst h1
      obtain ⟨g1, xs, g2, g3⟩ := lt
      exact ⟨a, h3, g1, xs, g2, g3⟩
  · rw [(own_ i x a e1 o1 l1).2.1, (own_ j y a e2 o2 l2).2.1]
  · refine .inr ?_
    obtain ⟨h1, _, _⟩ := own_ i x a e1 o1 l1
    subst h1
    exact List.mem_map.mpr ⟨(0, a), List.mem_singleton.mpr rfl, rfl⟩
  · have z := (own_ i _ a e1 (by simp [DV.cont]) l1).2.2
    cases z
  · cases oa with
    | none => exact absurd hq (by simp [BOf])
    | some a =>
      cases (List.mem_singleton.mp hq)
      exact ⟨⟨w, by simp [initE]⟩, by simp [L2.start, argV]⟩
section
variable {Pg : Program} {wd : World} {K : PySem.W.Frag} {mg : Str → Option Value} {base : Heap}
theorem fn_ok {x qual : Str} {st : Stmt} {fa : Addr} {fd : FuncData} {N ps : List Str} {k : Nat} {own : Bool} {m : M Fl} (F : Fun K x qual st fa fd) (S : FnScope N ps (defScope st))
    (hbody : ∀ (cdv : Value) (A : Around) (outer : List Env) (s : Shared) (H : Hp) (E : XK), Room k (A.deeper (envOfC qual (defScope st) s.heap.objs.size fa cdv)) →
      Takes (cxOf (L2.CX Pg wd) Pg wd K mg base N qual (defScope st) fa cdv A outer s H E) (fun cls d _ H => E cls d H) →
      PSs (cxOf (L2.CX Pg wd) Pg wd K mg base N qual (defScope st) fa cdv A outer s H E) (defBody st) (tS ⟨⟨K, mg, Pg, wd⟩, fun cls d _ H => E cls d H⟩ m)) :
    FnOk Pg wd K mg base (L2.CX Pg wd) (k + 1) fa fd ps (spD ⟨K, mg, Pg, wd⟩ own ps.length (runF own N.length m)) := by
  refine F.okX S (fun vs H Q E h => h.1) fun cdv A outer s H vs Q E hr h => ?_
  refine ⟨tS ⟨⟨K, mg, Pg, wd⟩, fun cls d _ H => E cls d H⟩ m, hbody cdv A outer s H E hr (takes_of rfl rfl rfl rfl), ?_⟩
  obtain ⟨hn, F0, oa, us, w, ds, ho, rfl, sF, lt, r, h⟩ := h
  subst ho
  have hpl : ps.length ≤ N.length := by have := congrArg List.length S.pre; rw [List.length_take] at this; omega
  have R0 := rl_init (N := N) sF lt r (by rw [hn]; exact hpl)
  have fr : ∀ {ρ : List DV} {σ : L2.St} {F' H' : Hp}, Rl ⟨K, mg, Pg, wd⟩ ⟨H, F0, BOf oa⟩ F' ρ σ H' → Frm oa H H' := fun {ρ σ F' H'} R b o e hb => R.keep b o e (fun z => by
    cases oa with
    | none => exact absurd z (by simp [Ct.ads, BOf])
    | some a =>
      have : b = a := by simpa [Ct.ads, BOf] using z
      exact hb (by rw [this]))
  refine ⟨_, F0, _, R0, ?_⟩
  unfold runF at h
  match z : m (initE oa.isSome N.length w ds) with
  | none => rw [z] at h; exact h
  | some (.ok .nx, ρ) =>
    rw [z] at h
    exact fun σ F' H' s R => h .non F' H' s R.sub R.born (fr R) (lent_of R rfl) .non
  | some (.ok (.ret rv), ρ) =>
    rw [z] at h
    refine fun v σ F' H' s R rr => h v F' H' s R.sub R.born (fr R) (lent_of R rfl) ?_
    cases rv with
    | dat d => exact rr
    | new es =>
      obtain ⟨a, xs, e1, e2, e3, e4, e5, e6⟩ := rr
      exact ⟨a, xs, e1, e2, e3, e5, e6⟩
  | some (.ok .brk, ρ) => rw [z] at h; exact h.elim
  | some (.ok .cnt, ρ) => rw [z] at h; exact h.elim
  | some (.error x, ρ) =>
    rw [z] at h
    exact fun σ F' H' C dd v s R g rp hx hn => by
      rw [List.append_nil] at R
      exact h C dd v F' H' s R.sub R.born (fr R) (lent_of R rfl) g rp hx hn
end

/-! ### f(k = v, ..) -/
section
variable {X : Cx} {P : Ps} {e : Expr} {es : List Expr} {pos : Pos}
theorem run_fnkS {CX : CXT} {k : Nat} {f : Addr} {fd : FuncData} {ps ks : List Str} {sp : Sp} {E : XK} {g : List Value → List Value → List Value} {gV : List V → List V → List V} {pins : List (Addr × Obj)} {σ : L2.St} {H : Hp} {s : Shared} {Q : VK} {us ws : List Value} {vs zs : List V} (F : FnOk X.prog X.w X.K X.mg X.base CX k f fd ps sp) (hr : Room k X.A) (hb : KBinds X.K fd ps ks g gV) (hx : PassesAt CX X σ E)
    (I : Inv X pins σ H s) (r : Vals vs us) (rz : Vals zs ws) (h : sp (gV vs zs) H Q E) : wpAny (model X.prog X.w) X.A (call (.ref f) us (ks.zip ws)) (EP X pins σ Q) X.xe s := by
  have r2 := hb.rel r rz
  have hl : (g us ws).length = ps.length := by rw [← r2.length]; exact F.len _ _ _ _ h
  refine wpAny_call (codeAny_mono (F.run X.A X.stack s H ⟨us, ks.zip ws⟩ (g us ws) (gV vs zs) Q E hr I.env0 (hb.to s us ws I.kIn hl) r2 h) fun r s' hq => ?_)
  cases r with
  | error e => exact hx pins H s e s' I hq
  | ok fl =>
    cases fl with
    | ret u => exact I.after hq
    | next => exact False.elim hq
    | brk => exact False.elim hq
    | cont => exact False.elim hq
def tCallKS (sp : Sp) (gV : List V → List V → List V) (E : L2.St → XK) (tk : TA) : TE := fun σ H Q => tk σ H fun zs H2 => sp (gV [] zs) H2 Q (E σ)
theorem pe_callKS {CX : CXT} {k : Nat} {f : Addr} {fd : FuncData} {ps ks : List Str} {sp : Sp} {E : L2.St → XK} {x : Str} {p : Pos} {kws : List Keyword} {tk : TA} {g : List Value → List Value → List Value} {gV : List V → List V → List V} (F : FnOk X.prog X.w X.K X.mg X.base CX k f fd ps sp) (hr : Room k X.A) (hg : Gl X x) (hm : X.mg x = some (.ref f)) (hk : PySem.W.keepIn X.K (.ref f) = true) (hb : KBinds X.K fd ps ks g gV) (hx : ∀ σ, PassesAt CX X σ (E σ))
    (hkw : PK X kws tk) (hall : (backToKw pos (keywordEach kws X.env)).all (·.1.isSome) = true) (hks : (backToKw pos (keywordEach kws X.env)).filterMap (·.1) = ks)
    (hdb : (x == ("__debug__" : Str)) = false) (hpl : ((backTo pos (starEach [] X.env)).any (·.1) || (backToKw pos (keywordEach kws X.env)).any (·.1.isNone)) = false) :
    PE X (.Call (.Name x p) [] kws pos) (tCallKS sp gV E tk) := by
  refine ⟨fun pins s σ H Q I h => ?_⟩
  refine wpAny_Call_Name_kw (ld_glob I hg hm ?_ hdb)
  refine PySem.W.callWith_KW0 (h₀ := X.base) I.ok.mod.kin hk hall ?_ hpl
  refine thn (hkw.run pos pins s σ H _ I h) fun ws s2 ⟨zs, H2, I2, rz, q2⟩ => ⟨I2.kIn, ?_⟩
  rw [hks]
  exact run_fnkS F hr hb (hx σ) I2 .nil rz q2
theorem dk_nil : PK X [] (tA P aNil) := ⟨fun pos pins s σ H Q I q => pk_nil.run pos pins s σ H Q I (by
  obtain ⟨c, F, τ, ρ, R, q⟩ := q
  exact Ho.now q R [] .nil)⟩
theorem dk_cons {kws : List Keyword} {m : M DR} {ms : M (List DR)} {nm : Option Str} {kpos : Pos} (ha : PE X e (tE P m)) (hr : PK X kws (tA P ms)) : PK X (⟨nm, e, kpos⟩ :: kws) (tA P (aCons m ms)) := ⟨fun pos pins s σ H Q I q => (pk_cons ha hr).run pos pins s σ H Q I (by
  obtain ⟨c, F, τ, ρ, R, q⟩ := q
  refine ⟨c, F, τ, ρ, R, (Ho.bind q).mono fun r ρ1 F1 H1 s1 R1 q1 v hv => ?_⟩
  refine ⟨c, F1, τ, ρ1, R1, (Ho.bind q1).mono fun rs ρ2 F2 H2 s2 R2 q2 vs hvs => ?_⟩
  exact Ho.now q2 R2 (v :: vs) (.cons (hv.mono s2) hvs))⟩
/-- the values by the keywords, put in the parameters' order -/
def permR {α : Type} (π : List Nat) (l : List α) : List α := π.filterMap fun i => l[i]?
def eCallK (π : List Nat) (f : Fsp) (ms : M (List DR)) : M DR := M.bind ms fun rs => M.bind (frzAll rs) fun ds => M.bind (callD f (permR π ds)) fun r => M.ok (.dat (rvD r))
theorem RpAll.perm {K : Frag} {F : Hp} {vs : List V} {ds : List D} (h : RpAll K F vs ds) : ∀ π : List Nat, RpAll K F (permR π vs) (permR π ds)
  | [] => .nil
  | i :: π => by
    unfold permR
    rw [List.filterMap_cons, List.filterMap_cons]
    cases q : ds[i]? with
    | none =>
      have : vs[i]? = none := by
        rw [List.getElem?_eq_none_iff] at q ⊢
        rw [h.length]; exact q
      rw [this]
      exact RpAll.perm h π
    | some d =>
      obtain ⟨v, e, r⟩ := h.get q
      rw [e]
      exact .cons r (RpAll.perm h π)
theorem tE_callK {n nk : Nat} {π : List Nat} {f : Fsp} {ms : M (List DR)} (hl : ALen ms nk) (hπ : ∀ (vs : List V), vs.length = nk → (permR π vs).length = n) (σ : L2.St) (H : Hp) (Q : VK) (q : tE P (eCallK π f ms) σ H Q) : tCallKS (spD P.K false n f) (fun _ zs => permR π zs) (WE P.W) (tA P ms) σ H Q := by
  obtain ⟨c, F, τ, ρ, R, q⟩ := q
  refine ⟨c, F, τ, ρ, R, ?_⟩
  have q' := Ho.bind q
  match z : ms ρ with
  | none => rw [z] at q'; exact q'
  | some (.error x, ρ1) => rw [z] at q'; exact q'
  | some (.ok rs, ρ1) =>
    rw [z] at q'
    intro F1 H1 s1 R1 vs hvs
    have q1 := q' F1 H1 s1 R1
    have hn : vs.length = nk := by rw [← hl ρ rs ρ1 z]; exact Paired.length hvs
    obtain ⟨ds, F2, ρ2, s2, R2, r2, q2⟩ := Ho.frzAll q1 R1 hvs
    have q3 := Ho.bind q2
    unfold callD at q3
    refine ⟨hπ vs hn, F2, none, permR π vs, [], permR π ds, rfl, rfl, R2.sub, trivial, r2.perm π, ?_⟩
    match y : f [] (permR π ds) with
    | none => rw [y] at q3; exact q3
    | some (.ok r, w') =>
      rw [y] at q3
      intro v F' H' s s' n fr lt rv
      have R3 := R2.call0 s s' n fr
      have q4 := q3 F' H' s R3
      cases r with
      | dat d => exact q4 F' H' (Same.refl _) R3 v rv
      | new es =>
        obtain ⟨a, xs, e1, e2, e3, e4, e5⟩ := rv
        subst e1
        obtain ⟨g1, g2⟩ := R2.freshAt e3
        refine q4 _ H' (Same.upd e2) (R3.frzAt e2 e4 g1 fun i x ex ox el => ?_) _ (.lst (.inl (.inl upd_same)) (e5.mono (Same.upd e2)))
        cases oy : x.cont with
        | none => exact ox oy
        | some zs =>
          obtain ⟨a', q1, _, q3⟩ := (R2.slot i x _ ex el).holds oy
          cases q1
          obtain ⟨u, q3⟩ := q3.there
          rw [e3] at q3
          cases q3
    | some (.error x, w') =>
      rw [y] at q3
      exact fun C dd v F' H' s s' n fr lt g rp hx hn => q3 F' H' C dd v s (R2.call0 s s' n fr) g rp hx (R2.freshAt hn).1
theorem de_callK {n nk k : Nat} {π : List Nat} {f : Fsp} {ms : M (List DR)} {x : Str} {p : Pos} {fa : Addr} {fd : FuncData} {ps ks : List Str} {kws : List Keyword} {g : List Value → List Value → List Value} (F : FnOk X.prog X.w X.K X.mg X.base (L2.CX X.prog X.w) k fa fd ps (spD P.K false n f)) (hr : Room k X.A) (hg : Gl X x) (hm : X.mg x = some (.ref fa)) (hk : PySem.W.keepIn X.K (.ref fa) = true)
    (hb : KBinds X.K fd ps ks g (fun _ zs => permR π zs)) (tk : Takes X P.W) (hkw : PK X kws (tA P ms)) (hl : ALen ms nk) (hπ : ∀ (vs : List V), vs.length = nk → (permR π vs).length = n) (hall : (backToKw pos (keywordEach kws X.env)).all (·.1.isSome) = true) (hks : (backToKw pos (keywordEach kws X.env)).filterMap (·.1) = ks)
    (hdb : (x == ("__debug__" : Str)) = false) (hpl : ((backTo pos (starEach [] X.env)).any (·.1) || (backToKw pos (keywordEach kws X.env)).any (·.1.isNone)) = false) :
    PE X (.Call (.Name x p) [] kws pos) (tE P (eCallK π f ms)) := (pe_callKS F hr hg hm hk hb (fun σ => passAt tk σ) hkw hall hks hdb hpl).of (tE_callK hl hπ)
end
end DL

set_option Elab.async false
set_option linter.all false
set_option maxRecDepth 100000
set_option maxHeartbeats 4000000
/-! DL8: what is walked; targets; for; list comprehensions. -/
namespace DL
open PySem PySem.Spec PyProof.Rows L2

theorem _root_.L2.PE.ofL {X : Cx} {e : Expr} {t t' : TE} (h : PE X e t) (w : ∀ σ H Q, σ.length = X.N.length → t' σ H Q → t σ H Q) : PE X e t' := ⟨fun pins s σ H Q I q => h.run pins s σ H Q I (w _ _ _ I.len q)⟩
theorem _root_.L2.PS.ofL {X : Cx} {st : Stmt} {t t' : TS} (h : PS X st t) (w : ∀ D σ H, σ.length = X.N.length → t' D σ H → t D σ H) : PS X st t' := ⟨fun pins s σ H D I q => h.run pins s σ H D I (w _ _ _ I.len q)⟩
theorem _root_.L2.PI.of {X : Cx} {tg iter : Expr} {t t' : TI} (h : PI X tg iter t) (w : ∀ σ H R, t' σ H R → t σ H R) : PI X tg iter t' := ⟨fun pins s σ H R I q => h.run pins s σ H R I (w _ _ _ q)⟩

/-! ### slots changed pointwise -/
theorem Rl.patch {K : Frag} {c : Ct} {F H : Hp} {ρ ρ' : List DV} {L L' : List (Option V)} (R : Rl K c F ρ' L' H) (hl : ρ.length = L.length)
    (h : ∀ (i : Nat) (x : DV) (v : Option V), ρ[i]? = some x → L[i]? = some v → (ρ'[i]? = some x ∧ L'[i]? = some v) ∨ (x.cont = none ∧ SlotOk K F H v x))
    (hb : ∀ p ∈ c.B, ρ[p.1]? = ρ'[p.1]? ∧ L[p.1]? = L'[p.1]?) : Rl K c F ρ L H := by
  have same : ∀ {i : Nat} {x : DV} {v : Option V}, ρ[i]? = some x → x.cont ≠ none → L[i]? = some v → ρ'[i]? = some x ∧ L'[i]? = some v := fun {i x v} e o l => by
    rcases h i x v e l with g | ⟨g, _⟩
    · exact g
    · exact absurd g o
  refine ⟨hl, R.sub, R.keep, fun i x v e1 e2 => ?_, fun i j x y a e1 e2 o1 o2 l1 l2 => ?_, fun i x a e1 o1 l1 => ?_, fun i es a e1 l1 => ?_, fun q hq => ?_, R.born⟩
  · rcases h i x v e1 e2 with ⟨g1, g2⟩ | ⟨_, g⟩
    · exact R.slot i x v g1 g2
    · exact g
  · exact R.sep i j x y a (same e1 o1 l1).1 (same e2 o2 l2).1 o1 o2 (same e1 o1 l1).2 (same e2 o2 l2).2
  · exact R.fresh i x a (same e1 o1 l1).1 o1 (same e1 o1 l1).2
  · exact R.nobor i es a (same e1 (by simp [DV.cont]) l1).1 (same e1 (by simp [DV.cont]) l1).2
  · obtain ⟨h1, h2⟩ := hb q hq
    rw [h1, h2]; exact R.lent q hq

/-! ### what a loop walks -/
structure WalkD (K : Frag) (F : Hp) (J : It) (ds : List D) : Prop where
  go : ∀ i H1, Same F H1 → i < ds.length → J.go i H1
  stop : ∀ i H1, Same F H1 → ds.length ≤ i → J.stop i H1
  yld : ∀ i H1 x H2, Same F H1 → i < ds.length → J.yld i H1 x H2 → ∃ d, ds[i]? = some d ∧ ((H2 = H1 ∧ Rp K F x d) ∨ ∃ T xs es, x = .ref T ∧ H1 T = none ∧ H2 = upd H1 T (.tup xs) ∧ d = .tuple es ∧ RpAll K F xs es)
def tI (P : Ps) (m : M (List D)) : TI := fun σ H R => ∃ c F τ ρ, Rl P.K c F ρ (σ ++ τ) H ∧ Ho P c F σ τ (m ρ) fun ds _ F' H' => ∀ J, WalkD P.K F' J ds → R J H'
def itemsD : D → Option (List D)
  | .list ds => some ds
  | .tuple ds => some ds
  | _ => none
def iDat (m : M DR) : M (List D) := M.bind m fun r => M.bind (frz r) fun d => M.opt (itemsD d)
theorem walkD_list {K : Frag} {F : Hp} {a : Addr} {xs : List V} {ds : List D} (h : SqL K.K F a xs) (r : RpAll K F xs ds) : WalkD K F (Itl K.K a) ds where
  go := fun i H1 s hi => by
    obtain ⟨v, e, _⟩ := r.get (List.getElem?_eq_getElem hi)
    exact ⟨xs, v, sql_mono s h, e⟩
  stop := fun i H1 s hi => ⟨xs, sql_mono s h, by rw [r.length]; exact hi⟩
  yld := fun i H1 x H2 s hi y => by
    obtain ⟨e, y⟩ := y
    obtain ⟨d, e', r'⟩ := r.get' (y xs (sql_mono s h))
    exact ⟨d, e', .inl ⟨e, r'⟩⟩
theorem walkD_tup {K : Frag} {F : Hp} {a : Addr} {xs : List V} {ds : List D} (h : SqT K.K F a xs) (r : RpAll K F xs ds) : WalkD K F (Itt K.K a) ds where
  go := fun i H1 s hi => by
    obtain ⟨v, e, _⟩ := r.get (List.getElem?_eq_getElem hi)
    exact ⟨xs, v, sqt_mono s h, e⟩
  stop := fun i H1 s hi => ⟨xs, sqt_mono s h, by rw [r.length]; exact hi⟩
  yld := fun i H1 x H2 s hi y => by
    obtain ⟨e, y⟩ := y
    obtain ⟨d, e', r'⟩ := r.get' (y xs (sqt_mono s h))
    exact ⟨d, e', .inl ⟨e, r'⟩⟩
def iLT (K : PySem.W.Frag) (tl : TE) : TI := fun σ H R => tl σ H fun x H1 => ∃ a, x = .ref a ∧ ((∃ xs, SqL K H1 a xs ∧ R (Itl K a) H1) ∨ ∃ xs, SqT K H1 a xs ∧ R (Itt K a) H1)
section
variable {X : Cx} {P : Ps} {tg e : Expr} {pos : Pos} {c : Ct} {F H : Hp} {σ : L2.St} {τ : List (Option V)}
theorem pi_lt {l : Expr} {tl : TE} (hl : PE X l tl) : PI X tg l (iLT X.K tl) := by
  refine ⟨fun pins s σ H R I h => ?_⟩
  refine thn (hl.run pins s σ H _ I h) fun v s1 ⟨x, H1, I1, r1, q1⟩ => ?_
  obtain ⟨a, e, q1⟩ := q1
  subst e
  cases r1
  have fr : ∀ b ∈ [s1.heap.objs.size], FpOk X pins H1 b := fun b hb => by
    have e : b = s1.heap.objs.size := by simpa using hb
    subst e
    exact I1.fpOk (Nat.le_refl _) (I1.hok.fresh (Nat.le_refl _))
  rcases q1 with ⟨xs, hq, q⟩ | ⟨xs, hq, q⟩
  · obtain ⟨its, rv, p, hz⟩ := I1.list hq
    refine wpAny_pyIter_list p.isList ?_
    exact ⟨s1.heap.objs.size, [s1.heap.objs.size], _, _, H1, rfl, I1.kept (t' := s1.toks) fun b o e => Heap.get?_push_of_some _ e, turn_list a _, ⟨_, Heap.get?_push_size _ rfl, rfl, rfl⟩, fr, q⟩
  · obtain ⟨its, rv, p, hz⟩ := I1.tuple hq
    refine wpAny_pyIter_tuple (show s1.heap.IsTuple a its.toArray from p) ?_
    exact ⟨s1.heap.objs.size, [s1.heap.objs.size], _, _, H1, rfl, I1.kept (t' := s1.toks) fun b o e => Heap.get?_push_of_some _ e, turn_tuple a _, ⟨_, Heap.get?_push_size _ rfl, rfl, rfl⟩, fr, q⟩
theorem di_dat {m : M DR} (hK : P.K.K = X.K) (h : PE X e (tE P m)) : PI X tg e (tI P (iDat m)) := (pi_lt h).of fun σ H R q => by
  obtain ⟨c, F, τ, ρ, Rr, q⟩ := q
  refine ⟨c, F, τ, ρ, Rr, (Ho.bind q).mono fun r ρ1 F1 H1 s1 R1 q1 v hv => ?_⟩
  obtain ⟨d, F2, ρ2, s2, R2, r2, q2⟩ := Ho.frz q1 R1 hv
  unfold M.opt at q2
  cases z : itemsD d with
  | none => rw [z] at q2; exact (show False from q2).elim
  | some ds =>
    rw [z] at q2
    have q3 := q2 F2 H1 (Same.refl _) R2
    cases d with
    | list es =>
      cases z
      cases r2 with
      | lst h1 h2 => exact ⟨_, rfl, .inl ⟨_, hK ▸ sql_mono R2.sub h1, q3 _ (hK ▸ walkD_list h1 h2)⟩⟩
    | tuple es =>
      cases z
      cases r2 with
      | tup h1 h2 => exact ⟨_, rfl, .inr ⟨_, hK ▸ sqt_mono R2.sub h1, q3 _ (hK ▸ walkD_tup h1 h2)⟩⟩
    | _ => cases z
/-- range(n), range(a, b) -/
def rangeD (a b : Int) : List D := (List.range (b - a).toNat).map fun i => .int (a + (i : Nat))
def okR (i : Int) : Bool := decide (-(2 ^ 62) ≤ i) && decide (i < 2 ^ 62)
def rngF : List D → Option (List D)
  | [.int j] => if okR j then some (rangeD 0 j) else none
  | [.int i, .int j] => if okR i && okR j then some (rangeD i j) else none
  | _ => none
def iRng (ms : M (List DR)) : M (List D) := M.bind ms fun rs => M.bind (rdAll rs) fun ds => M.opt (rngF ds)
theorem rangeD_length (a b : Int) : (rangeD a b).length = (b - a).toNat := by unfold rangeD; rw [List.length_map, List.length_range]
theorem walkD_range {K : Frag} {F : Hp} (a b : Int) : WalkD K F (Itr a (b - a).toNat) (rangeD a b) where
  go := fun i H1 s hi => by rw [rangeD_length] at hi; exact hi
  stop := fun i H1 s hi => by rw [rangeD_length] at hi; exact hi
  yld := fun i H1 x H2 s hi y => by
    obtain ⟨e, y⟩ := y
    subst y
    rw [rangeD_length] at hi
    refine ⟨.int (a + (i : Nat)), ?_, .inl ⟨e, .int _⟩⟩
    unfold rangeD
    rw [List.getElem?_map, List.getElem?_range hi]
    rfl
theorem okR_of {i : Int} (h : okR i = true) : -(2 ^ 62) ≤ i ∧ i < 2 ^ 62 := by
  unfold okR at h
  simp only [Bool.and_eq_true, decide_eq_true_eq] at h
  exact h
theorem di_rng1 {a : Expr} {p : Pos} {ms : M (List DR)} (hl : ALen ms 1) (hg : Gl X "range") (hm : X.mg "range" = none) (ha : PA X [a] (tA P ms)) (hs : starEach [a] X.env = [(false, eval a X.env)]) : PI X tg (.Call (.Name "range" p) [a] [] pos) (tI P (iRng ms)) :=
  (pi_range1 hg hm ha hs).of fun σ H R q => by
    obtain ⟨c, F, τ, ρ, Rr, q⟩ := q
    refine ⟨c, F, τ, ρ, Rr, ?_⟩
    have q' := Ho.bind q
    match z : ms ρ with
    | none => rw [z] at q'; exact q'
    | some (.error x, ρ1) => rw [z] at q'; exact q'
    | some (.ok rs, ρ1) =>
      rw [z] at q'
      intro F1 H1 s1 R1 vs hvs
      obtain ⟨ds, n, q2⟩ := Ho.rdAll (q' F1 H1 s1 R1) R1 hvs
      unfold M.opt at q2
      cases y : rngF ds with
      | none => rw [y] at q2; exact (show False from q2).elim
      | some es =>
        rw [y] at q2
        have q3 := q2 F1 H1 (Same.refl _) R1
        have hn : ds.length = 1 := by rw [← Paired.length n, Paired.length hvs, hl _ _ _ z]
        unfold rngF at y
        split at y
        · split at y
          · rename_i j hj
            cases y
            obtain ⟨v, rfl, n0⟩ := now1 n
            have w := walkD_range (K := P.K) (F := F1) 0 j
            obtain ⟨g1, g2⟩ := okR_of hj
            refine ⟨_, by rw [n0.int], g1, g2, ?_⟩
            have e := q3 _ w
            rw [Int.sub_zero] at e
            exact e
          · cases y
        · simp at hn
        · cases y
theorem di_rng2 {a b : Expr} {p : Pos} {ms : M (List DR)} (hl : ALen ms 2) (hg : Gl X "range") (hm : X.mg "range" = none) (ha : PA X [a, b] (tA P ms)) (hs : starEach [a, b] X.env = [(false, eval a X.env), (false, eval b X.env)]) (hs2 : starEach [b] X.env = [(false, eval b X.env)]) : PI X tg (.Call (.Name "range" p) [a, b] [] pos) (tI P (iRng ms)) :=
  (pi_range2 hg hm ha hs hs2).of fun σ H R q => by
    obtain ⟨c, F, τ, ρ, Rr, q⟩ := q
    refine ⟨c, F, τ, ρ, Rr, ?_⟩
    have q' := Ho.bind q
    match z : ms ρ with
    | none => rw [z] at q'; exact q'
    | some (.error x, ρ1) => rw [z] at q'; exact q'
    | some (.ok rs, ρ1) =>
      rw [z] at q'
      intro F1 H1 s1 R1 vs hvs
      obtain ⟨ds, n, q2⟩ := Ho.rdAll (q' F1 H1 s1 R1) R1 hvs
      unfold M.opt at q2
      cases y : rngF ds with
      | none => rw [y] at q2; exact (show False from q2).elim
      | some es =>
        rw [y] at q2
        have q3 := q2 F1 H1 (Same.refl _) R1
        have hn : ds.length = 2 := by rw [← Paired.length n, Paired.length hvs, hl _ _ _ z]
        unfold rngF at y
        split at y
        · simp at hn
        · split at y
          · rename_i i j hj
            cases y
            obtain ⟨v, w, rfl, n1, n2⟩ := now2 n
            obtain ⟨h1, h2⟩ := Bool.and_eq_true_iff.mp hj
            exact ⟨i, j, by rw [n1.int, n2.int], ⟨(okR_of h1).1, (okR_of h1).2, (okR_of h2).1, (okR_of h2).2⟩, q3 _ (walkD_range i j)⟩
          · cases y
        · cases y

/-! ### targets -/
inductive DT where
  | nm (i : Nat)
  | tp (is : List Nat)
def DT.slots : DT → List Nat
  | .nm i => [i]
  | .tp is => is
def setDs : List Nat → List D → M Unit
  | [], [] => M.ok ()
  | i :: is, d :: ds => M.bind (setD i d) fun _ => setDs is ds
  | _, _ => M.no
def setT : DT → D → M Unit
  | .nm i, d => setD i d
  | .tp is, .tuple ds => setDs is ds
  | .tp _, _ => M.no
def Tch (ws : List Nat) (σ σ' : L2.St) : Prop := σ'.length = σ.length ∧ ∀ (j : Nat), j ∉ ws → σ'[j]? = σ[j]?
def gT (P : Ps) (t : DT) : TG := fun v σ H Q => ∃ c F τ ρ d, Rl P.K c F ρ (σ ++ τ) H ∧ Rp P.K F v d ∧ ∃ ρ', setT t d ρ = some (.ok (), ρ') ∧ ∀ σ' F' H', Same F F' → Rl P.K c F' ρ' (σ' ++ τ) H' → Tch t.slots σ σ' → Q σ' H'
theorem dg_name {i : Nat} {x : Str} {p : Pos} (hN : X.N.Nodup) (hi : X.N[i]? = some x) (hx : Loc X.env.scope x) (hf : X.fn x = true ∨ X.env.scope.names.lookup x = some .local) : PG X (.Name x p) (gT P (.nm i)) := by
  refine ⟨fun pins s σ H v u Q I r h => (pg_name hN hi hx hf).run pins s σ H v u Q I r ?_⟩
  obtain ⟨c, F, τ, ρ, d, R, rp, ρ', e, h⟩ := h
  have hl : i < σ.length := by rw [I.len]; exact (List.getElem?_eq_some_iff.mp hi).1
  obtain ⟨e1, hb⟩ := setD_some e
  cases e1
  refine h _ F H (Same.refl F) ?_ ⟨by rw [List.length_set], fun j hj => by rw [List.getElem?_set_ne (fun z => hj (by simp [DT.slots, z]))]⟩
  have := R.setD rp hb
  rw [List.set_append_left (h := hl)] at this
  exact this
def gTs (P : Ps) (is : List Nat) : TGs := fun vs σ H Q => ∃ c F τ ρ ds, Rl P.K c F ρ (σ ++ τ) H ∧ RpAll P.K F vs ds ∧ ∃ ρ', setDs is ds ρ = some (.ok (), ρ') ∧ ∀ σ' F' H', Same F F' → Rl P.K c F' ρ' (σ' ++ τ) H' → Tch is σ σ' → Q σ' H'
theorem _root_.L2.PGs.ofL {X : Cx} {es : List Expr} {t t' : TGs} (h : PGs X es t) (w : ∀ vs σ H Q, σ.length = X.N.length → t' vs σ H Q → t vs σ H Q) : PGs X es t' := ⟨fun pins s σ H vs us Q I r q => h.run pins s σ H vs us Q I r (w _ _ _ _ I.len q)⟩
theorem dgs_nil : PGs X [] (gTs P []) := pgs_nil.ofL fun vs σ H Q _ h => by
  obtain ⟨c, F, τ, ρ, ds, R, rp, ρ', e, h⟩ := h
  cases rp with
  | nil =>
    cases e
    exact ⟨rfl, h σ F H (Same.refl F) R ⟨rfl, fun _ _ => rfl⟩⟩
  | cons _ _ => cases e
theorem dgs_cons {i : Nat} {is : List Nat} {x : Str} {p : Pos} {es : List Expr} (hN : X.N.Nodup) (hi : X.N[i]? = some x) (hx : Loc X.env.scope x) (hf : X.fn x = true ∨ X.env.scope.names.lookup x = some .local) (hr : PGs X es (gTs P is))
    (hs : (assignEach (.Name x p :: es) X.env).map (·.2) = assign (.Name x p) X.env :: (assignEach es X.env).map (·.2)) : PGs X (.Name x p :: es) (gTs P (i :: is)) :=
  (pgs_cons (pg_name hN hi hx hf) hr hs).ofL fun vs σ H Q hlen h => by
    obtain ⟨c, F, τ, ρ, ds, R, rp, ρ', e, h⟩ := h
    have hl : i < σ.length := by rw [hlen]; exact (List.getElem?_eq_some_iff.mp hi).1
    cases rp with
    | nil => cases e
    | cons r1 r2 =>
      unfold setDs M.bind at e
      split at e
      · cases e
      · rename_i u ρ1 e1
        obtain ⟨e2, hb⟩ := setD_some e1
        cases e2
        have R1 := R.setD r1 hb
        rw [List.set_append_left (h := hl)] at R1
        refine ⟨_, _, rfl, c, F, τ, _, _, R1, r2, ρ', e, fun σ' F' H' s R' tc => h σ' F' H' s R' ⟨by rw [tc.1, List.length_set], fun j hj => ?_⟩⟩
        rw [tc.2 j (fun z => hj (List.mem_cons_of_mem _ z)), List.getElem?_set_ne (fun z => hj (by rw [z]; exact List.mem_cons_self))]
      · cases e
theorem dg_tup {es : List Expr} {k : Nat} {is : List Nat} (hK : P.K.K = X.K) (hc : X.calm = true) (h : PGs X es (gTs P is)) (hn : (assignEach es X.env).length = is.length) (hst : (assignEach es X.env).findIdx? (·.1) = none) : PG X (.Tuple es k pos) (gT P (.tp is)) := by
  refine ⟨fun pins s σ H v u Q I r q => (pg_tup hc h hn hst).run pins s σ H v u Q I r ?_⟩
  obtain ⟨c, F, τ, ρ, d, R, rp, ρ', e, q⟩ := q
  cases d with
  | tuple ds =>
    cases rp with
    | tup h1 h2 =>
      refine ⟨_, _, rfl, hK ▸ sqt_mono R.sub h1, ?_, c, F, τ, ρ, ds, R, h2, ρ', e, q⟩
      rw [h2.length]
      have z : ∀ (is : List Nat) (ds : List D) (ρ ρ' : List DV), setDs is ds ρ = some (.ok (), ρ') → ds.length = is.length := by
        intro is
        induction is with
        | nil => intro ds ρ ρ' e; cases ds with
          | nil => rfl
          | cons _ _ => cases e
        | cons i is ih =>
          intro ds ρ ρ' e
          cases ds with
          | nil => cases e
          | cons d ds =>
            unfold setDs M.bind at e
            split at e
            · cases e
            · rw [List.length_cons, List.length_cons, ih _ _ _ e]
            · cases e
      exact z is ds ρ ρ' e
  | _ => cases e

/-! ### for -/
def forM_ (b : D → M Fl) : List D → M Fl
  | [] => M.ok .nx
  | d :: ds => M.bind (b d) fun f => match f with
    | .nx => forM_ b ds
    | .cnt => forM_ b ds
    | .brk => M.ok .nx
    | .ret r => M.ok (.ret r)
def sFor (mi : M (List D)) (t : DT) (mb : M Fl) : M Fl := M.bind mi fun ds => forM_ (fun d => M.bind (setT t d) fun _ => mb) ds
theorem setT_ok {t : DT} {d : D} {ρ : List DV} {o : Except Ex Unit × List DV} (h : setT t d ρ = some o) : ∃ ρ', o = (.ok (), ρ') := by
  have z : ∀ (is : List Nat) (ds : List D) (ρ : List DV) (o : Except Ex Unit × List DV), setDs is ds ρ = some o → ∃ ρ', o = (.ok (), ρ') := by
    intro is
    induction is with
    | nil => intro ds ρ o e; cases ds with
      | nil => cases e; exact ⟨_, rfl⟩
      | cons _ _ => cases e
    | cons i is ih =>
      intro ds ρ o e
      cases ds with
      | nil => cases e
      | cons d ds =>
        unfold setDs M.bind at e
        split at e
        · cases e
        · exact ih _ _ _ e
        · rename_i x ρ' e1
          cases (setD_some e1).1
  cases t with
  | nm i => exact ⟨_, (setD_some h).1⟩
  | tp is =>
    cases d with
    | tuple ds => exact z is ds ρ o h
    | _ => cases h
theorem ds_forK {wi : TI} {mi : M (List D)} {t : DT} {mb : M Fl} (D : Ends) (σ : L2.St) (H : Hp) (q : tS P (sFor mi t mb) D σ H) : tFor (tI P mi) (gT P t) (tS P mb) D σ H := by
  obtain ⟨c, F, ρ, R, q⟩ := q
  refine ⟨c, F, [], ρ, nilτ R, (HoS.bind σ q).mono fun ds ρ1 F1 H1 s1 R1 q1 J wk => ?_⟩
  have R1' := nilτ' R1
  refine ⟨fun i m σ H => m = ds.length - i ∧ i ≤ ds.length ∧ ∃ F2 ρ2, Same F1 F2 ∧ Rl P.K c F2 ρ2 σ H ∧ HoS P c F2 (forM_ (fun d => M.bind (setT t d) fun _ => mb) (ds.drop i) ρ2) D,
    ⟨ds.length, by simp, Nat.zero_le _, F1, ρ1, Same.refl _, R1', by simpa using q1⟩, ?_⟩
  rintro i m σ2 H2 ⟨rfl, hi, F2, ρ2, s2, R2, q2⟩
  have sH : Same F1 H2 := s2.trans R2.sub
  by_cases hlt : i < ds.length
  · refine .inr ⟨wk.go i H2 sH hlt, fun σ' H' => ∃ F3 ρ3, Same F1 F3 ∧ Rl P.K c F3 ρ3 σ' H' ∧ HoS P c F3 (forM_ (fun d => M.bind (setT t d) fun _ => mb) (ds.drop (i + 1)) ρ3) D, fun σ' H' ⟨F3, ρ3, a1, a2, a3⟩ => ⟨ds.length - (i + 1), by omega, rfl, hlt, F3, ρ3, a1, a2, a3⟩, fun x H' y => ?_⟩
    obtain ⟨d, ed, y⟩ := wk.yld i H2 x H' sH hlt y
    have e : ds.drop i = d :: ds.drop (i + 1) := by
      rw [List.drop_eq_getElem_cons hlt]
      rw [List.getElem?_eq_getElem hlt] at ed
      cases ed
      rfl
    rw [e] at q2
    -- the item in a heap F3
    obtain ⟨F3, s3, R3, r3⟩ : ∃ F3, Same F2 F3 ∧ Rl P.K c F3 ρ2 σ2 H' ∧ Rp P.K F3 x d := by
      rcases y with ⟨rfl, r⟩ | ⟨T, xs, es, rfl, hT, rfl, rfl, r⟩
      · exact ⟨F2, Same.refl _, R2, r.mono s2⟩
      · have hF : F2 T = none := R2.sub.free hT
        exact ⟨_, Same.upd hF, R2.new hT, rp_newT (r.mono s2) hF⟩
    have q3 : HoS P c F3 (M.bind (M.bind (setT t d) fun _ => mb) (fun f => match f with
      | .nx => forM_ (fun d => M.bind (setT t d) fun _ => mb) (ds.drop (i + 1))
      | .cnt => forM_ (fun d => M.bind (setT t d) fun _ => mb) (ds.drop (i + 1))
      | .brk => M.ok .nx
      | .ret r => M.ok (.ret r)) ρ2) D := HoS.from q2 s3
    rw [M.assoc] at q3
    have q4 := HoS.bind σ2 q3
    match z : setT t d ρ2 with
    | none => rw [z] at q4; exact (show False from q4).elim
    | some o =>
      obtain ⟨ρ3, rfl⟩ := setT_ok z
      unfold M.bind at q3
      rw [z] at q3
      dsimp only at q3
      refine ⟨c, F3, [], ρ2, d, nilτ R3, r3, ρ3, z, fun σ4 F4 H4 s4 R4 _ => ⟨c, F4, ρ3, nilτ' R4, ?_⟩⟩
      have back : Same F1 F4 := (s2.trans s3).trans s4
      match y2 : mb ρ3 with
      | none => rw [y2] at q3; exact q3
      | some (.error x, ρ5) => rw [y2] at q3; exact fun σ => Er.mono (q3 σ) s4
      | some (.ok .nx, ρ5) => rw [y2] at q3; exact fun σ5 F5 H5 s5 R5 => ⟨F5, ρ5, back.trans s5, R5, HoS.from (HoS.from q3 s4) s5⟩
      | some (.ok .cnt, ρ5) => rw [y2] at q3; exact fun σ5 F5 H5 s5 R5 => ⟨F5, ρ5, back.trans s5, R5, HoS.from (HoS.from q3 s4) s5⟩
      | some (.ok .brk, ρ5) => rw [y2] at q3; exact fun σ5 F5 H5 s5 R5 => q3 σ5 F5 H5 (s4.trans s5) R5
      | some (.ok (.ret r), ρ5) => rw [y2] at q3; exact fun v σ5 F5 H5 s5 R5 rr => q3 v σ5 F5 H5 (s4.trans s5) R5 rr
  · have e : i = ds.length := by omega
    subst e
    rw [List.drop_length] at q2
    exact .inl ⟨wk.stop _ H2 sH (Nat.le_refl _), q2 σ2 F2 H2 (Same.refl _) R2⟩
theorem ds_for {iter : Expr} {body : List Stmt} {mi : M (List D)} {t : DT} {mb : M Fl} (hp : PassesOwn (model X.prog X.w) X.A X.env X.xe) (hc : X.calm = true) (hi : PI X tg iter (tI P mi)) (hg : PG X tg (gT P t)) (hb : PSs X body (tS P mb)) (hs : ∀ x, foldedSetIterable iter X.env x = pure x) :
    PS X (.For tg iter body [] pos) (tS P (sFor mi t mb)) := (ps_for hp hc hi hg hb hs).of (ds_forK (wi := tI P mi))
end
end DL

set_option Elab.async false
set_option linter.all false
set_option maxRecDepth 100000
set_option maxHeartbeats 4000000
/-! DL9: list comprehensions; lists that are changed. -/
namespace DL
open PySem PySem.Spec PyProof.Rows L2

/-! ### comprehensions -/
abbrev Ps.quiet (P : Ps) : Ps := { P with W := fun _ _ _ _ => False }
/-- the block's own slots forgotten -/
def wipeOk (vs : List Nat) (ρ : List DV) : Bool := vs.all fun i => match ρ[i]? with
  | some .un => true
  | some (.dat _) => true
  | _ => false
def wipeD (vs : List Nat) (ρ : List DV) : List DV := ρ.mapIdx fun i x => if vs.contains i then .un else x
def mWipe (vs : List Nat) : M Unit := fun ρ => if wipeOk vs ρ then some (.ok (), wipeD vs ρ) else none
def restD (vs : List Nat) (ρ0 ρ : List DV) : List DV := ρ.mapIdx fun i x => if vs.contains i then (ρ0[i]?).getD x else x
def accAdd (y : D) : M Unit := fun ρ => match ρ.getLast? with
  | some (.lst acc) => if acc.length < 16777216 then some (.ok (), ρ.dropLast ++ [.lst (acc ++ [y])]) else none
  | _ => none
def lcTurn (t : DT) (mt : M Bool) (me : M DR) (vs : List Nat) (d : D) : M Unit := M.bind (setT t d) fun _ => M.bind mt fun b => M.bind (if b = true then M.bind me fun r => M.bind (frz r) fun y => accAdd y else M.ok ()) fun _ => mWipe vs
def lcGo (t : DT) (mt : M Bool) (me : M DR) (vs : List Nat) : List D → M Unit
  | [] => M.ok ()
  | d :: ds => M.bind (lcTurn t mt me vs d) fun _ => lcGo t mt me vs ds
def lcRun (t : DT) (mt : M Bool) (me : M DR) (vs : List Nat) (ds : List D) : M Unit := fun ρ => match (M.bind (mWipe vs) fun _ => lcGo t mt me vs ds) ρ with
  | some (.ok _, ρ') => some (.ok (), restD vs ρ ρ')
  | _ => none
def nLc (mi : M (List D)) (t : DT) (mt : M Bool) (me : M DR) (vs : List Nat) : M Unit := M.bind mi fun ds => M.bind (push []) fun _ => lcRun t mt me vs ds
/-- the last temporary, frozen -/
def popD : M DR := fun ρ => match ρ.getLast? with
  | some (.lst ds) => some (.ok (.dat (.list ds)), ρ.dropLast)
  | _ => none
def eLc (mi : M (List D)) (t : DT) (mt : M Bool) (me : M DR) (vs : List Nat) : M DR := M.bind (nLc mi t mt me vs) fun _ => popD

theorem wipe_get (σ : L2.St) : ∀ (vs : List Nat) (i : Nat), (wipe σ vs)[i]? = if vs.contains i then (σ[i]?).map (fun _ => none) else σ[i]?
  | [], i => by simp [wipe]
  | v :: vs, i => by
    show ((wipe σ vs).set v none)[i]? = _
    by_cases h : v = i
    · subst h
      have : (List.contains (v :: vs) v) = true := by simp
      rw [this, if_pos rfl]
      by_cases hv : v < (wipe σ vs).length
      · rw [List.getElem?_set_self hv]
        rw [wipe_length] at hv
        rw [List.getElem?_eq_getElem hv]
        rfl
      · rw [List.getElem?_eq_none (by rw [List.length_set]; omega)]
        rw [wipe_length] at hv
        rw [List.getElem?_eq_none (by omega)]
        rfl
    · rw [List.getElem?_set_ne h, wipe_get σ vs i]
      have : (List.contains (v :: vs) i) = vs.contains i := by
        rw [List.contains_cons]
        have : (i == v) = false := by simpa using fun z => h z.symm
        rw [this, Bool.false_or]
      rw [this]
theorem wipeD_get (vs : List Nat) (ρ : List DV) (i : Nat) : (wipeD vs ρ)[i]? = (ρ[i]?).map fun x => if vs.contains i then .un else x := by
  unfold wipeD
  rw [List.getElem?_mapIdx]
theorem restD_get (vs : List Nat) (ρ0 ρ : List DV) (i : Nat) : (restD vs ρ0 ρ)[i]? = (ρ[i]?).map fun x => if vs.contains i then (ρ0[i]?).getD x else x := by
  unfold restD
  rw [List.getElem?_mapIdx]
theorem wipeOk_at {vs : List Nat} {ρ : List DV} (h : wipeOk vs ρ = true) {i : Nat} (hi : vs.contains i = true) : ρ[i]? = some .un ∨ ∃ d, ρ[i]? = some (.dat d) := by
  have := List.all_eq_true.mp h i (by simpa using hi)
  split at this
  · exact .inl (by assumption)
  · exact .inr ⟨_, by assumption⟩
  · cases this
section
variable {K : Frag} {c : Ct} {F F' H H' : Hp} {ρ ρ' : List DV} {σ σ2 : L2.St} {τ : List (Option V)}
theorem Rl.wiped {vs : List Nat} (R : Rl K c F ρ (σ ++ τ) H) (hv : ∀ i ∈ vs, i < σ.length) (h : wipeOk vs ρ = true) : Rl K c F (wipeD vs ρ) (wipe σ vs ++ τ) H := by
  have hl : ρ.length = σ.length + τ.length := by rw [R.len, List.length_append]
  have getL : ∀ i, (wipe σ vs ++ τ)[i]? = if vs.contains i then ((σ ++ τ)[i]?).map (fun _ => none) else (σ ++ τ)[i]? := fun i => by
    by_cases hi : i < σ.length
    · rw [List.getElem?_append_left (by rw [wipe_length]; exact hi), List.getElem?_append_left hi, wipe_get]
    · rw [List.getElem?_append_right (by rw [wipe_length]; omega), List.getElem?_append_right (by omega), wipe_length]
      have : vs.contains i = false := by
        cases q : vs.contains i with
        | false => rfl
        | true => exact absurd (hv i (by simpa using q)) hi
      rw [this]
      rfl
  refine R.patch (by unfold wipeD; rw [List.length_mapIdx, List.length_append, wipe_length]; omega) (fun i x v e1 e2 => ?_) fun p hp => ?_
  · rw [wipeD_get] at e1
    rw [getL] at e2
    cases q : vs.contains i with
    | true =>
      rw [q] at e1 e2
      rw [if_pos rfl] at e2
      cases z : ρ[i]? with
      | none => rw [z] at e1; cases e1
      | some y =>
        rw [z] at e1
        simp at e1
        subst e1
        exact .inr ⟨rfl, trivial⟩
    | false =>
      rw [q] at e1 e2
      simp at e1 e2
      exact .inl ⟨by simpa using e1, e2⟩
  · obtain ⟨⟨ds, e⟩, l⟩ := R.lent p hp
    have : vs.contains p.1 = false := by
      cases q : vs.contains p.1 with
      | false => rfl
      | true =>
        rcases wipeOk_at h q with g | ⟨d, g⟩
        · rw [g] at e; cases e
        · rw [g] at e; cases e
    rw [wipeD_get, getL, this, e]
    exact ⟨rfl, rfl⟩
theorem Rl.restored {vs : List Nat} {H0 : Hp} {ρ0 : List DV} {τ0 : List (Option V)} {F0 : Hp} (R : Rl K c F ρ (wipe σ vs ++ τ) H) (R0 : Rl K c F0 ρ0 (σ ++ τ0) H0) (s : Same F0 F) (hv : ∀ i ∈ vs, i < σ.length) (h : wipeOk vs ρ0 = true) : Rl K c F (restD vs ρ0 ρ) (σ ++ τ) H := by
  have getL : ∀ i, vs.contains i = false → (wipe σ vs ++ τ)[i]? = (σ ++ τ)[i]? := fun i hi => by
    by_cases hl : i < σ.length
    · rw [List.getElem?_append_left (by rw [wipe_length]; exact hl), List.getElem?_append_left hl, wipe_get, hi]
      rfl
    · rw [List.getElem?_append_right (by rw [wipe_length]; omega), List.getElem?_append_right (by omega), wipe_length]
  refine R.patch (by unfold restD; rw [List.length_mapIdx, R.len, List.length_append, List.length_append, wipe_length]) (fun i x v e1 e2 => ?_) fun p hp => ?_
  · rw [restD_get] at e1
    cases q : vs.contains i with
    | false =>
      rw [q] at e1
      simp at e1
      exact .inl ⟨e1, by rw [getL i q]; exact e2⟩
    | true =>
      rw [q] at e1
      cases z : ρ[i]? with
      | none => rw [z] at e1; cases e1
      | some y =>
        rw [z] at e1
        have hi : i < σ.length := hv i (by simpa using q)
        rw [List.getElem?_append_left hi] at e2
        have e3 : (σ ++ τ0)[i]? = some v := by rw [List.getElem?_append_left hi]; exact e2
        rcases wipeOk_at h q with g | ⟨d, g⟩
        · rw [g] at e1
          simp at e1
          subst e1
          exact .inr ⟨rfl, trivial⟩
        · rw [g] at e1
          simp at e1
          subst e1
          obtain ⟨w, hw, rw'⟩ := R0.slot i _ v g e3
          exact .inr ⟨rfl, w, hw, rw'.mono s⟩
  · obtain ⟨⟨ds, e⟩, l⟩ := R.lent p hp
    have : vs.contains p.1 = false := by
      cases q : vs.contains p.1 with
      | false => rfl
      | true =>
        have hi : p.1 < σ.length := hv p.1 (by simpa using q)
        rw [List.getElem?_append_left (by rw [wipe_length]; exact hi), wipe_get, q, if_pos rfl] at l
        cases z : σ[p.1]? with
        | none => rw [z] at l; cases l
        | some y => rw [z] at l; cases l
    rw [restD_get, getL _ this, this, e]
    exact ⟨rfl, rfl⟩
theorem tch_wipe {ws vs : List Nat} (h : Tch ws σ σ2) (hs : ∀ i ∈ ws, i ∈ vs) : wipe σ2 vs = wipe σ vs := by
  apply List.ext_getElem?
  intro i
  rw [wipe_get, wipe_get]
  cases q : vs.contains i with
  | false => rw [h.2 i (fun z => by rw [show vs.contains i = true by simpa using hs i z] at q; cases q)]
  | true =>
    rw [if_pos rfl, if_pos rfl]
    have : (σ2[i]?).isSome = (σ[i]?).isSome := by
      cases e1 : σ2[i]? with
      | none =>
        have := List.getElem?_eq_none_iff.mp e1
        rw [List.getElem?_eq_none (by rw [← h.1]; exact this)]
      | some a =>
        have := (List.getElem?_eq_some_iff.mp e1).1
        rw [List.getElem?_eq_getElem (by rw [← h.1]; exact this)]
        rfl
    cases e1 : σ2[i]? <;> cases e2 : σ[i]? <;> simp_all
end
section
variable {X : Cx} {P : Ps} {e : Expr} {pos : Pos} {c : Ct} {F H : Hp} {σ : L2.St} {τ : List (Option V)}
theorem ho_quiet {α : Type} {o : Option (Except Ex α × List DV)} {a : α} {ρ : List DV} (h : o = some (.ok a, ρ)) (Φ : α → List DV → Hp → Hp → Prop) (q : ∀ F' H', Same F F' → Rl P.K c F' ρ (σ ++ τ) H' → Φ a ρ F' H') : Ho P.quiet c F σ τ o Φ := by
  subst h; exact q
theorem mbind_ok {α β : Type} {m : M α} {k : α → M β} {ρ : List DV} {b : β} {ρ' : List DV} (h : M.bind m k ρ = some (.ok b, ρ')) : ∃ a ρ1, m ρ = some (.ok a, ρ1) ∧ k a ρ1 = some (.ok b, ρ') := by
  unfold M.bind at h
  split at h
  · cases h
  · exact ⟨_, _, by assumption, h⟩
  · cases h
theorem accAdd_rl {K : Frag} {c : Ct} {F H : Hp} {ρ ρ' : List DV} {L : List (Option V)} {D : Addr} {v : V} {y : PyData} (h : accAdd y ρ = some (.ok (), ρ')) (R : Rl K c F ρ (L ++ [some (.ref D)]) H) (rp : Rp K F v y) :
    ∃ xs, H D = some (.lst xs) ∧ xs.length < sizeLine ∧ Rl K c F ρ' (L ++ [some (.ref D)]) (upd H D (.lst (xs ++ [v]))) := by
  have hs : sizeLine = 16777216 := sizeLine_eq
  unfold accAdd at h
  split at h
  · rename_i acc hl
    split at h
    · rename_i hz
      cases h
      obtain ⟨ys, rfl⟩ := List.getLast?_eq_some_iff.mp hl
      have hlen : ys.length = L.length := by
        have := R.len
        simp only [List.length_append, List.length_singleton] at this
        omega
      have e : (ys ++ [DV.lst acc])[ys.length]? = some (.lst acc) := by rw [List.getElem?_append_right (Nat.le_refl _)]; simp
      have l : (L ++ [some (V.ref D)])[ys.length]? = some (some (.ref D)) := by rw [hlen, List.getElem?_append_right (Nat.le_refl _)]; simp
      obtain ⟨a, e1, e2, xs, e3, e4⟩ := R.slot _ _ _ e l
      cases e1
      refine ⟨xs, e3, by rw [e4.length]; omega, ?_⟩
      have := R.write e (es := acc) rfl l (e4.append (.one rp))
      rw [List.dropLast_concat]
      have z : (ys ++ [DV.lst acc]).set ys.length ((DV.lst acc).put (acc ++ [y])) = ys ++ [DV.lst (acc ++ [y])] := by
        rw [List.set_append_right (h := Nat.le_refl _)]
        simp [DV.put, DV.putO]
      rw [z] at this
      exact this
    · cases h
  · cases h
theorem tN_lc {mi : M (List D)} {t : DT} {mt : M Bool} {me : M DR} {vs : List Nat} (hvs : ∀ i ∈ t.slots, i ∈ vs) (hN : ∀ i ∈ vs, i < X.N.length) (σ : L2.St) (H : Hp) (Q : VK) (hσ : σ.length = X.N.length) (q : tN P (nLc mi t mt me vs) σ H Q) :
    tLc (tI P mi) (gT P.quiet t) (tT P.quiet mt) (tE P.quiet me) vs σ H Q := by
  obtain ⟨c, F, τ, ρ, R, q⟩ := q
  have hv : ∀ i ∈ vs, i < σ.length := fun i hi => by rw [hσ]; exact hN i hi
  refine ⟨c, F, τ, ρ, R, (HoN.bind q).mono fun ds ρ1 F1 H1 s1 R1 q1 J wk Dl hD => ?_⟩
  -- the new list lies as the last temporary
  have Rp0 : Rl P.K c F1 (ρ1 ++ [.lst []]) (σ ++ τ ++ [some (.ref Dl)]) (upd H1 Dl (.lst [])) := R1.push hD .nil
  have q2 : HoN P c F1 σ τ (lcRun t mt me vs ds (ρ1 ++ [.lst []])) fun _ _ H' v => Q v H' := q1
  unfold lcRun at q2
  match z : (M.bind (mWipe vs) fun _ => lcGo t mt me vs ds) (ρ1 ++ [.lst []]) with
  | none => rw [z] at q2; exact (show False from q2).elim
  | some (.error x, ρ2) => rw [z] at q2; exact (show False from q2).elim
  | some (.ok u, ρe) =>
    rw [z] at q2
    have q3 : ∀ F' H', Same F1 F' → Rl P.K c F' ρe (wipe σ vs ++ (τ ++ [some (.ref Dl)])) H' → wipeOk vs (ρ1 ++ [.lst []]) = true → Q (.ref Dl) H' := fun F' H' s R' hw => by
      refine q2 F' H' (.ref Dl) s ?_
      have Rp0' : Rl P.K c F1 (ρ1 ++ [.lst []]) (σ ++ (τ ++ [some (.ref Dl)])) (upd H1 Dl (.lst [])) := by rw [← List.append_assoc]; exact Rp0
      have := R'.restored Rp0' s hv hw
      rw [← List.append_assoc] at this
      exact this
    obtain ⟨u1, ρw, zw, zg⟩ := mbind_ok z
    unfold mWipe at zw
    split at zw
    · rename_i hw
      cases zw
      have Rw : Rl P.K c F1 (wipeD vs (ρ1 ++ [.lst []])) (wipe σ vs ++ (τ ++ [some (.ref Dl)])) (upd H1 Dl (.lst [])) := Rl.wiped (by rw [← List.append_assoc]; exact Rp0) hv hw
      refine ⟨fun i m H => m = ds.length - i ∧ i ≤ ds.length ∧ ∃ F2 ρ2, Same F1 F2 ∧ Rl P.K c F2 ρ2 (wipe σ vs ++ (τ ++ [some (.ref Dl)])) H ∧ lcGo t mt me vs (ds.drop i) ρ2 = some (.ok u, ρe),
        ⟨ds.length, by simp, Nat.zero_le _, F1, _, Same.refl _, Rw, by simpa using zg⟩, ?_⟩
      rintro i m H2 ⟨rfl, hi, F2, ρ2, s2, R2, g2⟩
      have sH : Same F1 H2 := s2.trans R2.sub
      by_cases hlt : i < ds.length
      · refine .inr ⟨wk.go i H2 sH hlt, fun H' => ∃ F3 ρ3, Same F1 F3 ∧ Rl P.K c F3 ρ3 (wipe σ vs ++ (τ ++ [some (.ref Dl)])) H' ∧ lcGo t mt me vs (ds.drop (i + 1)) ρ3 = some (.ok u, ρe),
          fun H' ⟨F3, ρ3, a1, a2, a3⟩ => ⟨ds.length - (i + 1), by omega, rfl, hlt, F3, ρ3, a1, a2, a3⟩, fun x H' y => ?_⟩
        obtain ⟨d, ed, y⟩ := wk.yld i H2 x H' sH hlt y
        have e : ds.drop i = d :: ds.drop (i + 1) := by
          rw [List.drop_eq_getElem_cons hlt]
          rw [List.getElem?_eq_getElem hlt] at ed
          cases ed
          rfl
        rw [e] at g2
        obtain ⟨F3, s3, R3, r3⟩ : ∃ F3, Same F2 F3 ∧ Rl P.K c F3 ρ2 (wipe σ vs ++ (τ ++ [some (.ref Dl)])) H' ∧ Rp P.K F3 x d := by
          rcases y with ⟨rfl, r⟩ | ⟨T, xs, es, rfl, hT, rfl, rfl, r⟩
          · exact ⟨F2, Same.refl _, R2, r.mono s2⟩
          · have hF : F2 T = none := R2.sub.free hT
            exact ⟨_, Same.upd hF, R2.new hT, rp_newT (r.mono s2) hF⟩
        obtain ⟨u2, ρ9, g3, g4⟩ := mbind_ok g2
        obtain ⟨u3, ρ3, g5, g6⟩ := mbind_ok g3
        refine ⟨c, F3, τ ++ [some (.ref Dl)], ρ2, d, R3, r3, ρ3, g5, fun σ4 F4 H4 s4 R4 tc => ⟨tch_wipe tc hvs |>.trans (by
          apply List.ext_getElem?
          intro j
          rw [wipe_get, wipe_get]
          cases vs.contains j with
          | false => rfl
          | true =>
            cases σ[j]? <;> rfl), ?_⟩⟩
        have hσ4 : σ4.length = σ.length := by rw [tc.1, wipe_length]
        have hw4 : wipe σ4 vs = wipe σ vs := tch_wipe tc hvs |>.trans (by
          apply List.ext_getElem?
          intro j
          rw [wipe_get, wipe_get]
          cases vs.contains j with
          | false => rfl
          | true =>
            cases σ[j]? <;> rfl)
        obtain ⟨b, ρ5, g7, g8⟩ := mbind_ok g6
        have b34 : Same F1 F4 := (s2.trans s3).trans s4
        -- behind the turn
        have fin : ∀ {F7 : Hp} {ρ7 : List DV} {H7 : Hp}, Same F4 F7 → Rl P.K c F7 ρ7 (σ4 ++ (τ ++ [some (.ref Dl)])) H7 → mWipe vs ρ7 = some (.ok u2, ρ9) → ∃ F3 ρ3, Same F1 F3 ∧ Rl P.K c F3 ρ3 (wipe σ vs ++ (τ ++ [some (.ref Dl)])) H7 ∧ lcGo t mt me vs (ds.drop (i + 1)) ρ3 = some (.ok u, ρe) := fun {F7 ρ7 H7} s7 R7 g9 => by
          unfold mWipe at g9
          split at g9
          · rename_i hw7
            cases g9
            refine ⟨F7, _, b34.trans s7, ?_, g4⟩
            have := R7.wiped (fun i hi => by rw [hσ4]; exact hv i hi) hw7
            rw [hw4] at this
            exact this
          · cases g9
        refine ⟨c, F4, τ ++ [some (.ref Dl)], ρ3, R4, ho_quiet (P := P) g7 _ fun F5 H5 s5 R5 => ?_⟩
        cases b with
        | false =>
          rw [if_neg Bool.false_ne_true]
          obtain ⟨u4, ρ6, g9, g10⟩ := mbind_ok g8
          rw [if_neg Bool.false_ne_true] at g9
          cases g9
          exact fin s5 R5 g10
        | true =>
          rw [if_pos rfl]
          obtain ⟨u4, ρ6, g9, g10⟩ := mbind_ok g8
          rw [if_pos rfl] at g9
          obtain ⟨r, ρ7, g11, g12⟩ := mbind_ok g9
          refine ⟨c, F5, τ ++ [some (.ref Dl)], ρ5, R5, ho_quiet (P := P) g11 _ fun F6 H6 s6 R6 v hvr => ?_⟩
          obtain ⟨y, ρ8, g13, g14⟩ := mbind_ok g12
          have hfz : Ho P c F6 σ4 (τ ++ [some (.ref Dl)]) (M.bind (frz r) (fun d => M.ok d) ρ7) fun d ρ8' F7 H7 => d = y ∧ ρ8' = ρ8 := by
            unfold M.bind
            rw [g13]
            exact fun _ _ _ _ => ⟨rfl, rfl⟩
          obtain ⟨d', F7, ρ8', s7, R7, r7, q7⟩ := Ho.frz hfz R6 hvr
          obtain ⟨rfl, rfl⟩ := Ho.now q7 R7
          obtain ⟨xs, h1, h2, h3⟩ := accAdd_rl (L := σ4 ++ τ) g14 (by rw [List.append_assoc]; exact R7) r7
          refine ⟨xs, h1, h2, fin ((s5.trans s6).trans s7) (by rw [← List.append_assoc]; exact h3) g10⟩
      · have e : i = ds.length := by omega
        subst e
        rw [List.drop_length] at g2
        cases g2
        exact .inl ⟨wk.stop _ H2 sH (Nat.le_refl _), q3 F2 H2 s2 R2 hw⟩
    · cases zw
theorem dn_lc {tg iter elt : Expr} {ifs : List Expr} {scope : Scope} {own : List (Str × Nat)} {mi : M (List D)} {t : DT} {mt : M Bool} {me : M DR} (hc : X.calm = true) (hN : X.N.Nodup) (hi : PI X tg iter (tI P mi)) (ok : BlkOk X.N X.env.scope scope own)
    (hg : ∀ (s : Shared) (H : Hp) (C : Addr) (cl : List (Str × Addr)) (fp : List Addr), PG (X.blk s H scope (compEnvC scope cl C X.env) fp) tg (gT P.quiet t)) (ht : ∀ (s : Shared) (H : Hp) (C : Addr) (cl : List (Str × Addr)) (fp : List Addr), PTs (X.blk s H scope (compEnvC scope cl C X.env) fp) ifs (tT P.quiet mt))
    (he : ∀ (s : Shared) (H : Hp) (C : Addr) (cl : List (Str × Addr)) (fp : List Addr), PE (X.blk s H scope (compEnvC scope cl C X.env) fp) elt (tE P.quiet me)) (hs : ∀ x, foldedSetIterable iter X.env x = pure x) (hv : ∀ i ∈ t.slots, i ∈ own.map (·.2)) :
    PE X (.ListComp elt [⟨tg, iter, ifs, 0⟩] scope pos) (tN P (nLc mi t mt me (own.map (·.2)))) :=
  (pe_lc hc hN hi ok hg ht he hs).ofL fun σ H Q hσ q => tN_lc (X := X) hv (fun i hi => by
    obtain ⟨p, hp, rfl⟩ := List.mem_map.mp hi
    exact (List.getElem?_eq_some_iff.mp (ok.ix p hp)).1) σ H Q hσ q
theorem popD_rl {K : Frag} {c : Ct} {F H : Hp} {ρ : List DV} {L : List (Option V)} {v : V} (R : Rl K c F ρ (L ++ [some v]) H) {o : Except Ex DR × List DV} (h : popD ρ = some o) : ∃ ds ρ1 F1, o = (.ok (.dat (.list ds)), ρ1) ∧ Same F F1 ∧ Rl K c F1 ρ1 L H ∧ Rp K F1 v (.list ds) := by
  unfold popD at h
  split at h
  · rename_i ds hl
    cases h
    obtain ⟨ys, rfl⟩ := List.getLast?_eq_some_iff.mp hl
    have hlen : ys.length = L.length := by
      have := R.len
      simp only [List.length_append, List.length_singleton] at this
      omega
    have e : (ys ++ [DV.lst ds])[ys.length]? = some (.lst ds) := by rw [List.getElem?_append_right (Nat.le_refl _)]; simp
    have l : (L ++ [some v])[ys.length]? = some (some v) := by rw [hlen, List.getElem?_append_right (Nat.le_refl _)]; simp
    obtain ⟨a, e1, e2, xs, e3, e4⟩ := R.slot _ _ _ e l
    cases e1
    obtain ⟨xs', h1, h2, h3, R'⟩ := R.freeze (xs := xs) e l
    rw [List.dropLast_concat]
    refine ⟨ds, _, _, rfl, Same.upd h2, ?_, .lst (.inl (.inl upd_same)) (h3.mono (Same.upd h2))⟩
    have z : (ys ++ [DV.lst ds]).set ys.length (DV.dat (.list ds)) = ys ++ [DV.dat (.list ds)] := by
      rw [List.set_append_right (h := Nat.le_refl _)]
      simp
    rw [z] at R'
    refine R'.patch hlen (fun i x w e5 e6 => .inl ⟨?_, ?_⟩) fun p hp => ?_
    · rw [List.getElem?_append_left (List.getElem?_eq_some_iff.mp e5).1]; exact e5
    · rw [List.getElem?_append_left (List.getElem?_eq_some_iff.mp e6).1]; exact e6
    · obtain ⟨⟨fs, g1⟩, g2⟩ := R'.lent p hp
      have hp1 : p.1 < ys.length := by
        rcases Nat.lt_or_ge p.1 ys.length with h | h
        · exact h
        · rw [List.getElem?_append_right h] at g1
          have := (List.getElem?_eq_some_iff.mp g1).1
          have : p.1 - ys.length = 0 := by simp at this; omega
          rw [this] at g1
          cases g1
      rw [List.getElem?_append_left hp1, List.getElem?_append_left (by omega)]
      exact ⟨rfl, rfl⟩
  · cases h
/-- a new list, frozen -/
theorem tE_of_tN {m : M Unit} {t : TE} (w : ∀ σ H Q, tN P m σ H Q → t σ H Q) (σ : L2.St) (H : Hp) (Q : VK) (q : tE P (M.bind m fun _ => popD) σ H Q) : t σ H Q := by
  obtain ⟨c, F, τ, ρ, R, q⟩ := q
  refine w σ H Q ⟨c, F, τ, ρ, R, ?_⟩
  unfold M.bind at q
  match z : m ρ with
  | none => rw [z] at q; exact (show False from q).elim
  | some (.error x, ρ1) => rw [z] at q; exact q
  | some (.ok u, ρ1) =>
    rw [z] at q
    intro F' H' v s R1
    dsimp only at q
    cases y : popD ρ1 with
    | none => rw [y] at q; exact (show False from q).elim
    | some o =>
      obtain ⟨ds, ρ2, F1, e, s1, R2, r⟩ := popD_rl R1 y
      subst e
      rw [y] at q
      exact q F1 H' (s.trans s1) R2 v r
theorem dts_nil : PTs X [] (tT P (M.ok true)) := ⟨fun pins s σ H Q I q => pts_nil.run pins s σ H Q I (by
  obtain ⟨c, F, τ, ρ, R, q⟩ := q
  exact Ho.now q R)⟩
theorem dts_one {cx : Expr} {m : M Bool} (h : PT X cx (tT P m)) : PTs X [cx] (tT P m) := pts_one h

/-! ### x[i] = e, x.append(e) on own lists -/
def wrAt (p : Nat) (f : List D → Option (List D)) : M Unit := fun ρ => match ρ[p]? with
  | none => none
  | some x => match x.own with
    | none => none
    | some ds => match f ds with
      | none => none
      | some es => some (.ok (), ρ.set p (x.put es))
theorem wrAt_some {p : Nat} {f : List D → Option (List D)} {ρ : List DV} {o : Except Ex Unit × List DV} (h : wrAt p f ρ = some o) : ∃ x ds es, ρ[p]? = some x ∧ x.own = some ds ∧ f ds = some es ∧ o = (.ok (), ρ.set p (x.put es)) := by
  unfold wrAt at h
  split at h
  · cases h
  · split at h
    · cases h
    · split at h
      · cases h
      · cases h
        exact ⟨_, _, _, by assumption, by assumption, by assumption, rfl⟩
/-- o[i] = e: e first, then o, i -/
def storeK (d : D) : DR → D → M Fl
  | .loc p, .int k => M.bind (wrAt p fun ds => (ixN ds.length k).map fun j => ds.set j d) fun _ => M.ok .nx
  | _, _ => M.no
def sStore (me mo mi : M DR) : M Fl := M.bind me fun r => M.bind (frz r) fun d => M.bind mo fun ro => M.bind mi fun ri => M.bind (rd ri) fun k => storeK d ro k
theorem ds_store {o i : Expr} {tpos : Pos} {me mo mi : M DR} (he : PE X e (tE P me)) (ho : PE X o (tE P mo)) (hi : PE X i (tE P mi)) (hs : swapsWithSole [.Subscript o i tpos] e pos.line X.env = pure false) (hw : swappedStores [.Subscript o i tpos] e X.env = pure none)
    (h1 : (assignEach [.Subscript o i tpos] X.env).map (·.2) = [assign (.Subscript o i tpos) X.env]) (ha : ∀ v, assign (.Subscript o i tpos) X.env v = (do
      let ov ← holding [v] (eval o X.env)
      let iv ← holding [v, ov] (eval i X.env)
      standAt tpos
      holding [v, ov, iv] (setItem ov iv v)
      release [v, ov, iv] [])) : PS X (.Assign [.Subscript o i tpos] e pos) (tS P (sStore me mo mi)) := (ps_asg he (pg_sub ho hi set_list ha) hs hw h1).of fun D σ H q => by
  obtain ⟨c, F, ρ, R, q⟩ := q
  refine ⟨c, F, [], ρ, nilτ R, (HoS.bind σ q).mono fun r ρ1 F1 H1 s1 R1 q1 v hv => ?_⟩
  obtain ⟨d, F2, ρ2, s2, R2, r2, q2, _⟩ := HoS.frz q1 (nilτ' R1) (by rw [List.append_nil] at hv; exact hv)
  refine ⟨c, F2, [], ρ2, nilτ R2, (HoS.bind σ q2).mono fun ro ρ3 F3 H3 s3 R3 q3 vo hvo => ?_⟩
  refine ⟨c, F3, [], ρ3, R3, (HoS.bind σ q3).mono fun ri ρ4 F4 H4 s4 R4 q4 vi hvi => ?_⟩
  have q5 := HoS.bind σ q4
  cases ri with
  | loc p' =>
    have q6 : Ho P c F4 σ [] (M.bind (rd (.loc p')) (fun k => M.ok k) ρ4) fun k ρ5 F5 _ => HoS P c F5 (storeK d ro k ρ5) D := by
      have e : M.bind (rd (.loc p')) (fun k => M.ok k) ρ4 = rd (.loc p') ρ4 := by
        unfold M.bind
        cases rd (.loc p') ρ4 with
        | none => rfl
        | some o => obtain ⟨o, r⟩ := o; cases o <;> rfl
      rw [e]; exact q5
    obtain ⟨k, e1, q7, n⟩ := Ho.rd q6 R4 hvi
    rcases n with n | ⟨a, oc, _, rfl, _⟩
    · unfold rd at e1
      dsimp only at e1
      split at e1
      · cases e1
        have q8 := Ho.now q7 R4
        rename_i oc _
        cases oc <;> cases ro <;> exact (show False from q8).elim
      · cases e1
    · have q8 := Ho.now q7 R4
      cases oc <;> cases ro <;> exact (show False from q8).elim
  | exc c d => exact (show False from q5).elim
  | dat di =>
    have q8 := q5 F4 H4 (Same.refl _) R4
    cases ro with
    | dat d' => cases di <;> exact (show False from q8).elim
    | exc c d => cases di <;> exact (show False from q8).elim
    | loc p =>
      cases di with
      | int k =>
        cases hvi
        unfold storeK M.bind at q8
        dsimp only at q8
        cases z : wrAt p (fun ds => (ixN ds.length k).map fun j => ds.set j d) ρ4 with
        | none => rw [z] at q8; exact (show False from q8).elim
        | some o =>
          obtain ⟨x, ds, es, ex, ox, fx, rfl⟩ := wrAt_some z
          rw [z] at q8
          cases y : ixN ds.length k with
          | none => rw [y] at fx; cases fx
          | some j =>
            rw [y] at fx
            cases fx
            obtain ⟨a, xs, e1, e2, e3, e4⟩ := (R4.slot p x _ ex hvo).own ox
            cases e1
            refine ⟨a, xs, k, j, rfl, rfl, e3, by rw [e4.length]; exact y, ?_⟩
            exact q8 σ F4 _ (Same.refl _) (nilτ' (R4.write ex ox hvo (e4.set j ((r2.mono s3).mono s4))))
      | _ => exact (show False from q8).elim
/-- o.append(e), as an expression -/
def eApp (mo me : M DR) : M DR := M.bind mo fun ro => match ro with
  | .loc p => M.bind me fun r => M.bind (frz r) fun d => M.bind (wrAt p fun ds => if ds.length < 16777216 then some (ds ++ [d]) else none) fun _ => M.ok (.dat .none)
  | _ => M.no
end
end DL

set_option Elab.async false
set_option linter.all false
set_option maxRecDepth 100000
set_option maxHeartbeats 4000000
/-! DX1: LeaseError's own __init__ (super().__init__("leasesall"); self.value = value), run on a fresh exception of it or of a class under it. -/
namespace PySem
namespace LeX
open PySem.W PySem.Calls PyProof.Rows PySem.HandSPX
def iA (p1 p2 : Pos) : Arguments := { posonlyargs := [], args := [{ arg := "self", annotation := none, pos := p1 }, { arg := "value", annotation := none, pos := p2 }], vararg := none, kwonlyargs := [], kw_defaults := [], kwarg := none, defaults := [] }
theorem su_ev (q1 q2 q3 q4 q5 : Pos) (env : Env) (hl : (q3.endLine == q5.line) = true) : eval (.Call (.Attribute (.Call (.Name "super" q1) [] [] q2) "__init__" q3) [.Constant (.str "leasesall") 0 q4] [] q5) env = (do
      let ov ← attributeBase (.Call (.Name "super" q1) [] [] q2) "__init__" env (eval (.Call (.Name "super" q1) [] [] q2) env)
      standAt q3.atName
      let (f, first) ← holding [ov] (getMethod ov "__init__" (do return (← importBound (.Call (.Name "super" q1) [] [] q2) env).getD true))
      callWith q5 f first (backTo q5 (starEach [.Constant (.str "leasesall") 0 q4] env)) []) := by
  have hpos : methodCallPos true (.Call (.Name "super" q1) [] [] q2) env q3 q5 = pure q5 := by unfold methodCallPos; simp [hl]
  have hform : methodCallForm (([.Constant (.str "leasesall") 0 q4] : List Expr).length + ([] : List Keyword).length) (backTo q5 (starEach [.Constant (.str "leasesall") 0 q4] env)) (backToKw q5 (keywordEach [] env)) = true := rfl
  rw [arm_eval_Call]
  unfold methodCall
  rw [hform, hpos]
  rfl
structure IP where
  (a b q1 q2 q3 q4 q5 q6 q7 q8 q9 q10 : Pos)
  l : (q3.endLine == q5.line) = true
def iB (p : IP) : List Stmt := [.Expr (.Call (.Attribute (.Call (.Name "super" p.q1) [] [] p.q2) "__init__" p.q3) [.Constant (.str "leasesall") 0 p.q4] [] p.q5) p.q6, .Assign [.Attribute (.Name "self" p.q7) "value" p.q8] (.Name "value" p.q9) p.q10]
def iS : Scope := { kind := .function, names := [(PySem.Str.ofString "self", .local), (PySem.Str.ofString "value", .local), (PySem.Str.ofString "__class__", .free), (PySem.Str.ofString "super", .globalImplicit)], isGenerator := false, isCoroutine := false, more := [] }
/-- what the written part says of LeaseError, at D, and its __init__, at fI -/
structure LeTxt (K : Frag) (mg : Str → Option Value) (prog : Program) (D fI : Addr) : Prop where
  fn : ∃ (cc cda : Addr) (oc : Value) (od : Option Addr) (doc pm : Value) (an : Option Addr) (ct : Value) (osl : Array (Option Value)) (p : IP),
    K.lookup fI = some ⟨oc, od, .func (ksFn "__init__" "LeaseError.__init__" (iA p.a p.b) (iB p) iS .none .none doc pm an (.ref cda) ct cc), osl⟩ ∧ codeIn K (.ref cda) "LeaseError.__init__" = true ∧
    (∃ (ccl : Value) (cdd : Option Addr) (vs : Array Value) (ccs : Array (Option Value)) (file : Str) (tf : Tok), K.lookup cda = some ⟨ccl, cdd, .fields vs, ccs⟩ ∧ vs[2]? = some (.str file tf) ∧ ((prog.main.file : Str) == file) = true) ∧
    ∃ (cl : Value) (cld : Option Addr) (csl : Array (Option Value)), K.lookup cc = some ⟨cl, cld, .cell (some (.ref D)), csl⟩
  isD : (clsIn K D).isSome = true
  sup : mg "super" = none
  any : nsIn K cStatics "thirdparty.any" = some none
  top : (prog.main.scope.names.lookup ("super" : Str)).isSome = false
/-- .. of a class at C, LeaseError's or under it -/
structure LcTxt (K : Frag) (D fI C : Addr) : Prop where
  cls : ∃ nm q N bs bm sn sub ab col dd k0 k1 k2 k3 k5, K.lookup C = some (excClassObj nm q C N bs bm true sn sub ab col dd k0 k1 k2 k3 k5 "ValueError.__new__") ∧ refsVE bm = true
  sa : findIn K (.ref C) "__setattr__" = some (some (.builtin "object.__setattr__"))
  ga : findIn K (.ref C) "__getattribute__" = some (some (.builtin "BaseException.__getattribute__"))
  gg : findIn K (.ref C) "__getattr__" = some none
  noN : findIn K (.ref C) "value" = some none
  iC : findIn K (.ref C) "__init__" = some (some (.ref fI))
  tC : typeIn K (.ref fI) = some (.type "function")
  kC : keepIn K (.ref C) = true
  exC : subIn K (.ref C) (.type "BaseException") = some true
  tyC : typeIn K (.ref C) = some (.type "type")
  hdC : hasDictIn K C = true
  suD : mroIn K C (.ref D) = some true
  suI : ks_superIn K C D "__init__" = some (some (.builtin "ValueError.__init__"))
  suV : subIn K (.ref C) (.type "ValueError") = some true
theorem one_size (v : Value) : [v].length ≤ sizeLine := by
  rw [sizeLine_eq]
  exact (by decide : 1 ≤ 16777216)
/-- what __init__ leaves of a fresh exception at x -/
structure InitEnd (h h' : Heap) (x C dx t1 : Addr) (v : Value) : Prop where
  keep : ∀ b o, b ≠ x → h.get? b = some o → h'.get? b = some o
  obj : h'.get? x = some { cls := .ref C, dict := some dx, data := .fields #[.ref t1, .none, .none, .none, .bool false, .none] }
  dbig : h.objs.size ≤ dx
  dne : dx ≠ x
  ns : h'.Ns1 dx (fun y => if y = "value" then some v else none)
section
variable {prog : Program} {w : World} {A : Around} {E : Value → Shared → Prop} {R : Result → Shared → Prop} {s : Shared} {K : Frag} {mg : Str → Option Value} {D fI C : Addr}
theorem le_init (T : LeTxt K mg prog D fI) (U : LcTxt K D fI C) {x t0 : Addr} {v : Value} (X : K.In s.heap) (hlim : s.heap.NoLimit) (G : s.heap.Ns mainGlobals mg) (hb : ∃ mb, s.heap.Ns builtinsNs mb ∧ mb "super" = bootBuiltins "super")
    (hx : s.heap.get? x = some (excO C t0)) (hnx : K.lookup x = none) (hroom : A.depth < recursionLimit)
    (hq : ∀ h' tk dx t1, InitEnd s.heap h' x C dx t1 v → R (.ok (.ret .none)) { s with heap := h', toks := tk }) :
    codeAny (model prog w) A (.call (.ref fI) ⟨[.ref x, v], []⟩) R s := by
  obtain ⟨cc, cda, oc, od, doc, pm, an, ct, osl, p, ho, hcd, ⟨ccl, cdd, vs, ccs, file, tf, hcode, hvs, hfile⟩, cl, cld, csl, hcell⟩ := T.fn
  obtain ⟨nm, q, N, bs, bm, sn, sub, ab, col, dd, k0, k1, k2, k3, k5, hC, hbm⟩ := U.cls
  obtain ⟨cdD, hD⟩ := Option.isSome_iff_exists.mp T.isD
  have hcl : clsIn K C = some { name := nm, bases := bs, mro := .ref C :: bm, ns := N, qualname := q, hasDict := true, slotNames := sn, subclasses := sub, abstract := ab, collection := col, hasDel := false } := by unfold clsIn; rw [hC] <;> rfl
  have hD' : ∃ oD, K.lookup D = some oD ∧ oD.data = .cls cdD := by
    unfold clsIn at hD
    split at hD
    · rename_i c d cd' sl ho
      cases hD
      exact ⟨_, ho, rfl⟩
    · cases hD
  obtain ⟨oD, hD1, hD2⟩ := hD'
  obtain ⟨mb, hbn, hbs⟩ := hb
  have hxC : x ≠ C := fun z => by rw [z, hC] at hnx; cases hnx
  obtain ⟨hp, g, d, t, os⟩ := s
  refine ks_codeAny_call_defAt (fd := ksFn "__init__" "LeaseError.__init__" (iA p.a p.b) (iB p) iS .none .none doc pm an (.ref cda) ct cc) (body := iB p) (binds := [("self", .ref x), ("value", v)]) hroom (X _ _ ho) rfl hlim (codeRec_of X hcd) rfl
    (BindsTo.of_eq (by first | rfl | with_unfolding_all rfl)) (by show ∀ x ∈ iS.names, x.2 ≠ .cell; decide) (fun y hy => by
      show iS.names.lookup y.1 = some .local
      rcases List.mem_cons.mp hy with rfl | hy
      · exact (by decide : iS.names.lookup (PySem.Str.ofString "self") = some .local)
      · cases List.mem_singleton.mp hy; exact (by decide : iS.names.lookup (PySem.Str.ofString "value") = some .local)) (fun h₁ hns hk => ?_)
  show _root_.PySem.wpAt (model prog w) (A.deeper (ksEnv "LeaseError.__init__" iS hp.objs.size fI (.ref cda) cc)) (.func (iB p) (ksEnv "LeaseError.__init__" iS hp.objs.size fI (.ref cda) cc)) (execs (iB p) (ksEnv "LeaseError.__init__" iS hp.objs.size fI (.ref cda) cc)) _ _ _
  have X₁ : K.In h₁ := X.keeps hk
  refine ks_wpAt_execs_cons (ks_wpAt_Expr_any (ks_wpAt_MethodCall ?_ (su_ev _ _ _ _ _ _ p.l)))
  refine ks_wpAt_super_base (f := fI) (cc := cda) (ar := { arg := "self", annotation := none, pos := p.a }) rfl rfl rfl rfl (X₁ _ _ ho) rfl rfl rfl (X₁ _ _ hcode) rfl hvs hfile T.top ?_
  refine ks_loadName_global rfl rfl (loadGlobal_builtin (G.keeps hk) T.sup (hbn.keeps hk) (hbs.trans (by decide +kernel)) ⟨rfl, ?_⟩)
  refine wpAny_loadName_free rfl rfl rfl ⟨_, X₁ _ _ hcell, rfl⟩ ?_
  refine wpAny_loadName_local rfl rfl hns (v := .ref x) (by first | rfl | with_unfolding_all rfl | kernel_rfl) ?_
  refine ks_wpAny_isType_cls (X₁ _ _ hD1) hD2 ⟨rfl, ?_⟩
  refine ks_wpAny_call_super (X₁ _ _ hD1) hD2 (hk _ _ hx) rfl (fun c e => by cases e) (looks_mroIn X₁ U.suD) (fun h₂ e₂ kk₂ => ?_)
  have X₂ : K.In h₂ := X₁.keeps kk₂
  have hx₂ := kk₂ _ _ (hk _ _ hx)
  have I₂ : InstAt h₂ x (excO C t0) C none := ⟨hx₂, rfl, rfl, trivial⟩
  have hI : Looks (model prog w) h₂ (isInstance (.ref x) (.type "ValueError")) true := I₂.type.andThen (looks_subIn X₂ U.suV)
  refine kxs_getMethod kxs_ValueError e₂ (looks_opaque X₂ T.any) (l₀ := .ref C :: bm) (fun A Q E s k q => wpAny_bind ((looks_clsIn X₂ hcl) A _ E s k (wpAny_pure q))) rfl X₂ (by have z := U.suI; unfold ks_superIn at z; rw [hcl] at z; exact z) hI hxC rfl ?_
  show wpAny _ _ (callWith _ (Value.ref h₂.objs.size) [] (backTo _ (starEach [Expr.Constant (.str "leasesall") 0 p.q4] _)) []) _ _ _
  have hu : (h₂.push (kxs_mw "ValueError.__init__" x)).get? h₂.objs.size = some (kxs_mw "ValueError.__init__" x) := Heap.get?_push_at rfl rfl
  refine kxs_callWith (i := "ValueError.__init__") (x := x) (by rfl) ?_
  have hx₃ : (h₂.push (kxs_mw "ValueError.__init__" x)).get? x = some (excO C t0) := Heap.get?_push_of_some _ hx₂
  have X₃ : K.In (h₂.push (kxs_mw "ValueError.__init__" x)) := X₂.keeps fun b o e => Heap.get?_push_of_some _ e
  refine evalArgs_plain ?_
  show wpAny _ _ (spliced ((false, eval (Expr.Constant (.str "leasesall") 0 p.q4) _) :: [])) _ _ _
  refine Calls.spliced_cons (wpAny_Constant_str (Calls.spliced_nil ⟨hu, ?_⟩))
  show wpAny _ _ (call (.ref h₂.objs.size) [Value.str "leasesall" _]) _ _ _
  refine wpAny_call (codeAny_of_tree ?_)
  show wpAny _ _ (callAny (.ref h₂.objs.size) ⟨[Value.str "leasesall" _], []⟩) _ _ _
  simp only [callAny]
  refine wpAny_bind (wpAny_load hu ?_)
  simp only [kxs_mw, show (Value.type "method-wrapper" == Value.type "method" || Value.type "method-wrapper" == Value.type "builtin_function_or_method" || Value.type "method-wrapper" == Value.type "method-wrapper") = true by decide, if_true]
  refine W.KFB.if_so (by decide) ?_
  refine wpAny_bind (check_bound_init F.excBase_ValueError.toExcCallFacts (X₃ _ _ hC) hx₃ rfl ?_)
  refine wpAny_bind (wpAny_pure (wpAny_pure ?_))
  refine ⟨plainId_quiet F.excBase_ValueError.init.plain _, codeAny_builtin F.excBase_ValueError.initEntry ?_⟩
  refine exc_init_tree (cls := .ref C) (t0 := t0) (dv := none) (c2 := .none) (c3 := .none) (b4 := .bool false) hx₃ (one_size _) fun h₄ k₄ e₄ t₄ => ?_
  have X₄ : K.In h₄ := fun a o e => k₄ a o (fun z => by rw [z, hnx] at e; cases e) (X₃ a o e)
  have hxL : hp.objs.size ≠ x := Nat.ne_of_gt (Heap.lt_size hx)
  have k₁₃ : ∀ b o, h₁.get? b = some o → (h₂.push (kxs_mw "ValueError.__init__" x)).get? b = some o := fun b o e => Heap.get?_push_of_some _ (kk₂ b o e)
  have hn₄ : h₄.Ns hp.objs.size (fun y => List.lookup y ([(PySem.Str.ofString "self", Value.ref x), (PySem.Str.ofString "value", v)] : List (Str × Value)).reverse) := hns.at fun o e => k₄ _ _ hxL (k₁₃ _ _ e)
  show _root_.PySem.wpAt _ _ _ _ _ _ _
  refine _root_.PySem.wpAt_of_wpAny ?_
  refine wpAny_execs_cons (plainObj_wpAny_Assign_Attribute ?_)
  refine wpAny_Name (wpAny_loadName_local rfl rfl hn₄ (v := v) (by first | rfl | with_unfolding_all rfl | kernel_rfl) ?_) (by decide)
  refine wpAny_Name (wpAny_loadName_local rfl rfl hn₄ (v := .ref x) (by first | rfl | with_unfolding_all rfl | kernel_rfl) ?_) (by decide)
  refine set_plain X₄ (ox := excO C (h₂.push (kxs_mw "ValueError.__init__" x)).objs.size) (od := none) ⟨e₄, rfl, rfl, trivial⟩ U.sa ?_
  refine exc_osa X₄ e₄ hcl (show refsVE (.ref C :: bm) = true from hbm) rfl U.noN (fun h₅ tk₅ dx k₅ dn dne hx₅ hn₅ => ?_)
  show wpAny _ _ (execs _ _) _ _ _
  have z1 : hp.objs.size < h₄.objs.size := hn₄.lt
  refine wpAny_execs_nil (hq h₅ tk₅ dx _ ⟨fun b o hb e => k₅ b o hb (k₄ b o hb (k₁₃ b o (hk b o e))), hx₅, Nat.le_of_lt (Nat.lt_of_lt_of_le z1 dn), dne, hn₅⟩)
/-- a made error -/
structure OwnMade (h h' : Heap) (e C d : Addr) (v : Value) : Prop where
  keep : ∀ b o, h.get? b = some o → h'.get? b = some o
  new : h.objs.size ≤ e
  obj : ∃ oe vs, h'.get? e = some oe ∧ oe.cls = .ref C ∧ oe.dict = some d ∧ oe.data = .fields vs ∧ vs[1]? = some .none
  dbig : h.objs.size ≤ d
  dne : d ≠ e
  ns : h'.Ns1 d (fun y => if y = "value" then some v else none)
theorem le_made (T : LeTxt K mg prog D fI) (U : LcTxt K D fI C) {v : Value} (X : K.In s.heap) (hlim : s.heap.NoLimit) (G : s.heap.Ns mainGlobals mg) (hb : ∃ mb, s.heap.Ns builtinsNs mb ∧ mb "super" = bootBuiltins "super") (hroom : A.depth + 1 < recursionLimit)
    (hq : ∀ h' tk e d, OwnMade s.heap h' e C d v → R (.ok (.ret (.ref e))) { s with heap := h', toks := tk }) :
    codeAny (model prog w) A (.call (.ref C) ⟨[v], []⟩) R s := by
  obtain ⟨nm, q, N, bs, bm, sn, sub, ab, col, dd, k0, k1, k2, k3, k5, hC, hbm⟩ := U.cls
  obtain ⟨hp, g, dr, tk, os⟩ := s
  have k : ∀ b o, hp.get? b = some o → ((hp.push (kdv_tup [v])).push (excO C hp.objs.size)).get? b = some o := fun b o e => Heap.get?_push_of_some _ (Heap.get?_push_of_some _ e)
  have hget : ((hp.push (kdv_tup [v])).push (excO C hp.objs.size)).get? (hp.objs.size + 1) = some (excO C hp.objs.size) := by heap_get
  have hnx : K.lookup (hp.objs.size + 1) = none := by
    cases e : K.lookup (hp.objs.size + 1) with
    | none => rfl
    | some o =>
      have z : hp.get? (hp.objs.size + 1) = some o := X _ _ e
      exact absurd (Nat.lt_of_succ_lt (Heap.lt_size z)) (Nat.lt_irrefl _)
  obtain ⟨mb, hb1, hb2⟩ := hb
  refine call_own F.excBase_ValueError (fun X => refsVE_contains X bm hbm) (X _ _ hC) (looks_findIn X U.iC) (fun self => bind_fn X self U.tC) (one_size v) ?_
  refine le_init (s := ⟨(hp.push (kdv_tup [v])).push (excO C hp.objs.size), g, dr, tk, os⟩) T U (X.keeps k) (hlim.keeps k) (G.keeps k) ⟨mb, hb1.keeps k, hb2⟩ hget hnx ?_ fun h' tk' dx t1 ⟨k', hx, dn, dne, hns⟩ => ?_
  · show A.depth + 1 < recursionLimit
    exact hroom
  · have old : ∀ b o, hp.get? b = some o → h'.get? b = some o := fun b o e => k' b o (Nat.ne_of_lt (Nat.lt_succ_of_lt (Heap.lt_size e))) (k b o e)
    have z : hp.objs.size + 1 + 1 ≤ dx := by
      first
        | (simpa only [Heap.size_push] using dn)
        | exact dn
        | (have q := dn; rw [Heap.size_push, Heap.size_push] at q; exact q)
    exact ⟨rfl, hq h' tk' (hp.objs.size + 1) dx ⟨old, Nat.le_succ _, ⟨_, _, hx, rfl, rfl, rfl, rfl⟩, Nat.le_trans (Nat.le_trans (Nat.le_succ _) (Nat.le_succ _)) z, dne, hns⟩⟩
end
end LeX
end PySem
namespace DL
open PySem PySem.Spec PyProof.Rows L2
theorem relO_val {v : V} {v' : Value} (r : RelV v v') (f : Str) : RelO (List.lookup f [(("value" : Str), v)]) (if f = "value" then some v' else none) := by
  by_cases hw : f = "value"
  · subst hw
    rw [if_pos rfl]
    have q : List.lookup ("value" : Str) [(("value" : Str), v)] = some v := by simp [List.lookup]
    rw [q]
    exact r
  · rw [if_neg hw]
    have qw : (f == ("value" : Str)) = false := by simpa using hw
    have q2 : List.lookup f [(("value" : Str), v)] = none := by simp [List.lookup, qw]
    rw [q2]
    trivial
section
variable {X : Cx} {C D fI : Addr} {P : Ps}
/-- C(e) -/
def tMkLe (C : Addr) (te : TE) : L2.St → Hp → XK → Prop := fun σ H Q => te σ H fun v H1 => ∀ d, H1 d = none → Q (.ref C) (some d) (upd H1 d (.xd [(("value" : Str), v)]))
theorem pmk_le {x : Str} {a : Expr} {te : TE} {p pos : Pos} {k : Nat} (T : PySem.LeX.LeTxt X.K X.mg X.prog D fI) (U : PySem.LeX.LcTxt X.K D fI C) (gC : X.mg x = some (.ref C)) (hr : Room (k + 1) X.A) (ha : PE X a te) (hg : Gl X x) (hdb : (x == ("__debug__" : Str)) = false)
    (he : starEach (a :: []) X.env = (false, eval a X.env) :: starEach [] X.env) (hpl : (backTo pos (starEach [] X.env)).any (·.1) = false) :
    PMk X (.Call (.Name x p) [a] [] pos) (tMkLe C te) := by
  intro pins s σ H Q I h
  refine wpAny_Call_Name_kw (ld_glob I hg gC ?_ hdb)
  refine PySem.W.callWith_K (h₀ := X.base) I.ok.mod.kin U.kC ?_ he hpl
  rw [he]
  show wpAny _ _ (spliced ((false, eval a X.env) :: backTo pos (starEach [] X.env))) _ _ s
  refine Calls.spliced_cons (thn (ha.run pins s σ H _ I h) fun v' s1 ⟨v, H1, I1, rv, q1⟩ => ?_)
  refine Calls.spliced_nil ⟨I1.kIn, ?_⟩
  show wpAny _ _ (call (.ref C) [v']) _ _ _
  have hlim := I1.nolimit
  have G := I1.mod.glob.keeps I1.bk
  obtain ⟨mb, hb1, hb2⟩ := I1.mod.blt
  have hb : ∃ mb, s1.heap.Ns builtinsNs mb ∧ mb "super" = bootBuiltins "super" := ⟨mb, hb1.keeps I1.bk, hb2 _ (by decide)⟩
  obtain ⟨hp, g, dr, tk, os⟩ := s1
  refine wpAny_call (PySem.LeX.le_made T U I1.kIn hlim G hb (by have := hr.dp; omega) fun h' tk' e d M => ?_)
  show MkP X pins σ Q (.ref e) ⟨h', g, dr, tk', os⟩
  obtain ⟨oe, fv, hoe, hc, hd, hdat, h1⟩ := M.obj
  have hns := M.ns
  obtain ⟨G', g1, g2⟩ := restrict h' fun b => decide (b ≠ e)
  have gk : ∀ b, b ≠ e → G'.get? b = h'.get? b := fun b hb => g1 b (decide_eq_true hb)
  have ge : G'.get? e = none := g2 e (by simp)
  have old : ∀ b o, hp.get? b = some o → G'.get? b = some o := fun b o q => (gk b (Nat.ne_of_lt (Nat.lt_of_lt_of_le (Heap.lt_size q) M.new))).trans (M.keep b o q)
  have ob : ObjOk X.prog X.w (upd H1 d (.xd [(("value" : Str), v)])) G' d (.xd [(("value" : Str), v)]) :=
    ⟨_, hns.at (fun o q => (gk d M.dne).trans q), fun f => relO_val rv f⟩
  have J : Inv X pins σ (upd H1 d (.xd [(("value" : Str), v)])) ⟨G', g, dr, tk', os⟩ := I1.laid (t' := tk') old M.dbig ob
  refine ⟨e, oe, fv, ⟨G', g, dr, tk', os⟩, _, .ref C, some d, rfl, J, fun b o q => ?_, ge, hoe, ⟨hc, hd⟩, hdat, h1, ?_, rfl, I1.bare, raises_own U.exC U.tyC, q1 d (I1.hok.fresh M.dbig)⟩
  · by_cases hb : b = e
    · have q' : G'.get? b = some o := q
      rw [hb, ge] at q'; cases q'
    · exact (gk b hb).symm.trans q
  · rw [upd_ne (Ne.symm M.dne)]
    exact I1.hok.fresh M.new
/-- raise x(e) -/
def sRaise (x : Str) (m : M DR) : M Fl := M.bind m fun r => M.bind (frz r) fun d => M.rais (x, d)
theorem ds_raise {x : Str} {a : Expr} {m : M DR} {p pos pos2 : Pos} {k : Nat} (T : PySem.LeX.LeTxt X.K X.mg X.prog D fI) (U : PySem.LeX.LcTxt X.K D fI C) (gC : X.mg x = some (.ref C)) (gP : P.K.G x = some (.ref C)) (hc : X.calm = true) (hr : Room (k + 1) X.A) (tk : Takes X P.W) (ha : PE X a (tE P m)) (hg : Gl X x) (hdb : (x == ("__debug__" : Str)) = false)
    (he : starEach (a :: []) X.env = (false, eval a X.env) :: starEach [] X.env) (hpl : (backTo pos (starEach [] X.env)).any (·.1) = false) :
    PS X (.Raise (some (.Call (.Name x p) [a] [] pos)) none pos2) (tS P (sRaise x m)) :=
  (ps_raise hc tk (pmk_le T U gC hr ha hg hdb he hpl)).of fun De σ H q => by
    obtain ⟨c, F, ρ, R, q⟩ := q
    refine ⟨c, F, [], ρ, nilτ R, (HoS.bind σ q).mono fun r ρ1 F1 H1 s1 R1 q1 v hv dd hdd => ?_⟩
    obtain ⟨d, F2, ρ2, s2, R2, r2, q2, _⟩ := HoS.frz q1 (nilτ' R1) (by rw [List.append_nil] at hv; exact hv)
    have q3 := q2 σ
    have R3 := R2.new (o := .xd [(("value" : Str), v)]) hdd
    have hFd : F2 dd = none := by
      cases z : F2 dd with
      | none => rfl
      | some u => have := R2.sub dd u z; rw [hdd] at this; cases this
    exact q3 _ _ C dd v (Same.upd hFd) (nilτ R3) gP (r2.mono (Same.upd hFd)) upd_same (R2.freshAt hdd).1
end
end DL

set_option Elab.async false
set_option linter.all false
set_option maxRecDepth 100000
set_option maxHeartbeats 4000000
/-! DX2: try .. except C as n: the exception lies in the slot n as a tracked object; it may be stored and asked later. -/
namespace DL
open PySem PySem.Spec PyProof.Rows L2

section
variable {X : Cx} {pins : List (Addr × Obj)} {σ : L2.St} {H : Hp} {s : Shared}
theorem exK_ok {P : Program} {w : World} {H : Hp} {h : Heap} {a C dd : Addr} {oe : Obj} {vs : Array Value} (e : h.get? a = some oe) (z : Zc (.ref C) (some dd) oe) (d : oe.data = .fields vs) : ObjOk P w H h a (ExK C dd a) :=
  ⟨⟨oe, vs, e, z, d⟩, ⟨oe, e⟩, fun _ _ ⟨o, v, q, r⟩ k => ⟨o, v, k o q, r⟩⟩
theorem Inv.track {a C dd : Addr} {oe : Obj} {vs : Array Value} (I : Inv X pins σ H s) (young : X.s_0.heap.get? a = none) (at_ : s.heap.get? a = some oe) (z : Zc (.ref C) (some dd) oe) (flds : oe.data = .fields vs)
    (na : H a = none) (apart : a ≠ X.env.locals) (unpinned : ∀ p ∈ X.pn ++ pins, p.1 ≠ a) : Inv X pins σ (upd H a (ExK C dd a)) s := by
  have same : ∀ {b : Addr}, b ≠ a → upd H a (ExK C dd a) b = H b := fun n => upd_ne n
  have keepS : ∀ {b : Addr} {u : HO}, H b = some u → upd H a (ExK C dd a) b = some u := fun q => (same (ne_of_none q na)).trans q
  have base' : ∀ b o, X.s_0.heap.get? b = some o → b ≠ a := by
    rintro b o q rfl
    rw [young] at q
    cases q
  have cellApart : ∀ x c, X.env.cells.lookup x = some c → c ≠ a := by
    rintro x c q rfl
    obtain ⟨_, o, ho, isCell⟩ := I.cell x c q
    obtain rfl := Option.some.inj (at_.symm.trans ho)
    rw [flds] at isCell
    cases isCell
  exact { I with
    base := { I.base with
      free := fun b o q n nx => (same (base' b o q)).trans (I.base.free b o q n nx)
      tups := fun b xs q => keepS (I.base.tups b xs q)
      frzs := fun b o u q => keepS (I.base.frzs b o u q)
      tbls := fun b ps q => (I.base.tbls b ps q).imp fun _ r => keepS r }
    free := (same (Ne.symm apart)).trans I.free
    freeC := fun x c q => (same (cellApart x c q)).trans (I.freeC x c q)
    pin := fun p m => by
      obtain ⟨q1, q2, more⟩ := I.pin p m
      exact ⟨q1, (same (unpinned p m)).trans q2, more⟩
    hok := fun b o q => by
      by_cases at_a : b = a
      · obtain rfl := at_a
        obtain rfl := Option.some.inj (upd_same.symm.trans q)
        exact exK_ok at_ z flds
      · exact (I.hok b o ((same at_a).symm.trans q)).stay (fun _ _ _ r => r) (fun _ => keepS) fun _ _ => keepS }
/-- into the clause with nothing pinned anew, and out of it -/
theorem Inv.suiteK (I : Inv X pins σ H s) (a : Addr) : Inv (X.suite a (X.pn ++ pins)) [] σ H s :=
  { I with ok := I.ok.suite _ _, pin := fun p m => I.pin p ((List.mem_append.mp m).elim id fun z => nomatch z) }
theorem Inv.unsuiteK {a : Addr} {more : List (Addr × Obj)} (I : Inv (X.suite a (X.pn ++ pins)) more σ H s) (ok : X.Ok) : Inv X pins σ H s :=
  { I with ok := ok, pin := fun p m => I.pin p (List.mem_append.mpr (.inl m)) }
theorem gone_s0 {a : Addr} (I : Inv X pins σ H s) (none_ : X.ex = []) (nb : s.heap.get? a = none) : X.s_0.heap.get? a = none := by
  match e : X.s_0.heap.get? a with
  | none => rfl
  | some o =>
    obtain ⟨_, q⟩ := I.base.there a o e (by rw [none_]; exact List.not_mem_nil)
    rw [nb] at q
    cases q
end
/-- what the clause wishes: the exception, tracked, in slot i -/
def wKeep (K : PySem.W.Frag) (c : Value) (i : Nat) (ts : TS) (Wout : WX) (D : Ends) : WX := fun cls d σ H =>
  ∃ b, PySem.W.exmOne K cls c = some b ∧ (b = true → ∃ C dd, cls = .ref C ∧ d = some dd ∧ ∀ a, H a = none → ts { nx := fun σ' H' => D.nx (σ'.set i none) H', rt := D.rt, bk := fun σ' H' => D.bk (σ'.set i none) H', ct := fun σ' H' => D.ct (σ'.set i none) H' } (σ.set i (some (.ref a))) (upd H a (ExK C dd a))) ∧
    (b = false → Wout cls d σ H)
/-! the ways of a try, one by one -/
section
variable {X : Cx} {B : Heap} {a : Addr} {cls : Value} {d : Option Addr} {pins pn : List (Addr × Obj)} {D : Ends} {t : Shared}
theorem off_frames {h : Heap} {o : Obj} {vs : Array Value} {es : List Env} (ff : h.FunFrames B es) (at_ : h.get? a = some o) (fl : o.data = .fields vs) : a ∉ frs es := by
  intro m
  obtain ⟨_, o', q, no⟩ := ff.mem m
  obtain rfl := Option.some.inj (at_.symm.trans q)
  exact no vs fl
theorem off_here (hf : X.env.frame = some X.env.locals) (n : a ∉ frs (X.env :: X.outer)) : a ≠ X.env.locals := by
  rintro rfl
  exact n (List.mem_filterMap.mpr ⟨_, .head _, hf⟩)
theorem off_rest (n : a ∉ frs (X.env :: X.outer)) : a ∉ X.fs := by
  intro m
  have ⟨v, mv, q⟩ := List.mem_filterMap.mp m
  exact n (List.mem_filterMap.mpr ⟨v, .tail _ mv, q⟩)
/-- the body came to an end of its own -/
theorem sp_plain {xe : Value → Shared → Prop} (ok : X.Ok) : ∀ fl : Flow, SP (X.tr (X.pn ++ pins) xe) [] D fl t → SP X pins D fl t
  | .next, ⟨_, _, J, q⟩ => ⟨_, _, J.ofTry ok, q⟩
  | .brk, ⟨_, _, J, q⟩ => ⟨_, _, J.ofTry ok, q⟩
  | .cont, ⟨_, _, J, q⟩ => ⟨_, _, J.ofTry ok, q⟩
  | .ret _, ⟨_, _, _, J, r, q⟩ => ⟨_, _, _, J.ofTry ok, r, q⟩
/-- the name of the clause's class is read while a flies -/
theorem class_read {x : Str} {c : Value} {np : Pos} {o : Obj} {σ : L2.St} {H : Hp} {Q E : Value → Shared → Prop} (hc : Names X x c) (S : Inv (X.suite a ((a, o) :: pn)) [] σ H t) (q : Q c t) :
    wpAny (model X.prog X.w) (X.A.mark (some (.ref a))) (eval (.Name x np) X.env) Q E t := by
  rcases hc with ⟨g, nd, own | ⟨noOwn, boot, no⟩⟩
  · exact ld_glob (X := X.suite a _) S g own q nd
  · exact ld_blt (X := X.suite a _) S g noOwn boot q no nd
/-- no clause is left: it flies on, noted at this frame -/
theorem flies_on (hf : X.env.frame = some X.env.locals) (fl : HandSPX.FlyingZ B (X.env :: X.outer) a (Zc cls d) t.heap)
    (out : ∀ g, HandSPX.HeldZ B (X.env :: X.outer) a (Zc cls d) X.env.locals g → t.heap.UpToSlots g → X.xe (.ref a) { t with heap := g }) :
    wpAny (model X.prog X.w) X.A (handleBy (.ref a) X.env []) (SP X pins D) X.xe t := by
  have up : wpAny (model X.prog X.w) X.A (setFlight (.ref a) X.env.frame) (fun _ u => wpAny (model X.prog X.w) X.A (throw (.ref a) : Sem Flow) (SP X pins D) X.xe u) X.xe t := by
    rw [hf]
    exact HandSPX.setFlight_upZ fl fun g held u => wpAny_throw (out g held u)
  have ⟨_, _, _, oe, vs, T, _, _, at_, _, flds, tb, _⟩ := fl
  apply wpAny_handleBy_nil
  unfold PySem.passOn
  apply wpAny_bind
  apply wpAny_field at_ flds tb
  have there : ¬ (Value.ref T == Value.none) = true := Bool.false_ne_true
  rw [if_neg there]
  first
    | exact wpAny_bind up
    | exact wpAny_bind (wpAny_pure (wpAny_bind up))
end
section
variable {X : Cx} {x n : Str} {c : Value} {i : Nat} {body suite : List Stmt} {b₀ : Stmt} {np pos pos' : Pos} {tb : WX → TS} {ts : TS} {Wout : WX}
theorem ps_try_keep (hs : X.stack = X.env :: X.outer) (hf : X.env.frame = some X.env.locals) (hex : X.ex = []) (hN : X.N.Nodup) (hi : X.N[i]? = some n) (hln : X.env.kindOf n = some .local) (hc : Names X x c) (tk : Takes X Wout)
    (hb : ∀ (W : WX) (pn : List (Addr × Obj)) (xe : Value → Shared → Prop), Takes (X.tr pn xe) W → PassesOwn (model X.prog X.w) X.A X.env xe →
      PSs (X.tr pn xe) body (tb W))
    (hsu : ∀ (a : Addr) (pn : List (Addr × Obj)), PSs (X.suite a pn) (b₀ :: suite) ts) : PS X (.Try body [.ExceptHandler (some (.Name x np)) (some n) (b₀ :: suite) pos'] [] [] pos) (fun D σ H => tb (wKeep X.K c i ts Wout D) D σ H) where
  run pins s σ H D I h := by
    have ok := I.ok
    let meets : Value → Shared → Prop := fun e t => wpAny (model X.prog X.w) X.A (noteFrame e X.env)
      (fun _ t => wpAny (model X.prog X.w) X.A (setFlight e none) (fun _ t => wpAny (model X.prog X.w) X.A (handleBy e X.env [.ExceptHandler (some (.Name x np)) (some n) (b₀ :: suite) pos']) (SP X pins D) X.xe t) X.xe t) X.xe t
    have caught : Takes (X.tr (X.pn ++ pins) meets) (wKeep X.K c i ts Wout D) := by
      intro _ t xx
      obtain ⟨a, B, sI, _, σ', H', cls, d, rfl, Jt, new, up, sky, na, os, ag, b, isB, yes, no⟩ := xx
      have J : Inv X pins σ' H' sI := Jt.ofTry ok
      show wpAny (model X.prog X.w) X.A (noteFrame (.ref a) X.env) _ _ _
      apply Sky.land Zc.steady (by rw [ok.frames, hs]) hf (hs ▸ sky)
      intro g fl upg
      have ⟨o, vs, at_, zo, flds⟩ := fl.there
      have off := off_frames fl.2.2.1 at_ flds
      have Jg : Inv X pins σ' H' { t with heap := g } := J.landed new fl.1 (up.trans upg) os ag
      have fresh : sI.heap.get? a = none := by
        match z : sI.heap.get? a with
        | none => rfl
        | some o' =>
          have was := new a o' z (by rw [hs]; exact off)
          rw [fl.2.1] at was
          cases was
      refine wpAny_handleBy_cons (codeAny_handlers_test ?_) (by rintro ⟨⟩)
      refine class_read hc (Jg.suite at_ flds na (off_here hf off) (off_rest off)) ?_
      have typed : PySem.W.Looks (model X.prog X.w) g (typeOf (.ref a)) cls := fun _ _ _ _ k q => wpAny_typeOf_ref (k a o at_) (zo.1.symm ▸ q)
      apply (PySem.W.exm_one (M := model X.prog X.w) Jg.kIn typed isB).here
      match b, yes, no with
      | false, _, no =>
        exact flies_on hf fl fun g' held up' => tk _ _ ⟨a, B, sI, pins, σ', H', cls, d, rfl, J, new, (up.trans upg).trans up', .inr (.inr (by rw [hs]; exact held)), na, os, ag, no rfl⟩
      | true, yes, _ =>
        obtain ⟨C, dd, rfl, rfl, wish⟩ := yes rfl
        apply codeAny_handlers_suite_as
        apply HandSPX.lands_againZ fl
        intro g' fl' up'
        have ⟨o', vs', at', zo', flds'⟩ := fl'.there
        have Jg' : Inv X pins σ' H' { t with heap := g' } := J.landed new fl'.1 ((up.trans upg).trans up') os ag
        have unpinned : ∀ p ∈ X.pn ++ pins, p.1 ≠ a := by
          rintro p m rfl
          have q := (J.pin p m).1
          rw [fresh] at q
          cases q
        have Kept := Inv.suiteK (Inv.track Jg' (gone_s0 J hex fresh) at' zo' flds' na (off_here hf off) unpinned) a
        apply store_ok (X := X.suite a (X.pn ++ pins)) (v := .ref a) Kept hN hi (.inl hln) rfl ?_ (.inr hln)
        intro t5 S5
        refine wpAny_mono ((hsu a (X.pn ++ pins)).run [] t5 _ _ _ S5 (wish a na)) ?_ (fun _ _ z => z.elim)
        rintro (_ | _ | _ | u) t6 ends
        · obtain ⟨_, _, S6, q⟩ := ends
          exact gone_ok (Inv.unsuiteK S6 ok) hN hi hln fun _ J7 => ⟨_, _, J7, q⟩
        · obtain ⟨_, _, S6, q⟩ := ends
          exact gone_ok (Inv.unsuiteK S6 ok) hN hi hln fun _ J7 => ⟨_, _, J7, q⟩
        · obtain ⟨_, _, S6, q⟩ := ends
          exact gone_ok (Inv.unsuiteK S6 ok) hN hi hln fun _ J7 => ⟨_, _, J7, q⟩
        · obtain ⟨_, _, _, S6, r, q⟩ := ends
          exact gone_ok (Inv.unsuiteK S6 ok) hN hi hln fun _ J7 => ⟨_, _, _, J7, r, q⟩
    apply wpAny_Try_except
    refine wpAny_mono ((hb _ (X.pn ++ pins) meets caught PassesOwn.looking).run [] s σ H D (I.toTry _) h) ?_ (fun _ _ z => z)
    rintro (_ | _ | _ | u) t ends
    · exact wpAny_execs_nil (sp_plain ok .next ends)
    · exact sp_plain ok .brk ends
    · exact sp_plain ok .cont ends
    · exact sp_plain ok (.ret u) ends
end
end DL

set_option Elab.async false
set_option linter.all false
set_option maxRecDepth 100000
set_option maxHeartbeats 4000000
/-! DX3: try by data; isinstance; e.value; stores of exceptions. -/
namespace DL
open PySem PySem.Spec PyProof.Rows L2

section
variable {K : Frag} {F F' H : Hp} {c : Ct} {ρ : List DV} {L : List (Option V)}
theorem Rl.setV {i : Nat} {v : Option V} {x : DV} (R : Rl K c F ρ L H) (h : SlotOk K F H v x) (hx : x.cont = none) (hb : ∀ x, ρ[i]? = some x → x.isBor = false) : Rl K c F (ρ.set i x) (L.set i v) H := by
  refine ⟨by rw [List.length_set, List.length_set]; exact R.len, R.sub, R.keep, fun j y w e1 e2 => ?_, fun j k y z a e1 e2 o1 o2 l1 l2 => ?_, fun j y a e1 o1 l1 => ?_, fun j es a e1 l1 => ?_, fun q hq => ?_, R.born⟩
  · rcases set_at e1 with ⟨rfl, rfl⟩ | ⟨hne, e1⟩
    · rcases set_at e2 with ⟨_, rfl⟩ | ⟨hne, _⟩
      · exact h
      · exact absurd rfl hne
    · rcases set_at e2 with ⟨rfl, _⟩ | ⟨_, e2⟩
      · exact absurd rfl hne
      · exact R.slot j y w e1 e2
  · rcases set_at e1 with ⟨_, rfl⟩ | ⟨h1, e1⟩
    · exact absurd hx o1
    · rcases set_at e2 with ⟨_, rfl⟩ | ⟨h2, e2⟩
      · exact absurd hx o2
      · rw [List.getElem?_set_ne (fun z => h1 z.symm)] at l1
        rw [List.getElem?_set_ne (fun z => h2 z.symm)] at l2
        exact R.sep j k y z a e1 e2 o1 o2 l1 l2
  · rcases set_at e1 with ⟨_, rfl⟩ | ⟨h1, e1⟩
    · exact absurd hx o1
    · rw [List.getElem?_set_ne (fun z => h1 z.symm)] at l1
      exact R.fresh j y a e1 o1 l1
  · rcases set_at e1 with ⟨_, rfl⟩ | ⟨h1, e1⟩
    · cases hx
    · rw [List.getElem?_set_ne (fun z => h1 z.symm)] at l1
      exact R.nobor j es a e1 l1
  · obtain ⟨⟨es, e'⟩, l'⟩ := R.lent q hq
    have hne : i ≠ q.1 := fun z => by
      rw [← z] at e'
      exact absurd (hb _ e') (by simp [DV.isBor])
    exact ⟨⟨es, by rw [List.getElem?_set_ne hne]; exact e'⟩, by rw [List.getElem?_set_ne hne]; exact l'⟩
theorem xd_holds {K : Frag} {F : Hp} {p : Addr} {fs : List (Str × V)} (oc : OC) : ¬ Hold K F p (some (.xd fs)) oc := by
  cases oc with
  | l ds => rintro ⟨xs, h, _⟩; cases h
  | d kvs =>
    rintro (⟨ks, h, _⟩ | ⟨es, h, _⟩)
    · cases h
    · unfold TkO at h; cases h
/-- an object that is no list is frozen -/
theorem Rl.frzO {p : Addr} {o : HO} (R : Rl K c F ρ L H) (hH : H p = some o) (ho : ∀ oc, ¬ Hold K F p (some o) oc) (h0 : c.Hi p = none) : Rl K c (upd F p o) ρ L H ∧ Same F (upd F p o) := by
  have sF : Same F (upd F p o) := fun b u q => by
    by_cases hb : b = p
    · subst hb
      have := R.sub b u q
      rw [hH] at this
      cases this
      exact upd_same
    · rw [upd_ne hb]; exact q
  refine ⟨⟨R.len, fun b u q => ?_, R.keep, fun i x v e1 e2 => (R.slot i x v e1 e2).mono sF fun b hv hox h1 h2 => ⟨?_, rfl⟩, R.sep, R.fresh, R.nobor, R.lent, fun b u q => ?_⟩, sF⟩
  · by_cases hb : b = p
    · subst hb; rw [upd_same] at q; cases q; exact hH
    · rw [upd_ne hb] at q; exact R.sub b u q
  · refine (congrArg (· = none) (upd_ne fun z => ?_)).mpr h1
    subst z hv
    cases q : x.cont with
    | none => exact hox q
    | some oc =>
      obtain ⟨a', q1, _, q3⟩ := (R.slot i x _ e1 e2).holds q
      cases q1
      rw [hH] at q3
      exact ho oc q3
  · by_cases hb : b = p
    · exact .inr (hb ▸ h0)
    · rw [upd_ne hb] at q; exact R.born b u q
end
def setV (i : Nat) (x : DV) : M Unit := fun ρ => match ρ[i]? with
  | some y => if y.isBor then none else some (.ok (), ρ.set i x)
  | none => none
theorem setV_some {i : Nat} {x : DV} {ρ : List DV} {o : Except Ex Unit × List DV} (h : setV i x ρ = some o) : o = (.ok (), ρ.set i x) ∧ ∀ y, ρ[i]? = some y → y.isBor = false := by
  unfold setV at h
  split at h
  · rename_i y e
    split at h
    · cases h
    · rename_i hb
      refine ⟨(Option.some.inj h).symm, fun z ez => ?_⟩
      rw [e] at ez
      cases ez
      exact Bool.eq_false_iff.mpr hb
  · cases h
/-- try: mb / except ..: as slot i: ms; ca tells which classes are taken -/
def sTry (ca : Str → Option Bool) (i : Nat) (mb ms : M Fl) : M Fl := fun ρ => match mb ρ with
  | none => none
  | some (.ok fl, ρ1) => some (.ok fl, ρ1)
  | some (.error x, ρ1) => match ca x.1 with
    | none => none
    | some false => some (.error x, ρ1)
    | some true => match setV i (.exc x.1 x.2) ρ1 with
      | none => none
      | some (_, ρ2) => match ms ρ2 with
        | some (.ok fl, ρ3) => match setV i .un ρ3 with
          | some (_, ρ4) => some (.ok fl, ρ4)
          | none => none
        | _ => none
theorem exK_lst {C dd a : Addr} {xs : List V} : ExK C dd a ≠ .lst xs := fun z => by
  have z' : HO.ext _ = HO.lst xs := z
  cases z'
section
variable {X : Cx} {P : Ps} {a b e : Expr} {pos : Pos} {c : Ct} {F H : Hp} {σ : L2.St}
theorem ds_try {x n : Str} {cv : Value} {i : Nat} {body suite : List Stmt} {b₀ : Stmt} {np pos pos' : Pos} {ca : Str → Option Bool} {mb ms : M Fl} (hK : P.K.K = X.K) (hs : X.stack = X.env :: X.outer) (hf : X.env.frame = some X.env.locals) (hex : X.ex = []) (hN : X.N.Nodup) (hi : X.N[i]? = some n) (hln : X.env.kindOf n = some .local)
    (hc : Names X x cv) (tk : Takes X P.W) (hca : ∀ y b C, ca y = some b → P.K.G y = some (.ref C) → PySem.W.exmOne X.K (.ref C) cv = some b)
    (hb : ∀ (W : WX) (pn : List (Addr × Obj)) (xe : Value → Shared → Prop), Takes (X.tr pn xe) W → PassesOwn (model X.prog X.w) X.A X.env xe → PSs (X.tr pn xe) body (tS ⟨P.K, W⟩ mb))
    (hsu : ∀ (a : Addr) (pn : List (Addr × Obj)), PSs (X.suite a pn) (b₀ :: suite) (tS ⟨P.K, fun _ _ _ _ => False⟩ ms)) :
    PS X (.Try body [.ExceptHandler (some (.Name x np)) (some n) (b₀ :: suite) pos'] [] [] pos) (tS P (sTry ca i mb ms)) := by
  refine (ps_try_keep hs hf hex hN hi hln hc tk hb hsu).of fun D σ H q => ?_
  obtain ⟨c, F, ρ, R, q⟩ := q
  refine ⟨c, F, ρ, R, ?_⟩
  unfold sTry at q
  match z : mb ρ with
  | none => rw [z] at q; exact q
  | some (.ok .nx, ρ1) => rw [z] at q; exact q
  | some (.ok .brk, ρ1) => rw [z] at q; exact q
  | some (.ok .cnt, ρ1) => rw [z] at q; exact q
  | some (.ok (.ret r), ρ1) => rw [z] at q; exact q
  | some (.error x, ρ1) =>
    rw [z] at q
    dsimp only at q
    intro σ1 F' H' C dd v sF R1 gC rp hdd h0
    cases y : ca x.1 with
    | none => rw [y] at q; exact (show False from q).elim
    | some b =>
      rw [y] at q
      refine ⟨b, hca _ _ _ y gC, fun hb => ?_, fun hb => ?_⟩
      · subst hb
        refine ⟨C, dd, rfl, rfl, fun a na => ?_⟩
        dsimp only at q
        obtain ⟨R2, s2⟩ := R1.frzO hdd xd_holds h0
        have nFa : upd F' dd (.xd [(("value" : Str), v)]) a = none := by
          cases w : upd F' dd (.xd [(("value" : Str), v)]) a with
          | none => rfl
          | some u => have := R2.sub a u w; rw [na] at this; cases this
        have R3 := R2.new (o := ExK C dd a) na
        have s3 : Same (upd F' dd (.xd [(("value" : Str), v)])) (upd (upd F' dd (.xd [(("value" : Str), v)])) a (ExK C dd a)) := Same.upd nFa
        have hne : dd ≠ a := fun w => by rw [w, na] at hdd; cases hdd
        have at1 : ExAt P.K (upd (upd F' dd (.xd [(("value" : Str), v)])) a (ExK C dd a)) (.ref a) x.1 x.2 := ⟨a, dd, C, v, rfl, gC, upd_same, by rw [upd_ne hne, upd_same], (rp.mono s2).mono s3⟩
        cases w : setV i (.exc x.1 x.2) ρ1 with
        | none => rw [w] at q; exact (show False from q).elim
        | some o =>
          obtain ⟨rfl, hb⟩ := setV_some w
          rw [w] at q
          dsimp only at q
          have R4 := (nilτ' R3).setV (i := i) (v := some (.ref a)) (x := .exc x.1 x.2) ⟨_, rfl, at1⟩ rfl hb
          refine ⟨c, _, _, R4, ?_⟩
          match w2 : ms (ρ1.set i (.exc x.1 x.2)) with
          | none => rw [w2] at q; exact q
          | some (.error x', ρ3) => rw [w2] at q; exact (show False from q).elim
          | some (.ok fl, ρ3) =>
            rw [w2] at q
            dsimp only at q
            cases w3 : setV i .un ρ3 with
            | none => rw [w3] at q; exact (show False from q).elim
            | some o =>
              obtain ⟨rfl, hb3⟩ := setV_some w3
              rw [w3] at q
              have st : Same F (upd (upd F' dd (.xd [(("value" : Str), v)])) a (ExK C dd a)) := (sF.trans s2).trans s3
              have fin : ∀ {σ5 : L2.St} {F5 H5 : Hp}, Rl P.K c F5 ρ3 σ5 H5 → Rl P.K c F5 (ρ3.set i .un) (σ5.set i none) H5 := fun R5 => R5.setV (v := none) (x := .un) trivial rfl hb3
              cases fl with
              | nx => exact fun σ5 F5 H5 s5 R5 => q _ F5 H5 (st.trans s5) (fin R5)
              | brk => exact fun σ5 F5 H5 s5 R5 => q _ F5 H5 (st.trans s5) (fin R5)
              | cnt => exact fun σ5 F5 H5 s5 R5 => q _ F5 H5 (st.trans s5) (fin R5)
              | ret r => exact fun v5 σ5 F5 H5 s5 R5 rv => q v5 _ F5 H5 (st.trans s5) (fin R5) rv
      · subst hb
        exact (q σ1) F' H' C dd v sF R1 gC rp hdd h0
/-- x = e, data or an exception -/
def sSetX (i : Nat) (m : M DR) : M Fl := M.bind m fun r => match r with
  | .exc y d => M.bind (setV i (.exc y d)) fun _ => M.ok .nx
  | r => M.bind (frz r) fun d => M.bind (setD i d) fun _ => M.ok .nx
theorem ds_setXK {i : Nat} {t : TE} {m : M DR} (w : ∀ σ H Q, tE P m σ H Q → t σ H Q) (D : Ends) (σ : L2.St) (H : Hp) (q : tS P (sSetX i m) D σ H) : tAsg t (gName i) D σ H := by
  obtain ⟨c, F, ρ, R, q⟩ := q
  refine w σ H _ ⟨c, F, [], ρ, nilτ R, (HoS.bind σ q).mono fun r ρ1 F1 H1 s R1 q1 v hv => ?_⟩
  rw [List.append_nil] at hv
  cases r with
  | exc y d =>
    dsimp only at q1
    unfold M.bind at q1
    cases z : setV i (.exc y d) ρ1 with
    | none => rw [z] at q1; exact (show False from q1).elim
    | some o =>
      obtain ⟨rfl, hb⟩ := setV_some z
      rw [z] at q1
      exact q1 _ F1 H1 (Same.refl _) ((nilτ' R1).setV ⟨v, rfl, hv⟩ rfl hb)
  | dat d0 =>
    obtain ⟨d, F2, ρ2, s2, R2, r2, q2, _⟩ := HoS.frz (r := .dat d0) q1 (nilτ' R1) hv
    obtain ⟨ρ3, R3, q3⟩ := HoS.setD q2 R2 r2
    exact q3 _ F2 H1 (Same.refl _) R3
  | loc p =>
    obtain ⟨d, F2, ρ2, s2, R2, r2, q2, _⟩ := HoS.frz (r := .loc p) q1 (nilτ' R1) hv
    obtain ⟨ρ3, R3, q3⟩ := HoS.setD q2 R2 r2
    exact q3 _ F2 H1 (Same.refl _) R3
theorem ds_setX {i : Nat} {x : Str} {p2 : Pos} {m : M DR} (hN : X.N.Nodup) (hi : X.N[i]? = some x) (hx : Loc X.env.scope x) (he : PE X e (tE P m)) (hs : swapsWith e (some (.Name x p2)) pos.line X.env = pure false) (hf : X.fn x = true ∨ X.env.scope.names.lookup x = some .local) :
    PS X (.Assign [.Name x p2] e pos) (tS P (sSetX i m)) := (ps_set hN hi hx he hs hf).of (ds_setXK fun _ _ _ q => q)

/-! ### isinstance -/
def tyD : D → String
  | .none => "NoneType"
  | .bool _ => "bool"
  | .int _ => "int"
  | .str _ => "str"
  | .list _ => "list"
  | .tuple _ => "tuple"
  | .dict _ => "dict"
/-- the type, of a dict with tuples as keys, too -/
def TyZ (K : PySem.W.Frag) (H : Hp) (v : V) (t : Value) : Prop := TyX K H v t ∨ (t = .type "dict" ∧ ∃ (a : Addr) (P : Program) (w : World) (es : List TEn), v = .ref a ∧ H a = some (TkO P w a es))
theorem kit_ofZ {X : Cx} {pins : List (Addr × Obj)} {σ : L2.St} {H : Hp} {s : Shared} {x : V} {u t : Value} (I : Inv X pins σ H s) (rx : RelV x u) (ty : TyZ X.K H x t) : ∃ P : Heap → Prop, PySem.W.KitX X.K u t P ∧ P s.heap ∧ u ≠ .builtin "__main__.__loader__#opaque" := by
  rcases ty with ty | ⟨rfl, a, P, w, es, rfl, ea⟩
  · exact kit_of I rx ty
  · cases (show u = Value.ref a from rx)
    obtain ⟨⟨_, _, xs, _, o, ds, ep, h1, h2, _⟩, _⟩ := I.hok a _ ea
    exact ⟨_, PySem.W.kitx_dict, ⟨o, h1, h2.1⟩, fun z => nomatch z⟩
theorem Now.tyX {K : Frag} {F H : Hp} {v : V} {d : D} (n : Now K F H v d) (s : Same F H) : TyZ K.K H v (.type (tyD d)) := by
  cases n with
  | @own a oc e e' hF h =>
    subst e e'
    cases oc with
    | l ds => obtain ⟨xs, hH, _⟩ := h; exact .inl (.base (.lst hH))
    | d kvs =>
      rcases h with ⟨ks, hH, _⟩ | ⟨es, hH, _⟩
      · exact .inl (.base (.dK hH))
      · exact .inr ⟨rfl, a, _, _, es, rfl, hH⟩
  | dat h =>
    cases h with
    | non => exact .inl (.base .non)
    | bl b => exact .inl (.base (.bl b))
    | int i => exact .inl (.base (.int i))
    | str x => exact .inl (.base (.str x))
    | lst h1 _ =>
      rcases h1 with (h1 | ⟨o, h1⟩) | ⟨o, its, k, h1, h2, _⟩
      · exact .inl (.base (.lst (s _ _ h1)))
      · exact .inl (.base (.frz (s _ _ h1)))
      · exact .inl (.kList h1 h2)
    | tup h1 _ =>
      rcases h1 with (h1 | ⟨o, h1⟩) | ⟨o, its, k, h1, h2, _⟩
      · exact .inl (.base (.tup (s _ _ h1)))
      · exact .inl (.fTuple (s _ _ h1))
      · exact .inl (.kTuple h1 h2)
    | dic h1 _ =>
      rcases h1 with h1 | ⟨o, h1⟩
      · exact .inl (.base (.dK (s _ _ h1)))
      · exact .inl (.fDict (s _ _ h1))
    | dit h1 _ => exact .inr ⟨rfl, _, _, _, _, rfl, s _ _ h1⟩
/-- isinstance of data, of a tracked exception -/
def rIsG (K : PySem.W.Frag) : List V → Hp → VK → Prop := fun xs H Q => ∃ (x c : V) (u : Value), xs = [x, c] ∧ ClsV c u ∧
  ((∃ t b, TyZ K H x t ∧ PySem.W.kitOne K t u = some b ∧ Q (.bl b) H) ∨ ∃ (a C dd : Addr) (fs : List (Str × V)) (b : Bool), x = .ref a ∧ H a = some (ExK C dd a) ∧ H dd = some (.xd fs) ∧ ExcC K C ∧ PySem.W.kitOne K (.ref C) u = some b ∧ Q (.bl b) H)
theorem exK_at {P : Program} {w : World} {H : Hp} {h : Heap} {a C dd : Addr} (hok : HOk P w H h) (e : H a = some (ExK C dd a)) : ∃ (oe : Obj) (vs : Array Value), h.get? a = some oe ∧ Zc (.ref C) (some dd) oe ∧ oe.data = .fields vs :=
  (show ObjOk P w H h a (.ext fun h => ∃ (oe : Obj) (vs : Array Value), h.get? a = some oe ∧ Zc (.ref C) (some dd) oe ∧ oe.data = .fields vs) from hok a _ e).1
theorem call_isG : CallR X (.builtin "isinstance") (rIsG X.K) := by
  intro pins s σ H xs us Q I r h
  obtain ⟨x, c, u, rfl, k, h⟩ := h
  obtain ⟨u1, u2, rfl, r1, r2⟩ := vals2 r
  have e2 := k.eq r2
  subst e2
  rcases h with ⟨t, b, ty, e, q⟩ | ⟨a, C, dd, fs, b, rfl, ha, hdd, EC, e, q⟩
  · obtain ⟨P, Z, p, hx⟩ := kit_ofZ I r1 ty
    exact PySem.W.kia_one Z I.kIn p e hx fun tk => ⟨.bl b, H, I.tok tk, rfl, q⟩
  · cases r1
    obtain ⟨oe, vs, he, hz, hd⟩ := exK_at I.hok ha
    have hx : ObjOk X.prog X.w H s.heap dd (.xd fs) := I.hok dd _ hdd
    obtain ⟨mA, hns, hr⟩ := hx
    obtain ⟨od, ho, hl⟩ := lookIn_ns hns
    have J : PySem.W.InstAt s.heap a oe C (some od) := ⟨he, hz.1, by unfold PySem.W.notCls; rw [hd] <;> rfl, by rw [hz.2]; exact ho⟩
    have hcl : (PySem.W.clsIn X.K C).isSome = true := by
      obtain ⟨cd, h1, _⟩ := PySem.W.any_some EC.hd
      rw [h1]; rfl
    exact PySem.W.kia_one (PySem.W.kitx_exc hcl EC.hg EC.hk EC.hs EC.ha EC.hn EC.ht EC.hm) I.kIn J e (fun z => nomatch z) fun tk => ⟨.bl b, H, I.tok tk, rfl, q⟩
def isR (fd : D → Option Bool) (fx : Str → Option Bool) : DR → M DR := fun r => match r with
  | .exc y _ => M.bind (M.opt (fx y)) fun b => M.ok (.dat (.bool b))
  | r => M.bind (rd r) fun d => M.bind (M.opt (fd d)) fun b => M.ok (.dat (.bool b))
def eIs (fd : D → Option Bool) (fx : Str → Option Bool) (m : M DR) : M DR := M.bind m (isR fd fx)
theorem de_isG {tn : Str} {p p2 : Pos} {m : M DR} {cv : V} {u : Value} {fd : D → Option Bool} {fx : Str → Option Bool} (hK : P.K.K = X.K) (hg : Gl X "isinstance") (hm : X.mg "isinstance" = none) (ha : PE X a (tE P m)) (hc : PE X (.Name tn p2) (tC cv)) (hcv : ClsV cv u)
    (hfd : ∀ d b, fd d = some b → PySem.W.kitOne X.K (.type (tyD d)) u = some b) (hfx : ∀ y b C, fx y = some b → P.K.G y = some (.ref C) → ExcC X.K C ∧ PySem.W.kitOne X.K (.ref C) u = some b)
    (he : starEach (a :: [.Name tn p2]) X.env = (false, eval a X.env) :: starEach [.Name tn p2] X.env) (he2 : starEach ([.Name tn p2] : List Expr) X.env = (false, eval (.Name tn p2) X.env) :: starEach [] X.env) (hpl : (backTo pos (starEach [.Name tn p2] X.env)).any (·.1) = false) :
    PE X (.Call (.Name "isinstance" p) [a, .Name tn p2] [] pos) (tE P (eIs fd fx m)) := by
  refine (pe_callB (id := "isinstance") call_isG hg hm (by decide +kernel) (pa_cons ha (pa_cons hc pa_nil he2) he) (by decide) (by decide) he hpl).of fun σ H Q q => ?_
  obtain ⟨c, F, τ, ρ, R, q⟩ := q
  refine ⟨c, F, τ, ρ, R, (Ho.bind q).mono fun r ρ1 F1 H1 s1 R1 q1 v hv => ?_⟩
  have dat : ∀ {r : DR}, RefV P.K F1 (σ ++ τ) v r → Ho P c F1 σ τ (M.bind (rd r) (fun d => M.bind (M.opt (fd d)) fun b => M.ok (.dat (.bool b))) ρ1) (fun r _ F' H' => ∀ v, RefV P.K F' (σ ++ τ) v r → Q v H') →
      tC cv σ H1 (fun w H2 => tNil σ H2 fun ws H3 => rIsG X.K (v :: w :: ws) H3 Q) := fun {r} hv q1 => by
    obtain ⟨d, q2, n⟩ := Ho.now1 q1 R1 hv
    obtain ⟨b, eb, q3⟩ := Ho.opt (H := H1) q2
    exact ⟨v, cv, u, rfl, hcv, .inl ⟨_, b, hK ▸ n.tyX R1.sub, hfd d b eb, Ho.now q3 R1 _ (.bl b)⟩⟩
  cases r with
  | dat d => exact dat hv q1
  | loc p => exact dat hv q1
  | exc y d =>
    obtain ⟨b, eb, q2⟩ := Ho.opt (H := H1) (k := fun b => M.ok (DR.dat (.bool b))) (o := fx y) (ρ := ρ1) q1
    obtain ⟨a, dd, C, w, rfl, g, e1, e2, e3⟩ := (show ExAt P.K F1 v y d from hv)
    obtain ⟨EC, ek⟩ := hfx y b C eb g
    exact ⟨_, cv, u, rfl, hcv, .inr ⟨a, C, dd, _, b, rfl, R1.sub _ _ e1, R1.sub _ _ e2, EC, ek, Ho.now q2 R1 _ (.bl b)⟩⟩

/-! ### e.value -/
def valR (ok : Str → Bool) : DR → M DR := fun r => match r with
  | .exc y d => if ok y then M.ok (.dat d) else M.no
  | _ => M.no
def eVal (ok : Str → Bool) (m : M DR) : M DR := M.bind m (valR ok)
theorem de_val {m : M DR} {ok : Str → Bool} (hK : P.K.K = X.K) (he : PE X e (tE P m)) (hok : ∀ y C, ok y = true → P.K.G y = some (.ref C) → XfC X.K C ∧ PySem.W.findIn X.K (.ref C) "value" = some none) (hb : attributeBase e "value" X.env (eval e X.env) = eval e X.env) :
    PE X (.Attribute e "value" pos) (tE P (eVal ok m)) := by
  refine ⟨fun pins s σ H Q I h => ?_⟩
  have h2 : tE P m σ H fun v H1 => ∃ F1 y d, ok y = true ∧ ExAt P.K F1 v y d ∧ Same F1 H1 ∧ ∀ w, Rp P.K F1 w d → Q w H1 := by
    obtain ⟨c, F, τ, ρ, R, q⟩ := h
    refine ⟨c, F, τ, ρ, R, (Ho.bind q).mono fun r ρ1 F1 H1 s1 R1 q1 v hv => ?_⟩
    cases r with
    | dat d => exact (show False from q1).elim
    | loc p => exact (show False from q1).elim
    | exc y d =>
      unfold valR at q1
      dsimp only at q1
      cases z : ok y with
      | false => rw [z] at q1; exact (show False from q1).elim
      | true =>
        rw [z] at q1
        exact ⟨F1, y, d, z, hv, R1.sub, fun w hw => Ho.now (a := DR.dat d) q1 R1 w hw⟩
  refine attr_of hb (thn (he.run pins s σ H _ I h2) fun u s1 hh => ?_)
  obtain ⟨x, H1, I1, rx, F1, y, d, z, ⟨a, dd, C, w, rfl, g, e1, e2, e3⟩, sF, q⟩ := hh
  obtain rfl : u = Value.ref a := rx
  obtain ⟨T, hno⟩ := hok y C z g
  have ha := sF _ _ e1
  have hd2 := sF _ _ e2
  obtain ⟨oe, vs, he, hz, hd⟩ := exK_at I1.hok ha
  have hx : ObjOk X.prog X.w H1 s1.heap dd (.xd [(("value" : Str), w)]) := I1.hok dd _ hd2
  obtain ⟨mA, hns, hr⟩ := hx
  obtain ⟨od, ho, hl⟩ := lookIn_ns hns
  have l : List.lookup ("value" : Str) [(("value" : Str), w)] = some w := by simp [List.lookup]
  obtain ⟨u, hu, ru⟩ := RelO.some_of (v := w) (o := mA "value") (by rw [← l]; exact hr "value")
  have J : PySem.W.InstAt s1.heap a oe C (some od) := ⟨he, hz.1, by unfold PySem.W.notCls; rw [hd] <;> rfl, by rw [hz.2]; exact ho⟩
  exact HandSPX.exc_get I1.kIn J T.ga T.gg T.exC (PySem.W.findObj_own T.hdC hno rfl (by rw [hl, hu])) (handed_of ru) ⟨w, H1, I1.tok _, ru, q w e3⟩
end
end DL

set_option Elab.async false
set_option linter.all false
set_option maxRecDepth 100000
set_option maxHeartbeats 4000000
/-! DX4: a def's promise where no repr is under way (guards = []), its calls, the law's end. -/
namespace DL
open PySem PySem.Spec PyProof.Rows L2
/-- what a def keeps to when it is called where no repr is under way. The argument values us are those its parameters ps get. -/
structure FnOkG (P : Program) (w : World) (K : PySem.W.Frag) (mg : Str → Option Value) (base : Heap) (CX : CXT) (k : Nat) (f : Addr) (fd : FuncData) (ps : List Str) (sp : Sp) : Prop where
  len : ∀ (xs : List V) (G : Hp) (W : VK) (Y : XK), sp xs G W Y → xs.length = ps.length
  run : ∀ (A : Around) (outer : List Env) (t : Shared) (G : Hp) (given : Args) (us : List Value) (xs : List V) (W : VK) (Y : XK), Room k A → A.guards = some [] →
    Env0 P w K mg base A outer t G → BindsTo t fd given (ps.zip us) → Vals xs us → sp xs G W Y → codeAny (model P w) A (.call (.ref f) given) (CR CX outer P w G t W Y) t
section
variable {P : Program} {w : World} {K : PySem.W.Frag} {mg : Str → Option Value} {base : Heap} {CX : CXT} {j k : Nat} {f : Addr} {ps : List Str} {sp sp' : Sp}
theorem FnOkG.mono {fd : FuncData} (F : FnOkG P w K mg base CX j f fd ps sp) (h : j ≤ k) : FnOkG P w K mg base CX k f fd ps sp where
  len := F.len
  run A outer t G given us xs W Y room := F.run A outer t G given us xs W Y (room.mono h)
theorem FnOkG.imp {fd : FuncData} (F : FnOkG P w K mg base CX k f fd ps sp) (h : ∀ xs G W Y, sp' xs G W Y → sp xs G W Y) : FnOkG P w K mg base CX k f fd ps sp' where
  len xs G W Y q := F.len xs G W Y (h xs G W Y q)
  run A outer t G given us xs W Y room still at0 to rel q := F.run A outer t G given us xs W Y room still at0 to rel (h xs G W Y q)
/-- a parameter has a slot or a cell of the new environment -/
theorem par_slot {N : List Str} {scope : Scope} {b0 : Nat} {us : List Value} (S : FnScope N ps scope) (y : Str × Value) (m : y ∈ ps.zip us) :
    scope.names.lookup y.1 = some .local ∨ scope.names.lookup y.1 = some .cell ∧ ((cellsFrom b0 scope.names []).lookup y.1).isSome = true := by
  have z := S.par y.1 (List.of_mem_zip (show (y.1, y.2) ∈ ps.zip us from m)).1
  exact z.imp id fun c => ⟨c, PySem.W.cellsFrom_some _ _ _ (.inl c)⟩
/-- the body's end is the call's end -/
theorem body_end {N : List Str} {qual : Str} {scope : Scope} {cdv : Value} {A : Around} {outer : List Env} {t t' : Shared} {G : Hp} {W : VK} {Y : XK} :
    ∀ (fl : Flow), SP (cxOf CX P w K mg base N qual scope f cdv A outer t G Y) [] { nx := fun _ G' => W .non G', rt := W } fl t' →
      CR CX outer P w G t W Y (.ok (.ret (match fl with | .ret v => v | _ => .none))) t'
  | .next, ⟨_, G', J, q⟩ => ⟨.non, G', J.os, J.bare, J.base, J.hok, rfl, q⟩
  | .ret _, ⟨v, _, G', J, rv, q⟩ => ⟨v, G', J.os, J.bare, J.base, J.hok, rv, q⟩
  | .brk, ⟨_, _, _, q⟩ => False.elim q
  | .cont, ⟨_, _, _, q⟩ => False.elim q
theorem fn_ofG {name qual : Str} {params : Arguments} {body : List Stmt} {scope : Scope} {dV kV doc pm cdv ct oc : Value} {an od : Option Addr} {osl : Array (Option Value)} {N : List Str}
    (lk : K.lookup f = some ⟨oc, od, .func (PySem.W.fnOf name qual params body scope dV kV doc pm an cdv ct), osl⟩)
    (hcd : PySem.W.codeIn K cdv qual = true) (S : FnScope N ps scope) (len : ∀ (xs : List V) (G : Hp) (W : VK) (Y : XK), sp xs G W Y → xs.length = ps.length)
    (hbody : ∀ (A : Around) (outer : List Env) (t : Shared) (G : Hp) (xs : List V) (W : VK) (Y : XK), Room k (A.deeper (envOfC qual scope t.heap.objs.size f cdv)) → A.guards = some [] → sp xs G W Y →
      ∃ β, PSs (cxOf CX P w K mg base N qual scope f cdv A outer t G Y) body β ∧ β { nx := fun _ G' => W .non G', rt := W } (start N xs) G) :
    FnOkG P w K mg base CX (k + 1) f (PySem.W.fnOf name qual params body scope dV kV doc pm an cdv ct) ps sp where
  len := len
  run A outer t G given us xs W Y room still at0 to rel q := by
    have old : ∀ (b : Addr) (o : Obj), base.get? b = some o → t.heap.get? b = some o := fun b o z => (at0.bs b o z).1
    have kin := at0.mod.kin.keeps old
    obtain ⟨β, hβ, ends⟩ := hbody A outer t G xs W Y (room.deeper _) still q
    apply codeAny_call_function room.depth (kin _ _ lk) rfl S.co S.gen rfl (PySem.W.codeRec_of kin hcd)
    apply to
    apply wpAny_newFunctionEnv_cells S.kind (par_slot S)
    rintro _ rfl t1 made
    constructor
    · exact (at0.mod.nolimit.keeps old).keeps made.toInCall.keep
    · apply codeAny_func
      exact wpAny_mono (hβ.run [] t1 _ G _ (inv_start S room.hd at0 (len _ _ _ _ q) rel made) ends) (fun fl t' z => body_end fl z) fun _ _ z => z
end
section
variable {X : Cx} {CX : CXT} {k : Nat} {f C : Addr} {fd : FuncData} {ps : List Str} {sp : Sp} {E : L2.St → XK} {x m : Str} {p pos apos : Pos} {e o : Expr} {es : List Expr} {ta : TE} {t : TA}
/-- a call with whatever arguments, once it is known what the parameters get -/
theorem run_given {pins : List (Addr × Obj)} {σ : L2.St} {H : Hp} {s : Shared} {Q : VK} {Y : XK} {given : Args} {us : List Value} {vs : List V} (F : FnOkG X.prog X.w X.K X.mg X.base CX k f fd ps sp) (hr : Room k X.A) (hG : X.A.guards = some []) (hx : PassesAt CX X σ Y) (I : Inv X pins σ H s)
    (to : BindsTo s fd given (ps.zip us)) (r : Vals vs us) (h : sp vs H Q Y) : codeAny (model X.prog X.w) X.A (.call (.ref f) given) (fun r s' => match r with | .ok (.ret u) => EP X pins σ Q u s' | .ok _ => False | .error e => X.xe e s') s :=
  codeAny_mono (F.run X.A X.stack s H given us vs Q Y hr hG I.env0 to r h) fun
    | .ok (.ret _), _, q => I.after q
    | .error e, s', q => hx pins H s e s' I q
    | .ok .next, _, q => False.elim q
    | .ok .brk, _, q => False.elim q
    | .ok .cont, _, q => False.elim q
theorem run_fnSG {pins : List (Addr × Obj)} {σ : L2.St} {H : Hp} {s : Shared} {Q : VK} {us : List Value} {vs : List V} (F : FnOkG X.prog X.w X.K X.mg X.base CX k f fd ps sp) (hr : Room k X.A) (hG : X.A.guards = some []) (hb : Binds X.K fd ps []) (hx : PassesAt CX X σ (E σ)) (I : Inv X pins σ H s)
    (r : Vals vs us) (h : sp vs H Q (E σ)) : wpAny (model X.prog X.w) X.A (call (.ref f) us) (EP X pins σ Q) X.xe s := by
  have to := hb s us I.kIn (by rw [List.append_nil, ← r.length]; exact F.len vs H Q (E σ) h)
  have to' : BindsTo s fd ⟨us, []⟩ (ps.zip us) := by rwa [List.append_nil] at to
  exact wpAny_call (codeAny_mono (run_given F hr hG hx I to' r h) fun
    | .ok (.ret _), _, q => q
    | .error _, _, q => q
    | .ok .next, _, q => False.elim q
    | .ok .brk, _, q => False.elim q
    | .ok .cont, _, q => False.elim q)
theorem pe_callSG (F : FnOkG X.prog X.w X.K X.mg X.base CX k f fd ps sp) (hr : Room k X.A) (hG : X.A.guards = some []) (hg : Gl X x) (hm : X.mg x = some (.ref f)) (hk : PySem.W.keepIn X.K (.ref f) = true) (hb : Binds X.K fd ps []) (hx : ∀ σ, PassesAt CX X σ (E σ))
    (ha : PA X (e :: es) t) (hdb : (x == ("__debug__" : Str)) = false := by decide) (he : starEach (e :: es) X.env = (false, eval e X.env) :: starEach es X.env := by rfl) (hpl : (backTo pos (starEach es X.env)).any (·.1) = false := by rfl) :
    PE X (.Call (.Name x p) (e :: es) [] pos) (tCallS sp E t) := by
  refine ⟨fun pins s σ H Q I h => ?_⟩
  refine wpAny_Call_Name_kw (ld_glob I hg hm ?_ hdb)
  refine PySem.W.callWith_K (h₀ := X.base) I.ok.mod.kin hk (thn (ha.run pos pins s σ H _ I h) fun us s1 ⟨vs, H1, I1, r, q⟩ => ⟨I1.kIn, ?_⟩) he hpl
  exact run_fnSG F hr hG hb (hx σ) I1 r q
end
section
variable {X : Cx} {P : Ps} {e : Expr} {es : List Expr} {pos : Pos}
theorem run_fnkSG {CX : CXT} {k : Nat} {f : Addr} {fd : FuncData} {ps ks : List Str} {sp : Sp} {E : XK} {g : List Value → List Value → List Value} {gV : List V → List V → List V} {pins : List (Addr × Obj)} {σ : L2.St} {H : Hp} {s : Shared} {Q : VK} {us ws : List Value} {vs zs : List V} (F : FnOkG X.prog X.w X.K X.mg X.base CX k f fd ps sp)
    (hr : Room k X.A) (hG : X.A.guards = some []) (hb : KBinds X.K fd ps ks g gV) (hx : PassesAt CX X σ E) (I : Inv X pins σ H s) (r : Vals vs us) (rz : Vals zs ws)
    (h : sp (gV vs zs) H Q E) : wpAny (model X.prog X.w) X.A (call (.ref f) us (ks.zip ws)) (EP X pins σ Q) X.xe s := by
  have both := hb.rel r rz
  have to := hb.to s us ws I.kIn (by rw [← both.length]; exact F.len _ H Q E h)
  exact wpAny_call (codeAny_mono (run_given F hr hG hx I to both h) fun
    | .ok (.ret _), _, q => q
    | .error _, _, q => q
    | .ok .next, _, q => False.elim q
    | .ok .brk, _, q => False.elim q
    | .ok .cont, _, q => False.elim q)
theorem pe_callKSG {CX : CXT} {k : Nat} {f : Addr} {fd : FuncData} {ps ks : List Str} {sp : Sp} {E : L2.St → XK} {x : Str} {p : Pos} {kws : List Keyword} {tk : TA} {g : List Value → List Value → List Value} {gV : List V → List V → List V} (F : FnOkG X.prog X.w X.K X.mg X.base CX k f fd ps sp) (hr : Room k X.A) (hG : X.A.guards = some []) (hg : Gl X x) (hm : X.mg x = some (.ref f)) (hk : PySem.W.keepIn X.K (.ref f) = true) (hb : KBinds X.K fd ps ks g gV) (hx : ∀ σ, PassesAt CX X σ (E σ))
    (hkw : PK X kws tk) (hall : (backToKw pos (keywordEach kws X.env)).all (·.1.isSome) = true) (hks : (backToKw pos (keywordEach kws X.env)).filterMap (·.1) = ks)
    (hdb : (x == ("__debug__" : Str)) = false) (hpl : ((backTo pos (starEach [] X.env)).any (·.1) || (backToKw pos (keywordEach kws X.env)).any (·.1.isNone)) = false) :
    PE X (.Call (.Name x p) [] kws pos) (tCallKS sp gV E tk) := by
  refine ⟨fun pins s σ H Q I h => ?_⟩
  refine wpAny_Call_Name_kw (ld_glob I hg hm ?_ hdb)
  refine PySem.W.callWith_KW0 (h₀ := X.base) I.ok.mod.kin hk hall ?_ hpl
  refine thn (hkw.run pos pins s σ H _ I h) fun ws s2 ⟨zs, H2, I2, rz, q2⟩ => ⟨I2.kIn, ?_⟩
  rw [hks]
  exact run_fnkSG F hr hG hb (hx σ) I2 .nil rz q2
theorem de_callG {own : Bool} {n k : Nat} {f : Fsp} {ms : M (List DR)} {x : Str} {p : Pos} {fa : Addr} {fd : FuncData} {ps : List Str} (F : FnOkG X.prog X.w X.K X.mg X.base (L2.CX X.prog X.w) k fa fd ps (spD P.K own n f)) (hr : Room k X.A) (hG : X.A.guards = some []) (hg : Gl X x) (hm : X.mg x = some (.ref fa)) (hk : PySem.W.keepIn X.K (.ref fa) = true)
    (hb : Binds X.K fd ps []) (tk : Takes X P.W) (ha : PA X (e :: es) (tA P ms)) (hl : ALen ms n) (hdb : (x == ("__debug__" : Str)) = false) (he : starEach (e :: es) X.env = (false, eval e X.env) :: starEach es X.env) (hpl : (backTo pos (starEach es X.env)).any (·.1) = false) :
    PE X (.Call (.Name x p) (e :: es) [] pos) (tE P (eCall own f ms)) := (pe_callSG F hr hG hg hm hk hb (fun σ => passAt tk σ) ha hdb he hpl).of (tE_callS hl)
theorem dn_callG {own : Bool} {n k : Nat} {f : Fsp} {ms : M (List DR)} {x : Str} {p : Pos} {fa : Addr} {fd : FuncData} {ps : List Str} (F : FnOkG X.prog X.w X.K X.mg X.base (L2.CX X.prog X.w) k fa fd ps (spD P.K own n f)) (hr : Room k X.A) (hG : X.A.guards = some []) (hg : Gl X x) (hm : X.mg x = some (.ref fa)) (hk : PySem.W.keepIn X.K (.ref fa) = true)
    (hb : Binds X.K fd ps []) (tk : Takes X P.W) (ha : PA X (e :: es) (tA P ms)) (hl : ALen ms n) (hdb : (x == ("__debug__" : Str)) = false) (he : starEach (e :: es) X.env = (false, eval e X.env) :: starEach es X.env) (hpl : (backTo pos (starEach es X.env)).any (·.1) = false) :
    PE X (.Call (.Name x p) (e :: es) [] pos) (tN P (nCall own f ms)) := (pe_callSG F hr hG hg hm hk hb (fun σ => passAt tk σ) ha hdb he hpl).of (tN_callS hl)
theorem de_callKG {n nk k : Nat} {π : List Nat} {f : Fsp} {ms : M (List DR)} {x : Str} {p : Pos} {fa : Addr} {fd : FuncData} {ps ks : List Str} {kws : List Keyword} {g : List Value → List Value → List Value} (F : FnOkG X.prog X.w X.K X.mg X.base (L2.CX X.prog X.w) k fa fd ps (spD P.K false n f)) (hr : Room k X.A) (hG : X.A.guards = some []) (hg : Gl X x) (hm : X.mg x = some (.ref fa)) (hk : PySem.W.keepIn X.K (.ref fa) = true)
    (hb : KBinds X.K fd ps ks g (fun _ zs => permR π zs)) (tk : Takes X P.W) (hkw : PK X kws (tA P ms)) (hl : ALen ms nk) (hπ : ∀ (vs : List V), vs.length = nk → (permR π vs).length = n) (hall : (backToKw pos (keywordEach kws X.env)).all (·.1.isSome) = true) (hks : (backToKw pos (keywordEach kws X.env)).filterMap (·.1) = ks)
    (hdb : (x == ("__debug__" : Str)) = false) (hpl : ((backTo pos (starEach [] X.env)).any (·.1) || (backToKw pos (keywordEach kws X.env)).any (·.1.isNone)) = false) :
    PE X (.Call (.Name x p) [] kws pos) (tE P (eCallK π f ms)) := (pe_callKSG F hr hG hg hm hk hb (fun σ => passAt tk σ) hkw hall hks hdb hpl).of (tE_callK hl hπ)
end
section
variable {Pg : Program} {wd : World} {K : PySem.W.Frag} {mg : Str → Option Value} {base : Heap}
theorem fn_okG {x qual : Str} {st : Stmt} {fa : Addr} {fd : FuncData} {N ps : List Str} {k : Nat} {own : Bool} {m : M Fl} (F : Fun K x qual st fa fd) (S : FnScope N ps (defScope st))
    (hbody : ∀ (cdv : Value) (A : Around) (outer : List Env) (s : Shared) (H : Hp) (E : XK), Room k (A.deeper (envOfC qual (defScope st) s.heap.objs.size fa cdv)) → (A.deeper (envOfC qual (defScope st) s.heap.objs.size fa cdv)).guards = some [] →
      Takes (cxOf (L2.CX Pg wd) Pg wd K mg base N qual (defScope st) fa cdv A outer s H E) (fun cls d _ H => E cls d H) →
      PSs (cxOf (L2.CX Pg wd) Pg wd K mg base N qual (defScope st) fa cdv A outer s H E) (defBody st) (tS ⟨⟨K, mg, Pg, wd⟩, fun cls d _ H => E cls d H⟩ m)) :
    FnOkG Pg wd K mg base (L2.CX Pg wd) (k + 1) fa fd ps (spD ⟨K, mg, Pg, wd⟩ own ps.length (runF own N.length m)) := by
  obtain ⟨oc, od, kV, doc, pm, an, cdv, ct, osl, rfl, lk, hcd⟩ := F.ex
  refine fn_ofG lk hcd S (fun vs H Q E h => h.1) fun A outer s H vs Q E hr hG h => ?_
  refine ⟨tS ⟨⟨K, mg, Pg, wd⟩, fun cls d _ H => E cls d H⟩ m, hbody cdv A outer s H E hr hG (takes_of rfl rfl rfl rfl), ?_⟩
  obtain ⟨hn, F0, oa, us, w, ds, ho, rfl, sF, lt, r, h⟩ := h
  subst ho
  have hpl : ps.length ≤ N.length := by have := congrArg List.length S.pre; rw [List.length_take] at this; omega
  have R0 := rl_init (N := N) sF lt r (by rw [hn]; exact hpl)
  have fr : ∀ {ρ : List DV} {σ : L2.St} {F' H' : Hp}, Rl ⟨K, mg, Pg, wd⟩ ⟨H, F0, BOf oa⟩ F' ρ σ H' → Frm oa H H' := fun {ρ σ F' H'} R b o e hb => R.keep b o e (fun z => by
    cases oa with
    | none => exact absurd z (by simp [Ct.ads, BOf])
    | some a =>
      have : b = a := by simpa [Ct.ads, BOf] using z
      exact hb (by rw [this]))
  refine ⟨_, F0, _, R0, ?_⟩
  unfold runF at h
  match z : m (initE oa.isSome N.length w ds) with
  | none => rw [z] at h; exact h
  | some (.ok .nx, ρ) =>
    rw [z] at h
    exact fun σ F' H' s R => h .non F' H' s R.sub R.born (fr R) (lent_of R rfl) .non
  | some (.ok (.ret rv), ρ) =>
    rw [z] at h
    refine fun v σ F' H' s R rr => h v F' H' s R.sub R.born (fr R) (lent_of R rfl) ?_
    cases rv with
    | dat d => exact rr
    | new es =>
      obtain ⟨a, xs, e1, e2, e3, e4, e5, e6⟩ := rr
      exact ⟨a, xs, e1, e2, e3, e5, e6⟩
  | some (.ok .brk, ρ) => rw [z] at h; exact h.elim
  | some (.ok .cnt, ρ) => rw [z] at h; exact h.elim
  | some (.error x, ρ) =>
    rw [z] at h
    exact fun σ F' H' C dd v s R g rp hx hn => by
      rw [List.append_nil] at R
      exact h C dd v F' H' s R.sub R.born (fr R) (lent_of R rfl) g rp hx hn
end
/-! the law's end: the script is the one argument, so the library's argH of that one address is the abstract heap to start from -/
theorem toV_ints : ∀ {us : List Value} {is : List Int}, IntsAre us is → us.map toV = is.map V.int
  | _, _, .nil => rfl
  | _, _, .cons n _ h => congrArg (V.int n :: ·) (toV_ints h)
theorem okU_ints {B : List Addr} : ∀ {us : List Value} {is : List Int}, IntsAre us is → ∀ u ∈ us, OkU B u
  | _, _, .nil, _, m => nomatch m
  | _, _, .cons _ _ h, u, m => by
    rcases List.mem_cons.mp m with rfl | m
    · trivial
    · exact okU_ints h u m
abbrev seqO (us : List Value) : Obj := { cls := .type "list", data := .seq us.toArray }
section
variable {K : PySem.W.Frag} {h : Heap} {a b : Addr} {us : List Value}
theorem argH_off (n : b ≠ a) : argH K h [a] b = none := by
  match z : argH K h [a] b with
  | none => rfl
  | some _ => exact absurd (List.mem_singleton.mp (of_argH z).1) n
theorem argH_known {o : Obj} (lk : K.lookup b = some o) : argH K h [a] b = none := by
  match z : argH K h [a] b with
  | none => rfl
  | some _ => rw [(of_argH z).2] at lk; cases lk
theorem argH_Only (at_ : h.get? a = some (seqO us)) : Only (argH K h [a]) := fun b => by
  match z : argH K h [a] b with
  | none => exact .inl rfl
  | some _ =>
    obtain ⟨m, nk⟩ := of_argH z
    obtain rfl := List.mem_singleton.mp m
    exact .inr ⟨seqO us, us.map toV, by rw [← z, argH_at m nk at_, hoOf_lst]⟩
theorem ns_behind {ms : Str → Option Value} (at_ : h.get? a = some (seqO us)) (ns : h.Ns b ms) : (hidT h (argH K h [a])).Ns b ms := by
  obtain ⟨o, es, ep, e, d, more⟩ := ns
  have apart : b ≠ a := by
    rintro rfl
    obtain rfl := Option.some.inj (e.symm.trans at_)
    exact Data.noConfusion (show Data.seq us.toArray = Data.dict es ep from d)
  exact ⟨o, es, ep, hidT_get e (argH_off apart), d, more⟩
end
theorem law_callG {P : Program} {w : World} {K : PySem.W.Frag} {mg mb : Str → Option Value} {CX : CXT} {k : Nat} {fa a : Addr} {fd : FuncData} {x : Str} {sp : Sp} {t : Shared} {us : List Value} {is : List Int} (inn : K.In t.heap) (gs : t.heap.Ns mainGlobals mg) (bs : t.heap.Ns builtinsNs mb)
    (boot : ∀ y : Str, y ≠ "__name__" → mb y = bootBuiltins y) (free : t.heap.NoLimit) (calm : t.gens = #[]) (at_ : t.heap.get? a = some (seqO us)) (nums : IntsAre us is) (short : is.length ≤ sizeLine) (room : Room k callerA)
    (F : ∀ base : Heap, K.In base → base.Ns mainGlobals mg → FnOkG P w K mg base CX k fa fd [x] sp) (to : ∀ (t : Shared) (u : Value), BindsTo t fd ⟨[u], []⟩ [(x, u)])
    (yes : ∀ G : Hp, Only G → SqL K G a (is.map V.int) → sp [.ref a] G (fun v _ => v = .bl true) fun _ _ _ => False) (none_ : ∀ G e t', CX [] G t (fun _ _ _ => False) e t' → False) :
    codeAny (model P w) callerA (.call (.ref fa) ⟨[.ref a], []⟩) (fun r t' => r = .ok (.ret (.bool true)) ∧ OldK t.heap t'.heap ∧ t'.os = t.os ∧ AllBare t'.gens) t := by
  have area : ∀ b ∈ [a], ArgOb t.heap [a] b := fun b m => by
    obtain rfl := List.mem_singleton.mp m
    exact ⟨us, by rw [nums.length]; exact short, okU_ints nums, .inl at_⟩
  have seq := (argL inn area (List.mem_singleton.mpr rfl) at_).2
  rw [toV_ints nums] at seq
  have only : Only (argH K t.heap [a]) := argH_Only at_
  have good : HOk P w (argH K t.heap [a]) t.heap := argH_ok area
  have inn' : K.In (hidT t.heap (argH K t.heap [a])) := fun b o lk => hidT_get (inn b o lk) (argH_known lk)
  have gs' := ns_behind (K := K) at_ gs
  have free' : (hidT t.heap (argH K t.heap [a])).NoLimit := by
    obtain ⟨mc, q1, q2⟩ := free
    exact ⟨mc, ns_behind at_ q1, q2⟩
  have at0 : Env0 P w K mg (hidT t.heap (argH K t.heap [a])) callerA [] t (argH K t.heap [a]) :=
    { frames := rfl, mod := ⟨inn', gs', ⟨mb, ns_behind at_ bs, boot⟩, free'⟩, bs := fun _ _ => of_hidT, bsz := by rw [hidT_size]; exact Nat.le_refl _, funs := trivial, frf := fun _ m => (nomatch m), hok := good, bare := .of_eq calm }
  have one : Vals [V.ref a] [Value.ref a] := .cons rfl .nil
  refine codeAny_mono ((F _ inn' gs').run callerA [] t _ _ _ _ _ _ room rfl at0 (to t _) one (yes _ only seq)) fun
    | .error e, t', q => (none_ _ e t' q).elim
    | .ok .next, _, q => False.elim q
    | .ok .brk, _, q => False.elim q
    | .ok .cont, _, q => False.elim q
    | .ok (.ret u), t', ⟨v, G', os, bare, un, good', rv, (isT : v = .bl true)⟩ => ?_
  subst isT
  cases (show u = Value.bool true from rv)
  refine ⟨rfl, OldK.of_keep fun b o e => ?_, os, bare⟩
  rcases only b with z | ⟨ob, xs, z⟩
  · exact un.keep b o e z (fun m => (nomatch m)) List.not_mem_nil
  · have before := (good b _ z).1
    have after := (good' b _ (un.frzs b ob _ z)).1
    exact after.trans (before.symm.trans e)
section
variable {l : PySem.W.OpenLaw} {n k : Nat} {q : Program} {loose : List Str} {XP : (Str → Option Value) → Heap → Prop} {YP : World → Heap → Prop} {d : DefRec} {K : Params → PySem.W.Frag} {CX : World → CXT} {sp : World → Sp} {x : Str}
/-- from the law def's promise to the row's walk -/
theorem walk_ofG (most : l.most = some n) (small : n ≤ sizeLine) (bare : d.params.defaults = []) (room : Room k callerA) (part : ∀ (w : World) (g : Heap), YP w g → (K w.params).In g)
    (F : ∀ (w : World) (mg : Str → Option Value) (fa : Addr) (g : Heap), (K w.params).In g → g.Ns mainGlobals mg → mg d.name = some (.ref fa) → ∃ fd : FuncData, (∀ (t : Shared) (u : Value), BindsTo t fd ⟨[u], []⟩ [(x, u)]) ∧
      ∀ base : Heap, (K w.params).In base → base.Ns mainGlobals mg → FnOkG l.prog w (K w.params) mg base (CX w) k fa fd [x] (sp w))
    (yes : ∀ (w : World) (G : Hp) (a : Addr) (is : List Int), is.length ≤ n → Only G → SqL (K w.params) G a (is.map V.int) → sp w [.ref a] G (fun v _ => v = .bl true) fun _ _ _ => False)
    (none_ : ∀ (w : World) (G : Hp) (t : Shared) (e : Value) (t' : Shared), CX w [] G t (fun _ _ _ => False) e t' → False) : PySem.W.WalkO q loose XP YP l.row.toRowW d [] (fun f us => PySem.call f us) := by
  apply Att.attach_call most bare
  intro w _ t mg mb fa _ _ _ _ a us is Gd Y _ _ _ glob at_ nums short calm
  have inn := part w _ Y
  obtain ⟨fd, to, promise⟩ := F w mg fa _ inn Gd.T.g glob
  exact law_callG inn Gd.T.g Gd.T.b Gd.T.builtins Gd.T.nolimit calm at_ nums (Nat.le_trans short small) room promise to (fun G only => yes w G a is short only) (fun G => none_ w G t)
end
end DL

set_option Elab.async false
set_option linter.all false
set_option maxRecDepth 100000
set_option maxHeartbeats 4000000
/-! DX5: repr; list(x), tuple(x), list(range(..)); max, min, sum, all, any of a list; is None of exceptions; tuple stores. -/
namespace DL
open PySem PySem.Spec PyProof.Rows L2

section
variable {X : Cx} {P : Ps} {a b e : Expr} {es : List Expr} {pos : Pos} {c : Ct} {F H : Hp} {σ : L2.St} {τ : List (Option V)}
theorem de_never {m : M DR} : PE X e (tE P (M.no)) := ⟨fun _ _ _ _ _ _ ⟨_, _, _, _, _, h⟩ => (show False from h).elim⟩

/-! ### repr -/
mutual
/-- no less than the length of repr's text -/
def rz : D → Nat
  | .none => 4
  | .bool _ => 5
  | .int i => i.natAbs.log2 + 2
  | .str x => (reprText x).length
  | .list ds => rzAll ds + 2
  | .tuple ds => rzAll ds + 3
  | .dict _ => 0
def rzAll : List D → Nat
  | [] => 0
  | d :: ds => rz d + 2 + rzAll ds
end
theorem textFrom_le : ∀ (ts : List Str) (k : Nat) (acc : Str), (textFrom k acc ts).length ≤ acc.length + piled ts
  | [], k, acc => by show acc.length ≤ _; omega
  | t :: r, k, acc => by
    have h := textFrom_le r (k + 1) (acc ++ (if k > 0 then ", " else "" : String) ++ t)
    have e : (acc ++ (if k > 0 then ", " else "" : String) ++ t).length ≤ acc.length + 2 + t.length := by
      rw [strLen_append, strLen_append]
      by_cases hk : k > 0
      · rw [if_pos hk]; show _ + 2 + _ ≤ _; omega
      · rw [if_neg hk]; show _ + 0 + _ ≤ _; omega
    rw [piled_cons]
    show (textFrom (k + 1) (acc ++ (if k > 0 then ", " else "" : String) ++ t) r).length ≤ _
    omega
theorem listText_le (ts : List Str) : (listText ts).length ≤ piled ts + 2 := by
  unfold listText
  rw [strLen_append]
  have := textFrom_le ts 0 "["
  have e1 : (("[" : String) : Str).length = 1 := rfl
  have e2 : (("]" : String) : Str).length = 1 := rfl
  omega
theorem tupleText_le (ts : List Str) : (tupleText ts).length ≤ piled ts + 3 := by
  unfold tupleText
  rw [strLen_append, strLen_append]
  have e1 : (("(" : String) : Str).length = 1 := rfl
  have hj : (Str.join ", " ts).length ≤ piled ts := by
    by_cases h : ts = []
    · subst h; exact Nat.le_of_eq rfl
    · have := join_length_add ts h; omega
  by_cases h : (ts.length == 1) = true
  · rw [if_pos h]
    have e2 : ((",)" : String) : Str).length = 2 := rfl
    omega
  · rw [if_neg h]
    have e2 : ((")" : String) : Str).length = 1 := rfl
    omega
mutual
theorem shown_le : ∀ d : D, d.hasDict = false → d.shown.length ≤ rz d
  | .none, _ => by simp only [PyData.shown, rz]; exact Nat.le_of_eq rfl
  | .bool true, _ => by simp only [PyData.shown, rz]; exact (by decide : (4 : Nat) ≤ 5)
  | .bool false, _ => by simp only [PyData.shown, rz]; exact Nat.le_of_eq rfl
  | .int i, _ => by
    simp only [PyData.shown, rz]
    rw [PySem.ofString_length]
    exact int_text_length_le (k := i.natAbs.log2 + 1) (Nat.succ_pos _) (Nat.lt_succ_self _)
  | .str x, _ => by simp only [PyData.shown, rz]; exact Nat.le_refl _
  | .list ds, h => by
    simp only [PyData.shown, rz]
    have := listText_le (PyData.shownAll ds)
    have := shownAll_le ds (by simpa only [PyData.hasDict] using h)
    omega
  | .tuple ds, h => by
    simp only [PyData.shown, rz]
    have := tupleText_le (PyData.shownAll ds)
    have := shownAll_le ds (by simpa only [PyData.hasDict] using h)
    omega
  | .dict _, h => by simp [PyData.hasDict] at h
theorem shownAll_le : ∀ ds : List D, PyData.hasDictAll ds = false → piled (PyData.shownAll ds) ≤ rzAll ds
  | [], _ => Nat.le_refl _
  | d :: ds, h => by
    simp only [PyData.hasDictAll, Bool.or_eq_false_iff] at h
    simp only [PyData.shownAll, rzAll, piled_cons]
    have := shown_le d h.1
    have := shownAll_le ds h.2
    omega
end
def reprOk (d : D) : Bool := d.showable && SeqAt.shaped d && decide (d.depth ≤ 64) && decide (rz d ≤ 16777216)
def reprF : List D → Option D
  | [d] => if reprOk d then some (.str d.shown) else none
  | _ => none
theorem call_reprG (hG : X.A.guards = some []) (hu : X.A.units + 200 < cLine) : CallR X (.builtin "repr") (fun xs H Q => ∃ x d, xs = [x] ∧ Dp X.K H x d ∧ d.showable = true ∧ d.hasDict = false ∧ d.depth ≤ 64 ∧ d.shown.length ≤ sizeLine ∧ Q (.str d.shown) H) := by
  intro pins s σ H xs us Q I r h
  obtain ⟨x, d, rfl, hd, hs, hnd, h64, hz, q⟩ := h
  obtain ⟨u, rfl, rx⟩ := vals1 r
  obtain ⟨as, rd⟩ := Dp.reads I d x u hd rx
  have ref : ∀ a, u = .ref a → wpAny (model X.prog X.w) X.A (call (.builtin "repr") [u]) (EP X pins σ Q) X.xe s := fun a e => by
    subst e
    exact repr_of_reads' rd hs (PyData.noDict_hsm hnd) hG (by omega) (fun _ _ e => e) (fun h' u tk hk => ⟨.str d.shown, H, I.kept hk, ⟨_, rfl⟩, q⟩) hz
  cases hd with
  | non => cases (show u = Value.none from rx); exact PySem.P.repr_of_none ⟨.str _, H, I.tok _, ⟨_, rfl⟩, by simpa only [PyData.shown] using q⟩
  | bl k => cases (show u = Value.bool k from rx); exact PySem.P.repr_of_bool ⟨.str _, H, I.tok _, ⟨_, rfl⟩, by simpa only [PyData.shown] using q⟩
  | int i =>
    obtain ⟨t, e⟩ := (show ∃ t, u = Value.int i t from rx)
    subst e
    exact PySem.P.repr_of_int (by simpa only [PyData.showable, decide_eq_true_eq] using hs) ⟨.str _, H, I.tok _, ⟨_, rfl⟩, by simpa only [PyData.shown] using q⟩
  | str y =>
    obtain ⟨t, e⟩ := (show ∃ t, u = Value.str y t from rx)
    subst e
    exact PySem.P.repr_of_str ⟨.str _, H, I.tok _, ⟨_, rfl⟩, by simpa only [PyData.shown] using q⟩ (by simpa only [PyData.shown] using hz)
  | lst _ _ => exact ref _ rx
  | tup _ _ => exact ref _ rx
theorem cbd_repr (hK : P.K.K = X.K) : CbD P (fun xs H Q => ∃ x d, xs = [x] ∧ Dp X.K H x d ∧ d.showable = true ∧ d.hasDict = false ∧ d.depth ≤ 64 ∧ d.shown.length ≤ sizeLine ∧ Q (.str d.shown) H) reprF := by
  intro c F H L ρ vs ds z Q R n hz q
  have hs : sizeLine = 16777216 := sizeLine_eq
  unfold reprF at hz
  split at hz
  · rename_i d
    split at hz
    · rename_i hok
      cases wid hz
      obtain ⟨v, rfl, n0⟩ := now1 n
      unfold reprOk at hok
      simp only [Bool.and_eq_true, decide_eq_true_eq] at hok
      obtain ⟨⟨⟨h1, h2⟩, h3⟩, h4⟩ := hok
      have hnd := PyData.hasDict_of_canLay d (SeqAt.canLay_of_shaped h2)
      exact ⟨v, d, rfl, hK ▸ n0.dp R.sub h2, h1, hnd, h3, by have := shown_le d hnd; omega, q F H _ (Same.refl F) R (.str _)⟩
    · cases hz
  · cases hz

/-! ### list(x), tuple(x) of data -/
def listF : List D → Option D
  | [.list ds] => some (.list ds)
  | [.tuple ds] => some (.list ds)
  | _ => none
def tupleF : List D → Option D
  | [.list ds] => some (.tuple ds)
  | [.tuple ds] => some (.tuple ds)
  | _ => none
theorem fresh_of {K : Frag} {c : Ct} {F H : Hp} {ρ : List DV} {L : List (Option V)} (R : Rl K c F ρ L H) {p : Addr} (hp : H p = none) : F p = none := by
  cases z : F p with
  | none => rfl
  | some u => have := R.sub p u z; rw [hp] at this; cases this
theorem cbd_list (hK : P.K.K = X.K) : CbD P (fun xs H Q => ∃ p ys, xs = [.ref p] ∧ (SqL X.K H p ys ∨ SqT X.K H p ys) ∧ ∀ l, H l = none → Q (.ref l) (upd H l (.lst ys))) listF := by
  intro c F H L ρ vs ds z Q R n hz q
  unfold listF at hz
  split at hz
  · cases wid hz
    obtain ⟨v, rfl, n0⟩ := now1 n
    obtain ⟨a1, ws, rfl, h1, r1⟩ := n0.list R.sub
    refine ⟨a1, ws, rfl, .inl (hK ▸ h1), fun l hl => ?_⟩
    exact q _ _ _ (Same.upd (fresh_of R hl)) (R.new hl) (.lst (.inl (.inl upd_same)) (r1.mono (Same.upd (fresh_of R hl))))
  · cases wid hz
    obtain ⟨v, rfl, n0⟩ := now1 n
    obtain ⟨a1, ws, rfl, h1, h2, r1⟩ := n0.tuple R.sub
    refine ⟨a1, ws, rfl, .inr (hK ▸ h1), fun l hl => ?_⟩
    exact q _ _ _ (Same.upd (fresh_of R hl)) (R.new hl) (.lst (.inl (.inl upd_same)) (r1.mono (Same.upd (fresh_of R hl))))
  · cases hz
theorem cbd_tuple (hK : P.K.K = X.K) : CbD P (fun xs H Q => ∃ p ys, xs = [.ref p] ∧ ((SqL X.K H p ys ∧ ∀ l, H l = none → Q (.ref l) (upd H l (.tup ys))) ∨ (SqT X.K H p ys ∧ Q (.ref p) H))) tupleF := by
  intro c F H L ρ vs ds z Q R n hz q
  unfold tupleF at hz
  split at hz
  · cases wid hz
    obtain ⟨v, rfl, n0⟩ := now1 n
    obtain ⟨a1, ws, rfl, h1, r1⟩ := n0.list R.sub
    exact ⟨a1, ws, rfl, .inl ⟨hK ▸ h1, fun l hl => q _ _ _ (Same.upd (fresh_of R hl)) (R.new hl) (.tup (.inl (.inl upd_same)) (r1.mono (Same.upd (fresh_of R hl))))⟩⟩
  · cases wid hz
    obtain ⟨v, rfl, n0⟩ := now1 n
    obtain ⟨a1, ws, rfl, h1, h2, r1⟩ := n0.tuple R.sub
    exact ⟨a1, ws, rfl, .inr ⟨hK ▸ h1, q _ _ _ (Same.refl F) R (.tup h2 r1)⟩⟩
  · cases hz

/-! ### max, min, sum, all, any of a list -/
def asInts : List D → Option (List Int)
  | [] => some []
  | .int i :: ds => (asInts ds).map (i :: ·)
  | _ => none
theorem asInts_some : ∀ {ds : List D} {ns : List Int}, asInts ds = some ns → ds = ns.map PyData.int
  | [], ns, h => by cases h; rfl
  | .int i :: ds, ns, h => by
    cases e : asInts ds with
    | none => simp [asInts, e] at h
    | some ms =>
      simp [asInts, e] at h
      subst h
      rw [List.map_cons, ← asInts_some e]
  | .none :: _, _, h => by cases h
  | .bool _ :: _, _, h => by cases h
  | .str _ :: _, _, h => by cases h
  | .list _ :: _, _, h => by cases h
  | .tuple _ :: _, _, h => by cases h
  | .dict _ :: _, _, h => by cases h
def asBools : List D → Option (List Bool)
  | [] => some []
  | .bool i :: ds => (asBools ds).map (i :: ·)
  | _ => none
theorem asBools_some : ∀ {ds : List D} {ns : List Bool}, asBools ds = some ns → ds = ns.map PyData.bool
  | [], ns, h => by cases h; rfl
  | .bool i :: ds, ns, h => by
    cases e : asBools ds with
    | none => simp [asBools, e] at h
    | some ms =>
      simp [asBools, e] at h
      subst h
      rw [List.map_cons, ← asBools_some e]
  | .none :: _, _, h => by cases h
  | .int _ :: _, _, h => by cases h
  | .str _ :: _, _, h => by cases h
  | .list _ :: _, _, h => by cases h
  | .tuple _ :: _, _, h => by cases h
  | .dict _ :: _, _, h => by cases h
theorem rp_ints : ∀ {K : Frag} {F : Hp} {vs : List V} {ns : List Int}, RpAll K F vs (ns.map PyData.int) → vs = ns.map V.int
  | _, _, _, [], .nil => rfl
  | _, _, _, _ :: _, .cons h t => by cases h; rw [rp_ints t]; rfl
theorem rp_bools : ∀ {K : Frag} {F : Hp} {vs : List V} {ns : List Bool}, RpAll K F vs (ns.map PyData.bool) → vs = ns.map V.bl
  | _, _, _, [], .nil => rfl
  | _, _, _, _ :: _, .cons h t => by cases h; rw [rp_bools t]; rfl
def maxN : List Int → Int
  | [] => 0
  | [i] => i
  | i :: ns => if maxN ns ≤ i then i else maxN ns
def minN : List Int → Int
  | [] => 0
  | [i] => i
  | i :: ns => if i ≤ minN ns then i else minN ns
theorem maxN_is : ∀ {ns : List Int}, 0 < ns.length → maxN ns ∈ ns ∧ ∀ y ∈ ns, y ≤ maxN ns
  | [], h => by simp at h
  | [i], _ => by simp [maxN]
  | i :: j :: ns, _ => by
    obtain ⟨h1, h2⟩ := maxN_is (ns := j :: ns) (by simp)
    unfold maxN
    by_cases hc : maxN (j :: ns) ≤ i
    · rw [if_pos hc]
      refine ⟨List.mem_cons_self, fun y hy => ?_⟩
      rcases List.mem_cons.mp hy with rfl | hy
      · exact Int.le_refl _
      · exact Int.le_trans (h2 y hy) hc
    · rw [if_neg hc]
      refine ⟨List.mem_cons_of_mem _ h1, fun y hy => ?_⟩
      rcases List.mem_cons.mp hy with rfl | hy
      · omega
      · exact h2 y hy
theorem minN_is : ∀ {ns : List Int}, 0 < ns.length → minN ns ∈ ns ∧ ∀ y ∈ ns, minN ns ≤ y
  | [], h => by simp at h
  | [i], _ => by simp [minN]
  | i :: j :: ns, _ => by
    obtain ⟨h1, h2⟩ := minN_is (ns := j :: ns) (by simp)
    unfold minN
    by_cases hc : i ≤ minN (j :: ns)
    · rw [if_pos hc]
      refine ⟨List.mem_cons_self, fun y hy => ?_⟩
      rcases List.mem_cons.mp hy with rfl | hy
      · exact Int.le_refl _
      · exact Int.le_trans hc (h2 y hy)
    · rw [if_neg hc]
      refine ⟨List.mem_cons_of_mem _ h1, fun y hy => ?_⟩
      rcases List.mem_cons.mp hy with rfl | hy
      · omega
      · exact h2 y hy
def lInt (f : List Int → Option D) : List D → Option D
  | [.list ds] => (asInts ds).bind f
  | _ => none
def lBool (f : List Bool → D) : List D → Option D
  | [.list ds] => (asBools ds).map f
  | _ => none
def maxLF : List D → Option D := lInt fun ns => if ns.isEmpty then none else some (.int (maxN ns))
def minLF : List D → Option D := lInt fun ns => if ns.isEmpty then none else some (.int (minN ns))
def sumF : List D → Option D := lInt fun ns => some (.int ns.sum)
def allF : List D → Option D := lBool fun bs => .bool (bs.all id)
def anyF : List D → Option D := lBool fun bs => .bool (bs.any id)
theorem lInt_some {f : List Int → Option D} {ds : List D} {z : D} (h : lInt f ds = some z) : ∃ ns : List Int, ds = [.list (ns.map PyData.int)] ∧ f ns = some z := by
  unfold lInt at h
  split at h
  · rename_i es
    cases e : asInts es with
    | none => rw [e] at h; cases h
    | some ns => rw [e] at h; exact ⟨ns, by rw [asInts_some e], h⟩
  · cases h
theorem lBool_some {f : List Bool → D} {ds : List D} {z : D} (h : lBool f ds = some z) : ∃ ns : List Bool, ds = [.list (ns.map PyData.bool)] ∧ z = f ns := by
  unfold lBool at h
  split at h
  · rename_i es
    cases e : asBools es with
    | none => rw [e] at h; cases h
    | some ns => rw [e] at h; exact ⟨ns, by rw [asBools_some e], (Option.some.inj h).symm⟩
  · cases h
theorem cbd_maxL (hK : P.K.K = X.K) : CbD P (rMax X.K) maxLF := by
  intro c F H L ρ vs ds z Q R n hz q
  obtain ⟨ns, rfl, h⟩ := lInt_some hz
  obtain ⟨v, rfl, n0⟩ := now1 n
  obtain ⟨a1, ws, rfl, h1, r1⟩ := n0.list R.sub
  cases hne : ns.isEmpty with
  | true => rw [hne] at h; cases h
  | false =>
    rw [hne] at h
    cases h
    have hpos : 0 < ns.length := by cases ns with | nil => simp at hne | cons _ _ => simp
    rw [rp_ints r1] at h1
    refine ⟨a1, ns, rfl, hK ▸ h1, hpos, fun m m1 m2 => q F H _ (Same.refl F) R ?_⟩
    obtain ⟨k1, k2⟩ := maxN_is hpos
    have : m = maxN ns := Int.le_antisymm (k2 m m1) (m2 _ k1)
    rw [this]; exact .int _
theorem cbd_minL (hK : P.K.K = X.K) : CbD P (rMin X.K) minLF := by
  intro c F H L ρ vs ds z Q R n hz q
  obtain ⟨ns, rfl, h⟩ := lInt_some hz
  obtain ⟨v, rfl, n0⟩ := now1 n
  obtain ⟨a1, ws, rfl, h1, r1⟩ := n0.list R.sub
  cases hne : ns.isEmpty with
  | true => rw [hne] at h; cases h
  | false =>
    rw [hne] at h
    cases h
    have hpos : 0 < ns.length := by cases ns with | nil => simp at hne | cons _ _ => simp
    rw [rp_ints r1] at h1
    refine ⟨a1, ns, rfl, hK ▸ h1, hpos, fun m m1 m2 => q F H _ (Same.refl F) R ?_⟩
    obtain ⟨k1, k2⟩ := minN_is hpos
    have : m = minN ns := Int.le_antisymm (m2 _ k1) (k2 m m1)
    rw [this]; exact .int _
theorem cbd_sum (hK : P.K.K = X.K) : CbD P (rSum X.K) sumF := by
  intro c F H L ρ vs ds z Q R n hz q
  obtain ⟨ns, rfl, h⟩ := lInt_some hz
  obtain ⟨v, rfl, n0⟩ := now1 n
  obtain ⟨a1, ws, rfl, h1, r1⟩ := n0.list R.sub
  cases h
  rw [rp_ints r1] at h1
  exact ⟨a1, ns, rfl, hK ▸ h1, q F H _ (Same.refl F) R (.int _)⟩
theorem cbd_all (hK : P.K.K = X.K) : CbD P (rAll X.K) allF := by
  intro c F H L ρ vs ds z Q R n hz q
  obtain ⟨ns, rfl, rfl⟩ := lBool_some hz
  obtain ⟨v, rfl, n0⟩ := now1 n
  obtain ⟨a1, ws, rfl, h1, r1⟩ := n0.list R.sub
  rw [rp_bools r1] at h1
  exact ⟨a1, ns, rfl, hK ▸ h1, q F H _ (Same.refl F) R (.bl _)⟩
theorem cbd_any (hK : P.K.K = X.K) : CbD P (rAny X.K) anyF := by
  intro c F H L ρ vs ds z Q R n hz q
  obtain ⟨ns, rfl, rfl⟩ := lBool_some hz
  obtain ⟨v, rfl, n0⟩ := now1 n
  obtain ⟨a1, ws, rfl, h1, r1⟩ := n0.list R.sub
  rw [rp_bools r1] at h1
  exact ⟨a1, ns, rfl, hK ▸ h1, q F H _ (Same.refl F) R (.bl _)⟩

/-! ### a, b = (x, y) -/
theorem HoS.frzAll {rs : List DR} {k : List D → M Fl} {ρ : List DV} {vs : List V} {De : Ends} (h : HoS P c F (M.bind (DL.frzAll rs) k ρ) De) (R : Rl P.K c F ρ σ H) (hv : Paired (RefV P.K F σ) vs rs) :
    ∃ ds F1 ρ1, Same F F1 ∧ Rl P.K c F1 ρ1 σ H ∧ RpAll P.K F1 vs ds ∧ HoS P c F1 (k ds ρ1) De := by
  have h1 := HoS.bind σ h
  have e : M.bind (DL.frzAll rs) (fun ds => M.ok ds) ρ = DL.frzAll rs ρ := by
    unfold M.bind
    cases DL.frzAll rs ρ with
    | none => rfl
    | some o => obtain ⟨o, r⟩ := o; cases o <;> rfl
  rw [← e] at h1
  obtain ⟨ds, F1, ρ1, s1, R1, r1, q1⟩ := Ho.frzAll h1 (nilτ R) (by rw [List.append_nil]; exact hv)
  exact ⟨ds, F1, ρ1, s1, nilτ' R1, r1, Ho.now q1 R1⟩
theorem setDs_ok : ∀ {is : List Nat} {ds : List D} {ρ : List DV} {o : Except Ex Unit × List DV}, setDs is ds ρ = some o → ∃ ρ', o = (.ok (), ρ') ∧ ds.length = is.length
  | [], [], ρ, o, h => by cases h; exact ⟨ρ, rfl, rfl⟩
  | [], _ :: _, _, _, h => by cases h
  | _ :: _, [], _, _, h => by cases h
  | i :: is, d :: ds, ρ, o, h => by
    unfold setDs M.bind at h
    cases z : setD i d ρ with
    | none => rw [z] at h; cases h
    | some o1 =>
      obtain ⟨e, _⟩ := setD_some z
      subst e
      rw [z] at h
      obtain ⟨ρ', e1, e2⟩ := setDs_ok (show setDs is ds _ = some o from h)
      exact ⟨ρ', e1, by rw [List.length_cons, List.length_cons, e2]⟩
def sPar (is : List Nat) (ms : M (List DR)) : M Fl := M.bind ms fun rs => M.bind (frzAll rs) fun ds => M.bind (setDs is ds) fun _ => M.ok .nx
theorem HoS.setDs {is : List Nat} {ds : List D} {k : Unit → M Fl} {ρ : List DV} {De : Ends} (h : HoS P c F (M.bind (DL.setDs is ds) k ρ) De) : ∃ ρ', DL.setDs is ds ρ = some (.ok (), ρ') ∧ ds.length = is.length ∧ HoS P c F (k () ρ') De := by
  unfold M.bind at h
  cases z : DL.setDs is ds ρ with
  | none => rw [z] at h; exact (show False from h).elim
  | some o =>
    obtain ⟨ρ', e1, e2⟩ := setDs_ok z
    subst e1
    rw [z] at h
    exact ⟨ρ', rfl, e2, h⟩
theorem ds_par2 {i j : Nat} {x y : Str} {px py pt : Pos} {kt k2 pt2} {ms : M (List DR)} (hc : X.calm = true) (hN : X.N.Nodup) (hi : X.N[i]? = some x) (hj : X.N[j]? = some y) (hij : i ≠ j)
    (hx : X.env.scope.names.lookup x = some .local) (hy : X.env.scope.names.lookup y = some .local) (ha : PA X [a, b] (tA P ms))
    (hw : swappedStores [.Tuple [.Name x px, .Name y py] kt pt] (.Tuple [a, b] k2 pt2) X.env = pure (some [x, y]))
    (hs : swapsWithSole [.Tuple [.Name x px, .Name y py] kt pt] (.Tuple [a, b] k2 pt2) pos.line X.env = pure false) :
    PS X (.Assign [.Tuple [.Name x px, .Name y py] kt pt] (.Tuple [a, b] k2 pt2) pos) (tS P (sPar [i, j] ms)) := (ps_par hc hN hi hj hij hx hy ha hw hs).of fun De σ H q => by
  obtain ⟨c, F, ρ, R, q⟩ := q
  refine ⟨c, F, [], ρ, nilτ R, (HoS.bind σ q).mono fun rs ρ1 F1 H1 s1 R1 q1 vs hvs => ?_⟩
  obtain ⟨ds, F2, ρ2, s2, R2, r2, q2⟩ := HoS.frzAll q1 (nilτ' R1) (by rw [List.append_nil] at hvs; exact hvs)
  obtain ⟨ρ3, e3, hl, q3⟩ := HoS.setDs q2
  match ds, hl, r2 with
  | [d, f], _, .cons (v := v) rv (.cons (v := w) rw' .nil) =>
    refine ⟨v, w, rfl, ?_⟩
    unfold DL.setDs M.bind at e3
    cases z : setD i d ρ2 with
    | none => rw [z] at e3; cases e3
    | some o =>
      obtain ⟨e, hb⟩ := setD_some z
      subst e
      rw [z] at e3
      dsimp only at e3
      unfold DL.setDs M.bind at e3
      cases z2 : setD j f (ρ2.set i (.dat d)) with
      | none => rw [z2] at e3; cases e3
      | some o =>
        obtain ⟨e, hb2⟩ := setD_some z2
        subst e
        rw [z2] at e3
        cases e3
        exact q3 _ F2 H1 (Same.refl _) ((R2.setD rv hb).setD rw' hb2)
theorem ds_par3 {i j l : Nat} {x y w : Str} {px py pz pt : Pos} {kt k2 pt2} {e3 : Expr} {ms : M (List DR)} (hc : X.calm = true) (hN : X.N.Nodup) (hi : X.N[i]? = some x) (hj : X.N[j]? = some y) (hl : X.N[l]? = some w) (hij : i ≠ j) (hil : i ≠ l) (hjl : j ≠ l)
    (hx : X.env.scope.names.lookup x = some .local) (hy : X.env.scope.names.lookup y = some .local) (hz : X.env.scope.names.lookup w = some .local) (ha : PA X [a, b, e3] (tA P ms))
    (hw : swappedStores [.Tuple [.Name x px, .Name y py, .Name w pz] kt pt] (.Tuple [a, b, e3] k2 pt2) X.env = pure (some [x, y, w]))
    (hs : swapsWithSole [.Tuple [.Name x px, .Name y py, .Name w pz] kt pt] (.Tuple [a, b, e3] k2 pt2) pos.line X.env = pure false) :
    PS X (.Assign [.Tuple [.Name x px, .Name y py, .Name w pz] kt pt] (.Tuple [a, b, e3] k2 pt2) pos) (tS P (sPar [i, j, l] ms)) := (ps_par3 hc hN hi hj hl hij hil hjl hx hy hz ha hw hs).of fun De σ H q => by
  obtain ⟨c, F, ρ, R, q⟩ := q
  refine ⟨c, F, [], ρ, nilτ R, (HoS.bind σ q).mono fun rs ρ1 F1 H1 s1 R1 q1 vs hvs => ?_⟩
  obtain ⟨ds, F2, ρ2, s2, R2, r2, q2⟩ := HoS.frzAll q1 (nilτ' R1) (by rw [List.append_nil] at hvs; exact hvs)
  obtain ⟨ρ3, e3, hl, q3⟩ := HoS.setDs q2
  match ds, hl, r2 with
  | [d, f, g], _, .cons (v := v) rv (.cons (v := w) rw' (.cons (v := u) ru .nil)) =>
    refine ⟨v, w, u, rfl, ?_⟩
    unfold DL.setDs M.bind at e3
    cases z : setD i d ρ2 with
    | none => rw [z] at e3; cases e3
    | some o =>
      obtain ⟨e, hb⟩ := setD_some z
      subst e
      rw [z] at e3
      dsimp only at e3
      unfold DL.setDs M.bind at e3
      cases z2 : setD j f (ρ2.set i (.dat d)) with
      | none => rw [z2] at e3; cases e3
      | some o =>
        obtain ⟨e, hb2⟩ := setD_some z2
        subst e
        rw [z2] at e3
        dsimp only at e3
        unfold DL.setDs M.bind at e3
        cases z3 : setD l g ((ρ2.set i (.dat d)).set j (.dat f)) with
        | none => rw [z3] at e3; cases e3
        | some o =>
          obtain ⟨e, hb3⟩ := setD_some z3
          subst e
          rw [z3] at e3
          cases e3
          exact q3 _ F2 H1 (Same.refl _) (((R2.setD rv hb).setD rw' hb2).setD ru hb3)
/-- the ordinary path: a tuple is made, then taken apart -/
theorem ds_parT {tes : List Expr} {is : List Nat} {kt k2 : Nat} {pt pt2 : Pos} {ms : M (List DR)} (hK : P.K.K = X.K) (hc : X.calm = true) (ha : PA X es (tA P ms)) (hg : PGs X tes (gTs P is)) (hn : (assignEach tes X.env).length = is.length) (hst : (assignEach tes X.env).findIdx? (·.1) = none) (hsz : is.length ≤ 1000)
    (hs : swapsWithSole [.Tuple tes kt pt] (.Tuple es k2 pt2) pos.line X.env = pure false) (hw : swappedStores [.Tuple tes kt pt] (.Tuple es k2 pt2) X.env = pure none) (h1 : (assignEach [.Tuple tes kt pt] X.env).map (·.2) = [assign (.Tuple tes kt pt) X.env]) :
    PS X (.Assign [.Tuple tes kt pt] (.Tuple es k2 pt2) pos) (tS P (sPar is ms)) := (ps_asg (pe_tup ha) (pg_tup hc hg hn hst) hs hw h1).of fun De σ H q => by
  have hz : sizeLine = 16777216 := sizeLine_eq
  obtain ⟨c, F, ρ, R, q⟩ := q
  refine ⟨c, F, [], ρ, nilτ R, (HoS.bind σ q).mono fun rs ρ1 F1 H1 s1 R1 q1 vs hvs => ?_⟩
  obtain ⟨ds, F2, ρ2, s2, R2, r2, q2⟩ := HoS.frzAll q1 (nilτ' R1) (by rw [List.append_nil] at hvs; exact hvs)
  obtain ⟨ρ3, e3, hl, q3⟩ := HoS.setDs q2
  have hlen : vs.length = is.length := by rw [r2.length, hl]
  refine ⟨by rw [hlen]; omega, fun p hp => ?_⟩
  have R3 := R2.new (o := .tup vs) hp
  have s3 : Same F2 (upd F2 p (.tup vs)) := Same.upd (fresh_of R2 hp)
  exact ⟨p, vs, rfl, .inl (.inl upd_same), hlen, c, _, [], ρ2, ds, nilτ R3, r2.mono s3, ρ3, e3, fun σ' F' H' s R' _ => q3 σ' F' H' (s3.trans s) (nilτ' R')⟩
/-- a, b = e, a tuple -/
def sUnp (is : List Nat) (m : M DR) : M Fl := M.bind m fun r => match r with
  | .dat (.tuple ds) => M.bind (setDs is ds) fun _ => M.ok .nx
  | _ => M.no
theorem ds_unp {tes : List Expr} {is : List Nat} {kt : Nat} {pt : Pos} {m : M DR} (hK : P.K.K = X.K) (hc : X.calm = true) (he : PE X e (tE P m)) (hg : PGs X tes (gTs P is)) (hn : (assignEach tes X.env).length = is.length) (hst : (assignEach tes X.env).findIdx? (·.1) = none)
    (hs : swapsWithSole [.Tuple tes kt pt] e pos.line X.env = pure false) (hw : swappedStores [.Tuple tes kt pt] e X.env = pure none) (h1 : (assignEach [.Tuple tes kt pt] X.env).map (·.2) = [assign (.Tuple tes kt pt) X.env]) :
    PS X (.Assign [.Tuple tes kt pt] e pos) (tS P (sUnp is m)) := (ps_asg he (pg_tup hc hg hn hst) hs hw h1).of fun De σ H q => by
  obtain ⟨c, F, ρ, R, q⟩ := q
  refine ⟨c, F, [], ρ, nilτ R, (HoS.bind σ q).mono fun r ρ1 F1 H1 s1 R1 q1 v hv => ?_⟩
  match r, hv, q1 with
  | .dat (.tuple ds), hv, q1 =>
    obtain ⟨ρ3, e3, hl, q3⟩ := HoS.setDs (show HoS P c F1 (M.bind (DL.setDs is ds) (fun _ => M.ok .nx) ρ1) De from q1)
    have hv' : Rp P.K F1 v (.tuple ds) := hv
    cases hv' with
    | @tup a xs _ h1 h2 =>
      exact ⟨a, xs, rfl, hK ▸ sqt_mono R1.sub h1, by rw [h2.length, hl], c, F1, [], ρ1, ds, R1, h2, ρ3, e3, fun σ' F' H' s R' _ => q3 σ' F' H' s (nilτ' R')⟩
/-- is None, of an exception too -/
def isNR (neg : Bool) : DR → M DR := fun r => match r with
  | .exc _ _ => M.ok (.dat (.bool neg))
  | r => M.bind (rd r) fun d => M.ok (.dat (.bool (if neg then !isNoneB d else isNoneB d)))
def eIsN (neg : Bool) (m : M DR) : M DR := M.bind m (isNR neg)
theorem isN_step {neg : Bool} {r : DR} {ρ1 : List DV} {v : V} {Q : VK} (R1 : Rl P.K c F ρ1 (σ ++ τ) H) (hv : RefV P.K F (σ ++ τ) v r) (q1 : Ho P c F σ τ (isNR neg r ρ1) fun r _ F' H' => ∀ v, RefV P.K F' (σ ++ τ) v r → Q v H') : Q (.bl (if neg then !decide (v = .non) else decide (v = .non))) H := by
  have dat : ∀ {r : DR}, RefV P.K F (σ ++ τ) v r → Ho P c F σ τ (M.bind (rd r) (fun d => M.ok (.dat (.bool (if neg then !isNoneB d else isNoneB d)))) ρ1) (fun r _ F' H' => ∀ v, RefV P.K F' (σ ++ τ) v r → Q v H') → Q (.bl (if neg then !decide (v = .non) else decide (v = .non))) H := fun {r} hv q1 => by
    obtain ⟨d, q2, n⟩ := Ho.now1 q1 R1 hv
    rw [n.isN]
    exact Ho.now q2 R1 _ (.bl _)
  cases r with
  | dat d => exact dat hv q1
  | loc p => exact dat hv q1
  | exc y d =>
    obtain ⟨a, dd, C, w, rfl, _⟩ := (show ExAt P.K F v y d from hv)
    have e : decide (V.ref a = V.non) = false := decide_eq_false (fun z => nomatch z)
    rw [e]
    have := Ho.now (a := DR.dat (.bool neg)) q1 R1 (.bl neg) (.bl neg)
    cases neg <;> exact this
theorem de_isNx {ma : M DR} {j : Nat} {p2 : Pos} (ha : PE X a (tE P ma)) : PE X (.Compare a [.Is] [.Constant .none j p2] pos) (tE P (eIsN false ma)) := (pe_cmp (pc_isN ha) rfl).of fun σ H Q q => by
  obtain ⟨c, F, τ, ρ, R, q⟩ := q
  exact ⟨c, F, τ, ρ, R, (Ho.bind q).mono fun x ρ1 F1 H1 s1 R1 q1 v hv => isN_step R1 hv q1⟩
theorem de_notNx {ma : M DR} {j : Nat} {p2 : Pos} (ha : PE X a (tE P ma)) : PE X (.Compare a [.IsNot] [.Constant .none j p2] pos) (tE P (eIsN true ma)) := (pe_cmp (pc_notN ha) rfl).of fun σ H Q q => by
  obtain ⟨c, F, τ, ρ, R, q⟩ := q
  exact ⟨c, F, τ, ρ, R, (Ho.bind q).mono fun x ρ1 F1 H1 s1 R1 q1 v hv => isN_step R1 hv q1⟩
theorem dt_isNx {ma : M DR} {j : Nat} {p2 : Pos} (ha : PE X a (tE P ma)) : PT X (.Compare a [.Is] [.Constant .none j p2] pos) (tT P (eB (eIsN false ma))) := (pt_cmp (pc_isN ha) rfl).of fun σ H Q q => tT_tB (t := tIsN (tE P ma)) (fun σ H Q q => by
  obtain ⟨c, F, τ, ρ, R, q⟩ := q
  exact ⟨c, F, τ, ρ, R, (Ho.bind q).mono fun x ρ1 F1 H1 s1 R1 q1 v hv => isN_step R1 hv q1⟩) σ H Q q
theorem dt_notNx {ma : M DR} {j : Nat} {p2 : Pos} (ha : PE X a (tE P ma)) : PT X (.Compare a [.IsNot] [.Constant .none j p2] pos) (tT P (eB (eIsN true ma))) := (pt_cmp (pc_notN ha) rfl).of fun σ H Q q => tT_tB (t := tNotN (tE P ma)) (fun σ H Q q => by
  obtain ⟨c, F, τ, ρ, R, q⟩ := q
  exact ⟨c, F, τ, ρ, R, (Ho.bind q).mono fun x ρ1 F1 H1 s1 R1 q1 v hv => isN_step R1 hv q1⟩) σ H Q q

/-! ### list(range(a, b)) -/
theorem rp_map {K : Frag} {F : Hp} {α : Type} (f : α → V) (g : α → D) (h : ∀ x, Rp K F (f x) (g x)) : ∀ l : List α, RpAll K F (l.map f) (l.map g)
  | [] => .nil
  | x :: l => .cons (h x) (rp_map f g h l)
def rgOk (i j : Int) : Bool := okR i && okR j && decide ((j - i).toNat ≤ 2 ^ 24)
def rgLF (d e : D) : Option D := match d, e with
  | .int i, .int j => if rgOk i j then some (.list (rangeD i j)) else none
  | _, _ => none
def rLrg : R2 := fun x y H Q => ∃ i j, x = .int i ∧ y = .int j ∧ RgOk i j ∧ ∀ q, H q = none → Q (.ref q) (upd H q (.lst (rgV i j)))
theorem rgOk_of {i j : Int} (h : rgOk i j = true) : RgOk i j := by
  unfold rgOk at h
  simp only [Bool.and_eq_true, decide_eq_true_eq] at h
  obtain ⟨⟨h1, h2⟩, h3⟩ := h
  exact ⟨(okR_of h1).1, (okR_of h1).2, (okR_of h2).1, (okR_of h2).2, h3⟩
theorem rg_rp {K : Frag} {F : Hp} (i j : Int) : RpAll K F (rgV i j) (rangeD i j) := rp_map _ _ (fun _ => .int _) _
theorem opd_lrg : OpD X P rLrg rgLF := by
  intro c F H L ρ x y d e z Q R n1 n2 hz q
  unfold rgLF at hz
  split at hz
  · split at hz
    · rename_i i j hok
      cases wid hz
      exact ⟨i, j, n1.int, n2.int, rgOk_of hok, fun p hp => q _ _ _ (Same.upd (fresh_of R hp)) (R.new hp) (.lst (.inl (.inl upd_same)) (rg_rp i j))⟩
    · cases hz
  · cases hz
theorem de_lrg2 {p p2 pos2 : Pos} {ma mb : M DR} (hc : X.calm = true) (hg : Gl X "list") (hm : X.mg "list" = none) (hg2 : Gl X "range") (hm2 : X.mg "range" = none) (ha : PE X a (tE P ma)) (hb : PE X b (tE P mb))
    (n1 : starEach [a, b] X.env = (false, eval a X.env) :: starEach [b] X.env) (n2 : starEach [b] X.env = (false, eval b X.env) :: starEach [] X.env) (n3 : starEach [Expr.Call (.Name "range" p2) [a, b] [] pos2] X.env = (false, eval (Expr.Call (.Name "range" p2) [a, b] [] pos2) X.env) :: starEach [] X.env) (hp : (backTo pos2 (starEach [b] X.env)).any (·.1) = false) :
    PE X (.Call (.Name "list" p) [.Call (.Name "range" p2) [a, b] [] pos2] [] pos) (tE P (eOp2 rgLF ma mb)) :=
  (pe_listRg hc hg hm (prg_2 hg2 hm2 ha hb n1 n2 hp) n3).of fun σ H Q q => by
    obtain ⟨c, F, τ, ρ, R, q⟩ := tE_op2 (X := X) (opd_lrg (X := X)) σ H Q q
    refine ⟨c, F, τ, ρ, R, q.mono fun r ρ1 F1 H1 s1 R1 q1 v hv => ?_⟩
    obtain ⟨c2, F2, τ2, ρ2, R2, q2⟩ := q1 v hv
    refine ⟨c2, F2, τ2, ρ2, R2, q2.mono fun r2 ρ3 F3 H3 s3 R3 q3 w hw => ?_⟩
    obtain ⟨i, j, e1, e2, e3, e4⟩ := q3 w hw
    exact ⟨i, j, e1, e2, e3, e4⟩
end
end DL

set_option Elab.async false
set_option linter.all false
set_option maxRecDepth 100000
set_option maxHeartbeats 4000000
/-! DX6: return of a new list; x = [.. for ..] on one line; append; small helps for printed proofs. -/
namespace DL
open PySem PySem.Spec PyProof.Rows L2

section
variable {K : Frag} {c : Ct} {F H : Hp} {ρ : List DV} {L : List (Option V)}
/-- the last temporary is let go -/
theorem Rl.dropLast {x : DV} {v : Option V} (R : Rl K c F (ρ ++ [x]) (L ++ [v]) H) (hl : ρ.length = L.length) (hb : x.isBor = false) : Rl K c F ρ L H := by
  refine Rl.patch R hl (fun i y w e1 e2 => .inl ⟨?_, ?_⟩) fun p hp => ?_
  · rw [List.getElem?_append_left (List.getElem?_eq_some_iff.mp e1).1]; exact e1
  · rw [List.getElem?_append_left (List.getElem?_eq_some_iff.mp e2).1]; exact e2
  · obtain ⟨⟨fs, g1⟩, g2⟩ := R.lent p hp
    have hp1 : p.1 < ρ.length := by
      rcases Nat.lt_or_ge p.1 ρ.length with h | h
      · exact h
      · rw [List.getElem?_append_right h] at g1
        have h1 := (List.getElem?_eq_some_iff.mp g1).1
        have h2 : p.1 - ρ.length = 0 := by simp at h1; omega
        rw [h2] at g1
        cases g1
        simp [DV.isBor] at hb
    rw [List.getElem?_append_left hp1, List.getElem?_append_left (by omega)]
    exact ⟨rfl, rfl⟩
end
section
variable {X : Cx} {P : Ps} {a b e : Expr} {es : List Expr} {pos : Pos} {c : Ct} {F H : Hp} {σ : L2.St} {τ : List (Option V)}
theorem _root_.L2.PW.fin {X : Cx} {e : Expr} {t : TT} (h : PW X e t) : PT X e t := h.pt
/-- return of a list that was made just now -/
theorem ds_retN {m : M Unit} (h : PE X e (tN P m)) : PS X (.Return (some e) pos) (tS P (sRetN m)) := (ps_ret h).of fun De σ H q => by
  obtain ⟨c, F, ρ, R, q⟩ := q
  refine ⟨c, F, [], ρ, nilτ R, ?_⟩
  unfold sRetN M.bind at q
  match z : m ρ with
  | none => rw [z] at q; exact q
  | some (.error x, ρ1) => rw [z] at q; exact q σ
  | some (.ok u, ρ1) =>
    rw [z] at q
    intro F' H' v s R1
    rw [List.append_nil] at R1
    dsimp only at q
    split at q
    · rename_i ds hl
      obtain ⟨ys, rfl⟩ := List.getLast?_eq_some_iff.mp hl
      rw [List.dropLast_concat] at q
      have hlen : ys.length = σ.length := by
        have := R1.len
        simp only [List.length_append, List.length_singleton] at this
        omega
      have ex : (ys ++ [DV.lst ds])[ys.length]? = some (.lst ds) := by rw [List.getElem?_append_right (Nat.le_refl _)]; simp
      have ev : (σ ++ [some v])[ys.length]? = some (some v) := by rw [hlen, List.getElem?_append_right (Nat.le_refl _)]; simp
      obtain ⟨a, e1, e2, xs, e3, e4⟩ := R1.slot _ _ _ ex ev
      cases e1
      refine q _ σ F' H' s (R1.dropLast hlen rfl) ⟨a, xs, rfl, e2, ?_, R1.nobor _ (.l ds) a ex ev, e3, e4⟩
      rcases R1.fresh _ _ a ex (by simp [DV.cont]) ev with g | g
      · exact g
      · exact absurd g (R1.nobor _ (.l ds) a ex ev)
    · exact (show False from q).elim
theorem ds_setLc {i : Nat} {y : Str} {py : Pos} {elt tg iter : Expr} {ifs : List Expr} {scope : Scope} {own : List (Str × Nat)} {spos : Pos} {mi : M (List D)} {t : DT} {mt : M Bool} {me : M DR} (hc : X.calm = true) (hN : X.N.Nodup) (hy : X.N[i]? = some y) (hyl : X.env.scope.names.lookup y = some .local)
    (hsw : swapsWith (.ListComp elt [⟨tg, iter, ifs, 0⟩] scope pos) (some (.Name y py)) spos.line X.env = pure true) (hi : PI X tg iter (tI P mi)) (ok : BlkOk X.N X.env.scope scope own)
    (hg : ∀ (s : Shared) (H : Hp) (C : Addr) (cl : List (Str × Addr)) (fp : List Addr), PG (X.blk s H scope (compEnvC scope cl C X.env) fp) tg (gT P.quiet t)) (ht : ∀ (s : Shared) (H : Hp) (C : Addr) (cl : List (Str × Addr)) (fp : List Addr), PTs (X.blk s H scope (compEnvC scope cl C X.env) fp) ifs (tT P.quiet mt))
    (he : ∀ (s : Shared) (H : Hp) (C : Addr) (cl : List (Str × Addr)) (fp : List Addr), PE (X.blk s H scope (compEnvC scope cl C X.env) fp) elt (tE P.quiet me)) (hs : ∀ x, foldedSetIterable iter X.env x = pure x) (hv : ∀ i ∈ t.slots, i ∈ own.map (·.2)) :
    PS X (.Assign [.Name y py] (.ListComp elt [⟨tg, iter, ifs, 0⟩] scope pos) spos) (tS P (sSetN i (nLc mi t mt me (own.map (·.2))))) :=
  (ps_setLc hc hN hy hyl hsw hi ok hg ht he hs).ofL fun De σ H hσ q =>
    ds_setNK (t := fun σ H Q => σ.length = X.N.length → _) (fun σ H Q q hσ => tN_lc (X := X) hv (fun i hi => by
      obtain ⟨p, hp, rfl⟩ := List.mem_map.mp hi
      exact (List.getElem?_eq_some_iff.mp (ok.ix p hp)).1) σ H Q hσ q) De σ H q hσ
theorem ds_setLcX {i : Nat} {y : Str} {py : Pos} {elt tg iter : Expr} {ifs : List Expr} {scope : Scope} {own : List (Str × Nat)} {spos : Pos} {mi : M (List D)} {t : DT} {mt : M Bool} {me : M DR} (hc : X.calm = true) (hN : X.N.Nodup) (hy : X.N[i]? = some y) (hyl : X.env.scope.names.lookup y = some .local)
    (hsw : swapsWith (.ListComp elt [⟨tg, iter, ifs, 0⟩] scope pos) (some (.Name y py)) spos.line X.env = pure true) (hi : PI X tg iter (tI P mi)) (ok : BlkOk X.N X.env.scope scope own)
    (hg : ∀ (s : Shared) (H : Hp) (C : Addr) (cl : List (Str × Addr)) (fp : List Addr), PG (X.blk s H scope (compEnvC scope cl C X.env) fp) tg (gT P.quiet t)) (ht : ∀ (s : Shared) (H : Hp) (C : Addr) (cl : List (Str × Addr)) (fp : List Addr), PTs (X.blk s H scope (compEnvC scope cl C X.env) fp) ifs (tT P.quiet mt))
    (he : ∀ (s : Shared) (H : Hp) (C : Addr) (cl : List (Str × Addr)) (fp : List Addr), PE (X.blk s H scope (compEnvC scope cl C X.env) fp) elt (tE P.quiet me)) (hs : ∀ x, foldedSetIterable iter X.env x = pure x) (hv : ∀ i ∈ t.slots, i ∈ own.map (·.2)) :
    PS X (.Assign [.Name y py] (.ListComp elt [⟨tg, iter, ifs, 0⟩] scope pos) spos) (tS P (sSetX i (eLc mi t mt me (own.map (·.2))))) :=
  (ps_setLc hc hN hy hyl hsw hi ok hg ht he hs).ofL fun De σ H hσ q =>
    ds_setXK (t := fun σ H Q => σ.length = X.N.length → _) (fun σ H Q q hσ => tE_of_tN (P := P) (t := fun σ H Q => σ.length = X.N.length → _) (fun σ H Q q hσ => tN_lc (X := X) hv (fun i hi => by
      obtain ⟨p, hp, rfl⟩ := List.mem_map.mp hi
      exact (List.getElem?_eq_some_iff.mp (ok.ix p hp)).1) σ H Q hσ q) σ H Q q hσ) De σ H q hσ
theorem de_lc {tg iter elt : Expr} {ifs : List Expr} {scope : Scope} {own : List (Str × Nat)} {mi : M (List D)} {t : DT} {mt : M Bool} {me : M DR} (hc : X.calm = true) (hN : X.N.Nodup) (hi : PI X tg iter (tI P mi)) (ok : BlkOk X.N X.env.scope scope own)
    (hg : ∀ (s : Shared) (H : Hp) (C : Addr) (cl : List (Str × Addr)) (fp : List Addr), PG (X.blk s H scope (compEnvC scope cl C X.env) fp) tg (gT P.quiet t)) (ht : ∀ (s : Shared) (H : Hp) (C : Addr) (cl : List (Str × Addr)) (fp : List Addr), PTs (X.blk s H scope (compEnvC scope cl C X.env) fp) ifs (tT P.quiet mt))
    (he : ∀ (s : Shared) (H : Hp) (C : Addr) (cl : List (Str × Addr)) (fp : List Addr), PE (X.blk s H scope (compEnvC scope cl C X.env) fp) elt (tE P.quiet me)) (hs : ∀ x, foldedSetIterable iter X.env x = pure x) (hv : ∀ i ∈ t.slots, i ∈ own.map (·.2)) :
    PE X (.ListComp elt [⟨tg, iter, ifs, 0⟩] scope pos) (tE P (eLc mi t mt me (own.map (·.2)))) :=
  (dn_lc hc hN hi ok hg ht he hs hv).of (tE_of_tN (P := P) fun _ _ _ q => q)
theorem de_v {i : Nat} {x : Str} (hN : X.N[i]? = some x) (hv : Vis X.env.scope x) (hd : (x == ("__debug__" : Str)) = false := by decide) (hcd : (x == ("__classdict__" : Str)) = false := by decide) : PE X (.Name x pos) (tE P (eVar i)) :=
  de_var hN hv (fun σ h => by rw [h]; exact (List.getElem?_eq_some_iff.mp hN).1) hd hcd
/-- units for repr -/
theorem room_u64 {k : Nat} {A : Around} (r : Room k A) : A.units + 64 < cLine := by have := r.un; omega
theorem room_u {k : Nat} {A : Around} (r : Room k A) : A.units + 200 < cLine := by have := r.un; omega
theorem gl_of {X : Cx} {x : Str} {sc : Scope} (h : sc.names.lookup x = some .globalImplicit) (e : X.env.scope = sc) : Gl X x := by
  subst e; exact h
/-- the answers of isinstance for a built-in type -/
def isTy (t : String) : D → Option Bool := fun d => kitB (tyD d) t
theorem paired_len {α β : Type} {r : α → β → Prop} : ∀ {xs : List α} {ys : List β}, Paired r xs ys → xs.length = ys.length
  | _, _, .nil => rfl
  | _, _, .cons _ t => by rw [List.length_cons, List.length_cons, paired_len t]
theorem paired_at {α β : Type} {r : α → β → Prop} : ∀ {xs : List α} {ys : List β} {i : Nat} {x : α}, Paired r xs ys → xs[i]? = some x → ∃ y, ys[i]? = some y ∧ r x y
  | _, _, _, _, .nil, e => by simp at e
  | _, _, 0, _, .cons h _, e => by simp at e; subst e; exact ⟨_, rfl, h⟩
  | _, _, i + 1, _, .cons _ t, e => by
    obtain ⟨y, e1, h1⟩ := paired_at (i := i) t (by simpa using e)
    exact ⟨y, by simpa using e1, h1⟩
theorem paired_perm {α β : Type} {r : α → β → Prop} {xs : List α} {ys : List β} (h : Paired r xs ys) : ∀ π : List Nat, Paired r (permR π xs) (permR π ys)
  | [] => .nil
  | i :: π => by
    have ih := paired_perm h π
    show Paired r ((i :: π).filterMap fun i => xs[i]?) ((i :: π).filterMap fun i => ys[i]?)
    cases e : xs[i]? with
    | none =>
      have e2 : ys[i]? = none := by
        rw [List.getElem?_eq_none_iff] at e ⊢
        rw [← paired_len h]; exact e
      rw [List.filterMap_cons_none e, List.filterMap_cons_none e2]
      exact ih
    | some x =>
      obtain ⟨y, e2, hr⟩ := paired_at h e
      rw [List.filterMap_cons_some e, List.filterMap_cons_some e2]
      exact .cons hr ih
/-- how a call by names binds: π puts the written values in the parameters' order -/
def KwB (fd : FuncData) (ps ks : List Str) (π : List Nat) : Prop := ∀ (s : Shared) (ws : List Value), ws.length = ks.length → BindsTo s fd ⟨[], ks.zip ws⟩ (ps.zip (permR π ws))
theorem kwB_of {K : PySem.W.Frag} {x qual : Str} {st : Stmt} {f : Addr} {fd : FuncData} {ps ks : List Str} {π : List Nat} (F : Fun K x qual st f fd)
    (h : ∀ (kV doc pm : Value) (an : Option Addr) (cdv ct : Value) (ws : List Value), ws.length = ks.length → bindArgs (PySem.W.fnOf x qual (defArgs st) (defBody st) (defScope st) .none kV doc pm an cdv ct) ⟨[], ks.zip ws⟩ = pure (ps.zip (permR π ws))) : KwB fd ps ks π := by
  obtain ⟨oc, od, kV, doc, pm, an, cdv, ct, osl, rfl, lk, hcd⟩ := F.ex
  exact fun s ws hl => .of_eq (h kV doc pm an cdv ct ws hl)
theorem de_kw {n nk k : Nat} {π : List Nat} {f : Fsp} {ms : M (List DR)} {x : Str} {p : Pos} {fa : Addr} {fd : FuncData} {ps ks : List Str} {kws : List Keyword} (F : FnOkG X.prog X.w X.K X.mg X.base (L2.CX X.prog X.w) k fa fd ps (spD P.K false n f)) (hr : Room k X.A) (hG : X.A.guards = some []) (hg : Gl X x) (hm : X.mg x = some (.ref fa)) (hk : PySem.W.keepIn X.K (.ref fa) = true)
    (hb : KwB fd ps ks π) (tk : Takes X P.W) (hkw : PK X kws (tA P ms)) (hl : ALen ms nk) (hkl : ks.length = nk) (hπ : ∀ (vs : List V), vs.length = nk → (permR π vs).length = n) (hall : (backToKw pos (keywordEach kws X.env)).all (·.1.isSome) = true) (hks : (backToKw pos (keywordEach kws X.env)).filterMap (·.1) = ks)
    (hdb : (x == ("__debug__" : Str)) = false) (hpl : ((backTo pos (starEach [] X.env)).any (·.1) || (backToKw pos (keywordEach kws X.env)).any (·.1.isNone)) = false) :
    PE X (.Call (.Name x p) [] kws pos) (tE P (eCallK π f ms)) := by
  refine ⟨fun pins s σ H Q I h => ?_⟩
  have h2 : (fun σ H Q => (tA P ms) σ H fun zs H2 => zs.length = nk ∧ spD P.K false n f (permR π zs) H2 Q (WE P.W σ)) σ H Q := by
    have h3 := tE_callK (P := P) hl hπ σ H Q h
    obtain ⟨c, F0, τ, ρ, R, q⟩ := h3
    refine ⟨c, F0, τ, ρ, R, ?_⟩
    match z : ms ρ with
    | none => rw [z] at q; exact q
    | some (.error x, ρ1) => rw [z] at q; exact q
    | some (.ok rs, ρ1) =>
      rw [z] at q
      exact fun F1 H1 s1 R1 vs hvs => ⟨by rw [paired_len hvs, hl _ _ _ z], q F1 H1 s1 R1 vs hvs⟩
  refine wpAny_Call_Name_kw (ld_glob I hg hm ?_ hdb)
  refine PySem.W.callWith_KW0 (h₀ := X.base) I.ok.mod.kin hk hall ?_ hpl
  refine thn (hkw.run pos pins s σ H _ I h2) fun ws s2 ⟨zs, H2, I2, rz, hz, q2⟩ => ⟨I2.kIn, ?_⟩
  rw [hks]
  have r2 := paired_perm rz π
  refine wpAny_call (codeAny_mono (F.run X.A X.stack s2 H2 ⟨[], ks.zip ws⟩ (permR π ws) (permR π zs) Q _ hr hG I2.env0 (hb s2 ws (by rw [← paired_len rz, hz, hkl])) r2 q2) fun r s' hq => ?_)
  cases r with
  | error e => exact passAt tk σ pins H2 s2 e s' I2 hq
  | ok fl =>
    cases fl with
    | ret u => exact I2.after hq
    | next => exact False.elim hq
    | brk => exact False.elim hq
    | cont => exact False.elim hq
/-- == of texts of any signs, of other data -/
def eqX : D → D → Option D
  | .str x, .str y => some (.bool (x == y))
  | d, e => eqD d e
def neX : D → D → Option D
  | .str x, .str y => some (.bool (!(x == y)))
  | d, e => neD d e
theorem opd_eqX (hK : P.K.K = X.K) : OpD X P (fun x y H Q => rEq x y H Q ∨ rEqD X.K x y H Q) eqX := by
  intro c F H L ρ x y d e z Q R n1 n2 hz q
  unfold eqX at hz
  split at hz
  · rename_i a b
    cases wid hz
    rw [n1.str, n2.str]
    refine .inl ⟨rfl, ?_⟩
    rw [dec_str]
    exact q F H _ (Same.refl F) R (.bl _)
  · exact .inr (opd_eq hK c F H L ρ x y d e z Q R n1 n2 hz q)
theorem opd_neX (hK : P.K.K = X.K) : OpD X P (fun x y H Q => rNe x y H Q ∨ rNeD X.K x y H Q) neX := by
  intro c F H L ρ x y d e z Q R n1 n2 hz q
  unfold neX at hz
  split at hz
  · rename_i a b
    cases wid hz
    rw [n1.str, n2.str]
    refine .inl ⟨rfl, ?_⟩
    rw [dec_str]
    exact q F H _ (Same.refl F) R (.bl _)
  · exact .inr (opd_ne hK c F H L ρ x y d e z Q R n1 n2 hz q)
end
end DL

set_option Elab.async false
set_option linter.all false
set_option maxRecDepth 100000
set_option maxHeartbeats 4000000
/-! DX7: slices; in, not in; loops over zip, enumerate. -/
namespace DL
open PySem PySem.Spec PyProof.Rows L2 RZ

section
variable {X : Cx} {P : Ps} {a b e : Expr} {pos p2 : Pos}
/-! ### parts of slices -/
def intOf : D → Option Int
  | .int i => some i
  | _ => none
def mPart : Option (M DR) → M (Option Int)
  | none => M.ok none
  | some m => M.bind m fun r => M.bind (rd r) fun d => M.bind (M.opt (intOf d)) fun i => M.ok (some i)
def tO (P : Ps) (m : M (Option Int)) : TO := fun σ H Q => ∃ c F τ ρ, Rl P.K c F ρ (σ ++ τ) H ∧ Ho P c F σ τ (m ρ) fun o _ _ H' => Q o H'
theorem _root_.L2.PO.of {X : Cx} {e : Option Expr} {t t' : TO} (h : PO X e t) (w : ∀ σ H Q, t' σ H Q → t σ H Q) : PO X e t' :=
  ⟨fun pins s σ H Q I q => h.run pins s σ H Q I (w σ H Q q)⟩
theorem dp_none : PO X none (tO P (mPart none)) := po_none.of fun σ H Q ⟨_, _, _, _, R, q⟩ => Ho.now q R
theorem dp_some {m : M DR} (h : PE X e (tE P m)) : PO X (some e) (tO P (mPart (some m))) := (po_some h).of fun σ H Q ⟨c, F, τ, ρ, R, q⟩ =>
  ⟨c, F, τ, ρ, R, (Ho.bind q).mono fun r ρ1 F1 H1 s1 R1 q1 v hv => by
    obtain ⟨d, q2, n⟩ := Ho.now1 q1 R1 hv
    obtain ⟨i, ei, q3⟩ := Ho.opt (H := H1) q2
    cases d with
    | int j =>
      obtain rfl := Option.some.inj ei
      exact ⟨j, n.int, Ho.now q3 R1⟩
    | _ => cases ei⟩
/-! ### a[lo:hi] -/
def cutD (ds : List D) (lo hi : Option Int) : List D := (ds.drop (HT.sIx ds.length 0 lo)).take (HT.sIx ds.length ds.length hi - HT.sIx ds.length 0 lo)
def slF (d : D) (lo hi : Option Int) : Option D := match d with
  | .list ds => some (.list (cutD ds lo hi))
  | .tuple ds => some (.tuple (cutD ds lo hi))
  | _ => none
theorem cut_rp {K : Frag} {F : Hp} {xs : List V} {ds : List D} (lo hi : Option Int) (r : RpAll K F xs ds) : RpAll K F (cutV xs lo hi) (cutD ds lo hi) := by
  unfold cutV cutD
  rw [r.length]
  exact (r.drop _).take _
theorem cutD_whole {ds : List D} {lo hi : Option Int} (h : HT.sIx ds.length 0 lo = 0 ∧ HT.sIx ds.length ds.length hi = ds.length) : cutD ds lo hi = ds := by
  unfold cutD
  rw [h.1, h.2, List.drop_zero, Nat.sub_zero, List.take_length]
def eSl (m : M DR) (ml mh : M (Option Int)) : M DR := M.bind m fun x => M.bind ml fun lo => M.bind mh fun hi => M.bind (rd x) fun d => M.bind (M.opt (slF d lo hi)) fun z => M.ok (.dat z)
theorem tE_sl {m : M DR} {ml mh : M (Option Int)} (hK : P.K.K = X.K) (σ : L2.St) (H : Hp) (Q : VK) (q : tE P (eSl m ml mh) σ H Q) :
    tSl (fun x lo hi H Q => rSlL X.K x lo hi H Q ∨ rSlA X.K x lo hi H Q) (tE P m) (tO P ml) (tO P mh) σ H Q := by
  obtain ⟨c, F, τ, ρ, R, q⟩ := q
  refine ⟨c, F, τ, ρ, R, (Ho.bind q).mono fun x ρ1 F1 H1 s1 R1 q1 v hv => ?_⟩
  refine ⟨c, F1, τ, ρ1, R1, (Ho.bind q1).mono fun lo ρ2 F2 H2 s2 R2 q2 => ?_⟩
  refine ⟨c, F2, τ, ρ2, R2, (Ho.bind q2).mono fun hi ρ3 F3 H3 s3 R3 q3 => ?_⟩
  obtain ⟨d, q4, n⟩ := Ho.now1 q3 R3 ((hv.mono s2).mono s3)
  obtain ⟨z, ez, q5⟩ := Ho.opt (H := H3) q4
  cases d with
  | list ds =>
    obtain rfl := Option.some.inj ez
    obtain ⟨a1, ws, rfl, h1, r1⟩ := n.list R3.sub
    refine .inl ⟨a1, ws, rfl, hK ▸ h1, fun p hp => ?_⟩
    have up : Same F3 (upd F3 p (.lst (cutV ws lo hi))) := Same.upd (fresh_of R3 hp)
    exact q5 _ _ up (R3.new hp) _ (.lst (.inl (.inl upd_same)) ((cut_rp lo hi r1).mono up))
  | tuple ds =>
    obtain rfl := Option.some.inj ez
    obtain ⟨a1, ws, rfl, h1, h2, r1⟩ := n.tuple R3.sub
    refine .inr ⟨a1, ws, rfl, hK ▸ h1, fun w => ?_, fun _ p hp => ?_⟩
    · rw [r1.length] at w
      exact q5 _ _ (Same.refl _) R3 _ (by rw [cutD_whole w]; exact .tup h2 r1)
    · have up : Same F3 (upd F3 p (.tup (cutV ws lo hi))) := Same.upd (fresh_of R3 hp)
      exact q5 _ _ up (R3.new hp) _ (.tup (.inl (.inl upd_same)) ((cut_rp lo hi r1).mono up))
  | _ => cases ez
theorem de_sl {lo hi : Option Expr} {m : M DR} {ml mh : M (Option Int)} (hK : P.K.K = X.K) (ha : PE X a (tE P m)) (hl : PO X lo (tO P ml)) (hh : PO X hi (tO P mh)) :
    PE X (.Subscript a (.Slice lo hi none p2) pos) (tE P (eSl m ml mh)) := (pe_slice (sl_list.or sl_tupA) ha hl hh).of (tE_sl hK)
/-! ### in, not in, of a list -/
def inD (d e : D) : Option D := match e with
  | .list ds => if SeqAt.shaped d && SeqAt.shaped (.list ds) then some (.bool (ds.any fun z => PyData.eqv z d)) else none
  | _ => none
def ninD (d e : D) : Option D := match e with
  | .list ds => if SeqAt.shaped d && SeqAt.shaped (.list ds) then some (.bool (!ds.any fun z => PyData.eqv z d)) else none
  | _ => none
theorem opd_in (hK : P.K.K = X.K) : OpD X P (rInD X.K) inD := by
  intro c F H L ρ x y d e z Q R n1 n2 hz q
  cases e with
  | list ds =>
    unfold inD at hz
    dsimp only at hz
    split at hz
    · rename_i h
      cases wid hz
      obtain ⟨h1, h2⟩ := Bool.and_eq_true_iff.mp h
      exact ⟨d, ds, hK ▸ n1.dp R.sub h1, hK ▸ n2.dp R.sub h2, h1, h2, q F H _ (Same.refl F) R (.bl _)⟩
    · cases hz
  | _ => cases hz
theorem opd_nin (hK : P.K.K = X.K) : OpD X P (rNotInD X.K) ninD := by
  intro c F H L ρ x y d e z Q R n1 n2 hz q
  cases e with
  | list ds =>
    unfold ninD at hz
    dsimp only at hz
    split at hz
    · rename_i h
      cases wid hz
      obtain ⟨h1, h2⟩ := Bool.and_eq_true_iff.mp h
      exact ⟨d, ds, hK ▸ n1.dp R.sub h1, hK ▸ n2.dp R.sub h2, h1, h2, q F H _ (Same.refl F) R (.bl _)⟩
    · cases hz
  | _ => cases hz
theorem room_u65 {k : Nat} {A : Around} (r : Room k A) : A.units + 65 < cLine := by have := r.un; omega
end
/-! ### zip, enumerate -/
def zipD : List D → List D → List D
  | d :: ds, e :: es => .tuple [d, e] :: zipD ds es
  | _, _ => []
theorem zipD_length : ∀ (ds es : List D), (zipD ds es).length = min ds.length es.length
  | [], _ => by simp [zipD]
  | _ :: _, [] => by simp [zipD]
  | _ :: ds, _ :: es => by rw [zipD, List.length_cons, zipD_length ds es, List.length_cons, List.length_cons]; omega
theorem zipD_get : ∀ {ds es : List D} {i : Nat} {d e : D}, ds[i]? = some d → es[i]? = some e → (zipD ds es)[i]? = some (.tuple [d, e])
  | _ :: _, _ :: _, 0, _, _, h1, h2 => by cases h1; cases h2; rfl
  | _ :: ds, _ :: es, i + 1, d, e, h1, h2 => zipD_get (ds := ds) (es := es) (i := i) (d := d) (e := e) h1 h2
  | [], _, _, _, _, h1, _ => nomatch h1
  | _ :: _, [], _, _, _, _, h2 => nomatch h2
def enumD : Nat → List D → List D
  | _, [] => []
  | k, d :: ds => .tuple [.int (k : Nat), d] :: enumD (k + 1) ds
theorem enumD_length : ∀ (k : Nat) (ds : List D), (enumD k ds).length = ds.length
  | _, [] => rfl
  | k, _ :: ds => by rw [enumD, List.length_cons, enumD_length (k + 1) ds, List.length_cons]
theorem enumD_get : ∀ {k : Nat} {ds : List D} {i : Nat} {d : D}, ds[i]? = some d → (enumD k ds)[i]? = some (.tuple [.int ((k + i : Nat) : Int), d])
  | _, _ :: _, 0, _, h => by cases h; rfl
  | k, _ :: ds, i + 1, _, h => by
    have q := enumD_get (k := k + 1) (show ds[i]? = _ from h)
    rw [show k + 1 + i = k + (i + 1) by omega] at q
    exact q
  | _, [], _, _, h => nomatch h
theorem walkD_zip {K : Frag} {F : Hp} {a b : Addr} {xs ys : List V} {ds es : List D} (h1 : SqL K.K F a xs) (h2 : SqL K.K F b ys) (r1 : RpAll K F xs ds) (r2 : RpAll K F ys es) : WalkD K F (Itz K.K a b) (zipD ds es) where
  go i H1 s hi := by
    rw [zipD_length] at hi
    obtain ⟨x, ex, _⟩ := r1.get (List.getElem?_eq_getElem (show i < ds.length by omega))
    obtain ⟨y, ey, _⟩ := r2.get (List.getElem?_eq_getElem (show i < es.length by omega))
    exact ⟨xs, ys, x, y, sql_mono s h1, sql_mono s h2, ex, ey⟩
  stop i H1 s hi := by
    rw [zipD_length] at hi
    exact ⟨xs, ys, sql_mono s h1, sql_mono s h2, by rw [r1.length, r2.length]; omega⟩
  yld i H1 x H2 s hi y := by
    obtain ⟨T, u, v, rfl, fresh, rfl, q1, q2⟩ := y
    obtain ⟨d, ed, rd⟩ := r1.get' (q1 xs (sql_mono s h1))
    obtain ⟨e, ee, re⟩ := r2.get' (q2 ys (sql_mono s h2))
    exact ⟨_, zipD_get ed ee, .inr ⟨T, _, _, rfl, fresh, rfl, rfl, .cons rd (.cons re .nil)⟩⟩
theorem walkD_zipT {K : Frag} {F : Hp} {a b : Addr} {xs ys : List V} {ds es : List D} (h1 : SqT K.K F a xs) (h2 : SqT K.K F b ys) (r1 : RpAll K F xs ds) (r2 : RpAll K F ys es) : WalkD K F (ItzT K.K a b) (zipD ds es) where
  go i H1 s hi := by
    rw [zipD_length] at hi
    obtain ⟨x, ex, _⟩ := r1.get (List.getElem?_eq_getElem (show i < ds.length by omega))
    obtain ⟨y, ey, _⟩ := r2.get (List.getElem?_eq_getElem (show i < es.length by omega))
    exact ⟨xs, ys, x, y, sqt_mono s h1, sqt_mono s h2, ex, ey⟩
  stop i H1 s hi := by
    rw [zipD_length] at hi
    exact ⟨xs, ys, sqt_mono s h1, sqt_mono s h2, by rw [r1.length, r2.length]; omega⟩
  yld i H1 x H2 s hi y := by
    obtain ⟨T, u, v, rfl, fresh, rfl, q1, q2⟩ := y
    obtain ⟨d, ed, rd⟩ := r1.get' (q1 xs (sqt_mono s h1))
    obtain ⟨e, ee, re⟩ := r2.get' (q2 ys (sqt_mono s h2))
    exact ⟨_, zipD_get ed ee, .inr ⟨T, _, _, rfl, fresh, rfl, rfl, .cons rd (.cons re .nil)⟩⟩
theorem walkD_enum {K : Frag} {F : Hp} {a : Addr} {xs : List V} {ds : List D} (h : SqL K.K F a xs) (r : RpAll K F xs ds) : WalkD K F (Ite K.K a) (enumD 0 ds) where
  go i H1 s hi := by
    rw [enumD_length] at hi
    obtain ⟨x, ex, _⟩ := r.get (List.getElem?_eq_getElem hi)
    exact ⟨xs, x, sql_mono s h, ex⟩
  stop i H1 s hi := by
    rw [enumD_length] at hi
    exact ⟨xs, sql_mono s h, by rw [r.length]; exact hi⟩
  yld i H1 x H2 s hi y := by
    obtain ⟨T, u, rfl, fresh, rfl, q⟩ := y
    obtain ⟨d, ed, rd⟩ := r.get' (q xs (sql_mono s h))
    have z := enumD_get (k := 0) ed
    rw [Nat.zero_add] at z
    exact ⟨_, z, .inr ⟨T, _, _, rfl, fresh, rfl, rfl, .cons (.int _) (.cons rd .nil)⟩⟩
def zipF : List D → Option (List D)
  | [.list ds, .list es] => some (zipD ds es)
  | [.tuple ds, .tuple es] => some (zipD ds es)
  | _ => none
def enumF : List D → Option (List D)
  | [.list ds] => some (enumD 0 ds)
  | _ => none
def iZip (ms : M (List DR)) : M (List D) := M.bind ms fun rs => M.bind (frzAll rs) fun ds => M.opt (zipF ds)
def iEnm (ms : M (List DR)) : M (List D) := M.bind ms fun rs => M.bind (frzAll rs) fun ds => M.opt (enumF ds)
section
variable {X : Cx} {P : Ps} {e e2 : Expr} {p pos tpos : Pos} {elts : List Expr} {kk : Nat} {ms : M (List DR)}
theorem Ho.optEnd {α : Type} {c : Ct} {F H : Hp} {σ : L2.St} {τ : List (Option V)} {o : Option α} {ρ : List DV} {Φ : α → List DV → Hp → Hp → Prop} (h : Ho P c F σ τ (M.opt o ρ) Φ) (R : Rl P.K c F ρ (σ ++ τ) H) : ∃ z, o = some z ∧ Φ z ρ F H := by
  cases o with
  | none => exact (show False from h).elim
  | some z => exact ⟨z, rfl, h F H (Same.refl F) R⟩
theorem di_zip (hK : P.K.K = X.K) (hg : Gl X "zip") (hm : X.mg "zip" = none) (ha : PA X [e, e2] (tA P ms)) (hs : starEach [e, e2] X.env = (false, eval e X.env) :: starEach [e2] X.env) (hpl : (backTo pos (starEach [e2] X.env)).any (·.1) = false) :
    PI X (.Tuple elts kk tpos) (.Call (.Name "zip" p) [e, e2] [] pos) (tI P (iZip ms)) := (pi_zipA hg hm ha hs hpl).of fun σ H R ⟨c, F, τ, ρ, Rr, q⟩ => by
  refine ⟨c, F, τ, ρ, Rr, (Ho.bind q).mono fun rs ρ1 F1 H1 s1 R1 q1 vs hvs => ?_⟩
  obtain ⟨ds, F2, ρ2, s2, R2, r2, q2⟩ := Ho.frzAll q1 R1 hvs
  obtain ⟨z, ez, q3⟩ := Ho.optEnd q2 R2
  unfold zipF at ez
  split at ez
  · obtain rfl := Option.some.inj ez
    match r2 with
    | .cons (.lst h1 a1) (.cons (.lst h2 a2) .nil) =>
      exact ⟨_, _, _, _, rfl, .inl ⟨hK ▸ sql_mono R2.sub h1, hK ▸ sql_mono R2.sub h2, q3 _ (hK ▸ walkD_zip h1 h2 a1 a2)⟩⟩
  · obtain rfl := Option.some.inj ez
    match r2 with
    | .cons (.tup h1 a1) (.cons (.tup h2 a2) .nil) =>
      exact ⟨_, _, _, _, rfl, .inr ⟨hK ▸ sqt_mono R2.sub h1, hK ▸ sqt_mono R2.sub h2, q3 _ (hK ▸ walkD_zipT h1 h2 a1 a2)⟩⟩
  · cases ez
theorem di_enum (hK : P.K.K = X.K) (hg : Gl X "enumerate") (hm : X.mg "enumerate" = none) (ha : PA X [e] (tA P ms)) (hs : starEach [e] X.env = [(false, eval e X.env)]) :
    PI X (.Tuple elts kk tpos) (.Call (.Name "enumerate" p) [e] [] pos) (tI P (iEnm ms)) := (pi_enum hg hm ha hs).of fun σ H R ⟨c, F, τ, ρ, Rr, q⟩ => by
  refine ⟨c, F, τ, ρ, Rr, (Ho.bind q).mono fun rs ρ1 F1 H1 s1 R1 q1 vs hvs => ?_⟩
  obtain ⟨ds, F2, ρ2, s2, R2, r2, q2⟩ := Ho.frzAll q1 R1 hvs
  obtain ⟨z, ez, q3⟩ := Ho.optEnd q2 R2
  unfold enumF at ez
  split at ez
  · obtain rfl := Option.some.inj ez
    match r2 with
    | .cons (.lst h1 a1) .nil =>
      exact ⟨_, _, rfl, hK ▸ sql_mono R2.sub h1, q3 _ (hK ▸ walkD_enum h1 a1)⟩
  · cases ez
end
end DL

set_option Elab.async false
set_option linter.all false
set_option maxRecDepth 100000
set_option maxHeartbeats 4000000
/-! DX8: append, pop of lists that a def owns. -/
namespace DL
open PySem PySem.Spec PyProof.Rows L2

/-- the position holds a list that may be changed -/
def ownAt (p : Nat) : M (List D) := fun ρ => match (ρ[p]?).bind DV.own with
  | some ds => some (.ok ds, ρ)
  | none => none
def eAp (mo me : M DR) : M DR := M.bind mo fun ro => match ro with
  | .loc p => M.bind (ownAt p) fun _ => M.bind me fun r => M.bind (frz r) fun d => M.bind (wrAt p fun ds => if ds.length < 16777216 then some (ds ++ [d]) else none) fun _ => M.ok (.dat .none)
  | _ => M.no
def ePop (mo : M DR) : M DR := M.bind mo fun ro => match ro with
  | .loc p => M.bind (ownAt p) fun ds => M.bind (M.opt ds[ds.length - 1]?) fun d => M.bind (wrAt p fun ds => some ds.dropLast) fun _ => M.ok (.dat d)
  | _ => M.no
section
variable {X : Cx} {P : Ps} {o e : Expr} {apos cpos : Pos} {c : Ct} {F H : Hp} {σ : L2.St} {τ : List (Option V)}
theorem Ho.wrAt {β : Type} {p : Nat} {f : List D → Option (List D)} {k : Unit → M β} {ρ : List DV} {Φ : β → List DV → Hp → Hp → Prop} (h : Ho P c F σ τ (M.bind (DL.wrAt p f) k ρ) Φ) :
    ∃ x ds es, ρ[p]? = some x ∧ x.own = some ds ∧ f ds = some es ∧ Ho P c F σ τ (k () (ρ.set p (x.put es))) Φ := by
  unfold M.bind at h
  cases z : DL.wrAt p f ρ with
  | none => rw [z] at h; exact (show False from h).elim
  | some r =>
    obtain ⟨x, ds, es, h1, h2, h3, rfl⟩ := wrAt_some z
    rw [z] at h
    exact ⟨x, ds, es, h1, h2, h3, h⟩
theorem Ho.ownAt {β : Type} {p : Nat} {k : List D → M β} {ρ : List DV} {Φ : β → List DV → Hp → Hp → Prop} (h : Ho P c F σ τ (M.bind (DL.ownAt p) k ρ) Φ) :
    ∃ x ds, ρ[p]? = some x ∧ x.own = some ds ∧ Ho P c F σ τ (k ds ρ) Φ := by
  unfold M.bind DL.ownAt at h
  cases z : ρ[p]? with
  | none => rw [z] at h; exact (show False from h).elim
  | some x =>
    cases y : x.own with
    | none => rw [z] at h; dsimp only [Option.bind] at h; rw [y] at h; exact (show False from h).elim
    | some ds => rw [z] at h; dsimp only [Option.bind] at h; rw [y] at h; exact ⟨x, ds, rfl, y, h⟩
theorem de_app {mo me : M DR} (hK : P.K.K = X.K) (ho : PE X o (tE P mo)) (he : PE X e (tE P me)) (hbase : attributeBase o "append" X.env (eval o X.env) = eval o X.env)
    (hfew : ((backTo cpos (starEach [e] X.env)).all (fun x => !x.1) && (backToKw cpos (keywordEach [] X.env)).all (fun x => x.1.isSome) && decide ([e].length + ([] : List Keyword).length + (if ([] : List Keyword).isEmpty then 0 else 1) < 30)) = true)
    (hline : (apos.endLine == cpos.line) = true) (hs : starEach [e] X.env = (false, eval e X.env) :: starEach [] X.env) (hpl : (backTo cpos (starEach [] X.env)).any (·.1) = false) :
    PE X (.Call (.Attribute o "append" apos) [e] [] cpos) (tE P (eAp mo me)) :=
  (pe_bm PySem.F.plainAttrs_list PySem.F.slot_list_append PySem.F.type_list_append mt_append ho (pa_cons he pa_nil hs) hbase hfew hline hs hpl).of fun σ H Q ⟨c, F, τ, ρ, R, q⟩ => by
    refine ⟨c, F, τ, ρ, R, (Ho.bind q).mono fun ro ρ1 F1 H1 s1 R1 q1 v hv => ?_⟩
    cases ro with
    | dat d => exact (show False from q1).elim
    | exc c d => exact (show False from q1).elim
    | loc p =>
      obtain ⟨x, ds, ex, ox, q2⟩ := Ho.ownAt q1
      obtain ⟨a, xs, e1, _, e3, _⟩ := (R1.slot p x _ ex hv).own ox
      cases e1
      refine ⟨.inl ⟨rfl, xs, hK ▸ .inl (.inl e3)⟩, c, F1, τ, ρ1, R1, (Ho.bind q2).mono fun r ρ2 F2 H2 s2 R2 q3 w hw => ?_⟩
      obtain ⟨d, F3, ρ3, s3, R3, r3, q4⟩ := Ho.frz q3 R2 hw
      obtain ⟨x', es, es', ex', ox', fx, q5⟩ := Ho.wrAt q4
      obtain ⟨a', ys, z1, _, z3, z4⟩ := (R3.slot p x' _ ex' hv).own ox'
      cases z1
      by_cases hl : es.length < 16777216
      · rw [if_pos hl] at fx
        obtain rfl := Option.some.inj fx
        refine ⟨a, ys, w, rfl, rfl, z3, by rw [z4.length, sizeLine_eq]; exact hl, ?_⟩
        exact Ho.now q5 (R3.write ex' ox' hv (z4.append (.one r3))) _ .non
      · rw [if_neg hl] at fx
        cases fx
theorem de_pop {mo : M DR} (hK : P.K.K = X.K) (ho : PE X o (tE P mo)) (hbase : attributeBase o "pop" X.env (eval o X.env) = eval o X.env) (hline : (apos.endLine == cpos.line) = true) :
    PE X (.Call (.Attribute o "pop" apos) [] [] cpos) (tE P (ePop mo)) :=
  (pe_bm0 PySem.F.plainAttrs_list PySem.F.slot_list_pop PySem.F.type_list_pop mt_pop ho hbase hline).of fun σ H Q ⟨c, F, τ, ρ, R, q⟩ => by
    refine ⟨c, F, τ, ρ, R, (Ho.bind q).mono fun ro ρ1 F1 H1 s1 R1 q1 v hv => ?_⟩
    cases ro with
    | dat d => exact (show False from q1).elim
    | exc c d => exact (show False from q1).elim
    | loc p =>
      obtain ⟨x, ds, ex, ox, q2⟩ := Ho.ownAt q1
      obtain ⟨a, xs, e1, _, e3, e4⟩ := (R1.slot p x _ ex hv).own ox
      cases e1
      obtain ⟨d, ed, q3⟩ := Ho.opt (H := H1) q2
      obtain ⟨x', es, es', ex', ox', fx, q5⟩ := Ho.wrAt q3
      cases ex.symm.trans ex'
      cases ox.symm.trans ox'
      obtain rfl := Option.some.inj fx
      obtain ⟨w, ew, rw'⟩ := e4.get ed
      refine ⟨.inl ⟨rfl, xs, hK ▸ .inl (.inl e3)⟩, a, xs, w, rfl, rfl, e3, by rw [e4.length]; exact ew, ?_⟩
      have cut : RpAll P.K F1 xs.dropLast ds.dropLast := by
        rw [List.dropLast_eq_take, List.dropLast_eq_take, e4.length]
        exact e4.take _
      exact Ho.now q5 (R1.write ex ox hv cut) _ rw'
end
end DL

set_option Elab.async false
set_option linter.all false
set_option maxRecDepth 100000
set_option maxHeartbeats 4000000
/-! DX9: x op= e of data; a, b = [..], e with a list of its own. -/
namespace DL
open PySem PySem.Spec PyProof.Rows L2

def sAug (i : Nat) (f : D → D → Option D) (me : M DR) : M Fl := fun ρ => match ρ[i]? with
  | some (.dat d0) => M.bind me (fun r => M.bind (rd r) fun d => M.bind (M.opt (f d0 d)) fun z => M.bind (setD i z) fun _ => M.ok .nx) ρ
  | _ => none
section
variable {X : Cx} {P : Ps} {e : Expr} {pos pos' : Pos}
theorem ds_aug {i : Nat} {x : Str} {op : Operator} {r : R2} {f : D → D → Option D} {me : M DR} (hop : OpR X (inplaceOp op) r) (hd : OpD X P r f) (hN : X.N.Nodup) (hi : X.N[i]? = some x) (hx : Loc X.env.scope x) (he : PE X e (tE P me))
    (hf : X.fn x = true ∨ X.env.scope.names.lookup x = some .local) : PS X (.AugAssign (.Name x pos') op e pos) (tS P (sAug i f me)) := (ps_aug hN hi hx he (show PIp X op r from hop) hf).of fun De σ H ⟨c, F, ρ, R, q⟩ => by
  unfold sAug at q
  cases z : ρ[i]? with
  | none => rw [z] at q; exact (show False from q).elim
  | some y =>
    rw [z] at q
    cases y with
    | dat d0 =>
      have hl : i < σ.length := by rw [← R.len]; exact (List.getElem?_eq_some_iff.mp z).1
      obtain ⟨x0, e0, r0⟩ := R.slot i _ _ z (List.getElem?_eq_getElem hl)
      refine ⟨x0, (List.getElem?_eq_getElem hl).trans (congrArg some e0), c, F, [], ρ, nilτ R, (HoS.bind σ q).mono fun w ρ1 F1 H1 s1 R1 q1 v hv => ?_⟩
      have q1' : Ho P c F1 σ [] (M.bind (rd w) (fun d => M.ok d) ρ1) fun d ρ2 F2 _ => HoS P c F2 (M.bind (M.opt (f d0 d)) (fun z => M.bind (setD i z) fun _ => M.ok .nx) ρ2) De := by
        have e1 : M.bind (rd w) (fun d => M.ok d) ρ1 = rd w ρ1 := by
          unfold M.bind
          cases rd w ρ1 with
          | none => rfl
          | some o => obtain ⟨o, r⟩ := o; cases o <;> rfl
        rw [e1]
        exact HoS.bind σ q1
      obtain ⟨d, q2, n⟩ := Ho.now1 q1' R1 hv
      have q3 := Ho.now q2 R1
      cases ez : f d0 d with
      | none => rw [ez] at q3; exact (show False from q3).elim
      | some zz =>
        rw [ez] at q3
        refine hd c F1 H1 (σ ++ []) ρ1 x0 v d0 d zz _ R1 (.dat (r0.mono s1)) n ez fun F2 H2 u s2 R2 ru => ?_
        obtain ⟨ρ3, R3, q4⟩ := HoS.setD (HoS.from q3 s2) (nilτ' R2) ru
        exact q4 _ F2 H2 (Same.refl _) R3
    | _ => exact (show False from q).elim
end
/-! ### the operators in place -/
def imulC (i j : Int) : Bool := decide (i.natAbs < 2 ^ 64) || decide (j.natAbs < 2 ^ 64)
def imulD : D → D → Option D := intOp imulC fun i j => .int (i * j)
def iaddD : D → D → Option D := intOp (fun _ _ => true) fun i j => .int (i + j)
theorem opd_imul {X : Cx} {P : Ps} : OpD X P (rI CMul fun i j => .int (i * j)) imulD := opd_int (fun i j h => by
  unfold imulC at h
  rw [Bool.or_eq_true] at h
  rcases h with h | h
  · exact .inl ⟨by have := of_decide_eq_true h; omega, by have := of_decide_eq_true h; omega⟩
  · exact .inr ⟨by have := of_decide_eq_true h; omega, by have := of_decide_eq_true h; omega⟩) fun _ _ _ => .int _
theorem opd_iadd {X : Cx} {P : Ps} : OpD X P (rI0 fun i j => .int (i + j)) iaddD := opd_int0 fun _ _ _ => .int _
/-! ### a, b = [..], e -/
/-- a step that must not raise -/
def calmly {α : Type} (m : M α) : M α := fun ρ => match m ρ with
  | some (.ok a, ρ') => some (.ok a, ρ')
  | _ => none
def sPN (i j : Nat) (mn : M Unit) (me : M DR) : M Fl := M.bind mn fun _ => M.bind (calmly me) fun r => M.bind (frz r) fun d => M.bind (setD j d) fun _ => M.bind (popTo i) fun _ => M.ok .nx
section
variable {X : Cx} {P : Ps} {a b : Expr} {pos : Pos}
theorem HoS.calm {α : Type} {c : Ct} {F : Hp} {m : M α} {k : α → M Fl} {ρ : List DV} {De : Ends} (σ : L2.St) (τ : List (Option V)) (h : HoS P c F (M.bind (calmly m) k ρ) De) : Ho P c F σ τ (m ρ) fun a ρ1 F1 _ => HoS P c F1 (k a ρ1) De := by
  unfold M.bind calmly at h
  match q : m ρ with
  | none => rw [q] at h; exact h
  | some (.ok a, ρ1) => rw [q] at h; exact fun F1 _ s _ => HoS.from h s
  | some (.error x, ρ1) => rw [q] at h; exact (show False from h).elim
theorem ds_parN {i j : Nat} {x y : Str} {px py pt : Pos} {kt k2 pt2} {mn : M Unit} {me : M DR} (hc : X.calm = true) (hN : X.N.Nodup) (hi : X.N[i]? = some x) (hj : X.N[j]? = some y) (hij : i ≠ j)
    (hx : X.env.scope.names.lookup x = some .local) (hy : X.env.scope.names.lookup y = some .local) (ha : PE X a (tN P mn)) (hb : PE X b (tE P me))
    (hs1 : starEach [a, b] X.env = (false, eval a X.env) :: starEach [b] X.env) (hs2 : starEach [b] X.env = (false, eval b X.env) :: starEach [] X.env)
    (hw : swappedStores [.Tuple [.Name x px, .Name y py] kt pt] (.Tuple [a, b] k2 pt2) X.env = pure (some [x, y]))
    (hs : swapsWithSole [.Tuple [.Name x px, .Name y py] kt pt] (.Tuple [a, b] k2 pt2) pos.line X.env = pure false) :
    PS X (.Assign [.Tuple [.Name x px, .Name y py] kt pt] (.Tuple [a, b] k2 pt2) pos) (tS P (sPN i j mn me)) :=
  (ps_par hc hN hi hj hij hx hy (pa_cons ha (pa_cons hb pa_nil hs2) hs1) hw hs).ofL fun De σ H len ⟨c, F, ρ, R, q⟩ => by
  have jl : j < σ.length := by rw [len]; exact (List.getElem?_eq_some_iff.mp hj).1
  refine ⟨c, F, [], ρ, nilτ R, ?_⟩
  unfold sPN at q
  match z : mn ρ with
  | none => unfold M.bind at q; rw [z] at q; exact q
  | some (.error e, ρ1) => unfold M.bind at q; rw [z] at q; exact q σ
  | some (.ok u, ρ1) =>
    have q1 : HoS P c F (M.bind (calmly me) (fun r => M.bind (frz r) fun d => M.bind (setD j d) fun _ => M.bind (popTo i) fun _ => M.ok .nx) ρ1) De := by
      rw [show M.bind mn _ ρ = _ from rfl] at q
      unfold M.bind at q
      rw [z] at q
      exact q
    intro F1 H1 v s1 R1
    rw [List.append_nil] at R1
    refine ⟨c, F1, [some v], ρ1, R1, (HoS.calm σ [some v] (HoS.from q1 s1)).mono fun r ρ2 F2 H2 s2 R2 q2 w hw' => ⟨v, w, rfl, ?_⟩⟩
    obtain ⟨d, F3, ρ3, s3, R3, r3, q3, _⟩ := HoS.frz q2 R2 hw'
    obtain ⟨ρ4, R4, q4⟩ := HoS.setD q3 R3 r3
    rw [List.set_append_left _ _ jl] at R4
    unfold M.bind at q4
    cases y2 : popTo i ρ4 with
    | none => rw [y2] at q4; exact (show False from q4).elim
    | some o =>
      obtain ⟨ρ5, rfl, R5⟩ := popTo_rl y2 R4
      rw [y2] at q4
      rw [List.set_comm _ _ (Ne.symm hij)] at R5
      exact q4 _ F3 H2 (Same.refl _) R5
end
end DL

set_option Elab.async false
set_option linter.all false
set_option maxRecDepth 100000
set_option maxHeartbeats 4000000
/-! DX10: extend of a list that a def owns by a list made anew. -/
namespace DL
open PySem PySem.Spec PyProof.Rows L2

/-- the last temporary goes to the end of the list at p -/
def extAt (p : Nat) : M DR := fun ρ => match ρ.getLast? with
  | some (.lst es) => match ρ.dropLast[p]? with
    | some x => match x.own with
      | some ds => if ds.length + es.length ≤ 16777216 then some (.ok (.dat .none), ρ.dropLast.set p (x.put (ds ++ es))) else none
      | none => none
    | none => none
  | _ => none
theorem extAt_some {p : Nat} {ρ : List DV} {o : Except Ex DR × List DV} (h : extAt p ρ = some o) :
    ∃ ys es x ds, ρ = ys ++ [.lst es] ∧ ys[p]? = some x ∧ x.own = some ds ∧ ds.length + es.length ≤ 16777216 ∧ o = (.ok (.dat .none), ys.set p (x.put (ds ++ es))) := by
  unfold extAt at h
  split at h
  · rename_i es hl
    obtain ⟨ys, rfl⟩ := List.getLast?_eq_some_iff.mp hl
    rw [List.dropLast_concat] at h
    split at h
    · rename_i x hx
      split at h
      · rename_i ds hd
        split at h
        · rename_i hz
          exact ⟨ys, es, x, ds, rfl, hx, hd, hz, (Option.some.inj h).symm⟩
        · cases h
      · cases h
    · cases h
  · cases h
def eExt (mo : M DR) (mn : M Unit) : M DR := M.bind mo fun ro => match ro with
  | .loc p => M.bind (ownAt p) fun _ => M.bind mn fun _ => extAt p
  | _ => M.no
section
variable {X : Cx} {P : Ps} {o e : Expr} {apos cpos : Pos}
theorem de_ext {mo : M DR} {mn : M Unit} (hK : P.K.K = X.K) (ho : PE X o (tE P mo)) (he : PE X e (tN P mn)) (hbase : attributeBase o "extend" X.env (eval o X.env) = eval o X.env)
    (hfew : ((backTo cpos (starEach [e] X.env)).all (fun x => !x.1) && (backToKw cpos (keywordEach [] X.env)).all (fun x => x.1.isSome) && decide ([e].length + ([] : List Keyword).length + (if ([] : List Keyword).isEmpty then 0 else 1) < 30)) = true)
    (hline : (apos.endLine == cpos.line) = true) (hs : starEach [e] X.env = (false, eval e X.env) :: starEach [] X.env) (hpl : (backTo cpos (starEach [] X.env)).any (·.1) = false) :
    PE X (.Call (.Attribute o "extend" apos) [e] [] cpos) (tE P (eExt mo mn)) :=
  (pe_bm PySem.F.plainAttrs_list PySem.F.slot_list_extend PySem.F.type_list_extend mt_extend ho (pa_cons he pa_nil hs) hbase hfew hline hs hpl).of fun σ H Q ⟨c, F, τ, ρ, R, q⟩ => by
    refine ⟨c, F, τ, ρ, R, (Ho.bind q).mono fun ro ρ1 F1 H1 s1 R1 q1 v hv => ?_⟩
    cases ro with
    | dat d => exact (show False from q1).elim
    | exc c d => exact (show False from q1).elim
    | loc p =>
      obtain ⟨x, ds, ex, ox, q2⟩ := Ho.ownAt q1
      obtain ⟨a, xs, e1, _, e3, _⟩ := (R1.slot p x _ ex hv).own ox
      cases e1
      refine ⟨.inl ⟨rfl, xs, hK ▸ .inl (.inl e3)⟩, c, F1, τ, ρ1, R1, ?_⟩
      unfold M.bind at q2
      match z : mn ρ1 with
      | none => rw [z] at q2; exact q2
      | some (.error e, ρ2) => rw [z] at q2; exact q2
      | some (.ok u, ρ2) =>
        rw [z] at q2
        intro F2 H2 w s2 R2
        dsimp only at q2
        match y : extAt p ρ2 with
        | none => rw [y] at q2; exact (show False from q2).elim
        | some r =>
          obtain ⟨ys, es, x', ds', rfl, ex', ox', hz, rfl⟩ := extAt_some y
          rw [y] at q2
          have hlen : ys.length = (σ ++ τ).length := by
            have := R2.len
            simp only [List.length_append, List.length_singleton] at this ⊢
            omega
          have pl : p < ys.length := (List.getElem?_eq_some_iff.mp ex').1
          have hv2 : (σ ++ τ ++ [some w])[p]? = some (some (.ref a)) := by rw [List.getElem?_append_left (by rw [← hlen]; exact pl)]; exact hv
          obtain ⟨a', xs', z1, _, z3, z4⟩ := (R2.slot p x' _ (by rw [List.getElem?_append_left pl]; exact ex') hv2).own ox'
          cases z1
          obtain ⟨b, zs, w1, _, w3, w4⟩ := (R2.slot ys.length (.lst es) (some w) (by simp) (by rw [hlen]; simp)).own (ds := es) rfl
          cases w1
          refine ⟨a, b, xs', zs, rfl, rfl, z3, w3, by rw [z4.length, w4.length, sizeLine_eq]; exact hz, ?_⟩
          have R3 := R2.write (by rw [List.getElem?_append_left pl]; exact ex') ox' hv2 (z4.append w4)
          rw [List.set_append_left _ _ pl] at R3
          exact q2 F2 _ s2 (Rl.dropLast R3 (by rw [List.length_set]; exact hlen) rfl) _ .non
end
end DL

set_option Elab.async false
set_option linter.all false
set_option maxRecDepth 100000
set_option maxHeartbeats 4000000
/-! DX11: lists the other way round. -/
namespace DL
open PySem PySem.Spec PyProof.Rows L2
def revD : D → Option D
  | .list ds => some (.list ds.reverse)
  | _ => none
section
variable {X : Cx} {P : Ps} {e : Expr}
theorem de_revL {k : Nat} {p1 p2 p3 pos : Pos} {m : M DR} (hK : P.K.K = X.K) (he : PE X e (tE P m)) : PE X (.Subscript e (.Slice none none (some (.UnaryOp .USub (.Constant (.int 1) k p1) p2)) p3) pos) (tE P (eOp1 revD m)) :=
  (pe_revL he).of (tE_op1 (r := fun x H Q => ∃ a xs, x = .ref a ∧ SqL X.K H a xs ∧ ∀ p, H p = none → Q (.ref p) (upd H p (.lst xs.reverse))) (by
    intro c F H L ρ x d z Q R n hz q
    cases d with
    | list ds =>
      obtain rfl := Option.some.inj hz
      obtain ⟨a, ws, rfl, h1, r1⟩ := n.list R.sub
      refine ⟨a, ws, rfl, hK ▸ h1, fun p hp => ?_⟩
      have up : Same F (upd F p (.lst ws.reverse)) := Same.upd (fresh_of R hp)
      exact q _ _ _ up (R.new hp) (.lst (.inl (.inl upd_same)) (r1.reverse.mono up))
    | _ => cases hz))
end
end DL

set_option Elab.async false
set_option linter.all false
set_option maxRecDepth 100000
set_option maxHeartbeats 4000000
/-! DX12: in, not in of tuples of flat items. -/
namespace DL
open PySem PySem.Spec PyProof.Rows L2
def flatD : D → Bool
  | .none => true
  | .bool _ => true
  | .int _ => true
  | .str _ => true
  | _ => false
def vOf : D → V
  | .bool b => .bl b
  | .int i => .int i
  | .str x => .str x
  | _ => .non
theorem rp_flat {K : Frag} {F : Hp} {v : V} {d : D} (r : Rp K F v d) (f : flatD d = true) : v = vOf d := by
  cases r <;> first | rfl | cases f
theorem flat_vOf {d : D} : flatV (vOf d) = true := by cases d <;> rfl
theorem eqV_vOf {d e : D} (f : flatD d = true) (g : flatD e = true) : eqV (vOf d) (vOf e) = PyData.eqv d e := by
  cases d <;> first | cases f | skip
  all_goals (cases e <;> first | cases g | skip)
  all_goals first
    | rfl
    | simp [vOf, eqV, PyData.eqv]
theorem rp_flats {K : Frag} {F : Hp} : ∀ {vs : List V} {ds : List D}, RpAll K F vs ds → ds.all flatD = true → vs = ds.map vOf
  | _, _, .nil, _ => rfl
  | _, _, .cons r t, f => by
    rw [List.all_cons, Bool.and_eq_true] at f
    rw [rp_flat r f.1, rp_flats t f.2]
    rfl
theorem inV_flats {d : D} (f : flatD d = true) : ∀ {ds : List D}, ds.all flatD = true → inV (vOf d) (ds.map vOf) = ds.any fun z => PyData.eqv z d
  | [], _ => rfl
  | e :: ds, g => by
    rw [List.all_cons, Bool.and_eq_true] at g
    have z := inV_flats f g.2
    unfold inV at z ⊢
    rw [List.map_cons, List.any_cons, List.any_cons, z, eqV_vOf g.1 f]
def inX (d e : D) : Option D := match e with
  | .tuple ds => if flatD d && ds.all flatD then some (.bool (ds.any fun z => PyData.eqv z d)) else none
  | _ => inD d e
def ninX (d e : D) : Option D := match e with
  | .tuple ds => if flatD d && ds.all flatD then some (.bool (!ds.any fun z => PyData.eqv z d)) else none
  | _ => ninD d e
section
variable {X : Cx} {P : Ps}
theorem now_flat {K : Frag} {F H : Hp} {v : V} {d : D} (n : Now K F H v d) (f : flatD d = true) : v = vOf d := by
  cases n with
  | dat h => exact rp_flat h f
  | @own a oc e e' hF h => subst e'; cases oc <;> cases f
theorem opd_inX (hK : P.K.K = X.K) : OpD X P (fun x y H Q => rInD X.K x y H Q ∨ rIn X.K false x y H Q) inX := by
  intro c F H L ρ x y d e z Q R n1 n2 hz q
  cases e with
  | tuple ds =>
    unfold inX at hz
    dsimp only at hz
    split at hz
    · rename_i h
      cases wid hz
      obtain ⟨h1, h2⟩ := Bool.and_eq_true_iff.mp h
      obtain ⟨a, ws, rfl, q1, _, r1⟩ := n2.tuple R.sub
      obtain rfl := now_flat n1 h1
      obtain rfl := rp_flats r1 h2
      refine .inr ⟨a, _, rfl, .inr (hK ▸ q1), flat_vOf, ?_, ?_⟩
      · rw [List.all_map]
        exact List.all_eq_true.mpr fun _ _ => flat_vOf
      · show Q (.bl (inV (vOf d) (ds.map vOf))) H
        rw [inV_flats h1 h2]
        exact q F H _ (Same.refl F) R (.bl _)
    · cases hz
  | _ => exact .inl (opd_in hK c F H L ρ x y d _ z Q R n1 n2 hz q)
theorem opd_ninX (hK : P.K.K = X.K) : OpD X P (fun x y H Q => rNotInD X.K x y H Q ∨ rIn X.K true x y H Q) ninX := by
  intro c F H L ρ x y d e z Q R n1 n2 hz q
  cases e with
  | tuple ds =>
    unfold ninX at hz
    dsimp only at hz
    split at hz
    · rename_i h
      cases wid hz
      obtain ⟨h1, h2⟩ := Bool.and_eq_true_iff.mp h
      obtain ⟨a, ws, rfl, q1, _, r1⟩ := n2.tuple R.sub
      obtain rfl := now_flat n1 h1
      obtain rfl := rp_flats r1 h2
      refine .inr ⟨a, _, rfl, .inr (hK ▸ q1), flat_vOf, ?_, ?_⟩
      · rw [List.all_map]
        exact List.all_eq_true.mpr fun _ _ => flat_vOf
      · show Q (.bl (!inV (vOf d) (ds.map vOf))) H
        rw [inV_flats h1 h2]
        exact q F H _ (Same.refl F) R (.bl _)
    · cases hz
  | _ => exact .inl (opd_nin hK c F H L ρ x y d _ z Q R n1 n2 hz q)
end
end DL

set_option Elab.async false
set_option linter.all false
set_option maxRecDepth 100000
set_option maxHeartbeats 4000000
/-! DX13: tuples the other way round. -/
namespace DL
open PySem PySem.Spec PyProof.Rows L2
theorem fm_congr {α β : Type} {f g : α → Option β} : ∀ {l : List α}, (∀ x ∈ l, f x = g x) → l.filterMap f = l.filterMap g
  | [], _ => rfl
  | a :: l, h => by rw [List.filterMap_cons, List.filterMap_cons, h a (List.mem_cons_self ..), fm_congr fun x m => h x (List.mem_cons_of_mem _ m)]
theorem back_all (xs : List Value) : (List.range xs.length).filterMap (fun k => xs[xs.length - 1 - k]?) = xs.reverse := by
  have all : ∀ ys : List Value, (List.range ys.length).filterMap (fun k => ys[k]?) = ys := by
    intro ys
    apply List.ext_getElem?
    intro i
    have e : (List.range ys.length).filterMap (fun k => ys[k]?) = (List.range ys.length).filterMap (fun k => some (ys.getD k .none)) := by
      apply fm_congr
      intro k hk
      rw [List.getElem?_eq_getElem (List.mem_range.mp hk), List.getD_eq_getElem?_getD, List.getElem?_eq_getElem (List.mem_range.mp hk)]
      rfl
    rw [e, List.filterMap_eq_map', List.getElem?_map]
    by_cases h : i < ys.length
    · rw [List.getElem?_range h, List.getElem?_eq_getElem h]
      show some (ys.getD i .none) = _
      rw [List.getD_eq_getElem?_getD, List.getElem?_eq_getElem h]
      rfl
    · rw [List.getElem?_eq_none (by rw [List.length_range]; omega), List.getElem?_eq_none (by omega)]
      rfl
  have q := all xs.reverse
  rw [List.length_reverse] at q
  rw [← q]
  apply fm_congr
  intro k hk
  rw [List.getElem?_reverse (List.mem_range.mp hk)]
theorem pick_back (items : Array Value) : ((List.range items.size).filterMap fun (k : Nat) => items[(((items.size : Int) - 1) + (k : Int) * (-1)).toNat]?).toArray = items.toList.reverse.toArray := by
  obtain ⟨xs⟩ := items
  refine congrArg List.toArray (Eq.trans (fm_congr fun k hk => ?_) (back_all xs))
  have e : (((xs.length : Int) - 1) + (k : Int) * (-1)).toNat = xs.length - 1 - k := by
    have := List.mem_range.mp hk
    show _ = _
    omega
  exact (congrArg (fun j : Nat => xs.toArray[j]?) e).trans (by simp)
theorem adjust_back (n : Nat) : Builtin.Slice.sliceAdjust none none (-1) (n : Int) = ((n : Int) - 1, -1) := rfl
theorem places_back (n : Nat) : Builtin.Slice.slicePlaces ((n : Int) - 1) (-1) (-1) = n := by
  unfold Builtin.Slice.slicePlaces
  rw [if_neg (by decide)]
  by_cases h : (n : Int) - 1 > -1
  · rw [if_pos h]
    have : ((n : Int) - 1 - -1 - 1) / (- -1) = (n : Int) - 1 := by
      rw [show (- -1 : Int) = 1 from rfl, Int.ediv_one]
      omega
    rw [this]
    omega
  · rw [if_neg h]
    omega
section
variable {prog : Program} {w : World} {A : Around} {E : Value → Shared → Prop} {s : Shared}
theorem applied_back {sl : Addr} {t : Tok} {n : Nat} {Q : Int × Int × Nat → Shared → Prop} (hs : s.heap.IsSliceOf sl .none .none (.int (-1) t)) (h : Q ((n : Int) - 1, -1, n) s) :
    wpAny (model prog w) A (Builtin.Slice.sliceApplied (.ref sl) (pure (n : Int))) Q E s := by
  obtain ⟨os, hos, hcs, hds⟩ := id hs
  unfold Builtin.Slice.sliceApplied Builtin.Slice.sliceFields
  refine wpAny_bind (wpAny_bind (wpAny_field hos hds (x := .none) rfl (wpAny_bind (wpAny_field hos hds (x := .none) rfl (wpAny_bind (wpAny_field hos hds (x := .int (-1) t) rfl (wpAny_pure ?_)))))))
  refine wpAny_bind (HT.slicePart_ (.int (-1) t) ?_)
  show wpAny _ _ (if ((-1 : Int) == 0) = true then _ else _) _ _ s
  rw [if_neg (by decide)]
  refine wpAny_bind (HT.slicePart_ .none (wpAny_bind (HT.slicePart_ .none (wpAny_bind (wpAny_pure ?_)))))
  show wpAny _ _ (pure ((n : Int) - 1, (-1 : Int), Builtin.Slice.slicePlaces ((n : Int) - 1) (-1) (-1))) _ _ s
  rw [places_back]
  exact wpAny_pure h
end
section
open PySem.SeqAt PySem.MeetsSeq PySem.MeetsSeq2 PySem.MeetsSeq3
theorem getItem_back {prog : Program} {w : World} {A : Around} {E : Value → Shared → Prop} {s : Shared} {t sl : Addr} {items : Array Value} {tk : Tok} {Q : Value → Shared → Prop} (ht : IsTup s.heap t items) (hs : s.heap.IsSliceOf sl .none .none (.int (-1) tk)) (hsz : items.size ≤ sizeLine)
    (h : Q (.ref s.heap.objs.size) { s with heap := s.heap.push { cls := .type "tuple", data := .seq items.toList.reverse.toArray } }) : wpAny (model prog w) A (getItem (.ref t) (.ref sl)) Q E s := by
  have fits : sizeOk (.seq items.toList.reverse.toArray) := by
    show items.toList.reverse.toArray.size ≤ sizeLine
    rw [List.size_toArray, List.length_reverse, Array.length_toList]
    exact hsz
  obtain ⟨os, hos, hcs, hds⟩ := id hs
  have isSl : s.TypeIs (.ref sl) "slice" := ⟨os, hos, hcs⟩
  unfold getItem
  try with_reducible refine wpAny_holding ?_
  first | refine wpAny_bind (wpAny_pure ?_) | skip
  refine wpAny_bind (wpAny_sequenceKey ht.typeIs (by decide) ?_)
  refine wpAny_bind (wpAny_callSpecial?_slot (name := Str.ofString "__getitem__") ht.typeIs PyProof.Rows.slot_tuple_getitem
    (wpAny_call_entry PyProof.Rows.slot_tuple_getitem ht.typeIs entry_tuple_getitem ?_ (args_tuple_getitem _ _)))
  show wpAny _ _ (Builtin.Tuple.tupleItemsOf (.ref t) >>= _) _ _ s
  refine wpAny_bind (tupleItemsOf_ ht ?_)
  refine wpAny_bind (wpAny_typeOf isSl ?_)
  rw [if_pos (by decide)]
  refine wpAny_bind (applied_back hs ?_)
  have other : ¬ ((((items.size : Int) - 1) == 0 && (-1 : Int) == 1 && items.size == items.size) = true) := by
    rw [show ((-1 : Int) == 1) = false from rfl, Bool.and_false, Bool.false_and]
    exact Bool.false_ne_true
  show wpAny _ _ (if (((items.size : Int) - 1) == 0 && (-1 : Int) == 1 && items.size == items.size) = true then _ else _) _ _ s
  rw [if_neg other, pick_back]
  first
    | exact wpAny_bind (m := Builtin.Tuple.tupleExact _) (wpAny_newObj_type (wpAny_pure ⟨_, rfl, wpAny_pure h⟩) fits)
    | exact wpAny_bind (m := Builtin.Tuple.tupleExact _) (wpAny_newObj_type (wpAny_bind (wpAny_pure (wpAny_pure ⟨_, rfl, wpAny_pure h⟩))) fits)
    | exact wpAny_bind (wpAny_bind (m := Builtin.Tuple.tupleExact _) (wpAny_newObj_type (wpAny_pure (wpAny_pure ⟨_, rfl, wpAny_pure h⟩)) fits))
    | exact wpAny_bind (wpAny_bind (m := Builtin.Tuple.tupleExact _) (wpAny_newObj_type (wpAny_pure ⟨_, rfl, wpAny_pure h⟩) fits))
end
end DL

set_option Elab.async false
set_option linter.all false
set_option maxRecDepth 100000
set_option maxHeartbeats 4000000
/-! DX14: x[::-1] of lists and tuples. -/
namespace DL
open PySem PySem.Spec PyProof.Rows L2
def rRev (K : PySem.W.Frag) : V → Hp → VK → Prop := fun x H Q => ∃ a xs, x = .ref a ∧ ((SqL K H a xs ∧ ∀ p, H p = none → Q (.ref p) (upd H p (.lst xs.reverse))) ∨ (SqT K H a xs ∧ ∀ p, H p = none → Q (.ref p) (upd H p (.tup xs.reverse))))
def revX : D → Option D
  | .list ds => some (.list ds.reverse)
  | .tuple ds => some (.tuple ds.reverse)
  | _ => none
section
variable {X : Cx} {P : Ps} {e : Expr} {te : TE} {k : Nat} {p1 p2 p3 pos : Pos}
theorem pe_rev (he : PE X e te) : PE X (.Subscript e (.Slice none none (some (.UnaryOp .USub (.Constant (.int 1) k p1) p2)) p3) pos) (tUn (rRev X.K) te) where
  run pins s σ H Q I h := by
    have step : PO X (some (.UnaryOp .USub (.Constant (.int 1) k p1) p2)) (tPart (tUn (rU fun i => .int (-i)) (tC (.int 1)))) := po_some (pe_un un_neg pe_int)
    apply Subscript_
    refine thn (he.run pins s σ H _ I h) fun v s1 ⟨x, H1, I1, r1, a, xs, ex, q⟩ => ?_
    subst ex
    obtain rfl : v = Value.ref a := r1
    apply wpAny_Slice
    refine thn (po_none.run pins s1 σ H1 (fun o G => o = none ∧ G = H1) I1 ⟨rfl, rfl⟩) ?_
    rintro vl s2 ⟨_, _, I2, pl, rfl, rfl⟩
    refine thn (po_none.run pins s2 σ _ (fun o G => o = none ∧ G = _) I2 ⟨rfl, rfl⟩) ?_
    rintro vu s3 ⟨_, _, I3, pu, rfl, rfl⟩
    refine thn (step.run pins s3 σ _ (fun o G => o = some (-1) ∧ G = _) I3 ⟨1, rfl, -1, rfl, rfl, rfl⟩) ?_
    rintro vs s4 ⟨_, G, I4, ps, rfl, rfl⟩
    cases pl
    cases pu
    cases ps with
    | int _ tk =>
      have I5 : Inv X pins σ G { s4 with heap := s4.heap.push { cls := .type "slice", data := .fields #[.none, .none, .int (-1) tk] } } := I4.kept (t' := s4.toks) fun _ _ z => Heap.get?_push_of_some _ z
      show wpAny (model X.prog X.w) X.A (subscriptTail e (.Slice none none (some (.UnaryOp .USub (.Constant (.int 1) k p1) p2)) p3) (.ref a) (.ref s4.heap.objs.size)) (EP X pins σ Q) X.xe { s4 with heap := s4.heap.push { cls := .type "slice", data := .fields #[.none, .none, .int (-1) tk] } }
      rcases q with ⟨hq, q⟩ | ⟨hq, q⟩
      · obtain ⟨its, r, at_, fits⟩ := I5.list hq
        refine tail_any (ops := [.ref a, .ref s4.heap.objs.size]) at_.isList.typeIs PySem.slot_list_getitem.lookup ?_ (by with_unfolding_all rfl)
        refine wpAny_getItem_list_slice at_.isList (Heap.IsSliceOf.new _ .none .none (.int (-1) tk)) .none .none (.int (-1) tk) (by decide) ?_ (by rw [List.size_toArray, ← r.length]; exact fits)
        rw [PySem.W.krv_pick]
        exact ⟨.ref _, _, I5.laid (t' := s4.toks) (o := .lst xs.reverse) (fun _ _ z => Heap.get?_push_of_some _ z) (Nat.le_refl _) ⟨by rw [List.length_reverse]; exact fits, _, 0, r.reverse, Heap.get?_push_size _ rfl⟩, rfl, q _ (I5.hok.fresh (Nat.le_refl _))⟩
      · obtain ⟨its, r, at_, fits⟩ := I5.tuple hq
        refine tail_any (ops := [.ref a, .ref s4.heap.objs.size]) at_.typeIs PyProof.Rows.slot_tuple_getitem.lookup ?_ (by with_unfolding_all rfl)
        refine getItem_back at_ (Heap.IsSliceOf.new _ .none .none (.int (-1) tk)) (by rw [List.size_toArray, ← r.length]; exact fits) ?_
        exact ⟨.ref _, _, I5.laid (t' := s4.toks) (o := .tup xs.reverse) (fun _ _ z => Heap.get?_push_of_some _ z) (Nat.le_refl _) ⟨by rw [List.length_reverse]; exact fits, _, r.reverse, ⟨_, Heap.get?_push_size _ rfl, rfl, _, rfl⟩⟩, rfl, q _ (I5.hok.fresh (Nat.le_refl _))⟩
theorem de_rev {m : M DR} (hK : P.K.K = X.K) (he : PE X e (tE P m)) : PE X (.Subscript e (.Slice none none (some (.UnaryOp .USub (.Constant (.int 1) k p1) p2)) p3) pos) (tE P (eOp1 revX m)) := (pe_rev he).of (tE_op1 (by
  intro c F H L ρ x d z Q R n hz q
  cases d with
  | list ds =>
    obtain rfl := Option.some.inj hz
    obtain ⟨a, ws, rfl, h1, r1⟩ := n.list R.sub
    refine ⟨a, ws, rfl, .inl ⟨hK ▸ h1, fun p hp => ?_⟩⟩
    have up : Same F (upd F p (.lst ws.reverse)) := Same.upd (fresh_of R hp)
    exact q _ _ _ up (R.new hp) (.lst (.inl (.inl upd_same)) (r1.reverse.mono up))
  | tuple ds =>
    obtain rfl := Option.some.inj hz
    obtain ⟨a, ws, rfl, h1, _, r1⟩ := n.tuple R.sub
    refine ⟨a, ws, rfl, .inr ⟨hK ▸ h1, fun p hp => ?_⟩⟩
    have up : Same F (upd F p (.tup ws.reverse)) := Same.upd (fresh_of R hp)
    exact q _ _ _ up (R.new hp) (.tup (.inl (.inl upd_same)) (r1.reverse.mono up))
  | _ => cases hz))
end
end DL

set_option Elab.async false
set_option linter.all false
set_option maxRecDepth 100000
set_option maxHeartbeats 4000000
/-! DX15: lists and tuples * int, any count. -/
namespace DL
open PySem PySem.Spec PyProof.Rows L2 Builtin

/-- t * 1, () * n: the tuple itself -/
theorem tup_mul_same (l : Addr) (items : Array Value) (n : Nat) (dd : Option Addr) (sl : Array (Option Value)) (x : Int) (u : Tok) (c0 : (decide (x < -(2 ^ 63)) || decide (x ≥ 2 ^ 63)) = false) (c1 : (items.isEmpty || x == 1) = true) :
    Meets (Builtin.«tuple.__mul__» ⟨[.ref l, .int x u], []⟩) (fun _ R s => s.heap.get? l = some { cls := .type "tuple", dict := dd, data := .seq items n, slots := sl } ∧ R (.ok (.ret (Value.ref l))) s) :=
  .of_wp fun prog w A R s h => by
    obtain ⟨hp, g, d, tk, os⟩ := s
    obtain ⟨hl, h⟩ := h
    have f1 := AutoSeq1.idx_int
    wp_walk using wpAny_loadPart' hl
    repeat (first
      | (refine wpAny_ite_false (decide_eq_false (by rw [c0]; exact Bool.false_ne_true)) ?_; wp_walk using wpAny_loadPart' hl)
      | (refine wpAny_ite_true (decide_eq_true (by rw [c1])) ?_; wp_walk using wpAny_loadPart' hl))
    exact ⟨_, rfl, h⟩
/-- t * 0, t * -1: a new empty tuple -/
theorem tup_mul_none (l : Addr) (items : Array Value) (n : Nat) (dd : Option Addr) (sl : Array (Option Value)) (x : Int) (u : Tok) (c0 : (decide (x < -(2 ^ 63)) || decide (x ≥ 2 ^ 63)) = false) (c1 : (items.isEmpty || x == 1) = false) (c2 : (decide (x ≤ 0) || items.isEmpty) = true) :
    Meets (Builtin.«tuple.__mul__» ⟨[.ref l, .int x u], []⟩) (fun _ R s => s.heap.get? l = some { cls := .type "tuple", dict := dd, data := .seq items n, slots := sl } ∧
      R (.ok (.ret (Value.ref s.heap.objs.size))) { s with heap := s.heap.push { cls := Value.type "tuple", data := Data.seq #[] }, toks := s.toks }) :=
  .of_wp fun prog w A R s h => by
    obtain ⟨hp, g, d, tk, os⟩ := s
    obtain ⟨hl, h⟩ := h
    have f1 := AutoSeq1.idx_int
    wp_walk using wpAny_loadPart' hl
    repeat (first
      | (refine wpAny_ite_false (decide_eq_false (by rw [c0]; exact Bool.false_ne_true)) ?_; wp_walk using wpAny_loadPart' hl)
      | (refine wpAny_ite_false (decide_eq_false (by rw [c1]; exact Bool.false_ne_true)) ?_; wp_walk using wpAny_loadPart' hl)
      | (refine wpAny_ite_true (decide_eq_true (by rw [c2])) ?_; wp_walk using wpAny_loadPart' hl))
    exact ⟨_, rfl, h⟩
def repV (k : Int) (xs : List V) : List V := (List.replicate k.toNat xs).flatten
def rRepS (K : PySem.W.Frag) : R2 := fun x y H Q => ∃ l k xs, x = .ref l ∧ y = .int k ∧ SqT K H l xs ∧ -1000 ≤ k ∧ k ≤ 1000 ∧ xs.length ≤ 1000 ∧
  ((xs = [] ∨ k = 1) → Q (.ref l) H) ∧ (xs ≠ [] → k ≠ 1 → ∀ p, H p = none → Q (.ref p) (upd H p (.tup (repV k xs))))
def rRepL (K : PySem.W.Frag) : R2 := fun x y H Q => ∃ l k xs, x = .ref l ∧ y = .int k ∧ SqL K H l xs ∧ -1000 ≤ k ∧ k ≤ 1000 ∧ xs.length ≤ 1000 ∧ ∀ p, H p = none → Q (.ref p) (upd H p (.lst (repV k xs)))
section
variable {X : Cx}
theorem op_repS : OpR X (binaryOp .Mult) (rRepS X.K) := by
  intro pins s σ H x y v u Q I rx ry h
  obtain ⟨l, k, xs, rfl, rfl, hT, h1, h2, hz, q1, q2⟩ := h
  by_cases hb : xs ≠ [] ∧ 2 ≤ k
  · exact op_repT pins s σ H _ _ v u Q I rx ry ⟨l, k, xs, rfl, rfl, hT, hb.1, hb.2, h2, hz, q2 hb.1 (by omega)⟩
  · cases rx
    obtain ⟨t, rfl⟩ := ry
    obtain ⟨its, r, ⟨⟨cls, dd, data, sl⟩, ho, hc, n, hd⟩, hs⟩ := I.tuple hT
    simp only at hc hd
    subst hc hd
    have hle : its.length = xs.length := r.length.symm
    have c0 : (decide (k < -(2 ^ 63)) || decide (k ≥ 2 ^ 63)) = false := by
      rw [decide_eq_false (by omega), decide_eq_false (by omega)] <;> rfl
    by_cases hsame : xs = [] ∨ k = 1
    · have c1 : (its.toArray.isEmpty || k == 1) = true := by
        rcases hsame with rfl | rfl
        · cases r; rfl
        · simp
      refine wpAny_binaryOp_repeat_ref (T := "tuple") (U := "int") (by decide) ⟨_, ho, rfl⟩ (fun s' => typeIs_int s' k t) noFill_tuple_mul F.fills_int_mul F.slot_int_rmul repeat_tuple F.slot_int_index.lookup
        (call_meets F.slot_int_rmul (typeIs_int s k t) F.entry_int_rmul (F.args_int_rmul_2 _ _) (int_rmul_tuple k t l its.toArray n dd sl)
          ⟨ho, rfl, ⟨_, ho, rfl⟩, call_meets F.slot_tuple_mul ⟨_, ho, rfl⟩ F.entry_tuple_mul (F.args_tuple_mul_2 _ _) (tup_mul_same l its.toArray n dd sl k t c0 c1) ⟨ho, ?_⟩⟩)
      exact ⟨.ref l, H, I, rfl, q1 hsame⟩
    · have hx : xs ≠ [] := fun e => hsame (.inl e)
      have hk : k ≠ 1 := fun e => hsame (.inr e)
      have hk0 : k ≤ 0 := by
        have : ¬ 2 ≤ k := fun e => hb ⟨hx, e⟩
        omega
      have hi : its.toArray.isEmpty = false := by
        cases its with
        | nil => exact absurd (List.eq_nil_of_length_eq_zero hle.symm) hx
        | cons a b => rfl
      have c1 : (its.toArray.isEmpty || k == 1) = false := by
        rw [hi, Bool.false_or]; exact beq_eq_false_iff_ne.mpr hk
      have c2 : (decide (k ≤ 0) || its.toArray.isEmpty) = true := by rw [decide_eq_true hk0]; rfl
      refine wpAny_binaryOp_repeat_ref (T := "tuple") (U := "int") (by decide) ⟨_, ho, rfl⟩ (fun s' => typeIs_int s' k t) noFill_tuple_mul F.fills_int_mul F.slot_int_rmul repeat_tuple F.slot_int_index.lookup
        (call_meets F.slot_int_rmul (typeIs_int s k t) F.entry_int_rmul (F.args_int_rmul_2 _ _) (int_rmul_tuple k t l its.toArray n dd sl)
          ⟨ho, rfl, ⟨_, ho, rfl⟩, call_meets F.slot_tuple_mul ⟨_, ho, rfl⟩ F.entry_tuple_mul (F.args_tuple_mul_2 _ _) (tup_mul_none l its.toArray n dd sl k t c0 c1 c2) ⟨ho, ?_⟩⟩)
      have e0 : repV k xs = [] := by
        unfold repV
        have : k.toNat = 0 := by omega
        rw [this]; rfl
      have q := q2 hx hk
      rw [e0] at q
      refine ⟨.ref s.heap.objs.size, _, I.laid (t' := s.toks) (o := .tup []) (fun b ob q => Heap.get?_push_of_some _ q) (Nat.le_refl _) ?_, rfl, q _ (I.hok.fresh (Nat.le_refl _))⟩
      exact ⟨by rw [sizeLine_eq]; exact Nat.zero_le _, _, .nil, IsTup.new _ _⟩
theorem op_repL : OpR X (binaryOp .Mult) (rRepL X.K) := by
  intro pins s σ H x y v u Q I rx ry h
  obtain ⟨l, k, xs, rfl, rfl, hL, h1, h2, hz, q⟩ := h
  cases rx
  obtain ⟨t, rfl⟩ := ry
  obtain ⟨its, r, ⟨⟨cls, dd, data, sl⟩, n, ho, hc, _, hd⟩, _⟩ := I.list hL
  dsimp only at hc hd
  subst hc hd
  have hle : its.length = xs.length := r.length.symm
  have hm : its.toArray.size * k.toNat ≤ 1000 * 1000 := Nat.mul_le_mul (by rw [List.size_toArray, hle]; exact hz) (by omega)
  have flen : (List.replicate k.toNat its).flatten.length ≤ sizeLine := by
    rw [PyProof.Rows.lm_len_rep_flat, hle, sizeLine_eq]
    have a1 : k.toNat * xs.length ≤ 1000 * 1000 := Nat.mul_le_mul (by omega) hz
    omega
  have hc0 : ¬(!Builtin.List.listFitsIndex k) = true := by
    unfold Builtin.List.listFitsIndex
    simp
    omega
  have hc2 : ¬Builtin.List.listTooLong (its.toArray.size * k.toNat) = true := by
    unfold Builtin.List.listTooLong
    rw [sizeLine_eq]
    simp only [decide_eq_true_eq]
    omega
  refine wpAny_binaryOp_repeat_ref (T := "list") (U := "int") (by decide) ⟨_, ho, rfl⟩ (fun s' => typeIs_int s' k t) noFill_list_mul F.fills_int_mul F.slot_int_rmul repeat_list F.slot_int_index.lookup
    (call_meets F.slot_int_rmul (typeIs_int s k t) F.entry_int_rmul (F.args_int_rmul_2 _ _) (lm_int_rmul_list_any k t l its.toArray n dd sl)
      ⟨ho, rfl, ⟨_, ho, rfl⟩, call_meets F.slot_list_mul ⟨_, ho, rfl⟩ F.entry_list_mul (F.args_list_mul_2 _ _) (lm_list_mul_any l its.toArray n dd sl k t hc0 (by omega) hc2) ⟨ho, ?_⟩⟩)
  have e1 : (List.foldl (fun x1 x2 => x1 ++ x2) #[] (List.replicate (if its.toArray.isEmpty = true then 0 else k.toNat) its.toArray)) = (List.replicate k.toNat its).flatten.toArray := by
    by_cases he : its = []
    · subst he
      simp
    · rw [if_neg (by simpa using he), size_rep]
  rw [e1]
  exact ⟨.ref _, _, I.lnew (t' := s.toks) (r.rep k.toNat) (by rw [r.length] at hle; rw [PyProof.Rows.lm_len_rep_flat, r.length, ← PyProof.Rows.lm_len_rep_flat]; exact flen), rfl, q _ I.fresh⟩
end
/-! by data -/
theorem RpAll.rep {K : Frag} {F : Hp} {vs : List V} {ds : List D} (h : RpAll K F vs ds) : ∀ k : Nat, RpAll K F (List.replicate k vs).flatten (List.replicate k ds).flatten
  | 0 => by simpa using RpAll.nil
  | k + 1 => by simpa [List.replicate_succ] using h.append (RpAll.rep h k)
def repD (k : Int) (ds : List D) : List D := (List.replicate k.toNat ds).flatten
def mulX (d e : D) : Option D := match d, e with
  | .list ds, .int k => if -1000 ≤ k ∧ k ≤ 1000 ∧ ds.length ≤ 1000 then some (.list (repD k ds)) else none
  | .tuple ds, .int k => if -1000 ≤ k ∧ k ≤ 1000 ∧ ds.length ≤ 1000 then some (.tuple (repD k ds)) else none
  | d, e => mulD d e
def rMulA (K : PySem.W.Frag) : R2 := fun x y H Q => (rI CMulX fun i j => .int (i * j)) x y H Q ∨ (rRepL K x y H Q ∨ rRepS K x y H Q)
theorem op_mulA {X : Cx} : OpR X (binaryOp .Mult) (rMulA X.K) := op_mulX.or (op_repL.or op_repS)
theorem repD_1 {ds : List D} : repD 1 ds = ds := by
  unfold repD
  simp
theorem repD_0 {k : Int} : repD k [] = [] := by
  unfold repD
  simp
theorem mulX_int {d e : D} (h1 : ∀ ds, d ≠ .list ds) (h2 : ∀ ds, d ≠ .tuple ds) : mulX d e = mulD d e := by
  cases d with
  | list ds => exact absurd rfl (h1 ds)
  | tuple ds => exact absurd rfl (h2 ds)
  | _ => rfl
theorem opd_mulA {X : Cx} {P : Ps} (hK : P.K.K = X.K) : OpD X P (rMulA X.K) mulX := by
  intro c F H L ρ x y d e z Q R n1 n2 hz q
  cases d with
  | list ds =>
    cases e with
    | int k =>
      unfold mulX at hz
      dsimp only at hz
      split at hz
      case isFalse => cases hz
      rename_i h
      cases wid hz
      obtain ⟨a1, vs, rfl, h1, r1⟩ := n1.list R.sub
      rw [hK] at h1
      refine .inr (.inl ⟨a1, k, vs, rfl, n2.int, h1, h.1, h.2.1, by rw [r1.length]; exact h.2.2, fun p hp => ?_⟩)
      have hF : F p = none := R.sub.free hp
      exact q _ _ _ (Same.upd hF) (R.new hp) (rp_new (r1.rep k.toNat) hF)
    | _ => unfold mulX mulD intOp at hz; cases hz
  | tuple ds =>
    cases e with
    | int k =>
      unfold mulX at hz
      dsimp only at hz
      split at hz
      case isFalse => cases hz
      rename_i h
      cases wid hz
      obtain ⟨a1, vs, rfl, h1, f1, r1⟩ := n1.tuple R.sub
      rw [hK] at h1
      refine .inr (.inr ⟨a1, k, vs, rfl, n2.int, h1, h.1, h.2.1, by rw [r1.length]; exact h.2.2, fun e => ?_, fun _ _ p hp => ?_⟩)
      · have : repD k ds = ds := by
          rcases e with rfl | rfl
          · cases r1; exact repD_0
          · exact repD_1
        rw [this] at q
        exact q F H _ (Same.refl F) R (.tup f1 r1)
      · have hF : F p = none := R.sub.free hp
        exact q _ _ _ (Same.upd hF) (R.new hp) (rp_newT (r1.rep k.toNat) hF)
    | _ => unfold mulX mulD intOp at hz; cases hz
  | _ =>
    rw [mulX_int (fun _ h => by cases h) (fun _ h => by cases h)] at hz
    exact .inl (opd_mul (X := X) c F H L ρ x y _ e z Q R n1 n2 hz q)
end DL

set_option Elab.async false
set_option linter.all false
set_option maxRecDepth 100000
set_option maxHeartbeats 4000000
/-! DX16: sorted(x), x a list or a tuple of data that are alike. -/
namespace DL
open PySem PySem.Spec PyProof.Rows L2

section
variable {prog : Program} {w : World} {A : Around} {E : Value → Shared → Prop} {s : Shared} {β : Type} {vs : List Value} {bs : List β} {enc : β → PyData} {R : Value → β → Prop}
def colH (g : Heap) (xs : Array Value) : Heap := (g.push (seqObj "list" #[] 0)).update g.objs.size (Obj.mapSeq (· ++ xs))
/-- the items of a list or a tuple, taken into a list of the machine's own -/
theorem col_seq {l : Addr} {o : Obj} {T : String} {n : Nat} {xs : Array Value} {Q : List Value → Shared → Prop} (hT : T = "list" ∨ T = "tuple") (ho : s.heap.get? l = some o) (hc : o.cls = .type T) (hd : o.data = .seq xs n) (hz : xs.size ≤ sizeLine) (h : Q xs.toList { s with heap := colH s.heap xs }) : wpAny (model prog w) A (collect (.ref l)) Q E s := by
  have g0 : (s.heap.push (seqObj "list" #[] 0)).get? s.heap.objs.size = some (seqObj "list" #[] 0) := Heap.get?_push_size _ rfl
  have g1 : (s.heap.push (seqObj "list" #[] 0)).get? l = some o := Heap.get?_push_of_some _ ho
  have hb : ∀ b : Bool, (b || (Value.type T == Value.type "list") || (Value.type T == Value.type "tuple")) = true := by
    rcases hT with e | e <;> subst e <;> decide +kernel
  have he : (#[] ++ xs : Array Value).toList = xs.toList := by simp
  unfold collect
  refine wpAny_bind (wpAny_runValue (codeAny_builtin PyProof.Rows.entry_proto_collect' (?_ : wpAny _ _ (do again (.builtin "list.__iadd__" ⟨[← newList [], .ref l], []⟩)) _ _ s)))
  refine wpAny_bind (wpAny_newList (wpAny_pure ⟨Code.quiet_builtin _ (by decide +kernel), codeAny_builtin PyProof.Rows.entry_list_iadd' (?_ : wpAny _ _ (Builtin.List.listExtendWith (.ref s.heap.objs.size) (.ref l) (.ref s.heap.objs.size)) _ _ { s with heap := s.heap.push (seqObj "list" #[] 0) })⟩))
  unfold Builtin.List.listExtendWith
  refine wpAny_bind (wpAny_typeOf (T := T) ⟨o, g1, hc⟩ ?_)
  rw [if_pos (hb _)]
  refine wpAny_bind (PyProof.Rows.listItems_at g1 hd (wpAny_bind (PyProof.Rows.listItems_at (xs := #[]) (n := 0) g0 rfl ?_)))
  rw [if_neg (by simp)]
  refine wpAny_bind (PyProof.Rows.listUpdate_at (xs := #[]) (n := 0) g0 rfl (wpAny_pure ?_) (Nat.zero_le _) (by show (#[] ++ xs).size ≤ sizeLine + 1; rw [Array.size_append, List.size_toArray, List.length_nil]; omega))
  show wpAny _ A (load s.heap.objs.size >>= _) Q E { s with heap := colH s.heap xs }
  refine wpAny_bind (wpAny_load (PyProof.Rows.get?_update_seq g0 _) (wpAny_pure ?_))
  rw [he]
  exact h
theorem sorted_seqX {l : Addr} {o : Obj} {T : String} {n : Nat} {Q : Value → Shared → Prop} (hT : T = "list" ∨ T = "tuple") (ho : s.heap.get? l = some o) (hc : o.cls = .type T) (hd : o.data = .seq vs.toArray n)
    (e : PySem.W.EachIs R vs bs) (er : PySem.W.EachIs (fun v b => ∃ as, Reads s.heap v (enc b) as) vs bs) (hal : PySem.W.AllAlike (bs.map enc)) (hk : PySem.W.Sortable (bs.map enc)) (hL : bs.length ≤ sizeLine)
    (hu : ∀ b, b ∈ bs → A.units + 2 + (enc b).depth < cLine)
    (h : ∀ (h' : Heap) (d : Addr) (out : List Value), (∀ b o, s.heap.get? b = some o → h'.get? b = some o) → s.heap.objs.size ≤ d → (∃ n, h'.get? d = some (seqObj "list" out.toArray n)) → PySem.W.EachIs R out (bs.mergeSort (PySem.W.dataLe false enc)) → Q (.ref d) { s with heap := h' }) :
    wpAny (model prog w) A (call (.builtin "sorted") [.ref l]) Q E s := by
  have hvl : vs.length ≤ sizeLine := by rw [e.length]; exact hL
  refine PySem.Calls.call_function_entry PyProof.Rows.kind_sorted PyProof.Rows.plain_sorted PyProof.Rows.entry_sorted (PyProof.Rows.args_sorted1 _) ?_
  unfold Builtin.«sorted»
  refine wpAny_bind (m := checkCount "sorted" 1 1 _) (wpAny_pure (wpAny_bind (col_seq hT ho hc hd (by rw [List.size_toArray]; exact hvl) ?_)))
  have k1 : ∀ b o, s.heap.get? b = some o → (colH s.heap vs.toArray).get? b = some o := fun b o q => by
    unfold colH
    rw [Heap.get?_update_ne _ _ _ _ (Nat.ne_of_lt (Heap.lt_size q))]
    exact Heap.get?_push_of_some _ q
  have z1 : (colH s.heap vs.toArray).objs.size = s.heap.objs.size + 1 := by unfold colH; rw [Heap.size_update, PyProof.Rows.size_push']
  generalize hg : colH s.heap vs.toArray = h1 at k1 z1
  refine wpAny_bind (wpAny_newList ?_ (by simpa using hvl))
  have hoL : (h1.push (seqObj "list" vs.toArray 0)).get? h1.objs.size = some (seqObj "list" vs.toArray 0) := Heap.get?_push_size _ rfl
  have kp : ∀ b o, s.heap.get? b = some o → b ≠ h1.objs.size ∧ (h1.push (seqObj "list" vs.toArray 0)).get? b = some o := fun b o q =>
    ⟨Nat.ne_of_lt (Heap.lt_size (k1 b o q)), Heap.get?_push_of_some _ (k1 b o q)⟩
  have hsz : s.heap.objs.size ≤ h1.objs.size := by omega
  show wpAny _ _ _ _ _ { s with heap := h1.push (seqObj "list" vs.toArray 0) }
  have er' : PySem.W.EachIs (fun v b => ∃ as, Reads (PySem.W.sortingHeap (h1.push (seqObj "list" vs.toArray 0)) h1.objs.size vs) v (enc b) as) vs bs :=
    er.mono fun _ _ ⟨as, r⟩ => ⟨as, Reads.keeps (fun b o q => PySem.W.sortingHeap_old (kp b o q).1 (kp b o q).2) r⟩
  refine wpAny_bind (wpAny_holding (wpAny_call_entry PyProof.Rows.slot_list_sort ⟨_, hoL, rfl⟩ PyProof.Rows.entry_list_sort (PySem.W.list_sort_vals (κ := PySem.W.dataKind (PySem.W.sortingHeap (h1.push (seqObj "list" vs.toArray 0)) h1.objs.size vs) (bs.map enc)) hoL (PySem.W.SortsAt.data (s := { s with heap := PySem.W.sortingHeap (h1.push (seqObj "list" vs.toArray 0)) h1.objs.size vs }) (PySem.W.each_map (R := fun v d => ∃ as, Reads (PySem.W.sortingHeap (h1.push (seqObj "list" vs.toArray 0)) h1.objs.size vs) v d as) enc er') hal hk (PySem.W.bound_map hu)) hvl ⟨.none, rfl, ?_⟩) (PyProof.Rows.args_list_sort _)))
  refine wpAny_pure ⟨_, rfl, ?_⟩
  refine h _ _ (PySem.W.sortVals (PySem.W.dataKind (PySem.W.sortingHeap (h1.push (seqObj "list" vs.toArray 0)) h1.objs.size vs) (bs.map enc)) false vs vs) (fun b o q => ?_) hsz (PyProof.Rows.sortedHeap_at hoL) (PySem.W.sortVals_data false e er' hal)
  rw [PyProof.Rows.sortedHeap_old (kp b o q).1 (Heap.lt_size (kp b o q).2)]
  exact (kp b o q).2
end

section
variable {X : Cx}
def rSortX (K : PySem.W.Frag) : List V → Hp → VK → Prop := fun vs H Q => ∃ (a : Addr) (bs : List (V × D)), vs = [V.ref a] ∧ (SqL K H a (bs.map (·.1)) ∨ SqT K H a (bs.map (·.1))) ∧ (∀ b ∈ bs, Dp K H b.1 b.2) ∧ PySem.W.AllAlike (bs.map (·.2)) ∧ PySem.W.Sortable (bs.map (·.2)) ∧ (∀ b ∈ bs, b.2.depth ≤ 60) ∧
  ∀ p, H p = none → Q (.ref p) (upd H p (.lst ((bs.mergeSort (PySem.W.dataLe false (·.2))).map (·.1))))
theorem each_vals {P : Value → V × D → Prop} : ∀ {bs : List (V × D)} {us : List Value}, Vals (bs.map (·.1)) us → (∀ b ∈ bs, ∀ u, RelV b.1 u → P u b) → PySem.W.EachIs P us bs
  | [], us, r, _ => by
    rw [List.map_nil] at r; cases r; exact .nil
  | b :: bs, us, r, h => by
    rw [List.map_cons] at r
    cases r with
    | cons r1 r2 => exact .cons (h b List.mem_cons_self _ r1) (each_vals r2 fun c hc => h c (List.mem_cons_of_mem _ hc))
theorem vals_each : ∀ {bs : List (V × D)} {us : List Value}, PySem.W.EachIs (fun u (b : V × D) => RelV b.1 u) us bs → Vals (bs.map (·.1)) us
  | _, _, .nil => .nil
  | _, _, .cons h t => .cons h (vals_each t)
theorem cr_sortX (hu : X.A.units + 64 < cLine) : CallR X (.builtin "sorted") (rSortX X.K) := by
  intro pins s σ H vs us Q I r h
  obtain ⟨a, bs, rfl, hs, hdp, hal, hk, h60, q⟩ := h
  rw [Vals.ref1 r]
  have fin : ∀ {o : Obj} {T : String} {n : Nat} {its : List Value}, T = "list" ∨ T = "tuple" → s.heap.get? a = some o → o.cls = .type T → o.data = .seq its.toArray n → Vals (bs.map (·.1)) its → its.length ≤ sizeLine →
      wpAny (model X.prog X.w) X.A (call (.builtin "sorted") [.ref a]) (EP X pins σ Q) X.xe s := by
    intro o T n its hT ho hc hd rv hz
    have hbl : bs.length ≤ sizeLine := by rw [← rv.length, List.length_map] at hz; exact hz
    refine sorted_seqX (R := fun u (b : V × D) => RelV b.1 u) (enc := fun b : V × D => b.2) hT ho hc hd (each_vals rv fun _ _ _ z => z) (each_vals rv fun b hb u hu => Dp.reads I b.2 b.1 u (hdp b hb) hu) hal hk hbl (fun b hb => by have := h60 b hb; omega) fun h' d out k1 k2 k3 k4 => ?_
    obtain ⟨n', hn⟩ := k3
    refine ⟨.ref d, upd H d (.lst ((bs.mergeSort (PySem.W.dataLe false (·.2))).map (·.1))), I.laid (t' := s.toks) k1 k2 ⟨?_, out, n', vals_each k4, hn⟩, rfl, q d (I.hok.fresh k2)⟩
    rw [List.length_map, List.length_mergeSort]; exact hbl
  rcases hs with hs | hs
  · obtain ⟨its, rv, ⟨o, n, ho, hc, _, hd⟩, hz⟩ := I.list hs
    exact fin (.inl rfl) ho hc hd rv (rv.length ▸ hz)
  · obtain ⟨its, rv, ⟨o, ho, hc, n, hd⟩, hz⟩ := I.tuple hs
    exact fin (.inr rfl) ho hc hd rv (rv.length ▸ hz)
end

/-! ### on data -/
def alikeB (ds : List D) : Bool := ds.all fun d => ds.all fun e => PySem.W.alike d e
def sortaB (ds : List D) : Bool := ds.all (fun d => match d with
  | .tuple (_ :: _) => true
  | _ => false) || ds.all fun d => match d with
  | .none => false
  | .tuple _ => false
  | _ => true
def sortOk (ds : List D) : Bool := alikeB ds && sortaB ds && (ds.all fun d => SeqAt.shaped d && decide (d.depth ≤ 60))
def sortL (ds : List D) : List D := ds.mergeSort (PySem.W.dataLe false id)
def sortF : List D → Option D
  | [.list ds] => if sortOk ds then some (.list (sortL ds)) else none
  | [.tuple ds] => if sortOk ds then some (.list (sortL ds)) else none
  | _ => none
theorem alikeB_ok {ds : List D} (h : alikeB ds = true) : PySem.W.AllAlike ds := fun d hd e he => by
  unfold alikeB at h
  exact List.all_eq_true.mp (List.all_eq_true.mp h d hd) e he
theorem sortaB_ok {ds : List D} (h : sortaB ds = true) : PySem.W.Sortable ds := by
  unfold sortaB at h
  rcases Bool.or_eq_true_iff.mp h with h | h
  · refine .inl fun d hd => ?_
    have := List.all_eq_true.mp h d hd
    split at this
    · exact ⟨_, _, rfl⟩
    · cases this
  · refine .inr fun d hd => ?_
    have := List.all_eq_true.mp h d hd
    cases d with
    | none => cases this
    | tuple xs => cases this
    | bool b => exact ⟨nofun, nofun⟩
    | int b => exact ⟨nofun, nofun⟩
    | str b => exact ⟨nofun, nofun⟩
    | list b => exact ⟨nofun, nofun⟩
    | dict b => exact ⟨nofun, nofun⟩
section
variable {X : Cx} {P : Ps}
theorem zip_maps : ∀ {α β : Type} {as : List α} {bs : List β}, as.length = bs.length → (as.zip bs).map (·.1) = as ∧ (as.zip bs).map (·.2) = bs
  | _, _, [], [], _ => ⟨rfl, rfl⟩
  | _, _, [], _ :: _, h => by cases h
  | _, _, _ :: _, [], h => by cases h
  | _, _, a :: as, b :: bs, h => by
    obtain ⟨h1, h2⟩ := zip_maps (as := as) (bs := bs) (by simpa using h)
    exact ⟨by rw [List.zip_cons_cons, List.map_cons, h1], by rw [List.zip_cons_cons, List.map_cons, h2]⟩
theorem rpAll_zip {K : Frag} {F : Hp} : ∀ {vs : List V} {ds : List D}, RpAll K F vs ds → ∀ b ∈ vs.zip ds, Rp K F b.1 b.2
  | _, _, .nil, b, hb => by cases hb
  | _, _, .cons h t, b, hb => by
    rw [List.zip_cons_cons] at hb
    rcases List.mem_cons.mp hb with rfl | hb
    · exact h
    · exact rpAll_zip t b hb
theorem rpAll_of {K : Frag} {F : Hp} : ∀ {bs : List (V × D)}, (∀ b ∈ bs, Rp K F b.1 b.2) → RpAll K F (bs.map (·.1)) (bs.map (·.2))
  | [], _ => .nil
  | b :: bs, h => .cons (h b List.mem_cons_self) (rpAll_of fun c hc => h c (List.mem_cons_of_mem _ hc))
theorem sort_zip (bs : List (V × D)) : (bs.mergeSort (PySem.W.dataLe false (·.2))).map (·.2) = sortL (bs.map (·.2)) := List.map_mergeSort fun _ _ _ _ => rfl
theorem cbd_sort (hK : P.K.K = X.K) : CbD P (rSortX X.K) sortF := by
  intro c F H L ρ vs ds z Q R n hz q
  have fin : ∀ {a : Addr} {ws : List V} {es : List D}, vs = [.ref a] → (SqL P.K.K H a ws ∨ SqT P.K.K H a ws) → RpAll P.K F ws es → sortOk es = true → z = .list (sortL es) → rSortX X.K vs H Q := by
    intro a ws es hv hs hr ho hz
    subst hv hz
    unfold sortOk at ho
    simp only [Bool.and_eq_true] at ho
    obtain ⟨⟨h1, h2⟩, h3⟩ := ho
    obtain ⟨z1, z2⟩ := zip_maps hr.length
    have hm : ∀ b ∈ ws.zip es, b.2 ∈ es := fun b hb => by rw [← z2]; exact List.mem_map.mpr ⟨b, hb, rfl⟩
    have ok : ∀ b ∈ ws.zip es, SeqAt.shaped b.2 = true ∧ b.2.depth ≤ 60 := fun b hb => by
      have := List.all_eq_true.mp h3 b.2 (hm b hb)
      simpa using this
    refine ⟨a, ws.zip es, rfl, ?_, fun b hb => ?_, ?_, ?_, fun b hb => (ok b hb).2, fun p hp => ?_⟩
    · rw [z1, ← hK]; exact hs
    · exact hK ▸ (Now.dat (rpAll_zip hr b hb)).dp R.sub (ok b hb).1
    · rw [z2]; exact alikeB_ok h1
    · rw [z2]; exact sortaB_ok h2
    · refine q _ _ _ (Same.upd (fresh_of R hp)) (R.new hp) (.lst (.inl (.inl upd_same)) ?_)
      have : RpAll P.K F _ _ := rpAll_of (bs := (ws.zip es).mergeSort (PySem.W.dataLe false (·.2))) fun b hb => rpAll_zip hr b (List.mem_mergeSort.mp hb)
      rw [sort_zip, z2] at this
      exact this.mono (Same.upd (fresh_of R hp))
  unfold sortF at hz
  split at hz
  · split at hz
    · rename_i ho
      obtain ⟨v, rfl, n0⟩ := now1 n
      obtain ⟨a1, ws, rfl, h1, r1⟩ := n0.list R.sub
      exact fin rfl (.inl h1) r1 ho (wid hz)
    · cases hz
  · split at hz
    · rename_i ho
      obtain ⟨v, rfl, n0⟩ := now1 n
      obtain ⟨a1, ws, rfl, h1, h2, r1⟩ := n0.tuple R.sub
      exact fin rfl (.inr h1) r1 ho (wid hz)
    · cases hz
  · cases hz
end
end DL

set_option Elab.async false
set_option linter.all false
set_option maxRecDepth 100000
set_option maxHeartbeats 4000000
/-! DX17: comprehensions with two generators; x is True. -/
namespace DL
open PySem PySem.Spec PyProof.Rows L2

/-! ### x is True -/
def isBD : D → D → Option D
  | .bool a, .bool b => some (.bool (decide (a = b)))
  | _, _ => none
def isnBD : D → D → Option D
  | .bool a, .bool b => some (.bool (!decide (a = b)))
  | _, _ => none
section
variable {X : Cx} {P : Ps}
theorem opd_isB : OpD X P (fun x y H Q => ∃ a b, x = .bl a ∧ y = .bl b ∧ Q (.bl (decide (a = b))) H) isBD := by
  intro c F H L ρ x y d e z Q R n1 n2 hz q
  unfold isBD at hz
  split at hz
  · cases wid hz
    exact ⟨_, _, n1.bool, n2.bool, q F H _ (Same.refl F) R (.bl _)⟩
  · cases hz
theorem opd_isnB : OpD X P (fun x y H Q => ∃ a b, x = .bl a ∧ y = .bl b ∧ Q (.bl (!decide (a = b))) H) isnBD := by
  intro c F H L ρ x y d e z Q R n1 n2 hz q
  unfold isnBD at hz
  split at hz
  · cases wid hz
    exact ⟨_, _, n1.bool, n2.bool, q F H _ (Same.refl F) R (.bl _)⟩
  · cases hz
end

/-! ### two generators -/
def turnG (t : DT) (mt : M Bool) (body : M Unit) (vs : List Nat) (d : D) : M Unit := M.bind (setT t d) fun _ => M.bind mt fun b => M.bind (if b = true then body else M.ok ()) fun _ => mWipe vs
def goG (t : DT) (mt : M Bool) (body : M Unit) (vs : List Nat) : List D → M Unit
  | [] => M.ok ()
  | d :: ds => M.bind (turnG t mt body vs d) fun _ => goG t mt body vs ds
def runG (t : DT) (mt : M Bool) (body : M Unit) (vs : List Nat) (ds : List D) : M Unit := fun ρ => match (M.bind (mWipe vs) fun _ => goG t mt body vs ds) ρ with
  | some (.ok _, ρ') => some (.ok (), restD vs ρ ρ')
  | _ => none
/-- the inner clause: its source, its loop -/
def inG (mi1 : M (List D)) (t1 : DT) (mt1 : M Bool) (me : M DR) (vs1 : List Nat) : M Unit := M.bind mi1 fun es => M.bind (mWipe vs1) fun _ => lcGo t1 mt1 me vs1 es
def nLc2 (mi : M (List D)) (t : DT) (mt : M Bool) (mi1 : M (List D)) (t1 : DT) (mt1 : M Bool) (me : M DR) (vs vs1 : List Nat) : M Unit := M.bind mi fun ds => M.bind (push []) fun _ => runG t mt (inG mi1 t1 mt1 me vs1) vs ds
def eLc2 (mi : M (List D)) (t : DT) (mt : M Bool) (mi1 : M (List D)) (t1 : DT) (mt1 : M Bool) (me : M DR) (vs vs1 : List Nat) : M DR := M.bind (nLc2 mi t mt mi1 t1 mt1 me vs vs1) fun _ => popD
section
variable {X : Cx} {P : Ps}
theorem wipe_wipe (σ : L2.St) (vs vs1 : List Nat) (h : ∀ i ∈ vs1, i ∈ vs) : wipe (wipe σ vs1) vs = wipe σ vs := by
  apply List.ext_getElem?
  intro j
  rw [wipe_get, wipe_get, wipe_get]
  cases q : vs.contains j with
  | false =>
    have : vs1.contains j = false := by
      cases z : vs1.contains j with
      | false => rfl
      | true => rw [show vs.contains j = true by simpa using h j (by simpa using z)] at q; cases q
    rw [this]
    rfl
  | true => cases vs1.contains j <;> cases σ[j]? <;> rfl
theorem wipe_idem (σ : L2.St) (vs : List Nat) : wipe (wipe σ vs) vs = wipe σ vs := wipe_wipe σ vs vs fun _ h => h
theorem ho_quietI {α : Type} {c : Ct} {F : Hp} {σ : L2.St} {τ : List (Option V)} {o : Option (Except Ex α × List DV)} {a : α} {ρ : List DV} (h : o = some (.ok a, ρ)) {Φ : α → List DV → Hp → Hp → Prop} (q : ∀ F' H', Same F F' → Rl P.K c F' ρ (σ ++ τ) H' → Φ a ρ F' H') : Ho P.quiet c F σ τ o Φ := by
  subst h; exact q
theorem tN_lc2 {mi mi1 : M (List D)} {t t1 : DT} {mt mt1 : M Bool} {me : M DR} {vs vs1 : List Nat} (hvs : ∀ i ∈ t.slots, i ∈ vs) (hvs1 : ∀ i ∈ t1.slots, i ∈ vs1) (h1v : ∀ i ∈ vs1, i ∈ vs) (hN : ∀ i ∈ vs, i < X.N.length) (σ : L2.St) (H : Hp) (Q : VK) (hσ : σ.length = X.N.length) (q : tN P (nLc2 mi t mt mi1 t1 mt1 me vs vs1) σ H Q) :
    tLc2 (tI P mi) (gT P.quiet t) (tT P.quiet mt) (tI P.quiet mi1) (gT P.quiet t1) (tT P.quiet mt1) (tE P.quiet me) vs vs1 σ H Q := by
  obtain ⟨c, F, τ, ρ, R, q⟩ := q
  have hv : ∀ i ∈ vs, i < σ.length := fun i hi => by rw [hσ]; exact hN i hi
  refine ⟨c, F, τ, ρ, R, (HoN.bind q).mono fun ds ρ1 F1 H1 s1 R1 q1 J wk Dl hD => ?_⟩
  have Rp0 : Rl P.K c F1 (ρ1 ++ [.lst []]) (σ ++ τ ++ [some (.ref Dl)]) (upd H1 Dl (.lst [])) := R1.push hD .nil
  have q2 : HoN P c F1 σ τ (runG t mt (inG mi1 t1 mt1 me vs1) vs ds (ρ1 ++ [.lst []])) fun _ _ H' v => Q v H' := q1
  unfold runG at q2
  match z : (M.bind (mWipe vs) fun _ => goG t mt (inG mi1 t1 mt1 me vs1) vs ds) (ρ1 ++ [.lst []]) with
  | none => rw [z] at q2; exact (show False from q2).elim
  | some (.error x, ρ2) => rw [z] at q2; exact (show False from q2).elim
  | some (.ok u, ρe) =>
    rw [z] at q2
    have q3 : ∀ F' H', Same F1 F' → Rl P.K c F' ρe (wipe σ vs ++ (τ ++ [some (.ref Dl)])) H' → wipeOk vs (ρ1 ++ [.lst []]) = true → Q (.ref Dl) H' := fun F' H' s R' hw => by
      refine q2 F' H' (.ref Dl) s ?_
      have Rp0' : Rl P.K c F1 (ρ1 ++ [.lst []]) (σ ++ (τ ++ [some (.ref Dl)])) (upd H1 Dl (.lst [])) := by rw [← List.append_assoc]; exact Rp0
      have := R'.restored Rp0' s hv hw
      rw [← List.append_assoc] at this
      exact this
    obtain ⟨u1, ρw, zw, zg⟩ := mbind_ok z
    unfold mWipe at zw
    split at zw
    · rename_i hw
      cases zw
      have Rw : Rl P.K c F1 (wipeD vs (ρ1 ++ [.lst []])) (wipe σ vs ++ (τ ++ [some (.ref Dl)])) (upd H1 Dl (.lst [])) := Rl.wiped (by rw [← List.append_assoc]; exact Rp0) hv hw
      refine ⟨fun i m H => m = ds.length - i ∧ i ≤ ds.length ∧ ∃ F2 ρ2, Same F1 F2 ∧ Rl P.K c F2 ρ2 (wipe σ vs ++ (τ ++ [some (.ref Dl)])) H ∧ goG t mt (inG mi1 t1 mt1 me vs1) vs (ds.drop i) ρ2 = some (.ok u, ρe),
        ⟨ds.length, by simp, Nat.zero_le _, F1, _, Same.refl _, Rw, by simpa using zg⟩, ?_⟩
      rintro i m H2 ⟨rfl, hi, F2, ρ2, s2, R2, g2⟩
      have sH : Same F1 H2 := s2.trans R2.sub
      by_cases hlt : i < ds.length
      · refine .inr ⟨wk.go i H2 sH hlt, fun H' => ∃ F3 ρ3, Same F1 F3 ∧ Rl P.K c F3 ρ3 (wipe σ vs ++ (τ ++ [some (.ref Dl)])) H' ∧ goG t mt (inG mi1 t1 mt1 me vs1) vs (ds.drop (i + 1)) ρ3 = some (.ok u, ρe),
          fun H' ⟨F3, ρ3, a1, a2, a3⟩ => ⟨ds.length - (i + 1), by omega, rfl, hlt, F3, ρ3, a1, a2, a3⟩, fun x H' y => ?_⟩
        obtain ⟨d, ed, y⟩ := wk.yld i H2 x H' sH hlt y
        have e : ds.drop i = d :: ds.drop (i + 1) := by
          rw [List.drop_eq_getElem_cons hlt]
          rw [List.getElem?_eq_getElem hlt] at ed
          cases ed
          rfl
        rw [e] at g2
        obtain ⟨F3, s3, R3, r3⟩ : ∃ F3, Same F2 F3 ∧ Rl P.K c F3 ρ2 (wipe σ vs ++ (τ ++ [some (.ref Dl)])) H' ∧ Rp P.K F3 x d := by
          rcases y with ⟨rfl, r⟩ | ⟨T, xs, es, rfl, hT, rfl, rfl, r⟩
          · exact ⟨F2, Same.refl _, R2, r.mono s2⟩
          · have hF : F2 T = none := R2.sub.free hT
            exact ⟨_, Same.upd hF, R2.new hT, rp_newT (r.mono s2) hF⟩
        obtain ⟨u2, ρ9, g3, g4⟩ := mbind_ok g2
        obtain ⟨u3, ρ3, g5, g6⟩ := mbind_ok g3
        have hw0 : ∀ {σ4 : L2.St}, Tch t.slots (wipe σ vs) σ4 → wipe σ4 vs = wipe σ vs := fun tc => (tch_wipe tc hvs).trans (wipe_idem σ vs)
        refine ⟨c, F3, τ ++ [some (.ref Dl)], ρ2, d, R3, r3, ρ3, g5, fun σ4 F4 H4 s4 R4 tc => ⟨hw0 tc, ?_⟩⟩
        have hσ4 : σ4.length = σ.length := by rw [tc.1, wipe_length]
        have hw4 : wipe σ4 vs = wipe σ vs := hw0 tc
        obtain ⟨b, ρ5, g7, g8⟩ := mbind_ok g6
        have b34 : Same F1 F4 := (s2.trans s3).trans s4
        -- behind the turn: the slots may be wiped in part
        have fin : ∀ {F7 : Hp} {ρ7 : List DV} {H7 : Hp} {σ7 : L2.St}, σ7.length = σ.length → wipe σ7 vs = wipe σ vs → Same F4 F7 → Rl P.K c F7 ρ7 (σ7 ++ (τ ++ [some (.ref Dl)])) H7 → mWipe vs ρ7 = some (.ok u2, ρ9) → ∃ F3 ρ3, Same F1 F3 ∧ Rl P.K c F3 ρ3 (wipe σ vs ++ (τ ++ [some (.ref Dl)])) H7 ∧ goG t mt (inG mi1 t1 mt1 me vs1) vs (ds.drop (i + 1)) ρ3 = some (.ok u, ρe) := fun {F7 ρ7 H7 σ7} l7 w7 s7 R7 g9 => by
          unfold mWipe at g9
          split at g9
          · rename_i hw7
            cases g9
            refine ⟨F7, _, b34.trans s7, ?_, g4⟩
            have := R7.wiped (fun i hi => by rw [l7]; exact hv i hi) hw7
            rw [w7] at this
            exact this
          · cases g9
        refine ⟨c, F4, τ ++ [some (.ref Dl)], ρ3, R4, ho_quiet (P := P) g7 _ fun F5 H5 s5 R5 => ?_⟩
        cases b with
        | false =>
          rw [if_neg Bool.false_ne_true]
          obtain ⟨u4, ρ6, g9, g10⟩ := mbind_ok g8
          rw [if_neg Bool.false_ne_true] at g9
          cases g9
          exact fin hσ4 hw4 s5 R5 g10
        | true =>
          rw [if_pos rfl]
          obtain ⟨u4, ρ6, g9, g10⟩ := mbind_ok g8
          rw [if_pos rfl] at g9
          unfold inG at g9
          obtain ⟨es, ρ7, g11, g12⟩ := mbind_ok g9
          refine ⟨c, F5, τ ++ [some (.ref Dl)], ρ5, R5, ho_quiet (P := P) g11 _ fun F6 H6 s6 R6 J1 wk1 => ?_⟩
          obtain ⟨u5, ρv, zv, zh⟩ := mbind_ok g12
          have hv1 : ∀ i ∈ vs1, i < σ4.length := fun i hi => by rw [hσ4]; exact hv i (h1v i hi)
          have hl1 : (wipe σ4 vs1).length = σ.length := by rw [wipe_length, hσ4]
          have hw1 : wipe (wipe σ4 vs1) vs = wipe σ vs := (wipe_wipe σ4 vs vs1 h1v).trans hw4
          unfold mWipe at zv
          split at zv
          · rename_i hwv
            cases zv
            have Rv : Rl P.K c F6 (wipeD vs1 ρ7) (wipe σ4 vs1 ++ (τ ++ [some (.ref Dl)])) H6 := R6.wiped hv1 hwv
            refine ⟨fun j k H => k = es.length - j ∧ j ≤ es.length ∧ ∃ F7 ρ8, Same F6 F7 ∧ Rl P.K c F7 ρ8 (wipe σ4 vs1 ++ (τ ++ [some (.ref Dl)])) H ∧ lcGo t1 mt1 me vs1 (es.drop j) ρ8 = some (.ok u4, ρ6),
              ⟨es.length, by simp, Nat.zero_le _, F6, _, Same.refl _, Rv, by simpa using zh⟩, ?_⟩
            rintro j k H7 ⟨rfl, hj, F7, ρ8, s7, R7, g13⟩
            have sH7 : Same F6 H7 := s7.trans R7.sub
            by_cases hlj : j < es.length
            · refine .inr ⟨wk1.go j H7 sH7 hlj, fun H' => ∃ F8 ρ8, Same F6 F8 ∧ Rl P.K c F8 ρ8 (wipe σ4 vs1 ++ (τ ++ [some (.ref Dl)])) H' ∧ lcGo t1 mt1 me vs1 (es.drop (j + 1)) ρ8 = some (.ok u4, ρ6),
                fun H' ⟨F8, ρ8, a1, a2, a3⟩ => ⟨es.length - (j + 1), by omega, rfl, hlj, F8, ρ8, a1, a2, a3⟩, fun x1 H' y1 => ?_⟩
              obtain ⟨d1, ed1, y1⟩ := wk1.yld j H7 x1 H' sH7 hlj y1
              have e1 : es.drop j = d1 :: es.drop (j + 1) := by
                rw [List.drop_eq_getElem_cons hlj]
                rw [List.getElem?_eq_getElem hlj] at ed1
                cases ed1
                rfl
              rw [e1] at g13
              obtain ⟨F8, s8, R8, r8⟩ : ∃ F8, Same F7 F8 ∧ Rl P.K c F8 ρ8 (wipe σ4 vs1 ++ (τ ++ [some (.ref Dl)])) H' ∧ Rp P.K F8 x1 d1 := by
                rcases y1 with ⟨rfl, r⟩ | ⟨T, xs, fs, rfl, hT, rfl, rfl, r⟩
                · exact ⟨F7, Same.refl _, R7, r.mono s7⟩
                · have hF : F7 T = none := R7.sub.free hT
                  exact ⟨_, Same.upd hF, R7.new hT, rp_newT (r.mono s7) hF⟩
              unfold lcGo at g13
              obtain ⟨v2, η9, k3, k4⟩ := mbind_ok g13
              unfold lcTurn at k3
              obtain ⟨v3, η3, k5, k6⟩ := mbind_ok k3
              have hi1 : ∀ {σ6 : L2.St}, Tch t1.slots (wipe σ4 vs1) σ6 → wipe σ6 vs1 = wipe σ4 vs1 := fun tc => (tch_wipe tc hvs1).trans (wipe_idem σ4 vs1)
              refine ⟨c, F8, τ ++ [some (.ref Dl)], ρ8, d1, R8, r8, η3, k5, fun σ6 F9 H9 s9 R9 tc1 => ⟨hi1 tc1, ?_⟩⟩
              have hσ6 : σ6.length = σ4.length := by rw [tc1.1, wipe_length]
              obtain ⟨b1, η5, k7, k8⟩ := mbind_ok k6
              have c34 : Same F6 F9 := (s7.trans s8).trans s9
              have fin1 : ∀ {Fz : Hp} {ρz : List DV} {Hz : Hp}, Same F9 Fz → Rl P.K c Fz ρz (σ6 ++ (τ ++ [some (.ref Dl)])) Hz → mWipe vs1 ρz = some (.ok v2, η9) → ∃ F8 ρ8, Same F6 F8 ∧ Rl P.K c F8 ρ8 (wipe σ4 vs1 ++ (τ ++ [some (.ref Dl)])) Hz ∧ lcGo t1 mt1 me vs1 (es.drop (j + 1)) ρ8 = some (.ok u4, ρ6) := fun {Fz ρz Hz} sz Rz gz => by
                unfold mWipe at gz
                split at gz
                · rename_i hwz
                  cases gz
                  refine ⟨Fz, _, c34.trans sz, ?_, k4⟩
                  have := Rz.wiped (fun i hi => by rw [hσ6]; exact hv1 i hi) hwz
                  rw [hi1 tc1] at this
                  exact this
                · cases gz
              refine ⟨c, F9, τ ++ [some (.ref Dl)], η3, R9, ho_quiet (P := P) k7 _ fun Fa Ha sa Ra => ?_⟩
              cases b1 with
              | false =>
                rw [if_neg Bool.false_ne_true]
                obtain ⟨v4, η6, k9, k10⟩ := mbind_ok k8
                rw [if_neg Bool.false_ne_true] at k9
                cases k9
                exact fin1 sa Ra k10
              | true =>
                rw [if_pos rfl]
                obtain ⟨v4, η6, k9, k10⟩ := mbind_ok k8
                rw [if_pos rfl] at k9
                obtain ⟨r, η7, k11, k12⟩ := mbind_ok k9
                refine ⟨c, Fa, τ ++ [some (.ref Dl)], η5, Ra, ho_quiet (P := P) k11 _ fun Fb Hb sb Rb v hvr => ?_⟩
                obtain ⟨y, η8, k13, k14⟩ := mbind_ok k12
                have hfz : Ho P c Fb σ6 (τ ++ [some (.ref Dl)]) (M.bind (frz r) (fun d => M.ok d) η7) fun d ρ8' F7 H7 => d = y ∧ ρ8' = η8 := by
                  unfold M.bind
                  rw [k13]
                  exact fun _ _ _ _ => ⟨rfl, rfl⟩
                obtain ⟨d', Fc, ρ8', sc, Rc, rc, qc⟩ := Ho.frz hfz Rb hvr
                obtain ⟨rfl, rfl⟩ := Ho.now qc Rc
                obtain ⟨xs, h1, h2, h3⟩ := accAdd_rl (L := σ6 ++ τ) k14 (by rw [List.append_assoc]; exact Rc) rc
                refine ⟨xs, h1, h2, fin1 ((sa.trans sb).trans sc) (by rw [← List.append_assoc]; exact h3) k10⟩
            · have e1 : j = es.length := by omega
              subst e1
              rw [List.drop_length] at g13
              cases g13
              exact .inl ⟨wk1.stop _ H7 sH7 (Nat.le_refl _), fin hl1 hw1 ((s5.trans s6).trans s7) R7 g10⟩
          · cases zv
      · have e : i = ds.length := by omega
        subst e
        rw [List.drop_length] at g2
        cases g2
        exact .inl ⟨wk.stop _ H2 sH (Nat.le_refl _), q3 F2 H2 s2 R2 hw⟩
    · cases zw
end
section
variable {X : Cx} {P : Ps} {pos : Pos}
theorem dn_lc2 {tg iter elt tg1 iter1 : Expr} {ifs ifs1 : List Expr} {scope : Scope} {own : List (Str × Nat)} {vs1 : List Nat} {mi mi1 : M (List D)} {t t1 : DT} {mt mt1 : M Bool} {me : M DR} (hc : X.calm = true) (hN : X.N.Nodup) (hi : PI X tg iter (tI P mi)) (ok : BlkOk X.N X.env.scope scope own)
    (hg : ∀ (s : Shared) (H : Hp) (C : Addr) (cl : List (Str × Addr)) (fp : List Addr), PG (X.blk s H scope (compEnvC scope cl C X.env) fp) tg (gT P.quiet t)) (ht : ∀ (s : Shared) (H : Hp) (C : Addr) (cl : List (Str × Addr)) (fp : List Addr), PTs (X.blk s H scope (compEnvC scope cl C X.env) fp) ifs (tT P.quiet mt))
    (hi1 : ∀ (s : Shared) (H : Hp) (C : Addr) (cl : List (Str × Addr)) (fp : List Addr), PI (X.blk s H scope (compEnvC scope cl C X.env) fp) tg1 iter1 (tI P.quiet mi1))
    (hg1 : ∀ (s : Shared) (H : Hp) (C : Addr) (cl : List (Str × Addr)) (fp : List Addr), PG (X.blk s H scope (compEnvC scope cl C X.env) fp) tg1 (gT P.quiet t1)) (ht1 : ∀ (s : Shared) (H : Hp) (C : Addr) (cl : List (Str × Addr)) (fp : List Addr), PTs (X.blk s H scope (compEnvC scope cl C X.env) fp) ifs1 (tT P.quiet mt1))
    (he : ∀ (s : Shared) (H : Hp) (C : Addr) (cl : List (Str × Addr)) (fp : List Addr), PE (X.blk s H scope (compEnvC scope cl C X.env) fp) elt (tE P.quiet me)) (hs : ∀ x, foldedSetIterable iter X.env x = pure x) (hs1 : ∀ env x, foldedSetIterable iter1 env x = pure x) (hv : ∀ i ∈ t.slots, i ∈ own.map (·.2)) (hv1 : ∀ i ∈ t1.slots, i ∈ vs1) (hvv : ∀ i ∈ vs1, i ∈ own.map (·.2)) :
    PE X (.ListComp elt [⟨tg, iter, ifs, 0⟩, ⟨tg1, iter1, ifs1, 0⟩] scope pos) (tN P (nLc2 mi t mt mi1 t1 mt1 me (own.map (·.2)) vs1)) :=
  (pe_lc2 hc hN hi ok hvv hg ht hi1 hg1 ht1 he hs hs1).ofL fun σ H Q hσ q => tN_lc2 (X := X) hv hv1 hvv (fun i hi => by
    obtain ⟨p, hp, rfl⟩ := List.mem_map.mp hi
    exact (List.getElem?_eq_some_iff.mp (ok.ix p hp)).1) σ H Q hσ q
theorem de_lc2 {tg iter elt tg1 iter1 : Expr} {ifs ifs1 : List Expr} {scope : Scope} {own : List (Str × Nat)} {vs1 : List Nat} {mi mi1 : M (List D)} {t t1 : DT} {mt mt1 : M Bool} {me : M DR} (hc : X.calm = true) (hN : X.N.Nodup) (hi : PI X tg iter (tI P mi)) (ok : BlkOk X.N X.env.scope scope own)
    (hg : ∀ (s : Shared) (H : Hp) (C : Addr) (cl : List (Str × Addr)) (fp : List Addr), PG (X.blk s H scope (compEnvC scope cl C X.env) fp) tg (gT P.quiet t)) (ht : ∀ (s : Shared) (H : Hp) (C : Addr) (cl : List (Str × Addr)) (fp : List Addr), PTs (X.blk s H scope (compEnvC scope cl C X.env) fp) ifs (tT P.quiet mt))
    (hi1 : ∀ (s : Shared) (H : Hp) (C : Addr) (cl : List (Str × Addr)) (fp : List Addr), PI (X.blk s H scope (compEnvC scope cl C X.env) fp) tg1 iter1 (tI P.quiet mi1))
    (hg1 : ∀ (s : Shared) (H : Hp) (C : Addr) (cl : List (Str × Addr)) (fp : List Addr), PG (X.blk s H scope (compEnvC scope cl C X.env) fp) tg1 (gT P.quiet t1)) (ht1 : ∀ (s : Shared) (H : Hp) (C : Addr) (cl : List (Str × Addr)) (fp : List Addr), PTs (X.blk s H scope (compEnvC scope cl C X.env) fp) ifs1 (tT P.quiet mt1))
    (he : ∀ (s : Shared) (H : Hp) (C : Addr) (cl : List (Str × Addr)) (fp : List Addr), PE (X.blk s H scope (compEnvC scope cl C X.env) fp) elt (tE P.quiet me)) (hs : ∀ x, foldedSetIterable iter X.env x = pure x) (hs1 : ∀ env x, foldedSetIterable iter1 env x = pure x) (hv : ∀ i ∈ t.slots, i ∈ own.map (·.2)) (hv1 : ∀ i ∈ t1.slots, i ∈ vs1) (hvv : ∀ i ∈ vs1, i ∈ own.map (·.2)) :
    PE X (.ListComp elt [⟨tg, iter, ifs, 0⟩, ⟨tg1, iter1, ifs1, 0⟩] scope pos) (tE P (eLc2 mi t mt mi1 t1 mt1 me (own.map (·.2)) vs1)) :=
  (dn_lc2 hc hN hi ok hg ht hi1 hg1 ht1 he hs hs1 hv hv1 hvv).of (tE_of_tN (P := P) fun _ _ _ q => q)
theorem ds_setLc2 {i : Nat} {y : Str} {py : Pos} {tg iter elt tg1 iter1 : Expr} {ifs ifs1 : List Expr} {scope : Scope} {own : List (Str × Nat)} {vs1 : List Nat} {spos : Pos} {mi mi1 : M (List D)} {t t1 : DT} {mt mt1 : M Bool} {me : M DR} (hc : X.calm = true) (hN : X.N.Nodup) (hy : X.N[i]? = some y) (hyl : X.env.scope.names.lookup y = some .local)
    (hsw : swapsWith (.ListComp elt [⟨tg, iter, ifs, 0⟩, ⟨tg1, iter1, ifs1, 0⟩] scope pos) (some (.Name y py)) spos.line X.env = pure true) (hi : PI X tg iter (tI P mi)) (ok : BlkOk X.N X.env.scope scope own)
    (hg : ∀ (s : Shared) (H : Hp) (C : Addr) (cl : List (Str × Addr)) (fp : List Addr), PG (X.blk s H scope (compEnvC scope cl C X.env) fp) tg (gT P.quiet t)) (ht : ∀ (s : Shared) (H : Hp) (C : Addr) (cl : List (Str × Addr)) (fp : List Addr), PTs (X.blk s H scope (compEnvC scope cl C X.env) fp) ifs (tT P.quiet mt))
    (hi1 : ∀ (s : Shared) (H : Hp) (C : Addr) (cl : List (Str × Addr)) (fp : List Addr), PI (X.blk s H scope (compEnvC scope cl C X.env) fp) tg1 iter1 (tI P.quiet mi1))
    (hg1 : ∀ (s : Shared) (H : Hp) (C : Addr) (cl : List (Str × Addr)) (fp : List Addr), PG (X.blk s H scope (compEnvC scope cl C X.env) fp) tg1 (gT P.quiet t1)) (ht1 : ∀ (s : Shared) (H : Hp) (C : Addr) (cl : List (Str × Addr)) (fp : List Addr), PTs (X.blk s H scope (compEnvC scope cl C X.env) fp) ifs1 (tT P.quiet mt1))
    (he : ∀ (s : Shared) (H : Hp) (C : Addr) (cl : List (Str × Addr)) (fp : List Addr), PE (X.blk s H scope (compEnvC scope cl C X.env) fp) elt (tE P.quiet me)) (hs : ∀ x, foldedSetIterable iter X.env x = pure x) (hs1 : ∀ env x, foldedSetIterable iter1 env x = pure x) (hv : ∀ i ∈ t.slots, i ∈ own.map (·.2)) (hv1 : ∀ i ∈ t1.slots, i ∈ vs1) (hvv : ∀ i ∈ vs1, i ∈ own.map (·.2)) :
    PS X (.Assign [.Name y py] (.ListComp elt [⟨tg, iter, ifs, 0⟩, ⟨tg1, iter1, ifs1, 0⟩] scope pos) spos) (tS P (sSetN i (nLc2 mi t mt mi1 t1 mt1 me (own.map (·.2)) vs1))) :=
  (ps_setLc2 hc hN hy hyl hsw hi ok hvv hg ht hi1 hg1 ht1 he hs hs1).ofL fun De σ H hσ q =>
    ds_setNK (t := fun σ H Q => σ.length = X.N.length → _) (fun σ H Q q hσ => tN_lc2 (X := X) hv hv1 hvv (fun i hi => by
      obtain ⟨p, hp, rfl⟩ := List.mem_map.mp hi
      exact (List.getElem?_eq_some_iff.mp (ok.ix p hp)).1) σ H Q hσ q) De σ H q hσ
theorem ds_setLc2X {i : Nat} {y : Str} {py : Pos} {tg iter elt tg1 iter1 : Expr} {ifs ifs1 : List Expr} {scope : Scope} {own : List (Str × Nat)} {vs1 : List Nat} {spos : Pos} {mi mi1 : M (List D)} {t t1 : DT} {mt mt1 : M Bool} {me : M DR} (hc : X.calm = true) (hN : X.N.Nodup) (hy : X.N[i]? = some y) (hyl : X.env.scope.names.lookup y = some .local)
    (hsw : swapsWith (.ListComp elt [⟨tg, iter, ifs, 0⟩, ⟨tg1, iter1, ifs1, 0⟩] scope pos) (some (.Name y py)) spos.line X.env = pure true) (hi : PI X tg iter (tI P mi)) (ok : BlkOk X.N X.env.scope scope own)
    (hg : ∀ (s : Shared) (H : Hp) (C : Addr) (cl : List (Str × Addr)) (fp : List Addr), PG (X.blk s H scope (compEnvC scope cl C X.env) fp) tg (gT P.quiet t)) (ht : ∀ (s : Shared) (H : Hp) (C : Addr) (cl : List (Str × Addr)) (fp : List Addr), PTs (X.blk s H scope (compEnvC scope cl C X.env) fp) ifs (tT P.quiet mt))
    (hi1 : ∀ (s : Shared) (H : Hp) (C : Addr) (cl : List (Str × Addr)) (fp : List Addr), PI (X.blk s H scope (compEnvC scope cl C X.env) fp) tg1 iter1 (tI P.quiet mi1))
    (hg1 : ∀ (s : Shared) (H : Hp) (C : Addr) (cl : List (Str × Addr)) (fp : List Addr), PG (X.blk s H scope (compEnvC scope cl C X.env) fp) tg1 (gT P.quiet t1)) (ht1 : ∀ (s : Shared) (H : Hp) (C : Addr) (cl : List (Str × Addr)) (fp : List Addr), PTs (X.blk s H scope (compEnvC scope cl C X.env) fp) ifs1 (tT P.quiet mt1))
    (he : ∀ (s : Shared) (H : Hp) (C : Addr) (cl : List (Str × Addr)) (fp : List Addr), PE (X.blk s H scope (compEnvC scope cl C X.env) fp) elt (tE P.quiet me)) (hs : ∀ x, foldedSetIterable iter X.env x = pure x) (hs1 : ∀ env x, foldedSetIterable iter1 env x = pure x) (hv : ∀ i ∈ t.slots, i ∈ own.map (·.2)) (hv1 : ∀ i ∈ t1.slots, i ∈ vs1) (hvv : ∀ i ∈ vs1, i ∈ own.map (·.2)) :
    PS X (.Assign [.Name y py] (.ListComp elt [⟨tg, iter, ifs, 0⟩, ⟨tg1, iter1, ifs1, 0⟩] scope pos) spos) (tS P (sSetX i (eLc2 mi t mt mi1 t1 mt1 me (own.map (·.2)) vs1))) :=
  (ps_setLc2 hc hN hy hyl hsw hi ok hvv hg ht hi1 hg1 ht1 he hs hs1).ofL fun De σ H hσ q =>
    ds_setXK (t := fun σ H Q => σ.length = X.N.length → _) (fun σ H Q q hσ => tE_of_tN (P := P) (t := fun σ H Q => σ.length = X.N.length → _) (fun σ H Q q hσ => tN_lc2 (X := X) hv hv1 hvv (fun i hi => by
      obtain ⟨p, hp, rfl⟩ := List.mem_map.mp hi
      exact (List.getElem?_eq_some_iff.mp (ok.ix p hp)).1) σ H Q hσ q) σ H Q q hσ) De σ H q hσ
end
end DL

set_option Elab.async false
set_option linter.all false
set_option maxRecDepth 100000
set_option maxHeartbeats 4000000
/-! DX18: dicts whose keys are tuples, nested to any depth below 8, over the abstract heap. -/
namespace DL
open PySem PySem.Spec PyProof.Rows L2

section
variable {X : Cx} {pins : List (Addr × Obj)} {σ : St} {H F : Hp} {s : Shared} {K : Frag}
mutual
theorem nk_is (hK : K.K = X.K) (sub : Same F H) (I : Inv X pins σ H s) : ∀ (d : D) (v : V) (u : Value) (k : NestedKey), Rp K F v d → RelV v u → nkD d = some k → NestedIs s.heap k u
  | .none, _, _, _, h, r, e => by
    cases h; cases r
    simp only [nkD, Option.some.injEq] at e
    subst e; exact .none
  | .int i, _, _, _, h, r, e => by
    cases h
    obtain ⟨t, rfl⟩ := r
    simp only [nkD, Option.some.injEq] at e
    subst e; exact .int i t
  | .str x, _, _, _, h, r, e => by
    cases h
    obtain ⟨t, rfl⟩ := r
    simp only [nkD, Option.some.injEq] at e
    subst e; exact .text x t
  | .tuple ds, _, _, _, h, r, e => by
    simp only [nkD] at e
    obtain ⟨ks, e1, rfl⟩ := Option.map_eq_some_iff.mp e
    cases h with
    | tup hs ha =>
      cases r
      obtain ⟨its, rv, ⟨o, ho, hc, n, hd⟩, _⟩ := I.tuple (sqt_mono sub (hK ▸ hs))
      exact .tup ho hc hd (nk_all hK sub I ds _ _ _ ha rv e1)
  | .bool _, _, _, _, _, _, e => by simp [nkD] at e
  | .list _, _, _, _, _, _, e => by simp [nkD] at e
  | .dict _, _, _, _, _, _, e => by simp [nkD] at e
theorem nk_all (hK : K.K = X.K) (sub : Same F H) (I : Inv X pins σ H s) : ∀ (ds : List D) (vs : List V) (us : List Value) (ks : List NestedKey), RpAll K F vs ds → Vals vs us → nkAll ds = some ks → NestedAll s.heap ks us
  | [], _, _, _, h, r, e => by
    cases h; cases r
    simp only [nkAll, Option.some.injEq] at e
    subst e; exact .nil
  | d :: ds, _, _, _, h, r, e => by
    cases h with
    | cons h1 h2 =>
      cases r with
      | cons r1 r2 =>
        simp only [nkAll] at e
        split at e
        · rename_i k ks e1 e2
          cases e
          exact .cons (nk_is hK sub I d _ _ _ h1 r1 e1) (nk_all hK sub I ds _ _ _ h2 r2 e2)
        · cases e
end
theorem tk_is (hK : K.K = X.K) (sub : Same F H) (I : Inv X pins σ H s) {d : D} {v : V} {u : Value} {k : NestedKey} (h : Rp K F v d) (r : RelV v u) (e : tkD d = some k) : ∃ b, v = .ref b ∧ u = .ref b ∧ (nestedKind X.prog X.w).is s.heap k b := by
  unfold tkD at e
  split at e
  · rename_i ds
    split at e
    · rename_i ks e1
      split at e
      · rename_i hd
        cases e
        have hn := nk_is hK sub I (.tuple ds) v u (.tup ks) h r (by simp only [nkD, e1]; rfl)
        cases h with
        | tup hs ha =>
          cases r
          exact ⟨_, rfl, rfl, hn, hd⟩
      · cases e
    · cases e
  · cases e
end

/-! ### the object -/
def getT (es : List TEn) (k : NestedKey) : Option (Addr × V) := (es.find? fun e => decide (e.1 = k)).map (·.2)
def putT (es : List TEn) (k : NestedKey) (b : Addr) (v : V) : List TEn := if (getT es k).isSome then es.map (fun e => if e.1 = k then (e.1, e.2.1, v) else e) else es ++ [(k, b, v)]
def dropT (es : List TEn) (k : NestedKey) : List TEn := es.filter fun e => decide (e.1 ≠ k)
theorem trel_get {k : NestedKey} : ∀ {es : List TEn} {xs : List (NestedKey × Addr × Value)}, Paired TRel es xs → match getT es k, atKey xs k with
    | some p, some q => p.1 = q.1 ∧ RelV p.2 q.2
    | none, none => True
    | _, _ => False
  | _, _, .nil => trivial
  | e :: es, x :: xs, .cons r t => by
    have ih := trel_get (k := k) t
    obtain ⟨r1, r2, r3⟩ := r
    unfold getT atKey at ih ⊢
    rw [List.find?_cons, List.find?_cons, ← r1]
    by_cases h : e.1 = k
    · rw [decide_eq_true h]; exact ⟨r2, r3⟩
    · rw [decide_eq_false h]; exact ih
theorem trel_some {k : NestedKey} {es : List TEn} {xs : List (NestedKey × Addr × Value)} (r : Paired TRel es xs) : (getT es k).isSome = (atKey xs k).isSome := by
  have := trel_get (k := k) r
  cases h1 : getT es k <;> cases h2 : atKey xs k <;> rw [h1, h2] at this <;> first | rfl | exact this.elim
theorem trel_map {k : NestedKey} {v : V} {u : Value} (rv : RelV v u) : ∀ {es : List TEn} {xs : List (NestedKey × Addr × Value)}, Paired TRel es xs → Paired TRel (es.map fun e => if e.1 = k then (e.1, e.2.1, v) else e) (xs.map (putAt k u))
  | _, _, .nil => .nil
  | e :: es, x :: xs, .cons r t => by
    rw [List.map_cons, List.map_cons]
    refine .cons ?_ (trel_map rv t)
    unfold putAt
    obtain ⟨r1, r2, r3⟩ := r
    rw [← r1]
    by_cases h : e.1 = k
    · rw [if_pos h, if_pos h]; exact ⟨r1 ▸ rfl, r2, rv⟩
    · rw [if_neg h, if_neg h]; exact ⟨r1, r2, r3⟩
theorem trel_snoc {e : TEn} {x : NestedKey × Addr × Value} (r : TRel e x) : ∀ {es : List TEn} {xs : List (NestedKey × Addr × Value)}, Paired TRel es xs → Paired TRel (es ++ [e]) (xs ++ [x])
  | _, _, .nil => .cons r .nil
  | _ :: _, _ :: _, .cons q t => .cons q (trel_snoc r t)
theorem trel_put {k : NestedKey} {b : Addr} {v : V} {u : Value} (rv : RelV v u) {es : List TEn} {xs : List (NestedKey × Addr × Value)} (r : Paired TRel es xs) : Paired TRel (putT es k b v) (storedH xs k b u) := by
  unfold putT storedH
  rw [trel_some r]
  by_cases h : (atKey xs k).isSome = true
  · rw [if_pos h, if_pos h]; exact trel_map rv r
  · rw [if_neg h, if_neg h]; exact trel_snoc ⟨rfl, rfl, rv⟩ r
theorem putT_len {es : List TEn} {k : NestedKey} {b : Addr} {v : V} : (putT es k b v).length ≤ es.length + 1 := by
  unfold putT
  split
  · rw [List.length_map]; omega
  · rw [List.length_append]; exact Nat.le_refl _
section
variable {X : Cx} {pins : List (Addr × Obj)} {σ : St} {H : Hp} {s : Shared} {a b : Addr} {es : List TEn} {A : Around} {E : Value → Shared → Prop} {k : NestedKey} {v : V} {r : Value}
/-- all keys are what they are said to be -/
def TKeys (X : Cx) (s : Shared) (es : List TEn) : Prop := ∀ e ∈ es, (nestedKind X.prog X.w).is s.heap e.1 e.2.1
theorem trel_keys : ∀ {es : List TEn} {xs : List (NestedKey × Addr × Value)}, Paired TRel es xs → TKeys X s es → ∀ x ∈ xs, (nestedKind X.prog X.w).is s.heap x.1 x.2.1
  | _, _, .nil, _, x, hx => by cases hx
  | e :: es, y :: xs, .cons q t, h, x, hx => by
    rcases List.mem_cons.mp hx with rfl | hx
    · obtain ⟨q1, q2, _⟩ := q
      rw [← q1, ← q2]; exact h e List.mem_cons_self
    · exact trel_keys t (fun c hc => h c (List.mem_cons_of_mem _ hc)) x hx
theorem tko_of (I : Inv X pins σ H s) (e : H a = some (TkO X.prog X.w a es)) (hk : TKeys X s es) : es.length ≤ sizeLine ∧ (a == sysModules) = false ∧ ∃ xs, Paired TRel es xs ∧ s.heap.DictOfH (nestedKind X.prog X.w) a xs := by
  obtain ⟨⟨hl, hd, xs, rel, o, ds, ep, h1, h2, h3, h4, h5⟩, _⟩ := I.hok a _ e
  exact ⟨hl, hd, xs, rel, o, ds, ep, h1, h2, h3, h4, trel_keys rel hk, h5⟩
theorem tko_ok {h : Heap} {xs : List (NestedKey × Addr × Value)} (hl : es.length ≤ sizeLine) (hd : (a == sysModules) = false) (rel : Paired TRel es xs) (dd : h.DictOfH (nestedKind X.prog X.w) a xs) {H' : Hp} : ObjOk X.prog X.w H' h a (TkO X.prog X.w a es) := by
  obtain ⟨o, ds, ep, h1, h2, h3, h4, _, h5⟩ := dd
  refine ⟨⟨hl, hd, xs, rel, o, ds, ep, h1, h2, h3, h4, h5⟩, ⟨o, h1⟩, ?_⟩
  rintro g1 g2 ⟨hl, hd, ys, rel, o, ds, ep, h1, h2, h3, h4, h5⟩ k
  exact ⟨hl, hd, ys, rel, o, ds, ep, k o h1, h2, h3, h4, h5⟩
theorem t_in {Q : Value → Shared → Prop} (hu : A.units + 10 < cLine) (I : Inv X pins σ H s) (e : H a = some (TkO X.prog X.w a es)) (hk : TKeys X s es) (hb : (nestedKind X.prog X.w).is s.heap k b) (h : ∀ s', Inv X pins σ H s' → Q (.bool (getT es k).isSome) s') :
    wpAny (model X.prog X.w) A (compareOp .In (.ref b) (.ref a)) Q E s := by
  obtain ⟨hl, hd, xs, rel, dd⟩ := tko_of I e hk
  refine wpAny_in_heap (show A.in1.units + 8 < cLine by show A.units + 1 + 8 < cLine; omega) hb hd dd ?_
  rw [← trel_some rel]
  exact h _ (I.tok _)
theorem t_notIn {Q : Value → Shared → Prop} (hu : A.units + 10 < cLine) (I : Inv X pins σ H s) (e : H a = some (TkO X.prog X.w a es)) (hk : TKeys X s es) (hb : (nestedKind X.prog X.w).is s.heap k b) (h : ∀ s', Inv X pins σ H s' → Q (.bool (!(getT es k).isSome)) s') :
    wpAny (model X.prog X.w) A (compareOp .NotIn (.ref b) (.ref a)) Q E s := by
  obtain ⟨hl, hd, xs, rel, dd⟩ := tko_of I e hk
  refine wpAny_notIn_heap (show A.in1.units + 8 < cLine by show A.units + 1 + 8 < cLine; omega) hb hd dd ?_
  rw [← trel_some rel]
  exact h _ (I.tok _)
theorem t_getItem {Q : Value → Shared → Prop} {p : Addr × V} (hu : A.units + 10 < cLine) (I : Inv X pins σ H s) (e : H a = some (TkO X.prog X.w a es)) (hk : TKeys X s es) (hb : (nestedKind X.prog X.w).is s.heap k b) (hp : getT es k = some p) (h : ∀ w' s', Inv X pins σ H s' → RelV p.2 w' → Q w' s') :
    wpAny (model X.prog X.w) A (getItem (.ref a) (.ref b)) Q E s := by
  obtain ⟨hl, hd, xs, rel, dd⟩ := tko_of I e hk
  have g := trel_get (k := k) rel
  rw [hp] at g
  cases hq : atKey xs k with
  | none => rw [hq] at g; exact g.elim
  | some q =>
    rw [hq] at g
    exact wpAny_getItem_heap (show A.in1.units + 8 < cLine by show A.units + 1 + 8 < cLine; omega) hb dd hq (h _ _ (I.tok _) g.2)
theorem t_setItem {Q : Unit → Shared → Prop} (hu : A.units + 10 < cLine) (I : Inv X pins σ H s) (e : H a = some (TkO X.prog X.w a es)) (hk : TKeys X s es) (hb : (nestedKind X.prog X.w).is s.heap k b) (rv : RelV v r) (hl1 : es.length < sizeLine) (h : ∀ s', Inv X pins σ (upd H a (TkO X.prog X.w a (putT es k b v))) s' → Q () s') :
    wpAny (model X.prog X.w) A (setItem (.ref a) (.ref b) r) Q E s := by
  obtain ⟨hl, hd, xs, rel, dd⟩ := tko_of I e hk
  refine wpAny_setItem_heap (hsz := by rw [← Paired.length rel]; exact hl) (show A.in1.units + 8 < cLine by show A.units + 1 + 8 < cLine; omega) hb dd fun h' dd' hs => h _ ?_
  have he : ∃ q, h'.get? a = some q := let ⟨q, _, _, hq, _⟩ := dd'; ⟨q, hq⟩
  exact d_write I (by rw [e]; exact True.intro) hs he (tko_ok (by have := putT_len (es := es) (k := k) (b := b) (v := v); omega) hd (trel_put rv rel) dd')
/-- an empty dict may be taken for one with such keys -/
theorem tko_empty (I : Inv X pins σ H s) (e : H a = some (.dK [])) : Inv X pins σ (upd H a (TkO X.prog X.w a [])) s := by
  obtain ⟨z, hd, vs, rel, o, ds, ep, h1, h2, h3, h4, h5, h6⟩ := dk_of I.hok e
  cases rel
  have hds : ds.toList = [] := by
    have := h5.length
    exact List.eq_nil_of_length_eq_zero this
  have ok : ObjOk X.prog X.w (upd H a (TkO X.prog X.w a [])) s.heap a (TkO X.prog X.w a []) :=
    tko_ok (X := X) (es := []) (xs := []) (Nat.zero_le _) hd .nil ⟨o, ds, ep, h1, h2, h3, hds, fun x hx => absurd hx (List.not_mem_nil), List.nodup_nil⟩
  exact d_write (h' := s.heap) (t' := s.toks) I (by rw [e]; exact True.intro) ⟨rfl, fun _ _ => rfl⟩ ⟨o, h1⟩ ok
end
end DL

set_option Elab.async false
set_option linter.all false
set_option maxRecDepth 100000
set_option maxHeartbeats 4000000
/-! DX19: own dicts. -/
namespace DL
open PySem PySem.Spec PyProof.Rows L2

section
variable {X : Cx} {P : Ps} {pos : Pos}
def nDic : M Unit := fun ρ => some (.ok (), ρ ++ [.dic []])
theorem dn_dic : PE X (.Dict [] [] pos) (tN P nDic) := pe_dnewK.of fun σ H Q q => by
  obtain ⟨c, F, τ, ρ, R, q⟩ := q
  intro p hp
  exact q F _ _ (Same.refl F) (R.pushO hp (.inl ⟨[], rfl, .nil⟩))

/-! ### keys, entries -/
/-- a key carried by value -/
def lkD : D → Option Key
  | .int i => some (.inl i)
  | .str x => some (.inr x)
  | _ => none
theorem lk_rp {K : Frag} {F : Hp} {v : V} {d : D} {k : Key} (h : Rp K F v d) (e : lkD d = some k) : v = kV k := by
  unfold lkD at e
  split at e
  · cases e; cases h; rfl
  · cases e; cases h; rfl
  · cases e
end
end DL

set_option Elab.async false
set_option linter.all false
set_option maxRecDepth 100000
set_option maxHeartbeats 4000000
/-! DX20: dicts by data: a key there or not, its value, a key given a value. -/
namespace DL
open PySem PySem.Spec PyProof.Rows L2

/-! ### by data -/
abbrev Kx := Key ⊕ NestedKey
def kxD (d : D) : Option Kx := match lkD d with
  | some k => some (.inl k)
  | none => match tkD d with
    | some k => some (.inr k)
    | none => none
def kxSame : Kx → Kx → Bool
  | .inl _, .inl _ => true
  | .inr _, .inr _ => true
  | _, _ => false
/-- the dict's keys are of the kind of k (or it has none) -/
def kxFit : List (D × D) → Kx → Bool
  | [], _ => true
  | e :: _, k => match kxD e.1 with
    | some k' => kxSame k' k
    | none => false
def dGetK (kvs : List (D × D)) (k : Kx) : Option D := (kvs.find? fun e => decide (kxD e.1 = some k)).map (·.2)
def dPutK (kvs : List (D × D)) (x : D) (k : Kx) (d : D) : List (D × D) := if (dGetK kvs k).isSome then kvs.map (fun e => if kxD e.1 = some k then (e.1, d) else e) else kvs ++ [(x, d)]
/-- the value at x, if x is there; none: not told -/
def dFind (kvs : List (D × D)) (x : D) : Option (Option D) := match kxD x with
  | some k => if kxFit kvs k then some (dGetK kvs k) else none
  | none => none
def dPut (kvs : List (D × D)) (x d : D) : Option (List (D × D)) := match kxD x with
  | some k => if kxFit kvs k && decide (kvs.length < 16777216) then some (dPutK kvs x k d) else none
  | none => none

theorem lkD_tk {d : D} {k : NestedKey} (h : tkD d = some k) : lkD d = none := by
  unfold tkD at h
  split at h
  · rfl
  · cases h
theorem kxD_l {d : D} {k : Key} (h : lkD d = some k) : kxD d = some (.inl k) := by unfold kxD; rw [h]
theorem kxD_t {d : D} {k : NestedKey} (h : tkD d = some k) : kxD d = some (.inr k) := by unfold kxD; rw [lkD_tk h, h]
theorem kxD_inl {d : D} {k : Key} (h : kxD d = some (.inl k)) : lkD d = some k := by
  unfold kxD at h
  split at h
  · rename_i k' e; cases h; exact e
  · split at h
    · cases h
    · cases h
theorem kxD_inr {d : D} {k : NestedKey} (h : kxD d = some (.inr k)) : tkD d = some k := by
  unfold kxD at h
  split at h
  · cases h
  · split at h
    · rename_i k' e; cases h; exact e
    · cases h

section
variable {K : Frag} {F : Hp}
/-- two options that answer each other -/
def OpRp (K : Frag) (F : Hp) : Option V → Option D → Prop
  | some v, some d => Rp K F v d
  | none, none => True
  | _, _ => False
theorem OpRp.isSome {o : Option V} {p : Option D} (h : OpRp K F o p) : o.isSome = p.isSome := by
  cases o <;> cases p <;> first | rfl | exact h.elim
theorem rpKv_get (k : Key) : ∀ {ks : List (Key × V)} {kvs : List (D × D)}, RpKv K F ks kvs → OpRp K F (valV ks k) (dGetK kvs (.inl k))
  | _, _, .nil => trivial
  | _, _, .int (i := i) (v := v) (kvs := ks) (d := d) (ds := kvs) h t => by
    have ih := rpKv_get k t
    unfold valV dGetK at ih ⊢
    rw [List.find?_cons, List.find?_cons]
    dsimp only
    rw [kxD_l (d := .int i) rfl]
    by_cases e : (.inl i : Key) = k
    · subst e
      rw [decide_eq_true rfl, decide_eq_true rfl]; exact h
    · rw [decide_eq_false e, decide_eq_false (fun z => e (by cases z; rfl))]; exact ih
  | _, _, .str (x := x) (v := v) (kvs := ks) (d := d) (ds := kvs) h t => by
    have ih := rpKv_get k t
    unfold valV dGetK at ih ⊢
    rw [List.find?_cons, List.find?_cons]
    dsimp only
    rw [kxD_l (d := .str x) rfl]
    by_cases e : (.inr x : Key) = k
    · subst e
      rw [decide_eq_true rfl, decide_eq_true rfl]; exact h
    · rw [decide_eq_false e, decide_eq_false (fun z => e (by cases z; rfl))]; exact ih
theorem rpTk_get (k : NestedKey) : ∀ {es : List TEn} {kvs : List (D × D)}, RpTk K F es kvs → OpRp K F ((getT es k).map (·.2)) (dGetK kvs (.inr k))
  | _, _, .nil => trivial
  | _, _, .cons (k := k') (b := b) (v := v) (es := es) (kd := kd) (d := d) (ds := kvs) hb hk h t => by
    have ih := rpTk_get k t
    unfold getT dGetK at ih ⊢
    rw [List.find?_cons, List.find?_cons]
    dsimp only
    rw [kxD_t hk]
    by_cases e : k' = k
    · subst e
      rw [decide_eq_true rfl, decide_eq_true rfl]; exact h
    · rw [decide_eq_false e, decide_eq_false (fun z => e (by cases z; rfl))]; exact ih
theorem rpKv_len : ∀ {ks : List (Key × V)} {kvs : List (D × D)}, RpKv K F ks kvs → ks.length = kvs.length
  | _, _, .nil => rfl
  | _, _, .int _ t => by rw [List.length_cons, List.length_cons, rpKv_len t]
  | _, _, .str _ t => by rw [List.length_cons, List.length_cons, rpKv_len t]
theorem rpTk_len : ∀ {es : List TEn} {kvs : List (D × D)}, RpTk K F es kvs → es.length = kvs.length
  | _, _, .nil => rfl
  | _, _, .cons _ _ _ t => by rw [List.length_cons, List.length_cons, rpTk_len t]
theorem rpKv_map {k : Key} {v : V} {d : D} (r : Rp K F v d) : ∀ {ks : List (Key × V)} {kvs : List (D × D)}, RpKv K F ks kvs → RpKv K F (ks.map fun kv => if kv.1 = k then (kv.1, v) else kv) (kvs.map fun e => if kxD e.1 = some (.inl k) then (e.1, d) else e)
  | _, _, .nil => .nil
  | _, _, .int (i := i) h t => by
    rw [List.map_cons, List.map_cons]
    dsimp only
    rw [kxD_l (d := .int i) rfl]
    by_cases e : (.inl i : Key) = k
    · rw [if_pos e, if_pos (by rw [e])]; exact .int r (rpKv_map r t)
    · rw [if_neg e, if_neg (fun z => e (by cases z; rfl))]; exact .int h (rpKv_map r t)
  | _, _, .str (x := x) h t => by
    rw [List.map_cons, List.map_cons]
    dsimp only
    rw [kxD_l (d := .str x) rfl]
    by_cases e : (.inr x : Key) = k
    · rw [if_pos e, if_pos (by rw [e])]; exact .str r (rpKv_map r t)
    · rw [if_neg e, if_neg (fun z => e (by cases z; rfl))]; exact .str h (rpKv_map r t)
theorem rpKv_snoc {k : Key} {x : D} (hx : lkD x = some k) {v : V} {d : D} (r : Rp K F v d) : ∀ {ks : List (Key × V)} {kvs : List (D × D)}, RpKv K F ks kvs → RpKv K F (ks ++ [(k, v)]) (kvs ++ [(x, d)])
  | _, _, .nil => by
    unfold lkD at hx
    split at hx
    · cases hx; exact .int r .nil
    · cases hx; exact .str r .nil
    · cases hx
  | _, _, .int h t => .int h (rpKv_snoc hx r t)
  | _, _, .str h t => .str h (rpKv_snoc hx r t)
theorem any_valV {ks : List (Key × V)} {k : Key} : (ks.any fun kv => decide (kv.1 = k)) = (valV ks k).isSome := by
  unfold valV
  rw [Option.isSome_map]
  induction ks with
  | nil => rfl
  | cons a t ih =>
    rw [List.any_cons, List.find?_cons]
    by_cases e : a.1 = k
    · rw [decide_eq_true e]; rfl
    · rw [decide_eq_false e]; simpa using ih
theorem rpKv_put {k : Key} {x : D} (hx : lkD x = some k) {v : V} {d : D} (r : Rp K F v d) {ks : List (Key × V)} {kvs : List (D × D)} (h : RpKv K F ks kvs) : RpKv K F (putK ks k v) (dPutK kvs x (.inl k) d) := by
  unfold putK dPutK
  rw [any_valV, (rpKv_get k h).isSome]
  by_cases e : (dGetK kvs (.inl k)).isSome = true
  · rw [if_pos e, if_pos e]; exact rpKv_map r h
  · rw [if_neg e, if_neg e]; exact rpKv_snoc hx r h
theorem rpTk_map {k : NestedKey} {v : V} {d : D} (r : Rp K F v d) : ∀ {es : List TEn} {kvs : List (D × D)}, RpTk K F es kvs → RpTk K F (es.map fun e => if e.1 = k then (e.1, e.2.1, v) else e) (kvs.map fun e => if kxD e.1 = some (.inr k) then (e.1, d) else e)
  | _, _, .nil => .nil
  | _, _, .cons (k := k') hb hk h t => by
    rw [List.map_cons, List.map_cons]
    dsimp only
    rw [kxD_t hk]
    by_cases e : k' = k
    · rw [if_pos e, if_pos (by rw [e])]; exact .cons hb hk r (rpTk_map r t)
    · rw [if_neg e, if_neg (fun z => e (by cases z; rfl))]; exact .cons hb hk h (rpTk_map r t)
theorem rpTk_snoc {k : NestedKey} {b : Addr} {x : D} (hb : Rp K F (.ref b) x) (hx : tkD x = some k) {v : V} {d : D} (r : Rp K F v d) : ∀ {es : List TEn} {kvs : List (D × D)}, RpTk K F es kvs → RpTk K F (es ++ [(k, b, v)]) (kvs ++ [(x, d)])
  | _, _, .nil => .cons hb hx r .nil
  | _, _, .cons h1 h2 h3 t => .cons h1 h2 h3 (rpTk_snoc hb hx r t)
theorem rpTk_put {k : NestedKey} {b : Addr} {x : D} (hb : Rp K F (.ref b) x) (hx : tkD x = some k) {v : V} {d : D} (r : Rp K F v d) {es : List TEn} {kvs : List (D × D)} (h : RpTk K F es kvs) : RpTk K F (putT es k b v) (dPutK kvs x (.inr k) d) := by
  unfold putT dPutK
  have e0 : (getT es k).isSome = (dGetK kvs (.inr k)).isSome := by
    have := (rpTk_get k h).isSome
    rwa [Option.isSome_map] at this
  rw [e0]
  by_cases e : (dGetK kvs (.inr k)).isSome = true
  · rw [if_pos e, if_pos e]; exact rpTk_map r h
  · rw [if_neg e, if_neg e]; exact rpTk_snoc hb hx r h
/-- a dict at a as data -/
def DAt (K : Frag) (F H : Hp) (a : Addr) (kvs : List (D × D)) : Prop := (∃ ks, Rd H a (.dK ks) ∧ RpKv K F ks kvs) ∨ ∃ es, H a = some (TkO K.pg K.wd a es) ∧ RpTk K F es kvs
theorem Now.dict {H : Hp} {v : V} {kvs : List (D × D)} (n : Now K F H v (.dict kvs)) (s : Same F H) : ∃ a, v = .ref a ∧ DAt K F H a kvs := by
  cases n with
  | dat h =>
    cases h with
    | dic h1 h2 => exact ⟨_, rfl, .inl ⟨_, rd_mono s h1, h2⟩⟩
    | dit h1 h2 => exact ⟨_, rfl, .inr ⟨_, s _ _ h1, h2⟩⟩
  | @own a oc e e' hF h =>
    cases oc with
    | l es => cases e'
    | d es =>
      cases e'
      refine ⟨a, e, ?_⟩
      rcases h with ⟨ks, h1, h2⟩ | ⟨es, h1, h2⟩
      · exact .inl ⟨ks, .inl h1, h2⟩
      · exact .inr ⟨es, h1, h2⟩
theorem DAt.leaf {H : Hp} {a : Addr} {kvs : List (D × D)} {k : Key} (h : DAt K F H a kvs) (hf : kxFit kvs (.inl k) = true) : (∃ ks, Rd H a (.dK ks) ∧ RpKv K F ks kvs) ∨ (kvs = [] ∧ H a = some (TkO K.pg K.wd a [])) := by
  rcases h with h | ⟨es, h1, h2⟩
  · exact .inl h
  · cases h2 with
    | nil => exact .inr ⟨rfl, h1⟩
    | cons a1 a2 a3 a4 =>
      unfold kxFit at hf
      dsimp only at hf
      rw [kxD_t a2] at hf
      cases hf
theorem DAt.tup {H : Hp} {a : Addr} {kvs : List (D × D)} {k : NestedKey} (h : DAt K F H a kvs) (hf : kxFit kvs (.inr k) = true) : (∃ es, H a = some (TkO K.pg K.wd a es) ∧ RpTk K F es kvs) ∨ (kvs = [] ∧ Rd H a (.dK [])) := by
  rcases h with ⟨ks, h1, h2⟩ | h
  · cases h2 with
    | nil => exact .inr ⟨rfl, h1⟩
    | int a1 a2 =>
      unfold kxFit at hf
      dsimp only at hf
      rw [kxD_l rfl] at hf
      cases hf
    | str a1 a2 =>
      unfold kxFit at hf
      dsimp only at hf
      rw [kxD_l rfl] at hf
      cases hf
  · exact .inl h
end

/-! ### the steps -/
section
variable {X : Cx} {pins : List (Addr × Obj)} {σ : St} {H F : Hp} {s : Shared} {a b : Addr} {es : List TEn} {A : Around} {E : Value → Shared → Prop} {k : NestedKey} {v : V} {r u : Value} {K : Frag} {kvs : List (D × D)} {x d : D} {y : V}
theorem rpTk_keys (hK : K.K = X.K) (sub : Same F H) (I : Inv X pins σ H s) : ∀ {es : List TEn} {kvs : List (D × D)}, RpTk K F es kvs → TKeys X s es
  | _, _, .nil => fun e he => by cases he
  | _, _, .cons hb hk h t => fun e he => by
    rcases List.mem_cons.mp he with rfl | he
    · obtain ⟨b', e1, e2, h3⟩ := tk_is hK sub I hb (u := .ref _) rfl hk
      cases e1
      exact h3
    · exact rpTk_keys hK sub I t e he
/-- an empty dict may be taken for one of keys by value -/
theorem tko_free (I : Inv X pins σ H s) (e : H a = some (TkO X.prog X.w a [])) : Inv X pins σ (upd H a (.dK [])) s := by
  obtain ⟨⟨hl, hd, xs, rel, o, ds, ep, h1, h2, h3, h4, h5⟩, _⟩ := I.hok a _ e
  cases rel
  have hds : ds = #[] := by
    have := congrArg List.toArray h4
    simpa using this
  subst hds
  have dd : s.heap.DictOf (mixKind X.prog X.w) a [] := ⟨o, #[], ep, h1, h2, h3, fun i hi => by simp at hi, .nil, List.nodup_nil⟩
  exact d_write (h' := s.heap) (t' := s.toks) I (by rw [e]; exact True.intro) ⟨rfl, fun _ _ => rfl⟩ ⟨o, h1⟩ (dk_new (vs := []) (Nat.zero_le _) hd .nil dd)
theorem upd_back {H : Hp} {a : Addr} {o o' : HO} (h : H a = some o) : upd (upd H a o') a o = H := by
  funext b
  by_cases e : b = a
  · subst e; rw [upd_same, h]
  · rw [upd_ne e, upd_ne e]
/-- an empty dict, of any kind -/
theorem emp_at (I : Inv X pins σ H s) (e : Rd H a (.dK [])) : (a == sysModules) = false ∧ s.heap.DictOfH (nestedKind X.prog X.w) a [] := by
  obtain ⟨z, hd, vs, rel, o, ds, ep, h1, h2, h3, h4, h5, h6⟩ := dk_rd I.hok e
  cases rel
  have hds : ds.toList = [] := by
    have := h5.length
    exact List.eq_nil_of_length_eq_zero this
  exact ⟨hd, o, ds, ep, h1, h2, h3, hds, fun x hx => absurd hx (List.not_mem_nil), List.nodup_nil⟩
theorem d_inD {Q : Value → Shared → Prop} {o : Option D} (hK : K.K = X.K) (hp : K.pg = X.prog) (hw : K.wd = X.w) (hu : A.units + 10 < cLine) (I : Inv X pins σ H s) (sub : Same F H) (g : DAt K F H a kvs) (rx : Rp K F y x) (ru : RelV y u) (hf : dFind kvs x = some o)
    (h : ∀ s', Inv X pins σ H s' → Q (.bool o.isSome) s') : wpAny (model X.prog X.w) A (compareOp .In u (.ref a)) Q E s := by
  unfold dFind at hf
  split at hf
  · rename_i kx ek
    split at hf
    · rename_i fit
      obtain rfl := Option.some.inj hf
      cases kx with
      | inl k =>
        have ey := lk_rp rx (kxD_inl ek)
        subst ey
        rcases g.leaf fit with ⟨ks, h1, h2⟩ | ⟨rfl, h1⟩
        · refine d_in (by omega) I (.inl ⟨ks, k, h1, rfl, rfl⟩) ru fun s' I' => ?_
          rw [(rpKv_get k h2).isSome]; exact h s' I'
        · rw [hp, hw] at h1
          refine d_in (by omega) (tko_free I h1) (.inl ⟨[], k, .inl upd_same, rfl, rfl⟩) ru fun s' I' => ?_
          have := tko_empty I' upd_same
          rw [upd_back h1] at this
          exact h s' this
      | inr k =>
        obtain ⟨b, rfl, rfl, hk⟩ := tk_is hK sub I rx ru (kxD_inr ek)
        rcases g.tup fit with ⟨es, h1, h2⟩ | ⟨rfl, h1⟩
        · rw [hp, hw] at h1
          refine t_in hu I h1 (rpTk_keys hK sub I h2) hk fun s' I' => ?_
          have := (rpTk_get k h2).isSome
          rw [Option.isSome_map] at this
          rw [this]; exact h s' I'
        · obtain ⟨hd, dd⟩ := emp_at I h1
          refine wpAny_in_heap (show A.in1.units + 8 < cLine by show A.units + 1 + 8 < cLine; omega) hk hd dd ?_
          exact h _ (I.tok _)
    · cases hf
  · cases hf
theorem d_notInD {Q : Value → Shared → Prop} {o : Option D} (hK : K.K = X.K) (hp : K.pg = X.prog) (hw : K.wd = X.w) (hu : A.units + 10 < cLine) (I : Inv X pins σ H s) (sub : Same F H) (g : DAt K F H a kvs) (rx : Rp K F y x) (ru : RelV y u) (hf : dFind kvs x = some o)
    (h : ∀ s', Inv X pins σ H s' → Q (.bool (!o.isSome)) s') : wpAny (model X.prog X.w) A (compareOp .NotIn u (.ref a)) Q E s := by
  unfold dFind at hf
  split at hf
  · rename_i kx ek
    split at hf
    · rename_i fit
      obtain rfl := Option.some.inj hf
      cases kx with
      | inl k =>
        have ey := lk_rp rx (kxD_inl ek)
        subst ey
        rcases g.leaf fit with ⟨ks, h1, h2⟩ | ⟨rfl, h1⟩
        · refine d_notIn (by omega) I (.inl ⟨ks, k, h1, rfl, rfl⟩) ru fun s' I' => ?_
          rw [(rpKv_get k h2).isSome]; exact h s' I'
        · rw [hp, hw] at h1
          refine d_notIn (by omega) (tko_free I h1) (.inl ⟨[], k, .inl upd_same, rfl, rfl⟩) ru fun s' I' => ?_
          have := tko_empty I' upd_same
          rw [upd_back h1] at this
          exact h s' this
      | inr k =>
        obtain ⟨b, rfl, rfl, hk⟩ := tk_is hK sub I rx ru (kxD_inr ek)
        rcases g.tup fit with ⟨es, h1, h2⟩ | ⟨rfl, h1⟩
        · rw [hp, hw] at h1
          refine t_notIn hu I h1 (rpTk_keys hK sub I h2) hk fun s' I' => ?_
          have := (rpTk_get k h2).isSome
          rw [Option.isSome_map] at this
          rw [this]; exact h s' I'
        · obtain ⟨hd, dd⟩ := emp_at I h1
          refine wpAny_notIn_heap (show A.in1.units + 8 < cLine by show A.units + 1 + 8 < cLine; omega) hk hd dd ?_
          exact h _ (I.tok _)
    · cases hf
  · cases hf
theorem d_getD {Q : Value → Shared → Prop} (hK : K.K = X.K) (hp : K.pg = X.prog) (hw : K.wd = X.w) (hu : A.units + 10 < cLine) (I : Inv X pins σ H s) (sub : Same F H) (g : DAt K F H a kvs) (rx : Rp K F y x) (ru : RelV y u) (hf : dFind kvs x = some (some d))
    (h : ∀ v w' s', Inv X pins σ H s' → Rp K F v d → RelV v w' → Q w' s') : wpAny (model X.prog X.w) A (getItem (.ref a) u) Q E s := by
  unfold dFind at hf
  split at hf
  · rename_i kx ek
    split at hf
    · rename_i fit
      have hd := Option.some.inj hf
      cases kx with
      | inl k =>
        have ey := lk_rp rx (kxD_inl ek)
        subst ey
        rcases g.leaf fit with ⟨ks, h1, h2⟩ | ⟨rfl, h1⟩
        · have q := rpKv_get k h2
          rw [hd] at q
          cases z : valV ks k with
          | none => rw [z] at q; exact q.elim
          | some v =>
            rw [z] at q
            exact d_getItem (by omega) I (.inl ⟨ks, k, h1, rfl, z.symm⟩) ru fun w' s' I' rw' => h v w' s' I' q rw'
        · cases hd
      | inr k =>
        obtain ⟨b, rfl, rfl, hk⟩ := tk_is hK sub I rx ru (kxD_inr ek)
        rcases g.tup fit with ⟨es, h1, h2⟩ | ⟨rfl, h1⟩
        · rw [hp, hw] at h1
          have q := rpTk_get k h2
          rw [hd] at q
          cases z : getT es k with
          | none => rw [z] at q; exact q.elim
          | some p =>
            rw [z] at q
            exact t_getItem hu I h1 (rpTk_keys hK sub I h2) hk z fun w' s' I' rw' => h p.2 w' s' I' q rw'
        · cases hd
    · cases hf
  · cases hf
theorem d_setD {Q : Unit → Shared → Prop} {fs : List (D × D)} (hK : K.K = X.K) (hp : K.pg = X.prog) (hw : K.wd = X.w) (hu : A.units + 10 < cLine) (I : Inv X pins σ H s) (sub : Same F H) (hF : F a = none) (g : Hold K F a (H a) (.d kvs)) (rx : Rp K F y x) (ru : RelV y u) (rd : Rp K F v d) (rr : RelV v r) (hf : dPut kvs x d = some fs)
    (h : ∀ u0 s', Hold K F a (some u0) (.d fs) → Inv X pins σ (upd H a u0) s' → Q () s') : wpAny (model X.prog X.w) A (setItem (.ref a) u r) Q E s := by
  unfold dPut at hf
  split at hf
  · rename_i kx ek
    split at hf
    · rename_i fit
      rw [Bool.and_eq_true, decide_eq_true_iff] at fit
      obtain ⟨fit, hl⟩ := fit
      obtain rfl := Option.some.inj hf
      have g' : DAt K F H a kvs := by
        rcases g with ⟨ks, h1, h2⟩ | ⟨es, h1, h2⟩
        · exact .inl ⟨ks, .inl h1, h2⟩
        · exact .inr ⟨es, h1, h2⟩
      cases kx with
      | inl k =>
        have ey := lk_rp rx (kxD_inl ek)
        subst ey
        have hx := kxD_inl ek
        rcases g with ⟨ks, h1, h2⟩ | ⟨es, h1, h2⟩
        · refine d_setItem (by omega) I (.inl ⟨ks, k, h1, rfl, by rw [rpKv_len h2, sizeLine_eq]; exact hl, rfl⟩) ru rr fun s' I' => ?_
          exact h _ s' (.inl ⟨_, rfl, rpKv_put hx rd h2⟩) I'
        · cases h2 with
          | cons a1 a2 a3 a4 =>
            unfold kxFit at fit
            dsimp only at fit
            rw [kxD_t a2] at fit
            cases fit
          | nil =>
            rw [hp, hw] at h1
            refine d_setItem (by omega) (tko_free I h1) (.inl ⟨[], k, upd_same, rfl, by rw [sizeLine_eq]; exact hl, rfl⟩) ru rr fun s' I' => ?_
            have e : upd (upd H a (.dK [])) a (.dK (putK [] k v)) = upd H a (.dK (putK [] k v)) := by
              funext b
              by_cases e : b = a
              · subst e; rw [upd_same, upd_same]
              · rw [upd_ne e, upd_ne e, upd_ne e]
            rw [e] at I'
            exact h _ s' (.inl ⟨_, rfl, rpKv_put hx rd .nil⟩) I'
      | inr k =>
        obtain ⟨b, rfl, rfl, hk⟩ := tk_is hK sub I rx ru (kxD_inr ek)
        have hx := kxD_inr ek
        rcases g with ⟨ks, h1, h2⟩ | ⟨es, h1, h2⟩
        · cases h2 with
          | nil =>
            have I0 := tko_empty I h1
            refine t_setItem hu I0 upd_same (fun e he => by cases he) hk rr (by rw [sizeLine_eq]; exact hl) fun s' I' => ?_
            have e : upd (upd H a (TkO X.prog X.w a [])) a (TkO X.prog X.w a (putT [] k b v)) = upd H a (TkO X.prog X.w a (putT [] k b v)) := by
              funext b
              by_cases e : b = a
              · subst e; rw [upd_same, upd_same]
              · rw [upd_ne e, upd_ne e, upd_ne e]
            rw [e] at I'
            exact h _ s' (.inr ⟨_, by rw [hp, hw], rpTk_put rx hx rd .nil⟩) I'
          | int a1 a2 =>
            unfold kxFit at fit
            dsimp only at fit
            rw [kxD_l rfl] at fit
            cases fit
          | str a1 a2 =>
            unfold kxFit at fit
            dsimp only at fit
            rw [kxD_l rfl] at fit
            cases fit
        · rw [hp, hw] at h1
          refine t_setItem hu I h1 (rpTk_keys hK sub I h2) hk rr (by rw [rpTk_len h2, sizeLine_eq]; exact hl) fun s' I' => ?_
          exact h _ s' (.inr ⟨_, by rw [hp, hw], rpTk_put rx hx rd h2⟩) I'
    · cases hf
  · cases hf
end

/-! ### in, not in -/
section
variable {X : Cx} {P : Ps} {a b e : Expr} {pos : Pos}
def rInY (K : Frag) (neg : Bool) : R2 := fun x y H Q => ∃ a F kvs d o, y = .ref a ∧ Same F H ∧ DAt K F H a kvs ∧ Rp K F x d ∧ dFind kvs d = some o ∧ Q (.bl (if neg then !o.isSome else o.isSome)) H
theorem op_inY {K : Frag} (hK : K.K = X.K) (hp : K.pg = X.prog) (hw : K.wd = X.w) (hu : X.A.units + 65 < cLine) : OpR X (compareOp .In) (rInY K false) := by
  intro pins s σ H x y v u Q I rx ry h
  obtain ⟨a, F, kvs, d, o, rfl, sub, g, rp, hf, q⟩ := h
  cases ry
  exact d_inD hK hp hw (by omega) I sub g rp rx hf fun s' I' => ⟨.bl o.isSome, H, I', rfl, q⟩
theorem op_ninY {K : Frag} (hK : K.K = X.K) (hp : K.pg = X.prog) (hw : K.wd = X.w) (hu : X.A.units + 65 < cLine) : OpR X (compareOp .NotIn) (rInY K true) := by
  intro pins s σ H x y v u Q I rx ry h
  obtain ⟨a, F, kvs, d, o, rfl, sub, g, rp, hf, q⟩ := h
  cases ry
  exact d_notInD hK hp hw (by omega) I sub g rp rx hf fun s' I' => ⟨.bl (!o.isSome), H, I', rfl, q⟩
def inY (d e : D) : Option D := match e with
  | .dict kvs => (dFind kvs d).map fun o => .bool o.isSome
  | e => inX d e
def ninY (d e : D) : Option D := match e with
  | .dict kvs => (dFind kvs d).map fun o => .bool (!o.isSome)
  | e => ninX d e
/-- keys are frozen -/
theorem Now.key {K : Frag} {F H : Hp} {v : V} {d : D} {k : Kx} (n : Now K F H v d) (h : kxD d = some k) : Rp K F v d := by
  cases n with
  | dat h => exact h
  | @own a oc e e' hF hh =>
    subst e'
    cases oc <;> cases h
theorem dFind_key {kvs : List (D × D)} {d : D} {o : Option D} (h : dFind kvs d = some o) : ∃ k, kxD d = some k := by
  unfold dFind at h
  split at h
  · exact ⟨_, by assumption⟩
  · cases h
theorem opd_inY (hK : P.K.K = X.K) : OpD X P (fun x y H Q => rInY P.K false x y H Q ∨ (rInD X.K x y H Q ∨ rIn X.K false x y H Q)) inY := by
  intro c F H L ρ x y d e z Q R n1 n2 hz q
  have old : inX d e = some z → rInY P.K false x y H Q ∨ (rInD X.K x y H Q ∨ rIn X.K false x y H Q) := fun h => .inr (opd_inX hK c F H L ρ x y d e z Q R n1 n2 h q)
  cases e with
  | dict kvs =>
    obtain ⟨o, ho, rfl⟩ := Option.map_eq_some_iff.mp (show (dFind kvs d).map (fun o => PyData.bool o.isSome) = some z from hz)
    obtain ⟨k, hk⟩ := dFind_key ho
    obtain ⟨a, rfl, g⟩ := n2.dict R.sub
    exact .inl ⟨a, F, kvs, d, o, rfl, R.sub, g, n1.key hk, ho, q F H _ (Same.refl F) R (.bl _)⟩
  | _ => exact old hz
theorem opd_ninY (hK : P.K.K = X.K) : OpD X P (fun x y H Q => rInY P.K true x y H Q ∨ (rNotInD X.K x y H Q ∨ rIn X.K true x y H Q)) ninY := by
  intro c F H L ρ x y d e z Q R n1 n2 hz q
  have old : ninX d e = some z → rInY P.K true x y H Q ∨ (rNotInD X.K x y H Q ∨ rIn X.K true x y H Q) := fun h => .inr (opd_ninX hK c F H L ρ x y d e z Q R n1 n2 h q)
  cases e with
  | dict kvs =>
    obtain ⟨o, ho, rfl⟩ := Option.map_eq_some_iff.mp (show (dFind kvs d).map (fun o => PyData.bool (!o.isSome)) = some z from hz)
    obtain ⟨k, hk⟩ := dFind_key ho
    obtain ⟨a, rfl, g⟩ := n2.dict R.sub
    exact .inl ⟨a, F, kvs, d, o, rfl, R.sub, g, n1.key hk, ho, q F H _ (Same.refl F) R (.bl _)⟩
  | _ => exact old hz
end
end DL

set_option Elab.async false
set_option linter.all false
set_option maxRecDepth 100000
set_option maxHeartbeats 4000000
/-! DX21: d[k], d[k] = v of own dicts; while; new lists by operators; own objects stored side by side. -/
namespace DL
open PySem PySem.Spec PyProof.Rows L2

section
variable {X : Cx} {P : Ps} {a b e : Expr} {pos : Pos} {c : Ct} {F H : Hp} {σ : L2.St} {τ : List (Option V)}
/-! ### d[k] -/
def dgD (d e : D) : Option D := match d with
  | .dict kvs => match dFind kvs e with
    | some o => o
    | none => none
  | _ => none
theorem dAt_typeIs {K : Frag} {pins : List (Addr × Obj)} {s : Shared} {a : Addr} {kvs : List (D × D)} (hp : K.pg = X.prog) (hw : K.wd = X.w) (I : Inv X pins σ H s) (g : DAt K F H a kvs) : s.TypeIs (.ref a) "dict" := by
  rcases g with ⟨ks, h1, _⟩ | ⟨es, h1, _⟩
  · obtain ⟨_, _, vs, _, dd⟩ := dk_rd I.hok h1
    exact dd.typeIs
  · rw [hp, hw] at h1
    obtain ⟨⟨hl, hd, xs, rel, o, ds, ep, h1, h2, h3, h4, h5⟩, _⟩ := I.hok a _ h1
    exact ⟨o, h1, h2.1⟩
def rDg (K : Frag) : R2 := fun x y H Q => ∃ a F kvs d r, x = .ref a ∧ Same F H ∧ DAt K F H a kvs ∧ Rp K F y d ∧ dFind kvs d = some (some r) ∧ ∀ v, Rp K F v r → Q v H
theorem pe_dgD {K : Frag} {ta tb : L2.TE} (hK : K.K = X.K) (hp : K.pg = X.prog) (hw : K.wd = X.w) (hu : X.A.units + 65 < cLine) (ha : PE X a ta) (hb : PE X b tb) (hs : NoSl b) : PE X (.Subscript a b pos) (tOp (rDg K) ta tb) := by
  refine ⟨fun pins s σ H Q I h => ?_⟩
  refine subD_of PySem.F.slot_dict_getitem.lookup hs (thn (ha.run pins s σ H _ I h) fun u s1 ⟨x, H1, I1, rx, q1⟩ => thn (hb.run pins s1 σ H1 _ I1 q1) fun iv s2 ⟨y, H2, I2, ry, a, F, kvs, d, r, ex, sub, g, rp, hf, q2⟩ => ?_)
  subst ex
  obtain rfl : u = Value.ref a := rx
  exact ⟨dAt_typeIs hp hw I2 g, d_getD hK hp hw (by omega) I2 sub g rp ry hf fun v w' s3 I3 rp' rw' => ⟨v, H2, I3, rw', q2 v rp'⟩⟩
theorem opd_dg : OpD X P (rDg P.K) dgD := by
  intro c F H L ρ x y d e z Q R n1 n2 hz q
  unfold dgD at hz
  split at hz
  · rename_i kvs
    split at hz
    · rename_i o ho
      subst hz
      obtain ⟨k, hk⟩ := dFind_key ho
      obtain ⟨a, rfl, g⟩ := n1.dict R.sub
      exact ⟨a, F, kvs, e, z, rfl, R.sub, g, n2.key hk, ho, fun v rp => q F H v (Same.refl F) R rp⟩
    · cases hz
  · cases hz
theorem de_dg {ma mb : M DR} (hK : P.K.K = X.K) (hp : P.K.pg = X.prog) (hw : P.K.wd = X.w) (hu : X.A.units + 65 < cLine) (ha : PE X a (tE P ma)) (hb : PE X b (tE P mb)) (hs : NoSl b) : PE X (.Subscript a b pos) (tE P (eOp2 dgD ma mb)) :=
  (pe_dgD hK hp hw hu ha hb hs).of (tE_op2 (X := X) opd_dg)

/-! ### d[k] = v -/
def putAtD (p : Nat) (k d : D) : M Unit := fun ρ => match ρ[p]? with
  | some (.ow (.d kvs)) => match dPut kvs k d with
    | some es => some (.ok (), ρ.set p (.dic es))
    | none => none
  | _ => none
theorem putAtD_some {p : Nat} {k d : D} {ρ : List DV} {o : Except Ex Unit × List DV} (h : putAtD p k d ρ = some o) : ∃ kvs es, ρ[p]? = some (.dic kvs) ∧ dPut kvs k d = some es ∧ o = (.ok (), ρ.set p (.dic es)) := by
  unfold putAtD at h
  split at h
  · split at h
    · cases h
      exact ⟨_, _, by assumption, by assumption, rfl⟩
    · cases h
  · cases h
def rSetDD (K : Frag) : TSet := fun o i v H Q => ∃ a F kvs kd d es, o = .ref a ∧ Same F H ∧ F a = none ∧ Hold K F a (H a) (.d kvs) ∧ Rp K F i kd ∧ Rp K F v d ∧ dPut kvs kd d = some es ∧ ∀ u0, Hold K F a (some u0) (.d es) → Q (upd H a u0)
theorem set_dictD {K : Frag} (hK : K.K = X.K) (hp : K.pg = X.prog) (hw : K.wd = X.w) (hu : X.A.units + 65 < cLine) : PSet X (rSetDD K) := by
  intro pins s σ H o i v ov iv u Q I ro ri rv h
  obtain ⟨a, F, kvs, kd, d, es, rfl, sub, hF, g, rk, rd, hf, q⟩ := h
  cases ro
  exact d_setD hK hp hw (by omega) I sub hF g rk ri rd rv hf fun u0 s' g' I' => ⟨_, I', q u0 g'⟩
def sStD (me mo mi : M DR) : M Fl := M.bind me fun r => M.bind (frz r) fun d => M.bind mo fun ro => M.bind mi fun ri => M.bind (rd ri) fun k => match ro with
  | .loc p => M.bind (putAtD p k d) fun _ => M.ok .nx
  | _ => M.no
theorem dPut_key {kvs : List (D × D)} {x d : D} {es : List (D × D)} (h : dPut kvs x d = some es) : ∃ k, kxD x = some k := by
  unfold dPut at h
  split at h
  · exact ⟨_, by assumption⟩
  · cases h
theorem rdM (r : DR) (ρ : List DV) : M.bind (rd r) (fun k => M.ok k) ρ = rd r ρ := by
  unfold M.bind
  cases rd r ρ with
  | none => rfl
  | some o => obtain ⟨o, r⟩ := o; cases o <;> rfl
theorem ds_stD {o i : Expr} {tpos : Pos} {me mo mi : M DR} (hK : P.K.K = X.K) (hp : P.K.pg = X.prog) (hw : P.K.wd = X.w) (hu : X.A.units + 65 < cLine) (he : PE X e (tE P me)) (ho : PE X o (tE P mo)) (hi : PE X i (tE P mi)) (hs : swapsWithSole [.Subscript o i tpos] e pos.line X.env = pure false) (hww : swappedStores [.Subscript o i tpos] e X.env = pure none)
    (h1 : (assignEach [.Subscript o i tpos] X.env).map (·.2) = [assign (.Subscript o i tpos) X.env]) (ha : ∀ v, assign (.Subscript o i tpos) X.env v = (do
      let ov ← holding [v] (eval o X.env)
      let iv ← holding [v, ov] (eval i X.env)
      standAt tpos
      holding [v, ov, iv] (setItem ov iv v)
      release [v, ov, iv] [])) : PS X (.Assign [.Subscript o i tpos] e pos) (tS P (sStD me mo mi)) := (ps_asg he (pg_sub ho hi (set_dictD hK hp hw hu) ha) hs hww h1).of fun De σ H q => by
  obtain ⟨c, F, ρ, R, q⟩ := q
  refine ⟨c, F, [], ρ, nilτ R, (HoS.bind σ q).mono fun r ρ1 F1 H1 s1 R1 q1 v hv => ?_⟩
  obtain ⟨d, F2, ρ2, s2, R2, r2, q2, _⟩ := HoS.frz q1 (nilτ' R1) (by rw [List.append_nil] at hv; exact hv)
  refine ⟨c, F2, [], ρ2, nilτ R2, (HoS.bind σ q2).mono fun ro ρ3 F3 H3 s3 R3 q3 vo hvo => ?_⟩
  refine ⟨c, F3, [], ρ3, R3, (HoS.bind σ q3).mono fun ri ρ4 F4 H4 s4 R4 q4 vi hvi => ?_⟩
  have q5 := HoS.bind σ q4
  have q6 : Ho P c F4 σ [] (M.bind (rd ri) (fun k => M.ok k) ρ4) fun k ρ5 F5 _ => HoS P c F5 ((match ro with
      | .loc p => M.bind (putAtD p k d) fun _ => M.ok Fl.nx
      | _ => M.no) ρ5) De := by rw [rdM]; exact q5
  obtain ⟨k, e1, q7, n⟩ := Ho.rd q6 R4 hvi
  have q8 := Ho.now q7 R4
  cases ro with
  | dat d' => exact (show False from q8).elim
  | exc c d => exact (show False from q8).elim
  | loc p =>
    dsimp only at q8
    unfold M.bind at q8
    cases z : putAtD p k d ρ4 with
    | none => rw [z] at q8; exact (show False from q8).elim
    | some o =>
      obtain ⟨kvs, es, ex, fx, rfl⟩ := putAtD_some z
      rw [z] at q8
      obtain ⟨kk, hk⟩ := dPut_key fx
      have rk : Rp P.K F4 vi k := by
        rcases n with n | ⟨a', oc, _, e2, _⟩
        · exact n
        · subst e2; cases oc <;> cases hk
      obtain ⟨a, e1, e2, e3⟩ := R4.slot p _ _ ex hvo
      cases e1
      refine ⟨a, F4, kvs, k, d, es, rfl, R4.sub, e2, e3, rk, (r2.mono s3).mono s4, fx, fun u0 g => ?_⟩
      exact q8 σ F4 _ (Same.refl _) (nilτ' (R4.writeO ex rfl hvo g (fun z => by cases z)))

/-! ### while -/
def whGo (mc : M Bool) (mb : M Fl) : Nat → M Fl
  | 0 => M.no
  | n + 1 => M.bind mc fun b => if b = true then M.bind mb fun f => match f with
      | .nx => whGo mc mb n
      | .cnt => whGo mc mb n
      | .brk => M.ok .nx
      | .ret r => M.ok (.ret r)
    else M.ok .nx
open Classical in
noncomputable def sWhile (mc : M Bool) (mb : M Fl) : M Fl := fun ρ => if h : ∃ n, whGo mc mb n ρ ≠ none then whGo mc mb h.choose ρ else none
theorem whGo_more {mc : M Bool} {mb : M Fl} : ∀ (n k : Nat) (ρ : List DV) (o : Except Ex Fl × List DV), whGo mc mb n ρ = some o → whGo mc mb (n + k) ρ = some o
  | 0, _, _, _, h => by cases h
  | n + 1, k, ρ, o, h => by
    rw [Nat.succ_add]
    unfold whGo at h ⊢
    unfold M.bind at h ⊢
    match z : mc ρ with
    | none => rw [z] at h; cases h
    | some (.error x, ρ1) => rw [z] at h; exact h
    | some (.ok false, ρ1) => rw [z] at h; exact h
    | some (.ok true, ρ1) =>
      rw [z] at h
      simp only [if_true] at h ⊢
      match y : mb ρ1 with
      | none => rw [y] at h; cases h
      | some (.error x, ρ2) => rw [y] at h; exact h
      | some (.ok .nx, ρ2) => rw [y] at h; exact whGo_more n k ρ2 o h
      | some (.ok .cnt, ρ2) => rw [y] at h; exact whGo_more n k ρ2 o h
      | some (.ok .brk, ρ2) => rw [y] at h; exact h
      | some (.ok (.ret r), ρ2) => rw [y] at h; exact h
theorem sWhile_at {mc : M Bool} {mb : M Fl} {n : Nat} {ρ : List DV} {o : Except Ex Fl × List DV} (h : whGo mc mb n ρ = some o) : sWhile mc mb ρ = some o := by
  unfold sWhile
  have ex : ∃ n, whGo mc mb n ρ ≠ none := ⟨n, by rw [h]; simp⟩
  rw [dif_pos ex]
  cases z : whGo mc mb ex.choose ρ with
  | none => exact absurd z ex.choose_spec
  | some o' =>
    have h1 := whGo_more n ex.choose ρ o h
    have h2 := whGo_more ex.choose n ρ o' z
    rw [Nat.add_comm, h1] at h2
    exact h2.symm
theorem sWhile_some {mc : M Bool} {mb : M Fl} {ρ : List DV} {o : Except Ex Fl × List DV} (h : sWhile mc mb ρ = some o) : ∃ n, whGo mc mb n ρ = some o := by
  unfold sWhile at h
  split at h
  · rename_i ex; exact ⟨ex.choose, h⟩
  · cases h
theorem ds_while {cx : Expr} {body : List Stmt} {mc : M Bool} {mb : M Fl} (hp : PassesOwn (model X.prog X.w) X.A X.env X.xe) (hc : PT X cx (tT P mc)) (hb : PSs X body (tS P mb)) : PS X (.While cx body [] pos) (tS P (sWhile mc mb)) := (ps_while hp hc hb).of fun De σ H q => by
  obtain ⟨c, F, ρ, R, q⟩ := q
  refine ⟨fun n σ H => ∃ F ρ, Rl P.K c F ρ σ H ∧ HoS P c F (whGo mc mb n ρ) De, ?_, ?_⟩
  · cases z : sWhile mc mb ρ with
    | none => rw [z] at q; exact (show False from q).elim
    | some o =>
      obtain ⟨n, hn⟩ := sWhile_some z
      rw [z] at q
      exact ⟨n, F, ρ, R, by rw [hn]; exact q⟩
  · rintro n σ H ⟨F, ρ, R, q⟩
    cases n with
    | zero => exact (show False from q).elim
    | succ n =>
      unfold whGo at q
      refine ⟨c, F, [], ρ, nilτ R, (HoS.bind σ q).mono fun b ρ1 F1 H1 s1 R1 q1 => ?_⟩
      cases b with
      | false => exact q1 σ F1 H1 (Same.refl _) (nilτ' R1)
      | true =>
        rw [if_pos rfl] at q1 ⊢
        refine ⟨fun σ' H' => ∃ F ρ, Rl P.K c F ρ σ' H' ∧ HoS P c F (whGo mc mb n ρ) De, fun σ' H' w => ⟨n, Nat.lt_succ_self n, w⟩, c, F1, ρ1, nilτ' R1, ?_⟩
        unfold M.bind at q1
        match z : mb ρ1 with
        | none => rw [z] at q1; exact q1
        | some (.error x, ρ2) => rw [z] at q1; exact q1
        | some (.ok .nx, ρ2) => rw [z] at q1; exact fun σ' F' H' s' R' => ⟨F', ρ2, R', HoS.from q1 s'⟩
        | some (.ok .cnt, ρ2) => rw [z] at q1; exact fun σ' F' H' s' R' => ⟨F', ρ2, R', HoS.from q1 s'⟩
        | some (.ok .brk, ρ2) => rw [z] at q1; exact q1
        | some (.ok (.ret r), ρ2) => rw [z] at q1; exact q1

/-! ### new lists by operators -/
/-- an operator that makes a list -/
def NwD (X : Cx) (P : Ps) (r : R2) (f : D → D → Option (List D)) : Prop :=
  ∀ (c : Ct) (F H : Hp) (L : List (Option V)) (ρ : List DV) (x y : V) (d e : D) (z : List D) (Q : VK), Rl P.K c F ρ L H → Now P.K F H x d → Now P.K F H y e → f d e = some z →
    (∀ p xs, H p = none → RpAll P.K F xs z → Q (.ref p) (upd H p (.lst xs))) → r x y H Q
def nOp2 (f : D → D → Option (List D)) (ma mb : M DR) : M Unit := M.bind ma fun x => M.bind mb fun y => M.bind (rd x) fun d => M.bind (rd y) fun e => M.bind (M.opt (f d e)) fun z => push z
theorem nowN {c : Ct} {F H : Hp} {r : DR} {k : D → M Unit} {ρ : List DV} {v : V} {Φ : List DV → Hp → Hp → V → Prop} (h : HoN P c F σ τ (M.bind (DL.rd r) k ρ) Φ) (R : Rl P.K c F ρ (σ ++ τ) H) (hv : RefV P.K F (σ ++ τ) v r) : ∃ d, Now P.K F H v d ∧ HoN P c F σ τ (k d ρ) Φ := by
  have q := HoN.bind h
  have q' : Ho P c F σ τ (M.bind (rd r) (fun k => M.ok k) ρ) fun d ρ1 F1 _ => HoN P c F1 σ τ (k d ρ1) Φ := by rw [rdM]; exact q
  obtain ⟨d, q1, q2⟩ := Ho.now1 q' R hv
  exact ⟨d, q2, Ho.now q1 R⟩
theorem tN_op2 {r : R2} {f : D → D → Option (List D)} {ma mb : M DR} (h : NwD X P r f) (σ : L2.St) (H : Hp) (Q : VK) (q : tN P (nOp2 f ma mb) σ H Q) : tOp r (tE P ma) (tE P mb) σ H Q := by
  obtain ⟨c, F, τ, ρ, R, q⟩ := q
  refine ⟨c, F, τ, ρ, R, (HoN.bind q).mono fun x ρ1 F1 H1 s1 R1 q1 v hv => ?_⟩
  refine ⟨c, F1, τ, ρ1, R1, (HoN.bind q1).mono fun y ρ2 F2 H2 s2 R2 q2 u hu => ?_⟩
  obtain ⟨d, n1, q3⟩ := nowN q2 R2 (hv.mono s2)
  obtain ⟨e, n2, q4⟩ := nowN q3 R2 hu
  cases z : f d e with
  | none => unfold M.bind M.opt at q4; rw [z] at q4; exact (show False from q4).elim
  | some l =>
    unfold M.bind M.opt at q4; rw [z] at q4
    exact h c F2 H2 (σ ++ τ) ρ2 v u d e l Q R2 n1 n2 z fun p xs hp rx => Ho.push q4 R2 hp rx
def catF (d e : D) : Option (List D) := match d, e with
  | .list xs, .list ys => if xs.length + ys.length ≤ 16777216 then some (xs ++ ys) else none
  | _, _ => none
theorem nwd_cat (hK : P.K.K = X.K) : NwD X P (rCatL X.K) catF := by
  intro c F H L ρ x y d e z Q R n1 n2 hz q
  unfold catF at hz
  split at hz
  · rename_i xs ys
    split at hz
    · rename_i hl
      obtain rfl := Option.some.inj hz
      obtain ⟨a1, vs, rfl, h1, r1⟩ := n1.list R.sub
      obtain ⟨a2, ws, rfl, h2, r2⟩ := n2.list R.sub
      exact ⟨a1, a2, vs, ws, rfl, rfl, hK ▸ h1, hK ▸ h2, by rw [r1.length, r2.length, sizeLine_eq]; exact hl, fun p hp => q p _ hp (r1.append r2)⟩
    · cases hz
  · cases hz
theorem dn_add {ma mb : M DR} (hK : P.K.K = X.K) (ha : PE X a (tE P ma)) (hb : PE X b (tE P mb)) : PE X (.BinOp a .Add b pos) (tN P (nOp2 catF ma mb)) := (pe_op op_catL ha hb).of (tN_op2 (nwd_cat hK))
def nOp1 (f : D → Option (List D)) (ma : M DR) : M Unit := M.bind ma fun x => M.bind (rd x) fun d => M.bind (M.opt (f d)) fun z => push z
def revLF : D → Option (List D)
  | .list xs => some xs.reverse
  | _ => none
theorem dn_rev {k : Nat} {p1 p2 p3 : Pos} {m : M DR} (hK : P.K.K = X.K) (he : PE X e (tE P m)) : PE X (.Subscript e (.Slice none none (some (.UnaryOp .USub (.Constant (.int 1) k p1) p2)) p3) pos) (tN P (nOp1 revLF m)) := (pe_rev he).of fun σ H Q q => by
  obtain ⟨c, F, τ, ρ, R, q⟩ := q
  refine ⟨c, F, τ, ρ, R, (HoN.bind q).mono fun x ρ1 F1 H1 s1 R1 q1 v hv => ?_⟩
  obtain ⟨d, n1, q3⟩ := nowN q1 R1 hv
  cases d with
  | list xs =>
    obtain ⟨a1, vs, rfl, h1, r1⟩ := n1.list R1.sub
    exact ⟨a1, vs, rfl, .inl ⟨hK ▸ h1, fun p hp => Ho.push q3 R1 hp r1.reverse⟩⟩
  | _ => exact (show False from q3).elim
/-- a built-in that makes a list -/
def NcD (P : Ps) (r : List V → Hp → VK → Prop) (f : List D → Option (List D)) : Prop :=
  ∀ (c : Ct) (F H : Hp) (L : List (Option V)) (ρ : List DV) (vs : List V) (ds z : List D) (Q : VK), Rl P.K c F ρ L H → Paired (Now P.K F H) vs ds → f ds = some z →
    (∀ p xs, H p = none → RpAll P.K F xs z → Q (.ref p) (upd H p (.lst xs))) → r vs H Q
def nCB (f : List D → Option (List D)) (ms : M (List DR)) : M Unit := M.bind ms fun rs => M.bind (rdAll rs) fun ds => M.bind (M.opt (f ds)) fun z => push z
theorem rdAllM (rs : List DR) (ρ : List DV) : M.bind (rdAll rs) (fun k => M.ok k) ρ = rdAll rs ρ := by
  unfold M.bind
  cases rdAll rs ρ with
  | none => rfl
  | some o => obtain ⟨o, r⟩ := o; cases o <;> rfl
theorem tN_cb {r : List V → Hp → VK → Prop} {f : List D → Option (List D)} {ms : M (List DR)} (h : NcD P r f) (σ : L2.St) (H : Hp) (Q : VK) (q : tN P (nCB f ms) σ H Q) : tCB r (tA P ms) σ H Q := by
  obtain ⟨c, F, τ, ρ, R, q⟩ := q
  refine ⟨c, F, τ, ρ, R, (HoN.bind q).mono fun rs ρ1 F1 H1 s1 R1 q1 vs hvs => ?_⟩
  have q' : Ho P c F1 σ τ (M.bind (rdAll rs) (fun k => M.ok k) ρ1) fun ds ρ2 F2 _ => HoN P c F2 σ τ (M.bind (M.opt (f ds)) (fun z => push z) ρ2) fun _ _ H' v => Q v H' := by rw [rdAllM]; exact HoN.bind q1
  obtain ⟨ds, n, q2⟩ := Ho.rdAll q' R1 hvs
  have q3 := Ho.now q2 R1
  cases z : f ds with
  | none => unfold M.bind M.opt at q3; rw [z] at q3; exact (show False from q3).elim
  | some l =>
    unfold M.bind M.opt at q3; rw [z] at q3
    exact h c F1 H1 (σ ++ τ) ρ1 vs ds l Q R1 n z fun p xs hp rx => Ho.push q3 R1 hp rx
theorem dn_cty {x : Str} {p : Pos} {es : List Expr} {T : String} {r : List V → Hp → VK → Prop} {f : List D → Option (List D)} {ms : M (List DR)} (hc : CallR X (.type T) r) (h : NcD P r f) (hg : Gl X x) (hm : X.mg x = none) (hv : bootBuiltins x = some (.type T)) (ha : PA X (e :: es) (tA P ms)) (hn : x ≠ "__name__") (hdb : (x == ("__debug__" : Str)) = false)
    (he : starEach (e :: es) X.env = (false, eval e X.env) :: starEach es X.env) (hpl : (backTo pos (starEach es X.env)).any (·.1) = false) : PE X (.Call (.Name x p) (e :: es) [] pos) (tN P (nCB f ms)) := (pe_callTy hc hg hm hv ha hn hdb he hpl).of (tN_cb h)
def listLF : List D → Option (List D)
  | [.list xs] => some xs
  | [.tuple xs] => some xs
  | _ => none
theorem ncd_list (hK : P.K.K = X.K) : NcD P (fun xs H Q => ∃ p ys, xs = [.ref p] ∧ (SqL X.K H p ys ∨ SqT X.K H p ys) ∧ ∀ l, H l = none → Q (.ref l) (upd H l (.lst ys))) listLF := by
  intro c F H L ρ vs ds z Q R n hz q
  unfold listLF at hz
  split at hz
  · cases wid hz
    obtain ⟨v, rfl, n0⟩ := now1 n
    obtain ⟨a1, ws, rfl, h1, r1⟩ := n0.list R.sub
    exact ⟨a1, ws, rfl, .inl (hK ▸ h1), fun l hl => q l _ hl r1⟩
  · cases wid hz
    obtain ⟨v, rfl, n0⟩ := now1 n
    obtain ⟨a1, ws, rfl, h1, h2, r1⟩ := n0.tuple R.sub
    exact ⟨a1, ws, rfl, .inr (hK ▸ h1), fun l hl => q l _ hl r1⟩
  · cases hz
end
end DL

set_option Elab.async false
set_option linter.all false
set_option maxRecDepth 100000
set_option maxHeartbeats 4000000
/-! DX22: x, y = .. where new objects are stored side by side. -/
namespace DL
open PySem PySem.Spec PyProof.Rows L2

section
variable {X : Cx} {P : Ps} {a b e3 : Expr} {pos : Pos} {c : Ct} {F H : Hp} {σ : L2.St} {τ : List (Option V)}
theorem HoN.calm {m : M Unit} {k : Unit → M Fl} {ρ : List DV} {De : Ends} (h : HoS P c F (M.bind (calmly m) k ρ) De) : HoN P c F σ τ (m ρ) fun ρ1 F1 _ _ => HoS P c F1 (k () ρ1) De := by
  unfold M.bind calmly at h
  match q : m ρ with
  | none => rw [q] at h; exact h
  | some (.ok a, ρ1) => rw [q] at h; exact fun F1 _ v s _ => HoS.from h s
  | some (.error x, ρ1) => rw [q] at h; exact (show False from h).elim
theorem HoS.popTo {i : Nat} {k : Unit → M Fl} {ρ : List DV} {L : List (Option V)} {v : V} {De : Ends} (h : HoS P c F (M.bind (DL.popTo i) k ρ) De) (R : Rl P.K c F ρ (L ++ [some v]) H) : ∃ ρ1, Rl P.K c F ρ1 (L.set i (some v)) H ∧ HoS P c F (k () ρ1) De := by
  unfold M.bind at h
  cases z : DL.popTo i ρ with
  | none => rw [z] at h; exact (show False from h).elim
  | some o =>
    obtain ⟨ρ1, rfl, R1⟩ := popTo_rl z R
    rw [z] at h
    exact ⟨ρ1, R1, h⟩
theorem HoS.first {m : M Unit} {k : Unit → M Fl} {ρ : List DV} {De : Ends} (h : HoS P c F (M.bind m k ρ) De) : HoN P c F σ [] (m ρ) fun ρ1 F1 _ _ => HoS P c F1 (k () ρ1) De := by
  unfold M.bind at h
  match q : m ρ with
  | none => rw [q] at h; exact h
  | some (.ok a, ρ1) => rw [q] at h; exact fun F1 _ v s _ => HoS.from h s
  | some (.error x, ρ1) => rw [q] at h; exact h σ
theorem HoN.mono {o : Option (Except Ex Unit × List DV)} {Φ Ψ : List DV → Hp → Hp → V → Prop} (h : HoN P c F σ τ o Φ) (f : ∀ ρ F' H' v, Same F F' → Rl P.K c F' ρ (σ ++ τ ++ [some v]) H' → Φ ρ F' H' v → Ψ ρ F' H' v) : HoN P c F σ τ o Ψ := by
  match o, h with
  | some (.ok a, ρ), h => exact fun F' H' v e R => f ρ F' H' v e R (h F' H' v e R)
  | some (.error x, ρ), h => exact h
def sPNN (i j : Nat) (mn mn2 : M Unit) : M Fl := M.bind mn fun _ => M.bind (calmly mn2) fun _ => M.bind (popTo j) fun _ => M.bind (popTo i) fun _ => M.ok .nx
def sPNNN (i j l : Nat) (mn mn2 mn3 : M Unit) : M Fl := M.bind mn fun _ => M.bind (calmly mn2) fun _ => M.bind (calmly mn3) fun _ => M.bind (popTo l) fun _ => M.bind (popTo j) fun _ => M.bind (popTo i) fun _ => M.ok .nx
def sPEN (i j : Nat) (me : M DR) (mn : M Unit) : M Fl := M.bind me fun r => M.bind (frz r) fun d => M.bind mn fun _ => M.bind (popTo j) fun _ => M.bind (setD i d) fun _ => M.ok .nx
theorem ds_parNN {i j : Nat} {x y : Str} {px py pt : Pos} {kt k2 pt2} {mn mn2 : M Unit} (hc : X.calm = true) (hN : X.N.Nodup) (hi : X.N[i]? = some x) (hj : X.N[j]? = some y) (hij : i ≠ j)
    (hx : X.env.scope.names.lookup x = some .local) (hy : X.env.scope.names.lookup y = some .local) (ha : PE X a (tN P mn)) (hb : PE X b (tN P mn2))
    (hs1 : starEach [a, b] X.env = (false, eval a X.env) :: starEach [b] X.env) (hs2 : starEach [b] X.env = (false, eval b X.env) :: starEach [] X.env)
    (hw : swappedStores [.Tuple [.Name x px, .Name y py] kt pt] (.Tuple [a, b] k2 pt2) X.env = pure (some [x, y]))
    (hs : swapsWithSole [.Tuple [.Name x px, .Name y py] kt pt] (.Tuple [a, b] k2 pt2) pos.line X.env = pure false) :
    PS X (.Assign [.Tuple [.Name x px, .Name y py] kt pt] (.Tuple [a, b] k2 pt2) pos) (tS P (sPNN i j mn mn2)) :=
  (ps_par hc hN hi hj hij hx hy (pa_cons ha (pa_cons hb pa_nil hs2) hs1) hw hs).ofL fun De σ H len ⟨c, F, ρ, R, q⟩ => by
  have jl : j < σ.length := by rw [len]; exact (List.getElem?_eq_some_iff.mp hj).1
  refine ⟨c, F, [], ρ, nilτ R, (HoS.first q).mono fun ρ1 F1 H1 v s1 R1 q1 => ?_⟩
  rw [List.append_nil] at R1
  refine ⟨c, F1, [some v], ρ1, R1, (HoN.calm q1).mono fun ρ2 F2 H2 w s2 R2 q2 => ⟨v, w, rfl, ?_⟩⟩
  obtain ⟨ρ3, R3, q3⟩ := HoS.popTo q2 R2
  rw [List.set_append_left _ _ jl] at R3
  obtain ⟨ρ4, R4, q4⟩ := HoS.popTo q3 R3
  rw [List.set_comm _ _ (Ne.symm hij)] at R4
  exact q4 _ F2 H2 (Same.refl _) R4
theorem ds_parEN {i j : Nat} {x y : Str} {px py pt : Pos} {kt k2 pt2} {me : M DR} {mn : M Unit} (hc : X.calm = true) (hN : X.N.Nodup) (hi : X.N[i]? = some x) (hj : X.N[j]? = some y) (hij : i ≠ j)
    (hx : X.env.scope.names.lookup x = some .local) (hy : X.env.scope.names.lookup y = some .local) (ha : PE X a (tE P me)) (hb : PE X b (tN P mn))
    (hs1 : starEach [a, b] X.env = (false, eval a X.env) :: starEach [b] X.env) (hs2 : starEach [b] X.env = (false, eval b X.env) :: starEach [] X.env)
    (hw : swappedStores [.Tuple [.Name x px, .Name y py] kt pt] (.Tuple [a, b] k2 pt2) X.env = pure (some [x, y]))
    (hs : swapsWithSole [.Tuple [.Name x px, .Name y py] kt pt] (.Tuple [a, b] k2 pt2) pos.line X.env = pure false) :
    PS X (.Assign [.Tuple [.Name x px, .Name y py] kt pt] (.Tuple [a, b] k2 pt2) pos) (tS P (sPEN i j me mn)) :=
  (ps_par hc hN hi hj hij hx hy (pa_cons ha (pa_cons hb pa_nil hs2) hs1) hw hs).ofL fun De σ H len ⟨c, F, ρ, R, q⟩ => by
  have il : i < σ.length := by rw [len]; exact (List.getElem?_eq_some_iff.mp hi).1
  refine ⟨c, F, [], ρ, nilτ R, (HoS.bind σ q).mono fun r ρ1 F1 H1 s1 R1 q1 v hv => ?_⟩
  obtain ⟨d, F2, ρ2, s2, R2, r2, q2, _⟩ := HoS.frz q1 (nilτ' R1) (by rw [List.append_nil] at hv; exact hv)
  refine ⟨c, F2, [], ρ2, nilτ R2, (HoS.first q2).mono fun ρ3 F3 H3 w s3 R3 q3 => ⟨v, w, rfl, ?_⟩⟩
  rw [List.append_nil] at R3
  obtain ⟨ρ4, R4, q4⟩ := HoS.popTo q3 R3
  obtain ⟨ρ5, R5, q5⟩ := HoS.setD q4 R4 (r2.mono s3)
  rw [List.set_comm _ _ (Ne.symm hij)] at R5
  exact q5 _ F3 H3 (Same.refl _) R5
theorem ds_parNNN {i j l : Nat} {x y z : Str} {px py pz pt : Pos} {kt k2 pt2} {mn mn2 mn3 : M Unit} (hc : X.calm = true) (hN : X.N.Nodup) (hi : X.N[i]? = some x) (hj : X.N[j]? = some y) (hl : X.N[l]? = some z) (hij : i ≠ j) (hil : i ≠ l) (hjl : j ≠ l)
    (hx : X.env.scope.names.lookup x = some .local) (hy : X.env.scope.names.lookup y = some .local) (hz : X.env.scope.names.lookup z = some .local) (ha : PE X a (tN P mn)) (hb : PE X b (tN P mn2)) (hc3 : PE X e3 (tN P mn3))
    (hs1 : starEach [a, b, e3] X.env = (false, eval a X.env) :: starEach [b, e3] X.env) (hs2 : starEach [b, e3] X.env = (false, eval b X.env) :: starEach [e3] X.env) (hs3 : starEach [e3] X.env = (false, eval e3 X.env) :: starEach [] X.env)
    (hw : swappedStores [.Tuple [.Name x px, .Name y py, .Name z pz] kt pt] (.Tuple [a, b, e3] k2 pt2) X.env = pure (some [x, y, z]))
    (hs : swapsWithSole [.Tuple [.Name x px, .Name y py, .Name z pz] kt pt] (.Tuple [a, b, e3] k2 pt2) pos.line X.env = pure false) :
    PS X (.Assign [.Tuple [.Name x px, .Name y py, .Name z pz] kt pt] (.Tuple [a, b, e3] k2 pt2) pos) (tS P (sPNNN i j l mn mn2 mn3)) :=
  (ps_par3 hc hN hi hj hl hij hil hjl hx hy hz (pa_cons ha (pa_cons hb (pa_cons hc3 pa_nil hs3) hs2) hs1) hw hs).ofL fun De σ H len ⟨c, F, ρ, R, q⟩ => by
  have jl : j < σ.length := by rw [len]; exact (List.getElem?_eq_some_iff.mp hj).1
  have ll : l < σ.length := by rw [len]; exact (List.getElem?_eq_some_iff.mp hl).1
  refine ⟨c, F, [], ρ, nilτ R, (HoS.first q).mono fun ρ1 F1 H1 v s1 R1 q1 => ?_⟩
  rw [List.append_nil] at R1
  refine ⟨c, F1, [some v], ρ1, R1, (HoN.calm q1).mono fun ρ2 F2 H2 w s2 R2 q2 => ?_⟩
  refine ⟨c, F2, [some v, some w], ρ2, by rw [List.append_assoc] at R2; exact R2, (HoN.calm q2).mono fun ρ3 F3 H3 u s3 R3 q3 => ⟨v, w, u, rfl, ?_⟩⟩
  obtain ⟨ρ4, R4, q4⟩ := HoS.popTo q3 R3
  rw [List.set_append_left _ _ ll] at R4
  have R4' : Rl P.K c F3 ρ4 (σ.set l (some u) ++ [some v] ++ [some w]) H3 := by rw [List.append_assoc]; exact R4
  obtain ⟨ρ5, R5, q5⟩ := HoS.popTo q4 R4'
  rw [List.set_append_left _ _ (by rw [List.length_set]; exact jl)] at R5
  obtain ⟨ρ6, R6, q6⟩ := HoS.popTo q5 R5
  have e : ((σ.set l (some u)).set j (some w)).set i (some v) = ((σ.set i (some v)).set j (some w)).set l (some u) := by
    rw [List.set_comm (some w) (some v) (Ne.symm hij), List.set_comm (some u) (some v) (Ne.symm hil), List.set_comm (some u) (some w) (Ne.symm hjl)]
  rw [e] at R6
  exact q6 _ F3 H3 (Same.refl _) R6
end
end DL

set_option Elab.async false
set_option linter.all false
set_option maxRecDepth 100000
set_option maxHeartbeats 4000000
/-! DX23: calls without arguments. -/
namespace DL
open PySem PySem.Spec PyProof.Rows L2
section
variable {X : Cx} {P : Ps} {pos : Pos}
theorem pe_callSG0 {CX : CXT} {k : Nat} {f : Addr} {fd : FuncData} {ps : List Str} {sp : Sp} {E : L2.St → XK} {x : Str} {p : Pos} (F : FnOkG X.prog X.w X.K X.mg X.base CX k f fd ps sp) (hr : Room k X.A) (hG : X.A.guards = some []) (hg : Gl X x) (hm : X.mg x = some (.ref f)) (hk : PySem.W.keepIn X.K (.ref f) = true) (hb : Binds X.K fd ps []) (hx : ∀ σ, PassesAt CX X σ (E σ))
    (hdb : (x == ("__debug__" : Str)) = false) : PE X (.Call (.Name x p) [] [] pos) (tCallS sp E tNil) := by
  refine ⟨fun pins s σ H Q I h => ?_⟩
  refine wpAny_Call_Name_kw (ld_glob I hg hm ?_ hdb)
  exact PySem.W.callWith_K0 I.kIn hk (run_fnSG (us := []) F hr hG hb (hx σ) I .nil h)
theorem tE_callS0 {own : Bool} {n : Nat} {f : Fsp} (hl : ALen aNil n) (σ : L2.St) (H : Hp) (Q : VK) (q : tE P (eCall own f aNil) σ H Q) : tCallS (spD P.K own n f) (WE P.W) tNil σ H Q := by
  obtain ⟨c, F, τ, ρ, R, q⟩ : tA P aNil σ H fun vs H1 => spD P.K own n f vs H1 Q (WE P.W σ) := tE_callS hl σ H Q q
  exact Ho.now q R [] .nil
theorem de_callG0 {own : Bool} {n k : Nat} {f : Fsp} {x : Str} {p : Pos} {fa : Addr} {fd : FuncData} {ps : List Str} (F : FnOkG X.prog X.w X.K X.mg X.base (L2.CX X.prog X.w) k fa fd ps (spD P.K own n f)) (hr : Room k X.A) (hG : X.A.guards = some []) (hg : Gl X x) (hm : X.mg x = some (.ref fa)) (hk : PySem.W.keepIn X.K (.ref fa) = true)
    (hb : Binds X.K fd ps []) (tk : Takes X P.W) (hl : ALen aNil n) (hdb : (x == ("__debug__" : Str)) = false) :
    PE X (.Call (.Name x p) [] [] pos) (tE P (eCall own f aNil)) := (pe_callSG0 F hr hG hg hm hk hb (fun σ => passAt tk σ) hdb).of (tE_callS0 hl)
end
end DL

set_option Elab.async false
set_option linter.all false
set_option maxRecDepth 100000
set_option maxHeartbeats 4000000
/-! DX24: zip of a list and a tuple, either way round (along HandS.Zip0, HandS.Zip, which have two of a kind). -/
namespace DL
open PySem PySem.Spec PyProof.Rows L2
open PySem.Sem (wp)

/-! ### what is gone through: a tuple (true) or a list -/
def SeAt : Bool → Heap → Addr → Array Value → Prop
  | true, h, l, xs => h.IsTuple l xs
  | false, h, l, xs => h.IsList l xs
def ItAt : Bool → Heap → Addr → Addr → Nat → Prop
  | true, h, it, l, k => h.IsTupleIter it l k
  | false, h, it, l, k => h.IsListIter it l k
def itName : Bool → String
  | true => "tuple_iterator"
  | false => "list_iterator"
section
variable {t t1 t2 : Bool} {h h' : Heap} {it l b : Addr} {k : Nat} {xs : Array Value}
theorem SeAt.ext (q : SeAt t h l xs) (s : Heap.ExtBut b h h') (n : l ≠ b) : SeAt t h' l xs := by cases t <;> exact q.extBut s n
theorem ItAt.ext (q : ItAt t h it l k) (s : Heap.ExtBut b h h') (n : it ≠ b) : ItAt t h' it l k := by cases t <;> exact q.extBut s n
theorem ItAt.at (q : ItAt t h it l k) (e : ∀ o, h.get? it = some o → h'.get? it = some o) : ItAt t h' it l k := by cases t <;> exact q.at e
theorem ItAt.there (q : ItAt t h it l k) : ∃ o, h.get? it = some o ∧ o.data = .fields #[.ref l, .int k 0] := by
  cases t <;> exact let ⟨o, e, _, d⟩ := q; ⟨o, e, d⟩
theorem ItAt.lt (q : ItAt t h it l k) : it < h.objs.size := let ⟨_, e, _⟩ := q.there; Heap.lt_size e
end
section
variable {prog : Program} {w : World} {A : Around} {E : Value → Shared → Prop} {s : Shared} {t t1 t2 : Bool}
theorem nx_item {it l : Addr} {i : Nat} {items : Array Value} {x : Value} {Q : Value → Shared → Prop} (hit : ItAt t s.heap it l i) (hl : SeAt t s.heap l items) (hx : items[i]? = some x)
    (hQ : ∀ h', ItAt t h' it l (i + 1) → Heap.SameBut it s.heap h' → Q x { s with heap := h' }) : wpAny (model prog w) A (Builtin.SmallTypes.nextOf (.ref it)) Q E s := by
  cases t
  · exact wpAny_nextOf_list_item hit hl hx hQ
  · exact RZ.nextOf_tuple_item hit hl hx hQ
theorem nx_end {it l : Addr} {i : Nat} {items : Array Value} {Q : Value → Shared → Prop} (hh : A.handled = none) (hit : ItAt t s.heap it l i) (hl : SeAt t s.heap l items) (hx : items[i]? = none)
    (hE : ∀ h' e, Heap.ExtBut it s.heap h' → (∃ o, h'.get? e = some o ∧ o.cls = .type "StopIteration") → E (.ref e) { s with heap := h' }) : wpAny (model prog w) A (Builtin.SmallTypes.nextOf (.ref it)) Q E s := by
  cases t
  · exact wpAny_nextOf_list_end hh hit hl hx hE
  · exact RZ.nextOf_tuple_end hh hit hl hx hE
/-- a turn of zip up to its first iterator -/
theorem gz_front {z TI TO i1 i2 : Addr} {a b : Value} {Q : Fin → Shared → Prop} {rest : Value → Sem Fin} (hz : IsZip s.heap z TI TO .none) (hTI : IsPair s.heap TI (.ref i1) (.ref i2)) (X : Sem Fin → Prop) : True := trivial
theorem gz_item {z TI TO i1 i2 l1 l2 : Addr} {k1 k2 : Nat} {xs ys : Array Value} {x y a b : Value} {Q : Value → Shared → Prop} (D : ZipApart z TI TO i1 i2 l1 l2) (hz : IsZip s.heap z TI TO .none) (hTI : IsPair s.heap TI (.ref i1) (.ref i2)) (hTO : IsPair s.heap TO a b)
    (h1 : ItAt t1 s.heap i1 l1 k1) (h2 : ItAt t2 s.heap i2 l2 k2) (hl1 : SeAt t1 s.heap l1 xs) (hl2 : SeAt t2 s.heap l2 ys) (hx : xs[k1]? = some x) (hy : ys[k2]? = some y)
    (hQ : ∀ h', IsZip h' z TI TO (rawInt s.heap.objs.size) → IsPair h' TO x y → ItAt t1 h' i1 l1 (k1 + 1) → ItAt t2 h' i2 l2 (k2 + 1) → IsPair h' s.heap.objs.size x y → h'.objs.size = s.heap.objs.size + 1 → (∀ c o, c ≠ z → c ≠ TO → c ≠ i1 → c ≠ i2 → s.heap.get? c = some o → h'.get? c = some o) → Q (.ref s.heap.objs.size) { s with heap := h' }) :
    wpAny (model prog w) A (Builtin.«zip.__next__» ⟨[.ref z], []⟩) (fun fin s' => ∃ v, fin = .done (.ret v) ∧ Q v s') E s := by
  show wpAny _ _ (field (.ref z) 2 >>= _) _ _ _; refine wpAny_bind (wpAny_field hz rfl (x := .bool false) rfl ?_)
  show wpAny _ _ (field (.ref z) 3 >>= _) _ _ _; refine wpAny_bind (wpAny_field hz rfl (x := .ref TI) rfl (wpAny_bind (wpAny_seqItems hTI rfl ?_)))
  show wpAny _ _ (Builtin.SmallTypes.ownedTupleIsFree (.ref z) >>= _) _ _ _; refine wpAny_bind ?_; unfold Builtin.SmallTypes.ownedTupleIsFree
  refine wpAny_bind (wpAny_field hz rfl (x := .none) rfl (wpAny_pure ?_)); simp only [if_true]
  refine wpAny_bind (wpAny_rule (wpAny_bind (wpAny_field hz rfl (x := .ref TO) rfl (wpAny_bind (wpAny_setField_rec hz (by simp) fun g1 zz1 u1 => ?_)))))
  have z1 : IsZip g1 z TI TO .ellipsis := zz1
  refine wpAny_bind ?_; simp only [List.zipIdx_cons, List.zipIdx_nil, List.forIn_cons, List.forIn_nil]; refine wpAny_bind (wpAny_bind (wpAny_onRaise ?_))
  show wpAny _ _ (Builtin.SmallTypes.nextOf (.ref i1) >>= _) _ _ _; refine wpAny_bind (nx_item (h1.ext u1.extBut D.i1z) (hl1.ext u1.extBut D.l1z) hx fun g2 p1 u2 => wpAny_pure ?_)
  have o2 : IsPair g2 TO a b := u2.extBut _ _ D.TOi1 (u1.extBut _ _ D.TOz hTO)
  refine wpAny_bind (wpAny_seqItems o2 rfl (wpAny_bind (wpAny_updateSeq_pair o2 fun g3 oo3 u3 => wpAny_bind (wpAny_letGo (wpAny_pure ?_)))))
  have o3 : IsPair g3 TO x b := oo3
  refine wpAny_bind (wpAny_bind (wpAny_onRaise ?_)); show wpAny _ _ (Builtin.SmallTypes.nextOf (.ref i2) >>= _) _ _ _
  refine wpAny_bind (nx_item (((h2.ext u1.extBut D.i2z).ext u2.extBut D.i12.symm).ext u3.extBut D.TOi2.symm) (((hl2.ext u1.extBut D.l2z).ext u2.extBut D.l2i1).ext u3.extBut D.l2TO) hy fun g4 p2 u4 => wpAny_pure ?_)
  have o4 : IsPair g4 TO x b := u4.extBut _ _ D.TOi2 o3
  refine wpAny_bind (wpAny_seqItems o4 rfl (wpAny_bind (wpAny_updateSeq_pair o4 fun g5 oo5 u5 => wpAny_bind (wpAny_letGo (wpAny_pure (wpAny_pure ?_))))))
  have o5 : IsPair g5 TO x y := oo5
  refine wpAny_bind (wpAny_seqItems o5 rfl (wpAny_bind (wpAny_newTuple ?_)))
  have sz : g5.objs.size = s.heap.objs.size := by rw [u5.1, u4.1, u3.1, u2.1, u1.1]
  have z5 : IsZip g5 z TI TO .ellipsis := u5.extBut _ _ D.TOz.symm (u4.extBut _ _ D.i2z.symm (u3.extBut _ _ D.TOz.symm (u2.extBut _ _ D.i1z.symm z1)))
  have up5 : ∀ c o, c ≠ z → c ≠ TO → c ≠ i1 → c ≠ i2 → s.heap.get? c = some o → g5.get? c = some o := fun c o n1 n2 n3 n4 e => u5.extBut _ _ n2 (u4.extBut _ _ n4 (u3.extBut _ _ n2 (u2.extBut _ _ n3 (u1.extBut _ _ n1 e))))
  have q1 : ItAt t1 g5 i1 l1 (k1 + 1) := ((p1.ext u3.extBut D.TOi1.symm).ext u4.extBut D.i12).ext u5.extBut D.TOi1.symm
  have q2 : ItAt t2 g5 i2 l2 (k2 + 1) := p2.ext u5.extBut D.TOi2.symm
  have lz : z < g5.objs.size := Heap.lt_size z5
  show wpAny _ _ (Builtin.SmallTypes.ownedTupleHandOut (.ref z) (.ref g5.objs.size) >>= _) _ _ _; refine wpAny_bind ?_; unfold Builtin.SmallTypes.ownedTupleHandOut
  have z6 : IsZip (g5.push { cls := .type "tuple", data := .seq #[x, y] }) z TI TO .ellipsis := Heap.get?_push_of_some _ z5
  refine wpAny_bind (wpAny_setField_rec z6 (by simp) fun g7 zz7 u7 => ?_)
  have z7 : IsZip g7 z TI TO (rawInt g5.objs.size) := zz7
  refine wpAny_setField_rec z7 (by simp) fun g8 zz8 u8 => ?_
  have z8 : IsZip g8 z TI TO (rawInt g5.objs.size) := zz8
  have up : ∀ c o, c ≠ z → g5.get? c = some o → g8.get? c = some o := fun c o n e => u8.extBut _ _ n (u7.extBut _ _ n (Heap.get?_push_of_some _ e))
  have new8 : IsPair g8 g5.objs.size x y := u8.extBut _ _ (Nat.ne_of_gt lz) (u7.extBut _ _ (Nat.ne_of_gt lz) (Heap.get?_push_size _ rfl))
  have sz8 : g8.objs.size = g5.objs.size + 1 := by rw [u8.1, u7.1, Heap.size_push]
  rw [sz] at z8 new8 sz8
  refine wpAny_pure ⟨_, rfl, ?_⟩
  show Q (.ref g5.objs.size) _; rw [sz]
  exact hQ g8 z8 (up _ _ D.TOz o5) (q1.at fun o e => up _ o D.i1z e) (q2.at fun o e => up _ o D.i2z e) new8 sz8 fun c o n1 n2 n3 n4 e => up c o n1 (up5 c o n1 n2 n3 n4 e)
theorem gz_end {z TI TO i1 i2 l1 l2 : Addr} {k1 k2 : Nat} {xs ys : Array Value} {a b : Value} {Q : Fin → Shared → Prop} (hh : A.handled = none) (D : ZipApart z TI TO i1 i2 l1 l2) (hz : IsZip s.heap z TI TO .none) (hTI : IsPair s.heap TI (.ref i1) (.ref i2)) (hTO : IsPair s.heap TO a b)
    (h1 : ItAt t1 s.heap i1 l1 k1) (h2 : ItAt t2 s.heap i2 l2 k2) (hl1 : SeAt t1 s.heap l1 xs) (hl2 : SeAt t2 s.heap l2 ys) (hend : xs[k1]? = none ∨ ys[k2]? = none)
    (hE : ∀ h' e, (∀ c o, c ≠ z → c ≠ TO → c ≠ i1 → c ≠ i2 → s.heap.get? c = some o → h'.get? c = some o) → (∃ o, h'.get? e = some o ∧ o.cls = .type "StopIteration") → E (.ref e) { s with heap := h' }) :
    wpAny (model prog w) A (Builtin.«zip.__next__» ⟨[.ref z], []⟩) Q E s := by
  show wpAny _ _ (field (.ref z) 2 >>= _) _ _ _; refine wpAny_bind (wpAny_field hz rfl (x := .bool false) rfl ?_)
  show wpAny _ _ (field (.ref z) 3 >>= _) _ _ _; refine wpAny_bind (wpAny_field hz rfl (x := .ref TI) rfl (wpAny_bind (wpAny_seqItems hTI rfl ?_)))
  show wpAny _ _ (Builtin.SmallTypes.ownedTupleIsFree (.ref z) >>= _) _ _ _; refine wpAny_bind ?_; unfold Builtin.SmallTypes.ownedTupleIsFree
  refine wpAny_bind (wpAny_field hz rfl (x := .none) rfl (wpAny_pure ?_)); simp only [if_true]
  refine wpAny_bind (wpAny_rule (wpAny_bind (wpAny_field hz rfl (x := .ref TO) rfl (wpAny_bind (wpAny_setField_rec hz (by simp) fun g1 zz1 u1 => ?_)))))
  have z1 : IsZip g1 z TI TO .ellipsis := zz1
  refine wpAny_bind ?_; simp only [List.zipIdx_cons, List.zipIdx_nil, List.forIn_cons, List.forIn_nil]; refine wpAny_bind (wpAny_bind (wpAny_onRaise ?_))
  show wpAny _ _ (Builtin.SmallTypes.nextOf (.ref i1) >>= _) _ _ _
  cases hx : xs[k1]? with
  | none =>
    refine wpAny_bind (nx_end hh (h1.ext u1.extBut D.i1z) (hl1.ext u1.extBut D.l1z) hx fun g2 e u2 ⟨oe, he, ce⟩ => ?_)
    have z2 : IsZip g2 z TI TO .ellipsis := u2 _ _ D.i1z.symm z1
    have ne : e ≠ z := fun q => by subst q; rw [z2] at he; cases he; simp at ce
    exact wpAny_setField_rec z2 (by simp) fun g3 _ u3 => hE g3 e (fun c o n1 _ n3 _ q => u3.extBut _ _ n1 (u2 _ _ n3 (u1.extBut _ _ n1 q))) ⟨oe, u3.extBut _ _ ne he, ce⟩
  | some x =>
    have hy : ys[k2]? = none := hend.resolve_left (by rw [hx]; simp)
    refine wpAny_bind (nx_item (h1.ext u1.extBut D.i1z) (hl1.ext u1.extBut D.l1z) hx fun g2 p1 u2 => wpAny_pure ?_)
    have o2 : IsPair g2 TO a b := u2.extBut _ _ D.TOi1 (u1.extBut _ _ D.TOz hTO)
    refine wpAny_bind (wpAny_seqItems o2 rfl (wpAny_bind (wpAny_updateSeq_pair o2 fun g3 _ u3 => wpAny_bind (wpAny_letGo (wpAny_pure ?_)))))
    refine wpAny_bind (wpAny_bind (wpAny_onRaise ?_)); show wpAny _ _ (Builtin.SmallTypes.nextOf (.ref i2) >>= _) _ _ _
    refine wpAny_bind (nx_end hh (((h2.ext u1.extBut D.i2z).ext u2.extBut D.i12.symm).ext u3.extBut D.TOi2.symm) (((hl2.ext u1.extBut D.l2z).ext u2.extBut D.l2i1).ext u3.extBut D.l2TO) hy fun g4 e u4 ⟨oe, he, ce⟩ => ?_)
    have z4 : IsZip g4 z TI TO .ellipsis := u4 _ _ D.i2z.symm (u3.extBut _ _ D.TOz.symm (u2.extBut _ _ D.i1z.symm z1))
    have ne : e ≠ z := fun q => by subst q; rw [z4] at he; cases he; simp at ce
    exact wpAny_setField_rec z4 (by simp) fun g5 _ u5 => hE g5 e (fun c o n1 n2 n3 n4 q => u5.extBut _ _ n1 (u4 _ _ n4 (u3.extBut _ _ n2 (u2.extBut _ _ n3 (u1.extBut _ _ n1 q))))) ⟨oe, u5.extBut _ _ ne he, ce⟩
theorem gz_next {z TI TO i1 i2 l1 l2 : Addr} {k1 k2 : Nat} {xs ys : Array Value} {x y a b : Value} {Q : Option Value → Shared → Prop} (D : ZipApart z TI TO i1 i2 l1 l2) (hz : IsZip s.heap z TI TO .none) (hTI : IsPair s.heap TI (.ref i1) (.ref i2)) (hTO : IsPair s.heap TO a b)
    (h1 : ItAt t1 s.heap i1 l1 k1) (h2 : ItAt t2 s.heap i2 l2 k2) (hl1 : SeAt t1 s.heap l1 xs) (hl2 : SeAt t2 s.heap l2 ys) (hx : xs[k1]? = some x) (hy : ys[k2]? = some y)
    (hQ : ∀ h', IsZip h' z TI TO (rawInt s.heap.objs.size) → IsPair h' TO x y → ItAt t1 h' i1 l1 (k1 + 1) → ItAt t2 h' i2 l2 (k2 + 1) → IsPair h' s.heap.objs.size x y → h'.objs.size = s.heap.objs.size + 1 → (∀ c o, c ≠ z → c ≠ TO → c ≠ i1 → c ≠ i2 → s.heap.get? c = some o → h'.get? c = some o) → Q (some (.ref s.heap.objs.size)) { s with heap := h' }) :
    wpAny (model prog w) A (pyNext (.ref z)) Q E s := by
  have T : s.TypeIs (.ref z) "zip" := ⟨_, hz, rfl⟩
  unfold pyNext
  exact wpAny_bind (wpAny_attempt (wpAny_callSpecial?_slot (name := Str.ofString "__next__") T F.slot_zip_next (wpAny_call_entry F.slot_zip_next T F.entry_zip_next (gz_item D hz hTI hTO h1 h2 hl1 hl2 hx hy fun g a1 a2 a3 a4 a5 a6 a7 => wpAny_pure (hQ g a1 a2 a3 a4 a5 a6 a7)) (F.args_zip_next_1 _))))
theorem gz_stop {z TI TO i1 i2 l1 l2 : Addr} {k1 k2 : Nat} {xs ys : Array Value} {a b : Value} {Q : Option Value → Shared → Prop} (hh : A.handled = none) (D : ZipApart z TI TO i1 i2 l1 l2) (hz : IsZip s.heap z TI TO .none) (hTI : IsPair s.heap TI (.ref i1) (.ref i2)) (hTO : IsPair s.heap TO a b)
    (h1 : ItAt t1 s.heap i1 l1 k1) (h2 : ItAt t2 s.heap i2 l2 k2) (hl1 : SeAt t1 s.heap l1 xs) (hl2 : SeAt t2 s.heap l2 ys) (hend : xs[k1]? = none ∨ ys[k2]? = none)
    (hQ : ∀ h', (∀ c o, c ≠ z → c ≠ TO → c ≠ i1 → c ≠ i2 → s.heap.get? c = some o → h'.get? c = some o) → Q none { s with heap := h' }) : wpAny (model prog w) A (pyNext (.ref z)) Q E s := by
  have T : s.TypeIs (.ref z) "zip" := ⟨_, hz, rfl⟩
  unfold pyNext
  refine wpAny_bind (wpAny_attempt (wpAny_callSpecial?_slot (name := Str.ofString "__next__") T F.slot_zip_next (wpAny_call_entry F.slot_zip_next T F.entry_zip_next (gz_end hh D hz hTI hTO h1 h2 hl1 hl2 hend fun g e up ⟨o, he, ce⟩ => ?_) (F.args_zip_next_1 _))))
  exact wpAny_bind (wpAny_isInstance (T := "StopIteration") (b := true) ⟨o, he, ce⟩ isSubtype_stop (wpAny_pure (hQ _ up)))
end
end DL

set_option Elab.async false
set_option linter.all false
set_option maxRecDepth 100000
set_option maxHeartbeats 4000000
namespace DL
open PySem PySem.Spec PyProof.Rows L2
open PySem.Sem (wp)
/-! ### zip(x, y) -/
abbrev gH1 (t1 : Bool) (h : Heap) (l1 : Addr) : Heap := h.push { cls := .type (itName t1), data := .fields #[.ref l1, .int 0 0] }
abbrev gH2 (t1 t2 : Bool) (h : Heap) (l1 l2 : Addr) : Heap := (gH1 t1 h l1).push { cls := .type (itName t2), data := .fields #[.ref l2, .int 0 0] }
abbrev gH3 (t1 t2 : Bool) (h : Heap) (l1 l2 : Addr) : Heap := (gH2 t1 t2 h l1 l2).push { cls := .type "tuple", data := .seq #[.ref h.objs.size, .ref (gH1 t1 h l1).objs.size] }
abbrev gH4 (t1 t2 : Bool) (h : Heap) (l1 l2 : Addr) : Heap := (gH3 t1 t2 h l1 l2).push { cls := .type "tuple", data := .seq #[.none, .none] }
abbrev gH5 (t1 t2 : Bool) (h : Heap) (l1 l2 : Addr) : Heap := (gH4 t1 t2 h l1 l2).push { cls := .type "zip", data := .fields #[.none, .bool false, .bool false, .ref (gH2 t1 t2 h l1 l2).objs.size, .ref (gH3 t1 t2 h l1 l2).objs.size] }
theorem meets_gz1 (l1 l2 : Addr) (xs ys : Array Value) : Meets (Builtin.«zip.__new__» ⟨[.type "zip", .ref l1, .ref l2], []⟩) (fun _ R s => s.heap.IsTuple l1 xs ∧ s.heap.IsList l2 ys ∧ R (.ok (.ret (.ref (gH4 true false s.heap l1 l2).objs.size))) { s with heap := gH5 true false s.heap l1 l2 }) :=
  .of_wp fun prog w A R s h => by
    obtain ⟨hp, g, d, tk, os⟩ := s; obtain ⟨hl1, hl2, h⟩ := h
    have sub := sub_zip
    have L1 : Heap.IsTuple (Shared.heap ⟨hp, g, d, tk, os⟩) l1 xs := hl1
    have L2 : Heap.IsList (Shared.heap ⟨hp.push { cls := .type "tuple_iterator", data := .fields #[.ref l1, .int 0 0] }, g, d, tk, os⟩) l2 ys := Heap.IsList.push hl2 _
    wp_walk using wpAny_pyIter_tuple L1, wpAny_pyIter_list L2
    exact ⟨_, rfl, h⟩
theorem meets_gz2 (l1 l2 : Addr) (xs ys : Array Value) : Meets (Builtin.«zip.__new__» ⟨[.type "zip", .ref l1, .ref l2], []⟩) (fun _ R s => s.heap.IsList l1 xs ∧ s.heap.IsTuple l2 ys ∧ R (.ok (.ret (.ref (gH4 false true s.heap l1 l2).objs.size))) { s with heap := gH5 false true s.heap l1 l2 }) :=
  .of_wp fun prog w A R s h => by
    obtain ⟨hp, g, d, tk, os⟩ := s; obtain ⟨hl1, hl2, h⟩ := h
    have sub := sub_zip
    have L1 : Heap.IsList (Shared.heap ⟨hp, g, d, tk, os⟩) l1 xs := hl1
    have L2 : Heap.IsTuple (Shared.heap ⟨hp.push { cls := .type "list_iterator", data := .fields #[.ref l1, .int 0 0] }, g, d, tk, os⟩) l2 ys := Heap.IsTuple.push hl2 _
    wp_walk using wpAny_pyIter_list L1, wpAny_pyIter_tuple L2
    exact ⟨_, rfl, h⟩
section
variable {prog : Program} {w : World} {A : Around} {E : Value → Shared → Prop} {s : Shared} {t1 t2 : Bool}
theorem call_gz {l1 l2 : Addr} {xs ys : Array Value} {Q : Value → Shared → Prop} (hne : t1 ≠ t2) (hl1 : SeAt t1 s.heap l1 xs) (hl2 : SeAt t2 s.heap l2 ys)
    (h : ∀ h', IsZip h' (s.heap.objs.size + 4) (s.heap.objs.size + 2) (s.heap.objs.size + 3) .none → IsPair h' (s.heap.objs.size + 2) (.ref s.heap.objs.size) (.ref (s.heap.objs.size + 1)) → IsPair h' (s.heap.objs.size + 3) .none .none →
      ItAt t1 h' s.heap.objs.size l1 0 → ItAt t2 h' (s.heap.objs.size + 1) l2 0 → (∀ c o, s.heap.get? c = some o → h'.get? c = some o) → Q (.ref (s.heap.objs.size + 4)) { s with heap := h' }) :
    wpAny (model prog w) A (call (.type "zip") [.ref l1, .ref l2]) Q E s := by
  have z1 : (gH1 t1 s.heap l1).objs.size = s.heap.objs.size + 1 := Heap.size_push ..
  have z2 : (gH2 t1 t2 s.heap l1 l2).objs.size = s.heap.objs.size + 2 := by rw [Heap.size_push, z1]
  have z3 : (gH3 t1 t2 s.heap l1 l2).objs.size = s.heap.objs.size + 3 := by rw [Heap.size_push, z2]
  have z4 : (gH4 t1 t2 s.heap l1 l2).objs.size = s.heap.objs.size + 4 := by rw [Heap.size_push, z3]
  have p5 : (gH5 t1 t2 s.heap l1 l2).get? (gH4 t1 t2 s.heap l1 l2).objs.size = some _ := Heap.get?_push_size _ rfl
  have p4 : (gH5 t1 t2 s.heap l1 l2).get? (gH3 t1 t2 s.heap l1 l2).objs.size = some _ := Heap.get?_push_of_some _ (Heap.get?_push_size _ rfl)
  have p3 : (gH5 t1 t2 s.heap l1 l2).get? (gH2 t1 t2 s.heap l1 l2).objs.size = some _ := Heap.get?_push_of_some _ (Heap.get?_push_of_some _ (Heap.get?_push_size _ rfl))
  have p2 : (gH5 t1 t2 s.heap l1 l2).get? (gH1 t1 s.heap l1).objs.size = some _ := Heap.get?_push_of_some _ (Heap.get?_push_of_some _ (Heap.get?_push_of_some _ (Heap.get?_push_size _ rfl)))
  have p1 : (gH5 t1 t2 s.heap l1 l2).get? s.heap.objs.size = some _ := Heap.get?_push_of_some _ (Heap.get?_push_of_some _ (Heap.get?_push_of_some _ (Heap.get?_push_of_some _ (Heap.get?_push_size _ rfl))))
  rw [z2, z3, z4] at p5
  rw [z1, z2] at p3
  rw [z3] at p4
  rw [z1] at p2
  have fin := h _ p5 p3 p4 (show ItAt t1 (gH5 t1 t2 s.heap l1 l2) s.heap.objs.size l1 0 by cases t1 <;> exact ⟨_, p1, rfl, rfl⟩) (show ItAt t2 (gH5 t1 t2 s.heap l1 l2) (s.heap.objs.size + 1) l2 0 by cases t2 <;> exact ⟨_, p2, rfl, rfl⟩) fun c o x =>
    Heap.get?_push_of_some _ (Heap.get?_push_of_some _ (Heap.get?_push_of_some _ (Heap.get?_push_of_some _ (Heap.get?_push_of_some _ x))))
  cases t1 <;> cases t2 <;> first | exact absurd rfl hne | skip
  · refine callType_new F.called_zip (by decide) (F.typeCall_zip_2 _ _) (F.newCall_zip_2 _ _) (fun obj => F.args_object_init_3 obj _ _) F.entry_zip_new (meets_gz2 l1 l2 xs ys) ⟨hl1, hl2, ?_⟩
    show _ ∧ _; rw [z4]; exact ⟨⟨_, p5, rfl⟩, fin⟩
  · refine callType_new F.called_zip (by decide) (F.typeCall_zip_2 _ _) (F.newCall_zip_2 _ _) (fun obj => F.args_object_init_3 obj _ _) F.entry_zip_new (meets_gz1 l1 l2 xs ys) ⟨hl1, hl2, ?_⟩
    show _ ∧ _; rw [z4]; exact ⟨⟨_, p5, rfl⟩, fin⟩
end
end DL

set_option Elab.async false
set_option linter.all false
set_option maxRecDepth 100000
set_option maxHeartbeats 4000000
namespace DL
open PySem PySem.Spec PyProof.Rows L2
open PySem.Sem (wp)
/-! ### what is walked -/
def SqG (t : Bool) (K : PySem.W.Frag) (H : Hp) (a : Addr) (xs : List V) : Prop := if t = true then SqT K H a xs else SqL K H a xs
theorem SqG.at {t : Bool} {X : Cx} {pins : List (Addr × Obj)} {σ : St} {H : Hp} {s : Shared} {a : Addr} {xs : List V} (I : Inv X pins σ H s) (h : SqG t X.K H a xs) : ∃ its : List Value, Vals xs its ∧ SeAt t s.heap a its.toArray ∧ a < s.heap.objs.size := by
  cases t with
  | false =>
    obtain ⟨its, rv, p, _⟩ := I.list (show SqL X.K H a xs from h)
    exact ⟨its, rv, p.isList, p.lt⟩
  | true =>
    obtain ⟨its, rv, p, _⟩ := I.tuple (show SqT X.K H a xs from h)
    obtain ⟨o, ho, _⟩ := id p
    exact ⟨its, rv, p, Heap.lt_size ho⟩
theorem SqG.inj {t : Bool} {X : Cx} {pins : List (Addr × Obj)} {σ : St} {H : Hp} {s : Shared} {a : Addr} {xs ys : List V} (I : Inv X pins σ H s) (h : SqG t X.K H a xs) (h' : SqG t X.K H a ys) : xs = ys := by
  cases t with
  | false => exact I.list_inj (show SqL X.K H a xs from h) (show SqL X.K H a ys from h')
  | true => exact I.tuple_inj (show SqT X.K H a xs from h) (show SqT X.K H a ys from h')
/-- the two at a and b as they stand at each turn, the items in new pairs -/
def ItzG (t1 t2 : Bool) (K : PySem.W.Frag) (a b : Addr) : It where
  go i H := ∃ (xs ys : List V) (x y : V), SqG t1 K H a xs ∧ SqG t2 K H b ys ∧ xs[i]? = some x ∧ ys[i]? = some y
  yld i H v H' := ∃ T x y, v = .ref T ∧ H T = none ∧ H' = upd H T (.tup [x, y]) ∧ (∀ xs, SqG t1 K H a xs → xs[i]? = some x) ∧ ∀ ys, SqG t2 K H b ys → ys[i]? = some y
  stop i H := ∃ xs ys : List V, SqG t1 K H a xs ∧ SqG t2 K H b ys ∧ (xs.length ≤ i ∨ ys.length ≤ i)
theorem turn_gz {P : Program} {w : World} {K : PySem.W.Frag} {elts : List Expr} {kk : Nat} {tpos : Pos} {t1 t2 : Bool} {a b z TI TO i1 i2 : Addr} (D : ZipApart z TI TO i1 i2 a b) :
    Turn P w K (.Tuple elts kk tpos) (ItzG t1 t2 K a b) [z, TI, TO, i1, i2] z (fun i h => IsZip h z TI TO .none ∧ IsPair h TI (.ref i1) (.ref i2) ∧ (∃ x y, IsPair h TO x y) ∧ ItAt t1 h i1 a i ∧ ItAt t2 h i2 b i) where
  mem := by simp
  obj := fun i h ⟨hz, hTI, ⟨x, y, hTO⟩, h1, h2⟩ c hc => by
    obtain ⟨o1, e1, d1⟩ := h1.there
    obtain ⟨o2, e2, d2⟩ := h2.there
    simp only [List.mem_cons, List.not_mem_nil, or_false] at hc
    rcases hc with rfl | rfl | rfl | rfl | rfl
    · exact ⟨_, hz, fun v q => nomatch q⟩
    · exact ⟨_, hTI, fun v q => nomatch q⟩
    · exact ⟨_, hTO, fun v q => nomatch q⟩
    · exact ⟨o1, e1, fun v q => by rw [d1] at q; cases q⟩
    · exact ⟨o2, e2, fun v q => by rw [d2] at q; cases q⟩
  keep := fun i h h' ⟨hz, hTI, ⟨x, y, hTO⟩, h1, h2⟩ k => ⟨k z (by simp) _ hz, k TI (by simp) _ hTI, ⟨x, y, k TO (by simp) _ hTO⟩, h1.at fun o q => k i1 (by simp) o q, h2.at fun o q => k i2 (by simp) o q⟩
  item := by
    intro X hP hw hK hc i pins s σ H E I hf ⟨hz, hTI, ⟨x0, y0, hTO⟩, h1, h2⟩ ⟨xs, ys, x, y, hqx, hqy, hx, hy⟩
    subst hP hw hK
    obtain ⟨its, rv, p, _⟩ := hqx.at I
    obtain ⟨its2, rv2, p2, _⟩ := hqy.at I
    obtain ⟨u, hu, ru⟩ := rv.get hx
    obtain ⟨u2, hu2, ru2⟩ := rv2.get hy
    have lz : z < s.heap.objs.size := Heap.lt_size hz
    refine gz_next D hz hTI hTO h1 h2 p p2 (x := u) (y := u2) (by simpa using hu) (by simpa using hu2) fun g z' TO' p1 p2' hT hsz hk => ⟨_, rfl, wpAny_letOwnedTupleGo_zip (s := { s with heap := g }) z' fun g2 z2 sb => ?_⟩
    have hT2 : g2.get? s.heap.objs.size = some { cls := .type "tuple", data := .seq #[u, u2] } := (sb.2 _ (Nat.ne_of_gt lz)).trans hT
    have new : ObjOk X.prog X.w (upd H s.heap.objs.size (.tup [x, y])) g2 s.heap.objs.size (.tup [x, y]) := ⟨by show 2 ≤ sizeLine; decide, [u, u2], .cons ru (.cons ru2 .nil), ⟨_, hT2, rfl, _, rfl⟩⟩
    have I1 : Inv X pins σ (upd H s.heap.objs.size (.tup [x, y])) { s with heap := g2 } :=
      I.turnedNew (t' := s.toks) (ch := [z, TI, TO, i1, i2]) (fun c o hb q => (sb.2 c (fun q' => hb (by simp [q']))).trans (hk c o (fun q' => hb (by simp [q'])) (fun q' => hb (by simp [q'])) (fun q' => hb (by simp [q'])) (fun q' => hb (by simp [q'])) q)) hf (Nat.le_refl _) new
    refine ⟨.ref s.heap.objs.size, _, I1, rfl, ⟨_, x, y, rfl, I.hok.fresh (Nat.le_refl _), rfl, fun l hl => (by rw [hl.inj I hqx]; exact hx), fun l hl => (by rw [hl.inj I hqy]; exact hy)⟩, ⟨z2, (sb.2 _ D.TIz).trans (hk _ _ D.TIz D.TITO D.TIi1 D.TIi2 hTI), ⟨u, u2, (sb.2 _ D.TOz).trans TO'⟩, p1.at fun o q => (sb.2 _ D.i1z).trans q, p2'.at fun o q => (sb.2 _ D.i2z).trans q⟩, fun c hcm => ?_⟩
    have hlt : c < s.heap.objs.size := by
      have hcm := hcm
      simp only [List.mem_cons, List.not_mem_nil, or_false] at hcm
      rcases hcm with rfl | rfl | rfl | rfl | rfl
      · exact lz
      · exact Heap.lt_size hTI
      · exact Heap.lt_size hTO
      · exact h1.lt
      · exact h2.lt
    rw [upd_ne (Nat.ne_of_lt hlt)]; exact (hf c hcm).1
  done := by
    intro X hP hw hK hc i pins s σ H E I hf ⟨hz, hTI, ⟨x0, y0, hTO⟩, h1, h2⟩ ⟨xs, ys, hqx, hqy, hend⟩
    subst hP hw hK
    obtain ⟨its, rv, p, _⟩ := hqx.at I
    obtain ⟨its2, rv2, p2, _⟩ := hqy.at I
    have m1 := rv.length
    have m2 := rv2.length
    refine gz_stop (I.ok.hd hc) D hz hTI hTO h1 h2 p p2 (hend.imp (fun q => by simp; omega) fun q => by simp; omega) fun g hk => ⟨rfl, I.turnedL (t' := s.toks) (ch := [z, TI, TO, i1, i2]) (fun c o hb q => hk c o (fun q' => hb (by simp [q'])) (fun q' => hb (by simp [q'])) (fun q' => hb (by simp [q'])) (fun q' => hb (by simp [q'])) q) hf⟩
  self := fun A i s Q E st h => wpAny_pyIter_zip st.1 h
def iZipG (K : PySem.W.Frag) (ta : TA) : TI := fun σ H R => ta σ H fun vs H1 => ∃ a b xs ys t1 t2, vs = [.ref a, .ref b] ∧ t1 ≠ t2 ∧ SqG t1 K H1 a xs ∧ SqG t2 K H1 b ys ∧ R (ItzG t1 t2 K a b) H1
theorem pi_zipG {X : Cx} {e e2 : Expr} {ta : TA} {p pos tpos : Pos} {elts : List Expr} {kk : Nat} (hg : Gl X "zip") (hm : X.mg "zip" = none) (ha : PA X [e, e2] ta) (hs : starEach [e, e2] X.env = (false, eval e X.env) :: starEach [e2] X.env) (hpl : (backTo pos (starEach [e2] X.env)).any (·.1) = false) :
    PI X (.Tuple elts kk tpos) (.Call (.Name "zip" p) [e, e2] [] pos) (iZipG X.K ta) := by
  refine ⟨fun pins s σ H R I h => ?_⟩
  refine Call_ (ld_blt I hg hm PyProof.Rows.boot_zip (PyProof.Rows.callWith_type1 (thn (ha.run pos pins s σ H _ I h) fun us s1 q0 => ?_) hs hpl))
  obtain ⟨vs, H1, I1, r1, a, b, xs, ys, t1, t2, ex, hne, hqx, hqy, q⟩ := q0
  subst ex
  cases r1 with
  | cons r rr =>
  cases rr with
  | cons r' rr =>
    cases rr
    cases r
    cases r'
    obtain ⟨its, rv, p1, la⟩ := hqx.at I1
    obtain ⟨its2, rv2, p2, lb⟩ := hqy.at I1
    refine call_gz hne p1 p2 fun g hz hTI hTO h1 h2 hk => wpAny_pyIter_zip hz ?_
    have I2 : Inv X pins σ H1 { s1 with heap := g } := I1.kept (t' := s1.toks) hk
    refine ⟨s1.heap.objs.size + 4, [s1.heap.objs.size + 4, s1.heap.objs.size + 2, s1.heap.objs.size + 3, s1.heap.objs.size, s1.heap.objs.size + 1], _, _, H1, rfl, I2, turn_gz (PySem.W.ktu_apart s1.heap.objs.size a b la lb), ⟨hz, hTI, ⟨_, _, hTO⟩, h1, h2⟩, fun c hcm => ?_, q⟩
    have hle : s1.heap.objs.size ≤ c := by
      simp only [List.mem_cons, List.not_mem_nil, or_false] at hcm
      rcases hcm with rfl | rfl | rfl | rfl | rfl
      · exact Nat.le_add_right _ _
      · exact Nat.le_add_right _ _
      · exact Nat.le_add_right _ _
      · exact Nat.le_refl _
      · exact Nat.le_add_right _ _
    exact I1.fpOk hle (I1.hok.fresh hle)
end DL

set_option Elab.async false
set_option linter.all false
set_option maxRecDepth 100000
set_option maxHeartbeats 4000000
/-! DX25: zip of any two lists or tuples. -/
namespace DL
open PySem PySem.Spec PyProof.Rows L2
theorem _root_.L2.PI.or {X : Cx} {tg iter : Expr} {t t' : TI} (h : PI X tg iter t) (h' : PI X tg iter t') : PI X tg iter (fun σ H R => t σ H R ∨ t' σ H R) := ⟨fun pins s σ H R I q => q.elim (h.run pins s σ H R I) (h'.run pins s σ H R I)⟩
def sqG_mono {K : PySem.W.Frag} {F F' : Hp} {t : Bool} {a : Addr} {xs : List V} (e : Same F F') (h : SqG t K F a xs) : SqG t K F' a xs := by
  cases t with
  | false => exact sql_mono e h
  | true => exact sqt_mono e h
theorem walkD_zipG {K : Frag} {F : Hp} {t1 t2 : Bool} {a b : Addr} {xs ys : List V} {ds es : List D} (h1 : SqG t1 K.K F a xs) (h2 : SqG t2 K.K F b ys) (r1 : RpAll K F xs ds) (r2 : RpAll K F ys es) : WalkD K F (ItzG t1 t2 K.K a b) (zipD ds es) where
  go i H1 s hi := by
    rw [zipD_length] at hi
    obtain ⟨x, ex, _⟩ := r1.get (List.getElem?_eq_getElem (show i < ds.length by omega))
    obtain ⟨y, ey, _⟩ := r2.get (List.getElem?_eq_getElem (show i < es.length by omega))
    exact ⟨xs, ys, x, y, sqG_mono s h1, sqG_mono s h2, ex, ey⟩
  stop i H1 s hi := by
    rw [zipD_length] at hi
    exact ⟨xs, ys, sqG_mono s h1, sqG_mono s h2, by rw [r1.length, r2.length]; omega⟩
  yld i H1 x H2 s hi y := by
    obtain ⟨T, u, v, rfl, fresh, rfl, q1, q2⟩ := y
    obtain ⟨d, ed, rd⟩ := r1.get' (q1 xs (sqG_mono s h1))
    obtain ⟨e, ee, re⟩ := r2.get' (q2 ys (sqG_mono s h2))
    exact ⟨_, zipD_get ed ee, .inr ⟨T, _, _, rfl, fresh, rfl, rfl, .cons rd (.cons re .nil)⟩⟩
def zipM : List D → Option (List D)
  | [.list ds, .tuple es] => some (zipD ds es)
  | [.tuple ds, .list es] => some (zipD ds es)
  | _ => none
def zipX (ds : List D) : Option (List D) := match zipF ds with
  | some l => some l
  | none => zipM ds
def iZipM (ms : M (List DR)) : M (List D) := M.bind ms fun rs => M.bind (frzAll rs) fun ds => M.opt (zipM ds)
def iZipX (ms : M (List DR)) : M (List D) := M.bind ms fun rs => M.bind (frzAll rs) fun ds => M.opt (zipX ds)
theorem iZipX_or (ms : M (List DR)) (ρ : List DV) : iZipX ms ρ = iZip ms ρ ∨ iZipX ms ρ = iZipM ms ρ := by
  unfold iZipX DL.iZip iZipM M.bind
  match ms ρ with
  | none => exact .inl rfl
  | some (.error x, ρ1) => exact .inl rfl
  | some (.ok rs, ρ1) =>
    dsimp only
    match frzAll rs ρ1 with
    | none => exact .inl rfl
    | some (.error x, ρ2) => exact .inl rfl
    | some (.ok ds, ρ2) =>
      dsimp only
      unfold zipX
      cases zipF ds with
      | none => exact .inr rfl
      | some l => exact .inl rfl
section
variable {X : Cx} {P : Ps} {e e2 : Expr} {p pos tpos : Pos} {elts : List Expr} {kk : Nat} {ms : M (List DR)}
theorem di_zipM (hK : P.K.K = X.K) (hg : Gl X "zip") (hm : X.mg "zip" = none) (ha : PA X [e, e2] (tA P ms)) (hs : starEach [e, e2] X.env = (false, eval e X.env) :: starEach [e2] X.env) (hpl : (backTo pos (starEach [e2] X.env)).any (·.1) = false) :
    PI X (.Tuple elts kk tpos) (.Call (.Name "zip" p) [e, e2] [] pos) (tI P (iZipM ms)) := (pi_zipG hg hm ha hs hpl).of fun σ H R ⟨c, F, τ, ρ, Rr, q⟩ => by
  refine ⟨c, F, τ, ρ, Rr, (Ho.bind q).mono fun rs ρ1 F1 H1 s1 R1 q1 vs hvs => ?_⟩
  obtain ⟨ds, F2, ρ2, s2, R2, r2, q2⟩ := Ho.frzAll q1 R1 hvs
  obtain ⟨z, ez, q3⟩ := Ho.optEnd q2 R2
  unfold zipM at ez
  split at ez
  · obtain rfl := Option.some.inj ez
    match r2 with
    | .cons (.lst h1 a1) (.cons (.tup h2 a2) .nil) =>
      exact ⟨_, _, _, _, false, true, rfl, by decide, hK ▸ sql_mono R2.sub h1, hK ▸ sqt_mono R2.sub h2, q3 _ (hK ▸ walkD_zipG (t1 := false) (t2 := true) h1 h2 a1 a2)⟩
  · obtain rfl := Option.some.inj ez
    match r2 with
    | .cons (.tup h1 a1) (.cons (.lst h2 a2) .nil) =>
      exact ⟨_, _, _, _, true, false, rfl, by decide, hK ▸ sqt_mono R2.sub h1, hK ▸ sql_mono R2.sub h2, q3 _ (hK ▸ walkD_zipG (t1 := true) (t2 := false) h1 h2 a1 a2)⟩
  · cases ez
theorem di_zipX (hK : P.K.K = X.K) (hg : Gl X "zip") (hm : X.mg "zip" = none) (ha : PA X [e, e2] (tA P ms)) (hs : starEach [e, e2] X.env = (false, eval e X.env) :: starEach [e2] X.env) (hpl : (backTo pos (starEach [e2] X.env)).any (·.1) = false) :
    PI X (.Tuple elts kk tpos) (.Call (.Name "zip" p) [e, e2] [] pos) (tI P (iZipX ms)) := ((di_zip hK hg hm ha hs hpl).or (di_zipM hK hg hm ha hs hpl)).of fun σ H R ⟨c, F, τ, ρ, Rr, q⟩ => by
  rcases iZipX_or ms ρ with e | e
  · exact .inl ⟨c, F, τ, ρ, Rr, by rw [← e]; exact q⟩
  · exact .inr ⟨c, F, τ, ρ, Rr, by rw [← e]; exact q⟩
end
end DL

set_option Elab.async false
set_option linter.all false
set_option maxRecDepth 100000
set_option maxHeartbeats 4000000
/-! PF1: what a reading computes, as a plain function: results R, patterns of environments, one judgement a construct. -/
namespace DL
open PySem PySem.Spec PyProof.Rows L2

theorem nr {α : Sort u} {a b : α} (h : a = b) : a = b := h
/-! ### results -/
abbrev R (α : Type) := Option (Except Ex α)
def Rk {α : Type} (a : α) : R α := some (.ok a)
def Rx {α : Type} (x : Ex) : R α := some (.error x)
def bd {α β : Type} (x : R α) (f : α → R β) : R β := match x with
  | none => none
  | some (.ok a) => f a
  | some (.error e) => some (.error e)
def lf {α : Type} (o : Option α) : R α := match o with
  | none => none
  | some a => some (.ok a)
section
variable {α β γ : Type}
@[simp] theorem bd_ok {a : α} {f : α → R β} : bd (Rk a) f = f a := nr rfl
@[simp] theorem bd_er {x : Ex} {f : α → R β} : bd (Rx x) f = Rx x := nr rfl
@[simp] theorem bd_no {f : α → R β} : bd (none : R α) f = none := nr rfl
@[simp] theorem lf_some {a : α} : lf (some a) = Rk a := nr rfl
@[simp] theorem lf_none : lf (none : Option α) = none := nr rfl
theorem bd_assoc (x : R α) (f : α → R β) (g : β → R γ) : bd (bd x f) g = bd x fun a => bd (f a) g := by
  match x with
  | none => rfl
  | some (.ok a) => rfl
  | some (.error e) => rfl
theorem bd_ite {c : Prop} [Decidable c] (x y : R α) (f : α → R β) : bd (if c then x else y) f = if c then bd x f else bd y f := by
  split <;> rfl
theorem Rk_inj {a b : α} : (Rk a = Rk b) ↔ a = b := ⟨fun h => by cases h; rfl, fun h => h ▸ rfl⟩
theorem bd_Rk {x : R α} {f : α → R β} {b : β} : bd x f = Rk b ↔ ∃ a, x = Rk a ∧ f a = Rk b := by
  match x with
  | none => exact ⟨fun h => (by cases h), fun ⟨_, h, _⟩ => (by cases h)⟩
  | some (.ok a) => exact ⟨fun h => ⟨a, rfl, h⟩, fun ⟨_, h, k⟩ => (by cases h; exact k)⟩
  | some (.error e) => exact ⟨fun h => (by cases h), fun ⟨_, h, _⟩ => (by cases h)⟩
/-- errors count as nothing -/
def quiet (x : R α) : R α := match x with
  | some (.error _) => none
  | o => o
@[simp] theorem quiet_ok {a : α} : quiet (Rk a) = Rk a := nr rfl
@[simp] theorem quiet_no : quiet (none : R α) = none := nr rfl
end

/-- an outcome goes as a result says -/
def Go {α β : Type} (o : Option (Except Ex α × List DV)) (p : R β) (Φ : β → α → List DV → Prop) (E : List DV → Prop) : Prop := match p with
  | none => True
  | some (.ok b) => ∃ a ρ, o = some (.ok a, ρ) ∧ Φ b a ρ
  | some (.error x) => ∃ ρ, o = some (.error x, ρ) ∧ E ρ
section
variable {α β γ δ : Type} {E : List DV → Prop} {ρ : List DV}
theorem Go.bind {m : M α} {l : α → M γ} {p : R β} {q : β → R δ} {Φ : β → α → List DV → Prop} {Ψ : δ → γ → List DV → Prop} (h : Go (m ρ) p Φ E) (k : ∀ b a ρ', Φ b a ρ' → Go (l a ρ') (q b) Ψ E) : Go (M.bind m l ρ) (bd p q) Ψ E := by
  match p, h with
  | none, _ => trivial
  | some (.ok b), ⟨a, ρ', e, f⟩ =>
    have := k b a ρ' f
    unfold M.bind; rw [e]; exact this
  | some (.error x), ⟨ρ', e, f⟩ =>
    exact ⟨ρ', by unfold M.bind; rw [e], f⟩
theorem Go.mono {o : Option (Except Ex α × List DV)} {p : R β} {Φ Ψ : β → α → List DV → Prop} (h : Go o p Φ E) (k : ∀ b a ρ', Φ b a ρ' → Ψ b a ρ') : Go o p Ψ E := by
  match p, h with
  | none, _ => trivial
  | some (.ok b), ⟨a, ρ', e, f⟩ => exact ⟨a, ρ', e, k _ _ _ f⟩
  | some (.error x), h => exact h
theorem bind_at {m : M α} {l : α → M γ} {a : α} {ρ' : List DV} (e : m ρ = some (.ok a, ρ')) : M.bind m l ρ = l a ρ' := by unfold M.bind; rw [e]
theorem Go.ok {a : α} {b : β} {Φ : β → α → List DV → Prop} (h : Φ b a ρ) : Go (M.ok a ρ) (Rk b) Φ E := ⟨a, ρ, rfl, h⟩
/-- a result gone on with, by what the step leaves -/
theorem Go.then {m : M α} {l : α → M γ} {p : R β} {q : R δ} {Ψ : δ → γ → List DV → Prop} {a : α} {ρ' : List DV} (e : m ρ = some (.ok a, ρ')) (h : Go (l a ρ') q Ψ E) : Go (M.bind m l ρ) q Ψ E := by
  unfold M.bind; rw [e]; exact h
theorem Go.map {m : M α} {l : α → M γ} {p : R β} {Φ : β → α → List DV → Prop} {Ψ : β → γ → List DV → Prop} (h : Go (m ρ) p Φ E) (k : ∀ b a ρ', Φ b a ρ' → ∃ c ρ2, l a ρ' = some (.ok c, ρ2) ∧ Ψ b c ρ2) : Go (M.bind m l ρ) p Ψ E := by
  match p, h with
  | none, _ => trivial
  | some (.ok b), ⟨a, ρ', e, f⟩ =>
    obtain ⟨c, ρ2, e2, g⟩ := k b a ρ' f
    exact ⟨c, ρ2, by unfold M.bind; rw [e]; exact e2, g⟩
  | some (.error x), ⟨ρ', e, f⟩ => exact ⟨ρ', by unfold M.bind; rw [e], f⟩
theorem Go.lf {o : Option β} {l : β → M γ} {q : β → R δ} {Ψ : δ → γ → List DV → Prop} (h : ∀ b, Go (l b ρ) (q b) Ψ E) : Go (M.bind (M.opt o) l ρ) (bd (lf o) q) Ψ E := by
  cases o with
  | none => trivial
  | some b => exact h b
end

/-! ### patterns -/
inductive PV where
  | any
  | nb
  | is (x : DV)
  | xx (x : DV)
def Sm (x : DV) : PV → Prop
  | .any => x = .un ∨ ∃ d, x = .dat d
  | .nb => x.isBor = false
  | .is y => x = y
  | .xx y => x = y ∧ x.isBor = false ∧ x.cont = none
def Sees : List DV → List PV → Prop
  | [], [] => True
  | x :: ρ, p :: pt => Sm x p ∧ Sees ρ pt
  | _, _ => False
def PV.wr : PV → Bool
  | .is x => !x.isBor
  | _ => true
inductive Pl1 : PV → PV → Prop
  | r {p : PV} : Pl1 p p
  | a {d : D} : Pl1 (.is (.dat d)) .any
  | u : Pl1 (.is .un) .any
  | d {d : D} : Pl1 (.is (.dat d)) .nb
  | l {c : OC} : Pl1 (.is (.ow c)) .nb
  | e {c : Str} {d : D} : Pl1 (.is (.exc c d)) .nb
  | an : Pl1 .any .nb
  | x {y : DV} : Pl1 (.xx y) .nb
  | dx {d : D} : Pl1 (.is (.dat d)) (.xx (.dat d))
  | ex {c : Str} {d : D} : Pl1 (.is (.exc c d)) (.xx (.exc c d))
inductive PLe : List PV → List PV → Prop
  | n : PLe [] []
  | c {p q : PV} {ps qs : List PV} : Pl1 p q → PLe ps qs → PLe (p :: ps) (q :: qs)
section
variable {x : DV} {p q : PV} {ρ ρ2 : List DV} {pt ps qs : List PV} {i : Nat}
theorem Sm.weak (h : Sm x p) (l : Pl1 p q) : Sm x q := by
  cases l with
  | r => exact h
  | a => exact .inr ⟨_, h⟩
  | u => exact .inl h
  | d => cases h; rfl
  | l => cases h; rfl
  | e => cases h; rfl
  | an =>
    rcases h with rfl | ⟨d, rfl⟩ <;> rfl
  | x => exact h.2.1
  | dx => cases h; exact ⟨rfl, rfl, rfl⟩
  | ex => cases h; exact ⟨rfl, rfl, rfl⟩
theorem Sees.weak : ∀ {ρ : List DV} {ps qs : List PV}, Sees ρ ps → PLe ps qs → Sees ρ qs
  | [], _, _, _, .n => trivial
  | _ :: _, _, _, h, .n => h
  | [], _, _, h, .c _ _ => h.elim
  | _ :: _, _, _, h, .c a b => ⟨h.1.weak a, Sees.weak h.2 b⟩
theorem PLe.refl : ∀ ps : List PV, PLe ps ps
  | [] => .n
  | _ :: ps => .c .r (PLe.refl ps)
theorem Sm.wr (h : Sm x p) (w : p.wr = true) : x.isBor = false := by
  cases p with
  | any => rcases h with rfl | ⟨d, rfl⟩ <;> rfl
  | nb => exact h
  | is y => cases h; simpa [PV.wr] using w
  | xx y => exact h.2.1
theorem Sees.at : ∀ {ρ : List DV} {pt : List PV} {i : Nat} {p : PV}, Sees ρ pt → pt[i]? = some p → ∃ x, ρ[i]? = some x ∧ Sm x p
  | [], [], _, _, _, e => by simp at e
  | [], _ :: _, _, _, h, _ => h.elim
  | _ :: _, [], _, _, h, _ => h.elim
  | x :: ρ, q :: pt, 0, p, h, e => ⟨x, rfl, by simp at e; exact e ▸ h.1⟩
  | x :: ρ, q :: pt, i + 1, p, h, e => by
    obtain ⟨y, e1, h1⟩ := Sees.at (i := i) h.2 (by simpa using e)
    exact ⟨y, by simpa using e1, h1⟩
theorem Sees.is {y : DV} (h : Sees ρ pt) (e : pt[i]? = some (.is y)) : ρ[i]? = some y := by
  obtain ⟨x, e1, h1⟩ := h.at e
  cases h1; exact e1
theorem Sees.xx {y : DV} (h : Sees ρ pt) (e : pt[i]? = some (.xx y)) : ρ[i]? = some y := by
  obtain ⟨x, e1, h1⟩ := h.at e
  cases h1.1; exact e1
theorem Sees.set : ∀ {ρ : List DV} {pt : List PV} {i : Nat} {x : DV} {q : PV}, Sees ρ pt → Sm x q → Sees (ρ.set i x) (pt.set i q)
  | [], [], _, _, _, _, _ => trivial
  | [], _ :: _, _, _, _, h, _ => h.elim
  | _ :: _, [], _, _, _, h, _ => h.elim
  | _ :: _, _ :: _, 0, _, _, h, k => ⟨k, h.2⟩
  | _ :: _, _ :: _, i + 1, _, _, h, k => ⟨h.1, Sees.set (i := i) h.2 k⟩
theorem Sees.app : ∀ {ρ : List DV} {pt : List PV}, Sees ρ pt → Sees ρ2 ps → Sees (ρ ++ ρ2) (pt ++ ps)
  | [], [], _, k => k
  | [], _ :: _, h, _ => h.elim
  | _ :: _, [], h, _ => h.elim
  | _ :: _, _ :: _, h, k => ⟨h.1, Sees.app h.2 k⟩
theorem Sees.snoc (h : Sees ρ pt) (k : Sm x q) : Sees (ρ ++ [x]) (pt ++ [q]) := h.app ⟨k, trivial⟩
theorem Sees.unsnoc : ∀ {ρ : List DV} {pt : List PV}, Sees ρ (pt ++ [q]) → ∃ ρ0 x, ρ = ρ0 ++ [x] ∧ Sees ρ0 pt ∧ Sm x q
  | [], [], h => h.elim
  | [], _ :: _, h => h.elim
  | x :: ρ, [], h => by
    cases ρ with
    | nil => exact ⟨[], x, rfl, trivial, h.1⟩
    | cons y ρ => exact h.2.elim
  | x :: ρ, p :: pt, h => by
    obtain ⟨ρ0, y, e, h1, h2⟩ := Sees.unsnoc (ρ := ρ) (pt := pt) h.2
    exact ⟨x :: ρ0, y, by rw [e]; rfl, ⟨h.1, h1⟩, h2⟩
theorem Sees.unis {y : DV} (h : Sees ρ (pt ++ [.is y])) : ∃ ρ0, ρ = ρ0 ++ [y] ∧ Sees ρ0 pt := by
  obtain ⟨ρ0, x, e, h1, h2⟩ := h.unsnoc
  cases h2; exact ⟨ρ0, e, h1⟩
theorem Sees.len : ∀ {ρ : List DV} {pt : List PV}, Sees ρ pt → ρ.length = pt.length
  | [], [], _ => rfl
  | [], _ :: _, h => h.elim
  | _ :: _, [], h => h.elim
  | _ :: _, _ :: _, h => by rw [List.length_cons, List.length_cons, Sees.len h.2]
theorem Sees.setD {d : D} (h : Sees ρ pt) (hw : (pt[i]?).map PV.wr = some true) : DL.setD i d ρ = some (.ok (), ρ.set i (.dat d)) := by
  cases e : pt[i]? with
  | none => rw [e] at hw; cases hw
  | some p =>
    rw [e] at hw
    obtain ⟨x, e1, h1⟩ := h.at e
    unfold DL.setD
    rw [e1]
    dsimp only
    rw [h1.wr (by simpa using hw)]
    rfl
end

/-! ### expressions -/
/-- a value as data, an own list by its place -/
def Vr (r : DR) (pt : List PV) (d : D) : Prop := r = .dat d ∨ ∃ i x oc, r = .loc i ∧ pt[i]? = some (.is x) ∧ x.cont = some oc ∧ d = oc.data
theorem Vr.rd {r : DR} {pt : List PV} {d : D} {ρ : List DV} (h : Vr r pt d) (s : Sees ρ pt) : DL.rd r ρ = some (.ok d, ρ) := by
  rcases h with rfl | ⟨i, x, ds, rfl, e, o, rfl⟩
  · rfl
  · unfold DL.rd
    dsimp only
    rw [s.is e, Option.bind_some, o]
section
variable {α β γ δ σ : Type}
/-- m is the datum that p tells; own lists may be frozen -/
def XF (m : M DR) (pt : List PV) (p : R D) (pt' : List PV) (E : List DV → Prop) : Prop := ∀ ρ, Sees ρ pt → Go (m ρ) p (fun d r ρ' => r = .dat d ∧ Sees ρ' pt') E
/-- m is the datum that p tells, nothing changes -/
abbrev XE (m : M DR) (pt : List PV) (p : R D) (E : List DV → Prop) : Prop := XF m pt p pt E
/-- the same, or an own list -/
def XR (m : M DR) (pt : List PV) (p : R D) (E : List DV → Prop) : Prop := ∀ ρ, Sees ρ pt → Go (m ρ) p (fun d r ρ' => Vr r pt d ∧ Sees ρ' pt) E
/-- m is the datum that p tells; own lists change -/
def XI (m : M DR) (pc : σ → List PV) (s : σ) (p : R (D × σ)) (E : List DV → Prop) : Prop := ∀ ρ, Sees ρ (pc s) → Go (m ρ) p (fun b r ρ' => r = .dat b.1 ∧ Sees ρ' (pc b.2)) E
/-- m is the datum d at once -/
def At (m : M DR) (pt : List PV) (d : D) : Prop := ∀ ρ, Sees ρ pt → ∃ r, m ρ = some (.ok r, ρ) ∧ Vr r pt d
def AtS (m : M DR) (pt : List PV) (d : D) : Prop := ∀ ρ, Sees ρ pt → m ρ = some (.ok (.dat d), ρ)
variable {m ma mb mc : M DR} {pt : List PV} {pa pb pc : R D} {E : List DV → Prop} {d x y : D} {i : Nat}
theorem XE.r (h : XE m pt pa E) : XR m pt pa E := fun ρ s => (h ρ s).mono fun _ _ _ k => ⟨.inl k.1, k.2⟩
theorem AtS.a (h : AtS m pt d) : At m pt d := fun ρ s => ⟨_, h ρ s, .inl rfl⟩
theorem At.r (h : At m pt d) : XR m pt (Rk d) E := fun ρ s => by
  obtain ⟨r, e, v⟩ := h ρ s
  exact ⟨r, ρ, e, v, s⟩
theorem AtS.e (h : AtS m pt d) : XE m pt (Rk d) E := fun ρ s => ⟨_, ρ, h ρ s, rfl, s⟩
theorem at_var (e : pt[i]? = some (.is (.dat d))) : AtS (eVar i) pt d := fun ρ s => by
  unfold eVar; rw [s.is e]
theorem at_own {x : DV} {ds : OC} (e : pt[i]? = some (.is x)) (o : x.cont = some ds) : At (eVar i) pt ds.data := fun ρ s => by
  refine ⟨.loc i, ?_, .inr ⟨i, x, ds, rfl, e, o, rfl⟩⟩
  unfold eVar; rw [s.is e]
  cases x <;> first | rfl | cases o
theorem at_lit : AtS (eLit d) pt d := fun _ _ => rfl
/-! operators -/
theorem eOp2_go {f : D → D → Option D} {ρ : List DV} (ha : XR ma pt pa E) (hb : XR mb pt pb E) (s : Sees ρ pt) : Go (eOp2 f ma mb ρ) (bd pa fun a => bd pb fun b => lf (f a b)) (fun d r ρ' => r = .dat d ∧ Sees ρ' pt) E := by
  unfold eOp2
  refine (ha ρ s).bind fun a r1 ρ1 h1 => (hb ρ1 h1.2).bind fun b r2 ρ2 h2 => ?_
  refine Go.then (p := Rk a) (h1.1.rd h2.2) (Go.then (p := Rk b) (h2.1.rd h2.2) ?_)
  cases f a b with
  | none => trivial
  | some z => exact ⟨_, ρ2, rfl, rfl, h2.2⟩
theorem x_op2 {f : D → D → Option D} (ha : XR ma pt pa E) (hb : XR mb pt pb E) : XE (eOp2 f ma mb) pt (bd pa fun a => bd pb fun b => lf (f a b)) E := fun ρ s => eOp2_go ha hb s
theorem x_op2a {f : D → D → Option D} (ha : At ma pt x) (hb : XR mb pt pb E) : XE (eOp2 f ma mb) pt (bd pb fun b => lf (f x b)) E := fun ρ s => eOp2_go (ha.r (E := E)) hb s
theorem x_op2b {f : D → D → Option D} (ha : XR ma pt pa E) (hb : At mb pt y) : XE (eOp2 f ma mb) pt (bd pa fun a => lf (f a y)) E := fun ρ s => eOp2_go ha (hb.r (E := E)) s
theorem x_op2c {f : D → D → Option D} (ha : At ma pt x) (hb : At mb pt y) : XE (eOp2 f ma mb) pt (lf (f x y)) E := fun ρ s => eOp2_go (ha.r (E := E)) (hb.r (E := E)) s
theorem eOp1_go {f : D → Option D} {ρ : List DV} (ha : XR ma pt pa E) (s : Sees ρ pt) : Go (eOp1 f ma ρ) (bd pa fun a => lf (f a)) (fun d r ρ' => r = .dat d ∧ Sees ρ' pt) E := by
  unfold eOp1
  refine (ha ρ s).bind fun a r1 ρ1 h1 => ?_
  refine Go.then (p := Rk a) (h1.1.rd h1.2) ?_
  cases f a with
  | none => trivial
  | some z => exact ⟨_, ρ1, rfl, rfl, h1.2⟩
theorem x_op1 {f : D → Option D} (ha : XR ma pt pa E) : XE (eOp1 f ma) pt (bd pa fun a => lf (f a)) E := fun ρ s => eOp1_go ha s
theorem x_op1a {f : D → Option D} (ha : At ma pt x) : XE (eOp1 f ma) pt (lf (f x)) E := fun ρ s => eOp1_go (ha.r (E := E)) s
/-! truth -/
def bl (d : D) : R Bool := match d with
  | .bool b => Rk b
  | _ => none
@[simp] theorem bl_b {b : Bool} : bl (.bool b) = Rk b := nr rfl
theorem asB_go {d : D} {ρ : List DV} {Φ : Bool → Bool → List DV → Prop} (h : ∀ b, d = .bool b → Φ b b ρ) : Go (asB (.dat d) ρ) (bl d) Φ E := by
  cases d with
  | bool b => exact ⟨b, ρ, rfl, h b rfl⟩
  | _ => trivial
def TE (m : M Bool) (pt : List PV) (p : R Bool) (E : List DV → Prop) : Prop := ∀ ρ, Sees ρ pt → Go (m ρ) p (fun b c ρ' => c = b ∧ Sees ρ' pt) E
def TI (m : M Bool) (pc : σ → List PV) (s : σ) (p : R (Bool × σ)) (E : List DV → Prop) : Prop := ∀ ρ, Sees ρ (pc s) → Go (m ρ) p (fun b c ρ' => c = b.1 ∧ Sees ρ' (pc b.2)) E
variable {m1 m2 : M Bool} {p1 p2 : R Bool}
theorem t_b (h : XE m pt pa E) : TE (eB m) pt (bd pa bl) E := fun ρ s => by
  unfold eB
  refine (h ρ s).bind fun d r ρ' k => ?_
  obtain ⟨rfl, k⟩ := k
  exact asB_go fun b e => ⟨rfl, k⟩
theorem t_and (h1 : TE m1 pt p1 E) (h2 : TE m2 pt p2 E) : TE (andT m1 m2) pt (bd p1 fun b => if b = true then p2 else Rk false) E := fun ρ s => by
  unfold andT
  refine (h1 ρ s).bind fun b c ρ' k => ?_
  obtain ⟨rfl, k⟩ := k
  cases c with
  | true => exact h2 ρ' k
  | false => exact ⟨false, ρ', rfl, rfl, k⟩
theorem t_or (h1 : TE m1 pt p1 E) (h2 : TE m2 pt p2 E) : TE (orT m1 m2) pt (bd p1 fun b => if b = true then Rk true else p2) E := fun ρ s => by
  unfold orT
  refine (h1 ρ s).bind fun b c ρ' k => ?_
  obtain ⟨rfl, k⟩ := k
  cases c with
  | false => exact h2 ρ' k
  | true => exact ⟨true, ρ', rfl, rfl, k⟩
theorem t_not (h1 : TE m1 pt p1 E) : TE (notT m1) pt (bd p1 fun b => Rk (!b)) E := fun ρ s => by
  unfold notT
  refine (h1 ρ s).bind fun b c ρ' k => ?_
  obtain ⟨rfl, k⟩ := k
  exact ⟨!c, ρ', rfl, rfl, k⟩
theorem x_and (h1 : XE ma pt pa E) (h2 : XE mb pt pb E) : XE (andV ma mb) pt (bd pa fun a => bd (bl a) fun b => if b = true then pb else Rk (.bool false)) E := fun ρ s => by
  unfold andV
  have h := t_b h1 ρ s
  rw [← bd_assoc]
  refine h.bind fun b c ρ' k => ?_
  obtain ⟨rfl, k⟩ := k
  cases c with
  | true => exact h2 ρ' k
  | false => exact ⟨_, ρ', rfl, rfl, k⟩
theorem x_or (h1 : XE ma pt pa E) (h2 : XE mb pt pb E) : XE (orV ma mb) pt (bd pa fun a => bd (bl a) fun b => if b = true then Rk (.bool true) else pb) E := fun ρ s => by
  unfold orV
  have h := t_b h1 ρ s
  rw [← bd_assoc]
  refine h.bind fun b c ρ' k => ?_
  obtain ⟨rfl, k⟩ := k
  cases c with
  | false => exact h2 ρ' k
  | true => exact ⟨_, ρ', rfl, rfl, k⟩
theorem x_not (h1 : XE ma pt pa E) : XE (notV ma) pt (bd pa fun a => bd (bl a) fun b => Rk (.bool (!b))) E := fun ρ s => by
  unfold notV
  have h := t_b h1 ρ s
  rw [← bd_assoc]
  refine h.bind fun b c ρ' k => ?_
  obtain ⟨rfl, k⟩ := k
  exact ⟨_, ρ', rfl, rfl, k⟩
theorem x_if (h1 : TE m1 pt p1 E) (h2 : XE ma pt pa E) (h3 : XE mb pt pb E) : XE (ifV m1 ma mb) pt (bd p1 fun b => if b = true then pa else pb) E := fun ρ s => by
  unfold ifV
  refine (h1 ρ s).bind fun b c ρ' k => ?_
  obtain ⟨rfl, k⟩ := k
  cases c with
  | true => exact h2 ρ' k
  | false => exact h3 ρ' k
theorem x_chain {f g : D → D → Option D} (ha : XR ma pt pa E) (hb : XR mb pt pb E) (hc : XR mc pt pc E) :
    XE (eChain f g ma mb mc) pt (bd pa fun a => bd pb fun b => bd (lf (f a b)) fun z => bd (bl z) fun t => if t = true then bd pc fun c => lf (g b c) else Rk (.bool false)) E := fun ρ s => by
  unfold eChain
  refine (ha ρ s).bind fun a r1 ρ1 h1 => (hb ρ1 h1.2).bind fun b r2 ρ2 h2 => ?_
  refine Go.then (p := Rk a) (h1.1.rd h2.2) (Go.then (p := Rk b) (h2.1.rd h2.2) ?_)
  refine Go.lf fun z => ?_
  cases z with
  | bool t =>
    cases t with
    | false => exact ⟨_, ρ2, rfl, rfl, h2.2⟩
    | true =>
      refine (hc ρ2 h2.2).bind fun c r3 ρ3 h3 => ?_
      refine Go.then (p := Rk b) (h2.1.rd h3.2) (Go.then (p := Rk c) (h3.1.rd h3.2) ?_)
      cases g b c with
      | none => trivial
      | some z => exact ⟨_, ρ3, rfl, rfl, h3.2⟩
  | _ => trivial
/-! exceptions as values -/
def dvR : DV → Option DR
  | .dat d => some (.dat d)
  | .exc c d => some (.exc c d)
  | _ => none
def isXd (fd : D → Option Bool) (d : D) : R D := bd (lf (fd d)) fun b => Rk (.bool b)
def isXv (fd : D → Option Bool) (fx : Str → Option Bool) : DV → R D
  | .dat d => isXd fd d
  | .exc y _ => bd (lf (fx y)) fun b => Rk (.bool b)
  | _ => none
def isNv (neg : Bool) : DV → R D
  | .dat d => Rk (.bool (if neg then !isNoneB d else isNoneB d))
  | .exc _ _ => Rk (.bool neg)
  | _ => none
def valV (ok : Str → Bool) : DV → R D
  | .exc y d => if ok y then Rk d else none
  | _ => none
theorem x_is {fd : D → Option Bool} {fx : Str → Option Bool} (ha : XR ma pt pa E) : XE (eIs fd fx ma) pt (bd pa (isXd fd)) E := fun ρ s => by
  unfold eIs
  refine (ha ρ s).bind fun a r1 ρ1 h1 => ?_
  have e : isR fd fx r1 ρ1 = M.bind (rd r1) (fun d => M.bind (M.opt (fd d)) fun b => M.ok (.dat (.bool b))) ρ1 := by
    rcases h1.1 with rfl | ⟨i, x, ds, rfl, e, o, rfl⟩ <;> rfl
  rw [e]
  refine Go.then (p := Rk a) (h1.1.rd h1.2) ?_
  unfold isXd
  refine Go.lf fun b => ⟨_, ρ1, rfl, rfl, h1.2⟩
theorem x_isN {neg : Bool} (ha : XR ma pt pa E) : XE (eIsN neg ma) pt (bd pa fun d => Rk (.bool (if neg then !isNoneB d else isNoneB d))) E := fun ρ s => by
  unfold eIsN
  refine (ha ρ s).bind fun a r1 ρ1 h1 => ?_
  have e : isNR neg r1 ρ1 = M.bind (rd r1) (fun d => M.ok (.dat (.bool (if neg then !isNoneB d else isNoneB d)))) ρ1 := by
    rcases h1.1 with rfl | ⟨i, x, ds, rfl, e, o, rfl⟩ <;> rfl
  rw [e]
  refine Go.then (p := Rk a) (h1.1.rd h1.2) ?_
  exact ⟨_, ρ1, rfl, rfl, h1.2⟩
theorem x_isV {fd : D → Option Bool} {fx : Str → Option Bool} {v : DV} (e : pt[i]? = some (.xx v)) : XE (eIs fd fx (eVar i)) pt (isXv fd fx v) E := fun ρ s => by
  unfold eIs M.bind eVar
  rw [s.xx e]
  cases v with
  | dat d =>
    show Go (M.bind (M.opt (fd d)) (fun b => M.ok (DR.dat (PyData.bool b))) ρ) (bd (DL.lf (fd d)) fun b => Rk (PyData.bool b)) _ _
    exact Go.lf fun b => ⟨_, ρ, rfl, rfl, s⟩
  | exc c d =>
    show Go (isR fd fx (.exc c d) ρ) _ _ _
    exact Go.lf fun b => ⟨_, ρ, rfl, rfl, s⟩
  | _ => trivial
theorem x_isNV {neg : Bool} {v : DV} (e : pt[i]? = some (.xx v)) : XE (eIsN neg (eVar i)) pt (isNv neg v) E := fun ρ s => by
  unfold eIsN M.bind eVar
  rw [s.xx e]
  cases v with
  | dat d => exact ⟨_, ρ, rfl, rfl, s⟩
  | exc c d => exact ⟨_, ρ, rfl, rfl, s⟩
  | _ => trivial
theorem x_valV {ok : Str → Bool} {v : DV} (e : pt[i]? = some (.xx v)) : XE (eVal ok (eVar i)) pt (valV ok v) E := fun ρ s => by
  unfold eVal M.bind eVar
  rw [s.xx e]
  cases v with
  | dat d => trivial
  | exc c d =>
    show Go (valR ok (.exc c d) ρ) (if ok c = true then Rk d else none) _ _
    by_cases h : ok c = true
    · rw [if_pos h]
      refine ⟨.dat d, ρ, ?_, rfl, s⟩
      unfold valR; dsimp only; rw [if_pos h]; rfl
    · rw [if_neg h]; trivial
  | _ => trivial
/-! arguments -/
/-- arguments that are data, nothing changes -/
def GS (ms : M (List DR)) (pt : List PV) (q : R δ) (K : List D → R δ) (E : List DV → Prop) : Prop :=
  ∀ (γ : Type) (k : List DR → M γ) (Ψ : δ → γ → List DV → Prop) (ρ : List DV), Sees ρ pt → (∀ ds ρ', Sees ρ' pt → Go (k (ds.map .dat) ρ') (K ds) Ψ E) → Go (M.bind ms k ρ) q Ψ E
/-- arguments, own lists frozen -/
def GA (ms : M (List DR)) (pt : List PV) (q : R δ) (K : List D → R δ) (pt' : List PV) (E : List DV → Prop) : Prop :=
  ∀ (γ : Type) (k : List D → M γ) (Ψ : δ → γ → List DV → Prop) (ρ : List DV), Sees ρ pt → (∀ ds ρ', Sees ρ' pt' → Go (k ds ρ') (K ds) Ψ E) → Go (M.bind ms (fun rs => M.bind (frzAll rs) k) ρ) q Ψ E
variable {ms : M (List DR)} {K : List D → R δ} {pt' : List PV}
theorem frzAll_dats : ∀ (ds : List D) (ρ : List DV), frzAll (ds.map .dat) ρ = some (.ok ds, ρ)
  | [], ρ => rfl
  | d :: ds, ρ => by
    show M.bind (M.ok d) (fun d => M.bind (frzAll (ds.map .dat)) fun ds => M.ok (d :: ds)) ρ = _
    show M.bind (frzAll (ds.map .dat)) (fun ds => M.ok (d :: ds)) ρ = _
    unfold M.bind
    rw [frzAll_dats ds ρ]; rfl
theorem rdAll_dats : ∀ (ds : List D) (ρ : List DV), rdAll (ds.map .dat) ρ = some (.ok ds, ρ)
  | [], ρ => rfl
  | d :: ds, ρ => by
    show M.bind (M.ok d) (fun d => M.bind (rdAll (ds.map .dat)) fun ds => M.ok (d :: ds)) ρ = _
    show M.bind (rdAll (ds.map .dat)) (fun ds => M.ok (d :: ds)) ρ = _
    unfold M.bind
    rw [rdAll_dats ds ρ]; rfl
theorem gs_nil : GS aNil pt (K []) K E := fun γ k Ψ ρ s h => h [] ρ s
theorem gs_at {q : R δ} (ha : AtS m pt x) (h : GS ms pt q (fun ds => K (x :: ds)) E) : GS (aCons m ms) pt q K E := fun γ k Ψ ρ s hk => by
  have e : M.bind (aCons m ms) k ρ = M.bind ms (fun rs => k (.dat x :: rs)) ρ := by
    unfold aCons
    rw [M.assoc]
    rw [bind_at (ha ρ s), M.assoc]
    rfl
  rw [e]
  exact h _ _ Ψ ρ s fun ds ρ' s' => hk (x :: ds) ρ' s'
theorem gs_cons {q : D → R δ} (ha : XE m pt pa E) (h : ∀ a, GS ms pt (q a) (fun ds => K (a :: ds)) E) : GS (aCons m ms) pt (bd pa q) K E := fun γ k Ψ ρ s hk => by
  unfold aCons
  rw [M.assoc]
  refine (ha ρ s).bind fun a r ρ1 h1 => ?_
  obtain ⟨rfl, h1⟩ := h1
  rw [M.assoc]
  exact h a _ (fun rs => M.bind (M.ok (DR.dat a :: rs)) k) Ψ ρ1 h1 fun ds ρ' s' => hk (a :: ds) ρ' s'
theorem GS.a {q : R δ} (h : GS ms pt q K E) : GA ms pt q K pt E := fun γ k Ψ ρ s hk => h _ _ Ψ ρ s fun ds ρ' s' => Go.then (p := Rk ds) (frzAll_dats ds ρ') (hk ds ρ' s')
theorem ga_frz {q : R δ} {ds0 : List D} (e : pt[i]? = some (.is (.lst ds0))) (h : GS ms pt q (fun ds => K (.list ds0 :: ds)) E) : GA (aCons (eVar i) ms) pt q K (pt.set i (.is (.dat (.list ds0)))) E := fun γ k Ψ ρ s hk => by
  have e1 : M.bind (aCons (eVar i) ms) (fun rs => M.bind (frzAll rs) k) ρ = M.bind ms (fun rs => M.bind (frzAll (.loc i :: rs)) k) ρ := by
    unfold aCons
    rw [M.assoc]
    have : eVar i ρ = some (.ok (.loc i), ρ) := by unfold eVar; rw [s.is e]
    rw [bind_at this, M.assoc]
    rfl
  rw [e1]
  refine h _ _ Ψ ρ s fun ds ρ' s' => ?_
  refine Go.then (p := Rk ds) (a := .list ds0 :: ds) (ρ' := ρ'.set i (.dat (.list ds0))) ?_ (hk _ _ (s'.set rfl))
  show M.bind (frz (.loc i)) (fun d => M.bind (frzAll (ds.map .dat)) fun ds => M.ok (d :: ds)) ρ' = _
  have : frz (.loc i) ρ' = some (.ok (.list ds0), ρ'.set i (.dat (.list ds0))) := by unfold frz; dsimp only; rw [s'.is e] <;> rfl
  unfold M.bind
  rw [this]
  dsimp only
  rw [frzAll_dats]; rfl
theorem ga_at {q : R δ} (ha : AtS m pt x) (h : GA ms pt q (fun ds => K (x :: ds)) pt' E) : GA (aCons m ms) pt q K pt' E := fun γ k Ψ ρ s hk => by
  have e : M.bind (aCons m ms) (fun rs => M.bind (frzAll rs) k) ρ = M.bind ms (fun rs => M.bind (frzAll rs) (fun ds => k (x :: ds))) ρ := by
    unfold aCons
    rw [M.assoc]
    rw [bind_at (ha ρ s), M.assoc]
    have e2 : (fun a => M.bind (M.ok (DR.dat x :: a)) fun rs => M.bind (frzAll rs) k) = fun rs => M.bind (frzAll rs) fun ds => k (x :: ds) := by
      funext rs ρ'
      show M.bind (M.bind (frzAll rs) fun ds => M.ok (x :: ds)) k ρ' = _
      rw [M.assoc]; rfl
    rw [e2]
  rw [e]
  exact h _ _ Ψ ρ s fun ds ρ' s' => hk (x :: ds) ρ' s'
theorem ga_cons {q : D → R δ} (ha : XE m pt pa E) (h : ∀ a, GA ms pt (q a) (fun ds => K (a :: ds)) pt' E) : GA (aCons m ms) pt (bd pa q) K pt' E := fun γ k Ψ ρ s hk => by
  unfold aCons
  rw [M.assoc]
  refine (ha ρ s).bind fun a r ρ1 h1 => ?_
  obtain ⟨rfl, h1⟩ := h1
  rw [M.assoc]
  have e2 : (fun rs => M.bind (M.ok (DR.dat a :: rs)) fun rs => M.bind (frzAll rs) k) = fun rs => M.bind (frzAll rs) fun ds => k (a :: ds) := by
    funext rs ρ'
    show M.bind (M.bind (frzAll rs) fun ds => M.ok (a :: ds)) k ρ' = _
    rw [M.assoc]; rfl
  rw [e2]
  exact h a _ _ Ψ ρ1 h1 fun ds ρ' s' => hk (a :: ds) ρ' s'
/-- displays: their length is below the limit -/
def tupR (ds : List D) : R D := if ds.length ≤ 16777216 then Rk (.tuple ds) else none
def lstR (ds : List D) : R D := if ds.length ≤ 16777216 then Rk (.list ds) else none
def capR (ds : List D) : R (List D) := if ds.length ≤ 16777216 then Rk ds else none
@[simp] theorem tupR_0 : tupR [] = Rk (.tuple []) := nr rfl
theorem tupR_ok {ds : List D} (h : ds.length ≤ 16777216) : tupR ds = Rk (.tuple ds) := if_pos h
theorem lstR_ok {ds : List D} (h : ds.length ≤ 16777216) : lstR ds = Rk (.list ds) := if_pos h
theorem capR_ok {ds : List D} (h : ds.length ≤ 16777216) : capR ds = Rk ds := if_pos h
theorem x_tup {q : R D} (h : GA ms pt q tupR pt' E) : XF (eTup ms) pt q pt' E := fun ρ s => by
  unfold eTup
  refine h _ _ _ ρ s fun ds ρ' s' => ?_
  unfold tupR
  by_cases hl : ds.length ≤ 16777216
  · rw [if_pos hl, if_pos hl]; exact ⟨_, ρ', rfl, rfl, s'⟩
  · rw [if_neg hl, if_neg hl]; trivial
theorem x_lst {q : R D} (h : GA ms pt q lstR pt' E) : XF (eLst ms) pt q pt' E := fun ρ s => by
  unfold eLst
  refine h _ _ _ ρ s fun ds ρ' s' => ?_
  unfold lstR
  by_cases hl : ds.length ≤ 16777216
  · rw [if_pos hl, if_pos hl]; exact ⟨_, ρ', rfl, rfl, s'⟩
  · rw [if_neg hl, if_neg hl]; trivial
theorem x_cb {f : List D → Option D} {q : R D} (h : GS ms pt q (fun ds => lf (f ds)) E) : XE (eCB f ms) pt q E := fun ρ s => by
  unfold eCB
  refine h _ _ _ ρ s fun ds ρ' s' => Go.then (p := Rk ds) (rdAll_dats ds ρ') ?_
  show Go _ (DL.lf (f ds)) _ _
  cases f ds with
  | none => trivial
  | some z => exact ⟨_, ρ', rfl, rfl, s'⟩
/-- one argument, an own list too -/
theorem x_cb1 {f : List D → Option D} (ha : XR m pt pa E) : XE (eCB f (aCons m aNil)) pt (bd pa fun a => lf (f [a])) E := fun ρ s => by
  unfold eCB aCons
  rw [M.assoc]
  refine (ha ρ s).bind fun a r ρ1 h1 => ?_
  show Go (M.bind (rdAll [r]) (fun ds => M.bind (M.opt (f ds)) fun z => M.ok (DR.dat z)) ρ1) _ _ _
  refine Go.then (p := Rk [a]) (a := [a]) (ρ' := ρ1) ?_ ?_
  · show M.bind (rd r) (fun d => M.bind (rdAll []) fun ds => M.ok (d :: ds)) ρ1 = _
    unfold M.bind
    rw [h1.1.rd h1.2]; rfl
  · cases f [a] with
    | none => trivial
    | some z => exact ⟨_, ρ1, rfl, rfl, h1.2⟩
theorem x_cb1a {f : List D → Option D} (ha : At m pt x) : XE (eCB f (aCons m aNil)) pt (lf (f [x])) E := fun ρ s => x_cb1 (ha.r (E := E)) ρ s
/-! slices -/
def PP (mp : M (Option Int)) (pt : List PV) (p : R (Option Int)) (E : List DV → Prop) : Prop := ∀ ρ, Sees ρ pt → Go (mp ρ) p (fun o c ρ' => c = o ∧ Sees ρ' pt) E
theorem pp_none : PP (mPart none) pt (Rk none) E := fun ρ s => ⟨none, ρ, rfl, rfl, s⟩
def itR (d : D) : R (Option Int) := match d with
  | .int i => Rk (some i)
  | _ => none
@[simp] theorem itR_i {i : Int} : itR (.int i) = Rk (some i) := nr rfl
theorem pp_some (h : XR m pt pa E) : PP (mPart (some m)) pt (bd pa itR) E := fun ρ s => by
  unfold mPart
  refine (h ρ s).bind fun a r ρ1 h1 => Go.then (p := Rk a) (h1.1.rd h1.2) ?_
  cases a with
  | int i => exact ⟨some i, ρ1, rfl, rfl, h1.2⟩
  | _ => trivial
theorem x_sl {ml mh : M (Option Int)} {pl ph : R (Option Int)} (ha : XR m pt pa E) (hl : PP ml pt pl E) (hh : PP mh pt ph E) : XE (eSl m ml mh) pt (bd pa fun a => bd pl fun l => bd ph fun h => lf (slF a l h)) E := fun ρ s => by
  unfold eSl
  refine (ha ρ s).bind fun a r ρ1 h1 => (hl ρ1 h1.2).bind fun l l' ρ2 h2 => ?_
  obtain ⟨rfl, h2⟩ := h2
  refine (hh ρ2 h2).bind fun h h' ρ3 h3 => ?_
  obtain ⟨rfl, h3⟩ := h3
  refine Go.then (p := Rk a) (h1.1.rd h3) ?_
  cases slF a l' h' with
  | none => trivial
  | some z => exact ⟨_, ρ3, rfl, rfl, h3⟩
/-! calls -/
def FG (o : Option (Except Ex RV × List D)) (p : R β) (Ψ : β → RV → List D → Prop) : Prop := match p with
  | none => True
  | some (.ok b) => ∃ r w, o = some (.ok r, w) ∧ Ψ b r w
  | some (.error x) => ∃ w, o = some (.error x, w)
def ΨD (t : D) (r : RV) (_ : List D) : Prop := rvD r = t
def ΨN (t : List D) (r : RV) (_ : List D) : Prop := r = .new t
def ΨDo (t : D × List D) (r : RV) (w : List D) : Prop := rvD r = t.1 ∧ w = t.2
def ΨNo (t : List D × List D) (r : RV) (w : List D) : Prop := r = .new t.1 ∧ w = t.2
theorem callD_go {F : Fsp} {p : R β} {Ψ : β → RV → List D → Prop} {ds : List D} {ρ : List DV} {Φ : β → RV → List DV → Prop} (h : FG (F [] ds) p Ψ) (k : ∀ b r w, Ψ b r w → Φ b r ρ) (hE : E ρ) : Go (callD F ds ρ) p Φ E := by
  match p, h with
  | none, _ => trivial
  | some (.ok b), ⟨r, w, e, q⟩ => exact ⟨r, ρ, by unfold callD; rw [e], k b r w q⟩
  | some (.error x), ⟨w, e⟩ => exact ⟨ρ, by unfold callD; rw [e], hE⟩
theorem x_call {F : Fsp} {P : List D → R D} {q : R D} (hf : ∀ ds, FG (F [] ds) (P ds) ΨD) (h : GA ms pt q P pt' E) (hE : ∀ ρ, Sees ρ pt' → E ρ) : XF (eCall false F ms) pt q pt' E := fun ρ s => by
  unfold eCall callA
  have e : (fun rs => M.bind (if false = true then (match rs with | .loc p :: rs => M.bind (frzAll rs) fun ds => callO F p ds | _ => M.no) else M.bind (frzAll rs) fun ds => callD F ds) fun r => M.ok (DR.dat (rvD r))) = fun rs => M.bind (frzAll rs) fun ds => M.bind (callD F ds) fun r => M.ok (.dat (rvD r)) := by
    funext rs ρ'
    show M.bind (M.bind (frzAll rs) fun ds => callD F ds) _ ρ' = _
    rw [M.assoc]
  refine (show Go (M.bind ms (fun rs => M.bind (frzAll rs) fun ds => M.bind (callD F ds) fun r => M.ok (DR.dat (rvD r))) ρ) q _ E from h _ _ _ ρ s fun ds ρ' s' => ?_) |> fun z => by rw [← e] at z; exact z
  refine Go.map (Φ := fun d r ρ'' => rvD r = d ∧ Sees ρ'' pt') ?_ fun b r ρ2 k => ⟨_, ρ2, rfl, by rw [k.1], k.2⟩
  exact callD_go (hf ds) (fun b r w q => ⟨q, s'⟩) (hE ρ' s')
theorem x_callK {π : List Nat} {F : Fsp} {P : List D → R D} {q : R D} (hf : ∀ ds, FG (F [] ds) (P ds) ΨD) (h : GA ms pt q (fun ds => P (permR π ds)) pt' E) (hE : ∀ ρ, Sees ρ pt' → E ρ) : XF (eCallK π F ms) pt q pt' E := fun ρ s => by
  unfold eCallK
  refine h _ _ _ ρ s fun ds ρ' s' => ?_
  refine Go.map (Φ := fun d r ρ'' => rvD r = d ∧ Sees ρ'' pt') ?_ fun b r ρ2 k => ⟨_, ρ2, rfl, by rw [k.1], k.2⟩
  exact callD_go (hf _) (fun b r w q => ⟨q, s'⟩) (hE ρ' s')
/-- a def that makes a new list, as data -/
def nD (P : List D → R (List D)) (ds : List D) : R D := bd (P ds) fun l => Rk (.list l)
theorem nD_fg {F : Fsp} {P : List D → R (List D)} (hf : ∀ ds, FG (F [] ds) (P ds) ΨN) (ds : List D) : FG (F [] ds) (nD P ds) ΨD := by
  have h := hf ds
  unfold nD
  match P ds, h with
  | none, _ => trivial
  | some (.ok b), h =>
    obtain ⟨r, w, e, rfl⟩ := h
    exact ⟨_, w, e, rfl⟩
  | some (.error x), h => exact h
end
end DL

set_option Elab.async false
set_option linter.all false
set_option maxRecDepth 100000
set_option maxHeartbeats 4000000
/-! PF2: what is walked, comprehensions, new lists. -/
namespace DL
open PySem PySem.Spec PyProof.Rows L2
section
variable {α β γ δ σ : Type} {m ma mb mc : M DR} {pt pt' : List PV} {pa pb pc : R D} {E : List DV → Prop} {d x y : D} {i : Nat} {ms : M (List DR)}
/-! ### what is walked -/
def IE (mi : M (List D)) (pt : List PV) (p : R (List D)) (pt' : List PV) (E : List DV → Prop) : Prop := ∀ ρ, Sees ρ pt → Go (mi ρ) p (fun ds es ρ' => es = ds ∧ Sees ρ' pt') E
def itR' (d : D) : R (List D) := lf (itemsD d)
@[simp] theorem itR'_l {ds : List D} : itR' (.list ds) = Rk ds := nr rfl
@[simp] theorem itR'_t {ds : List D} : itR' (.tuple ds) = Rk ds := nr rfl
theorem optL_go {o : Option (List D)} {ρ : List DV} (s : Sees ρ pt) : Go (M.opt o ρ) (lf o) (fun ds es ρ' => es = ds ∧ Sees ρ' pt) E := by
  cases o with
  | none => trivial
  | some z => exact ⟨z, ρ, rfl, rfl, s⟩
theorem i_rng {q : R (List D)} (h : GS ms pt q (fun ds => lf (rngF ds)) E) : IE (iRng ms) pt q pt E := fun ρ s => by
  unfold iRng
  refine h _ _ _ ρ s fun ds ρ' s' => Go.then (p := Rk ds) (rdAll_dats ds ρ') ?_
  exact optL_go s'
theorem i_dat (h : XF m pt pa pt' E) : IE (iDat m) pt (bd pa itR') pt' E := fun ρ s => by
  unfold iDat
  refine (h ρ s).bind fun d r ρ' k => ?_
  obtain ⟨rfl, k⟩ := k
  refine Go.then (p := Rk d) (a := d) (ρ' := ρ') rfl ?_
  exact optL_go k
theorem i_at (h : AtS m pt x) : IE (iDat m) pt (itR' x) pt E := fun ρ s => i_dat (h.e (E := E)) ρ s
theorem i_own {ds : List D} (e : pt[i]? = some (.is (.lst ds))) : IE (iDat (eVar i)) pt (Rk ds) (pt.set i (.is (.dat (.list ds)))) E := fun ρ s => by
  refine ⟨ds, ρ.set i (.dat (.list ds)), ?_, rfl, s.set rfl⟩
  unfold iDat
  have h1 : eVar i ρ = some (.ok (.loc i), ρ) := by unfold eVar; rw [s.is e]
  have h2 : frz (.loc i) ρ = some (.ok (.list ds), ρ.set i (.dat (.list ds))) := by unfold frz; dsimp only; rw [s.is e] <;> rfl
  rw [bind_at h1, bind_at h2]; rfl
theorem i_zip {q : R (List D)} (h : GA ms pt q (fun ds => lf (zipF ds)) pt' E) : IE (iZip ms) pt q pt' E := fun ρ s => by
  unfold iZip
  exact h _ _ _ ρ s fun ds ρ' s' => optL_go s'
theorem i_enm {q : R (List D)} (h : GA ms pt q (fun ds => lf (enumF ds)) pt' E) : IE (iEnm ms) pt q pt' E := fun ρ s => by
  unfold iEnm
  exact h _ _ _ ρ s fun ds ρ' s' => optL_go s'

/-! ### targets -/
def un2 (d : D) : R (D × D) := match d with
  | .tuple [a, b] => Rk (a, b)
  | _ => none
def un3 (d : D) : R (D × D × D) := match d with
  | .tuple [a, b, c] => Rk (a, b, c)
  | _ => none
def un4 (d : D) : R (D × D × D × D) := match d with
  | .tuple [a, b, c, e] => Rk (a, b, c, e)
  | _ => none
@[simp] theorem un2_t {a b : D} : un2 (.tuple [a, b]) = Rk (a, b) := nr rfl
@[simp] theorem un3_t {a b c : D} : un3 (.tuple [a, b, c]) = Rk (a, b, c) := nr rfl
@[simp] theorem un4_t {a b c e : D} : un4 (.tuple [a, b, c, e]) = Rk (a, b, c, e) := nr rfl
def WrAt (pt : List PV) (i : Nat) : Prop := (pt[i]?).map PV.wr = some true
/-- a target stored: what is seen behind it hangs on t -/
def SE (g : M Unit) (pt : List PV) (p : R β) (pt' : β → List PV) (E : List DV → Prop) : Prop := ∀ ρ, Sees ρ pt → Go (g ρ) p (fun b _ ρ' => Sees ρ' (pt' b)) E
theorem s_nm (w : WrAt pt i) : SE (setT (.nm i) d) pt (Rk d) (fun d => pt.set i (.is (.dat d))) E := fun ρ s => ⟨(), _, s.setD w, s.set rfl⟩
theorem sees_set2 {ρ : List DV} {i j : Nat} {a b : D} (s : Sees ρ pt) (w1 : WrAt pt i) (w2 : WrAt (pt.set i (.is (.dat a))) j) :
    setDs [i, j] [a, b] ρ = some (.ok (), (ρ.set i (.dat a)).set j (.dat b)) ∧ Sees ((ρ.set i (.dat a)).set j (.dat b)) ((pt.set i (.is (.dat a))).set j (.is (.dat b))) := by
  have s1 : Sees (ρ.set i (.dat a)) (pt.set i (.is (.dat a))) := s.set rfl
  refine ⟨?_, s1.set rfl⟩
  show M.bind (setD i a) (fun _ => M.bind (setD j b) fun _ => M.ok ()) ρ = _
  rw [bind_at (s.setD w1), bind_at (s1.setD w2)]; rfl
theorem sees_set3 {ρ : List DV} {i j l : Nat} {a b c : D} (s : Sees ρ pt) (w1 : WrAt pt i) (w2 : WrAt (pt.set i (.is (.dat a))) j) (w3 : WrAt ((pt.set i (.is (.dat a))).set j (.is (.dat b))) l) :
    setDs [i, j, l] [a, b, c] ρ = some (.ok (), ((ρ.set i (.dat a)).set j (.dat b)).set l (.dat c)) ∧ Sees (((ρ.set i (.dat a)).set j (.dat b)).set l (.dat c)) (((pt.set i (.is (.dat a))).set j (.is (.dat b))).set l (.is (.dat c))) := by
  have s1 : Sees (ρ.set i (.dat a)) (pt.set i (.is (.dat a))) := s.set rfl
  have s2 : Sees ((ρ.set i (.dat a)).set j (.dat b)) ((pt.set i (.is (.dat a))).set j (.is (.dat b))) := s1.set rfl
  refine ⟨?_, s2.set rfl⟩
  show M.bind (setD i a) (fun _ => M.bind (setD j b) fun _ => M.bind (setD l c) fun _ => M.ok ()) ρ = _
  rw [bind_at (s.setD w1), bind_at (s1.setD w2), bind_at (s2.setD w3)]; rfl
theorem sees_set4 {ρ : List DV} {i j l n : Nat} {a b c e : D} (s : Sees ρ pt) (w1 : WrAt pt i) (w2 : WrAt (pt.set i (.is (.dat a))) j) (w3 : WrAt ((pt.set i (.is (.dat a))).set j (.is (.dat b))) l) (w4 : WrAt (((pt.set i (.is (.dat a))).set j (.is (.dat b))).set l (.is (.dat c))) n) :
    setDs [i, j, l, n] [a, b, c, e] ρ = some (.ok (), (((ρ.set i (.dat a)).set j (.dat b)).set l (.dat c)).set n (.dat e)) ∧ Sees ((((ρ.set i (.dat a)).set j (.dat b)).set l (.dat c)).set n (.dat e)) ((((pt.set i (.is (.dat a))).set j (.is (.dat b))).set l (.is (.dat c))).set n (.is (.dat e))) := by
  have s1 : Sees (ρ.set i (.dat a)) (pt.set i (.is (.dat a))) := s.set rfl
  have s2 : Sees ((ρ.set i (.dat a)).set j (.dat b)) ((pt.set i (.is (.dat a))).set j (.is (.dat b))) := s1.set rfl
  have s3 : Sees (((ρ.set i (.dat a)).set j (.dat b)).set l (.dat c)) (((pt.set i (.is (.dat a))).set j (.is (.dat b))).set l (.is (.dat c))) := s2.set rfl
  refine ⟨?_, s3.set rfl⟩
  show M.bind (setD i a) (fun _ => M.bind (setD j b) fun _ => M.bind (setD l c) fun _ => M.bind (setD n e) fun _ => M.ok ()) ρ = _
  rw [bind_at (s.setD w1), bind_at (s1.setD w2), bind_at (s2.setD w3), bind_at (s3.setD w4)]; rfl
theorem s_tp2 {i j : Nat} (w1 : WrAt pt i) (w2 : ∀ a, WrAt (pt.set i (.is (.dat a))) j) : SE (setT (.tp [i, j]) d) pt (un2 d) (fun t => (pt.set i (.is (.dat t.1))).set j (.is (.dat t.2))) E := fun ρ s => by
  unfold un2
  split
  · rename_i a b
    obtain ⟨e, s'⟩ := sees_set2 (b := b) s w1 (w2 a)
    exact ⟨(), _, e, s'⟩
  · trivial
theorem s_tp3 {i j l : Nat} (w1 : WrAt pt i) (w2 : ∀ a, WrAt (pt.set i (.is (.dat a))) j) (w3 : ∀ a b, WrAt ((pt.set i (.is (.dat a))).set j (.is (.dat b))) l) : SE (setT (.tp [i, j, l]) d) pt (un3 d) (fun t => ((pt.set i (.is (.dat t.1))).set j (.is (.dat t.2.1))).set l (.is (.dat t.2.2))) E := fun ρ s => by
  unfold un3
  split
  · rename_i a b c
    obtain ⟨e, s'⟩ := sees_set3 (c := c) s w1 (w2 a) (w3 a b)
    exact ⟨(), _, e, s'⟩
  · trivial
theorem s_tp4 {i j l n : Nat} (w1 : WrAt pt i) (w2 : ∀ a, WrAt (pt.set i (.is (.dat a))) j) (w3 : ∀ a b, WrAt ((pt.set i (.is (.dat a))).set j (.is (.dat b))) l) (w4 : ∀ a b c, WrAt (((pt.set i (.is (.dat a))).set j (.is (.dat b))).set l (.is (.dat c))) n) :
    SE (setT (.tp [i, j, l, n]) d) pt (un4 d) (fun t => (((pt.set i (.is (.dat t.1))).set j (.is (.dat t.2.1))).set l (.is (.dat t.2.2.1))).set n (.is (.dat t.2.2.2))) E := fun ρ s => by
  unfold un4
  split
  · rename_i a b c e
    obtain ⟨z, s'⟩ := sees_set4 (e := e) s w1 (w2 a) (w3 a b) (w4 a b c)
    exact ⟨(), _, z, s'⟩
  · trivial

/-! ### comprehensions -/
/-- a comprehension: its turns thread what changes -/
def lcI (f : σ → D → R (Option D × σ)) : σ → List D → R (List D × σ)
  | s, [] => Rk ([], s)
  | s, d :: ds => bd (quiet (f s d)) fun o => bd (lcI f o.2 ds) fun es => Rk (match o.1 with
    | some y => y :: es.1
    | none => es.1, es.2)
def capI (b : List D × σ) : R (List D × σ) := if b.1.length ≤ 16777216 then Rk b else none
/-- a turn's test and element -/
def lcEl (mt : M Bool) (me : M DR) : M (Option D) := M.bind mt fun b => if b = true then M.bind me fun r => M.bind (frz r) fun y => M.ok (some y) else M.ok none
/-- the slots of a comprehension's own names, while it runs -/
def wipeP (vs : List Nat) : Nat → List PV → List PV
  | _, [] => []
  | k, p :: pt => (if vs.contains k then .any else p) :: wipeP vs (k + 1) pt
def PV.wip : PV → Bool
  | .any => true
  | .is .un => true
  | .is (.dat _) => true
  | _ => false
def canWipe (vs : List Nat) : Nat → List PV → Bool
  | _, [] => true
  | k, p :: pt => (!vs.contains k || p.wip) && canWipe vs (k + 1) pt
theorem PV.wip_le {p : PV} (h : p.wip = true) : Pl1 p .any := by
  cases p with
  | any => exact .r
  | is x => cases x <;> first | exact .u | exact .a | cases h
  | _ => cases h
theorem wipe_le {vs : List Nat} : ∀ {k : Nat} {pt : List PV}, canWipe vs k pt = true → PLe pt (wipeP vs k pt)
  | _, [], _ => .n
  | k, p :: pt, h => by
    unfold canWipe at h
    rw [Bool.and_eq_true, Bool.or_eq_true] at h
    refine .c ?_ (wipe_le h.2)
    by_cases hc : vs.contains k = true
    · rw [if_pos hc]
      rcases h.1 with h1 | h1
      · rw [hc] at h1; cases h1
      · exact PV.wip_le h1
    · rw [if_neg hc]; exact .r
theorem wipeP_len {vs : List Nat} : ∀ {k : Nat} {pt : List PV}, (wipeP vs k pt).length = pt.length
  | _, [] => rfl
  | k, p :: pt => by show (_ :: wipeP vs (k + 1) pt).length = _; rw [List.length_cons, List.length_cons, wipeP_len]
theorem wipeP_at {vs : List Nat} : ∀ {k : Nat} {pt : List PV} {i : Nat} {p : PV}, pt[i]? = some p → (wipeP vs k pt)[i]? = some (if vs.contains (k + i) then .any else p)
  | _, [], _, _, e => by simp at e
  | k, q :: pt, 0, p, e => by simp at e; subst e; rfl
  | k, q :: pt, i + 1, p, e => by
    have := wipeP_at (vs := vs) (k := k + 1) (i := i) (by simpa using e)
    show (wipeP vs (k + 1) pt)[i]? = _
    rw [this, Nat.add_assoc, Nat.add_comm 1 i]
theorem sees_iff : ∀ {ρ : List DV} {pt : List PV}, Sees ρ pt ↔ ρ.length = pt.length ∧ ∀ (i : Nat) (x : DV) (p : PV), ρ[i]? = some x → pt[i]? = some p → Sm x p
  | [], [] => ⟨fun _ => ⟨rfl, fun i x p e => by simp at e⟩, fun _ => trivial⟩
  | [], _ :: _ => ⟨fun h => h.elim, fun h => by simp at h⟩
  | _ :: _, [] => ⟨fun h => h.elim, fun h => by simp at h⟩
  | x :: ρ, p :: pt => by
    constructor
    · intro h
      refine ⟨by rw [List.length_cons, List.length_cons, h.2.len], fun i y q e1 e2 => ?_⟩
      cases i with
      | zero => simp at e1 e2; subst e1 e2; exact h.1
      | succ i => exact (sees_iff.mp h.2).2 i y q (by simpa using e1) (by simpa using e2)
    · intro h
      refine ⟨h.2 0 x p rfl rfl, sees_iff.mpr ⟨by have := h.1; simpa using this, fun i y q e1 e2 => h.2 (i + 1) y q (by simpa using e1) (by simpa using e2)⟩⟩
theorem Sees.at' {ρ : List DV} {x : DV} (s : Sees ρ pt) (e : ρ[i]? = some x) : ∃ p, pt[i]? = some p ∧ Sm x p := by
  have hi : i < pt.length := by rw [← s.len]; exact (List.getElem?_eq_some_iff.mp e).1
  exact ⟨pt[i], List.getElem?_eq_getElem hi, (sees_iff.mp s).2 i x _ e (List.getElem?_eq_getElem hi)⟩
theorem any_wip {ρ : List DV} {x : DV} (h : Sm x .any) : (match some x with | some .un => true | some (.dat _) => true | _ => false) = true := by
  rcases h with rfl | ⟨d, rfl⟩ <;> rfl
/-- the own slots can be wiped, and then lie as the pattern says -/
theorem Sees.wipe {ρ ρ2 : List DV} {vs : List Nat} (s : Sees ρ (wipeP vs 0 pt)) (hv : ∀ i ∈ vs, i < pt.length) : mWipe vs (ρ ++ ρ2) = some (.ok (), wipeD vs (ρ ++ ρ2)) ∧ ∃ ρ', wipeD vs (ρ ++ ρ2) = ρ' ++ ρ2 ∧ Sees ρ' (wipeP vs 0 pt) := by
  have hl : ρ.length = pt.length := by rw [s.len, wipeP_len]
  constructor
  · unfold mWipe
    rw [if_pos]
    unfold wipeOk
    rw [List.all_eq_true]
    intro i hi
    have hi' := hv i hi
    obtain ⟨x, e, k⟩ := s.at (wipeP_at (vs := vs) (k := 0) (List.getElem?_eq_getElem hi'))
    rw [Nat.zero_add, if_pos (by simpa using hi)] at k
    rw [List.getElem?_append_left (by omega), e]
    exact any_wip (ρ := ρ) k
  · refine ⟨wipeD vs ρ, ?_, ?_⟩
    · unfold wipeD
      apply List.ext_getElem?
      intro i
      rw [List.getElem?_mapIdx]
      by_cases hi : i < ρ.length
      · rw [List.getElem?_append_left hi, List.getElem?_append_left (by rw [List.length_mapIdx]; exact hi), List.getElem?_mapIdx]
      · rw [List.getElem?_append_right (by omega), List.getElem?_append_right (by rw [List.length_mapIdx]; omega), List.length_mapIdx]
        have hc : ¬ vs.contains i = true := fun z => by
          have := hv i (by simpa using z)
          omega
        cases ρ2[i - ρ.length]? with
        | none => rfl
        | some x => simp only [Option.map_some]; rw [if_neg hc]
    · rw [sees_iff]
      refine ⟨by unfold wipeD; rw [List.length_mapIdx, s.len], fun i x p e1 e2 => ?_⟩
      unfold wipeD at e1
      rw [List.getElem?_mapIdx] at e1
      cases h1 : ρ[i]? with
      | none => rw [h1] at e1; cases e1
      | some y =>
        rw [h1] at e1
        simp only [Option.map_some, Option.some.injEq] at e1
        obtain ⟨q, e3, k⟩ := s.at' h1
        rw [e2] at e3; cases e3
        by_cases hc : vs.contains i = true
        · rw [if_pos hc] at e1; subst e1
          have hi : i < pt.length := hv i (by simpa using hc)
          rw [wipeP_at (vs := vs) (k := 0) (List.getElem?_eq_getElem hi), Nat.zero_add, if_pos hc] at e2
          cases e2; exact .inl rfl
        · rw [if_neg hc] at e1; subst e1; exact k
/-- behind it the own slots lie as before -/
theorem Sees.rest {ρ ρ' : List DV} {vs : List Nat} {pt0 ptF : List PV} {x y : DV} (s : Sees ρ pt0) (s' : Sees ρ' (wipeP vs 0 ptF)) (hl : pt0.length = ptF.length) (hv : ∀ i ∈ vs, i < ptF.length) (h : vs.map (fun i => ptF[i]?) = vs.map (fun i => pt0[i]?)) :
    ∃ ρ2, restD vs (ρ ++ [x]) (ρ' ++ [y]) = ρ2 ++ [y] ∧ Sees ρ2 ptF := by
  have hl1 : ρ.length = ptF.length := by rw [s.len, hl]
  have hl2 : ρ'.length = ptF.length := by rw [s'.len, wipeP_len]
  refine ⟨restD vs ρ ρ', ?_, ?_⟩
  · unfold restD
    apply List.ext_getElem?
    intro i
    rw [List.getElem?_mapIdx]
    by_cases hi : i < ρ'.length
    · have a1 : (ρ' ++ [y])[i]? = ρ'[i]? := List.getElem?_append_left hi
      have a2 : (ρ ++ [x])[i]? = ρ[i]? := List.getElem?_append_left (by omega)
      rw [a1, a2, List.getElem?_append_left (l₁ := List.mapIdx _ _) (by rw [List.length_mapIdx]; exact hi), List.getElem?_mapIdx]
    · have a1 : (ρ' ++ [y])[i]? = [y][i - ρ'.length]? := List.getElem?_append_right (by omega)
      rw [a1, List.getElem?_append_right (l₁ := List.mapIdx _ _) (by rw [List.length_mapIdx]; omega), List.length_mapIdx]
      have hc : ¬ vs.contains i = true := fun z => by
        have := hv i (by simpa using z)
        omega
      cases ([y] : List DV)[i - ρ'.length]? with
      | none => rfl
      | some x => simp only [Option.map_some]; rw [if_neg hc]
  · rw [sees_iff]
    refine ⟨by unfold restD; rw [List.length_mapIdx, hl2], fun i x p e1 e2 => ?_⟩
    unfold restD at e1
    rw [List.getElem?_mapIdx] at e1
    cases h1 : ρ'[i]? with
    | none => rw [h1] at e1; cases e1
    | some y =>
      rw [h1] at e1
      simp only [Option.map_some, Option.some.injEq] at e1
      by_cases hc : vs.contains i = true
      · rw [if_pos hc] at e1
        have hi : i ∈ vs := by simpa using hc
        have e3 : ptF[i]? = pt0[i]? := List.map_inj_left.mp h i hi
        rw [e2] at e3
        obtain ⟨z, ez, sz⟩ := s.at e3.symm
        rw [ez, Option.getD_some] at e1
        subst e1; exact sz
      · rw [if_neg hc] at e1
        subst e1
        obtain ⟨q, e3, k⟩ := s'.at' h1
        rw [wipeP_at (vs := vs) (k := 0) e2, Nat.zero_add, if_neg hc] at e3
        cases e3; exact k
/-- a turn of a comprehension, seen by patterns -/
def LT (t : DT) (mt : M Bool) (me : M DR) (P : σ → List PV) (s : σ) (d : D) (p : R (Option D × σ)) (E : List DV → Prop) : Prop :=
  ∀ ρ, Sees ρ (P s) → Go (M.bind (setT t d) (fun _ => lcEl mt me) ρ) p (fun b o ρ' => o = b.1 ∧ Sees ρ' (P b.2)) E
theorem lcTurn_eq {t : DT} {mt : M Bool} {me : M DR} {vs : List Nat} {d : D} (ρ : List DV) : lcTurn t mt me vs d ρ = M.bind (M.bind (setT t d) fun _ => lcEl mt me) (fun o => M.bind (match o with | some y => accAdd y | none => M.ok ()) fun _ => mWipe vs) ρ := by
  unfold lcTurn lcEl
  rw [M.assoc]
  unfold M.bind
  cases setT t d ρ with
  | none => rfl
  | some o =>
    obtain ⟨o, ρ1⟩ := o
    cases o with
    | error e => rfl
    | ok u =>
      dsimp only
      cases mt ρ1 with
      | none => rfl
      | some o =>
        obtain ⟨o, ρ2⟩ := o
        cases o with
        | error e => rfl
        | ok b =>
          cases b with
          | false => rfl
          | true =>
            dsimp only
            rw [if_pos rfl, if_pos rfl]
            cases me ρ2 with
            | none => rfl
            | some o =>
              obtain ⟨o, ρ3⟩ := o
              cases o with
              | error e => rfl
              | ok r =>
                dsimp only
                cases frz r ρ3 with
                | none => rfl
                | some o =>
                  obtain ⟨o, ρ4⟩ := o
                  cases o <;> rfl
theorem accAdd_at {ρ : List DV} {acc : List D} {y : D} (h : acc.length < 16777216) : accAdd y (ρ ++ [.lst acc]) = some (.ok (), ρ ++ [.lst (acc ++ [y])]) := by
  unfold accAdd
  rw [List.getLast?_append]
  simp [h]
theorem lcGo_go {f : σ → D → R (Option D × σ)} {t : DT} {mt : M Bool} {me : M DR} {vs : List Nat} {pc : σ → List PV} {E : List DV → Prop} (hv : ∀ s, ∀ i ∈ vs, i < (pc s).length)
    (hb : ∀ s d acc, LT t mt me (fun s => wipeP vs 0 (pc s) ++ [.is (.lst acc)]) s d (f s d) E) : ∀ (ds : List D) (s : σ) (acc : List D) (ρ : List DV) (es : List D) (s' : σ), Sees ρ (wipeP vs 0 (pc s)) → lcI f s ds = Rk (es, s') → acc.length + es.length ≤ 16777216 →
      ∃ ρ', lcGo t mt me vs ds (ρ ++ [.lst acc]) = some (.ok (), ρ' ++ [.lst (acc ++ es)]) ∧ Sees ρ' (wipeP vs 0 (pc s'))
  | [], s, acc, ρ, es, s', S, h, hl => by
    cases h
    exact ⟨ρ, by rw [List.append_nil]; rfl, S⟩
  | d :: ds, s, acc, ρ, es, s', S, h, hl => by
    unfold lcI at h
    obtain ⟨o, h1, h2⟩ := bd_Rk.mp h
    obtain ⟨es2, h3, h4⟩ := bd_Rk.mp h2
    have g := hb s d acc (ρ ++ [.lst acc]) (S.snoc (x := .lst acc) (q := .is (.lst acc)) rfl)
    have ef : f s d = Rk o := by
      cases q : f s d with
      | none => rw [q] at h1; cases h1
      | some z =>
        cases z with
        | error e => rw [q] at h1; cases h1
        | ok b => rw [q] at h1; exact h1
    rw [ef] at g
    obtain ⟨o', ρ1, e1, rfl, S1⟩ := g
    obtain ⟨ρ2, rfl, S2⟩ := S1.unis
    rw [Rk_inj] at h4
    cases h4
    show ∃ ρ', M.bind (lcTurn t mt me vs d) (fun _ => lcGo t mt me vs ds) _ = _ ∧ _
    cases ho : o.1 with
    | none =>
      rw [ho] at e1 hl
      obtain ⟨w1, ρ3, w2, S3⟩ := S2.wipe (ρ2 := [.lst acc]) (hv o.2)
      have e2 : lcTurn t mt me vs d (ρ ++ [.lst acc]) = some (.ok (), ρ3 ++ [.lst acc]) := by
        rw [lcTurn_eq, bind_at e1]
        show mWipe vs _ = _
        rw [w1, w2]
      rw [bind_at e2]
      exact lcGo_go hv hb ds o.2 acc ρ3 es2.1 es2.2 S3 h3 hl
    | some y =>
      rw [ho] at e1 hl
      have hl' : acc.length + (es2.1.length + 1) ≤ 16777216 := by simpa using hl
      obtain ⟨w1, ρ3, w2, S3⟩ := S2.wipe (ρ2 := [.lst (acc ++ [y])]) (hv o.2)
      have e2 : lcTurn t mt me vs d (ρ ++ [.lst acc]) = some (.ok (), ρ3 ++ [.lst (acc ++ [y])]) := by
        rw [lcTurn_eq, bind_at e1]
        show M.bind (accAdd y) (fun _ => mWipe vs) _ = _
        rw [bind_at (accAdd_at (by omega)), w1, w2]
      rw [bind_at e2]
      have := lcGo_go hv hb ds o.2 (acc ++ [y]) ρ3 es2.1 es2.2 S3 h3 (by rw [List.length_append]; simp; omega)
      rw [List.append_assoc] at this
      exact this
/-- a new list: it lies behind the others -/
def NI (m : M Unit) (pt : List PV) (p : R (List D × σ)) (pc : σ → List PV) (E : List DV → Prop) : Prop := ∀ ρ, Sees ρ pt → Go (m ρ) p (fun b _ ρ' => ∃ ρ0, ρ' = ρ0 ++ [.lst b.1] ∧ Sees ρ0 (pc b.2)) E
def NE (m : M Unit) (pt : List PV) (p : R (List D)) (pt' : List PV) (E : List DV → Prop) : Prop := ∀ ρ, Sees ρ pt → Go (m ρ) p (fun b _ ρ' => ∃ ρ0, ρ' = ρ0 ++ [.lst b] ∧ Sees ρ0 pt') E
theorem n_lcI {f : σ → D → R (Option D × σ)} {mi : M (List D)} {t : DT} {mt : M Bool} {me : M DR} {vs : List Nat} {pc : σ → List PV} {s0 : σ} {pi : R (List D)} {E2 : List DV → Prop}
    (hi : IE mi pt pi (pc s0) E) (hw : canWipe vs 0 (pc s0) = true) (hv : ∀ s, ∀ i ∈ vs, i < (pc s).length) (hp : ∀ s, (pc s0).length = (pc s).length ∧ vs.map (fun i => (pc s)[i]?) = vs.map (fun i => (pc s0)[i]?))
    (hb : ∀ s d acc, LT t mt me (fun s => wipeP vs 0 (pc s) ++ [.is (.lst acc)]) s d (f s d) E2) : NI (nLc mi t mt me vs) pt (bd pi fun ds => bd (lcI f s0 ds) capI) pc E := fun ρ S => by
  unfold nLc
  refine (hi ρ S).bind fun ds es ρ1 k => ?_
  obtain ⟨rfl, S1⟩ := k
  refine Go.then (p := Rk ()) (a := ()) (ρ' := ρ1 ++ [.lst []]) rfl ?_
  match q : bd (lcI f s0 es) capI with
  | none => trivial
  | some (.error x) =>
    exfalso
    have : ∀ (ds : List D) (s : σ) (x : Ex), lcI f s ds ≠ some (.error x) := by
      intro ds
      induction ds with
      | nil => intro s x h; cases h
      | cons d ds ih =>
        intro s x h
        unfold lcI at h
        match z : quiet (f s d) with
        | none => rw [z] at h; cases h
        | some (.error y) => unfold quiet at z; split at z <;> first | cases z | (rename_i h2; exact h2 _ z)
        | some (.ok o) =>
          rw [z] at h
          match z2 : lcI f o.2 ds with
          | none => simp only [bd, z2] at h; cases h
          | some (.error y) => exact ih _ _ z2
          | some (.ok w) => simp only [bd, z2] at h; cases h
    match z : lcI f s0 es with
    | none => rw [z] at q; cases q
    | some (.error y) => exact this _ _ _ z
    | some (.ok w) =>
      rw [z] at q
      change capI w = _ at q
      unfold capI at q
      split at q <;> cases q
  | some (.ok b) =>
    obtain ⟨w, h1, h2⟩ := bd_Rk.mp (show bd (lcI f s0 es) capI = Rk b from q)
    unfold capI at h2
    split at h2
    case isFalse => cases h2
    rename_i hl
    rw [Rk_inj] at h2
    subst h2
    have S2 := S1.weak (wipe_le hw)
    obtain ⟨w1, ρ2, w2, S3⟩ := S2.wipe (ρ2 := [.lst []]) (hv s0)
    obtain ⟨ρ3, e3, S4⟩ := lcGo_go hv hb es s0 [] ρ2 w.1 w.2 S3 h1 (by simpa using hl)
    obtain ⟨ρ4, e4, S5⟩ := S1.rest (x := .lst []) (y := .lst w.1) S4 (hp w.2).1 (hv w.2) (hp w.2).2
    refine ⟨(), ρ4 ++ [.lst w.1], ?_, ρ4, rfl, S5⟩
    unfold lcRun
    rw [bind_at w1, w2, e3]
    dsimp only
    rw [List.nil_append, e4]
/-! without change -/
def lcP (f : D → R (Option D)) : List D → R (List D)
  | [] => Rk []
  | d :: ds => bd (quiet (f d)) fun o => bd (lcP f ds) fun es => Rk (match o with
    | some y => y :: es
    | none => es)
def lcR (f : D → R (Option D)) (ds : List D) : R (List D) := bd (lcP f ds) capR
def mapR (g : D → R D) (ds : List D) : R (List D) := lcR (fun d => bd (g d) fun y => Rk (some y)) ds
def selR (c : R Bool) (e : R D) : R (Option D) := bd c fun b => if b = true then bd e fun y => Rk (some y) else Rk none
theorem lcI_unit {f : D → R (Option D)} : ∀ ds : List D, lcI (fun (_ : Unit) d => bd (f d) fun o => Rk (o, ())) () ds = bd (lcP f ds) fun es => Rk (es, ())
  | [] => rfl
  | d :: ds => by
    unfold lcI lcP
    match f d with
    | none => rfl
    | some (.error x) => rfl
    | some (.ok o) =>
      show bd (lcI _ () ds) _ = bd (bd (lcP f ds) _) _
      rw [lcI_unit ds, bd_assoc, bd_assoc]; rfl
theorem n_lc {f : D → R (Option D)} {mi : M (List D)} {t : DT} {mt : M Bool} {me : M DR} {vs : List Nat} {pi : R (List D)} {E2 : List DV → Prop}
    (hi : IE mi pt pi pt' E) (hw : canWipe vs 0 pt' = true) (hv : ∀ i ∈ vs, i < pt'.length)
    (hb : ∀ d acc, LT t mt me (fun (_ : Unit) => wipeP vs 0 pt' ++ [.is (.lst acc)]) () d (bd (f d) fun o => Rk (o, ())) E2) : NE (nLc mi t mt me vs) pt (bd pi fun ds => lcR f ds) pt' E := fun ρ S => by
  have h := n_lcI (σ := Unit) (pc := fun _ => pt') (s0 := ()) hi hw (fun _ => hv) (fun _ => ⟨rfl, rfl⟩) (fun _ d acc => hb d acc) ρ S
  have e : (bd pi fun ds => bd (lcI (fun (_ : Unit) d => bd (f d) fun o => Rk (o, ())) () ds) capI) = bd (bd pi fun ds => lcR f ds) fun es => Rk (es, ()) := by
    rw [bd_assoc]
    congr 1
    funext ds
    rw [lcI_unit, bd_assoc]
    unfold lcR
    rw [bd_assoc]
    congr 1
    funext es
    show capI (es, ()) = bd (capR es) _
    unfold capI capR
    split <;> rfl
  rw [e] at h
  match bd pi fun ds => lcR f ds, h with
  | none, _ => trivial
  | some (.error x), h => exact h
  | some (.ok b), h => exact h
theorem lt_map {pt2' : β → List PV} {t : DT} {ps : R β} {ptt : β → List PV} {me : M DR} {pe : β → R D} (hs : SE (setT t d) pt ps ptt E) (he : ∀ b, XF me (ptt b) (pe b) (pt2' b) E) (hw : ∀ b, PLe (pt2' b) pt) : LT t (M.ok true) me (fun (_ : Unit) => pt) () d (bd (bd (bd ps fun b => pe b) fun y => Rk (some y)) fun o => Rk (o, ())) E := fun ρ S => by
  rw [bd_assoc, bd_assoc]
  refine (hs ρ S).bind fun b _ ρ1 S1 => ?_
  show Go (M.bind me (fun r => M.bind (frz r) fun y => M.ok (some y)) ρ1) _ _ _
  refine (he b ρ1 S1).bind fun y r ρ2 k => ?_
  obtain ⟨rfl, S2⟩ := k
  exact ⟨some y, ρ2, rfl, rfl, S2.weak (hw b)⟩
theorem lt_sel {pt2' : β → List PV} {t : DT} {ps : R β} {ptt : β → List PV} {mt : M Bool} {me : M DR} {pt1 : β → R Bool} {pe : β → R D} (hs : SE (setT t d) pt ps ptt E) (ht : ∀ b, TE mt (ptt b) (pt1 b) E) (he : ∀ b, XF me (ptt b) (pe b) (pt2' b) E) (hw : ∀ b, PLe (pt2' b) pt) (hw2 : ∀ b, PLe (ptt b) pt) :
    LT t mt me (fun (_ : Unit) => pt) () d (bd (bd ps fun b => selR (pt1 b) (pe b)) fun o => Rk (o, ())) E := fun ρ S => by
  rw [bd_assoc]
  refine (hs ρ S).bind fun b _ ρ1 S1 => ?_
  unfold selR lcEl
  rw [bd_assoc]
  refine (ht b ρ1 S1).bind fun c c' ρ2 k => ?_
  obtain ⟨rfl, S2⟩ := k
  cases c' with
  | false => exact ⟨none, ρ2, rfl, rfl, S2.weak (hw2 b)⟩
  | true =>
    rw [if_pos rfl, if_pos rfl, bd_assoc]
    refine (he b ρ2 S2).bind fun y r ρ3 k => ?_
    obtain ⟨rfl, S3⟩ := k
    exact ⟨some y, ρ3, rfl, rfl, S3.weak (hw b)⟩
theorem n_map {g : D → R D} {mi : M (List D)} {t : DT} {mt : M Bool} {me : M DR} {vs : List Nat} {pi : R (List D)} {E2 : List DV → Prop}
    (hi : IE mi pt pi pt' E) (hw : canWipe vs 0 pt' = true) (hv : ∀ i ∈ vs, i < pt'.length)
    (hb : ∀ d acc, LT t mt me (fun (_ : Unit) => wipeP vs 0 pt' ++ [.is (.lst acc)]) () d (bd (bd (g d) fun y => Rk (some y)) fun o => Rk (o, ())) E2) : NE (nLc mi t mt me vs) pt (bd pi fun ds => mapR g ds) pt' E := n_lc hi hw hv hb
theorem x_lc {mi : M (List D)} {t : DT} {mt : M Bool} {me : M DR} {vs : List Nat} {q : R (List D)} (h : NE (nLc mi t mt me vs) pt q pt' E) : XF (eLc mi t mt me vs) pt (bd q fun l => Rk (.list l)) pt' E := fun ρ S => by
  unfold eLc
  refine (h ρ S).bind fun l _ ρ1 k => ?_
  obtain ⟨ρ0, rfl, S1⟩ := k
  exact ⟨.dat (.list l), ρ0, by unfold popD; simp, rfl, S1⟩
theorem n_lst {q : R (List D)} (h : GA ms pt q capR pt' E) : NE (nLst ms) pt q pt' E := fun ρ s => by
  unfold nLst
  refine h _ _ _ ρ s fun ds ρ' s' => ?_
  unfold capR
  by_cases hl : ds.length ≤ 16777216
  · rw [if_pos hl, if_pos hl]; exact ⟨(), _, rfl, ρ', rfl, s'⟩
  · rw [if_neg hl, if_neg hl]; trivial
theorem n_call {F : Fsp} {P : List D → R (List D)} {q : R (List D)} (hf : ∀ ds, FG (F [] ds) (P ds) ΨN) (h : GA ms pt q P pt' E) (hE : ∀ ρ, Sees ρ pt' → E ρ) : NE (nCall false F ms) pt q pt' E := fun ρ s => by
  unfold nCall callA
  have e : (fun rs => M.bind (if false = true then (match rs with | .loc p :: rs => M.bind (frzAll rs) fun ds => callO F p ds | _ => M.no) else M.bind (frzAll rs) fun ds => callD F ds) fun r => match r with | .new ds => push ds | .dat _ => M.no) = fun rs => M.bind (frzAll rs) fun ds => M.bind (callD F ds) fun r => match r with | .new ds => push ds | .dat _ => M.no := by
    funext rs ρ'
    show M.bind (M.bind (frzAll rs) fun ds => callD F ds) _ ρ' = _
    rw [M.assoc]
  refine (show Go (M.bind ms (fun rs => M.bind (frzAll rs) fun ds => M.bind (callD F ds) fun r => match r with | .new ds => push ds | .dat _ => M.no) ρ) q _ E from h _ _ _ ρ s fun ds ρ' s' => ?_) |> fun z => by rw [← e] at z; exact z
  refine Go.map (Φ := fun d r ρ'' => r = .new d ∧ Sees ρ'' pt') ?_ fun b r ρ2 k => ⟨(), ρ2 ++ [.lst b], by rw [k.1]; rfl, ρ2, rfl, k.2⟩
  exact callD_go (hf ds) (fun b r w q => ⟨q, s'⟩) (hE ρ' s')
end
end DL

set_option Elab.async false
set_option linter.all false
set_option maxRecDepth 100000
set_option maxHeartbeats 4000000
/-! PF3: expressions that change own lists, statements, loops, defs. -/
namespace DL
open PySem PySem.Spec PyProof.Rows L2
section
variable {α β γ δ σ τ : Type} {m ma mb mc : M DR} {pt pt1 pt2 pt' : List PV} {pa pb pc' : R D} {E : List DV → Prop} {d x y : D} {i j : Nat} {ms : M (List DR)} {pc : σ → List PV} {s : σ}
/-! ### with change -/
theorem XF.imp (h : XE m (pc s) pa E) : XI m pc s (bd pa fun a => Rk (a, s)) E := fun ρ S => by
  have := h ρ S
  match pa, this with
  | none, _ => trivial
  | some (.ok a), ⟨r, ρ', e, k⟩ => exact ⟨r, ρ', e, k⟩
  | some (.error x), h => exact h
theorem TE.imp {m : M Bool} {p : R Bool} (h : TE m (pc s) p E) : TI m pc s (bd p fun a => Rk (a, s)) E := fun ρ S => by
  have := h ρ S
  match p, this with
  | none, _ => trivial
  | some (.ok a), ⟨r, ρ', e, k⟩ => exact ⟨r, ρ', e, k⟩
  | some (.error x), h => exact h
theorem lfI {f : Option D} {ρ : List DV} (S : Sees ρ (pc s)) : Go (M.bind (M.opt f) (fun z => M.ok (DR.dat z)) ρ) (bd (lf f) fun z => Rk (z, s)) (fun (b : D × σ) r ρ' => r = .dat b.1 ∧ Sees ρ' (pc b.2)) E := by
  cases f with
  | none => trivial
  | some z => exact ⟨_, ρ, rfl, rfl, S⟩
theorem xi_op2l {f : D → D → Option D} {p : R (D × σ)} {q : D × σ → R D} (ha : XI ma pc s p E) (hb : ∀ a : D × σ, XR mb (pc a.2) (q a) E) : XI (eOp2 f ma mb) pc s (bd p fun a => bd (q a) fun b => bd (lf (f a.1 b)) fun z => Rk (z, a.2)) E := fun ρ S => by
  unfold eOp2
  refine (ha ρ S).bind fun a r1 ρ1 h1 => (hb a ρ1 h1.2).bind fun b r2 ρ2 h2 => ?_
  obtain ⟨rfl, _⟩ := h1
  refine Go.then (p := Rk a.1) (a := a.1) (ρ' := ρ2) rfl (Go.then (p := Rk b) (h2.1.rd h2.2) ?_)
  exact lfI h2.2
theorem xi_op2r {f : D → D → Option D} {p : R D} {q : D → R (D × σ)} (ha : XE ma (pc s) p E) (hb : ∀ a, XI mb pc s (q a) E) : XI (eOp2 f ma mb) pc s (bd p fun a => bd (q a) fun b => bd (lf (f a b.1)) fun z => Rk (z, b.2)) E := fun ρ S => by
  unfold eOp2
  refine (ha ρ S).bind fun a r1 ρ1 h1 => (hb a ρ1 h1.2).bind fun b r2 ρ2 h2 => ?_
  obtain ⟨rfl, _⟩ := h1
  obtain ⟨rfl, S2⟩ := h2
  refine Go.then (p := Rk a) (a := a) (ρ' := ρ2) rfl (Go.then (p := Rk b.1) (a := b.1) (ρ' := ρ2) rfl ?_)
  exact lfI S2
theorem xi_op2a {f : D → D → Option D} {q : R (D × σ)} (ha : AtS ma (pc s) x) (hb : XI mb pc s q E) : XI (eOp2 f ma mb) pc s (bd q fun b => bd (lf (f x b.1)) fun z => Rk (z, b.2)) E := fun ρ S => xi_op2r (E := E) ha.e (fun _ => hb) ρ S
theorem xi_op2b {f : D → D → Option D} {p : R (D × σ)} (ha : XI ma pc s p E) (hb : ∀ s, At mb (pc s) y) : XI (eOp2 f ma mb) pc s (bd p fun a => bd (lf (f a.1 y)) fun z => Rk (z, a.2)) E := fun ρ S => xi_op2l (E := E) ha (fun a => (hb a.2).r) ρ S
/-- an own list that stays, at the left -/
theorem xi_op2o {f : D → D → Option D} {q : R (D × σ)} {v : DV} {ds : OC} (e : ∀ s, (pc s)[i]? = some (.is v)) (o : v.cont = some ds) (hb : XI mb pc s q E) : XI (eOp2 f (eVar i) mb) pc s (bd q fun b => bd (lf (f ds.data b.1)) fun z => Rk (z, b.2)) E := fun ρ S => by
  unfold eOp2
  have e1 : eVar i ρ = some (.ok (.loc i), ρ) := by
    unfold eVar; rw [S.is (e s)]
    cases v <;> first | rfl | cases o
  rw [bind_at e1]
  refine (hb ρ S).bind fun b r2 ρ2 h2 => ?_
  obtain ⟨rfl, S2⟩ := h2
  have e2 : rd (.loc i) ρ2 = some (.ok ds.data, ρ2) := by unfold rd; dsimp only; rw [S2.is (e b.2), Option.bind_some, o]
  refine Go.then (p := Rk ds.data) e2 (Go.then (p := Rk b.1) (a := b.1) (ρ' := ρ2) rfl ?_)
  exact lfI S2
theorem xi_op2 {f : D → D → Option D} {p : R (D × σ)} {q : D × σ → R (D × σ)} (ha : XI ma pc s p E) (hb : ∀ a : D × σ, XI mb pc a.2 (q a) E) : XI (eOp2 f ma mb) pc s (bd p fun a => bd (q a) fun b => bd (lf (f a.1 b.1)) fun z => Rk (z, b.2)) E := fun ρ S => by
  unfold eOp2
  refine (ha ρ S).bind fun a r1 ρ1 h1 => (hb a ρ1 h1.2).bind fun b r2 ρ2 h2 => ?_
  obtain ⟨rfl, _⟩ := h1
  obtain ⟨rfl, S2⟩ := h2
  refine Go.then (p := Rk a.1) (a := a.1) (ρ' := ρ2) rfl (Go.then (p := Rk b.1) (a := b.1) (ρ' := ρ2) rfl ?_)
  exact lfI S2
theorem xi_op1 {f : D → Option D} {p : R (D × σ)} (ha : XI ma pc s p E) : XI (eOp1 f ma) pc s (bd p fun a => bd (lf (f a.1)) fun z => Rk (z, a.2)) E := fun ρ S => by
  unfold eOp1
  refine (ha ρ S).bind fun a r1 ρ1 h1 => ?_
  obtain ⟨rfl, S1⟩ := h1
  refine Go.then (p := Rk a.1) (a := a.1) (ρ' := ρ1) rfl ?_
  exact lfI S1
theorem xi_isN {neg : Bool} {p : R (D × σ)} (ha : XI ma pc s p E) : XI (eIsN neg ma) pc s (bd p fun a => Rk (.bool (if neg then !isNoneB a.1 else isNoneB a.1), a.2)) E := fun ρ S => by
  unfold eIsN
  refine (ha ρ S).bind fun a r1 ρ1 h1 => ?_
  obtain ⟨rfl, S1⟩ := h1
  exact ⟨_, ρ1, rfl, rfl, S1⟩
theorem ti_b {p : R (D × σ)} (h : XI m pc s p E) : TI (eB m) pc s (bd p fun a => bd (bl a.1) fun b => Rk (b, a.2)) E := fun ρ S => by
  unfold eB
  refine (h ρ S).bind fun a r ρ' k => ?_
  obtain ⟨rfl, k⟩ := k
  match a, k with
  | (d, s'), k =>
    cases d with
    | bool b => exact ⟨b, ρ', rfl, rfl, k⟩
    | _ => trivial
theorem ti_and {m1 m2 : M Bool} {p1 : R (Bool × σ)} {p2 : Bool × σ → R (Bool × σ)} (h1 : TI m1 pc s p1 E) (h2 : ∀ a : Bool × σ, TI m2 pc a.2 (p2 a) E) : TI (andT m1 m2) pc s (bd p1 fun a => if a.1 = true then p2 a else Rk (false, a.2)) E := fun ρ S => by
  unfold andT
  refine (h1 ρ S).bind fun b c ρ' k => ?_
  obtain ⟨rfl, k⟩ := k
  match b, k with
  | (true, s'), k => exact h2 (true, s') ρ' k
  | (false, s'), k => exact ⟨false, ρ', rfl, rfl, k⟩
theorem ti_or {m1 m2 : M Bool} {p1 : R (Bool × σ)} {p2 : Bool × σ → R (Bool × σ)} (h1 : TI m1 pc s p1 E) (h2 : ∀ a : Bool × σ, TI m2 pc a.2 (p2 a) E) : TI (orT m1 m2) pc s (bd p1 fun a => if a.1 = true then Rk (true, a.2) else p2 a) E := fun ρ S => by
  unfold orT
  refine (h1 ρ S).bind fun b c ρ' k => ?_
  obtain ⟨rfl, k⟩ := k
  match b, k with
  | (false, s'), k => exact h2 (false, s') ρ' k
  | (true, s'), k => exact ⟨true, ρ', rfl, rfl, k⟩
theorem ti_not {m1 : M Bool} {p1 : R (Bool × σ)} (h1 : TI m1 pc s p1 E) : TI (notT m1) pc s (bd p1 fun a => Rk (!a.1, a.2)) E := fun ρ S => by
  unfold notT
  refine (h1 ρ S).bind fun b c ρ' k => ?_
  obtain ⟨rfl, k⟩ := k
  exact ⟨!b.1, ρ', rfl, rfl, k⟩
theorem xi_if {m1 : M Bool} {p1 : R (Bool × σ)} {qa qb : Bool × σ → R (D × σ)} (h1 : TI m1 pc s p1 E) (h2 : ∀ a : Bool × σ, XI ma pc a.2 (qa a) E) (h3 : ∀ a : Bool × σ, XI mb pc a.2 (qb a) E) : XI (ifV m1 ma mb) pc s (bd p1 fun a => if a.1 = true then qa a else qb a) E := fun ρ S => by
  unfold ifV
  refine (h1 ρ S).bind fun b c ρ' k => ?_
  obtain ⟨rfl, k⟩ := k
  match b, k with
  | (true, s'), k => exact h2 (true, s') ρ' k
  | (false, s'), k => exact h3 (false, s') ρ' k
/-! arguments that change own lists -/
def AI (ms : M (List DR)) (pc : σ → List PV) (s : σ) (q : R δ) (K : List D → σ → R δ) (E : List DV → Prop) : Prop :=
  ∀ (γ : Type) (k : List DR → M γ) (Ψ : δ → γ → List DV → Prop) (ρ : List DV), Sees ρ (pc s) → (∀ ds s' ρ', Sees ρ' (pc s') → Go (k (ds.map .dat) ρ') (K ds s') Ψ E) → Go (M.bind ms k ρ) q Ψ E
variable {K : List D → σ → R δ}
theorem ai_nil {q : R δ} (e : q = K [] s) : AI aNil pc s q K E := fun γ k Ψ ρ S h => e ▸ h [] s ρ S
theorem ai_at {q : R δ} (ha : AtS m (pc s) x) (h : AI ms pc s q (fun ds s => K (x :: ds) s) E) : AI (aCons m ms) pc s q K E := fun γ k Ψ ρ S hk => by
  have e : M.bind (aCons m ms) k ρ = M.bind ms (fun rs => k (.dat x :: rs)) ρ := by
    unfold aCons
    rw [M.assoc]
    rw [bind_at (ha ρ S), M.assoc]
    rfl
  rw [e]
  exact h _ _ Ψ ρ S fun ds s' ρ' S' => hk (x :: ds) s' ρ' S'
theorem ai_e {q : D → R δ} (ha : XE m (pc s) pa E) (h : ∀ a, AI ms pc s (q a) (fun ds s => K (a :: ds) s) E) : AI (aCons m ms) pc s (bd pa q) K E := fun γ k Ψ ρ S hk => by
  unfold aCons
  rw [M.assoc]
  refine (ha ρ S).bind fun a r ρ1 h1 => ?_
  obtain ⟨rfl, h1⟩ := h1
  rw [M.assoc]
  exact h a _ (fun rs => M.bind (M.ok (DR.dat a :: rs)) k) Ψ ρ1 h1 fun ds s' ρ' S' => hk (a :: ds) s' ρ' S'
theorem ai_i {p : R (D × σ)} {q : D × σ → R δ} (ha : XI m pc s p E) (h : ∀ a : D × σ, AI ms pc a.2 (q a) (fun ds s => K (a.1 :: ds) s) E) : AI (aCons m ms) pc s (bd p q) K E := fun γ k Ψ ρ S hk => by
  unfold aCons
  rw [M.assoc]
  refine (ha ρ S).bind fun a r ρ1 h1 => ?_
  obtain ⟨rfl, h1⟩ := h1
  rw [M.assoc]
  exact h a _ (fun rs => M.bind (M.ok (DR.dat a.1 :: rs)) k) Ψ ρ1 h1 fun ds s' ρ' S' => hk (a.1 :: ds) s' ρ' S'
theorem xi_tup {q : R (D × σ)} (h : AI ms pc s q (fun ds s => bd (tupR ds) fun d => Rk (d, s)) E) : XI (eTup ms) pc s q E := fun ρ S => by
  unfold eTup
  refine h _ _ _ ρ S fun ds s' ρ' S' => Go.then (p := Rk ds) (frzAll_dats ds ρ') ?_
  dsimp only
  unfold tupR
  by_cases hl : ds.length ≤ 16777216
  · rw [if_pos hl, if_pos hl]; exact ⟨_, ρ', rfl, rfl, S'⟩
  · rw [if_neg hl, if_neg hl]; trivial
theorem xi_lst {q : R (D × σ)} (h : AI ms pc s q (fun ds s => bd (lstR ds) fun d => Rk (d, s)) E) : XI (eLst ms) pc s q E := fun ρ S => by
  unfold eLst
  refine h _ _ _ ρ S fun ds s' ρ' S' => Go.then (p := Rk ds) (frzAll_dats ds ρ') ?_
  dsimp only
  unfold lstR
  by_cases hl : ds.length ≤ 16777216
  · rw [if_pos hl, if_pos hl]; exact ⟨_, ρ', rfl, rfl, S'⟩
  · rw [if_neg hl, if_neg hl]; trivial
theorem xi_cb {f : List D → Option D} {q : R (D × σ)} (h : AI ms pc s q (fun ds s => bd (lf (f ds)) fun d => Rk (d, s)) E) : XI (eCB f ms) pc s q E := fun ρ S => by
  unfold eCB
  refine h _ _ _ ρ S fun ds s' ρ' S' => Go.then (p := Rk ds) (rdAll_dats ds ρ') ?_
  exact lfI S'
theorem callA_f {F : Fsp} {ds : List D} {ρ : List DV} : callA false F (ds.map .dat) ρ = callD F ds ρ := by
  unfold callA
  show M.bind (frzAll (ds.map .dat)) (fun ds => callD F ds) ρ = _
  rw [bind_at (frzAll_dats ds ρ)]
theorem xi_call {F : Fsp} {P : List D → R D} {q : R (D × σ)} (hf : ∀ ds, FG (F [] ds) (P ds) ΨD) (h : AI ms pc s q (fun ds s => bd (P ds) fun d => Rk (d, s)) E) (hE : ∀ ρ s, Sees ρ (pc s) → E ρ) : XI (eCall false F ms) pc s q E := fun ρ S => by
  unfold eCall
  refine h _ _ _ ρ S fun ds s' ρ' S' => ?_
  have e : M.bind (callA false F (ds.map .dat)) (fun r => M.ok (DR.dat (rvD r))) ρ' = M.bind (callD F ds) (fun r => M.ok (.dat (rvD r))) ρ' := by unfold M.bind; rw [callA_f]
  rw [e]
  refine (callD_go (Φ := fun d r ρ'' => rvD r = d ∧ Sees ρ'' (pc s')) (hf ds) (fun b r w q => ⟨q, S'⟩) (hE ρ' s' S')).bind fun b r ρ2 k => ⟨_, ρ2, rfl, by rw [k.1], k.2⟩
/-- a call that is lent an own list -/
theorem xi_callO {F : Fsp} {P : List D → List D → R (D × List D)} {q : R (D × σ)} {g : σ → List D} {u : σ → List D → σ} (hf : ∀ w ds, FG (F w ds) (P w ds) ΨDo) (hg : ∀ s, ∃ x, (pc s)[i]? = some (.is x) ∧ x.own = some (g s) ∧ ∀ w, (pc s).set i (.is (x.put w)) = pc (u s w))
    (h : AI ms pc s q (fun ds s => bd (P (g s) ds) fun b => Rk (b.1, u s b.2)) E) (hE : ∀ ρ, E ρ) : XI (eCall true F (aCons (eVar i) ms)) pc s q E := fun ρ S => by
  obtain ⟨v, ev, ov, _⟩ := hg s
  have e1 : eVar i ρ = some (.ok (.loc i), ρ) := by
    unfold eVar; rw [S.is ev]
    cases v <;> first | rfl | cases ov
  unfold eCall aCons
  rw [M.assoc, bind_at e1, M.assoc]
  refine h _ (fun rs => M.bind (M.ok (DR.loc i :: rs)) fun rs => M.bind (callA true F rs) fun r => M.ok (DR.dat (rvD r))) _ ρ S fun ds s' ρ' S' => ?_
  obtain ⟨v2, ev2, ov2, pv2⟩ := hg s'
  show Go (M.bind (callA true F (.loc i :: ds.map .dat)) (fun r => M.ok (DR.dat (rvD r))) ρ') _ _ E
  have e2 : callA true F (.loc i :: ds.map .dat) ρ' = callO F i ds ρ' := by
    show M.bind (frzAll (ds.map .dat)) (fun ds => callO F i ds) ρ' = _
    rw [bind_at (frzAll_dats ds ρ')]
  have e3 : M.bind (callA true F (.loc i :: ds.map .dat)) (fun r => M.ok (DR.dat (rvD r))) ρ' = M.bind (callO F i ds) (fun r => M.ok (.dat (rvD r))) ρ' := by unfold M.bind; rw [e2]
  rw [e3]
  have hc := hf (g s') ds
  have ec : callO F i ds ρ' = match F (g s') ds with
      | none => none
      | some (.ok r, w') => some (.ok r, ρ'.set i (v2.put w'))
      | some (.error z, w') => some (.error z, ρ'.set i (v2.put w')) := by
    unfold callO; rw [S'.is ev2]; dsimp only; rw [ov2] <;> rfl
  dsimp only
  match P (g s') ds, hc with
  | none, _ => trivial
  | some (.ok b), ⟨r, w, e, k1, k2⟩ =>
    refine ⟨.dat (rvD r), ρ'.set i (v2.put w), ?_, by rw [k1], ?_⟩
    · unfold M.bind; rw [ec, e]; try rfl
    · have := S'.set (i := i) (x := v2.put w) (q := .is (v2.put w)) rfl
      rw [pv2] at this
      rw [← k2]; exact this
  | some (.error x), ⟨w, e⟩ => exact ⟨ρ'.set i (v2.put w), by unfold M.bind; rw [ec, e], hE _⟩
/-- own.pop() -/
def popR (ds : List D) : R (D × List D) := match ds[ds.length - 1]? with
  | some d => Rk (d, ds.dropLast)
  | none => none
theorem xi_pop {g : σ → List D} {u : σ → List D → σ} (hg : ∀ s, ∃ x, (pc s)[i]? = some (.is x) ∧ x.own = some (g s) ∧ ∀ w, (pc s).set i (.is (x.put w)) = pc (u s w)) : XI (ePop (eVar i)) pc s (bd (popR (g s)) fun b => Rk (b.1, u s b.2)) E := fun ρ S => by
  obtain ⟨v, ev, ov, pv⟩ := hg s
  have e1 : eVar i ρ = some (.ok (.loc i), ρ) := by
    unfold eVar; rw [S.is ev]
    cases v <;> first | rfl | cases ov
  unfold ePop
  rw [bind_at e1]
  have e2 : ownAt i ρ = some (.ok (g s), ρ) := by unfold ownAt; rw [S.is ev, Option.bind_some, ov]
  dsimp only
  rw [bind_at e2]
  unfold popR
  cases q : (g s)[(g s).length - 1]? with
  | none => trivial
  | some d =>
    refine ⟨.dat d, ρ.set i (v.put (g s).dropLast), ?_, rfl, ?_⟩
    · have e3 : wrAt i (fun ds => some ds.dropLast) ρ = some (.ok (), ρ.set i (v.put (g s).dropLast)) := by unfold wrAt; rw [S.is ev]; dsimp only; rw [ov]
      show M.bind (wrAt i fun ds => some ds.dropLast) (fun _ => M.ok (DR.dat d)) ρ = _
      rw [bind_at e3]; rfl
    · have := S.set (i := i) (x := v.put (g s).dropLast) (q := .is (v.put (g s).dropLast)) rfl
      rw [pv] at this
      exact this
def II (mi : M (List D)) (pc : σ → List PV) (s : σ) (p : R (List D × σ)) (E : List DV → Prop) : Prop := ∀ ρ, Sees ρ (pc s) → Go (mi ρ) p (fun b es ρ' => es = b.1 ∧ Sees ρ' (pc b.2)) E
theorem ii_rng {q : R (List D × σ)} (h : AI ms pc s q (fun ds s => bd (lf (rngF ds)) fun l => Rk (l, s)) E) : II (iRng ms) pc s q E := fun ρ S => by
  unfold iRng
  refine h _ _ _ ρ S fun ds s' ρ' S' => Go.then (p := Rk ds) (rdAll_dats ds ρ') ?_
  show Go _ (bd (DL.lf (rngF ds)) _) _ _
  cases rngF ds with
  | none => trivial
  | some z => exact ⟨z, ρ', rfl, rfl, S'⟩
theorem ii_dat {p : R (D × σ)} (h : XI m pc s p E) : II (iDat m) pc s (bd p fun b => bd (itR' b.1) fun l => Rk (l, b.2)) E := fun ρ S => by
  unfold iDat
  refine (h ρ S).bind fun b r ρ' k => ?_
  obtain ⟨rfl, k⟩ := k
  refine Go.then (p := Rk b.1) (a := b.1) (ρ' := ρ') rfl ?_
  unfold itR'
  cases itemsD b.1 with
  | none => trivial
  | some z => exact ⟨z, ρ', rfl, rfl, k⟩
theorem ni_lst {q : R (List D × σ)} (h : AI ms pc s q (fun ds s => bd (capR ds) fun l => Rk (l, s)) E) : NI (nLst ms) (pc s) q pc E := fun ρ S => by
  unfold nLst
  refine h _ _ _ ρ S fun ds s' ρ' S' => Go.then (p := Rk ds) (frzAll_dats ds ρ') ?_
  dsimp only
  unfold capR
  by_cases hl : ds.length ≤ 16777216
  · rw [if_pos hl, if_pos hl]; exact ⟨(), _, rfl, ρ', rfl, S'⟩
  · rw [if_neg hl, if_neg hl]; trivial
theorem xi_lc {mi : M (List D)} {t : DT} {mt : M Bool} {me : M DR} {vs : List Nat} {q : R (List D × σ)} (h : NI (nLc mi t mt me vs) (pc s) q pc E) : XI (eLc mi t mt me vs) pc s (bd q fun b => Rk (.list b.1, b.2)) E := fun ρ S => by
  unfold eLc
  refine (h ρ S).bind fun l _ ρ1 k => ?_
  obtain ⟨ρ0, rfl, S1⟩ := k
  exact ⟨.dat (.list l.1), ρ0, by unfold popD; simp, rfl, S1⟩
/-! turns of comprehensions that change own lists -/
theorem lti_map {t : DT} {ps : R β} {ptt : β → List PV} {P : σ → List PV} {me : M DR} {P2 : β → σ → List PV} {pe : β → R (D × σ)} (hs : SE (setT t d) (P s) ps ptt E) (h0 : ∀ b, ptt b = P2 b s) (he : ∀ b, XI me (P2 b) s (pe b) E) (hw : ∀ b s, PLe (P2 b s) (P s)) :
    LT t (M.ok true) me P s d (bd ps fun b => bd (pe b) fun y => Rk (some y.1, y.2)) E := fun ρ S => by
  refine (hs ρ S).bind fun b _ ρ1 S1 => ?_
  show Go (M.bind me (fun r => M.bind (frz r) fun y => M.ok (some y)) ρ1) _ _ _
  refine (he b ρ1 (h0 b ▸ S1)).bind fun y r ρ2 k => ?_
  obtain ⟨rfl, S2⟩ := k
  exact ⟨some y.1, ρ2, rfl, rfl, S2.weak (hw b y.2)⟩
theorem lti_sel {t : DT} {ps : R β} {ptt : β → List PV} {P : σ → List PV} {mt : M Bool} {me : M DR} {P2 : β → σ → List PV} {pc : β → R (Bool × σ)} {pe : β → σ → R (D × σ)} (hs : SE (setT t d) (P s) ps ptt E) (h0 : ∀ b, ptt b = P2 b s) (ht : ∀ b, TI mt (P2 b) s (pc b) E) (he : ∀ b s, XI me (P2 b) s (pe b s) E) (hw : ∀ b s, PLe (P2 b s) (P s)) :
    LT t mt me P s d (bd ps fun b => bd (pc b) fun c => if c.1 = true then bd (pe b c.2) fun y => Rk (some y.1, y.2) else Rk (none, c.2)) E := fun ρ S => by
  refine (hs ρ S).bind fun b _ ρ1 S1 => ?_
  unfold lcEl
  refine (ht b ρ1 (h0 b ▸ S1)).bind fun c c' ρ2 k => ?_
  obtain ⟨rfl, S2⟩ := k
  match c, S2 with
  | (false, s'), S2 => exact ⟨none, ρ2, rfl, rfl, S2.weak (hw b s')⟩
  | (true, s'), S2 =>
    refine (he b s' ρ2 S2).bind fun y r ρ3 k => ?_
    obtain ⟨rfl, S3⟩ := k
    exact ⟨some y.1, ρ3, rfl, rfl, S3.weak (hw b y.2)⟩
end
end DL

set_option Elab.async false
set_option linter.all false
set_option maxRecDepth 100000
set_option maxHeartbeats 4000000
/-! PF4: statements, loops, defs. -/
namespace DL
open PySem PySem.Spec PyProof.Rows L2
/-- how a turn of a loop, or a block, ends -/
inductive Lo (σ τ : Type) where
  | nx (s : σ)
  | brk (s : σ)
  | ret (t : τ)
section
variable {α β γ δ σ τ : Type} {m ma mb mc : M DR} {pt pt1 pt2 pt' : List PV} {pa pb pc' : R D} {E : List DV → Prop} {d x y : D} {i j : Nat} {ms : M (List DR)} {pc : σ → List PV} {s : σ}
def ST (m : M Fl) (pt : List PV) (p : R β) (Φ : β → Fl → List DV → Prop) (E : List DV → Prop) : Prop := ∀ ρ, Sees ρ pt → Go (m ρ) p Φ E
variable {rest : M Fl} {Φ : β → Fl → List DV → Prop}
theorem sc_at {m1 m2 : M Fl} {ρ ρ' : List DV} (e : m1 ρ = some (.ok .nx, ρ')) : sCons m1 m2 ρ = m2 ρ' := by
  unfold sCons; rw [bind_at e]
theorem sc_go {m1 : M Fl} {ρ : List DV} {p : R α} {k : α → R β} {Q : α → List DV → Prop} (h : Go (m1 ρ) p (fun b fl ρ' => fl = .nx ∧ Q b ρ') E) (hk : ∀ b ρ', Q b ρ' → Go (rest ρ') (k b) Φ E) : Go (sCons m1 rest ρ) (bd p k) Φ E := by
  unfold sCons
  refine h.bind fun b fl ρ' q => ?_
  obtain ⟨rfl, q⟩ := q
  exact hk b ρ' q
theorem sc_stop {m1 : M Fl} {ρ : List DV} {p : R β} {Φ' : β → Fl → List DV → Prop} (h : Go (m1 ρ) p Φ' E) (hk : ∀ b fl ρ', Φ' b fl ρ' → fl ≠ .nx ∧ Φ b fl ρ') : Go (sCons m1 rest ρ) p Φ E := by
  unfold sCons
  refine Go.map h fun b fl ρ' q => ?_
  obtain ⟨n, q⟩ := hk b fl ρ' q
  cases fl with
  | nx => exact (n rfl).elim
  | _ => exact ⟨_, ρ', rfl, q⟩
theorem st_assoc {a b c : M Fl} {p : R β} (h : ST (sCons a (sCons b c)) pt p Φ E) : ST (sCons (sCons a b) c) pt p Φ E := fun ρ S => by
  have e : sCons (sCons a b) c ρ = sCons a (sCons b c) ρ := by
    unfold sCons
    rw [M.assoc]
    unfold M.bind
    cases a ρ with
    | none => rfl
    | some o =>
      obtain ⟨o, ρ1⟩ := o
      cases o with
      | error e => rfl
      | ok fl => cases fl <;> rfl
  rw [e]; exact h ρ S
theorem st_nilr {p : R β} (h : ST rest pt p Φ E) : ST (sCons sNil rest) pt p Φ E := fun ρ S => by
  rw [sc_at (m1 := sNil) (ρ' := ρ) rfl]; exact h ρ S
theorem st_nx {b : β} (h : ∀ ρ, Sees ρ pt → Φ b .nx ρ) : ST sNil pt (Rk b) Φ E := fun ρ S => ⟨.nx, ρ, rfl, h ρ S⟩
theorem st_pass {p : R β} (h : ST rest pt p Φ E) : ST (sCons sPass rest) pt p Φ E := st_nilr h
theorem st_never : ST (sCons sNever rest) pt (none : R β) Φ E := fun ρ S => trivial
theorem st_weak {m : M Fl} {p : R β} (w : PLe pt pt1) (h : ST m pt1 p Φ E) : ST m pt p Φ E := fun ρ S => h ρ (S.weak w)
/-! stores -/
theorem sSetX_dat {ρ : List DV} (e : m ρ = some (.ok (.dat d), ρ')) (S : Sees ρ' pt1) (w : WrAt pt1 i) : sSetX i m ρ = some (.ok .nx, ρ'.set i (.dat d)) := by
  unfold sSetX
  rw [bind_at e]
  show M.bind (frz (.dat d)) (fun d => M.bind (setD i d) fun _ => M.ok Fl.nx) ρ' = _
  rw [bind_at (show frz (.dat d) ρ' = some (.ok d, ρ') from rfl), bind_at (S.setD w)]; rfl
theorem st_set {k : D → R β} (h : XF m pt pa pt1 E) (w : WrAt pt1 i) (hk : ∀ d, ST rest (pt1.set i (.is (.dat d))) (k d) Φ E) : ST (sCons (sSetX i m) rest) pt (bd pa k) Φ E := fun ρ S => by
  refine sc_go (Q := fun d ρ' => Sees ρ' (pt1.set i (.is (.dat d)))) ?_ hk
  have := h ρ S
  match pa, this with
  | none, _ => trivial
  | some (.ok a), ⟨r, ρ', e, er, S1⟩ => subst er; exact ⟨.nx, _, sSetX_dat e S1 w, rfl, S1.set rfl⟩
  | some (.error x), ⟨ρ', e, hE⟩ => exact ⟨ρ', by unfold sSetX M.bind; rw [e], hE⟩
theorem st_setA {p : R β} (h : AtS m pt x) (w : WrAt pt i) (hk : ST rest (pt.set i (.is (.dat x))) p Φ E) : ST (sCons (sSetX i m) rest) pt p Φ E := fun ρ S => by
  rw [sc_at (sSetX_dat (h ρ S) S w)]
  exact hk _ (S.set rfl)
theorem st_setI {p : R (D × σ)} {k : D × σ → R β} (h : XI m pc s p E) (w : ∀ s, WrAt (pc s) i) (hk : ∀ b : D × σ, ST rest ((pc b.2).set i (.is (.dat b.1))) (k b) Φ E) : ST (sCons (sSetX i m) rest) (pc s) (bd p k) Φ E := fun ρ S => by
  refine sc_go (Q := fun b ρ' => Sees ρ' ((pc b.2).set i (.is (.dat b.1)))) ?_ hk
  have := h ρ S
  match p, this with
  | none, _ => trivial
  | some (.ok a), ⟨r, ρ', e, er, S1⟩ => subst er; exact ⟨.nx, _, sSetX_dat e S1 (w _), rfl, S1.set rfl⟩
  | some (.error x), ⟨ρ', e, hE⟩ => exact ⟨ρ', by unfold sSetX M.bind; rw [e], hE⟩
/-- x = own -/
theorem st_setO {p : R β} {ds : List D} (e : pt[j]? = some (.is (.lst ds))) (w : WrAt (pt.set j (.is (.dat (.list ds)))) i) (hk : ST rest ((pt.set j (.is (.dat (.list ds)))).set i (.is (.dat (.list ds)))) p Φ E) : ST (sCons (sSetX i (eVar j)) rest) pt p Φ E := fun ρ S => by
  have e1 : eVar j ρ = some (.ok (.loc j), ρ) := by unfold eVar; rw [S.is e]
  have e2 : frz (.loc j) ρ = some (.ok (.list ds), ρ.set j (.dat (.list ds))) := by unfold frz; dsimp only; rw [S.is e] <;> rfl
  have S1 : Sees (ρ.set j (.dat (.list ds))) (pt.set j (.is (.dat (.list ds)))) := S.set rfl
  have e3 : sSetX i (eVar j) ρ = some (.ok .nx, (ρ.set j (.dat (.list ds))).set i (.dat (.list ds))) := by
    unfold sSetX
    rw [bind_at e1]
    show M.bind (frz (.loc j)) (fun d => M.bind (setD i d) fun _ => M.ok Fl.nx) ρ = _
    rw [bind_at e2, bind_at (S1.setD w)]; rfl
  rw [sc_at e3]
  exact hk _ (S1.set rfl)
theorem Sees.setV {ρ : List DV} {v : DV} (h : Sees ρ pt) (hw : WrAt pt i) : DL.setV i v ρ = some (.ok (), ρ.set i v) := by
  unfold WrAt at hw
  cases e : pt[i]? with
  | none => rw [e] at hw; cases hw
  | some p =>
    rw [e] at hw
    obtain ⟨x, e1, h1⟩ := h.at e
    unfold DL.setV
    rw [e1]
    dsimp only
    rw [h1.wr (by simpa using hw)]
    rfl
/-- x = e, an exception -/
theorem st_setE {p : R β} {c : Str} (e : pt[j]? = some (.is (.exc c d))) (w : WrAt pt i) (hk : ST rest (pt.set i (.is (.exc c d))) p Φ E) : ST (sCons (sSetX i (eVar j)) rest) pt p Φ E := fun ρ S => by
  have e1 : eVar j ρ = some (.ok (.exc c d), ρ) := by unfold eVar; rw [S.is e]
  have e3 : sSetX i (eVar j) ρ = some (.ok .nx, ρ.set i (.exc c d)) := by
    unfold sSetX
    rw [bind_at e1]
    show M.bind (DL.setV i (.exc c d)) (fun _ => M.ok Fl.nx) ρ = _
    rw [bind_at (S.setV w)]; rfl
  rw [sc_at e3]
  exact hk _ (S.set rfl)
theorem popTo_at {ρ0 : List DV} {l : List D} (S : Sees ρ0 pt1) (w : WrAt pt1 i) : popTo i (ρ0 ++ [.lst l]) = some (.ok (), ρ0.set i (.lst l)) := by
  unfold popTo
  unfold WrAt at w
  cases e : pt1[i]? with
  | none => rw [e] at w; cases w
  | some p =>
    rw [e] at w
    obtain ⟨x, e1, h1⟩ := S.at e
    simp only [List.getLast?_append, List.getLast?_singleton, Option.or_some, List.dropLast_concat, e1]
    rw [h1.wr (by simpa using w)]
    rfl
theorem st_setN {mn : M Unit} {p : R (List D)} {k : List D → R β} (h : NE mn pt p pt1 E) (w : WrAt pt1 i) (hk : ∀ l, ST rest (pt1.set i (.is (.lst l))) (k l) Φ E) : ST (sCons (sSetN i mn) rest) pt (bd p k) Φ E := fun ρ S => by
  refine sc_go (Q := fun l ρ' => Sees ρ' (pt1.set i (.is (.lst l)))) ?_ hk
  have := h ρ S
  match p, this with
  | none, _ => trivial
  | some (.ok l), ⟨_, ρ', e, ρ0, er, S1⟩ =>
    subst er
    refine ⟨.nx, ρ0.set i (.lst l), ?_, rfl, S1.set rfl⟩
    unfold sSetN
    rw [bind_at e, bind_at (popTo_at S1 w)]; rfl
  | some (.error x), ⟨ρ', e, hE⟩ => exact ⟨ρ', by unfold sSetN M.bind; rw [e], hE⟩
theorem st_setNI {mn : M Unit} {p : R (List D × σ)} {k : List D × σ → R β} (h : NI mn pt p pc E) (w : ∀ s, WrAt (pc s) i) (hk : ∀ b : List D × σ, ST rest ((pc b.2).set i (.is (.lst b.1))) (k b) Φ E) : ST (sCons (sSetN i mn) rest) pt (bd p k) Φ E := fun ρ S => by
  refine sc_go (Q := fun b ρ' => Sees ρ' ((pc b.2).set i (.is (.lst b.1)))) ?_ hk
  have := h ρ S
  match p, this with
  | none, _ => trivial
  | some (.ok b), ⟨_, ρ', e, ρ0, er, S1⟩ =>
    subst er
    refine ⟨.nx, ρ0.set i (.lst b.1), ?_, rfl, S1.set rfl⟩
    unfold sSetN
    rw [bind_at e, bind_at (popTo_at S1 (w _))]; rfl
  | some (.error x), ⟨ρ', e, hE⟩ => exact ⟨ρ', by unfold sSetN M.bind; rw [e], hE⟩
/-! several at once -/
def pr2 (ds : List D) : R (D × D) := match ds with
  | [a, b] => Rk (a, b)
  | _ => none
def pr3 (ds : List D) : R (D × D × D) := match ds with
  | [a, b, c] => Rk (a, b, c)
  | _ => none
def pr4 (ds : List D) : R (D × D × D × D) := match ds with
  | [a, b, c, e] => Rk (a, b, c, e)
  | _ => none
@[simp] theorem pr2_t {a b : D} : pr2 [a, b] = Rk (a, b) := nr rfl
@[simp] theorem pr3_t {a b c : D} : pr3 [a, b, c] = Rk (a, b, c) := nr rfl
@[simp] theorem pr4_t {a b c e : D} : pr4 [a, b, c, e] = Rk (a, b, c, e) := nr rfl
theorem st_par2 {q : R (D × D)} {k : D × D → R β} {i j : Nat} (h : GA ms pt q pr2 pt1 E) (w1 : WrAt pt1 i) (w2 : ∀ a, WrAt (pt1.set i (.is (.dat a))) j) (hk : ∀ t : D × D, ST rest ((pt1.set i (.is (.dat t.1))).set j (.is (.dat t.2))) (k t) Φ E) : ST (sCons (sPar [i, j] ms) rest) pt (bd q k) Φ E := fun ρ S => by
  refine sc_go (Q := fun t ρ' => Sees ρ' ((pt1.set i (.is (.dat t.1))).set j (.is (.dat t.2)))) ?_ hk
  unfold sPar
  refine h _ _ _ ρ S fun ds ρ' S' => ?_
  unfold pr2
  split
  · rename_i a b
    obtain ⟨e, S2⟩ := sees_set2 (b := b) S' w1 (w2 a)
    exact ⟨.nx, _, by rw [bind_at e]; rfl, rfl, S2⟩
  · trivial
theorem st_par3 {q : R (D × D × D)} {k : D × D × D → R β} {i j l : Nat} (h : GA ms pt q pr3 pt1 E) (w1 : WrAt pt1 i) (w2 : ∀ a, WrAt (pt1.set i (.is (.dat a))) j) (w3 : ∀ a b, WrAt ((pt1.set i (.is (.dat a))).set j (.is (.dat b))) l)
    (hk : ∀ t : D × D × D, ST rest (((pt1.set i (.is (.dat t.1))).set j (.is (.dat t.2.1))).set l (.is (.dat t.2.2))) (k t) Φ E) : ST (sCons (sPar [i, j, l] ms) rest) pt (bd q k) Φ E := fun ρ S => by
  refine sc_go (Q := fun t ρ' => Sees ρ' (((pt1.set i (.is (.dat t.1))).set j (.is (.dat t.2.1))).set l (.is (.dat t.2.2)))) ?_ hk
  unfold sPar
  refine h _ _ _ ρ S fun ds ρ' S' => ?_
  unfold pr3
  split
  · rename_i a b c
    obtain ⟨e, S2⟩ := sees_set3 (c := c) S' w1 (w2 a) (w3 a b)
    exact ⟨.nx, _, by rw [bind_at e]; rfl, rfl, S2⟩
  · trivial
theorem st_par4 {q : R (D × D × D × D)} {k : D × D × D × D → R β} {i j l n : Nat} (h : GA ms pt q pr4 pt1 E) (w1 : WrAt pt1 i) (w2 : ∀ a, WrAt (pt1.set i (.is (.dat a))) j) (w3 : ∀ a b, WrAt ((pt1.set i (.is (.dat a))).set j (.is (.dat b))) l) (w4 : ∀ a b c, WrAt (((pt1.set i (.is (.dat a))).set j (.is (.dat b))).set l (.is (.dat c))) n)
    (hk : ∀ t : D × D × D × D, ST rest ((((pt1.set i (.is (.dat t.1))).set j (.is (.dat t.2.1))).set l (.is (.dat t.2.2.1))).set n (.is (.dat t.2.2.2))) (k t) Φ E) : ST (sCons (sPar [i, j, l, n] ms) rest) pt (bd q k) Φ E := fun ρ S => by
  refine sc_go (Q := fun t ρ' => Sees ρ' ((((pt1.set i (.is (.dat t.1))).set j (.is (.dat t.2.1))).set l (.is (.dat t.2.2.1))).set n (.is (.dat t.2.2.2)))) ?_ hk
  unfold sPar
  refine h _ _ _ ρ S fun ds ρ' S' => ?_
  unfold pr4
  split
  · rename_i a b c e
    obtain ⟨z, S2⟩ := sees_set4 (e := e) S' w1 (w2 a) (w3 a b) (w4 a b c)
    exact ⟨.nx, _, by rw [bind_at z]; rfl, rfl, S2⟩
  · trivial
theorem st_par2I {q : R ((D × D) × σ)} {k : (D × D) × σ → R β} {i j : Nat} (h : AI ms pc s q (fun ds s => bd (pr2 ds) fun t => Rk (t, s)) E) (w1 : ∀ s, WrAt (pc s) i) (w2 : ∀ s a, WrAt ((pc s).set i (.is (.dat a))) j)
    (hk : ∀ b : (D × D) × σ, ST rest (((pc b.2).set i (.is (.dat b.1.1))).set j (.is (.dat b.1.2))) (k b) Φ E) : ST (sCons (sPar [i, j] ms) rest) (pc s) (bd q k) Φ E := fun ρ S => by
  refine sc_go (Q := fun b ρ' => Sees ρ' (((pc b.2).set i (.is (.dat b.1.1))).set j (.is (.dat b.1.2)))) ?_ hk
  unfold sPar
  refine h _ _ _ ρ S fun ds s' ρ' S' => Go.then (p := Rk ds) (frzAll_dats ds ρ') ?_
  dsimp only
  unfold pr2
  split
  · rename_i a b
    obtain ⟨e, S2⟩ := sees_set2 (b := b) S' (w1 s') (w2 s' a)
    exact ⟨.nx, _, by rw [bind_at e]; rfl, rfl, S2⟩
  · trivial
theorem st_par3I {q : R ((D × D × D) × σ)} {k : (D × D × D) × σ → R β} {i j l : Nat} (h : AI ms pc s q (fun ds s => bd (pr3 ds) fun t => Rk (t, s)) E) (w1 : ∀ s, WrAt (pc s) i) (w2 : ∀ s a, WrAt ((pc s).set i (.is (.dat a))) j) (w3 : ∀ s a b, WrAt (((pc s).set i (.is (.dat a))).set j (.is (.dat b))) l)
    (hk : ∀ b : (D × D × D) × σ, ST rest ((((pc b.2).set i (.is (.dat b.1.1))).set j (.is (.dat b.1.2.1))).set l (.is (.dat b.1.2.2))) (k b) Φ E) : ST (sCons (sPar [i, j, l] ms) rest) (pc s) (bd q k) Φ E := fun ρ S => by
  refine sc_go (Q := fun b ρ' => Sees ρ' ((((pc b.2).set i (.is (.dat b.1.1))).set j (.is (.dat b.1.2.1))).set l (.is (.dat b.1.2.2)))) ?_ hk
  unfold sPar
  refine h _ _ _ ρ S fun ds s' ρ' S' => Go.then (p := Rk ds) (frzAll_dats ds ρ') ?_
  dsimp only
  unfold pr3
  split
  · rename_i a b c
    obtain ⟨e, S2⟩ := sees_set3 (c := c) S' (w1 s') (w2 s' a) (w3 s' a b)
    exact ⟨.nx, _, by rw [bind_at e]; rfl, rfl, S2⟩
  · trivial
theorem st_unp2 {p : R D} {k : D × D → R β} {i j : Nat} (h : XF m pt p pt1 E) (w1 : WrAt pt1 i) (w2 : ∀ a, WrAt (pt1.set i (.is (.dat a))) j) (hk : ∀ t : D × D, ST rest ((pt1.set i (.is (.dat t.1))).set j (.is (.dat t.2))) (k t) Φ E) : ST (sCons (sUnp [i, j] m) rest) pt (bd p fun d => bd (un2 d) k) Φ E := fun ρ S => by
  rw [← bd_assoc]
  refine sc_go (Q := fun t ρ' => Sees ρ' ((pt1.set i (.is (.dat t.1))).set j (.is (.dat t.2)))) ?_ hk
  unfold sUnp
  refine (h ρ S).bind fun d r ρ1 k => ?_
  obtain ⟨rfl, S1⟩ := k
  unfold un2
  split
  · rename_i a b
    obtain ⟨e, S2⟩ := sees_set2 (b := b) S1 w1 (w2 a)
    exact ⟨.nx, _, by dsimp only; rw [bind_at e]; rfl, rfl, S2⟩
  · trivial
theorem st_unp3 {p : R D} {k : D × D × D → R β} {i j l : Nat} (h : XF m pt p pt1 E) (w1 : WrAt pt1 i) (w2 : ∀ a, WrAt (pt1.set i (.is (.dat a))) j) (w3 : ∀ a b, WrAt ((pt1.set i (.is (.dat a))).set j (.is (.dat b))) l) (hk : ∀ t : D × D × D, ST rest (((pt1.set i (.is (.dat t.1))).set j (.is (.dat t.2.1))).set l (.is (.dat t.2.2))) (k t) Φ E) : ST (sCons (sUnp [i, j, l] m) rest) pt (bd p fun d => bd (un3 d) k) Φ E := fun ρ S => by
  rw [← bd_assoc]
  refine sc_go (Q := fun t ρ' => Sees ρ' (((pt1.set i (.is (.dat t.1))).set j (.is (.dat t.2.1))).set l (.is (.dat t.2.2)))) ?_ hk
  unfold sUnp
  refine (h ρ S).bind fun d r ρ1 k => ?_
  obtain ⟨rfl, S1⟩ := k
  unfold un3
  split
  · rename_i a b c
    obtain ⟨e, S2⟩ := sees_set3 (c := c) S1 w1 (w2 a) (w3 a b)
    exact ⟨.nx, _, by dsimp only; rw [bind_at e]; rfl, rfl, S2⟩
  · trivial
theorem st_unp4 {p : R D} {k : D × D × D × D → R β} {i j l n : Nat} (h : XF m pt p pt1 E) (w1 : WrAt pt1 i) (w2 : ∀ a, WrAt (pt1.set i (.is (.dat a))) j) (w3 : ∀ a b, WrAt ((pt1.set i (.is (.dat a))).set j (.is (.dat b))) l) (w4 : ∀ a b c, WrAt (((pt1.set i (.is (.dat a))).set j (.is (.dat b))).set l (.is (.dat c))) n) (hk : ∀ t : D × D × D × D, ST rest ((((pt1.set i (.is (.dat t.1))).set j (.is (.dat t.2.1))).set l (.is (.dat t.2.2.1))).set n (.is (.dat t.2.2.2))) (k t) Φ E) : ST (sCons (sUnp [i, j, l, n] m) rest) pt (bd p fun d => bd (un4 d) k) Φ E := fun ρ S => by
  rw [← bd_assoc]
  refine sc_go (Q := fun t ρ' => Sees ρ' ((((pt1.set i (.is (.dat t.1))).set j (.is (.dat t.2.1))).set l (.is (.dat t.2.2.1))).set n (.is (.dat t.2.2.2)))) ?_ hk
  unfold sUnp
  refine (h ρ S).bind fun d r ρ1 k => ?_
  obtain ⟨rfl, S1⟩ := k
  unfold un4
  split
  · rename_i a b c e
    obtain ⟨z, S2⟩ := sees_set4 (e := e) S1 w1 (w2 a) (w3 a b) (w4 a b c)
    exact ⟨.nx, _, by dsimp only; rw [bind_at z]; rfl, rfl, S2⟩
  · trivial
theorem st_unp2I {p : R (D × σ)} {k : (D × D) × σ → R β} {i j : Nat} (h : XI m pc s p E) (w1 : ∀ s, WrAt (pc s) i) (w2 : ∀ s a, WrAt ((pc s).set i (.is (.dat a))) j) (hk : ∀ b : (D × D) × σ, ST rest (((pc b.2).set i (.is (.dat b.1.1))).set j (.is (.dat b.1.2))) (k b) Φ E) : ST (sCons (sUnp [i, j] m) rest) (pc s) (bd p fun d => bd (un2 d.1) fun t => k (t, d.2)) Φ E := fun ρ S => by
  have e0 : (bd p fun d => bd (un2 d.1) fun t => k (t, d.2)) = bd (bd p fun d => bd (un2 d.1) fun t => Rk (t, d.2)) k := by
    rw [bd_assoc]; congr 1; funext d; rw [bd_assoc]; rfl
  rw [e0]
  refine sc_go (Q := fun b ρ' => Sees ρ' (((pc b.2).set i (.is (.dat b.1.1))).set j (.is (.dat b.1.2)))) ?_ hk
  unfold sUnp
  refine (h ρ S).bind fun d r ρ1 k => ?_
  obtain ⟨rfl, S1⟩ := k
  unfold un2
  split
  · rename_i a b he
    obtain ⟨e, S2⟩ := sees_set2 (b := b) S1 (w1 _) (w2 _ a)
    rw [he]
    exact ⟨.nx, _, by dsimp only; rw [bind_at e]; rfl, rfl, S2⟩
  · trivial
/-! own lists -/
def stR (ds : List D) (d k : D) : R (List D) := match k with
  | .int k => match ixN ds.length k with
    | some j => Rk (ds.set j d)
    | none => none
  | _ => none
def appR (ds : List D) (d : D) : R (List D) := if ds.length < 16777216 then Rk (ds ++ [d]) else none
theorem eVar_own {ρ : List DV} {v : DV} {ds : List D} (S : Sees ρ pt) (e : pt[i]? = some (.is v)) (o : v.own = some ds) : eVar i ρ = some (.ok (.loc i), ρ) := by
  unfold eVar; rw [S.is e]
  cases v <;> first | rfl | cases o
theorem wrAt_at {ρ : List DV} {v : DV} {ds es : List D} {f : List D → Option (List D)} (S : Sees ρ pt) (e : pt[i]? = some (.is v)) (o : v.own = some ds) (hf : f ds = some es) : wrAt i f ρ = some (.ok (), ρ.set i (v.put es)) := by
  unfold wrAt; rw [S.is e]; dsimp only; rw [o]; dsimp only; rw [hf]
theorem store_go {ρ : List DV} {v : DV} {ds : List D} {k : D} (S : Sees ρ pt) (e : pt[i]? = some (.is v)) (o : v.own = some ds) : Go (storeK d (.loc i) k ρ) (stR ds d k) (fun l fl ρ' => fl = .nx ∧ Sees ρ' (pt.set i (.is (v.put l)))) E := by
  unfold stR
  cases k with
  | int k =>
    dsimp only
    cases q : ixN ds.length k with
    | none => trivial
    | some j =>
      refine ⟨.nx, ρ.set i (v.put (ds.set j d)), ?_, rfl, S.set rfl⟩
      show M.bind (wrAt i fun ds => (ixN ds.length k).map fun j => ds.set j d) (fun _ => M.ok Fl.nx) ρ = _
      rw [bind_at (wrAt_at S e o (es := ds.set j d) (by rw [q]; rfl))]; rfl
  | _ => trivial
theorem st_store {v : DV} {ds : List D} {mi : M DR} {k : List D → R β} {pk : R D} (he : XF m pt pa pt1 E) (hi : XR mi pt1 pk E) (e : pt1[i]? = some (.is v)) (o : v.own = some ds) (hk : ∀ l, ST rest (pt1.set i (.is (v.put l))) (k l) Φ E) : ST (sCons (sStore m (eVar i) mi) rest) pt (bd pa fun d => bd pk fun n => bd (stR ds d n) k) Φ E := fun ρ S => by
  have e0 : (bd pa fun d => bd pk fun n => bd (stR ds d n) k) = bd (bd pa fun d => bd pk fun n => stR ds d n) k := by
    rw [bd_assoc]; congr 1; funext d; rw [bd_assoc]
  rw [e0]
  refine sc_go (Q := fun l ρ' => Sees ρ' (pt1.set i (.is (v.put l)))) ?_ hk
  unfold sStore
  refine (he ρ S).bind fun d r ρ1 h1 => ?_
  obtain ⟨rfl, S1⟩ := h1
  refine Go.then (p := Rk d) (a := d) (ρ' := ρ1) rfl ?_
  refine Go.then (p := Rk d) (eVar_own S1 e o) ?_
  refine (hi ρ1 S1).bind fun n r ρ2 h2 => ?_
  refine Go.then (p := Rk n) (h2.1.rd h2.2) ?_
  exact store_go h2.2 e o
/-- what is stored changes own lists -/
theorem st_storeI {g : σ → List D} {vv : σ → DV} {mi : M DR} {k : List D × σ → R β} {p : R (D × σ)} {pk : D × σ → R D} (he : XI m pc s p E) (hi : ∀ a : D × σ, XR mi (pc a.2) (pk a) E) (e : ∀ s, (pc s)[i]? = some (.is (vv s))) (o : ∀ s, (vv s).own = some (g s)) (hk : ∀ b : List D × σ, ST rest ((pc b.2).set i (.is ((vv b.2).put b.1))) (k b) Φ E) :
    ST (sCons (sStore m (eVar i) mi) rest) (pc s) (bd p fun d => bd (pk d) fun n => bd (stR (g d.2) d.1 n) fun l => k (l, d.2)) Φ E := fun ρ S => by
  have e0 : (bd p fun d => bd (pk d) fun n => bd (stR (g d.2) d.1 n) fun l => k (l, d.2)) = bd (bd p fun d => bd (pk d) fun n => bd (stR (g d.2) d.1 n) fun l => Rk (l, d.2)) k := by
    rw [bd_assoc]; congr 1; funext d; rw [bd_assoc]; congr 1; funext n; rw [bd_assoc]; rfl
  rw [e0]
  refine sc_go (Q := fun b ρ' => Sees ρ' ((pc b.2).set i (.is ((vv b.2).put b.1)))) ?_ hk
  unfold sStore
  refine (he ρ S).bind fun d r ρ1 h1 => ?_
  obtain ⟨rfl, S1⟩ := h1
  refine Go.then (p := Rk d.1) (a := d.1) (ρ' := ρ1) rfl ?_
  refine Go.then (p := Rk d.1) (eVar_own S1 (e _) (o _)) ?_
  refine (hi d ρ1 S1).bind fun n r ρ2 h2 => ?_
  refine Go.then (p := Rk n) (h2.1.rd h2.2) ?_
  have := store_go (d := d.1) (k := n) (E := E) h2.2 (e _) (o _)
  match stR (g d.2) d.1 n, this with
  | none, _ => trivial
  | some (.error x), h => exact h
  | some (.ok l), h => exact h
theorem app_go {ρ : List DV} {v : DV} {ds : List D} (S : Sees ρ pt) (e : pt[i]? = some (.is v)) (o : v.own = some ds) : Go (M.bind (wrAt i fun ds => if ds.length < 16777216 then some (ds ++ [d]) else none) (fun _ => M.ok (DR.dat .none)) ρ) (appR ds d) (fun l r ρ' => r = .dat .none ∧ Sees ρ' (pt.set i (.is (v.put l)))) E := by
  unfold appR
  by_cases h : ds.length < 16777216
  · rw [if_pos h]
    refine ⟨.dat .none, ρ.set i (v.put (ds ++ [d])), ?_, rfl, S.set rfl⟩
    rw [bind_at (wrAt_at S e o (es := ds ++ [d]) (if_pos h))]; rfl
  · rw [if_neg h]; trivial
theorem st_app {v : DV} {ds : List D} {k : List D → R β} (he : XF m pt pa pt1 E) (e0 : pt[i]? = some (.is v)) (e : pt1[i]? = some (.is v)) (o : v.own = some ds) (hk : ∀ l, ST rest (pt1.set i (.is (v.put l))) (k l) Φ E) : ST (sCons (sExpr (eAp (eVar i) m)) rest) pt (bd pa fun d => bd (appR ds d) k) Φ E := fun ρ S => by
  rw [← bd_assoc]
  refine sc_go (Q := fun l ρ' => Sees ρ' (pt1.set i (.is (v.put l)))) ?_ hk
  unfold sExpr
  refine Go.map (Φ := fun l r ρ' => Sees ρ' (pt1.set i (.is (v.put l)))) ?_ fun b a ρ' k => ⟨_, ρ', rfl, rfl, k⟩
  unfold eAp
  refine Go.then (p := Rk PyData.none) (eVar_own S e0 o) ?_
  have e2 : ownAt i ρ = some (.ok ds, ρ) := by unfold ownAt; rw [S.is e0, Option.bind_some, o]
  refine Go.then (p := Rk PyData.none) e2 ?_
  refine (he ρ S).bind fun d r ρ1 h1 => ?_
  obtain ⟨rfl, S1⟩ := h1
  refine Go.then (p := Rk d) (a := d) (ρ' := ρ1) rfl ?_
  exact (app_go S1 e o).mono fun _ _ _ k => k.2
theorem st_appI {g : σ → List D} {vv : σ → DV} {k : List D × σ → R β} {p : R (D × σ)} (he : XI m pc s p E) (e : ∀ s, (pc s)[i]? = some (.is (vv s))) (o : ∀ s, (vv s).own = some (g s)) (hk : ∀ b : List D × σ, ST rest ((pc b.2).set i (.is ((vv b.2).put b.1))) (k b) Φ E) :
    ST (sCons (sExpr (eAp (eVar i) m)) rest) (pc s) (bd p fun d => bd (appR (g d.2) d.1) fun l => k (l, d.2)) Φ E := fun ρ S => by
  have e0 : (bd p fun d => bd (appR (g d.2) d.1) fun l => k (l, d.2)) = bd (bd p fun d => bd (appR (g d.2) d.1) fun l => Rk (l, d.2)) k := by
    rw [bd_assoc]; congr 1; funext d; rw [bd_assoc]; rfl
  rw [e0]
  refine sc_go (Q := fun b ρ' => Sees ρ' ((pc b.2).set i (.is ((vv b.2).put b.1)))) ?_ hk
  unfold sExpr
  refine Go.map (Φ := fun (b : List D × σ) r ρ' => Sees ρ' ((pc b.2).set i (.is ((vv b.2).put b.1)))) ?_ fun b a ρ' k => ⟨_, ρ', rfl, rfl, k⟩
  unfold eAp
  refine Go.then (p := Rk PyData.none) (eVar_own S (e _) (o _)) ?_
  have e2 : ownAt i ρ = some (.ok (g s), ρ) := by unfold ownAt; rw [S.is (e _), Option.bind_some, o]
  refine Go.then (p := Rk PyData.none) e2 ?_
  refine (he ρ S).bind fun d r ρ1 h1 => ?_
  obtain ⟨rfl, S1⟩ := h1
  refine Go.then (p := Rk d.1) (a := d.1) (ρ' := ρ1) rfl ?_
  have := app_go (d := d.1) (E := E) S1 (e _) (o _)
  match appR (g d.2) d.1, this with
  | none, _ => trivial
  | some (.error x), h => exact h
  | some (.ok l), ⟨r, ρ', e, k⟩ => exact ⟨r, ρ', e, k.2⟩
/-- own.extend(a new list) -/
def extR (ds es : List D) : R (List D) := if ds.length + es.length ≤ 16777216 then Rk (ds ++ es) else none
theorem st_ext {v : DV} {ds : List D} {mn : M Unit} {k : List D → R β} {p : R (List D)} (he : NE mn pt p pt1 E) (e0 : pt[i]? = some (.is v)) (e : pt1[i]? = some (.is v)) (o : v.own = some ds) (hk : ∀ l, ST rest (pt1.set i (.is (v.put l))) (k l) Φ E) : ST (sCons (sExpr (eExt (eVar i) mn)) rest) pt (bd p fun es => bd (extR ds es) k) Φ E := fun ρ S => by
  rw [← bd_assoc]
  refine sc_go (Q := fun l ρ' => Sees ρ' (pt1.set i (.is (v.put l)))) ?_ hk
  unfold sExpr
  refine Go.map (Φ := fun l r ρ' => Sees ρ' (pt1.set i (.is (v.put l)))) ?_ fun b a ρ' k => ⟨_, ρ', rfl, rfl, k⟩
  unfold eExt
  refine Go.then (p := Rk PyData.none) (eVar_own S e0 o) ?_
  have e2 : ownAt i ρ = some (.ok ds, ρ) := by unfold ownAt; rw [S.is e0, Option.bind_some, o]
  refine Go.then (p := Rk PyData.none) e2 ?_
  refine (he ρ S).bind fun es _ ρ1 h1 => ?_
  obtain ⟨ρ0, rfl, S1⟩ := h1
  unfold extR
  by_cases h : ds.length + es.length ≤ 16777216
  · rw [if_pos h]
    refine ⟨.dat .none, ρ0.set i (v.put (ds ++ es)), ?_, S1.set rfl⟩
    unfold extAt
    simp only [List.getLast?_append, List.getLast?_singleton, Option.or_some, List.dropLast_concat, S1.is e, o]
    exact if_pos h
  · rw [if_neg h]; trivial
theorem st_extI {g : σ → List D} {vv : σ → DV} {mn : M Unit} {k : List D × σ → R β} {p : R (List D × σ)} (he : NI mn (pc s) p pc E) (e : ∀ s, (pc s)[i]? = some (.is (vv s))) (o : ∀ s, (vv s).own = some (g s)) (hk : ∀ b : List D × σ, ST rest ((pc b.2).set i (.is ((vv b.2).put b.1))) (k b) Φ E) :
    ST (sCons (sExpr (eExt (eVar i) mn)) rest) (pc s) (bd p fun d => bd (extR (g d.2) d.1) fun l => k (l, d.2)) Φ E := fun ρ S => by
  have e0 : (bd p fun d => bd (extR (g d.2) d.1) fun l => k (l, d.2)) = bd (bd p fun d => bd (extR (g d.2) d.1) fun l => Rk (l, d.2)) k := by
    rw [bd_assoc]; congr 1; funext d; rw [bd_assoc]; rfl
  rw [e0]
  refine sc_go (Q := fun b ρ' => Sees ρ' ((pc b.2).set i (.is ((vv b.2).put b.1)))) ?_ hk
  unfold sExpr
  refine Go.map (Φ := fun (b : List D × σ) r ρ' => Sees ρ' ((pc b.2).set i (.is ((vv b.2).put b.1)))) ?_ fun b a ρ' k => ⟨_, ρ', rfl, rfl, k⟩
  unfold eExt
  refine Go.then (p := Rk PyData.none) (eVar_own S (e _) (o _)) ?_
  have e2 : ownAt i ρ = some (.ok (g s), ρ) := by unfold ownAt; rw [S.is (e _), Option.bind_some, o]
  refine Go.then (p := Rk PyData.none) e2 ?_
  refine (he ρ S).bind fun es _ ρ1 h1 => ?_
  obtain ⟨ρ0, rfl, S1⟩ := h1
  unfold extR
  by_cases h : (g es.2).length + es.1.length ≤ 16777216
  · rw [if_pos h]
    refine ⟨.dat .none, ρ0.set i ((vv es.2).put (g es.2 ++ es.1)), ?_, S1.set rfl⟩
    unfold extAt
    simp only [List.getLast?_append, List.getLast?_singleton, Option.or_some, List.dropLast_concat, S1.is (e _), o]
    exact if_pos h
  · rw [if_neg h]; trivial
theorem st_aug {f : D → D → Option D} {d0 : D} {k : D → R β} (e : pt[i]? = some (.is (.dat d0))) (h : XR m pt pa E) (hk : ∀ z, ST rest (pt.set i (.is (.dat z))) (k z) Φ E) : ST (sCons (sAug i f m) rest) pt (bd pa fun d => bd (lf (f d0 d)) k) Φ E := fun ρ S => by
  rw [← bd_assoc]
  refine sc_go (Q := fun z ρ' => Sees ρ' (pt.set i (.is (.dat z)))) ?_ hk
  unfold sAug
  rw [S.is e]
  dsimp only
  refine (h ρ S).bind fun d r ρ1 h1 => ?_
  refine Go.then (p := Rk d) (h1.1.rd h1.2) ?_
  cases f d0 d with
  | none => trivial
  | some z =>
    refine ⟨.nx, ρ1.set i (.dat z), ?_, rfl, h1.2.set rfl⟩
    have w : WrAt pt i := by unfold WrAt; rw [e]; rfl
    show M.bind (setD i z) (fun _ => M.ok Fl.nx) ρ1 = _
    rw [bind_at (h1.2.setD w)]; rfl
theorem st_augI {f : D → D → Option D} {d0 : D} {k : D × σ → R β} {p : R (D × σ)} (e : ∀ s, (pc s)[i]? = some (.is (.dat d0))) (h : XI m pc s p E) (hk : ∀ z : D × σ, ST rest ((pc z.2).set i (.is (.dat z.1))) (k z) Φ E) : ST (sCons (sAug i f m) rest) (pc s) (bd p fun d => bd (lf (f d0 d.1)) fun z => k (z, d.2)) Φ E := fun ρ S => by
  have e0 : (bd p fun d => bd (lf (f d0 d.1)) fun z => k (z, d.2)) = bd (bd p fun d => bd (lf (f d0 d.1)) fun z => Rk (z, d.2)) k := by
    rw [bd_assoc]; congr 1; funext d; rw [bd_assoc]; rfl
  rw [e0]
  refine sc_go (Q := fun z ρ' => Sees ρ' ((pc z.2).set i (.is (.dat z.1)))) ?_ hk
  unfold sAug
  rw [S.is (e s)]
  dsimp only
  refine (h ρ S).bind fun d r ρ1 h1 => ?_
  obtain ⟨rfl, S1⟩ := h1
  refine Go.then (p := Rk d.1) (a := d.1) (ρ' := ρ1) rfl ?_
  cases f d0 d.1 with
  | none => trivial
  | some z =>
    refine ⟨.nx, ρ1.set i (.dat z), ?_, rfl, S1.set rfl⟩
    have w : WrAt (pc d.2) i := by unfold WrAt; rw [e]; rfl
    show M.bind (setD i z) (fun _ => M.ok Fl.nx) ρ1 = _
    rw [bind_at (S1.setD w)]; rfl
theorem st_expr {k : D → R β} (h : XF m pt pa pt1 E) (hk : ∀ d, ST rest pt1 (k d) Φ E) : ST (sCons (sExpr m) rest) pt (bd pa k) Φ E := fun ρ S => by
  refine sc_go (Q := fun _ ρ' => Sees ρ' pt1) ?_ fun d ρ' S' => hk d ρ' S'
  unfold sExpr
  exact Go.map (h ρ S) fun b a ρ' k => ⟨_, ρ', rfl, rfl, k.2⟩
theorem st_exprI {p : R (D × σ)} {k : D × σ → R β} (h : XI m pc s p E) (hk : ∀ b : D × σ, ST rest (pc b.2) (k b) Φ E) : ST (sCons (sExpr m) rest) (pc s) (bd p k) Φ E := fun ρ S => by
  refine sc_go (Q := fun b ρ' => Sees ρ' (pc b.2)) ?_ fun b ρ' S' => hk b ρ' S'
  unfold sExpr
  exact Go.map (h ρ S) fun b a ρ' k => ⟨_, ρ', rfl, rfl, k.2⟩
end
end DL

set_option Elab.async false
set_option linter.all false
set_option maxRecDepth 100000
set_option maxHeartbeats 4000000
/-! PF5: ways, loops, ends of defs. -/
namespace DL
open PySem PySem.Spec PyProof.Rows L2
section
variable {α β γ δ σ τ : Type} {m ma mb mc : M DR} {pt pt1 pt2 pt' : List PV} {pa pb pc' : R D} {E : List DV → Prop} {d x y : D} {i j : Nat} {ms : M (List DR)} {pc : σ → List PV} {s : σ} {rest : M Fl} {Φ : β → Fl → List DV → Prop}
/-! ### ways -/
theorem st_if {mc : M Bool} {m1 m2 : M Fl} {p : R Bool} {p1 p2 : R β} (h : TE mc pt p E) (h1 : ST (sCons m1 rest) pt p1 Φ E) (h2 : ST (sCons m2 rest) pt p2 Φ E) : ST (sCons (sIf mc m1 m2) rest) pt (bd p fun b => if b = true then p1 else p2) Φ E := fun ρ S => by
  have e : sCons (sIf mc m1 m2) rest ρ = M.bind mc (fun b => if b = true then sCons m1 rest else sCons m2 rest) ρ := by
    unfold sCons sIf
    rw [M.assoc]
    unfold M.bind
    cases mc ρ with
    | none => rfl
    | some o =>
      obtain ⟨o, ρ1⟩ := o
      cases o with
      | error x => rfl
      | ok b => cases b <;> rfl
  rw [e]
  refine (h ρ S).bind fun b c ρ1 k => ?_
  obtain ⟨rfl, S1⟩ := k
  cases c with
  | true => exact h1 ρ1 S1
  | false => exact h2 ρ1 S1
theorem st_ifI {mc : M Bool} {m1 m2 : M Fl} {p : R (Bool × σ)} {p1 p2 : Bool × σ → R β} (h : TI mc pc s p E) (h1 : ∀ b : Bool × σ, ST (sCons m1 rest) (pc b.2) (p1 b) Φ E) (h2 : ∀ b : Bool × σ, ST (sCons m2 rest) (pc b.2) (p2 b) Φ E) : ST (sCons (sIf mc m1 m2) rest) (pc s) (bd p fun b => if b.1 = true then p1 b else p2 b) Φ E := fun ρ S => by
  have e : sCons (sIf mc m1 m2) rest ρ = M.bind mc (fun b => if b = true then sCons m1 rest else sCons m2 rest) ρ := by
    unfold sCons sIf
    rw [M.assoc]
    unfold M.bind
    cases mc ρ with
    | none => rfl
    | some o =>
      obtain ⟨o, ρ1⟩ := o
      cases o with
      | error x => rfl
      | ok b => cases b <;> rfl
  rw [e]
  refine (h ρ S).bind fun b c ρ1 k => ?_
  obtain ⟨rfl, S1⟩ := k
  match b, S1 with
  | (true, s'), S1 => exact h1 (true, s') ρ1 S1
  | (false, s'), S1 => exact h2 (false, s') ρ1 S1
/-- where both ways go on: what is told behind them -/
def ΦJ (pJ : α → List PV) (a : α) (fl : Fl) (ρ : List DV) : Prop := fl = .nx ∧ Sees ρ (pJ a)
theorem st_block {mb : M Fl} {p : R α} {k : α → R β} (pJ : α → List PV) (h : ST mb pt p (ΦJ pJ) E) (hk : ∀ a, ST rest (pJ a) (k a) Φ E) : ST (sCons mb rest) pt (bd p k) Φ E := fun ρ S => sc_go (Q := fun a ρ' => Sees ρ' (pJ a)) (h ρ S) fun a ρ' S' => hk a ρ' S'
theorem st_ifj {mc : M Bool} {m1 m2 : M Fl} {p : R Bool} {p1 p2 : R α} {k : α → R β} (pJ : α → List PV) (h : TE mc pt p E) (h1 : ST m1 pt p1 (ΦJ pJ) E) (h2 : ST m2 pt p2 (ΦJ pJ) E) (hk : ∀ a, ST rest (pJ a) (k a) Φ E) :
    ST (sCons (sIf mc m1 m2) rest) pt (bd p fun b => bd (if b = true then p1 else p2) k) Φ E := fun ρ S => by
  rw [← bd_assoc]
  refine sc_go (Q := fun a ρ' => Sees ρ' (pJ a)) ?_ fun a ρ' S' => hk a ρ' S'
  unfold sIf
  refine (h ρ S).bind fun b c ρ1 k => ?_
  obtain ⟨rfl, S1⟩ := k
  cases c with
  | true => exact h1 ρ1 S1
  | false => exact h2 ρ1 S1
theorem st_ifjI {mc : M Bool} {m1 m2 : M Fl} {p : R (Bool × σ)} {p1 p2 : Bool × σ → R α} {k : α → R β} (pJ : α → List PV) (h : TI mc pc s p E) (h1 : ∀ b : Bool × σ, ST m1 (pc b.2) (p1 b) (ΦJ pJ) E) (h2 : ∀ b : Bool × σ, ST m2 (pc b.2) (p2 b) (ΦJ pJ) E) (hk : ∀ a, ST rest (pJ a) (k a) Φ E) :
    ST (sCons (sIf mc m1 m2) rest) (pc s) (bd p fun b => bd (if b.1 = true then p1 b else p2 b) k) Φ E := fun ρ S => by
  rw [← bd_assoc]
  refine sc_go (Q := fun a ρ' => Sees ρ' (pJ a)) ?_ fun a ρ' S' => hk a ρ' S'
  unfold sIf
  refine (h ρ S).bind fun b c ρ1 k => ?_
  obtain ⟨rfl, S1⟩ := k
  match b, S1 with
  | (true, s'), S1 => exact h1 (true, s') ρ1 S1
  | (false, s'), S1 => exact h2 (false, s') ρ1 S1
/-- the end of a way: what is told -/
theorem st_j {pJ : α → List PV} {a : α} (w : PLe pt (pJ a)) : ST sNil pt (Rk a) (ΦJ pJ) E := st_nx fun ρ S => ⟨rfl, S.weak w⟩

/-! ### loops -/
def forR (f : σ → D → R σ) : σ → List D → R σ
  | s, [] => Rk s
  | s, d :: ds => bd (f s d) fun s' => forR f s' ds
def forX (f : σ → D → R (Lo σ τ)) : σ → List D → R (Lo σ τ)
  | s, [] => Rk (.nx s)
  | s, d :: ds => bd (f s d) fun l => match l with
    | .nx s' => forX f s' ds
    | .brk s' => Rk (.nx s')
    | .ret t => Rk (.ret t)
def thn (l : Lo σ τ) (k : σ → R β) (r : τ → R β) : R β := match l with
  | .nx s => k s
  | .brk s => k s
  | .ret t => r t
@[simp] theorem thn_nx {k : σ → R β} {r : τ → R β} : thn (.nx s) k r = k s := nr rfl
@[simp] theorem thn_brk {k : σ → R β} {r : τ → R β} : thn (.brk s) k r = k s := nr rfl
@[simp] theorem thn_ret {t : τ} {k : σ → R β} {r : τ → R β} : thn (.ret t : Lo σ τ) k r = r t := nr rfl
def ΦL (pI : σ → List PV) (s : σ) (fl : Fl) (ρ : List DV) : Prop := (fl = .nx ∨ fl = .cnt) ∧ Sees ρ (pI s)
def ΦX (pI : σ → List PV) (Ψ : τ → RV → List DV → Prop) (l : Lo σ τ) (fl : Fl) (ρ : List DV) : Prop := match l with
  | .nx s => (fl = .nx ∨ fl = .cnt) ∧ Sees ρ (pI s)
  | .brk s => fl = .brk ∧ Sees ρ (pI s)
  | .ret t => ∃ r, fl = .ret r ∧ Ψ t r ρ
theorem for_go {b : D → M Fl} {f : σ → D → R σ} {pI : σ → List PV} (hb : ∀ s d, ST (b d) (pI s) (f s d) (ΦL pI) E) : ∀ (ds : List D) (s : σ) (ρ : List DV), Sees ρ (pI s) → Go (forM_ b ds ρ) (forR f s ds) (fun s' fl ρ' => fl = .nx ∧ Sees ρ' (pI s')) E
  | [], s, ρ, S => ⟨.nx, ρ, rfl, rfl, S⟩
  | d :: ds, s, ρ, S => by
    show Go (M.bind (b d) _ ρ) _ _ _
    refine (hb s d ρ S).bind fun s' fl ρ' k => ?_
    obtain ⟨h | h, S'⟩ := k
    · subst h; exact for_go hb ds s' ρ' S'
    · subst h; exact for_go hb ds s' ρ' S'
theorem forX_go {b : D → M Fl} {f : σ → D → R (Lo σ τ)} {pI : σ → List PV} {Ψ : τ → RV → List DV → Prop} (hb : ∀ s d, ST (b d) (pI s) (f s d) (ΦX pI Ψ) E) : ∀ (ds : List D) (s : σ) (ρ : List DV), Sees ρ (pI s) →
    Go (forM_ b ds ρ) (forX f s ds) (fun l fl ρ' => match l with | .nx s' => fl = .nx ∧ Sees ρ' (pI s') | .brk _ => False | .ret t => ∃ r, fl = .ret r ∧ Ψ t r ρ') E
  | [], s, ρ, S => ⟨.nx, ρ, rfl, rfl, S⟩
  | d :: ds, s, ρ, S => by
    show Go (M.bind (b d) _ ρ) _ _ _
    refine (hb s d ρ S).bind fun l fl ρ' k => ?_
    match l, k with
    | .nx s', ⟨h, S'⟩ =>
      rcases h with h | h
      · subst h; exact forX_go hb ds s' ρ' S'
      · subst h; exact forX_go hb ds s' ρ' S'
    | .brk s', ⟨h, S'⟩ => subst h; exact ⟨.nx, ρ', rfl, rfl, S'⟩
    | .ret t, ⟨r, h, q⟩ => subst h; exact ⟨.ret r, ρ', rfl, r, rfl, q⟩
theorem st_for {mi : M (List D)} {t : DT} {mb : M Fl} {p : R (List D)} {f : σ → D → R σ} {k : σ → R β} (pI : σ → List PV) (s0 : σ) (hi : IE mi pt p pt1 E) (w : PLe pt1 (pI s0)) (hb : ∀ s d, ST (M.bind (setT t d) fun _ => mb) (pI s) (f s d) (ΦL pI) E) (hk : ∀ s, ST rest (pI s) (k s) Φ E) :
    ST (sCons (sFor mi t mb) rest) pt (bd p fun ds => bd (forR f s0 ds) k) Φ E := fun ρ S => by
  rw [← bd_assoc]
  refine sc_go (Q := fun s ρ' => Sees ρ' (pI s)) ?_ fun s ρ' S' => hk s ρ' S'
  unfold sFor
  refine (hi ρ S).bind fun ds es ρ1 k => ?_
  obtain ⟨rfl, S1⟩ := k
  exact for_go hb es s0 ρ1 (S1.weak w)
theorem st_forI {mi : M (List D)} {t : DT} {mb : M Fl} {p : R (List D × σ)} {f : τ → D → R τ} {k : τ → R β} (pI : τ → List PV) (s0 : σ → τ) (hi : II mi pc s p E) (w : ∀ s, PLe (pc s) (pI (s0 s))) (hb : ∀ s d, ST (M.bind (setT t d) fun _ => mb) (pI s) (f s d) (ΦL pI) E) (hk : ∀ s, ST rest (pI s) (k s) Φ E) :
    ST (sCons (sFor mi t mb) rest) (pc s) (bd p fun b => bd (forR f (s0 b.2) b.1) k) Φ E := fun ρ S => by
  rw [← bd_assoc]
  refine sc_go (Q := fun s ρ' => Sees ρ' (pI s)) ?_ fun s ρ' S' => hk s ρ' S'
  unfold sFor
  refine (hi ρ S).bind fun ds es ρ1 k => ?_
  obtain ⟨rfl, S1⟩ := k
  exact for_go hb ds.1 (s0 ds.2) ρ1 (S1.weak (w _))
theorem forX_st {mi : M (List D)} {Ψ : τ → RV → List DV → Prop} {pI : σ → List PV} {ρ : List DV} {p : R (Lo σ τ)} {m1 : M Fl} {k : σ → R β} {inj : τ → β} (h : Go (m1 ρ) p (fun l fl ρ' => match l with | .nx s' => fl = .nx ∧ Sees ρ' (pI s') | .brk _ => False | .ret t => ∃ r, fl = .ret r ∧ Ψ t r ρ') E)
    (hk : ∀ s, ST rest (pI s) (k s) Φ E) (hr : ∀ t r ρ, Ψ t r ρ → Φ (inj t) (.ret r) ρ) : Go (sCons m1 rest ρ) (bd p fun l => thn l k fun t => Rk (inj t)) Φ E := by
  unfold sCons
  refine h.bind fun l fl ρ' q => ?_
  match l, q with
  | .nx s', ⟨h, S'⟩ => subst h; exact hk s' ρ' S'
  | .ret t, ⟨r, h, q2⟩ => subst h; exact ⟨.ret r, ρ', rfl, hr t r ρ' q2⟩
theorem st_forX {mi : M (List D)} {t : DT} {mb : M Fl} {p : R (List D)} {f : σ → D → R (Lo σ τ)} {k : σ → R β} {Ψ : τ → RV → List DV → Prop} (inj : τ → β) (pI : σ → List PV) (s0 : σ) (hi : IE mi pt p pt1 E) (w : PLe pt1 (pI s0)) (hb : ∀ s d, ST (M.bind (setT t d) fun _ => mb) (pI s) (f s d) (ΦX pI Ψ) E)
    (hk : ∀ s, ST rest (pI s) (k s) Φ E) (hr : ∀ t r ρ, Ψ t r ρ → Φ (inj t) (.ret r) ρ) :
    ST (sCons (sFor mi t mb) rest) pt (bd p fun ds => bd (forX f s0 ds) fun l => thn l k fun t => Rk (inj t)) Φ E := fun ρ S => by
  rw [← bd_assoc]
  refine forX_st (mi := mi) (pI := pI) (Ψ := Ψ) ?_ hk hr
  unfold sFor
  refine (hi ρ S).bind fun ds es ρ1 k => ?_
  obtain ⟨rfl, S1⟩ := k
  exact forX_go hb es s0 ρ1 (S1.weak w)
theorem st_forXI {υ : Type} {mi : M (List D)} {t : DT} {mb : M Fl} {p : R (List D × σ)} {f : υ → D → R (Lo υ τ)} {k : υ → R β} {Ψ : τ → RV → List DV → Prop} (inj : τ → β) (pI : υ → List PV) (s0 : σ → υ) (hi : II mi pc s p E) (w : ∀ s, PLe (pc s) (pI (s0 s))) (hb : ∀ s d, ST (M.bind (setT t d) fun _ => mb) (pI s) (f s d) (ΦX pI Ψ) E)
    (hk : ∀ s, ST rest (pI s) (k s) Φ E) (hr : ∀ t r ρ, Ψ t r ρ → Φ (inj t) (.ret r) ρ) :
    ST (sCons (sFor mi t mb) rest) (pc s) (bd p fun b => bd (forX f (s0 b.2) b.1) fun l => thn l k fun t => Rk (inj t)) Φ E := fun ρ S => by
  rw [← bd_assoc]
  refine forX_st (mi := mi) (pI := pI) (Ψ := Ψ) ?_ hk hr
  unfold sFor
  refine (hi ρ S).bind fun ds es ρ1 k => ?_
  obtain ⟨rfl, S1⟩ := k
  exact forX_go hb ds.1 (s0 ds.2) ρ1 (S1.weak (w _))
/-! a turn's target -/
theorem sb_nm {mb : M Fl} {p : R β} (w : WrAt pt i) (h : ST mb (pt.set i (.is (.dat d))) p Φ E) : ST (M.bind (setT (.nm i) d) fun _ => mb) pt p Φ E := fun ρ S => by
  rw [bind_at (show setT (.nm i) d ρ = _ from S.setD w)]
  exact h _ (S.set rfl)
theorem sb_tp {t : DT} {mb : M Fl} {ps : R α} {ptt : α → List PV} {k : α → R β} (hs : SE (setT t d) pt ps ptt E) (h : ∀ a, ST mb (ptt a) (k a) Φ E) : ST (M.bind (setT t d) fun _ => mb) pt (bd ps k) Φ E := fun ρ S => (hs ρ S).bind fun a _ ρ1 S1 => h a ρ1 S1
/-! ends of a turn -/
theorem st_l {pI : σ → List PV} {s : σ} (w : PLe pt (pI s)) : ST sNil pt (Rk s) (ΦL pI) E := st_nx fun ρ S => ⟨.inl rfl, S.weak w⟩
theorem st_lc {pI : σ → List PV} {s : σ} (w : PLe pt (pI s)) : ST (sCons sCnt rest) pt (Rk s) (ΦL pI) E := fun ρ S => ⟨.cnt, ρ, rfl, .inr rfl, S.weak w⟩
theorem st_xl {pI : σ → List PV} {Ψ : τ → RV → List DV → Prop} {s : σ} (w : PLe pt (pI s)) : ST sNil pt (Rk (.nx s)) (ΦX pI Ψ) E := st_nx fun ρ S => ⟨.inl rfl, S.weak w⟩
theorem st_xlc {pI : σ → List PV} {Ψ : τ → RV → List DV → Prop} {s : σ} (w : PLe pt (pI s)) : ST (sCons sCnt rest) pt (Rk (.nx s)) (ΦX pI Ψ) E := fun ρ S => ⟨.cnt, ρ, rfl, .inr rfl, S.weak w⟩
theorem st_xb {pI : σ → List PV} {Ψ : τ → RV → List DV → Prop} {s : σ} (w : PLe pt (pI s)) : ST (sCons sBrk rest) pt (Rk (.brk s)) (ΦX pI Ψ) E := fun ρ S => ⟨.brk, ρ, rfl, rfl, S.weak w⟩
/-! ### ends of defs -/
def ΦF (Ψ : τ → RV → List DV → Prop) (t : τ) (fl : Fl) (ρ : List DV) : Prop := match fl with
  | .ret r => Ψ t r ρ
  | .nx => Ψ t (.dat .none) ρ
  | _ => False
def PsiD (t : D) (r : RV) (_ : List DV) : Prop := rvD r = t
def PsiN (t : List D) (r : RV) (_ : List DV) : Prop := r = .new t
def PsiDo (t : D × List D) (r : RV) (ρ : List DV) : Prop := rvD r = t.1 ∧ lent0 ρ[0]? = t.2
def PsiNo (t : List D × List D) (r : RV) (ρ : List DV) : Prop := r = .new t.1 ∧ lent0 ρ[0]? = t.2
/-- what a return tells, by the level -/
def RetΦ (Ψ : τ → RV → List DV → Prop) (Φ : β → Fl → List DV → Prop) (inj : τ → β) : Prop := ∀ t r ρ, Ψ t r ρ → Φ (inj t) (.ret r) ρ
theorem retF {Ψ : τ → RV → List DV → Prop} : RetΦ Ψ (ΦF Ψ) id := fun _ _ _ h => h
theorem retX {Ψ : τ → RV → List DV → Prop} {pI : σ → List PV} : RetΦ Ψ (ΦX pI Ψ) Lo.ret := fun _ r _ h => ⟨r, rfl, h⟩
theorem sRet_at {ρ ρ' : List DV} (e : m ρ = some (.ok (.dat d), ρ')) : sCons (sRet m) rest ρ = some (.ok (.ret (.dat d)), ρ') := by
  unfold sCons sRet
  rw [M.assoc, bind_at e]; rfl
theorem sRet_er {ρ ρ' : List DV} {z : Ex} (e : m ρ = some (.error z, ρ')) : sCons (sRet m) rest ρ = some (.error z, ρ') := by
  unfold sCons sRet M.bind
  rw [e]
/-- return e, told as it is -/
theorem st_ret {Φ : D → Fl → List DV → Prop} (hΦ : RetΦ PsiD Φ id) (h : XF m pt pa pt1 E) : ST (sCons (sRet m) rest) pt pa Φ E := fun ρ S => by
  have := h ρ S
  match pa, this with
  | none, _ => trivial
  | some (.ok a), ⟨r, ρ', e, er, S1⟩ => subst er; exact ⟨_, ρ', sRet_at e, hΦ _ (.dat a) _ rfl⟩
  | some (.error x), ⟨ρ', e, hE⟩ => exact ⟨ρ', sRet_er e, hE⟩
theorem st_retj {inj : D → β} (hΦ : RetΦ PsiD Φ inj) (h : XF m pt pa pt1 E) : ST (sCons (sRet m) rest) pt (bd pa fun d => Rk (inj d)) Φ E := fun ρ S => by
  have := h ρ S
  match pa, this with
  | none, _ => trivial
  | some (.ok a), ⟨r, ρ', e, er, S1⟩ => subst er; exact ⟨_, ρ', sRet_at e, hΦ _ (.dat a) _ rfl⟩
  | some (.error x), ⟨ρ', e, hE⟩ => exact ⟨ρ', sRet_er e, hE⟩
theorem st_retA {inj : D → β} (hΦ : RetΦ PsiD Φ inj) (h : AtS m pt x) : ST (sCons (sRet m) rest) pt (Rk (inj x)) Φ E := fun ρ S => ⟨_, ρ, sRet_at (h ρ S), hΦ _ (.dat x) _ rfl⟩
/-- of a def that is lent a list -/
theorem st_reto {inj : D × List D → β} {w : List D} (hΦ : RetΦ PsiDo Φ inj) (h : XF m pt pa pt1 E) (hw : pt1[0]? = some (.is (.bor w))) : ST (sCons (sRet m) rest) pt (bd pa fun d => Rk (inj (d, w))) Φ E := fun ρ S => by
  have := h ρ S
  match pa, this with
  | none, _ => trivial
  | some (.ok a), ⟨r, ρ', e, er, S1⟩ => subst er; exact ⟨_, ρ', sRet_at e, hΦ (a, w) (.dat a) _ ⟨rfl, by rw [S1.is hw]; rfl⟩⟩
  | some (.error x), ⟨ρ', e, hE⟩ => exact ⟨ρ', sRet_er e, hE⟩
theorem st_retoI {inj : D × List D → β} {p : R (D × σ)} {g : σ → List D} (hΦ : RetΦ PsiDo Φ inj) (h : XI m pc s p E) (hw : ∀ s, (pc s)[0]? = some (.is (.bor (g s)))) : ST (sCons (sRet m) rest) (pc s) (bd p fun b => Rk (inj (b.1, g b.2))) Φ E := fun ρ S => by
  have := h ρ S
  match p, this with
  | none, _ => trivial
  | some (.ok a), ⟨r, ρ', e, er, S1⟩ => subst er; exact ⟨_, ρ', sRet_at e, hΦ (a.1, g a.2) (.dat a.1) _ ⟨rfl, by rw [S1.is (hw _)]; rfl⟩⟩
  | some (.error x), ⟨ρ', e, hE⟩ => exact ⟨ρ', sRet_er e, hE⟩
/-- own lists change, none of them is lent -/
theorem st_retI {inj : D → β} {p : R (D × σ)} (hΦ : RetΦ PsiD Φ inj) (h : XI m pc s p E) : ST (sCons (sRet m) rest) (pc s) (bd p fun b => Rk (inj b.1)) Φ E := fun ρ S => by
  have := h ρ S
  match p, this with
  | none, _ => trivial
  | some (.ok a), ⟨r, ρ', e, er, S1⟩ => subst er; exact ⟨_, ρ', sRet_at e, hΦ _ (.dat a.1) _ rfl⟩
  | some (.error x), ⟨ρ', e, hE⟩ => exact ⟨ρ', sRet_er e, hE⟩
theorem sRetOwn_at {ρ : List DV} {l : List D} (S : Sees ρ pt) (e : pt[i]? = some (.is (.lst l))) : sCons (sRetOwn i) rest ρ = some (.ok (.ret (.new l)), ρ) := by
  unfold sCons sRetOwn M.bind
  dsimp only
  rw [S.is e]; rfl
theorem st_retOwn {inj : List D → β} {l : List D} (hΦ : RetΦ PsiN Φ inj) (e : pt[i]? = some (.is (.lst l))) : ST (sCons (sRetOwn i) rest) pt (Rk (inj l)) Φ E := fun ρ S => ⟨_, ρ, sRetOwn_at S e, hΦ l (.new l) _ rfl⟩
/-- told as a datum -/
theorem st_retOwnD {inj : D → β} {l : List D} (hΦ : RetΦ PsiD Φ inj) (e : pt[i]? = some (.is (.lst l))) : ST (sCons (sRetOwn i) rest) pt (Rk (inj (.list l))) Φ E := fun ρ S => ⟨_, ρ, sRetOwn_at S e, hΦ (.list l) (.new l) _ rfl⟩
theorem st_retOwno {inj : List D × List D → β} {l w : List D} (hΦ : RetΦ PsiNo Φ inj) (e : pt[i]? = some (.is (.lst l))) (hw : pt[0]? = some (.is (.bor w))) : ST (sCons (sRetOwn i) rest) pt (Rk (inj (l, w))) Φ E := fun ρ S => ⟨_, ρ, sRetOwn_at S e, hΦ (l, w) (.new l) _ ⟨rfl, by rw [S.is hw]; rfl⟩⟩
theorem sRetN_at {mn : M Unit} {ρ ρ0 : List DV} {l : List D} (e : mn ρ = some (.ok (), ρ0 ++ [.lst l])) : sCons (sRetN mn) rest ρ = some (.ok (.ret (.new l)), ρ0) := by
  unfold sCons sRetN
  rw [M.assoc, bind_at e]
  unfold M.bind
  simp
  rfl
theorem sRetN_er {mn : M Unit} {ρ ρ0 : List DV} {z : Ex} (e : mn ρ = some (.error z, ρ0)) : sCons (sRetN mn) rest ρ = some (.error z, ρ0) := by
  unfold sCons sRetN M.bind
  rw [e]
theorem st_retN {inj : List D → β} {mn : M Unit} {p : R (List D)} (hΦ : RetΦ PsiN Φ inj) (h : NE mn pt p pt1 E) : ST (sCons (sRetN mn) rest) pt (bd p fun l => Rk (inj l)) Φ E := fun ρ S => by
  have := h ρ S
  match p, this with
  | none, _ => trivial
  | some (.ok l), ⟨_, ρ', e, ρ0, er, S1⟩ => subst er; exact ⟨_, ρ0, sRetN_at e, hΦ l (.new l) _ rfl⟩
  | some (.error x), ⟨ρ', e, hE⟩ => exact ⟨ρ', sRetN_er e, hE⟩
theorem st_retND {inj : D → β} {mn : M Unit} {p : R (List D)} (hΦ : RetΦ PsiD Φ inj) (h : NE mn pt p pt1 E) : ST (sCons (sRetN mn) rest) pt (bd p fun l => Rk (inj (.list l))) Φ E := fun ρ S => by
  have := h ρ S
  match p, this with
  | none, _ => trivial
  | some (.ok l), ⟨_, ρ', e, ρ0, er, S1⟩ => subst er; exact ⟨_, ρ0, sRetN_at e, hΦ (.list l) (.new l) _ rfl⟩
  | some (.error x), ⟨ρ', e, hE⟩ => exact ⟨ρ', sRetN_er e, hE⟩
theorem st_retNo {inj : List D × List D → β} {mn : M Unit} {p : R (List D)} {w : List D} (hΦ : RetΦ PsiNo Φ inj) (h : NE mn pt p pt1 E) (hw : pt1[0]? = some (.is (.bor w))) : ST (sCons (sRetN mn) rest) pt (bd p fun l => Rk (inj (l, w))) Φ E := fun ρ S => by
  have := h ρ S
  match p, this with
  | none, _ => trivial
  | some (.ok l), ⟨_, ρ', e, ρ0, er, S1⟩ => subst er; exact ⟨_, ρ0, sRetN_at e, hΦ (l, w) (.new l) _ ⟨rfl, by rw [S1.is hw]; rfl⟩⟩
  | some (.error x), ⟨ρ', e, hE⟩ => exact ⟨ρ', sRetN_er e, hE⟩
theorem st_retNoI {inj : List D × List D → β} {mn : M Unit} {p : R (List D × σ)} {g : σ → List D} (hΦ : RetΦ PsiNo Φ inj) (h : NI mn pt p pc E) (hw : ∀ s, (pc s)[0]? = some (.is (.bor (g s)))) : ST (sCons (sRetN mn) rest) pt (bd p fun b => Rk (inj (b.1, g b.2))) Φ E := fun ρ S => by
  have := h ρ S
  match p, this with
  | none, _ => trivial
  | some (.ok b), ⟨_, ρ', e, ρ0, er, S1⟩ => subst er; exact ⟨_, ρ0, sRetN_at e, hΦ (b.1, g b.2) (.new b.1) _ ⟨rfl, by rw [S1.is (hw _)]; rfl⟩⟩
  | some (.error x), ⟨ρ', e, hE⟩ => exact ⟨ρ', sRetN_er e, hE⟩
/-- a def's body runs to its end -/
theorem st_endD : ST sNil pt (Rk PyData.none) (ΦF PsiD) E := st_nx fun ρ S => rfl
theorem st_endDo {w : List D} (hw : pt[0]? = some (.is (.bor w))) : ST sNil pt (Rk (PyData.none, w)) (ΦF PsiDo) E := st_nx fun ρ S => ⟨rfl, by rw [S.is hw]; rfl⟩
theorem st_raise {c : Str} {hE : ∀ ρ, Sees ρ pt1 → E ρ} (h : XF m pt pa pt1 E) : ST (sCons (sRaise c m) rest) pt (bd pa fun d => Rx (c, d)) Φ E := fun ρ S => by
  have := h ρ S
  match pa, this with
  | none, _ => trivial
  | some (.ok a), ⟨r, ρ', e, er, S1⟩ =>
    subst er
    refine ⟨ρ', ?_, hE ρ' S1⟩
    unfold sCons sRaise
    rw [M.assoc, bind_at e]; rfl
  | some (.error x), ⟨ρ', e, hE⟩ =>
    refine ⟨ρ', ?_, hE⟩
    unfold sCons sRaise M.bind
    rw [e]
/-! ### try -/
def tryR (ca : Str → Option Bool) (p : R β) (h : Ex → R β) : R β := match p with
  | some (.error x) => match ca x.1 with
    | some true => quiet (h x)
    | some false => some (.error x)
    | none => none
  | o => o
@[simp] theorem tryR_ok {ca : Str → Option Bool} {b : β} {h : Ex → R β} : tryR ca (Rk b) h = Rk b := nr rfl
@[simp] theorem tryR_no {ca : Str → Option Bool} {h : Ex → R β} : tryR ca none h = none := nr rfl
theorem tryR_er {ca : Str → Option Bool} {x : Ex} {h : Ex → R β} (e : ca x.1 = some true) : tryR ca (Rx x) h = quiet (h x) := by
  unfold tryR Rx; dsimp only; rw [e]
/-- try: mb, except LeaseError as i: ms; both go on -/
theorem st_try {ca : Str → Option Bool} {mb ms : M Fl} {p : R α} {h : Ex → R α} {k : α → R β} (pJ : α → List PV) (ptE : List PV) (hb : ST mb pt p (ΦJ pJ) (fun ρ => Sees ρ ptE)) (w : WrAt ptE i)
    (hh : ∀ x : Ex, ST ms (ptE.set i (.is (.exc x.1 x.2))) (h x) (fun a fl ρ => fl = .nx ∧ ∃ q, Sees ρ q ∧ WrAt q i ∧ PLe (q.set i (.is .un)) (pJ a)) (fun _ => True)) (hE : ∀ ρ, Sees ρ ptE → E ρ) (hk : ∀ a, ST rest (pJ a) (k a) Φ E) :
    ST (sCons (sTry ca i mb ms) rest) pt (bd (tryR ca p h) k) Φ E := fun ρ S => by
  refine sc_go (Q := fun a ρ' => Sees ρ' (pJ a)) ?_ fun a ρ' S' => hk a ρ' S'
  have := hb ρ S
  unfold sTry
  match p, this with
  | none, _ => trivial
  | some (.ok a), ⟨fl, ρ', e, h1, h2⟩ => exact ⟨fl, ρ', by rw [e], h1, h2⟩
  | some (.error x), ⟨ρ', e, S1⟩ =>
    rw [e]
    dsimp only
    unfold tryR
    dsimp only
    cases hc : ca x.1 with
    | none => trivial
    | some b =>
      cases b with
      | false => exact ⟨ρ', rfl, hE ρ' S1⟩
      | true =>
        dsimp only
        rw [S1.setV (v := .exc x.1 x.2) w]
        dsimp only
        have g := hh x _ (S1.set (i := i) (x := .exc x.1 x.2) (q := .is (.exc x.1 x.2)) rfl)
        match h x, g with
        | none, _ => trivial
        | some (.error y), _ => trivial
        | some (.ok a), ⟨fl, ρ3, e3, h3, q, S3, w3, l3⟩ =>
          refine ⟨fl, ρ3.set i .un, ?_, h3, (S3.set (i := i) (x := .un) (q := .is .un) rfl).weak l3⟩
          rw [e3]
          dsimp only
          rw [S3.setV (v := .un) w3]
theorem st_th {pJ : α → List PV} {a : α} {E : List DV → Prop} (w : WrAt pt i) (l : PLe (pt.set i (.is .un)) (pJ a)) : ST sNil pt (Rk a) (fun a fl ρ => fl = .nx ∧ ∃ q, Sees ρ q ∧ WrAt q i ∧ PLe (q.set i (.is .un)) (pJ a)) E := st_nx fun ρ S => ⟨rfl, pt, S, w, l⟩
/-! ### values known at once -/
def AL (ms : M (List DR)) (pt : List PV) (xs : List D) : Prop := ∀ ρ, Sees ρ pt → ms ρ = some (.ok (xs.map .dat), ρ)
theorem al_nil : AL aNil pt [] := fun _ _ => rfl
theorem al_cons {xs : List D} (h : AtS m pt x) (t : AL ms pt xs) : AL (aCons m ms) pt (x :: xs) := fun ρ S => by
  unfold aCons
  rw [bind_at (h ρ S), bind_at (t ρ S)]; rfl
theorem at_tup {xs : List D} (h : AL ms pt xs) (hl : Nat.ble xs.length 16777216 = true) : AtS (eTup ms) pt (.tuple xs) := fun ρ S => by
  unfold eTup
  rw [bind_at (h ρ S), bind_at (frzAll_dats xs ρ), if_pos (Nat.le_of_ble_eq_true hl)]; rfl
theorem at_lst {xs : List D} (h : AL ms pt xs) (hl : Nat.ble xs.length 16777216 = true) : AtS (eLst ms) pt (.list xs) := fun ρ S => by
  unfold eLst
  rw [bind_at (h ρ S), bind_at (frzAll_dats xs ρ), if_pos (Nat.le_of_ble_eq_true hl)]; rfl
theorem st_setNA {xs : List D} {p : R β} (h : AL ms pt xs) (hl : Nat.ble xs.length 16777216 = true) (w : WrAt pt i) (hk : ST rest (pt.set i (.is (.lst xs))) p Φ E) : ST (sCons (sSetN i (nLst ms)) rest) pt p Φ E := fun ρ S => by
  have e : sSetN i (nLst ms) ρ = some (.ok .nx, ρ.set i (.lst xs)) := by
    unfold sSetN nLst
    rw [M.assoc, bind_at (h ρ S), M.assoc, bind_at (frzAll_dats xs ρ), if_pos (Nat.le_of_ble_eq_true hl)]
    rw [bind_at (show push xs ρ = some (.ok (), ρ ++ [.lst xs]) from rfl), bind_at (popTo_at S w)]; rfl
  rw [sc_at e]
  exact hk _ (S.set rfl)
theorem all_lt {vs : List Nat} {n : Nat} (h : (vs.all fun i => Nat.blt i n) = true) : ∀ i ∈ vs, i < n := fun i hi => by
  have := List.all_eq_true.mp h i hi
  exact Nat.le_of_ble_eq_true this
/-! turns of comprehensions over one name -/
theorem lt_map1 {i : Nat} {pt2' : List PV} {me : M DR} {pe : R D} (w : WrAt pt i) (he : XF me (pt.set i (.is (.dat d))) pe pt2' E) (hw : PLe pt2' pt) : LT (.nm i) (M.ok true) me (fun (_ : Unit) => pt) () d (bd (bd pe fun y => Rk (some y)) fun o => Rk (o, ())) E := fun ρ S => by
  rw [bd_assoc]
  rw [bind_at (show setT (.nm i) d ρ = _ from S.setD w)]
  show Go (M.bind me (fun r => M.bind (frz r) fun y => M.ok (some y)) _) _ _ _
  refine (he _ (S.set rfl)).bind fun y r ρ2 k => ?_
  obtain ⟨rfl, S2⟩ := k
  exact ⟨some y, ρ2, rfl, rfl, S2.weak hw⟩
theorem lt_sel1 {i : Nat} {pt2' : List PV} {mt : M Bool} {me : M DR} {pt1 : R Bool} {pe : R D} (w : WrAt pt i) (ht : TE mt (pt.set i (.is (.dat d))) pt1 E) (he : XF me (pt.set i (.is (.dat d))) pe pt2' E) (hw : PLe pt2' pt) (hw2 : PLe (pt.set i (.is (.dat d))) pt) :
    LT (.nm i) mt me (fun (_ : Unit) => pt) () d (bd (selR pt1 pe) fun o => Rk (o, ())) E := fun ρ S => by
  rw [bind_at (show setT (.nm i) d ρ = _ from S.setD w)]
  unfold selR lcEl
  rw [bd_assoc]
  refine (ht _ (S.set rfl)).bind fun c c' ρ2 k => ?_
  obtain ⟨rfl, S2⟩ := k
  cases c' with
  | false => exact ⟨none, ρ2, rfl, rfl, S2.weak hw2⟩
  | true =>
    rw [if_pos rfl, if_pos rfl, bd_assoc]
    refine (he ρ2 S2).bind fun y r ρ3 k => ?_
    obtain ⟨rfl, S3⟩ := k
    exact ⟨some y, ρ3, rfl, rfl, S3.weak hw⟩
theorem lti_map1 {i : Nat} {P : σ → List PV} {me : M DR} {pe : R (D × σ)} (w : WrAt (P s) i) (he : XI me (fun s => (P s).set i (.is (.dat d))) s pe E) (hw : ∀ s, PLe ((P s).set i (.is (.dat d))) (P s)) :
    LT (.nm i) (M.ok true) me P s d (bd pe fun y => Rk (some y.1, y.2)) E := fun ρ S => by
  rw [bind_at (show setT (.nm i) d ρ = _ from S.setD w)]
  show Go (M.bind me (fun r => M.bind (frz r) fun y => M.ok (some y)) _) _ _ _
  refine (he _ (S.set rfl)).bind fun y r ρ2 k => ?_
  obtain ⟨rfl, S2⟩ := k
  exact ⟨some y.1, ρ2, rfl, rfl, S2.weak (hw y.2)⟩
theorem lti_sel1 {i : Nat} {P : σ → List PV} {mt : M Bool} {me : M DR} {pc : R (Bool × σ)} {pe : Bool × σ → R (D × σ)} (w : WrAt (P s) i) (ht : TI mt (fun s => (P s).set i (.is (.dat d))) s pc E) (he : ∀ c : Bool × σ, XI me (fun s => (P s).set i (.is (.dat d))) c.2 (pe c) E) (hw : ∀ s, PLe ((P s).set i (.is (.dat d))) (P s)) :
    LT (.nm i) mt me P s d (bd pc fun c => if c.1 = true then bd (pe c) fun y => Rk (some y.1, y.2) else Rk (none, c.2)) E := fun ρ S => by
  rw [bind_at (show setT (.nm i) d ρ = _ from S.setD w)]
  unfold lcEl
  refine (ht _ (S.set rfl)).bind fun c c' ρ2 k => ?_
  obtain ⟨rfl, S2⟩ := k
  match c, S2 with
  | (false, s'), S2 => exact ⟨none, ρ2, rfl, rfl, S2.weak (hw s')⟩
  | (true, s'), S2 =>
    refine (he (true, s') ρ2 S2).bind fun y r ρ3 k => ?_
    obtain ⟨rfl, S3⟩ := k
    exact ⟨some y.1, ρ3, rfl, rfl, S3.weak (hw y.2)⟩
/-! a, b = [..], e -/
theorem st_parN {mn : M Unit} {me : M DR} {p : R (List D)} {pe : List D → R D} {k : List D → D → R β} {E2 : List DV → Prop} (h : NE mn pt p pt1 E) (he : ∀ l, XE me (pt1 ++ [.is (.lst l)]) (pe l) E2) (wi : WrAt pt1 i) (wj : ∀ l : List D, WrAt (pt1 ++ [.is (.lst l)]) j ∧ j < pt1.length) (wi2 : ∀ d : D, WrAt (pt1.set j (.is (.dat d))) i) (hk : ∀ l d, ST rest ((pt1.set j (.is (.dat d))).set i (.is (.lst l))) (k l d) Φ E) :
    ST (sCons (sPN i j mn me) rest) pt (bd p fun l => bd (quiet (pe l)) fun d => k l d) Φ E := fun ρ S => by
  have e0 : (bd p fun l => bd (quiet (pe l)) fun d => k l d) = bd (bd p fun l => bd (quiet (pe l)) fun d => Rk (l, d)) fun t => k t.1 t.2 := by
    rw [bd_assoc]; congr 1; funext l; rw [bd_assoc]; rfl
  rw [e0]
  refine sc_go (Q := fun (t : List D × D) ρ' => Sees ρ' ((pt1.set j (.is (.dat t.2))).set i (.is (.lst t.1)))) ?_ fun t ρ' S' => hk t.1 t.2 ρ' S'
  unfold sPN
  refine (h ρ S).bind fun l _ ρ1 h1 => ?_
  obtain ⟨ρ0, rfl, S1⟩ := h1
  have S2 : Sees (ρ0 ++ [.lst l]) (pt1 ++ [.is (.lst l)]) := S1.snoc (x := .lst l) (q := .is (.lst l)) rfl
  have g := he l _ S2
  match hq : pe l, g with
  | none, _ => trivial
  | some (.error x), _ => trivial
  | some (.ok d), ⟨r, ρ2, e, er, S3⟩ =>
    subst er
    obtain ⟨ρ3, rfl, S4⟩ := S3.unis
    have e1 : calmly me (ρ0 ++ [.lst l]) = some (.ok (.dat d), ρ3 ++ [.lst l]) := by unfold calmly; rw [e]
    have w1 := (wj l).1
    have hj : j < ρ3.length := by rw [S4.len]; exact (wj l).2
    have e2 : setD j d (ρ3 ++ [.lst l]) = some (.ok (), ρ3.set j (.dat d) ++ [.lst l]) := by
      rw [(S4.snoc (x := .lst l) (q := .is (.lst l)) rfl).setD w1, List.set_append_left _ _ hj]
    have S5 : Sees (ρ3.set j (.dat d)) (pt1.set j (.is (.dat d))) := S4.set rfl
    refine ⟨.nx, (ρ3.set j (.dat d)).set i (.lst l), ?_, rfl, S5.set rfl⟩
    rw [bind_at e1]
    show M.bind (setD j d) (fun _ => M.bind (popTo i) fun _ => M.ok Fl.nx) _ = _
    rw [bind_at e2, bind_at (popTo_at S5 (wi2 d))]; rfl
theorem st_no {m1_ : M Fl} : ST m1_ pt (none : R β) Φ E := fun ρ S => trivial
/-! ### defs -/
theorem fg_D {n : Nat} {m : M Fl} {ds : List D} {p : R D} (h : ST m pt p (ΦF PsiD) (fun _ => True)) (S : Sees (initE false n [] ds) pt) : FG (runF false n m [] ds) p ΨD := by
  have := h _ S
  unfold runF
  match p, this with
  | none, _ => trivial
  | some (.ok a), ⟨fl, ρ', e, q⟩ =>
    rw [e]
    cases fl with
    | nx => exact ⟨_, _, rfl, q⟩
    | ret r => exact ⟨_, _, rfl, q⟩
    | _ => exact q.elim
  | some (.error x), ⟨ρ', e, _⟩ => rw [e]; exact ⟨_, rfl⟩
theorem fg_N {n : Nat} {m : M Fl} {ds : List D} {p : R (List D)} (h : ST m pt p (ΦF PsiN) (fun _ => True)) (S : Sees (initE false n [] ds) pt) : FG (runF false n m [] ds) p ΨN := by
  have := h _ S
  unfold runF
  match p, this with
  | none, _ => trivial
  | some (.ok a), ⟨fl, ρ', e, q⟩ =>
    rw [e]
    cases fl with
    | nx => exact ⟨_, _, rfl, q⟩
    | ret r => exact ⟨_, _, rfl, q⟩
    | _ => exact q.elim
  | some (.error x), ⟨ρ', e, _⟩ => rw [e]; exact ⟨_, rfl⟩
theorem fg_Do {n : Nat} {m : M Fl} {w ds : List D} {p : R (D × List D)} (h : ST m pt p (ΦF PsiDo) (fun _ => True)) (S : Sees (initE true n w ds) pt) : FG (runF true n m w ds) p ΨDo := by
  have := h _ S
  unfold runF
  match p, this with
  | none, _ => trivial
  | some (.ok a), ⟨fl, ρ', e, q⟩ =>
    rw [e]
    cases fl with
    | nx => exact ⟨_, _, rfl, q.1, q.2⟩
    | ret r => exact ⟨_, _, rfl, q.1, q.2⟩
    | _ => exact q.elim
  | some (.error x), ⟨ρ', e, _⟩ => rw [e]; exact ⟨_, rfl⟩
theorem fg_No {n : Nat} {m : M Fl} {w ds : List D} {p : R (List D × List D)} (h : ST m pt p (ΦF PsiNo) (fun _ => True)) (S : Sees (initE true n w ds) pt) : FG (runF true n m w ds) p ΨNo := by
  have := h _ S
  unfold runF
  match p, this with
  | none, _ => trivial
  | some (.ok a), ⟨fl, ρ', e, q⟩ =>
    rw [e]
    cases fl with
    | nx => exact ⟨_, _, rfl, q.1, q.2⟩
    | ret r => exact ⟨_, _, rfl, q.1, q.2⟩
    | _ => exact q.elim
  | some (.error x), ⟨ρ', e, _⟩ => rw [e]; exact ⟨_, rfl⟩
end
end DL

set_option Elab.async false
set_option linter.all false
set_option maxRecDepth 100000
set_option maxHeartbeats 4000000
/-! PF6: comprehensions with two generators, as plain functions. -/
namespace DL
open PySem PySem.Spec PyProof.Rows L2

def fmP (f : D → R (List D)) : List D → R (List D)
  | [] => Rk []
  | d :: ds => bd (quiet (f d)) fun l => bd (fmP f ds) fun es => Rk (l ++ es)
def fmR (f : D → R (List D)) (ds : List D) : R (List D) := bd (fmP f ds) capR
/-- the inner clause's items -/
def inR (c : R Bool) (pi : R (List D)) (f : D → R (Option D)) : R (List D) := bd c fun x => if x = true then bd pi fun es => lcP f es else Rk []
theorem lcP_noerr {f : D → R (Option D)} : ∀ (ds : List D) (x : Ex), lcP f ds ≠ some (.error x)
  | [], x, h => by cases h
  | d :: ds, x, h => by
    unfold lcP at h
    match z : quiet (f d) with
    | none => rw [z] at h; cases h
    | some (.error y) => unfold quiet at z; split at z <;> first | cases z | (rename_i h2; exact h2 _ z)
    | some (.ok o) =>
      rw [z] at h
      match z2 : lcP f ds with
      | none => simp only [bd, z2] at h; cases h
      | some (.error y) => exact lcP_noerr ds _ z2
      | some (.ok w) => simp only [bd, z2] at h; cases h
theorem fmP_noerr {f : D → R (List D)} : ∀ (ds : List D) (x : Ex), fmP f ds ≠ some (.error x)
  | [], x, h => by cases h
  | d :: ds, x, h => by
    unfold fmP at h
    match z : quiet (f d) with
    | none => rw [z] at h; cases h
    | some (.error y) => unfold quiet at z; split at z <;> first | cases z | (rename_i h2; exact h2 _ z)
    | some (.ok o) =>
      rw [z] at h
      match z2 : fmP f ds with
      | none => simp only [bd, z2] at h; cases h
      | some (.error y) => exact fmP_noerr ds _ z2
      | some (.ok w) => simp only [bd, z2] at h; cases h
theorem quiet_Rk {α : Type} {x : R α} {a : α} (h : quiet x = Rk a) : x = Rk a := by
  match x with
  | none => cases h
  | some (.error e) => cases h
  | some (.ok b) => exact h
section
variable {β : Type} {E E2 : List DV → Prop} {pt pt' : List PV} {d : D} {t t1 : DT} {mt mt1 : M Bool} {me : M DR} {mi mi1 : M (List D)} {vs vs1 : List Nat} {body : M Unit}
theorem te_true : TE (M.ok true) pt (Rk true) E := fun ρ S => ⟨true, ρ, rfl, rfl, S⟩
def LG (t : DT) (mt : M Bool) (body : M Unit) (pt : List PV) (d : D) (p : R (List D)) : Prop :=
  ∀ (acc : List D) (ρ : List DV) (l : List D), Sees ρ pt → p = Rk l → acc.length + l.length ≤ 16777216 → ∃ ρ', M.bind (setT t d) (fun _ => M.bind mt fun b => if b = true then body else M.ok ()) (ρ ++ [.lst acc]) = some (.ok (), ρ' ++ [.lst (acc ++ l)]) ∧ Sees ρ' pt
theorem turnG_eq (ρ : List DV) : turnG t mt body vs d ρ = M.bind (M.bind (setT t d) fun _ => M.bind mt fun b => if b = true then body else M.ok ()) (fun _ => mWipe vs) ρ := by
  unfold turnG
  rw [M.assoc]
  congr 1
  funext u ρ1
  rw [M.assoc]
theorem goG_go {f : D → R (List D)} (hv : ∀ i ∈ vs, i < pt.length) (hb : ∀ d, LG t mt body (wipeP vs 0 pt) d (f d)) : ∀ (ds : List D) (acc : List D) (ρ : List DV) (es : List D), Sees ρ (wipeP vs 0 pt) → fmP f ds = Rk es → acc.length + es.length ≤ 16777216 →
      ∃ ρ', goG t mt body vs ds (ρ ++ [.lst acc]) = some (.ok (), ρ' ++ [.lst (acc ++ es)]) ∧ Sees ρ' (wipeP vs 0 pt)
  | [], acc, ρ, es, S, h, hl => by
    cases h
    exact ⟨ρ, by rw [List.append_nil]; rfl, S⟩
  | d :: ds, acc, ρ, es, S, h, hl => by
    unfold fmP at h
    obtain ⟨l, h1, h2⟩ := bd_Rk.mp h
    obtain ⟨es2, h3, h4⟩ := bd_Rk.mp h2
    rw [Rk_inj] at h4
    subst h4
    rw [List.length_append] at hl
    obtain ⟨ρ1, e1, S1⟩ := hb d acc ρ l S (quiet_Rk h1) (by omega)
    obtain ⟨w1, ρ3, w2, S3⟩ := S1.wipe (ρ2 := [.lst (acc ++ l)]) hv
    have e2 : turnG t mt body vs d (ρ ++ [.lst acc]) = some (.ok (), ρ3 ++ [.lst (acc ++ l)]) := by
      rw [turnG_eq, bind_at e1, w1, w2]
    show ∃ ρ', M.bind (turnG t mt body vs d) (fun _ => goG t mt body vs ds) _ = _ ∧ _
    rw [bind_at e2]
    have := goG_go hv hb ds (acc ++ l) ρ3 es2 S3 h3 (by rw [List.length_append]; omega)
    rw [List.append_assoc] at this
    exact this
theorem n_lc2 {f : D → R (List D)} {pi : R (List D)} (hi : IE mi pt pi pt' E) (hw : canWipe vs 0 pt' = true) (hv : ∀ i ∈ vs, i < pt'.length)
    (hb : ∀ d, LG t mt (inG mi1 t1 mt1 me vs1) (wipeP vs 0 pt') d (f d)) : NE (nLc2 mi t mt mi1 t1 mt1 me vs vs1) pt (bd pi fun ds => fmR f ds) pt' E := fun ρ S => by
  unfold nLc2
  refine (hi ρ S).bind fun ds es ρ1 k => ?_
  obtain ⟨rfl, S1⟩ := k
  refine Go.then (p := Rk ()) (a := ()) (ρ' := ρ1 ++ [.lst []]) rfl ?_
  match q : fmR f es with
  | none => trivial
  | some (.error x) =>
    exfalso
    unfold fmR at q
    match z : fmP f es with
    | none => rw [z] at q; cases q
    | some (.error y) => exact fmP_noerr _ _ z
    | some (.ok w) =>
      rw [z] at q
      change capR w = _ at q
      unfold capR at q
      split at q <;> cases q
  | some (.ok b) =>
    obtain ⟨w, h1, h2⟩ := bd_Rk.mp (show bd (fmP f es) capR = Rk b from q)
    unfold capR at h2
    split at h2
    case isFalse => cases h2
    rename_i hl
    rw [Rk_inj] at h2
    subst h2
    have S2 := S1.weak (wipe_le hw)
    obtain ⟨w1, ρ2, w2, S3⟩ := S2.wipe (ρ2 := [.lst []]) hv
    obtain ⟨ρ3, e3, S4⟩ := goG_go hv hb es [] ρ2 w S3 h1 (by simpa using hl)
    obtain ⟨ρ4, e4, S5⟩ := S1.rest (x := .lst []) (y := .lst w) S4 rfl hv rfl
    refine ⟨(), ρ4 ++ [.lst w], ?_, ρ4, rfl, S5⟩
    unfold runG
    rw [bind_at w1, w2, e3]
    dsimp only
    rw [List.nil_append, e4]
theorem lt2 {ps : R β} (q : β → List PV) {c : β → R Bool} {pi1 : β → R (List D)} {f1 : β → D → R (Option D)} (hs : ∀ acc, SE (setT t d) (pt ++ [.is (.lst acc)]) ps (fun b => q b ++ [.is (.lst acc)]) E)
    (hc : ∀ acc b, TE mt (q b ++ [.is (.lst acc)]) (c b) E) (hi : ∀ acc b, IE mi1 (q b ++ [.is (.lst acc)]) (pi1 b) (q b ++ [.is (.lst acc)]) E) (hw1 : ∀ b, canWipe vs1 0 (q b) = true) (hv1 : ∀ b, ∀ i ∈ vs1, i < (q b).length)
    (hb : ∀ b d1 acc, LT t1 mt1 me (fun (_ : Unit) => wipeP vs1 0 (q b) ++ [.is (.lst acc)]) () d1 (bd (f1 b d1) fun o => Rk (o, ())) E2) (hle : ∀ b, PLe (wipeP vs1 0 (q b)) pt) (hle2 : ∀ b, PLe (q b) pt) :
    LG t mt (inG mi1 t1 mt1 me vs1) pt d (bd ps fun b => inR (c b) (pi1 b) (f1 b)) := fun acc ρ l S h hl => by
  obtain ⟨b, h1, h2⟩ := bd_Rk.mp h
  unfold inR at h2
  obtain ⟨x, h3, h4⟩ := bd_Rk.mp h2
  have g1 := hs acc (ρ ++ [.lst acc]) (S.snoc (x := .lst acc) (q := .is (.lst acc)) rfl)
  rw [h1] at g1
  obtain ⟨u, ρ1, e1, S1⟩ := g1
  have g2 := hc acc b ρ1 S1
  rw [h3] at g2
  obtain ⟨x', ρ2, e2, rfl, S2⟩ := g2
  cases x' with
  | false =>
    rw [if_neg Bool.false_ne_true, Rk_inj] at h4
    subst h4
    obtain ⟨ρ3, rfl, S3⟩ := S2.unis
    refine ⟨ρ3, ?_, S3.weak (hle2 b)⟩
    rw [bind_at e1, bind_at e2, List.append_nil]
    rfl
  | true =>
    rw [if_pos rfl] at h4
    obtain ⟨es, h5, h6⟩ := bd_Rk.mp h4
    have g3 := hi acc b ρ2 S2
    rw [h5] at g3
    obtain ⟨es', ρ3, e3, rfl, S3⟩ := g3
    obtain ⟨ρ4, rfl, S4⟩ := S3.unis
    have S5 := S4.weak (wipe_le (hw1 b))
    obtain ⟨w1, ρ5, w2, S6⟩ := S5.wipe (ρ2 := [.lst acc]) (hv1 b)
    obtain ⟨ρ6, e6, S7⟩ := lcGo_go (σ := Unit) (pc := fun _ => q b) (f := fun _ d1 => bd (f1 b d1) fun o => Rk (o, ())) (fun _ => hv1 b) (fun _ d1 acc => hb b d1 acc) es' () acc ρ5 l () S6 (by rw [lcI_unit, h6]; rfl) hl
    refine ⟨ρ6, ?_, S7.weak (hle b)⟩
    rw [bind_at e1, bind_at e2, if_pos rfl]
    unfold inG
    rw [bind_at e3, bind_at w1, w2, e6]
theorem x_lc2 {q : R (List D)} (h : NE (nLc2 mi t mt mi1 t1 mt1 me vs vs1) pt q pt' E) : XF (eLc2 mi t mt mi1 t1 mt1 me vs vs1) pt (bd q fun l => Rk (.list l)) pt' E := fun ρ S => by
  unfold eLc2
  refine (h ρ S).bind fun l _ ρ1 k => ?_
  obtain ⟨ρ0, rfl, S1⟩ := k
  exact ⟨.dat (.list l), ρ0, by unfold popD; simp, rfl, S1⟩
end
/-! ### tuples of five, of six -/
def un5 (d : D) : R (D × D × D × D × D) := match d with
  | .tuple [a0, a1, a2, a3, a4] => Rk (a0, a1, a2, a3, a4)
  | _ => none
@[simp] theorem un5_t {a0 a1 a2 a3 a4 : D} : un5 (.tuple [a0, a1, a2, a3, a4]) = Rk (a0, a1, a2, a3, a4) := nr rfl
theorem sees_set5 {ρ : List DV} {pt : List PV} {i0 i1 i2 i3 i4 : Nat} {a0 a1 a2 a3 a4 : D} (s : Sees ρ pt) (w0 : WrAt (pt) i0) (w1 : WrAt (pt.set i0 (.is (.dat a0))) i1) (w2 : WrAt ((pt.set i0 (.is (.dat a0))).set i1 (.is (.dat a1))) i2) (w3 : WrAt (((pt.set i0 (.is (.dat a0))).set i1 (.is (.dat a1))).set i2 (.is (.dat a2))) i3) (w4 : WrAt ((((pt.set i0 (.is (.dat a0))).set i1 (.is (.dat a1))).set i2 (.is (.dat a2))).set i3 (.is (.dat a3))) i4) :
    setDs [i0, i1, i2, i3, i4] [a0, a1, a2, a3, a4] ρ = some (.ok (), ((((ρ.set i0 (.dat a0)).set i1 (.dat a1)).set i2 (.dat a2)).set i3 (.dat a3)).set i4 (.dat a4)) ∧ Sees (((((ρ.set i0 (.dat a0)).set i1 (.dat a1)).set i2 (.dat a2)).set i3 (.dat a3)).set i4 (.dat a4)) (((((pt.set i0 (.is (.dat a0))).set i1 (.is (.dat a1))).set i2 (.is (.dat a2))).set i3 (.is (.dat a3))).set i4 (.is (.dat a4))) := by
  have s1 : Sees (ρ.set i0 (.dat a0)) (pt.set i0 (.is (.dat a0))) := s.set rfl
  have s2 : Sees ((ρ.set i0 (.dat a0)).set i1 (.dat a1)) ((pt.set i0 (.is (.dat a0))).set i1 (.is (.dat a1))) := s1.set rfl
  have s3 : Sees (((ρ.set i0 (.dat a0)).set i1 (.dat a1)).set i2 (.dat a2)) (((pt.set i0 (.is (.dat a0))).set i1 (.is (.dat a1))).set i2 (.is (.dat a2))) := s2.set rfl
  have s4 : Sees ((((ρ.set i0 (.dat a0)).set i1 (.dat a1)).set i2 (.dat a2)).set i3 (.dat a3)) ((((pt.set i0 (.is (.dat a0))).set i1 (.is (.dat a1))).set i2 (.is (.dat a2))).set i3 (.is (.dat a3))) := s3.set rfl
  refine ⟨?_, s4.set rfl⟩
  show M.bind (setD i0 a0) (fun _ => M.bind (setD i1 a1) (fun _ => M.bind (setD i2 a2) (fun _ => M.bind (setD i3 a3) (fun _ => M.bind (setD i4 a4) (fun _ => M.ok ()))))) ρ = _
  rw [bind_at (s.setD w0), bind_at (s1.setD w1), bind_at (s2.setD w2), bind_at (s3.setD w3), bind_at (s4.setD w4)]; rfl
theorem s_tp5 {d : D} {pt : List PV} {E : List DV → Prop} {i0 i1 i2 i3 i4 : Nat} (w0 : WrAt (pt) i0) (w1 : ∀ a0, WrAt (pt.set i0 (.is (.dat a0))) i1) (w2 : ∀ a0 a1, WrAt ((pt.set i0 (.is (.dat a0))).set i1 (.is (.dat a1))) i2) (w3 : ∀ a0 a1 a2, WrAt (((pt.set i0 (.is (.dat a0))).set i1 (.is (.dat a1))).set i2 (.is (.dat a2))) i3) (w4 : ∀ a0 a1 a2 a3, WrAt ((((pt.set i0 (.is (.dat a0))).set i1 (.is (.dat a1))).set i2 (.is (.dat a2))).set i3 (.is (.dat a3))) i4) :
    SE (setT (.tp [i0, i1, i2, i3, i4]) d) pt (un5 d) (fun t => ((((pt.set i0 (.is (.dat t.1))).set i1 (.is (.dat t.2.1))).set i2 (.is (.dat t.2.2.1))).set i3 (.is (.dat t.2.2.2.1))).set i4 (.is (.dat t.2.2.2.2))) E := fun ρ s => by
  unfold un5
  split
  · rename_i a0 a1 a2 a3 a4
    obtain ⟨z, s'⟩ := sees_set5 (a4 := a4) s w0 (w1 a0) (w2 a0 a1) (w3 a0 a1 a2) (w4 a0 a1 a2 a3)
    exact ⟨(), _, z, s'⟩
  · trivial
theorem st_unp5 {β : Type} {pt pt1 : List PV} {E : List DV → Prop} {rest : M Fl} {Φ : β → Fl → List DV → Prop} {m : M DR} {p : R D} {k : D × D × D × D × D → R β} {i0 i1 i2 i3 i4 : Nat} (h : XF m pt p pt1 E) (w0 : WrAt (pt1) i0) (w1 : ∀ a0, WrAt (pt1.set i0 (.is (.dat a0))) i1) (w2 : ∀ a0 a1, WrAt ((pt1.set i0 (.is (.dat a0))).set i1 (.is (.dat a1))) i2) (w3 : ∀ a0 a1 a2, WrAt (((pt1.set i0 (.is (.dat a0))).set i1 (.is (.dat a1))).set i2 (.is (.dat a2))) i3) (w4 : ∀ a0 a1 a2 a3, WrAt ((((pt1.set i0 (.is (.dat a0))).set i1 (.is (.dat a1))).set i2 (.is (.dat a2))).set i3 (.is (.dat a3))) i4) (hk : ∀ t : D × D × D × D × D, ST rest (((((pt1.set i0 (.is (.dat t.1))).set i1 (.is (.dat t.2.1))).set i2 (.is (.dat t.2.2.1))).set i3 (.is (.dat t.2.2.2.1))).set i4 (.is (.dat t.2.2.2.2))) (k t) Φ E) :
    ST (sCons (sUnp [i0, i1, i2, i3, i4] m) rest) pt (bd p fun d => bd (un5 d) k) Φ E := fun ρ S => by
  rw [← bd_assoc]
  refine sc_go (Q := fun t ρ' => Sees ρ' (((((pt1.set i0 (.is (.dat t.1))).set i1 (.is (.dat t.2.1))).set i2 (.is (.dat t.2.2.1))).set i3 (.is (.dat t.2.2.2.1))).set i4 (.is (.dat t.2.2.2.2)))) ?_ hk
  unfold sUnp
  refine (h ρ S).bind fun d r ρ1 k => ?_
  obtain ⟨rfl, S1⟩ := k
  unfold un5
  split
  · rename_i a0 a1 a2 a3 a4
    obtain ⟨z, S2⟩ := sees_set5 (a4 := a4) S1 w0 (w1 a0) (w2 a0 a1) (w3 a0 a1 a2) (w4 a0 a1 a2 a3)
    exact ⟨.nx, _, by dsimp only; rw [bind_at z]; rfl, rfl, S2⟩
  · trivial
def un6 (d : D) : R (D × D × D × D × D × D) := match d with
  | .tuple [a0, a1, a2, a3, a4, a5] => Rk (a0, a1, a2, a3, a4, a5)
  | _ => none
@[simp] theorem un6_t {a0 a1 a2 a3 a4 a5 : D} : un6 (.tuple [a0, a1, a2, a3, a4, a5]) = Rk (a0, a1, a2, a3, a4, a5) := nr rfl
theorem sees_set6 {ρ : List DV} {pt : List PV} {i0 i1 i2 i3 i4 i5 : Nat} {a0 a1 a2 a3 a4 a5 : D} (s : Sees ρ pt) (w0 : WrAt (pt) i0) (w1 : WrAt (pt.set i0 (.is (.dat a0))) i1) (w2 : WrAt ((pt.set i0 (.is (.dat a0))).set i1 (.is (.dat a1))) i2) (w3 : WrAt (((pt.set i0 (.is (.dat a0))).set i1 (.is (.dat a1))).set i2 (.is (.dat a2))) i3) (w4 : WrAt ((((pt.set i0 (.is (.dat a0))).set i1 (.is (.dat a1))).set i2 (.is (.dat a2))).set i3 (.is (.dat a3))) i4) (w5 : WrAt (((((pt.set i0 (.is (.dat a0))).set i1 (.is (.dat a1))).set i2 (.is (.dat a2))).set i3 (.is (.dat a3))).set i4 (.is (.dat a4))) i5) :
    setDs [i0, i1, i2, i3, i4, i5] [a0, a1, a2, a3, a4, a5] ρ = some (.ok (), (((((ρ.set i0 (.dat a0)).set i1 (.dat a1)).set i2 (.dat a2)).set i3 (.dat a3)).set i4 (.dat a4)).set i5 (.dat a5)) ∧ Sees ((((((ρ.set i0 (.dat a0)).set i1 (.dat a1)).set i2 (.dat a2)).set i3 (.dat a3)).set i4 (.dat a4)).set i5 (.dat a5)) ((((((pt.set i0 (.is (.dat a0))).set i1 (.is (.dat a1))).set i2 (.is (.dat a2))).set i3 (.is (.dat a3))).set i4 (.is (.dat a4))).set i5 (.is (.dat a5))) := by
  have s1 : Sees (ρ.set i0 (.dat a0)) (pt.set i0 (.is (.dat a0))) := s.set rfl
  have s2 : Sees ((ρ.set i0 (.dat a0)).set i1 (.dat a1)) ((pt.set i0 (.is (.dat a0))).set i1 (.is (.dat a1))) := s1.set rfl
  have s3 : Sees (((ρ.set i0 (.dat a0)).set i1 (.dat a1)).set i2 (.dat a2)) (((pt.set i0 (.is (.dat a0))).set i1 (.is (.dat a1))).set i2 (.is (.dat a2))) := s2.set rfl
  have s4 : Sees ((((ρ.set i0 (.dat a0)).set i1 (.dat a1)).set i2 (.dat a2)).set i3 (.dat a3)) ((((pt.set i0 (.is (.dat a0))).set i1 (.is (.dat a1))).set i2 (.is (.dat a2))).set i3 (.is (.dat a3))) := s3.set rfl
  have s5 : Sees (((((ρ.set i0 (.dat a0)).set i1 (.dat a1)).set i2 (.dat a2)).set i3 (.dat a3)).set i4 (.dat a4)) (((((pt.set i0 (.is (.dat a0))).set i1 (.is (.dat a1))).set i2 (.is (.dat a2))).set i3 (.is (.dat a3))).set i4 (.is (.dat a4))) := s4.set rfl
  refine ⟨?_, s5.set rfl⟩
  show M.bind (setD i0 a0) (fun _ => M.bind (setD i1 a1) (fun _ => M.bind (setD i2 a2) (fun _ => M.bind (setD i3 a3) (fun _ => M.bind (setD i4 a4) (fun _ => M.bind (setD i5 a5) (fun _ => M.ok ())))))) ρ = _
  rw [bind_at (s.setD w0), bind_at (s1.setD w1), bind_at (s2.setD w2), bind_at (s3.setD w3), bind_at (s4.setD w4), bind_at (s5.setD w5)]; rfl
theorem s_tp6 {d : D} {pt : List PV} {E : List DV → Prop} {i0 i1 i2 i3 i4 i5 : Nat} (w0 : WrAt (pt) i0) (w1 : ∀ a0, WrAt (pt.set i0 (.is (.dat a0))) i1) (w2 : ∀ a0 a1, WrAt ((pt.set i0 (.is (.dat a0))).set i1 (.is (.dat a1))) i2) (w3 : ∀ a0 a1 a2, WrAt (((pt.set i0 (.is (.dat a0))).set i1 (.is (.dat a1))).set i2 (.is (.dat a2))) i3) (w4 : ∀ a0 a1 a2 a3, WrAt ((((pt.set i0 (.is (.dat a0))).set i1 (.is (.dat a1))).set i2 (.is (.dat a2))).set i3 (.is (.dat a3))) i4) (w5 : ∀ a0 a1 a2 a3 a4, WrAt (((((pt.set i0 (.is (.dat a0))).set i1 (.is (.dat a1))).set i2 (.is (.dat a2))).set i3 (.is (.dat a3))).set i4 (.is (.dat a4))) i5) :
    SE (setT (.tp [i0, i1, i2, i3, i4, i5]) d) pt (un6 d) (fun t => (((((pt.set i0 (.is (.dat t.1))).set i1 (.is (.dat t.2.1))).set i2 (.is (.dat t.2.2.1))).set i3 (.is (.dat t.2.2.2.1))).set i4 (.is (.dat t.2.2.2.2.1))).set i5 (.is (.dat t.2.2.2.2.2))) E := fun ρ s => by
  unfold un6
  split
  · rename_i a0 a1 a2 a3 a4 a5
    obtain ⟨z, s'⟩ := sees_set6 (a5 := a5) s w0 (w1 a0) (w2 a0 a1) (w3 a0 a1 a2) (w4 a0 a1 a2 a3) (w5 a0 a1 a2 a3 a4)
    exact ⟨(), _, z, s'⟩
  · trivial
theorem st_unp6 {β : Type} {pt pt1 : List PV} {E : List DV → Prop} {rest : M Fl} {Φ : β → Fl → List DV → Prop} {m : M DR} {p : R D} {k : D × D × D × D × D × D → R β} {i0 i1 i2 i3 i4 i5 : Nat} (h : XF m pt p pt1 E) (w0 : WrAt (pt1) i0) (w1 : ∀ a0, WrAt (pt1.set i0 (.is (.dat a0))) i1) (w2 : ∀ a0 a1, WrAt ((pt1.set i0 (.is (.dat a0))).set i1 (.is (.dat a1))) i2) (w3 : ∀ a0 a1 a2, WrAt (((pt1.set i0 (.is (.dat a0))).set i1 (.is (.dat a1))).set i2 (.is (.dat a2))) i3) (w4 : ∀ a0 a1 a2 a3, WrAt ((((pt1.set i0 (.is (.dat a0))).set i1 (.is (.dat a1))).set i2 (.is (.dat a2))).set i3 (.is (.dat a3))) i4) (w5 : ∀ a0 a1 a2 a3 a4, WrAt (((((pt1.set i0 (.is (.dat a0))).set i1 (.is (.dat a1))).set i2 (.is (.dat a2))).set i3 (.is (.dat a3))).set i4 (.is (.dat a4))) i5) (hk : ∀ t : D × D × D × D × D × D, ST rest ((((((pt1.set i0 (.is (.dat t.1))).set i1 (.is (.dat t.2.1))).set i2 (.is (.dat t.2.2.1))).set i3 (.is (.dat t.2.2.2.1))).set i4 (.is (.dat t.2.2.2.2.1))).set i5 (.is (.dat t.2.2.2.2.2))) (k t) Φ E) :
    ST (sCons (sUnp [i0, i1, i2, i3, i4, i5] m) rest) pt (bd p fun d => bd (un6 d) k) Φ E := fun ρ S => by
  rw [← bd_assoc]
  refine sc_go (Q := fun t ρ' => Sees ρ' ((((((pt1.set i0 (.is (.dat t.1))).set i1 (.is (.dat t.2.1))).set i2 (.is (.dat t.2.2.1))).set i3 (.is (.dat t.2.2.2.1))).set i4 (.is (.dat t.2.2.2.2.1))).set i5 (.is (.dat t.2.2.2.2.2)))) ?_ hk
  unfold sUnp
  refine (h ρ S).bind fun d r ρ1 k => ?_
  obtain ⟨rfl, S1⟩ := k
  unfold un6
  split
  · rename_i a0 a1 a2 a3 a4 a5
    obtain ⟨z, S2⟩ := sees_set6 (a5 := a5) S1 w0 (w1 a0) (w2 a0 a1) (w3 a0 a1 a2) (w4 a0 a1 a2 a3) (w5 a0 a1 a2 a3 a4)
    exact ⟨.nx, _, by dsimp only; rw [bind_at z]; rfl, rfl, S2⟩
  · trivial
end DL

set_option Elab.async false
set_option linter.all false
set_option maxRecDepth 100000
set_option maxHeartbeats 4000000
/-! PF7: own dicts, while, new objects side by side. -/
namespace DL
open PySem PySem.Spec PyProof.Rows L2
section
variable {α β γ δ σ τ : Type} {m ma mb mc : M DR} {pt pt1 pt2 pt' : List PV} {pa pb pc' : R D} {E : List DV → Prop} {d x y : D} {i j : Nat} {ms : M (List DR)} {pc : σ → List PV} {s : σ} {rest : M Fl} {Φ : β → Fl → List DV → Prop}
/-! ### in -/
@[simp] theorem inY_l {l : List D} : inY d (.list l) = inX d (.list l) := nr rfl
@[simp] theorem inY_t {l : List D} : inY d (.tuple l) = inX d (.tuple l) := nr rfl
@[simp] theorem ninY_l {l : List D} : ninY d (.list l) = ninX d (.list l) := nr rfl
@[simp] theorem ninY_t {l : List D} : ninY d (.tuple l) = ninX d (.tuple l) := nr rfl
theorem at_ownL {x : DV} {ds : List D} (e : pt[i]? = some (.is x)) (o : x.cont = some (.l ds)) : At (eVar i) pt (.list ds) := at_own e o
theorem at_ownD {x : DV} {ds : List (D × D)} (e : pt[i]? = some (.is x)) (o : x.cont = some (.d ds)) : At (eVar i) pt (.dict ds) := at_own e o
/-! ### zip -/
theorem i_zipX {q : R (List D)} (h : GA ms pt q (fun ds => lf (zipX ds)) pt' E) : IE (iZipX ms) pt q pt' E := fun ρ s => by
  unfold iZipX
  exact h _ _ _ ρ s fun ds ρ' s' => optL_go s'
section
variable {ds es : List D}
@[simp] theorem zipX_ll : zipX [.list ds, .list es] = some (zipD ds es) := nr rfl
@[simp] theorem zipX_tt : zipX [.tuple ds, .tuple es] = some (zipD ds es) := nr rfl
@[simp] theorem zipX_lt : zipX [.list ds, .tuple es] = some (zipD ds es) := nr rfl
@[simp] theorem zipX_tl : zipX [.tuple ds, .list es] = some (zipD ds es) := nr rfl
end
/-! ### new objects -/
def NO (m : M Unit) (pt : List PV) (p : R α) (f : α → OC) (pt' : List PV) (E : List DV → Prop) : Prop := ∀ ρ, Sees ρ pt → Go (m ρ) p (fun b _ ρ' => ∃ ρ0, ρ' = ρ0 ++ [.ow (f b)] ∧ Sees ρ0 pt') E
theorem NE.no {mn : M Unit} {p : R (List D)} (h : NE mn pt p pt' E) : NO mn pt p OC.l pt' E := h
def AtN (m : M Unit) (pt : List PV) (c : OC) : Prop := ∀ ρ, Sees ρ pt → m ρ = some (.ok (), ρ ++ [.ow c])
theorem n_dic : AtN nDic pt (.d []) := fun _ _ => rfl
theorem n_lstA {xs : List D} (h : AL ms pt xs) (hl : Nat.ble xs.length 16777216 = true) : AtN (nLst ms) pt (.l xs) := fun ρ S => by
  unfold nLst
  rw [bind_at (h ρ S), bind_at (frzAll_dats xs ρ), if_pos (Nat.le_of_ble_eq_true hl)]; rfl
theorem AtN.no {mn : M Unit} {c : OC} (h : AtN mn pt c) : NO mn pt (Rk ()) (fun _ => c) pt E := fun ρ S => ⟨(), _, h ρ S, ρ, rfl, S⟩
theorem popTo_atO {ρ0 : List DV} {c : OC} (S : Sees ρ0 pt1) (w : WrAt pt1 i) : popTo i (ρ0 ++ [.ow c]) = some (.ok (), ρ0.set i (.ow c)) := by
  unfold popTo
  unfold WrAt at w
  cases e : pt1[i]? with
  | none => rw [e] at w; cases w
  | some p =>
    rw [e] at w
    obtain ⟨x, e1, h1⟩ := S.at e
    simp only [List.getLast?_append, List.getLast?_singleton, Option.or_some, List.dropLast_concat, e1]
    rw [h1.wr (by simpa using w)]
    rfl
theorem st_setOA {mn : M Unit} {c : OC} {p : R β} (h : AtN mn pt c) (w : WrAt pt i) (hk : ST rest (pt.set i (.is (.ow c))) p Φ E) : ST (sCons (sSetN i mn) rest) pt p Φ E := fun ρ S => by
  have e : sSetN i mn ρ = some (.ok .nx, ρ.set i (.ow c)) := by
    unfold sSetN
    rw [bind_at (h ρ S), bind_at (popTo_atO S w)]; rfl
  rw [sc_at e]
  exact hk _ (S.set rfl)
theorem n_op2 {f : D → D → Option (List D)} (ha : XR ma pt pa E) (hb : XR mb pt pb E) : NE (nOp2 f ma mb) pt (bd pa fun a => bd pb fun b => lf (f a b)) pt E := fun ρ s => by
  unfold nOp2
  refine (ha ρ s).bind fun a r1 ρ1 h1 => (hb ρ1 h1.2).bind fun b r2 ρ2 h2 => ?_
  refine Go.then (p := Rk a) (h1.1.rd h2.2) (Go.then (p := Rk b) (h2.1.rd h2.2) ?_)
  cases f a b with
  | none => trivial
  | some z => exact ⟨(), _, rfl, ρ2, rfl, h2.2⟩
theorem n_op1 {f : D → Option (List D)} (ha : XR ma pt pa E) : NE (nOp1 f ma) pt (bd pa fun a => lf (f a)) pt E := fun ρ s => by
  unfold nOp1
  refine (ha ρ s).bind fun a r1 ρ1 h1 => ?_
  refine Go.then (p := Rk a) (h1.1.rd h1.2) ?_
  cases f a with
  | none => trivial
  | some z => exact ⟨(), _, rfl, ρ1, rfl, h1.2⟩
theorem n_cb1 {f : List D → Option (List D)} (ha : XR m pt pa E) : NE (nCB f (aCons m aNil)) pt (bd pa fun a => lf (f [a])) pt E := fun ρ s => by
  unfold nCB aCons
  rw [M.assoc]
  refine (ha ρ s).bind fun a r ρ1 h1 => ?_
  show Go (M.bind (rdAll [r]) (fun ds => M.bind (M.opt (f ds)) fun z => push z) ρ1) _ _ _
  refine Go.then (p := Rk [a]) (a := [a]) (ρ' := ρ1) ?_ ?_
  · show M.bind (rd r) (fun d => M.bind (rdAll []) fun ds => M.ok (d :: ds)) ρ1 = _
    unfold M.bind
    rw [h1.1.rd h1.2]; rfl
  · cases f [a] with
    | none => trivial
    | some z => exact ⟨(), _, rfl, ρ1, rfl, h1.2⟩
/-! ### stored side by side -/
theorem st_parNN {mn mn2 : M Unit} {p : R α} {f : α → OC} {p2 : α → R γ} {f2 : γ → OC} {k : α → γ → R β} {E2 : List DV → Prop} (h : NO mn pt p f pt1 E) (h2 : ∀ a, NO mn2 (pt1 ++ [.is (.ow (f a))]) (p2 a) f2 (pt1 ++ [.is (.ow (f a))]) E2) (wj : ∀ a, WrAt (pt1 ++ [.is (.ow (f a))]) j ∧ j < pt1.length) (wi : ∀ b, WrAt (pt1.set j (.is (.ow (f2 b)))) i)
    (hk : ∀ a b, ST rest ((pt1.set j (.is (.ow (f2 b)))).set i (.is (.ow (f a)))) (k a b) Φ E) : ST (sCons (sPNN i j mn mn2) rest) pt (bd p fun a => bd (quiet (p2 a)) fun b => k a b) Φ E := fun ρ S => by
  have e0 : (bd p fun a => bd (quiet (p2 a)) fun b => k a b) = bd (bd p fun a => bd (quiet (p2 a)) fun b => Rk (a, b)) fun t => k t.1 t.2 := by
    rw [bd_assoc]; congr 1; funext l; rw [bd_assoc]; rfl
  rw [e0]
  refine sc_go (Q := fun (t : α × γ) ρ' => Sees ρ' ((pt1.set j (.is (.ow (f2 t.2)))).set i (.is (.ow (f t.1))))) ?_ fun t ρ' S' => hk t.1 t.2 ρ' S'
  unfold sPNN
  refine (h ρ S).bind fun a _ ρ1 h1 => ?_
  obtain ⟨ρ0, rfl, S1⟩ := h1
  have S2 : Sees (ρ0 ++ [.ow (f a)]) (pt1 ++ [.is (.ow (f a))]) := S1.snoc (x := .ow (f a)) (q := .is (.ow (f a))) rfl
  have g := h2 a _ S2
  match hq : p2 a, g with
  | none, _ => trivial
  | some (.error x), _ => trivial
  | some (.ok b), ⟨_, ρ2, e, ρ3, er, S3⟩ =>
    subst er
    obtain ⟨ρ4, rfl, S4⟩ := S3.unis
    have e1 : calmly mn2 (ρ0 ++ [.ow (f a)]) = some (.ok (), (ρ4 ++ [.ow (f a)]) ++ [.ow (f2 b)]) := by unfold calmly; rw [e]
    have hj : j < ρ4.length := by rw [S4.len]; exact (wj a).2
    have e2 : popTo j ((ρ4 ++ [.ow (f a)]) ++ [.ow (f2 b)]) = some (.ok (), ρ4.set j (.ow (f2 b)) ++ [.ow (f a)]) := by
      rw [popTo_atO S3 (wj a).1, List.set_append_left _ _ hj]
    have S5 : Sees (ρ4.set j (.ow (f2 b))) (pt1.set j (.is (.ow (f2 b)))) := S4.set rfl
    refine ⟨.nx, (ρ4.set j (.ow (f2 b))).set i (.ow (f a)), ?_, rfl, S5.set rfl⟩
    rw [bind_at e1, bind_at e2, bind_at (popTo_atO S5 (wi b))]; rfl
theorem st_parEN {me : M DR} {mn : M Unit} {p2 : R γ} {f2 : γ → OC} {k : D → γ → R β} (h : XF me pt pa pt1 E) (h2 : NO mn pt1 p2 f2 pt2 E) (wj : WrAt pt2 j) (wi : ∀ b, WrAt (pt2.set j (.is (.ow (f2 b)))) i)
    (hk : ∀ a b, ST rest ((pt2.set j (.is (.ow (f2 b)))).set i (.is (.dat a))) (k a b) Φ E) : ST (sCons (sPEN i j me mn) rest) pt (bd pa fun a => bd p2 fun b => k a b) Φ E := fun ρ S => by
  have e0 : (bd pa fun a => bd p2 fun b => k a b) = bd (bd pa fun a => bd p2 fun b => Rk (a, b)) fun t => k t.1 t.2 := by
    rw [bd_assoc]; congr 1; funext l; rw [bd_assoc]; rfl
  rw [e0]
  refine sc_go (Q := fun (t : D × γ) ρ' => Sees ρ' ((pt2.set j (.is (.ow (f2 t.2)))).set i (.is (.dat t.1)))) ?_ fun t ρ' S' => hk t.1 t.2 ρ' S'
  unfold sPEN
  refine (h ρ S).bind fun a r ρ1 h1 => ?_
  obtain ⟨rfl, S1⟩ := h1
  refine Go.then (p := Rk a) (a := a) (ρ' := ρ1) rfl ?_
  refine (h2 ρ1 S1).bind fun b _ ρ2 h3 => ?_
  obtain ⟨ρ3, rfl, S3⟩ := h3
  have S5 : Sees (ρ3.set j (.ow (f2 b))) (pt2.set j (.is (.ow (f2 b)))) := S3.set rfl
  refine ⟨.nx, (ρ3.set j (.ow (f2 b))).set i (.dat a), ?_, rfl, S5.set rfl⟩
  rw [bind_at (popTo_atO S3 wj), bind_at (S5.setD (wi b))]; rfl
theorem st_parNNN {l : Nat} {mn mn2 mn3 : M Unit} {p : R α} {f : α → OC} {c2 c3 : OC} {k : α → R β} (h : NO mn pt p f pt1 E) (h2 : ∀ a, AtN mn2 (pt1 ++ [.is (.ow (f a))]) c2) (h3 : ∀ a, AtN mn3 (pt1 ++ [.is (.ow (f a)), .is (.ow c2)]) c3) (wj : WrAt (pt1.set l (.is (.ow c3))) j ∧ j < pt1.length) (wl : WrAt pt1 l ∧ l < pt1.length) (wi : WrAt ((pt1.set l (.is (.ow c3))).set j (.is (.ow c2))) i)
    (hk : ∀ a, ST rest (((pt1.set l (.is (.ow c3))).set j (.is (.ow c2))).set i (.is (.ow (f a)))) (k a) Φ E) : ST (sCons (sPNNN i j l mn mn2 mn3) rest) pt (bd p k) Φ E := fun ρ S => by
  refine sc_go (Q := fun a ρ' => Sees ρ' (((pt1.set l (.is (.ow c3))).set j (.is (.ow c2))).set i (.is (.ow (f a))))) ?_ hk
  unfold sPNNN
  refine Go.map (h ρ S) fun a _ ρ1 h1 => ?_
  obtain ⟨ρ0, rfl, S1⟩ := h1
  have S2 : Sees (ρ0 ++ [.ow (f a)]) (pt1 ++ [.is (.ow (f a))]) := S1.snoc (x := .ow (f a)) (q := .is (.ow (f a))) rfl
  have S3 : Sees (ρ0 ++ [.ow (f a)] ++ [.ow c2]) (pt1 ++ [.is (.ow (f a)), .is (.ow c2)]) := by
    rw [List.append_assoc]; exact S1.app ⟨rfl, rfl, trivial⟩
  have e1 : calmly mn2 (ρ0 ++ [.ow (f a)]) = some (.ok (), ρ0 ++ [.ow (f a)] ++ [.ow c2]) := by unfold calmly; rw [h2 a _ S2]
  have e2 : calmly mn3 (ρ0 ++ [.ow (f a)] ++ [.ow c2]) = some (.ok (), ρ0 ++ [.ow (f a)] ++ [.ow c2] ++ [.ow c3]) := by unfold calmly; rw [h3 a _ S3]
  have hl : ρ0.length = pt1.length := S1.len
  have popG : ∀ {n : Nat} {q : List PV} {ρ2 r : List DV} {c : OC}, Sees ρ2 q → WrAt q n → n < ρ2.length → popTo n (ρ2 ++ r ++ [.ow c]) = some (.ok (), ρ2.set n (.ow c) ++ r) := by
    intro n q ρ2 r c Sq w hn
    unfold popTo
    unfold WrAt at w
    cases e : q[n]? with
    | none => rw [e] at w; cases w
    | some p =>
      rw [e] at w
      obtain ⟨x, ex, hx⟩ := Sq.at e
      simp only [List.getLast?_append, List.getLast?_singleton, Option.or_some, List.dropLast_concat]
      rw [List.getElem?_append_left hn, ex]
      simp only [hx.wr (by simpa using w), Bool.false_eq_true, if_false]
      show some (Except.ok (), (ρ2 ++ r).set n (DV.ow c)) = _
      rw [List.set_append_left _ _ hn]
  have e3 : popTo l (ρ0 ++ [.ow (f a)] ++ [.ow c2] ++ [.ow c3]) = some (.ok (), ρ0.set l (.ow c3) ++ [.ow (f a), .ow c2]) := by
    have := popG (r := [.ow (f a), .ow c2]) (c := c3) S1 wl.1 (by rw [hl]; exact wl.2)
    rw [← this]; simp
  have S4 : Sees (ρ0.set l (.ow c3)) (pt1.set l (.is (.ow c3))) := S1.set rfl
  have e4 : popTo j (ρ0.set l (.ow c3) ++ [.ow (f a), .ow c2]) = some (.ok (), (ρ0.set l (.ow c3)).set j (.ow c2) ++ [.ow (f a)]) := by
    have := popG (r := [.ow (f a)]) (c := c2) S4 wj.1 (by rw [List.length_set, hl]; exact wj.2)
    rw [← this]; simp
  have S5 : Sees ((ρ0.set l (.ow c3)).set j (.ow c2)) ((pt1.set l (.is (.ow c3))).set j (.is (.ow c2))) := S4.set rfl
  refine ⟨.nx, _, ?_, rfl, S5.set (i := i) (x := .ow (f a)) (q := .is (.ow (f a))) rfl⟩
  rw [bind_at e1, bind_at e2, bind_at e3, bind_at e4, bind_at (popTo_atO S5 wi)]; rfl
/-! ### dicts -/
theorem ga_frzO {K : List D → R δ} {q : R δ} {c : OC} (e : pt[i]? = some (.is (.ow c))) (h : GS ms pt q (fun ds => K (c.data :: ds)) E) : GA (aCons (eVar i) ms) pt q K (pt.set i (.is (.dat c.data))) E := fun γ k Ψ ρ s hk => by
  have e1 : M.bind (aCons (eVar i) ms) (fun rs => M.bind (frzAll rs) k) ρ = M.bind ms (fun rs => M.bind (frzAll (.loc i :: rs)) k) ρ := by
    unfold aCons
    rw [M.assoc]
    have : eVar i ρ = some (.ok (.loc i), ρ) := by unfold eVar; rw [s.is e]
    rw [bind_at this, M.assoc]
    rfl
  rw [e1]
  refine h _ _ Ψ ρ s fun ds ρ' s' => ?_
  refine Go.then (p := Rk ds) (a := c.data :: ds) (ρ' := ρ'.set i (.dat c.data)) ?_ (hk _ _ (s'.set rfl))
  show M.bind (frz (.loc i)) (fun d => M.bind (frzAll (ds.map .dat)) fun ds => M.ok (d :: ds)) ρ' = _
  have : frz (.loc i) ρ' = some (.ok c.data, ρ'.set i (.dat c.data)) := by unfold frz; dsimp only; rw [s'.is e] <;> rfl
  unfold M.bind
  rw [this]
  dsimp only
  rw [frzAll_dats]; rfl
theorem putAtD_at {ρ : List DV} {kvs es : List (D × D)} {k : D} (S : Sees ρ pt) (e : pt[i]? = some (.is (.dic kvs))) (hf : dPut kvs k d = some es) : putAtD i k d ρ = some (.ok (), ρ.set i (.dic es)) := by
  unfold putAtD
  rw [S.is e]
  dsimp only
  rw [hf]
theorem st_stD {kvs : List (D × D)} {mi : M DR} {k : List (D × D) → R β} {pk : R D} (he : XF m pt pa pt1 E) (hi : XR mi pt1 pk E) (e : pt1[i]? = some (.is (.dic kvs))) (hk : ∀ l, ST rest (pt1.set i (.is (.dic l))) (k l) Φ E) : ST (sCons (sStD m (eVar i) mi) rest) pt (bd pa fun d => bd pk fun n => bd (lf (dPut kvs n d)) k) Φ E := fun ρ S => by
  have e0 : (bd pa fun d => bd pk fun n => bd (lf (dPut kvs n d)) k) = bd (bd pa fun d => bd pk fun n => lf (dPut kvs n d)) k := by
    rw [bd_assoc]; congr 1; funext d; rw [bd_assoc]
  rw [e0]
  refine sc_go (Q := fun l ρ' => Sees ρ' (pt1.set i (.is (.dic l)))) ?_ hk
  unfold sStD
  refine (he ρ S).bind fun d r ρ1 h1 => ?_
  obtain ⟨rfl, S1⟩ := h1
  refine Go.then (p := Rk d) (a := d) (ρ' := ρ1) rfl ?_
  have e1 : eVar i ρ1 = some (.ok (.loc i), ρ1) := by unfold eVar; rw [S1.is e]
  refine Go.then (p := Rk d) e1 ?_
  refine (hi ρ1 S1).bind fun n r ρ2 h2 => ?_
  refine Go.then (p := Rk n) (h2.1.rd h2.2) ?_
  dsimp only
  cases z : dPut kvs n d with
  | none => trivial
  | some l => exact ⟨.nx, ρ2.set i (.dic l), by rw [bind_at (putAtD_at h2.2 e z)]; rfl, rfl, h2.2.set rfl⟩
/-- what is stored changes own lists; the dict is none of them -/
theorem st_stDI {kvs : List (D × D)} {mi : M DR} {k : List (D × D) × σ → R β} {p : R (D × σ)} {pk : D × σ → R D} (he : XI m pc s p E) (hi : ∀ a : D × σ, XR mi (pc a.2) (pk a) E) (e : ∀ s, (pc s)[i]? = some (.is (.dic kvs))) (hk : ∀ b : List (D × D) × σ, ST rest ((pc b.2).set i (.is (.dic b.1))) (k b) Φ E) :
    ST (sCons (sStD m (eVar i) mi) rest) (pc s) (bd p fun d => bd (pk d) fun n => bd (lf (dPut kvs n d.1)) fun l => k (l, d.2)) Φ E := fun ρ S => by
  have e0 : (bd p fun d => bd (pk d) fun n => bd (lf (dPut kvs n d.1)) fun l => k (l, d.2)) = bd (bd p fun d => bd (pk d) fun n => bd (lf (dPut kvs n d.1)) fun l => Rk (l, d.2)) k := by
    rw [bd_assoc]; congr 1; funext d; rw [bd_assoc]; congr 1; funext n; rw [bd_assoc]; rfl
  rw [e0]
  refine sc_go (Q := fun b ρ' => Sees ρ' ((pc b.2).set i (.is (.dic b.1)))) ?_ hk
  unfold sStD
  refine (he ρ S).bind fun d r ρ1 h1 => ?_
  obtain ⟨rfl, S1⟩ := h1
  refine Go.then (p := Rk d.1) (a := d.1) (ρ' := ρ1) rfl ?_
  have e1 : eVar i ρ1 = some (.ok (.loc i), ρ1) := by unfold eVar; rw [S1.is (e _)]
  refine Go.then (p := Rk d.1) e1 ?_
  refine (hi d ρ1 S1).bind fun n r ρ2 h2 => ?_
  refine Go.then (p := Rk n) (h2.1.rd h2.2) ?_
  dsimp only
  cases z : dPut kvs n d.1 with
  | none => trivial
  | some l => exact ⟨.nx, ρ2.set i (.dic l), by rw [bind_at (putAtD_at h2.2 (e _) z)]; rfl, rfl, h2.2.set rfl⟩
/-- an own object returned as data -/
theorem st_retFz {inj : D → β} {c : OC} (hΦ : RetΦ PsiD Φ inj) (e : pt[i]? = some (.is (.ow c))) : ST (sCons (sRet (eVar i)) rest) pt (Rk (inj c.data)) Φ E := fun ρ S => by
  have e1 : eVar i ρ = some (.ok (.loc i), ρ) := by unfold eVar; rw [S.is e]
  have e2 : frz (.loc i) ρ = some (.ok c.data, ρ.set i (.dat c.data)) := by unfold frz; dsimp only; rw [S.is e] <;> rfl
  refine ⟨.ret (.dat c.data), ρ.set i (.dat c.data), ?_, hΦ _ (.dat c.data) _ rfl⟩
  unfold sCons sRet
  rw [M.assoc, bind_at e1, M.assoc, bind_at e2]; rfl
/-- x = own, any content -/
theorem st_setOO {p : R β} {c : OC} (e : pt[j]? = some (.is (.ow c))) (w : WrAt (pt.set j (.is (.dat c.data))) i) (hk : ST rest ((pt.set j (.is (.dat c.data))).set i (.is (.dat c.data))) p Φ E) : ST (sCons (sSetX i (eVar j)) rest) pt p Φ E := fun ρ S => by
  have e1 : eVar j ρ = some (.ok (.loc j), ρ) := by unfold eVar; rw [S.is e]
  have e2 : frz (.loc j) ρ = some (.ok c.data, ρ.set j (.dat c.data)) := by unfold frz; dsimp only; rw [S.is e] <;> rfl
  have S1 : Sees (ρ.set j (.dat c.data)) (pt.set j (.is (.dat c.data))) := S.set rfl
  have e3 : sSetX i (eVar j) ρ = some (.ok .nx, (ρ.set j (.dat c.data)).set i (.dat c.data)) := by
    unfold sSetX
    rw [bind_at e1]
    show M.bind (frz (.loc j)) (fun d => M.bind (setD i d) fun _ => M.ok Fl.nx) ρ = _
    rw [bind_at e2, bind_at (S1.setD w)]; rfl
  rw [sc_at e3]
  exact hk _ (S1.set rfl)
/-! ### while -/
def whG (f : σ → R (Lo σ τ)) : Nat → σ → R (Lo σ τ)
  | 0, _ => none
  | n + 1, s => bd (f s) fun l => match l with
    | .nx s' => whG f n s'
    | .brk s' => Rk (.nx s')
    | .ret t => Rk (.ret t)
open Classical in
noncomputable def whX (f : σ → R (Lo σ τ)) (s : σ) : R (Lo σ τ) := if h : ∃ n, whG f n s ≠ none then whG f h.choose s else none
theorem whG_more {f : σ → R (Lo σ τ)} : ∀ (n k : Nat) (s : σ) (o : Except Ex (Lo σ τ)), whG f n s = some o → whG f (n + k) s = some o
  | 0, _, _, _, h => by cases h
  | n + 1, k, s, o, h => by
    rw [Nat.succ_add]
    unfold whG at h ⊢
    match z : f s with
    | none => rw [z] at h; cases h
    | some (.error x) => rw [z] at h; exact h
    | some (.ok (.nx s')) => rw [z] at h; exact whG_more n k s' o h
    | some (.ok (.brk s')) => rw [z] at h; exact h
    | some (.ok (.ret t)) => rw [z] at h; exact h
theorem whX_at {f : σ → R (Lo σ τ)} {n : Nat} {s : σ} {o : Except Ex (Lo σ τ)} (h : whG f n s = some o) : whX f s = some o := by
  unfold whX
  have ex : ∃ n, whG f n s ≠ none := ⟨n, by rw [h]; simp⟩
  rw [dif_pos ex]
  cases z : whG f ex.choose s with
  | none => exact absurd z ex.choose_spec
  | some o' =>
    have h1 := whG_more n ex.choose s o h
    have h2 := whG_more ex.choose n s o' z
    rw [Nat.add_comm, h1] at h2
    exact h2.symm
theorem whX_some {f : σ → R (Lo σ τ)} {s : σ} {o : Except Ex (Lo σ τ)} (h : whX f s = some o) : ∃ n, whG f n s = some o := by
  unfold whX at h
  split at h
  · rename_i ex; exact ⟨ex.choose, h⟩
  · cases h
theorem whX_nx {f : σ → R (Lo σ τ)} {s s' : σ} (h : f s = Rk (.nx s')) : whX f s = whX f s' := by
  cases z : whX f s' with
  | some o =>
    obtain ⟨n, hn⟩ := whX_some z
    exact whX_at (n := n + 1) (by unfold whG; rw [h]; exact hn)
  | none =>
    cases y : whX f s with
    | none => rfl
    | some o =>
      obtain ⟨n, hn⟩ := whX_some y
      cases n with
      | zero => cases hn
      | succ n =>
        unfold whG at hn
        rw [h] at hn
        rw [whX_at (show whG f n s' = some o from hn)] at z
        cases z
theorem whX_brk {f : σ → R (Lo σ τ)} {s s' : σ} (h : f s = Rk (.brk s')) : whX f s = Rk (.nx s') := whX_at (n := 1) (by unfold whG; rw [h]; rfl)
theorem whX_ret {f : σ → R (Lo σ τ)} {s : σ} {t : τ} (h : f s = Rk (.ret t)) : whX f s = Rk (.ret t) := whX_at (n := 1) (by unfold whG; rw [h]; rfl)
theorem whX_er {f : σ → R (Lo σ τ)} {s : σ} {x : Ex} (h : f s = Rx x) : whX f s = Rx x := whX_at (n := 1) (by unfold whG; rw [h]; rfl)
theorem wh_go {mc : M Bool} {mb : M Fl} {c : σ → R Bool} {f : σ → R (Lo σ τ)} {pI : σ → List PV} {Ψ : τ → RV → List DV → Prop} (hc : ∀ s, TE mc (pI s) (c s) E) (hb : ∀ s, ST mb (pI s) (f s) (ΦX pI Ψ) E) : ∀ (n : Nat) (s : σ) (ρ : List DV), Sees ρ (pI s) →
    Go (whGo mc mb n ρ) (whG (fun s => bd (c s) fun b => if b = true then f s else Rk (.brk s)) n s) (fun l fl ρ' => match l with | .nx s' => fl = .nx ∧ Sees ρ' (pI s') | .brk _ => False | .ret t => ∃ r, fl = .ret r ∧ Ψ t r ρ') E
  | 0, s, ρ, S => trivial
  | n + 1, s, ρ, S => by
    unfold whGo whG
    rw [bd_assoc]
    refine (hc s ρ S).bind fun b b' ρ1 k => ?_
    obtain ⟨rfl, S1⟩ := k
    cases b' with
    | false => exact ⟨.nx, ρ1, rfl, rfl, S1⟩
    | true =>
      rw [if_pos rfl, if_pos rfl]
      refine (hb s ρ1 S1).bind fun l fl ρ' k => ?_
      match l, k with
      | .nx s', ⟨h, S'⟩ =>
        rcases h with h | h
        · subst h; exact wh_go hc hb n s' ρ' S'
        · subst h; exact wh_go hc hb n s' ρ' S'
      | .brk s', ⟨h, S'⟩ => subst h; exact ⟨.nx, ρ', rfl, rfl, S'⟩
      | .ret t, ⟨r, h, q⟩ => subst h; exact ⟨.ret r, ρ', rfl, r, rfl, q⟩
theorem st_whX {mc : M Bool} {mb : M Fl} {c : σ → R Bool} {f : σ → R (Lo σ τ)} {k : σ → R β} {Ψ : τ → RV → List DV → Prop} (inj : τ → β) (pI : σ → List PV) (s0 : σ) (w : PLe pt (pI s0)) (hc : ∀ s, TE mc (pI s) (c s) E) (hb : ∀ s, ST mb (pI s) (f s) (ΦX pI Ψ) E)
    (hk : ∀ s, ST rest (pI s) (k s) Φ E) (hr : ∀ t r ρ, Ψ t r ρ → Φ (inj t) (.ret r) ρ) :
    ST (sCons (sWhile mc mb) rest) pt (bd (whX (fun s => bd (c s) fun b => if b = true then f s else Rk (.brk s)) s0) fun l => thn l k fun t => Rk (inj t)) Φ E := fun ρ S => by
  refine forX_st (mi := M.ok []) (pI := pI) (Ψ := Ψ) ?_ hk hr
  cases z : whX (fun s => bd (c s) fun b => if b = true then f s else Rk (.brk s)) s0 with
  | none => trivial
  | some o =>
    obtain ⟨n, hn⟩ := whX_some z
    have g := wh_go hc hb n s0 ρ (S.weak w)
    rw [hn] at g
    match o, g with
    | .ok l, ⟨fl, ρ', e, q⟩ => exact ⟨fl, ρ', sWhile_at e, q⟩
    | .error x, ⟨ρ', e, q⟩ => exact ⟨ρ', sWhile_at e, q⟩
/-- a loop without return: what is left behind it -/
theorem st_wh {mc : M Bool} {mb : M Fl} {c : σ → R Bool} {f : σ → R (Lo σ Unit)} {k : σ → R β} (pI : σ → List PV) (s0 : σ) (w : PLe pt (pI s0)) (hc : ∀ s, TE mc (pI s) (c s) E) (hb : ∀ s, ST mb (pI s) (f s) (ΦX pI (fun _ _ _ => False)) E)
    (hk : ∀ s, ST rest (pI s) (k s) Φ E) :
    ST (sCons (sWhile mc mb) rest) pt (bd (whX (fun s => bd (c s) fun b => if b = true then f s else Rk (.brk s)) s0) fun l => thn l k fun _ => none) Φ E := fun ρ S => by
  have g : Go (sWhile mc mb ρ) (whX (fun s => bd (c s) fun b => if b = true then f s else Rk (.brk s)) s0) (fun l fl ρ' => match l with | .nx s' => fl = .nx ∧ Sees ρ' (pI s') | .brk _ => False | .ret t => False) E := by
    cases z : whX (fun s => bd (c s) fun b => if b = true then f s else Rk (.brk s)) s0 with
    | none => trivial
    | some o =>
      obtain ⟨n, hn⟩ := whX_some z
      have g := wh_go hc hb n s0 ρ (S.weak w)
      rw [hn] at g
      match o, g with
      | .ok (.nx s'), ⟨fl, ρ', e, q⟩ => exact ⟨fl, ρ', sWhile_at e, q⟩
      | .ok (.brk s'), ⟨fl, ρ', e, q⟩ => exact q.elim
      | .ok (.ret t), ⟨fl, ρ', e, r, h, q⟩ => exact q.elim
      | .error x, ⟨ρ', e, q⟩ => exact ⟨ρ', sWhile_at e, q⟩
  unfold sCons
  refine g.bind fun l fl ρ' q => ?_
  match l, q with
  | .nx s', ⟨h, S'⟩ => subst h; exact hk s' ρ' S'
end
end DL

set_option Elab.async false
set_option linter.all false
set_option maxRecDepth 100000
set_option maxHeartbeats 4000000
namespace LK
noncomputable section
open PySem PySem.Spec PyProof.Rows L2 DL
def top (i : Nat) : Stmt := PySem.Challenge.pw_leasesall_k57_fences.main.body.getD i (.Pass ⟨0, 0, 0, 0⟩)
abbrev st_is_integer : Stmt := top 4
abbrev st_is_between : Stmt := top 5
abbrev st_is_tuple : Stmt := top 6
abbrev st_anew : Stmt := top 7
abbrev st_product_of : Stmt := top 9
abbrev st_places_of : Stmt := top 10
abbrev st_goals_by : Stmt := top 11
abbrev st_are_bounds : Stmt := top 14
abbrev st_need_bounds : Stmt := top 15
abbrev st_server_party : Stmt := top 17
abbrev st_holder_party : Stmt := top 18
abbrev st_store_party : Stmt := top 19
abbrev st_team_by : Stmt := top 20
abbrev st_fence_team : Stmt := top 21
abbrev st_fence_goals : Stmt := top 22
abbrev st_fence_is_safe : Stmt := top 23
abbrev st_greatest_use : Stmt := top 24
abbrev st__law_pool : Stmt := top 26
abbrev st__law_take : Stmt := top 27
abbrev st__law_pair : Stmt := top 28
abbrev st__law_moved : Stmt := top 29
abbrev st__law_is_safe : Stmt := top 30
abbrev st__law_caught : Stmt := top 31
abbrev st_law : Stmt := top 32
structure Ad where
  (init k_LeaseError k_InvalidBounds : Addr)
  (is_integer is_between is_tuple anew product_of places_of goals_by are_bounds need_bounds server_party holder_party store_party team_by fence_team fence_goals fence_is_safe greatest_use _law_pool _law_take _law_pair _law_moved _law_is_safe _law_caught law : Addr)
structure Fd where
  (is_integer is_between is_tuple anew product_of places_of goals_by are_bounds need_bounds server_party holder_party store_party team_by fence_team fence_goals fence_is_safe greatest_use _law_pool _law_take _law_pair _law_moved _law_is_safe _law_caught law : FuncData)
/-- the classes that are raised, caught -/
def clsNs : List Str := ["LeaseError", "InvalidBounds"]
def isCls (y : Str) : Bool := clsNs.contains y
def isCls2 (y : Str) : Option Bool := if isCls y then some true else none
def isEx (x y : Str) : Option Bool := if isCls y then some (x == y || x == "LeaseError") else none
def isNon : D → Option Bool
  | .none => some false
  | _ => none
structure Txt (Pg : Program) (K : PySem.W.Frag) (mg : Str → Option Value) (a : Ad) (d : Fd) : Prop where
  f_is_integer : Fun K "is_integer" "is_integer" st_is_integer a.is_integer d.is_integer
  g_is_integer : mg "is_integer" = some (.ref a.is_integer)
  f_is_between : Fun K "is_between" "is_between" st_is_between a.is_between d.is_between
  g_is_between : mg "is_between" = some (.ref a.is_between)
  f_is_tuple : Fun K "is_tuple" "is_tuple" st_is_tuple a.is_tuple d.is_tuple
  g_is_tuple : mg "is_tuple" = some (.ref a.is_tuple)
  f_anew : Fun K "anew" "anew" st_anew a.anew d.anew
  g_anew : mg "anew" = some (.ref a.anew)
  f_product_of : Fun K "product_of" "product_of" st_product_of a.product_of d.product_of
  g_product_of : mg "product_of" = some (.ref a.product_of)
  f_places_of : Fun K "places_of" "places_of" st_places_of a.places_of d.places_of
  g_places_of : mg "places_of" = some (.ref a.places_of)
  f_goals_by : Fun K "goals_by" "goals_by" st_goals_by a.goals_by d.goals_by
  g_goals_by : mg "goals_by" = some (.ref a.goals_by)
  f_are_bounds : Fun K "are_bounds" "are_bounds" st_are_bounds a.are_bounds d.are_bounds
  g_are_bounds : mg "are_bounds" = some (.ref a.are_bounds)
  f_need_bounds : Fun K "need_bounds" "need_bounds" st_need_bounds a.need_bounds d.need_bounds
  g_need_bounds : mg "need_bounds" = some (.ref a.need_bounds)
  f_server_party : Fun K "server_party" "server_party" st_server_party a.server_party d.server_party
  g_server_party : mg "server_party" = some (.ref a.server_party)
  f_holder_party : Fun K "holder_party" "holder_party" st_holder_party a.holder_party d.holder_party
  g_holder_party : mg "holder_party" = some (.ref a.holder_party)
  f_store_party : Fun K "store_party" "store_party" st_store_party a.store_party d.store_party
  g_store_party : mg "store_party" = some (.ref a.store_party)
  f_team_by : Fun K "team_by" "team_by" st_team_by a.team_by d.team_by
  g_team_by : mg "team_by" = some (.ref a.team_by)
  f_fence_team : Fun K "fence_team" "fence_team" st_fence_team a.fence_team d.fence_team
  g_fence_team : mg "fence_team" = some (.ref a.fence_team)
  f_fence_goals : Fun K "fence_goals" "fence_goals" st_fence_goals a.fence_goals d.fence_goals
  g_fence_goals : mg "fence_goals" = some (.ref a.fence_goals)
  f_fence_is_safe : Fun K "fence_is_safe" "fence_is_safe" st_fence_is_safe a.fence_is_safe d.fence_is_safe
  g_fence_is_safe : mg "fence_is_safe" = some (.ref a.fence_is_safe)
  f_greatest_use : Fun K "greatest_use" "greatest_use" st_greatest_use a.greatest_use d.greatest_use
  g_greatest_use : mg "greatest_use" = some (.ref a.greatest_use)
  f__law_pool : Fun K "_law_pool" "_law_pool" st__law_pool a._law_pool d._law_pool
  g__law_pool : mg "_law_pool" = some (.ref a._law_pool)
  f__law_take : Fun K "_law_take" "_law_take" st__law_take a._law_take d._law_take
  g__law_take : mg "_law_take" = some (.ref a._law_take)
  f__law_pair : Fun K "_law_pair" "_law_pair" st__law_pair a._law_pair d._law_pair
  g__law_pair : mg "_law_pair" = some (.ref a._law_pair)
  f__law_moved : Fun K "_law_moved" "_law_moved" st__law_moved a._law_moved d._law_moved
  g__law_moved : mg "_law_moved" = some (.ref a._law_moved)
  f__law_is_safe : Fun K "_law_is_safe" "_law_is_safe" st__law_is_safe a._law_is_safe d._law_is_safe
  g__law_is_safe : mg "_law_is_safe" = some (.ref a._law_is_safe)
  f__law_caught : Fun K "_law_caught" "_law_caught" st__law_caught a._law_caught d._law_caught
  g__law_caught : mg "_law_caught" = some (.ref a._law_caught)
  f_law : Fun K "law" "law" st_law a.law d.law
  g_law : mg "law" = some (.ref a.law)
  b_abs : mg "abs" = none
  b_all : mg "all" = none
  b_bool : mg "bool" = none
  b_int : mg "int" = none
  b_isinstance : mg "isinstance" = none
  b_len : mg "len" = none
  b_list : mg "list" = none
  b_min : mg "min" = none
  b_range : mg "range" = none
  b_repr : mg "repr" = none
  b_tuple : mg "tuple" = none
  b_zip : mg "zip" = none
  c_MOST_BOUND : ∃ t, mg "MOST_BOUND" = some (.int (60) t)
  le : PySem.LeX.LeTxt K mg Pg a.k_LeaseError a.init
  lc_LeaseError : PySem.LeX.LcTxt K a.k_LeaseError a.init a.k_LeaseError
  k_LeaseError : mg "LeaseError" = some (.ref a.k_LeaseError)
  lc_InvalidBounds : PySem.LeX.LcTxt K a.k_LeaseError a.init a.k_InvalidBounds
  k_InvalidBounds : mg "InvalidBounds" = some (.ref a.k_InvalidBounds)
  nn_InvalidBounds : ∀ (d : D) (b : Bool), isNon d = some b → PySem.W.kitOne K (.type (tyD d)) (.ref a.k_InvalidBounds) = some b
  ie_InvalidBounds : ∀ (y : Str) (b : Bool) (C : Addr), isEx "InvalidBounds" y = some b → mg y = some (.ref C) → ExcC K C ∧ PySem.W.kitOne K (.ref C) (.ref a.k_InvalidBounds) = some b
  caOk : ∀ (y : Str) (b : Bool) (C : Addr), isCls2 y = some b → mg y = some (.ref C) → PySem.W.exmOne K (.ref C) (.ref a.k_LeaseError) = some b
  valOk : ∀ (y : Str) (C : Addr), isCls y = true → mg y = some (.ref C) → XfC K C ∧ PySem.W.findIn K (.ref C) "value" = some none
section
variable {Pg : Program} {wd : World} {K : PySem.W.Frag} {mg : Str → Option Value} {base : Heap} {a : Ad} {d : Fd}
/-! ### is_integer -/
abbrev N_is_integer : List Str := ["value"]
theorem sc_is_integer : FnScope N_is_integer ["value"] (defScope st_is_integer) := ⟨rfl, rfl, rfl, by decide +kernel, rfl, by decide +kernel, by decide +kernel⟩
theorem v_is_integer_value : Vis (defScope st_is_integer) ("value" : Str) := .inl (by decide +kernel)
theorem g_is_integer_isinstance : ((defScope st_is_integer)).names.lookup ("isinstance" : Str) = some .globalImplicit := by decide +kernel
theorem g_is_integer_int : ((defScope st_is_integer)).names.lookup ("int" : Str) = some .globalImplicit := by decide +kernel
theorem g_is_integer_bool : ((defScope st_is_integer)).names.lookup ("bool" : Str) = some .globalImplicit := by decide +kernel
def m_is_integer : M Fl := (sCons (sRet (andV (eIs (isTy "int") (fun _ => none) (eVar 0)) (notV (eIs (isTy "bool") (fun _ => none) (eVar 0))))) sNil)
def F_is_integer : Fsp := runF false 1 m_is_integer
theorem bi_is_integer (T : Txt Pg K mg a d) : Binds K d.is_integer ["value"] [] := T.f_is_integer.binds fun _ _ _ _ _ _ us hl => match us, hl with | [_], _ => rfl
theorem ok_is_integer (T : Txt Pg K mg a d) : FnOkG Pg wd K mg base (L2.CX Pg wd) 1 a.is_integer d.is_integer ["value"] (spD ⟨K, mg, Pg, wd⟩ false 1 F_is_integer) :=
  fn_okG (k := 0) T.f_is_integer sc_is_integer fun cdv A outer s H E hr hG tk =>
    (ds_cons (ds_ret (de_and (de_isG rfl g_is_integer_isinstance T.b_isinstance (de_v (i := 0) rfl v_is_integer_value) (pe_bltn g_is_integer_int T.b_int (by decide +kernel) (v := .ty "int") rfl) (.ty "int") (fun _ _ h => kit_ty h) (fun _ _ _ h => nomatch h) rfl rfl rfl) (pe_one (de_not (de_isG rfl g_is_integer_isinstance T.b_isinstance (de_v (i := 0) rfl v_is_integer_value) (pe_bltn g_is_integer_bool T.b_bool (by decide +kernel) (v := .ty "bool") rfl) (.ty "bool") (fun _ _ h => kit_ty h) (fun _ _ _ h => nomatch h) rfl rfl rfl))))) ds_nil)
/-! ### is_between -/
abbrev N_is_between : List Str := ["value", "low", "high"]
theorem sc_is_between : FnScope N_is_between ["value", "low", "high"] (defScope st_is_between) := ⟨rfl, rfl, rfl, by decide +kernel, rfl, by decide +kernel, by decide +kernel⟩
theorem v_is_between_value : Vis (defScope st_is_between) ("value" : Str) := .inl (by decide +kernel)
theorem g_is_between_is_integer : ((defScope st_is_between)).names.lookup ("is_integer" : Str) = some .globalImplicit := by decide +kernel
theorem v_is_between_low : Vis (defScope st_is_between) ("low" : Str) := .inl (by decide +kernel)
theorem v_is_between_high : Vis (defScope st_is_between) ("high" : Str) := .inl (by decide +kernel)
def m_is_between : M Fl := (sCons (sRet (andV (eCall false F_is_integer (aCons (eVar 0) aNil)) (eChain leD leD (eVar 1) (eVar 0) (eVar 2)))) sNil)
def F_is_between : Fsp := runF false 3 m_is_between
theorem bi_is_between (T : Txt Pg K mg a d) : Binds K d.is_between ["value", "low", "high"] [] := T.f_is_between.binds fun _ _ _ _ _ _ us hl => match us, hl with | [_, _, _], _ => rfl
theorem ok_is_between (T : Txt Pg K mg a d) : FnOkG Pg wd K mg base (L2.CX Pg wd) 2 a.is_between d.is_between ["value", "low", "high"] (spD ⟨K, mg, Pg, wd⟩ false 3 F_is_between) :=
  fn_okG (k := 1) T.f_is_between sc_is_between fun cdv A outer s H E hr hG tk =>
    (ds_cons (ds_ret (de_and (de_callG ((ok_is_integer T).mono (by decide : 1 ≤ 1)) hr hG g_is_between_is_integer T.g_is_integer T.f_is_integer.kp (bi_is_integer T) tk (da_cons (de_v (i := 0) rfl v_is_between_value) da_nil rfl) (alen_cons alen_nil) (by decide) rfl rfl) (pe_one (de_chain op_le opd_le op_le opd_le (de_v (i := 1) rfl v_is_between_low) (de_v (i := 0) rfl v_is_between_value) (de_v (i := 2) rfl v_is_between_high) rfl)))) ds_nil)
/-! ### is_tuple -/
abbrev N_is_tuple : List Str := ["value", "low", "high"]
theorem sc_is_tuple : FnScope N_is_tuple ["value", "low", "high"] (defScope st_is_tuple) := ⟨rfl, rfl, rfl, by decide +kernel, rfl, by decide +kernel, by decide +kernel⟩
theorem v_is_tuple_value : Vis (defScope st_is_tuple) ("value" : Str) := .inl (by decide +kernel)
theorem g_is_tuple_isinstance : ((defScope st_is_tuple)).names.lookup ("isinstance" : Str) = some .globalImplicit := by decide +kernel
theorem g_is_tuple_tuple : ((defScope st_is_tuple)).names.lookup ("tuple" : Str) = some .globalImplicit := by decide +kernel
theorem v_is_tuple_low : Vis (defScope st_is_tuple) ("low" : Str) := .inl (by decide +kernel)
theorem g_is_tuple_len : ((defScope st_is_tuple)).names.lookup ("len" : Str) = some .globalImplicit := by decide +kernel
theorem v_is_tuple_high : Vis (defScope st_is_tuple) ("high" : Str) := .inl (by decide +kernel)
def m_is_tuple : M Fl := (sCons (sRet (andV (eIs (isTy "tuple") (fun _ => none) (eVar 0)) (eChain leD leD (eVar 1) (eCB lenF (aCons (eVar 0) aNil)) (eVar 2)))) sNil)
def F_is_tuple : Fsp := runF false 3 m_is_tuple
theorem bi_is_tuple (T : Txt Pg K mg a d) : Binds K d.is_tuple ["value", "low", "high"] [] := T.f_is_tuple.binds fun _ _ _ _ _ _ us hl => match us, hl with | [_, _, _], _ => rfl
theorem ok_is_tuple (T : Txt Pg K mg a d) : FnOkG Pg wd K mg base (L2.CX Pg wd) 1 a.is_tuple d.is_tuple ["value", "low", "high"] (spD ⟨K, mg, Pg, wd⟩ false 3 F_is_tuple) :=
  fn_okG (k := 0) T.f_is_tuple sc_is_tuple fun cdv A outer s H E hr hG tk =>
    (ds_cons (ds_ret (de_and (de_isG rfl g_is_tuple_isinstance T.b_isinstance (de_v (i := 0) rfl v_is_tuple_value) (pe_bltn g_is_tuple_tuple T.b_tuple (by decide +kernel) (v := .ty "tuple") rfl) (.ty "tuple") (fun _ _ h => kit_ty h) (fun _ _ _ h => nomatch h) rfl rfl rfl) (pe_one (de_chain op_le opd_le op_le opd_le (de_v (i := 1) rfl v_is_tuple_low) (de_cb call_len_seq (cbd_len rfl) g_is_tuple_len T.b_len (by decide +kernel) (da_cons (de_v (i := 0) rfl v_is_tuple_value) da_nil rfl) (by decide) (by decide) rfl rfl) (de_v (i := 2) rfl v_is_tuple_high) rfl)))) ds_nil)
/-! ### anew -/
abbrev N_anew : List Str := ["value", "part"]
theorem sc_anew : FnScope N_anew ["value"] (defScope st_anew) := ⟨rfl, rfl, rfl, by decide +kernel, rfl, by decide +kernel, by decide +kernel⟩
abbrev bs_anew_b1 : Scope := { kind := .function, names := [(PySem.Str.ofString ".0", .local), (PySem.Str.ofString "part", .local), (PySem.Str.ofString "anew", .globalImplicit)], isGenerator := false, isCoroutine := false, more := [] }
theorem bk_anew_b1 : blkC N_anew (defScope st_anew) bs_anew_b1 [("part", 1)] = true := by decide +kernel
abbrev bs_anew_b2 : Scope := { kind := .function, names := [(PySem.Str.ofString ".0", .local), (PySem.Str.ofString "part", .local), (PySem.Str.ofString "anew", .globalImplicit)], isGenerator := false, isCoroutine := false, more := [] }
theorem bk_anew_b2 : blkC N_anew (defScope st_anew) bs_anew_b2 [("part", 1)] = true := by decide +kernel
theorem v_anew_value : Vis (defScope st_anew) ("value" : Str) := .inl (by decide +kernel)
theorem g_anew_isinstance : ((defScope st_anew)).names.lookup ("isinstance" : Str) = some .globalImplicit := by decide +kernel
theorem g_anew_tuple : ((defScope st_anew)).names.lookup ("tuple" : Str) = some .globalImplicit := by decide +kernel
theorem o_anew_b1_part : Loc (relS bs_anew_b1 (defScope st_anew)) ("part" : Str) := .inl (by decide +kernel)
theorem l_anew_b1_part : ((relS bs_anew_b1 (defScope st_anew))).names.lookup ("part" : Str) = some .local := by decide +kernel
theorem v_anew_b1_part : Vis (relS bs_anew_b1 (defScope st_anew)) ("part" : Str) := .inl (by decide +kernel)
theorem g_anew_b1_anew : ((relS bs_anew_b1 (defScope st_anew))).names.lookup ("anew" : Str) = some .globalImplicit := by decide +kernel
theorem g_anew_list : ((defScope st_anew)).names.lookup ("list" : Str) = some .globalImplicit := by decide +kernel
theorem o_anew_b2_part : Loc (relS bs_anew_b2 (defScope st_anew)) ("part" : Str) := .inl (by decide +kernel)
theorem l_anew_b2_part : ((relS bs_anew_b2 (defScope st_anew))).names.lookup ("part" : Str) = some .local := by decide +kernel
theorem v_anew_b2_part : Vis (relS bs_anew_b2 (defScope st_anew)) ("part" : Str) := .inl (by decide +kernel)
theorem g_anew_b2_anew : ((relS bs_anew_b2 (defScope st_anew))).names.lookup ("anew" : Str) = some .globalImplicit := by decide +kernel
def m_anew (F_rec : Fsp) : M Fl := (sCons (sIf (eB (eIs (isTy "list") (fun _ => none) (eVar 0))) (sCons (sRetN (nLc (iDat (eVar 0)) (.nm 1) (M.ok true) (eCall false F_rec (aCons (eVar 1) aNil)) [1])) sNil) sNil) (sCons (sIf (eB (eIs (isTy "tuple") (fun _ => none) (eVar 0))) (sCons (sRet (eCB tupleF (aCons (eLc (iDat (eVar 0)) (.nm 1) (M.ok true) (eCall false F_rec (aCons (eVar 1) aNil)) [1]) aNil))) sNil) sNil) (sCons (sRet (eVar 0)) sNil)))
def F_anew : Nat → Fsp
  | 0 => fun _ _ => none
  | k + 1 => runF false 2 (m_anew (F_anew k))
theorem bi_anew (T : Txt Pg K mg a d) : Binds K d.anew ["value"] [] := T.f_anew.binds fun _ _ _ _ _ _ us hl => match us, hl with | [_], _ => rfl
theorem ok_anew (T : Txt Pg K mg a d) : ∀ k : Nat, FnOkG Pg wd K mg base (L2.CX Pg wd) (1 + k) a.anew d.anew ["value"] (spD ⟨K, mg, Pg, wd⟩ false 1 (F_anew k))
  | 0 => ⟨fun _ _ _ _ h => h.1, fun _ _ _ _ _ _ _ _ _ _ _ _ _ _ h => (by obtain ⟨_, _, _, _, _, _, _, _, _, _, _, h⟩ := h; exact h.elim)⟩
  | k + 1 => by
    have ih := ok_anew T k
    exact fn_okG (k := 1 + k) T.f_anew sc_anew fun cdv A outer s H E hr hG tk =>
      (ds_cons (ds_if (dt_val (de_isG rfl g_anew_isinstance T.b_isinstance (de_v (i := 0) rfl v_anew_value) (pe_bltn g_anew_list T.b_list (by decide +kernel) (v := .ty "list") rfl) (.ty "list") (fun _ _ h => kit_ty h) (fun _ _ _ h => nomatch h) rfl rfl rfl) (fun _ => rfl)) (ds_cons (ds_retN (dn_lc rfl sc_anew.nd (di_dat rfl (de_v (i := 0) rfl v_anew_value)) (own := [("part", 1)]) (blkOk_by bk_anew_b2) (fun _ _ _ _ _ => (dg_name (i := 1) sc_anew.nd rfl o_anew_b2_part (.inr l_anew_b2_part))) (fun _ _ _ _ _ => dts_nil) (fun _ _ _ _ _ => (de_callG (ih.mono (by omega)) hr hG g_anew_b2_anew T.g_anew T.f_anew.kp (bi_anew T) takes0 (da_cons (de_v (i := 1) rfl v_anew_b2_part) da_nil rfl) (alen_cons alen_nil) (by decide) rfl rfl)) (fun _ => rfl) (by decide))) ds_nil) ds_nil) (ds_cons (ds_if (dt_val (de_isG rfl g_anew_isinstance T.b_isinstance (de_v (i := 0) rfl v_anew_value) (pe_bltn g_anew_tuple T.b_tuple (by decide +kernel) (v := .ty "tuple") rfl) (.ty "tuple") (fun _ _ h => kit_ty h) (fun _ _ _ h => nomatch h) rfl rfl rfl) (fun _ => rfl)) (ds_cons (ds_ret (de_cty call_tuple_of (cbd_tuple rfl) g_anew_tuple T.b_tuple (by decide +kernel) (da_cons (de_lc rfl sc_anew.nd (di_dat rfl (de_v (i := 0) rfl v_anew_value)) (own := [("part", 1)]) (blkOk_by bk_anew_b1) (fun _ _ _ _ _ => (dg_name (i := 1) sc_anew.nd rfl o_anew_b1_part (.inr l_anew_b1_part))) (fun _ _ _ _ _ => dts_nil) (fun _ _ _ _ _ => (de_callG (ih.mono (by omega)) hr hG g_anew_b1_anew T.g_anew T.f_anew.kp (bi_anew T) takes0 (da_cons (de_v (i := 1) rfl v_anew_b1_part) da_nil rfl) (alen_cons alen_nil) (by decide) rfl rfl)) (fun _ => rfl) (by decide)) da_nil rfl) (by decide) (by decide) rfl rfl)) ds_nil) ds_nil) (ds_cons (ds_ret (de_v (i := 0) rfl v_anew_value)) ds_nil)))
/-! ### product_of -/
abbrev N_product_of : List Str := ["team", "found", "party"]
theorem sc_product_of : FnScope N_product_of ["team"] (defScope st_product_of) := ⟨rfl, rfl, rfl, by decide +kernel, rfl, by decide +kernel, by decide +kernel⟩
theorem v_product_of_found : Vis (defScope st_product_of) ("found" : Str) := .inl (by decide +kernel)
theorem v_product_of_team : Vis (defScope st_product_of) ("team" : Str) := .inl (by decide +kernel)
theorem o_product_of_party : Loc (defScope st_product_of) ("party" : Str) := .inl (by decide +kernel)
theorem v_product_of_party : Vis (defScope st_product_of) ("party" : Str) := .inl (by decide +kernel)
theorem o_product_of_found : Loc (defScope st_product_of) ("found" : Str) := .inl (by decide +kernel)
def m_product_of : M Fl := (sCons (sSetX 1 (eLit (.int (1)))) (sCons (sFor (iDat (eOp2 ixD (eVar 0) (eLit (.int (1))))) (.nm 2) (sCons (sAug 1 imulD (eOp2 ixD (eVar 2) (eLit (.int (0))))) sNil)) (sCons (sRet (eVar 1)) sNil)))
def F_product_of : Fsp := runF false 3 m_product_of
theorem bi_product_of (T : Txt Pg K mg a d) : Binds K d.product_of ["team"] [] := T.f_product_of.binds fun _ _ _ _ _ _ us hl => match us, hl with | [_], _ => rfl
theorem ok_product_of (T : Txt Pg K mg a d) : FnOkG Pg wd K mg base (L2.CX Pg wd) 1 a.product_of d.product_of ["team"] (spD ⟨K, mg, Pg, wd⟩ false 1 F_product_of) :=
  fn_okG (k := 0) T.f_product_of sc_product_of fun cdv A outer s H E hr hG tk =>
    (ds_cons (ds_setX (i := 1) sc_product_of.nd rfl o_product_of_found de_int rfl (.inl rfl)) (ds_cons (ds_for PassesOwn.leaving rfl (di_dat rfl (de_ix rfl (de_v (i := 0) rfl v_product_of_team) de_int (fun _ _ => rfl))) (dg_name (i := 2) sc_product_of.nd rfl o_product_of_party ((.inl rfl))) (ds_cons (ds_aug (i := 1) iop_mul opd_imul sc_product_of.nd rfl o_product_of_found (de_ix rfl (de_v (i := 2) rfl v_product_of_party) de_int (fun _ _ => rfl)) (.inl rfl)) ds_nil) (fun _ => rfl)) (ds_cons (ds_ret (de_v (i := 1) rfl v_product_of_found)) ds_nil)))
/-! ### places_of -/
abbrev N_places_of : List Str := ["team", "place", "found", "party"]
theorem sc_places_of : FnScope N_places_of ["team", "place"] (defScope st_places_of) := ⟨rfl, rfl, rfl, by decide +kernel, rfl, by decide +kernel, by decide +kernel⟩
theorem g_places_of_tuple : ((defScope st_places_of)).names.lookup ("tuple" : Str) = some .globalImplicit := by decide +kernel
theorem v_places_of_found : Vis (defScope st_places_of) ("found" : Str) := .inl (by decide +kernel)
theorem v_places_of_team : Vis (defScope st_places_of) ("team" : Str) := .inl (by decide +kernel)
theorem o_places_of_party : Loc (defScope st_places_of) ("party" : Str) := .inl (by decide +kernel)
theorem v_places_of_party : Vis (defScope st_places_of) ("party" : Str) := .inl (by decide +kernel)
theorem o_places_of_place : Loc (defScope st_places_of) ("place" : Str) := .inl (by decide +kernel)
theorem v_places_of_place : Vis (defScope st_places_of) ("place" : Str) := .inl (by decide +kernel)
theorem o_places_of_found : Loc (defScope st_places_of) ("found" : Str) := .inl (by decide +kernel)
def m_places_of : M Fl := (sCons (sSetN 2 (nLst aNil)) (sCons (sFor (iDat (eOp1 revX (eOp2 ixD (eVar 0) (eLit (.int (1)))))) (.nm 3) (sCons (sExpr (eAp (eVar 2) (eOp2 modD (eVar 1) (eOp2 ixD (eVar 3) (eLit (.int (0))))))) (sCons (sAug 1 fdivD (eOp2 ixD (eVar 3) (eLit (.int (0))))) sNil))) (sCons (sRet (eCB tupleF (aCons (eOp1 revX (eVar 2)) aNil))) sNil)))
def F_places_of : Fsp := runF false 4 m_places_of
theorem bi_places_of (T : Txt Pg K mg a d) : Binds K d.places_of ["team", "place"] [] := T.f_places_of.binds fun _ _ _ _ _ _ us hl => match us, hl with | [_, _], _ => rfl
theorem ok_places_of (T : Txt Pg K mg a d) : FnOkG Pg wd K mg base (L2.CX Pg wd) 1 a.places_of d.places_of ["team", "place"] (spD ⟨K, mg, Pg, wd⟩ false 2 F_places_of) :=
  fn_okG (k := 0) T.f_places_of sc_places_of fun cdv A outer s H E hr hG tk =>
    (ds_cons (ds_setN (i := 2) sc_places_of.nd rfl o_places_of_found (dn_lst da_nil) rfl (.inl rfl)) (ds_cons (ds_for PassesOwn.leaving rfl (di_dat rfl (de_rev rfl (de_ix rfl (de_v (i := 0) rfl v_places_of_team) de_int (fun _ _ => rfl)))) (dg_name (i := 3) sc_places_of.nd rfl o_places_of_party ((.inl rfl))) (ds_cons (ds_expr (de_app rfl (de_v (i := 2) rfl v_places_of_found) (de_bin op_mod opd_mod (de_v (i := 1) rfl v_places_of_place) (de_ix rfl (de_v (i := 3) rfl v_places_of_party) de_int (fun _ _ => rfl))) rfl rfl rfl rfl rfl) rfl) (ds_cons (ds_aug (i := 1) iop_fdivW opd_fdiv sc_places_of.nd rfl o_places_of_place (de_ix rfl (de_v (i := 3) rfl v_places_of_party) de_int (fun _ _ => rfl)) (.inl rfl)) ds_nil)) (fun _ => rfl)) (ds_cons (ds_ret (de_cty call_tuple_of (cbd_tuple rfl) g_places_of_tuple T.b_tuple (by decide +kernel) (da_cons (de_rev rfl (de_v (i := 2) rfl v_places_of_found)) da_nil rfl) (by decide) (by decide) rfl rfl)) ds_nil)))
/-! ### goals_by -/
abbrev N_goals_by : List Str := ["team", "wanted", "found", "place", "at", "own"]
theorem sc_goals_by : FnScope N_goals_by ["team", "wanted"] (defScope st_goals_by) := ⟨rfl, rfl, rfl, by decide +kernel, rfl, by decide +kernel, by decide +kernel⟩
abbrev bs_goals_by_b1 : Scope := { kind := .function, names := [(PySem.Str.ofString ".0", .local), (PySem.Str.ofString "at", .local), (PySem.Str.ofString "own", .local)], isGenerator := false, isCoroutine := false, more := [] }
theorem bk_goals_by_b1 : blkC N_goals_by (defScope st_goals_by) bs_goals_by_b1 [("at", 4), ("own", 5)] = true := by decide +kernel
theorem g_goals_by_tuple : ((defScope st_goals_by)).names.lookup ("tuple" : Str) = some .globalImplicit := by decide +kernel
theorem v_goals_by_found : Vis (defScope st_goals_by) ("found" : Str) := .inl (by decide +kernel)
theorem v_goals_by_team : Vis (defScope st_goals_by) ("team" : Str) := .inl (by decide +kernel)
theorem g_goals_by_product_of : ((defScope st_goals_by)).names.lookup ("product_of" : Str) = some .globalImplicit := by decide +kernel
theorem g_goals_by_range : ((defScope st_goals_by)).names.lookup ("range" : Str) = some .globalImplicit := by decide +kernel
theorem o_goals_by_place : Loc (defScope st_goals_by) ("place" : Str) := .inl (by decide +kernel)
theorem g_goals_by_all : ((defScope st_goals_by)).names.lookup ("all" : Str) = some .globalImplicit := by decide +kernel
theorem v_goals_by_wanted : Vis (defScope st_goals_by) ("wanted" : Str) := .inl (by decide +kernel)
theorem v_goals_by_place : Vis (defScope st_goals_by) ("place" : Str) := .inl (by decide +kernel)
theorem g_goals_by_places_of : ((defScope st_goals_by)).names.lookup ("places_of" : Str) = some .globalImplicit := by decide +kernel
theorem g_goals_by_zip : ((defScope st_goals_by)).names.lookup ("zip" : Str) = some .globalImplicit := by decide +kernel
theorem o_goals_by_b1_own : Loc (relS bs_goals_by_b1 (defScope st_goals_by)) ("own" : Str) := .inl (by decide +kernel)
theorem l_goals_by_b1_own : ((relS bs_goals_by_b1 (defScope st_goals_by))).names.lookup ("own" : Str) = some .local := by decide +kernel
theorem o_goals_by_b1_at : Loc (relS bs_goals_by_b1 (defScope st_goals_by)) ("at" : Str) := .inl (by decide +kernel)
theorem l_goals_by_b1_at : ((relS bs_goals_by_b1 (defScope st_goals_by))).names.lookup ("at" : Str) = some .local := by decide +kernel
theorem v_goals_by_b1_own : Vis (relS bs_goals_by_b1 (defScope st_goals_by)) ("own" : Str) := .inl (by decide +kernel)
theorem v_goals_by_b1_at : Vis (relS bs_goals_by_b1 (defScope st_goals_by)) ("at" : Str) := .inl (by decide +kernel)
theorem o_goals_by_found : Loc (defScope st_goals_by) ("found" : Str) := .inl (by decide +kernel)
def m_goals_by : M Fl := (sCons (sSetN 2 (nLst aNil)) (sCons (sFor (iRng (aCons (eCall false F_product_of (aCons (eVar 0) aNil)) aNil)) (.nm 3) (sCons (sIf (eB (eCB allF (aCons (eLc (iZipX (aCons (eCall false F_places_of (aCons (eVar 0) (aCons (eVar 3) aNil))) (aCons (eVar 1) aNil))) (.tp [4, 5]) (M.ok true) (orV (eIsN false (eVar 5)) (eOp2 inY (eVar 4) (eVar 5))) [4, 5]) aNil))) (sCons (sExpr (eAp (eVar 2) (eVar 3))) sNil) sNil) sNil)) (sCons (sRet (eCB tupleF (aCons (eVar 2) aNil))) sNil)))
def F_goals_by : Fsp := runF false 6 m_goals_by
theorem bi_goals_by (T : Txt Pg K mg a d) : Binds K d.goals_by ["team", "wanted"] [] := T.f_goals_by.binds fun _ _ _ _ _ _ us hl => match us, hl with | [_, _], _ => rfl
theorem ok_goals_by (T : Txt Pg K mg a d) : FnOkG Pg wd K mg base (L2.CX Pg wd) 2 a.goals_by d.goals_by ["team", "wanted"] (spD ⟨K, mg, Pg, wd⟩ false 2 F_goals_by) :=
  fn_okG (k := 1) T.f_goals_by sc_goals_by fun cdv A outer s H E hr hG tk =>
    (ds_cons (ds_setN (i := 2) sc_goals_by.nd rfl o_goals_by_found (dn_lst da_nil) rfl (.inl rfl)) (ds_cons (ds_for PassesOwn.leaving rfl (di_rng1 (alen_cons alen_nil) g_goals_by_range T.b_range (da_cons (de_callG ((ok_product_of T).mono (by decide : 1 ≤ 1)) hr hG g_goals_by_product_of T.g_product_of T.f_product_of.kp (bi_product_of T) tk (da_cons (de_v (i := 0) rfl v_goals_by_team) da_nil rfl) (alen_cons alen_nil) (by decide) rfl rfl) da_nil rfl) rfl) (dg_name (i := 3) sc_goals_by.nd rfl o_goals_by_place ((.inl rfl))) (ds_cons (ds_if (dt_val (de_cb (cr_all rfl) (cbd_all rfl) g_goals_by_all T.b_all (by decide +kernel) (da_cons (de_lc rfl sc_goals_by.nd (di_zipX rfl g_goals_by_zip T.b_zip (da_cons (de_callG ((ok_places_of T).mono (by decide : 1 ≤ 1)) hr hG g_goals_by_places_of T.g_places_of T.f_places_of.kp (bi_places_of T) tk (da_cons (de_v (i := 0) rfl v_goals_by_team) (da_cons (de_v (i := 3) rfl v_goals_by_place) da_nil rfl) rfl) (alen_cons (alen_cons alen_nil)) (by decide) rfl rfl) (da_cons (de_v (i := 1) rfl v_goals_by_wanted) da_nil rfl) rfl) rfl rfl) (own := [("at", 4), ("own", 5)]) (blkOk_by bk_goals_by_b1) (fun _ _ _ _ _ => (dg_tup rfl rfl (dgs_cons (i := 4) sc_goals_by.nd rfl o_goals_by_b1_at (.inr l_goals_by_b1_at) (dgs_cons (i := 5) sc_goals_by.nd rfl o_goals_by_b1_own (.inr l_goals_by_b1_own) dgs_nil rfl) rfl) rfl rfl)) (fun _ _ _ _ _ => dts_nil) (fun _ _ _ _ _ => (de_or (de_isNx (de_v (i := 5) rfl v_goals_by_b1_own)) (pe_one (de_cmp ((op_inY rfl rfl rfl (room_u65 hr)).or ((op_inD (room_u65 hr)).or op_in_seq)) (opd_inY rfl) (de_v (i := 4) rfl v_goals_by_b1_at) (de_v (i := 5) rfl v_goals_by_b1_own) rfl)))) (fun _ => rfl) (by decide)) da_nil rfl) (by decide) (by decide) rfl rfl) (fun _ => rfl)) (ds_cons (ds_expr (de_app rfl (de_v (i := 2) rfl v_goals_by_found) (de_v (i := 3) rfl v_goals_by_place) rfl rfl rfl rfl rfl) rfl) ds_nil) ds_nil) ds_nil) (fun _ => rfl)) (ds_cons (ds_ret (de_cty call_tuple_of (cbd_tuple rfl) g_goals_by_tuple T.b_tuple (by decide +kernel) (da_cons (de_v (i := 2) rfl v_goals_by_found) da_nil rfl) (by decide) (by decide) rfl rfl)) ds_nil)))
/-! ### are_bounds -/
abbrev N_are_bounds : List Str := ["value"]
theorem sc_are_bounds : FnScope N_are_bounds ["value"] (defScope st_are_bounds) := ⟨rfl, rfl, rfl, by decide +kernel, rfl, by decide +kernel, by decide +kernel⟩
theorem g_are_bounds_MOST_BOUND : ((defScope st_are_bounds)).names.lookup ("MOST_BOUND" : Str) = some .globalImplicit := by decide +kernel
theorem v_are_bounds_value : Vis (defScope st_are_bounds) ("value" : Str) := .inl (by decide +kernel)
theorem g_are_bounds_is_between : ((defScope st_are_bounds)).names.lookup ("is_between" : Str) = some .globalImplicit := by decide +kernel
theorem g_are_bounds_is_tuple : ((defScope st_are_bounds)).names.lookup ("is_tuple" : Str) = some .globalImplicit := by decide +kernel
def m_are_bounds : M Fl := (sCons (sIf (orT (notT (eB (eCall false F_is_tuple (aCons (eVar 0) (aCons (eLit (.int (2))) (aCons (eLit (.int (2))) aNil)))))) (notT (eB (eCall false F_is_between (aCons (eOp2 ixD (eVar 0) (eLit (.int (0)))) (aCons (eLit (.int (0))) (aCons (eLit (.int (60))) aNil))))))) (sCons (sRet (eLit (.bool false))) sNil) sNil) (sCons (sRet (eCall false F_is_between (aCons (eOp2 ixD (eVar 0) (eLit (.int (1)))) (aCons (eOp2 ixD (eVar 0) (eLit (.int (0)))) (aCons (eLit (.int (60))) aNil))))) sNil))
def F_are_bounds : Fsp := runF false 1 m_are_bounds
theorem bi_are_bounds (T : Txt Pg K mg a d) : Binds K d.are_bounds ["value"] [] := T.f_are_bounds.binds fun _ _ _ _ _ _ us hl => match us, hl with | [_], _ => rfl
theorem ok_are_bounds (T : Txt Pg K mg a d) : FnOkG Pg wd K mg base (L2.CX Pg wd) 3 a.are_bounds d.are_bounds ["value"] (spD ⟨K, mg, Pg, wd⟩ false 1 F_are_bounds) :=
  fn_okG (k := 2) T.f_are_bounds sc_are_bounds fun cdv A outer s H E hr hG tk =>
    (ds_cons (ds_if (PW.fin (dw_or (dt_not (dt_val (de_callG ((ok_is_tuple T).mono (by decide : 1 ≤ 2)) hr hG g_are_bounds_is_tuple T.g_is_tuple T.f_is_tuple.kp (bi_is_tuple T) tk (da_cons (de_v (i := 0) rfl v_are_bounds_value) (da_cons de_int (da_cons de_int da_nil rfl) rfl) rfl) (alen_cons (alen_cons (alen_cons alen_nil))) (by decide) rfl rfl) (fun _ => rfl))) (pw_or1 (dt_not (dt_val (de_callG ((ok_is_between T).mono (by decide : 2 ≤ 2)) hr hG g_are_bounds_is_between T.g_is_between T.f_is_between.kp (bi_is_between T) tk (da_cons (de_ix rfl (de_v (i := 0) rfl v_are_bounds_value) de_int (fun _ _ => rfl)) (da_cons de_int (da_cons (de_glob (v := (.int (60))) g_are_bounds_MOST_BOUND T.c_MOST_BOUND.choose_spec ⟨_, rfl⟩ (fun _ => .int _)) da_nil rfl) rfl) rfl) (alen_cons (alen_cons (alen_cons alen_nil))) (by decide) rfl rfl) (fun _ => rfl)))))) (ds_cons (ds_ret de_bool) ds_nil) ds_nil) (ds_cons (ds_ret (de_callG ((ok_is_between T).mono (by decide : 2 ≤ 2)) hr hG g_are_bounds_is_between T.g_is_between T.f_is_between.kp (bi_is_between T) tk (da_cons (de_ix rfl (de_v (i := 0) rfl v_are_bounds_value) de_int (fun _ _ => rfl)) (da_cons (de_ix rfl (de_v (i := 0) rfl v_are_bounds_value) de_int (fun _ _ => rfl)) (da_cons (de_glob (v := (.int (60))) g_are_bounds_MOST_BOUND T.c_MOST_BOUND.choose_spec ⟨_, rfl⟩ (fun _ => .int _)) da_nil rfl) rfl) rfl) (alen_cons (alen_cons (alen_cons alen_nil))) (by decide) rfl rfl)) ds_nil))
/-! ### need_bounds -/
abbrev N_need_bounds : List Str := ["bounds", "own"]
theorem sc_need_bounds : FnScope N_need_bounds ["bounds"] (defScope st_need_bounds) := ⟨rfl, rfl, rfl, by decide +kernel, rfl, by decide +kernel, by decide +kernel⟩
theorem v_need_bounds_bounds : Vis (defScope st_need_bounds) ("bounds" : Str) := .inl (by decide +kernel)
theorem o_need_bounds_own : Loc (defScope st_need_bounds) ("own" : Str) := .inl (by decide +kernel)
theorem v_need_bounds_own : Vis (defScope st_need_bounds) ("own" : Str) := .inl (by decide +kernel)
theorem g_need_bounds_are_bounds : ((defScope st_need_bounds)).names.lookup ("are_bounds" : Str) = some .globalImplicit := by decide +kernel
theorem g_need_bounds_anew : ((defScope st_need_bounds)).names.lookup ("anew" : Str) = some .globalImplicit := by decide +kernel
theorem g_need_bounds_InvalidBounds : ((defScope st_need_bounds)).names.lookup ("InvalidBounds" : Str) = some .globalImplicit := by decide +kernel
def m_need_bounds : M Fl := (sCons (sFor (iDat (eVar 0)) (.nm 1) (sCons (sIf (notT (eB (eCall false F_are_bounds (aCons (eVar 1) aNil)))) (sCons (sRaise "InvalidBounds" (eCall false (F_anew 8) (aCons (eVar 1) aNil))) sNil) sNil) sNil)) sNil)
def F_need_bounds : Fsp := runF false 2 m_need_bounds
theorem bi_need_bounds (T : Txt Pg K mg a d) : Binds K d.need_bounds ["bounds"] [] := T.f_need_bounds.binds fun _ _ _ _ _ _ us hl => match us, hl with | [_], _ => rfl
theorem ok_need_bounds (T : Txt Pg K mg a d) : FnOkG Pg wd K mg base (L2.CX Pg wd) 10 a.need_bounds d.need_bounds ["bounds"] (spD ⟨K, mg, Pg, wd⟩ false 1 F_need_bounds) :=
  fn_okG (k := 9) T.f_need_bounds sc_need_bounds fun cdv A outer s H E hr hG tk =>
    (ds_cons (ds_for PassesOwn.leaving rfl (di_dat rfl (de_v (i := 0) rfl v_need_bounds_bounds)) (dg_name (i := 1) sc_need_bounds.nd rfl o_need_bounds_own ((.inl rfl))) (ds_cons (ds_if (dt_not (dt_val (de_callG ((ok_are_bounds T).mono (by decide : 3 ≤ 9)) hr hG g_need_bounds_are_bounds T.g_are_bounds T.f_are_bounds.kp (bi_are_bounds T) tk (da_cons (de_v (i := 1) rfl v_need_bounds_own) da_nil rfl) (alen_cons alen_nil) (by decide) rfl rfl) (fun _ => rfl))) (ds_cons (ds_raise (x := "InvalidBounds") (k := 0) T.le T.lc_InvalidBounds T.k_InvalidBounds T.k_InvalidBounds rfl (hr.mono (by decide : 1 ≤ 9)) tk (de_callG ((ok_anew T 8).mono (by decide : 9 ≤ 9)) hr hG g_need_bounds_anew T.g_anew T.f_anew.kp (bi_anew T) tk (da_cons (de_v (i := 1) rfl v_need_bounds_own) da_nil rfl) (alen_cons alen_nil) (by decide) rfl rfl) g_need_bounds_InvalidBounds (by decide) rfl rfl) ds_nil) ds_nil) ds_nil) (fun _ => rfl)) ds_nil)
/-! ### server_party -/
abbrev N_server_party : List Str := ["steps"]
theorem sc_server_party : FnScope N_server_party [] (defScope st_server_party) := ⟨rfl, rfl, rfl, by decide +kernel, rfl, by decide +kernel, by decide +kernel⟩
theorem g_server_party_tuple : ((defScope st_server_party)).names.lookup ("tuple" : Str) = some .globalImplicit := by decide +kernel
theorem v_server_party_steps : Vis (defScope st_server_party) ("steps" : Str) := .inl (by decide +kernel)
theorem o_server_party_steps : Loc (defScope st_server_party) ("steps" : Str) := .inl (by decide +kernel)
def m_server_party : M Fl := (sCons (sSetX 0 (eLst (aCons (eTup (aCons (eLit (.int (0))) (aCons (eTup (aCons (eLit (.str "timer")) (aCons (eLit (.int (0))) aNil))) (aCons (eLit (.int (1))) (aCons (eTup aNil) (aCons (eTup aNil) (aCons (eLit .none) aNil))))))) (aCons (eTup (aCons (eLit (.int (1))) (aCons (eTup (aCons (eLit (.str "free")) aNil)) (aCons (eLit (.int (2))) (aCons (eTup aNil) (aCons (eTup aNil) (aCons (eLit .none) aNil))))))) (aCons (eTup (aCons (eLit (.int (2))) (aCons (eTup (aCons (eLit (.str "free")) aNil)) (aCons (eLit (.int (3))) (aCons (eTup (aCons (eLit (.int (3))) aNil)) (aCons (eTup aNil) (aCons (eLit .none) aNil))))))) aNil))))) (sCons (sRet (eTup (aCons (eLit (.int (4))) (aCons (eCB tupleF (aCons (eVar 0) aNil)) (aCons (eTup (aCons (eLit (.int (0))) (aCons (eTup (aCons (eLit (.int (0))) aNil)) aNil))) aNil))))) sNil))
def F_server_party : Fsp := runF false 1 m_server_party
theorem bi_server_party (T : Txt Pg K mg a d) : Binds K d.server_party [] [] := T.f_server_party.binds fun _ _ _ _ _ _ us hl => match us, hl with | [], _ => rfl
theorem ok_server_party (T : Txt Pg K mg a d) : FnOkG Pg wd K mg base (L2.CX Pg wd) 1 a.server_party d.server_party [] (spD ⟨K, mg, Pg, wd⟩ false 0 F_server_party) :=
  fn_okG (k := 0) T.f_server_party sc_server_party fun cdv A outer s H E hr hG tk =>
    (ds_cons (ds_setX (i := 0) sc_server_party.nd rfl o_server_party_steps (de_lst (da_cons (de_tup (da_cons de_int (da_cons (de_tup (da_cons de_str (da_cons de_int da_nil rfl) rfl)) (da_cons de_int (da_cons (de_tup da_nil) (da_cons (de_tup da_nil) (da_cons de_none da_nil rfl) rfl) rfl) rfl) rfl) rfl)) (da_cons (de_tup (da_cons de_int (da_cons (de_tup (da_cons de_str da_nil rfl)) (da_cons de_int (da_cons (de_tup da_nil) (da_cons (de_tup da_nil) (da_cons de_none da_nil rfl) rfl) rfl) rfl) rfl) rfl)) (da_cons (de_tup (da_cons de_int (da_cons (de_tup (da_cons de_str da_nil rfl)) (da_cons de_int (da_cons (de_tup (da_cons de_int da_nil rfl)) (da_cons (de_tup da_nil) (da_cons de_none da_nil rfl) rfl) rfl) rfl) rfl) rfl)) da_nil rfl) rfl) rfl)) rfl (.inl rfl)) (ds_cons (ds_ret (de_tup (da_cons de_int (da_cons (de_cty call_tuple_of (cbd_tuple rfl) g_server_party_tuple T.b_tuple (by decide +kernel) (da_cons (de_v (i := 0) rfl v_server_party_steps) da_nil rfl) (by decide) (by decide) rfl rfl) (da_cons (de_tup (da_cons de_int (da_cons (de_tup (da_cons de_int da_nil rfl)) da_nil rfl) rfl)) da_nil rfl) rfl) rfl))) ds_nil))
/-! ### holder_party -/
abbrev N_holder_party : List Str := []
theorem sc_holder_party : FnScope N_holder_party [] (defScope st_holder_party) := ⟨rfl, rfl, rfl, by decide +kernel, rfl, by decide +kernel, by decide +kernel⟩
def m_holder_party : M Fl := (sCons (sRet (eTup (aCons (eLit (.int (3))) (aCons (eTup (aCons (eTup (aCons (eLit (.int (0))) (aCons (eTup (aCons (eLit (.str "free")) aNil)) (aCons (eLit (.int (2))) (aCons (eTup (aCons (eLit (.int (2))) aNil)) (aCons (eTup aNil) (aCons (eLit .none) aNil))))))) (aCons (eTup (aCons (eLit (.int (0))) (aCons (eTup (aCons (eLit (.str "timer")) (aCons (eLit (.int (1))) aNil))) (aCons (eLit (.int (1))) (aCons (eTup aNil) (aCons (eTup aNil) (aCons (eLit .none) aNil))))))) aNil))) (aCons (eTup (aCons (eLit (.int (0))) (aCons (eTup (aCons (eLit (.int (1))) aNil)) aNil))) aNil))))) sNil)
def F_holder_party : Fsp := runF false 0 m_holder_party
theorem bi_holder_party (T : Txt Pg K mg a d) : Binds K d.holder_party [] [] := T.f_holder_party.binds fun _ _ _ _ _ _ us hl => match us, hl with | [], _ => rfl
theorem ok_holder_party (T : Txt Pg K mg a d) : FnOkG Pg wd K mg base (L2.CX Pg wd) 1 a.holder_party d.holder_party [] (spD ⟨K, mg, Pg, wd⟩ false 0 F_holder_party) :=
  fn_okG (k := 0) T.f_holder_party sc_holder_party fun cdv A outer s H E hr hG tk =>
    (ds_cons (ds_ret (de_tup (da_cons de_int (da_cons (de_tup (da_cons (de_tup (da_cons de_int (da_cons (de_tup (da_cons de_str da_nil rfl)) (da_cons de_int (da_cons (de_tup (da_cons de_int da_nil rfl)) (da_cons (de_tup da_nil) (da_cons de_none da_nil rfl) rfl) rfl) rfl) rfl) rfl)) (da_cons (de_tup (da_cons de_int (da_cons (de_tup (da_cons de_str (da_cons de_int da_nil rfl) rfl)) (da_cons de_int (da_cons (de_tup da_nil) (da_cons (de_tup da_nil) (da_cons de_none da_nil rfl) rfl) rfl) rfl) rfl) rfl)) da_nil rfl) rfl)) (da_cons (de_tup (da_cons de_int (da_cons (de_tup (da_cons de_int da_nil rfl)) da_nil rfl) rfl)) da_nil rfl) rfl) rfl))) ds_nil)
/-! ### store_party -/
abbrev N_store_party : List Str := ["fenced", "steps"]
theorem sc_store_party : FnScope N_store_party ["fenced"] (defScope st_store_party) := ⟨rfl, rfl, rfl, by decide +kernel, rfl, by decide +kernel, by decide +kernel⟩
theorem g_store_party_tuple : ((defScope st_store_party)).names.lookup ("tuple" : Str) = some .globalImplicit := by decide +kernel
theorem v_store_party_steps : Vis (defScope st_store_party) ("steps" : Str) := .inl (by decide +kernel)
theorem v_store_party_fenced : Vis (defScope st_store_party) ("fenced" : Str) := .inl (by decide +kernel)
theorem o_store_party_steps : Loc (defScope st_store_party) ("steps" : Str) := .inl (by decide +kernel)
def m_store_party : M Fl := (sCons (sSetN 1 (nLst (aCons (eTup (aCons (eLit (.int (0))) (aCons (eTup (aCons (eLit (.str "timer")) (aCons (eLit (.int (2))) aNil))) (aCons (eLit (.int (1))) (aCons (eTup aNil) (aCons (eTup aNil) (aCons (eLit .none) aNil))))))) (aCons (eTup (aCons (eLit (.int (2))) (aCons (eTup (aCons (eLit (.str "timer")) (aCons (eLit (.int (2))) aNil))) (aCons (ifV (eB (eVar 0)) (eLit (.int (2))) (eLit (.int (3)))) (aCons (eTup aNil) (aCons (eTup aNil) (aCons (eLit .none) aNil))))))) aNil)))) (sCons (sExpr (eExt (eVar 1) (nLst (aCons (eTup (aCons (eLit (.int (0))) (aCons (eTup (aCons (eLit (.str "timer")) (aCons (eLit (.int (3))) aNil))) (aCons (eLit (.int (2))) (aCons (eTup aNil) (aCons (eTup aNil) (aCons (eLit .none) aNil))))))) (aCons (eTup (aCons (eLit (.int (1))) (aCons (eTup (aCons (eLit (.str "timer")) (aCons (eLit (.int (3))) aNil))) (aCons (eLit (.int (2))) (aCons (eTup aNil) (aCons (eTup aNil) (aCons (eLit .none) aNil))))))) aNil))))) (sCons (sRet (eTup (aCons (eLit (.int (4))) (aCons (eCB tupleF (aCons (eVar 1) aNil)) (aCons (eTup (aCons (eLit (.int (0))) (aCons (eTup aNil) aNil))) aNil))))) sNil)))
def F_store_party : Fsp := runF false 2 m_store_party
theorem bi_store_party (T : Txt Pg K mg a d) : Binds K d.store_party ["fenced"] [] := T.f_store_party.binds fun _ _ _ _ _ _ us hl => match us, hl with | [_], _ => rfl
theorem ok_store_party (T : Txt Pg K mg a d) : FnOkG Pg wd K mg base (L2.CX Pg wd) 1 a.store_party d.store_party ["fenced"] (spD ⟨K, mg, Pg, wd⟩ false 1 F_store_party) :=
  fn_okG (k := 0) T.f_store_party sc_store_party fun cdv A outer s H E hr hG tk =>
    (ds_cons (ds_setN (i := 1) sc_store_party.nd rfl o_store_party_steps (dn_lst (da_cons (de_tup (da_cons de_int (da_cons (de_tup (da_cons de_str (da_cons de_int da_nil rfl) rfl)) (da_cons de_int (da_cons (de_tup da_nil) (da_cons (de_tup da_nil) (da_cons de_none da_nil rfl) rfl) rfl) rfl) rfl) rfl)) (da_cons (de_tup (da_cons de_int (da_cons (de_tup (da_cons de_str (da_cons de_int da_nil rfl) rfl)) (da_cons (de_if (dt_val (de_v (i := 0) rfl v_store_party_fenced) (fun _ => rfl)) de_int de_int) (da_cons (de_tup da_nil) (da_cons (de_tup da_nil) (da_cons de_none da_nil rfl) rfl) rfl) rfl) rfl) rfl)) da_nil rfl) rfl)) rfl (.inl rfl)) (ds_cons (ds_expr (de_ext rfl (de_v (i := 1) rfl v_store_party_steps) (dn_lst (da_cons (de_tup (da_cons de_int (da_cons (de_tup (da_cons de_str (da_cons de_int da_nil rfl) rfl)) (da_cons de_int (da_cons (de_tup da_nil) (da_cons (de_tup da_nil) (da_cons de_none da_nil rfl) rfl) rfl) rfl) rfl) rfl)) (da_cons (de_tup (da_cons de_int (da_cons (de_tup (da_cons de_str (da_cons de_int da_nil rfl) rfl)) (da_cons de_int (da_cons (de_tup da_nil) (da_cons (de_tup da_nil) (da_cons de_none da_nil rfl) rfl) rfl) rfl) rfl) rfl)) da_nil rfl) rfl)) rfl rfl rfl rfl rfl) rfl) (ds_cons (ds_ret (de_tup (da_cons de_int (da_cons (de_cty call_tuple_of (cbd_tuple rfl) g_store_party_tuple T.b_tuple (by decide +kernel) (da_cons (de_v (i := 1) rfl v_store_party_steps) da_nil rfl) (by decide) (by decide) rfl rfl) (da_cons (de_tup (da_cons de_int (da_cons (de_tup da_nil) da_nil rfl) rfl)) da_nil rfl) rfl) rfl))) ds_nil)))
/-! ### team_by -/
abbrev N_team_by : List Str := ["server", "use", "write", "fenced"]
theorem sc_team_by : FnScope N_team_by ["server", "use", "write", "fenced"] (defScope st_team_by) := ⟨rfl, rfl, rfl, by decide +kernel, rfl, by decide +kernel, by decide +kernel⟩
theorem v_team_by_fenced : Vis (defScope st_team_by) ("fenced" : Str) := .inl (by decide +kernel)
theorem g_team_by_store_party : ((defScope st_team_by)).names.lookup ("store_party" : Str) = some .globalImplicit := by decide +kernel
theorem g_team_by_holder_party : ((defScope st_team_by)).names.lookup ("holder_party" : Str) = some .globalImplicit := by decide +kernel
theorem g_team_by_server_party : ((defScope st_team_by)).names.lookup ("server_party" : Str) = some .globalImplicit := by decide +kernel
theorem v_team_by_write : Vis (defScope st_team_by) ("write" : Str) := .inl (by decide +kernel)
theorem v_team_by_use : Vis (defScope st_team_by) ("use" : Str) := .inl (by decide +kernel)
theorem v_team_by_server : Vis (defScope st_team_by) ("server" : Str) := .inl (by decide +kernel)
def m_team_by : M Fl := (sCons (sRet (eTup (aCons (eTup (aCons (eVar 0) (aCons (eVar 1) (aCons (eVar 2) (aCons (eVar 2) aNil))))) (aCons (eTup (aCons (eCall false F_server_party aNil) (aCons (eCall false F_holder_party aNil) (aCons (eCall false F_store_party (aCons (eVar 3) aNil)) aNil)))) aNil)))) sNil)
def F_team_by : Fsp := runF false 4 m_team_by
theorem bi_team_by (T : Txt Pg K mg a d) : Binds K d.team_by ["server", "use", "write", "fenced"] [] := T.f_team_by.binds fun _ _ _ _ _ _ us hl => match us, hl with | [_, _, _, _], _ => rfl
theorem ok_team_by (T : Txt Pg K mg a d) : FnOkG Pg wd K mg base (L2.CX Pg wd) 2 a.team_by d.team_by ["server", "use", "write", "fenced"] (spD ⟨K, mg, Pg, wd⟩ false 4 F_team_by) :=
  fn_okG (k := 1) T.f_team_by sc_team_by fun cdv A outer s H E hr hG tk =>
    (ds_cons (ds_ret (de_tup (da_cons (de_tup (da_cons (de_v (i := 0) rfl v_team_by_server) (da_cons (de_v (i := 1) rfl v_team_by_use) (da_cons (de_v (i := 2) rfl v_team_by_write) (da_cons (de_v (i := 2) rfl v_team_by_write) da_nil rfl) rfl) rfl) rfl)) (da_cons (de_tup (da_cons (de_callG0 ((ok_server_party T).mono (by decide : 1 ≤ 1)) hr hG g_team_by_server_party T.g_server_party T.f_server_party.kp (bi_server_party T) tk alen_nil (by decide)) (da_cons (de_callG0 ((ok_holder_party T).mono (by decide : 1 ≤ 1)) hr hG g_team_by_holder_party T.g_holder_party T.f_holder_party.kp (bi_holder_party T) tk alen_nil (by decide)) (da_cons (de_callG ((ok_store_party T).mono (by decide : 1 ≤ 1)) hr hG g_team_by_store_party T.g_store_party T.f_store_party.kp (bi_store_party T) tk (da_cons (de_v (i := 3) rfl v_team_by_fenced) da_nil rfl) (alen_cons alen_nil) (by decide) rfl rfl) da_nil rfl) rfl) rfl)) da_nil rfl) rfl))) ds_nil)
/-! ### fence_team -/
abbrev N_fence_team : List Str := ["server", "use", "write", "fenced"]
theorem sc_fence_team : FnScope N_fence_team ["server", "use", "write", "fenced"] (defScope st_fence_team) := ⟨rfl, rfl, rfl, by decide +kernel, rfl, by decide +kernel, by decide +kernel⟩
theorem v_fence_team_fenced : Vis (defScope st_fence_team) ("fenced" : Str) := .inl (by decide +kernel)
theorem v_fence_team_write : Vis (defScope st_fence_team) ("write" : Str) := .inl (by decide +kernel)
theorem v_fence_team_use : Vis (defScope st_fence_team) ("use" : Str) := .inl (by decide +kernel)
theorem v_fence_team_server : Vis (defScope st_fence_team) ("server" : Str) := .inl (by decide +kernel)
theorem g_fence_team_team_by : ((defScope st_fence_team)).names.lookup ("team_by" : Str) = some .globalImplicit := by decide +kernel
theorem g_fence_team_need_bounds : ((defScope st_fence_team)).names.lookup ("need_bounds" : Str) = some .globalImplicit := by decide +kernel
def m_fence_team : M Fl := (sCons (sExpr (eCall false F_need_bounds (aCons (eTup (aCons (eVar 0) (aCons (eVar 1) (aCons (eVar 2) aNil)))) aNil))) (sCons (sRet (eCall false F_team_by (aCons (eVar 0) (aCons (eVar 1) (aCons (eVar 2) (aCons (eVar 3) aNil)))))) sNil))
def F_fence_team : Fsp := runF false 4 m_fence_team
theorem bi_fence_team (T : Txt Pg K mg a d) : Binds K d.fence_team ["server", "use", "write", "fenced"] [] := T.f_fence_team.binds fun _ _ _ _ _ _ us hl => match us, hl with | [_, _, _, _], _ => rfl
theorem ok_fence_team (T : Txt Pg K mg a d) : FnOkG Pg wd K mg base (L2.CX Pg wd) 11 a.fence_team d.fence_team ["server", "use", "write", "fenced"] (spD ⟨K, mg, Pg, wd⟩ false 4 F_fence_team) :=
  fn_okG (k := 10) T.f_fence_team sc_fence_team fun cdv A outer s H E hr hG tk =>
    (ds_cons (ds_expr (de_callG ((ok_need_bounds T).mono (by decide : 10 ≤ 10)) hr hG g_fence_team_need_bounds T.g_need_bounds T.f_need_bounds.kp (bi_need_bounds T) tk (da_cons (de_tup (da_cons (de_v (i := 0) rfl v_fence_team_server) (da_cons (de_v (i := 1) rfl v_fence_team_use) (da_cons (de_v (i := 2) rfl v_fence_team_write) da_nil rfl) rfl) rfl)) da_nil rfl) (alen_cons alen_nil) (by decide) rfl rfl) rfl) (ds_cons (ds_ret (de_callG ((ok_team_by T).mono (by decide : 2 ≤ 10)) hr hG g_fence_team_team_by T.g_team_by T.f_team_by.kp (bi_team_by T) tk (da_cons (de_v (i := 0) rfl v_fence_team_server) (da_cons (de_v (i := 1) rfl v_fence_team_use) (da_cons (de_v (i := 2) rfl v_fence_team_write) (da_cons (de_v (i := 3) rfl v_fence_team_fenced) da_nil rfl) rfl) rfl) rfl) (alen_cons (alen_cons (alen_cons (alen_cons alen_nil)))) (by decide) rfl rfl)) ds_nil))
/-! ### fence_goals -/
abbrev N_fence_goals : List Str := ["server", "use", "write", "fenced"]
theorem sc_fence_goals : FnScope N_fence_goals ["server", "use", "write", "fenced"] (defScope st_fence_goals) := ⟨rfl, rfl, rfl, by decide +kernel, rfl, by decide +kernel, by decide +kernel⟩
theorem v_fence_goals_fenced : Vis (defScope st_fence_goals) ("fenced" : Str) := .inl (by decide +kernel)
theorem v_fence_goals_write : Vis (defScope st_fence_goals) ("write" : Str) := .inl (by decide +kernel)
theorem v_fence_goals_use : Vis (defScope st_fence_goals) ("use" : Str) := .inl (by decide +kernel)
theorem v_fence_goals_server : Vis (defScope st_fence_goals) ("server" : Str) := .inl (by decide +kernel)
theorem g_fence_goals_team_by : ((defScope st_fence_goals)).names.lookup ("team_by" : Str) = some .globalImplicit := by decide +kernel
theorem g_fence_goals_goals_by : ((defScope st_fence_goals)).names.lookup ("goals_by" : Str) = some .globalImplicit := by decide +kernel
theorem g_fence_goals_need_bounds : ((defScope st_fence_goals)).names.lookup ("need_bounds" : Str) = some .globalImplicit := by decide +kernel
def m_fence_goals : M Fl := (sCons (sExpr (eCall false F_need_bounds (aCons (eTup (aCons (eVar 0) (aCons (eVar 1) (aCons (eVar 2) aNil)))) aNil))) (sCons (sRet (eCall false F_goals_by (aCons (eCall false F_team_by (aCons (eVar 0) (aCons (eVar 1) (aCons (eVar 2) (aCons (eVar 3) aNil))))) (aCons (eTup (aCons (eLit .none) (aCons (eLit .none) (aCons (eTup (aCons (eLit (.int (3))) aNil)) aNil)))) aNil)))) sNil))
def F_fence_goals : Fsp := runF false 4 m_fence_goals
theorem bi_fence_goals (T : Txt Pg K mg a d) : Binds K d.fence_goals ["server", "use", "write", "fenced"] [] := T.f_fence_goals.binds fun _ _ _ _ _ _ us hl => match us, hl with | [_, _, _, _], _ => rfl
theorem ok_fence_goals (T : Txt Pg K mg a d) : FnOkG Pg wd K mg base (L2.CX Pg wd) 11 a.fence_goals d.fence_goals ["server", "use", "write", "fenced"] (spD ⟨K, mg, Pg, wd⟩ false 4 F_fence_goals) :=
  fn_okG (k := 10) T.f_fence_goals sc_fence_goals fun cdv A outer s H E hr hG tk =>
    (ds_cons (ds_expr (de_callG ((ok_need_bounds T).mono (by decide : 10 ≤ 10)) hr hG g_fence_goals_need_bounds T.g_need_bounds T.f_need_bounds.kp (bi_need_bounds T) tk (da_cons (de_tup (da_cons (de_v (i := 0) rfl v_fence_goals_server) (da_cons (de_v (i := 1) rfl v_fence_goals_use) (da_cons (de_v (i := 2) rfl v_fence_goals_write) da_nil rfl) rfl) rfl)) da_nil rfl) (alen_cons alen_nil) (by decide) rfl rfl) rfl) (ds_cons (ds_ret (de_callG ((ok_goals_by T).mono (by decide : 2 ≤ 10)) hr hG g_fence_goals_goals_by T.g_goals_by T.f_goals_by.kp (bi_goals_by T) tk (da_cons (de_callG ((ok_team_by T).mono (by decide : 2 ≤ 10)) hr hG g_fence_goals_team_by T.g_team_by T.f_team_by.kp (bi_team_by T) tk (da_cons (de_v (i := 0) rfl v_fence_goals_server) (da_cons (de_v (i := 1) rfl v_fence_goals_use) (da_cons (de_v (i := 2) rfl v_fence_goals_write) (da_cons (de_v (i := 3) rfl v_fence_goals_fenced) da_nil rfl) rfl) rfl) rfl) (alen_cons (alen_cons (alen_cons (alen_cons alen_nil)))) (by decide) rfl rfl) (da_cons (de_tup (da_cons de_none (da_cons de_none (da_cons (de_tup (da_cons de_int da_nil rfl)) da_nil rfl) rfl) rfl)) da_nil rfl) rfl) (alen_cons (alen_cons alen_nil)) (by decide) rfl rfl)) ds_nil))
/-! ### fence_is_safe -/
abbrev N_fence_is_safe : List Str := ["server", "use", "write", "fenced"]
theorem sc_fence_is_safe : FnScope N_fence_is_safe ["server", "use", "write", "fenced"] (defScope st_fence_is_safe) := ⟨rfl, rfl, rfl, by decide +kernel, rfl, by decide +kernel, by decide +kernel⟩
theorem v_fence_is_safe_fenced : Vis (defScope st_fence_is_safe) ("fenced" : Str) := .inl (by decide +kernel)
theorem v_fence_is_safe_use : Vis (defScope st_fence_is_safe) ("use" : Str) := .inl (by decide +kernel)
theorem v_fence_is_safe_write : Vis (defScope st_fence_is_safe) ("write" : Str) := .inl (by decide +kernel)
theorem v_fence_is_safe_server : Vis (defScope st_fence_is_safe) ("server" : Str) := .inl (by decide +kernel)
theorem g_fence_is_safe_need_bounds : ((defScope st_fence_is_safe)).names.lookup ("need_bounds" : Str) = some .globalImplicit := by decide +kernel
def m_fence_is_safe : M Fl := (sCons (sExpr (eCall false F_need_bounds (aCons (eTup (aCons (eVar 0) (aCons (eVar 1) (aCons (eVar 2) aNil)))) aNil))) (sCons (sRet (orV (eVar 3) (eOp2 ltD (eOp2 addD (eOp2 ixD (eVar 1) (eLit (.int (1)))) (eOp2 ixD (eVar 2) (eLit (.int (1))))) (eOp2 addD (eOp2 ixD (eVar 0) (eLit (.int (0)))) (eOp2 ixD (eVar 2) (eLit (.int (0)))))))) sNil))
def F_fence_is_safe : Fsp := runF false 4 m_fence_is_safe
theorem bi_fence_is_safe (T : Txt Pg K mg a d) : Binds K d.fence_is_safe ["server", "use", "write", "fenced"] [] := T.f_fence_is_safe.binds fun _ _ _ _ _ _ us hl => match us, hl with | [_, _, _, _], _ => rfl
theorem ok_fence_is_safe (T : Txt Pg K mg a d) : FnOkG Pg wd K mg base (L2.CX Pg wd) 11 a.fence_is_safe d.fence_is_safe ["server", "use", "write", "fenced"] (spD ⟨K, mg, Pg, wd⟩ false 4 F_fence_is_safe) :=
  fn_okG (k := 10) T.f_fence_is_safe sc_fence_is_safe fun cdv A outer s H E hr hG tk =>
    (ds_cons (ds_expr (de_callG ((ok_need_bounds T).mono (by decide : 10 ≤ 10)) hr hG g_fence_is_safe_need_bounds T.g_need_bounds T.f_need_bounds.kp (bi_need_bounds T) tk (da_cons (de_tup (da_cons (de_v (i := 0) rfl v_fence_is_safe_server) (da_cons (de_v (i := 1) rfl v_fence_is_safe_use) (da_cons (de_v (i := 2) rfl v_fence_is_safe_write) da_nil rfl) rfl) rfl)) da_nil rfl) (alen_cons alen_nil) (by decide) rfl rfl) rfl) (ds_cons (ds_ret (de_or (de_v (i := 3) rfl v_fence_is_safe_fenced) (pe_one (de_cmp op_lt opd_lt (de_bin op_addA (opd_add rfl) (de_ix rfl (de_v (i := 1) rfl v_fence_is_safe_use) de_int (fun _ _ => rfl)) (de_ix rfl (de_v (i := 2) rfl v_fence_is_safe_write) de_int (fun _ _ => rfl))) (de_bin op_addA (opd_add rfl) (de_ix rfl (de_v (i := 0) rfl v_fence_is_safe_server) de_int (fun _ _ => rfl)) (de_ix rfl (de_v (i := 2) rfl v_fence_is_safe_write) de_int (fun _ _ => rfl))) rfl)))) ds_nil))
/-! ### greatest_use -/
abbrev N_greatest_use : List Str := ["server", "write", "found"]
theorem sc_greatest_use : FnScope N_greatest_use ["server", "write"] (defScope st_greatest_use) := ⟨rfl, rfl, rfl, by decide +kernel, rfl, by decide +kernel, by decide +kernel⟩
theorem v_greatest_use_found : Vis (defScope st_greatest_use) ("found" : Str) := .inl (by decide +kernel)
theorem g_greatest_use_min : ((defScope st_greatest_use)).names.lookup ("min" : Str) = some .globalImplicit := by decide +kernel
theorem v_greatest_use_server : Vis (defScope st_greatest_use) ("server" : Str) := .inl (by decide +kernel)
theorem v_greatest_use_write : Vis (defScope st_greatest_use) ("write" : Str) := .inl (by decide +kernel)
theorem g_greatest_use_MOST_BOUND : ((defScope st_greatest_use)).names.lookup ("MOST_BOUND" : Str) = some .globalImplicit := by decide +kernel
theorem o_greatest_use_found : Loc (defScope st_greatest_use) ("found" : Str) := .inl (by decide +kernel)
theorem g_greatest_use_need_bounds : ((defScope st_greatest_use)).names.lookup ("need_bounds" : Str) = some .globalImplicit := by decide +kernel
def m_greatest_use : M Fl := (sCons (sExpr (eCall false F_need_bounds (aCons (eTup (aCons (eVar 0) (aCons (eVar 1) aNil))) aNil))) (sCons (sSetX 2 (eCB minF (aCons (eLit (.int (60))) (aCons (eOp2 subD (eOp2 subD (eOp2 addD (eOp2 ixD (eVar 0) (eLit (.int (0)))) (eOp2 ixD (eVar 1) (eLit (.int (0))))) (eOp2 ixD (eVar 1) (eLit (.int (1))))) (eLit (.int (1)))) aNil)))) (sCons (sRet (ifV (eB (eOp2 geD (eVar 2) (eLit (.int (0))))) (eVar 2) (eLit .none))) sNil)))
def F_greatest_use : Fsp := runF false 3 m_greatest_use
theorem bi_greatest_use (T : Txt Pg K mg a d) : Binds K d.greatest_use ["server", "write"] [] := T.f_greatest_use.binds fun _ _ _ _ _ _ us hl => match us, hl with | [_, _], _ => rfl
theorem ok_greatest_use (T : Txt Pg K mg a d) : FnOkG Pg wd K mg base (L2.CX Pg wd) 11 a.greatest_use d.greatest_use ["server", "write"] (spD ⟨K, mg, Pg, wd⟩ false 2 F_greatest_use) :=
  fn_okG (k := 10) T.f_greatest_use sc_greatest_use fun cdv A outer s H E hr hG tk =>
    (ds_cons (ds_expr (de_callG ((ok_need_bounds T).mono (by decide : 10 ≤ 10)) hr hG g_greatest_use_need_bounds T.g_need_bounds T.f_need_bounds.kp (bi_need_bounds T) tk (da_cons (de_tup (da_cons (de_v (i := 0) rfl v_greatest_use_server) (da_cons (de_v (i := 1) rfl v_greatest_use_write) da_nil rfl) rfl)) da_nil rfl) (alen_cons alen_nil) (by decide) rfl rfl) rfl) (ds_cons (ds_setX (i := 2) sc_greatest_use.nd rfl o_greatest_use_found (de_cb (call_min2 rfl) cbd_min g_greatest_use_min T.b_min (by decide +kernel) (da_cons (de_glob (v := (.int (60))) g_greatest_use_MOST_BOUND T.c_MOST_BOUND.choose_spec ⟨_, rfl⟩ (fun _ => .int _)) (da_cons (de_bin op_sub opd_sub (de_bin op_sub opd_sub (de_bin op_addA (opd_add rfl) (de_ix rfl (de_v (i := 0) rfl v_greatest_use_server) de_int (fun _ _ => rfl)) (de_ix rfl (de_v (i := 1) rfl v_greatest_use_write) de_int (fun _ _ => rfl))) (de_ix rfl (de_v (i := 1) rfl v_greatest_use_write) de_int (fun _ _ => rfl))) de_int) da_nil rfl) rfl) (by decide) (by decide) rfl rfl) rfl (.inl rfl)) (ds_cons (ds_ret (de_if (dt_cmp op_ge opd_ge (de_v (i := 2) rfl v_greatest_use_found) de_int rfl) (de_v (i := 2) rfl v_greatest_use_found) de_none)) ds_nil)))
/-! ### _law_pool -/
abbrev N__law_pool : List Str := ["script", "many", "pool", "seed", "cell", "left", "k"]
theorem sc__law_pool : FnScope N__law_pool ["script", "many"] (defScope st__law_pool) := ⟨rfl, rfl, rfl, by decide +kernel, rfl, by decide +kernel, by decide +kernel⟩
theorem v__law_pool_pool : Vis (defScope st__law_pool) ("pool" : Str) := .inl (by decide +kernel)
theorem v__law_pool_many : Vis (defScope st__law_pool) ("many" : Str) := .inl (by decide +kernel)
theorem g__law_pool_range : ((defScope st__law_pool)).names.lookup ("range" : Str) = some .globalImplicit := by decide +kernel
theorem o__law_pool_k : Loc (defScope st__law_pool) ("k" : Str) := .inl (by decide +kernel)
theorem g__law_pool_int : ((defScope st__law_pool)).names.lookup ("int" : Str) = some .globalImplicit := by decide +kernel
theorem v__law_pool_seed : Vis (defScope st__law_pool) ("seed" : Str) := .inl (by decide +kernel)
theorem v__law_pool_k : Vis (defScope st__law_pool) ("k" : Str) := .inl (by decide +kernel)
theorem o__law_pool_seed : Loc (defScope st__law_pool) ("seed" : Str) := .inl (by decide +kernel)
theorem v__law_pool_script : Vis (defScope st__law_pool) ("script" : Str) := .inl (by decide +kernel)
theorem o__law_pool_cell : Loc (defScope st__law_pool) ("cell" : Str) := .inl (by decide +kernel)
theorem v__law_pool_left : Vis (defScope st__law_pool) ("left" : Str) := .inl (by decide +kernel)
theorem o__law_pool_left : Loc (defScope st__law_pool) ("left" : Str) := .inl (by decide +kernel)
theorem g__law_pool_len : ((defScope st__law_pool)).names.lookup ("len" : Str) = some .globalImplicit := by decide +kernel
theorem v__law_pool_cell : Vis (defScope st__law_pool) ("cell" : Str) := .inl (by decide +kernel)
theorem g__law_pool_abs : ((defScope st__law_pool)).names.lookup ("abs" : Str) = some .globalImplicit := by decide +kernel
theorem o__law_pool_pool : Loc (defScope st__law_pool) ("pool" : Str) := .inl (by decide +kernel)
def m__law_pool : M Fl := (sCons (sSetN 2 (nLst aNil)) (sCons (sSetX 3 (eLit (.int (35767)))) (sCons (sFor (iDat (eSl (eVar 0) (mPart none) (mPart (some (eLit (.int (63))))))) (.nm 4) (sCons (sSetX 5 (eCB absF (aCons (eCB intF (aCons (eVar 4) aNil)) aNil))) (sCons (sSetX 3 (eOp2 modD (eOp2 addD (eOp2 addD (eOp2 addD (eOp2 mulX (eVar 3) (eLit (.int (48271)))) (eOp2 modD (eCB intF (aCons (eVar 5) aNil)) (eLit (.int (2147483629))))) (eOp2 mulX (eLit (.int (7))) (eCB lenF (aCons (eVar 2) aNil)))) (eCB intF (aCons (eOp2 ltD (eVar 4) (eLit (.int (0)))) aNil))) (eLit (.int (2147483647))))) (sCons (sIf (eB (eOp2 geD (eVar 5) (eOp2 powD (eLit (.int (10))) (eLit (.int (18)))))) (sCons (sFor (iRng (aCons (eLit (.int (60))) aNil)) (.nm 6) (sCons (sIf (eB (eOp2 gtD (eVar 5) (eLit (.int (0))))) (sCons (sExpr (eAp (eVar 2) (eOp2 modD (eCB intF (aCons (eVar 5) aNil)) (eLit (.int (1000)))))) (sCons (sSetX 5 (eOp2 fdivD (eVar 5) (eLit (.int (1000))))) sNil)) sNil) sNil)) sNil) sNil) sNil)))) (sCons (sFor (iRng (aCons (eVar 1) aNil)) (.nm 6) (sCons (sSetX 3 (eOp2 modD (eOp2 addD (eOp2 addD (eOp2 mulX (eVar 3) (eLit (.int (69621)))) (eLit (.int (12347)))) (eVar 6)) (eLit (.int (2147483647))))) (sCons (sExpr (eAp (eVar 2) (eOp2 modD (eOp2 fdivD (eOp2 modD (eCB intF (aCons (eOp2 mulX (eVar 3) (eOp2 addD (eOp2 addD (eVar 3) (eOp2 mulX (eLit (.int (2))) (eVar 6))) (eLit (.int (1))))) aNil)) (eLit (.int (2147483629)))) (eLit (.int (1009)))) (eLit (.int (1000)))))) sNil))) (sCons (sRetN (nOp1 revLF (eVar 2))) sNil)))))
def F__law_pool : Fsp := runF false 7 m__law_pool
theorem bi__law_pool (T : Txt Pg K mg a d) : Binds K d._law_pool ["script", "many"] [] := T.f__law_pool.binds fun _ _ _ _ _ _ us hl => match us, hl with | [_, _], _ => rfl
theorem ok__law_pool (T : Txt Pg K mg a d) : FnOkG Pg wd K mg base (L2.CX Pg wd) 1 a._law_pool d._law_pool ["script", "many"] (spD ⟨K, mg, Pg, wd⟩ false 2 F__law_pool) :=
  fn_okG (k := 0) T.f__law_pool sc__law_pool fun cdv A outer s H E hr hG tk =>
    (ds_cons (ds_setN (i := 2) sc__law_pool.nd rfl o__law_pool_pool (dn_lst da_nil) rfl (.inl rfl)) (ds_cons (ds_setX (i := 3) sc__law_pool.nd rfl o__law_pool_seed de_int rfl (.inl rfl)) (ds_cons (ds_for PassesOwn.leaving rfl (di_dat rfl (de_sl rfl (de_v (i := 0) rfl v__law_pool_script) dp_none (dp_some de_int))) (dg_name (i := 4) sc__law_pool.nd rfl o__law_pool_cell ((.inl rfl))) (ds_cons (ds_setX (i := 5) sc__law_pool.nd rfl o__law_pool_left (de_cb call_abs cbd_abs g__law_pool_abs T.b_abs (by decide +kernel) (da_cons (de_cty call_int1 cbd_int g__law_pool_int T.b_int (by decide +kernel) (da_cons (de_v (i := 4) rfl v__law_pool_cell) da_nil rfl) (by decide) (by decide) rfl rfl) da_nil rfl) (by decide) (by decide) rfl rfl) rfl (.inl rfl)) (ds_cons (ds_setX (i := 3) sc__law_pool.nd rfl o__law_pool_seed (de_bin op_mod opd_mod (de_bin op_addA (opd_add rfl) (de_bin op_addA (opd_add rfl) (de_bin op_addA (opd_add rfl) (de_bin op_mulA (opd_mulA rfl) (de_v (i := 3) rfl v__law_pool_seed) de_int) (de_bin op_mod opd_mod (de_cty call_int1 cbd_int g__law_pool_int T.b_int (by decide +kernel) (da_cons (de_v (i := 5) rfl v__law_pool_left) da_nil rfl) (by decide) (by decide) rfl rfl) de_int)) (de_bin op_mulA (opd_mulA rfl) de_int (de_cb call_len_seq (cbd_len rfl) g__law_pool_len T.b_len (by decide +kernel) (da_cons (de_v (i := 2) rfl v__law_pool_pool) da_nil rfl) (by decide) (by decide) rfl rfl))) (de_cty call_int1 cbd_int g__law_pool_int T.b_int (by decide +kernel) (da_cons (de_cmp op_lt opd_lt (de_v (i := 4) rfl v__law_pool_cell) de_int rfl) da_nil rfl) (by decide) (by decide) rfl rfl)) de_int) rfl (.inl rfl)) (ds_cons (ds_if (dt_cmp op_ge opd_ge (de_v (i := 5) rfl v__law_pool_left) (de_bin op_pow opd_pow de_int de_int) rfl) (ds_cons (ds_for PassesOwn.leaving rfl (di_rng1 (alen_cons alen_nil) g__law_pool_range T.b_range (da_cons de_int da_nil rfl) rfl) (dg_name (i := 6) sc__law_pool.nd rfl o__law_pool_k ((.inl rfl))) (ds_cons (ds_if (dt_cmp op_gt opd_gt (de_v (i := 5) rfl v__law_pool_left) de_int rfl) (ds_cons (ds_expr (de_app rfl (de_v (i := 2) rfl v__law_pool_pool) (de_bin op_mod opd_mod (de_cty call_int1 cbd_int g__law_pool_int T.b_int (by decide +kernel) (da_cons (de_v (i := 5) rfl v__law_pool_left) da_nil rfl) (by decide) (by decide) rfl rfl) de_int) rfl rfl rfl rfl rfl) rfl) (ds_cons (ds_setX (i := 5) sc__law_pool.nd rfl o__law_pool_left (de_bin op_fdivW opd_fdiv (de_v (i := 5) rfl v__law_pool_left) de_int) rfl (.inl rfl)) ds_nil)) ds_nil) ds_nil) (fun _ => rfl)) ds_nil) ds_nil) ds_nil))) (fun _ => rfl)) (ds_cons (ds_for PassesOwn.leaving rfl (di_rng1 (alen_cons alen_nil) g__law_pool_range T.b_range (da_cons (de_v (i := 1) rfl v__law_pool_many) da_nil rfl) rfl) (dg_name (i := 6) sc__law_pool.nd rfl o__law_pool_k ((.inl rfl))) (ds_cons (ds_setX (i := 3) sc__law_pool.nd rfl o__law_pool_seed (de_bin op_mod opd_mod (de_bin op_addA (opd_add rfl) (de_bin op_addA (opd_add rfl) (de_bin op_mulA (opd_mulA rfl) (de_v (i := 3) rfl v__law_pool_seed) de_int) de_int) (de_v (i := 6) rfl v__law_pool_k)) de_int) rfl (.inl rfl)) (ds_cons (ds_expr (de_app rfl (de_v (i := 2) rfl v__law_pool_pool) (de_bin op_mod opd_mod (de_bin op_fdivW opd_fdiv (de_bin op_mod opd_mod (de_cty call_int1 cbd_int g__law_pool_int T.b_int (by decide +kernel) (da_cons (de_bin op_mulA (opd_mulA rfl) (de_v (i := 3) rfl v__law_pool_seed) (de_bin op_addA (opd_add rfl) (de_bin op_addA (opd_add rfl) (de_v (i := 3) rfl v__law_pool_seed) (de_bin op_mulA (opd_mulA rfl) de_int (de_v (i := 6) rfl v__law_pool_k))) de_int)) da_nil rfl) (by decide) (by decide) rfl rfl) de_int) de_int) de_int) rfl rfl rfl rfl rfl) rfl) ds_nil)) (fun _ => rfl)) (ds_cons (ds_retN (dn_rev rfl (de_v (i := 2) rfl v__law_pool_pool))) ds_nil)))))
/-! ### _law_take -/
abbrev N__law_take : List Str := ["pool", "limit"]
theorem sc__law_take : FnScope N__law_take ["pool", "limit"] (defScope st__law_take) := ⟨rfl, rfl, rfl, by decide +kernel, rfl, by decide +kernel, by decide +kernel⟩
theorem g__law_take_int : ((defScope st__law_take)).names.lookup ("int" : Str) = some .globalImplicit := by decide +kernel
theorem v__law_take_pool : Vis (defScope st__law_take) ("pool" : Str) := .inl (by decide +kernel)
theorem v__law_take_limit : Vis (defScope st__law_take) ("limit" : Str) := .inl (by decide +kernel)
def m__law_take : M Fl := (sCons (sIf (eB (eOp2 eqX (eVar 0) (eLst aNil))) (sCons (sRet (eLit (.int (0)))) sNil) sNil) (sCons (sRet (eOp2 modD (eCB intF (aCons (ePop (eVar 0)) aNil)) (eVar 1))) sNil))
def F__law_take : Fsp := runF true 2 m__law_take
theorem bi__law_take (T : Txt Pg K mg a d) : Binds K d._law_take ["pool", "limit"] [] := T.f__law_take.binds fun _ _ _ _ _ _ us hl => match us, hl with | [_, _], _ => rfl
theorem ok__law_take (T : Txt Pg K mg a d) : FnOkG Pg wd K mg base (L2.CX Pg wd) 1 a._law_take d._law_take ["pool", "limit"] (spD ⟨K, mg, Pg, wd⟩ true 2 F__law_take) :=
  fn_okG (k := 0) T.f__law_take sc__law_take fun cdv A outer s H E hr hG tk =>
    (ds_cons (ds_if (dt_cmp (op_eq.or (op_eqD (room_u64 hr))) (opd_eqX rfl) (de_v (i := 0) rfl v__law_take_pool) (de_lst da_nil) rfl) (ds_cons (ds_ret de_int) ds_nil) ds_nil) (ds_cons (ds_ret (de_bin op_mod opd_mod (de_cty call_int1 cbd_int g__law_take_int T.b_int (by decide +kernel) (da_cons (de_pop rfl (de_v (i := 0) rfl v__law_take_pool) rfl rfl) da_nil rfl) (by decide) (by decide) rfl rfl) (de_v (i := 1) rfl v__law_take_limit))) ds_nil))
/-! ### _law_pair -/
abbrev N__law_pair : List Str := ["pool", "most", "low"]
theorem sc__law_pair : FnScope N__law_pair ["pool", "most"] (defScope st__law_pair) := ⟨rfl, rfl, rfl, by decide +kernel, rfl, by decide +kernel, by decide +kernel⟩
theorem v__law_pair_low : Vis (defScope st__law_pair) ("low" : Str) := .inl (by decide +kernel)
theorem v__law_pair_most : Vis (defScope st__law_pair) ("most" : Str) := .inl (by decide +kernel)
theorem v__law_pair_pool : Vis (defScope st__law_pair) ("pool" : Str) := .inl (by decide +kernel)
theorem g__law_pair__law_take : ((defScope st__law_pair)).names.lookup ("_law_take" : Str) = some .globalImplicit := by decide +kernel
theorem o__law_pair_low : Loc (defScope st__law_pair) ("low" : Str) := .inl (by decide +kernel)
def m__law_pair : M Fl := (sCons (sSetX 2 (eCall true F__law_take (aCons (eVar 0) (aCons (eOp2 addD (eVar 1) (eLit (.int (1)))) aNil)))) (sCons (sRet (eTup (aCons (eVar 2) (aCons (eOp2 addD (eVar 2) (eCall true F__law_take (aCons (eVar 0) (aCons (eOp2 addD (eOp2 subD (eVar 1) (eVar 2)) (eLit (.int (1)))) aNil)))) aNil)))) sNil))
def F__law_pair : Fsp := runF true 3 m__law_pair
theorem bi__law_pair (T : Txt Pg K mg a d) : Binds K d._law_pair ["pool", "most"] [] := T.f__law_pair.binds fun _ _ _ _ _ _ us hl => match us, hl with | [_, _], _ => rfl
theorem ok__law_pair (T : Txt Pg K mg a d) : FnOkG Pg wd K mg base (L2.CX Pg wd) 2 a._law_pair d._law_pair ["pool", "most"] (spD ⟨K, mg, Pg, wd⟩ true 2 F__law_pair) :=
  fn_okG (k := 1) T.f__law_pair sc__law_pair fun cdv A outer s H E hr hG tk =>
    (ds_cons (ds_setX (i := 2) sc__law_pair.nd rfl o__law_pair_low (de_callG ((ok__law_take T).mono (by decide : 1 ≤ 1)) hr hG g__law_pair__law_take T.g__law_take T.f__law_take.kp (bi__law_take T) tk (da_cons (de_v (i := 0) rfl v__law_pair_pool) (da_cons (de_bin op_addA (opd_add rfl) (de_v (i := 1) rfl v__law_pair_most) de_int) da_nil rfl) rfl) (alen_cons (alen_cons alen_nil)) (by decide) rfl rfl) rfl (.inl rfl)) (ds_cons (ds_ret (de_tup (da_cons (de_v (i := 2) rfl v__law_pair_low) (da_cons (de_bin op_addA (opd_add rfl) (de_v (i := 2) rfl v__law_pair_low) (de_callG ((ok__law_take T).mono (by decide : 1 ≤ 1)) hr hG g__law_pair__law_take T.g__law_take T.f__law_take.kp (bi__law_take T) tk (da_cons (de_v (i := 0) rfl v__law_pair_pool) (da_cons (de_bin op_addA (opd_add rfl) (de_bin op_sub opd_sub (de_v (i := 1) rfl v__law_pair_most) (de_v (i := 2) rfl v__law_pair_low)) de_int) da_nil rfl) rfl) (alen_cons (alen_cons alen_nil)) (by decide) rfl rfl)) da_nil rfl) rfl))) ds_nil))
/-! ### _law_moved -/
abbrev N__law_moved : List Str := ["state", "bounds", "fenced", "server", "holder", "store", "ages", "found", "ready", "after", "age", "low", "high", "own"]
theorem sc__law_moved : FnScope N__law_moved ["state", "bounds", "fenced"] (defScope st__law_moved) := ⟨rfl, rfl, rfl, by decide +kernel, rfl, by decide +kernel, by decide +kernel⟩
abbrev bs__law_moved_b1 : Scope := { kind := .function, names := [(PySem.Str.ofString ".0", .local), (PySem.Str.ofString "age", .local), (PySem.Str.ofString "own", .local)], isGenerator := false, isCoroutine := false, more := [] }
theorem bk__law_moved_b1 : blkC N__law_moved (defScope st__law_moved) bs__law_moved_b1 [("age", 10), ("own", 13)] = true := by decide +kernel
abbrev bs__law_moved_b2 : Scope := { kind := .function, names := [(PySem.Str.ofString ".0", .local), (PySem.Str.ofString "age", .local)], isGenerator := false, isCoroutine := false, more := [] }
theorem bk__law_moved_b2 : blkC N__law_moved (defScope st__law_moved) bs__law_moved_b2 [("age", 10)] = true := by decide +kernel
abbrev bs__law_moved_b3 : Scope := { kind := .function, names := [(PySem.Str.ofString ".0", .local), (PySem.Str.ofString "low", .local), (PySem.Str.ofString "high", .local)], isGenerator := false, isCoroutine := false, more := [] }
theorem bk__law_moved_b3 : blkC N__law_moved (defScope st__law_moved) bs__law_moved_b3 [("low", 11), ("high", 12)] = true := by decide +kernel
abbrev bs__law_moved_b4 : Scope := { kind := .function, names := [(PySem.Str.ofString ".0", .local), (PySem.Str.ofString "age", .local), (PySem.Str.ofString "low", .local)], isGenerator := false, isCoroutine := false, more := [] }
theorem bk__law_moved_b4 : blkC N__law_moved (defScope st__law_moved) bs__law_moved_b4 [("age", 10), ("low", 11)] = true := by decide +kernel
theorem v__law_moved_found : Vis (defScope st__law_moved) ("found" : Str) := .inl (by decide +kernel)
theorem v__law_moved_bounds : Vis (defScope st__law_moved) ("bounds" : Str) := .inl (by decide +kernel)
theorem v__law_moved_ages : Vis (defScope st__law_moved) ("ages" : Str) := .inl (by decide +kernel)
theorem g__law_moved_zip : ((defScope st__law_moved)).names.lookup ("zip" : Str) = some .globalImplicit := by decide +kernel
theorem o__law_moved_b1_own : Loc (relS bs__law_moved_b1 (defScope st__law_moved)) ("own" : Str) := .inl (by decide +kernel)
theorem l__law_moved_b1_own : ((relS bs__law_moved_b1 (defScope st__law_moved))).names.lookup ("own" : Str) = some .local := by decide +kernel
theorem o__law_moved_b1_age : Loc (relS bs__law_moved_b1 (defScope st__law_moved)) ("age" : Str) := .inl (by decide +kernel)
theorem l__law_moved_b1_age : ((relS bs__law_moved_b1 (defScope st__law_moved))).names.lookup ("age" : Str) = some .local := by decide +kernel
theorem v__law_moved_b1_age : Vis (relS bs__law_moved_b1 (defScope st__law_moved)) ("age" : Str) := .inl (by decide +kernel)
theorem v__law_moved_b1_own : Vis (relS bs__law_moved_b1 (defScope st__law_moved)) ("own" : Str) := .inl (by decide +kernel)
theorem g__law_moved_tuple : ((defScope st__law_moved)).names.lookup ("tuple" : Str) = some .globalImplicit := by decide +kernel
theorem o__law_moved_b2_age : Loc (relS bs__law_moved_b2 (defScope st__law_moved)) ("age" : Str) := .inl (by decide +kernel)
theorem l__law_moved_b2_age : ((relS bs__law_moved_b2 (defScope st__law_moved))).names.lookup ("age" : Str) = some .local := by decide +kernel
theorem v__law_moved_b2_age : Vis (relS bs__law_moved_b2 (defScope st__law_moved)) ("age" : Str) := .inl (by decide +kernel)
theorem v__law_moved_store : Vis (defScope st__law_moved) ("store" : Str) := .inl (by decide +kernel)
theorem v__law_moved_holder : Vis (defScope st__law_moved) ("holder" : Str) := .inl (by decide +kernel)
theorem v__law_moved_server : Vis (defScope st__law_moved) ("server" : Str) := .inl (by decide +kernel)
theorem v__law_moved_ready : Vis (defScope st__law_moved) ("ready" : Str) := .inl (by decide +kernel)
theorem v__law_moved_after : Vis (defScope st__law_moved) ("after" : Str) := .inl (by decide +kernel)
theorem v__law_moved_fenced : Vis (defScope st__law_moved) ("fenced" : Str) := .inl (by decide +kernel)
theorem o__law_moved_after : Loc (defScope st__law_moved) ("after" : Str) := .inl (by decide +kernel)
theorem l__law_moved_ready : ((defScope st__law_moved)).names.lookup ("ready" : Str) = some .local := by decide +kernel
theorem o__law_moved_b3_high : Loc (relS bs__law_moved_b3 (defScope st__law_moved)) ("high" : Str) := .inl (by decide +kernel)
theorem l__law_moved_b3_high : ((relS bs__law_moved_b3 (defScope st__law_moved))).names.lookup ("high" : Str) = some .local := by decide +kernel
theorem o__law_moved_b3_low : Loc (relS bs__law_moved_b3 (defScope st__law_moved)) ("low" : Str) := .inl (by decide +kernel)
theorem l__law_moved_b3_low : ((relS bs__law_moved_b3 (defScope st__law_moved))).names.lookup ("low" : Str) = some .local := by decide +kernel
theorem v__law_moved_b3_low : Vis (relS bs__law_moved_b3 (defScope st__law_moved)) ("low" : Str) := .inl (by decide +kernel)
theorem o__law_moved_b4_low : Loc (relS bs__law_moved_b4 (defScope st__law_moved)) ("low" : Str) := .inl (by decide +kernel)
theorem l__law_moved_b4_low : ((relS bs__law_moved_b4 (defScope st__law_moved))).names.lookup ("low" : Str) = some .local := by decide +kernel
theorem o__law_moved_b4_age : Loc (relS bs__law_moved_b4 (defScope st__law_moved)) ("age" : Str) := .inl (by decide +kernel)
theorem l__law_moved_b4_age : ((relS bs__law_moved_b4 (defScope st__law_moved))).names.lookup ("age" : Str) = some .local := by decide +kernel
theorem v__law_moved_b4_age : Vis (relS bs__law_moved_b4 (defScope st__law_moved)) ("age" : Str) := .inl (by decide +kernel)
theorem v__law_moved_b4_low : Vis (relS bs__law_moved_b4 (defScope st__law_moved)) ("low" : Str) := .inl (by decide +kernel)
theorem o__law_moved_found : Loc (defScope st__law_moved) ("found" : Str) := .inl (by decide +kernel)
theorem v__law_moved_state : Vis (defScope st__law_moved) ("state" : Str) := .inl (by decide +kernel)
theorem o__law_moved_ages : Loc (defScope st__law_moved) ("ages" : Str) := .inl (by decide +kernel)
theorem o__law_moved_store : Loc (defScope st__law_moved) ("store" : Str) := .inl (by decide +kernel)
theorem o__law_moved_holder : Loc (defScope st__law_moved) ("holder" : Str) := .inl (by decide +kernel)
theorem o__law_moved_server : Loc (defScope st__law_moved) ("server" : Str) := .inl (by decide +kernel)
def m__law_moved : M Fl := (sCons (sUnp [3, 4, 5, 6] (eVar 0)) (sCons (sSetN 7 (nLst aNil)) (sCons (sSetX 8 (eLc (iZipX (aCons (eVar 6) (aCons (eLc (iDat (eVar 1)) (.tp [11, 12]) (M.ok true) (eVar 11) [11, 12]) aNil))) (.tp [10, 11]) (M.ok true) (andV (eIsN true (eVar 10)) (eOp2 geD (eVar 10) (eVar 11))) [10, 11])) (sCons (sIf (andT (eB (eOp2 ixD (eVar 8) (eLit (.int (0))))) (eB (eOp2 eqX (eVar 3) (eLit (.int (0)))))) (sCons (sExpr (eAp (eVar 7) (eTup (aCons (eLit (.int (1))) (aCons (eVar 4) (aCons (eVar 5) (aCons (eOp2 addD (eTup (aCons (eLit .none) aNil)) (eSl (eVar 6) (mPart (some (eLit (.int (1))))) (mPart none))) aNil))))))) sNil) sNil) (sCons (sIf (eB (eOp2 eqX (eVar 3) (eLit (.int (1))))) (sCons (sExpr (eAp (eVar 7) (eTup (aCons (eLit (.int (2))) (aCons (eVar 4) (aCons (eVar 5) (aCons (eVar 6) aNil))))))) sNil) sNil) (sCons (sIf (eB (eOp2 eqX (eVar 3) (eLit (.int (2))))) (sCons (sExpr (eAp (eVar 7) (eTup (aCons (eLit (.int (3))) (aCons (eVar 4) (aCons (eVar 5) (aCons (eOp2 addD (eSl (eVar 6) (mPart none) (mPart (some (eLit (.int (3)))))) (eTup (aCons (eLit (.int (0))) aNil))) aNil))))))) sNil) sNil) (sCons (sIf (eB (eOp2 eqX (eVar 4) (eLit (.int (0))))) (sCons (sExpr (eAp (eVar 7) (eTup (aCons (eVar 3) (aCons (eLit (.int (2))) (aCons (eVar 5) (aCons (eOp2 addD (eOp2 addD (eSl (eVar 6) (mPart none) (mPart (some (eLit (.int (2)))))) (eTup (aCons (eLit (.int (0))) aNil))) (eSl (eVar 6) (mPart (some (eLit (.int (3))))) (mPart none))) aNil))))))) sNil) sNil) (sCons (sIf (eB (eOp2 ixD (eVar 8) (eLit (.int (1))))) (sCons (sExpr (eAp (eVar 7) (eTup (aCons (eVar 3) (aCons (ifV (eB (eOp2 eqX (eVar 4) (eLit (.int (0))))) (eLit (.int (1))) (eVar 4)) (aCons (eVar 5) (aCons (eOp2 addD (eTup (aCons (eOp2 ixD (eVar 6) (eLit (.int (0)))) (aCons (eLit .none) aNil))) (eSl (eVar 6) (mPart (some (eLit (.int (2))))) (mPart none))) aNil))))))) sNil) sNil) (sCons (sIf (eB (eOp2 ixD (eVar 8) (eLit (.int (2))))) (sCons (sSetX 9 (eOp2 ixD (eLst (aCons (eLit (.int (1))) (aCons (eVar 5) (aCons (ifV (eB (eVar 2)) (eLit (.int (2))) (eLit (.int (3)))) (aCons (eVar 5) aNil))))) (eVar 5))) (sCons (sExpr (eAp (eVar 7) (eTup (aCons (eVar 3) (aCons (eVar 4) (aCons (eVar 9) (aCons (eOp2 addD (eSl (eVar 6) (mPart none) (mPart (some (eLit (.int (2)))))) (eTup (aCons (eLit .none) (aCons (eOp2 ixD (eVar 6) (eLit (.int (3)))) aNil)))) aNil))))))) sNil)) sNil) (sCons (sIf (eB (eOp2 ixD (eVar 8) (eLit (.int (3))))) (sCons (sExpr (eAp (eVar 7) (eTup (aCons (eVar 3) (aCons (eVar 4) (aCons (ifV (eB (eOp2 ltD (eVar 5) (eLit (.int (2))))) (eLit (.int (2))) (eVar 5)) (aCons (eOp2 addD (eSl (eVar 6) (mPart none) (mPart (some (eLit (.int (3)))))) (eTup (aCons (eLit .none) aNil))) aNil))))))) sNil) sNil) (sCons (sIf (eB (eOp2 eqX (eLc (iZipX (aCons (eVar 6) (aCons (eVar 1) aNil))) (.tp [10, 13]) (andT (eB (eIsN true (eVar 10))) (eB (eOp2 eqX (eVar 10) (eOp2 ixD (eVar 13) (eLit (.int (1))))))) (eVar 10) [10, 13]) (eLst aNil))) (sCons (sExpr (eAp (eVar 7) (eTup (aCons (eVar 3) (aCons (eVar 4) (aCons (eVar 5) (aCons (eCB tupleF (aCons (eLc (iDat (eVar 6)) (.nm 10) (M.ok true) (ifV (eB (eIsN false (eVar 10))) (eLit .none) (eOp2 addD (eVar 10) (eLit (.int (1))))) [10]) aNil)) aNil))))))) sNil) sNil) (sCons (sRetOwn 7) sNil))))))))))))
def F__law_moved : Fsp := runF false 14 m__law_moved
theorem bi__law_moved (T : Txt Pg K mg a d) : Binds K d._law_moved ["state", "bounds", "fenced"] [] := T.f__law_moved.binds fun _ _ _ _ _ _ us hl => match us, hl with | [_, _, _], _ => rfl
theorem ok__law_moved (T : Txt Pg K mg a d) : FnOkG Pg wd K mg base (L2.CX Pg wd) 1 a._law_moved d._law_moved ["state", "bounds", "fenced"] (spD ⟨K, mg, Pg, wd⟩ false 3 F__law_moved) :=
  fn_okG (k := 0) T.f__law_moved sc__law_moved fun cdv A outer s H E hr hG tk =>
    (ds_cons (ds_unp rfl rfl (de_v (i := 0) rfl v__law_moved_state) (dgs_cons (i := 3) sc__law_moved.nd rfl o__law_moved_server ((.inl rfl)) (dgs_cons (i := 4) sc__law_moved.nd rfl o__law_moved_holder ((.inl rfl)) (dgs_cons (i := 5) sc__law_moved.nd rfl o__law_moved_store ((.inl rfl)) (dgs_cons (i := 6) sc__law_moved.nd rfl o__law_moved_ages ((.inl rfl)) dgs_nil rfl) rfl) rfl) rfl) rfl rfl rfl rfl rfl) (ds_cons (ds_setN (i := 7) sc__law_moved.nd rfl o__law_moved_found (dn_lst da_nil) rfl (.inl rfl)) (ds_cons (ds_setLcX (i := 8) rfl sc__law_moved.nd rfl l__law_moved_ready (sw_true rfl l__law_moved_ready (by decide) (by decide +kernel)) (di_zipX rfl g__law_moved_zip T.b_zip (da_cons (de_v (i := 6) rfl v__law_moved_ages) (da_cons (de_lc rfl sc__law_moved.nd (di_dat rfl (de_v (i := 1) rfl v__law_moved_bounds)) (own := [("low", 11), ("high", 12)]) (blkOk_by bk__law_moved_b3) (fun _ _ _ _ _ => (dg_tup rfl rfl (dgs_cons (i := 11) sc__law_moved.nd rfl o__law_moved_b3_low (.inr l__law_moved_b3_low) (dgs_cons (i := 12) sc__law_moved.nd rfl o__law_moved_b3_high (.inr l__law_moved_b3_high) dgs_nil rfl) rfl) rfl rfl)) (fun _ _ _ _ _ => dts_nil) (fun _ _ _ _ _ => (de_v (i := 11) rfl v__law_moved_b3_low)) (fun _ => rfl) (by decide)) da_nil rfl) rfl) rfl rfl) (own := [("age", 10), ("low", 11)]) (blkOk_by bk__law_moved_b4) (fun _ _ _ _ _ => (dg_tup rfl rfl (dgs_cons (i := 10) sc__law_moved.nd rfl o__law_moved_b4_age (.inr l__law_moved_b4_age) (dgs_cons (i := 11) sc__law_moved.nd rfl o__law_moved_b4_low (.inr l__law_moved_b4_low) dgs_nil rfl) rfl) rfl rfl)) (fun _ _ _ _ _ => dts_nil) (fun _ _ _ _ _ => (de_and (de_notNx (de_v (i := 10) rfl v__law_moved_b4_age)) (pe_one (de_cmp op_ge opd_ge (de_v (i := 10) rfl v__law_moved_b4_age) (de_v (i := 11) rfl v__law_moved_b4_low) rfl)))) (fun _ => rfl) (by decide)) (ds_cons (ds_if (PW.fin (dw_and (dt_val (de_ix rfl (de_v (i := 8) rfl v__law_moved_ready) de_int (fun _ _ => rfl)) (fun _ => rfl)) (pw_and1 (dt_cmp (op_eq.or (op_eqD (room_u64 hr))) (opd_eqX rfl) (de_v (i := 3) rfl v__law_moved_server) de_int rfl)))) (ds_cons (ds_expr (de_app rfl (de_v (i := 7) rfl v__law_moved_found) (de_tup (da_cons de_int (da_cons (de_v (i := 4) rfl v__law_moved_holder) (da_cons (de_v (i := 5) rfl v__law_moved_store) (da_cons (de_bin op_addA (opd_add rfl) (de_tup (da_cons de_none da_nil rfl)) (de_sl rfl (de_v (i := 6) rfl v__law_moved_ages) (dp_some de_int) dp_none)) da_nil rfl) rfl) rfl) rfl)) rfl rfl rfl rfl rfl) rfl) ds_nil) ds_nil) (ds_cons (ds_if (dt_cmp (op_eq.or (op_eqD (room_u64 hr))) (opd_eqX rfl) (de_v (i := 3) rfl v__law_moved_server) de_int rfl) (ds_cons (ds_expr (de_app rfl (de_v (i := 7) rfl v__law_moved_found) (de_tup (da_cons de_int (da_cons (de_v (i := 4) rfl v__law_moved_holder) (da_cons (de_v (i := 5) rfl v__law_moved_store) (da_cons (de_v (i := 6) rfl v__law_moved_ages) da_nil rfl) rfl) rfl) rfl)) rfl rfl rfl rfl rfl) rfl) ds_nil) ds_nil) (ds_cons (ds_if (dt_cmp (op_eq.or (op_eqD (room_u64 hr))) (opd_eqX rfl) (de_v (i := 3) rfl v__law_moved_server) de_int rfl) (ds_cons (ds_expr (de_app rfl (de_v (i := 7) rfl v__law_moved_found) (de_tup (da_cons de_int (da_cons (de_v (i := 4) rfl v__law_moved_holder) (da_cons (de_v (i := 5) rfl v__law_moved_store) (da_cons (de_bin op_addA (opd_add rfl) (de_sl rfl (de_v (i := 6) rfl v__law_moved_ages) dp_none (dp_some de_int)) (de_tup (da_cons de_int da_nil rfl))) da_nil rfl) rfl) rfl) rfl)) rfl rfl rfl rfl rfl) rfl) ds_nil) ds_nil) (ds_cons (ds_if (dt_cmp (op_eq.or (op_eqD (room_u64 hr))) (opd_eqX rfl) (de_v (i := 4) rfl v__law_moved_holder) de_int rfl) (ds_cons (ds_expr (de_app rfl (de_v (i := 7) rfl v__law_moved_found) (de_tup (da_cons (de_v (i := 3) rfl v__law_moved_server) (da_cons de_int (da_cons (de_v (i := 5) rfl v__law_moved_store) (da_cons (de_bin op_addA (opd_add rfl) (de_bin op_addA (opd_add rfl) (de_sl rfl (de_v (i := 6) rfl v__law_moved_ages) dp_none (dp_some de_int)) (de_tup (da_cons de_int da_nil rfl))) (de_sl rfl (de_v (i := 6) rfl v__law_moved_ages) (dp_some de_int) dp_none)) da_nil rfl) rfl) rfl) rfl)) rfl rfl rfl rfl rfl) rfl) ds_nil) ds_nil) (ds_cons (ds_if (dt_val (de_ix rfl (de_v (i := 8) rfl v__law_moved_ready) de_int (fun _ _ => rfl)) (fun _ => rfl)) (ds_cons (ds_expr (de_app rfl (de_v (i := 7) rfl v__law_moved_found) (de_tup (da_cons (de_v (i := 3) rfl v__law_moved_server) (da_cons (de_if (dt_cmp (op_eq.or (op_eqD (room_u64 hr))) (opd_eqX rfl) (de_v (i := 4) rfl v__law_moved_holder) de_int rfl) de_int (de_v (i := 4) rfl v__law_moved_holder)) (da_cons (de_v (i := 5) rfl v__law_moved_store) (da_cons (de_bin op_addA (opd_add rfl) (de_tup (da_cons (de_ix rfl (de_v (i := 6) rfl v__law_moved_ages) de_int (fun _ _ => rfl)) (da_cons de_none da_nil rfl) rfl)) (de_sl rfl (de_v (i := 6) rfl v__law_moved_ages) (dp_some de_int) dp_none)) da_nil rfl) rfl) rfl) rfl)) rfl rfl rfl rfl rfl) rfl) ds_nil) ds_nil) (ds_cons (ds_if (dt_val (de_ix rfl (de_v (i := 8) rfl v__law_moved_ready) de_int (fun _ _ => rfl)) (fun _ => rfl)) (ds_cons (ds_setX (i := 9) sc__law_moved.nd rfl o__law_moved_after (de_ix rfl (de_lst (da_cons de_int (da_cons (de_v (i := 5) rfl v__law_moved_store) (da_cons (de_if (dt_val (de_v (i := 2) rfl v__law_moved_fenced) (fun _ => rfl)) de_int de_int) (da_cons (de_v (i := 5) rfl v__law_moved_store) da_nil rfl) rfl) rfl) rfl)) (de_v (i := 5) rfl v__law_moved_store) (fun _ _ => rfl)) rfl (.inl rfl)) (ds_cons (ds_expr (de_app rfl (de_v (i := 7) rfl v__law_moved_found) (de_tup (da_cons (de_v (i := 3) rfl v__law_moved_server) (da_cons (de_v (i := 4) rfl v__law_moved_holder) (da_cons (de_v (i := 9) rfl v__law_moved_after) (da_cons (de_bin op_addA (opd_add rfl) (de_sl rfl (de_v (i := 6) rfl v__law_moved_ages) dp_none (dp_some de_int)) (de_tup (da_cons de_none (da_cons (de_ix rfl (de_v (i := 6) rfl v__law_moved_ages) de_int (fun _ _ => rfl)) da_nil rfl) rfl))) da_nil rfl) rfl) rfl) rfl)) rfl rfl rfl rfl rfl) rfl) ds_nil)) ds_nil) (ds_cons (ds_if (dt_val (de_ix rfl (de_v (i := 8) rfl v__law_moved_ready) de_int (fun _ _ => rfl)) (fun _ => rfl)) (ds_cons (ds_expr (de_app rfl (de_v (i := 7) rfl v__law_moved_found) (de_tup (da_cons (de_v (i := 3) rfl v__law_moved_server) (da_cons (de_v (i := 4) rfl v__law_moved_holder) (da_cons (de_if (dt_cmp op_lt opd_lt (de_v (i := 5) rfl v__law_moved_store) de_int rfl) de_int (de_v (i := 5) rfl v__law_moved_store)) (da_cons (de_bin op_addA (opd_add rfl) (de_sl rfl (de_v (i := 6) rfl v__law_moved_ages) dp_none (dp_some de_int)) (de_tup (da_cons de_none da_nil rfl))) da_nil rfl) rfl) rfl) rfl)) rfl rfl rfl rfl rfl) rfl) ds_nil) ds_nil) (ds_cons (ds_if (dt_cmp (op_eq.or (op_eqD (room_u64 hr))) (opd_eqX rfl) (de_lc rfl sc__law_moved.nd (di_zipX rfl g__law_moved_zip T.b_zip (da_cons (de_v (i := 6) rfl v__law_moved_ages) (da_cons (de_v (i := 1) rfl v__law_moved_bounds) da_nil rfl) rfl) rfl rfl) (own := [("age", 10), ("own", 13)]) (blkOk_by bk__law_moved_b1) (fun _ _ _ _ _ => (dg_tup rfl rfl (dgs_cons (i := 10) sc__law_moved.nd rfl o__law_moved_b1_age (.inr l__law_moved_b1_age) (dgs_cons (i := 13) sc__law_moved.nd rfl o__law_moved_b1_own (.inr l__law_moved_b1_own) dgs_nil rfl) rfl) rfl rfl)) (fun _ _ _ _ _ => (dts_one (PW.fin (dw_and (dt_notNx (de_v (i := 10) rfl v__law_moved_b1_age)) (pw_and1 (dt_cmp (op_eq.or (op_eqD (room_u64 hr))) (opd_eqX rfl) (de_v (i := 10) rfl v__law_moved_b1_age) (de_ix rfl (de_v (i := 13) rfl v__law_moved_b1_own) de_int (fun _ _ => rfl)) rfl)))))) (fun _ _ _ _ _ => (de_v (i := 10) rfl v__law_moved_b1_age)) (fun _ => rfl) (by decide)) (de_lst da_nil) rfl) (ds_cons (ds_expr (de_app rfl (de_v (i := 7) rfl v__law_moved_found) (de_tup (da_cons (de_v (i := 3) rfl v__law_moved_server) (da_cons (de_v (i := 4) rfl v__law_moved_holder) (da_cons (de_v (i := 5) rfl v__law_moved_store) (da_cons (de_cty call_tuple_of (cbd_tuple rfl) g__law_moved_tuple T.b_tuple (by decide +kernel) (da_cons (de_lc rfl sc__law_moved.nd (di_dat rfl (de_v (i := 6) rfl v__law_moved_ages)) (own := [("age", 10)]) (blkOk_by bk__law_moved_b2) (fun _ _ _ _ _ => (dg_name (i := 10) sc__law_moved.nd rfl o__law_moved_b2_age (.inr l__law_moved_b2_age))) (fun _ _ _ _ _ => dts_nil) (fun _ _ _ _ _ => (de_if (dt_isNx (de_v (i := 10) rfl v__law_moved_b2_age)) de_none (de_bin op_addA (opd_add rfl) (de_v (i := 10) rfl v__law_moved_b2_age) de_int))) (fun _ => rfl) (by decide)) da_nil rfl) (by decide) (by decide) rfl rfl) da_nil rfl) rfl) rfl) rfl)) rfl rfl rfl rfl rfl) rfl) ds_nil) ds_nil) (ds_cons (ds_retOwn (i := 7) rfl v__law_moved_found) ds_nil))))))))))))
/-! ### _law_is_safe -/
abbrev N__law_is_safe : List Str := ["server", "use", "write", "fenced", "bounds", "found", "row", "state"]
theorem sc__law_is_safe : FnScope N__law_is_safe ["server", "use", "write", "fenced"] (defScope st__law_is_safe) := ⟨rfl, rfl, rfl, by decide +kernel, rfl, by decide +kernel, by decide +kernel⟩
theorem v__law_is_safe_row : Vis (defScope st__law_is_safe) ("row" : Str) := .inl (by decide +kernel)
theorem v__law_is_safe_state : Vis (defScope st__law_is_safe) ("state" : Str) := .inl (by decide +kernel)
theorem v__law_is_safe_found : Vis (defScope st__law_is_safe) ("found" : Str) := .inl (by decide +kernel)
theorem v__law_is_safe_fenced : Vis (defScope st__law_is_safe) ("fenced" : Str) := .inl (by decide +kernel)
theorem v__law_is_safe_bounds : Vis (defScope st__law_is_safe) ("bounds" : Str) := .inl (by decide +kernel)
theorem g__law_is_safe__law_moved : ((defScope st__law_is_safe)).names.lookup ("_law_moved" : Str) = some .globalImplicit := by decide +kernel
theorem o__law_is_safe_row : Loc (defScope st__law_is_safe) ("row" : Str) := .inl (by decide +kernel)
theorem o__law_is_safe_state : Loc (defScope st__law_is_safe) ("state" : Str) := .inl (by decide +kernel)
theorem l__law_is_safe_found : ((defScope st__law_is_safe)).names.lookup ("found" : Str) = some .local := by decide +kernel
theorem l__law_is_safe_row : ((defScope st__law_is_safe)).names.lookup ("row" : Str) = some .local := by decide +kernel
theorem v__law_is_safe_write : Vis (defScope st__law_is_safe) ("write" : Str) := .inl (by decide +kernel)
theorem v__law_is_safe_use : Vis (defScope st__law_is_safe) ("use" : Str) := .inl (by decide +kernel)
theorem v__law_is_safe_server : Vis (defScope st__law_is_safe) ("server" : Str) := .inl (by decide +kernel)
theorem o__law_is_safe_bounds : Loc (defScope st__law_is_safe) ("bounds" : Str) := .inl (by decide +kernel)
def m__law_is_safe : M Fl := (sCons (sSetX 4 (eTup (aCons (eVar 0) (aCons (eVar 1) (aCons (eVar 2) (aCons (eVar 2) aNil)))))) (sCons (sPNN 5 6 nDic (nLst (aCons (eTup (aCons (eLit (.int (0))) (aCons (eLit (.int (0))) (aCons (eLit (.int (0))) (aCons (eTup (aCons (eLit (.int (0))) (aCons (eLit (.int (0))) (aCons (eLit .none) (aCons (eLit .none) aNil))))) aNil))))) aNil))) (sCons (sWhile (eB (eOp2 neX (eVar 6) (eLst aNil))) (sCons (sSetX 7 (ePop (eVar 6))) (sCons (sIf (eB (eOp2 ninY (eVar 7) (eVar 5))) (sCons (sStD (eLit (.bool true)) (eVar 5) (eVar 7)) (sCons (sIf (eB (eOp2 eqX (eOp2 ixD (eVar 7) (eLit (.int (2)))) (eLit (.int (3))))) (sCons (sRet (eLit (.bool false))) sNil) sNil) (sCons (sSetN 6 (nOp2 catF (eVar 6) (eCall false F__law_moved (aCons (eVar 7) (aCons (eVar 4) (aCons (eVar 3) aNil)))))) sNil))) sNil) sNil))) (sCons (sRet (eLit (.bool true))) sNil))))
def F__law_is_safe : Fsp := runF false 8 m__law_is_safe
theorem bi__law_is_safe (T : Txt Pg K mg a d) : Binds K d._law_is_safe ["server", "use", "write", "fenced"] [] := T.f__law_is_safe.binds fun _ _ _ _ _ _ us hl => match us, hl with | [_, _, _, _], _ => rfl
theorem ok__law_is_safe (T : Txt Pg K mg a d) : FnOkG Pg wd K mg base (L2.CX Pg wd) 2 a._law_is_safe d._law_is_safe ["server", "use", "write", "fenced"] (spD ⟨K, mg, Pg, wd⟩ false 4 F__law_is_safe) :=
  fn_okG (k := 1) T.f__law_is_safe sc__law_is_safe fun cdv A outer s H E hr hG tk =>
    (ds_cons (ds_setX (i := 4) sc__law_is_safe.nd rfl o__law_is_safe_bounds (de_tup (da_cons (de_v (i := 0) rfl v__law_is_safe_server) (da_cons (de_v (i := 1) rfl v__law_is_safe_use) (da_cons (de_v (i := 2) rfl v__law_is_safe_write) (da_cons (de_v (i := 2) rfl v__law_is_safe_write) da_nil rfl) rfl) rfl) rfl)) rfl (.inl rfl)) (ds_cons (ds_parNN (i := 5) (j := 6) rfl sc__law_is_safe.nd rfl rfl (by decide) l__law_is_safe_found l__law_is_safe_row dn_dic (dn_lst (da_cons (de_tup (da_cons de_int (da_cons de_int (da_cons de_int (da_cons (de_tup (da_cons de_int (da_cons de_int (da_cons de_none (da_cons de_none da_nil rfl) rfl) rfl) rfl)) da_nil rfl) rfl) rfl) rfl)) da_nil rfl)) rfl rfl rfl rfl) (ds_cons (ds_while PassesOwn.leaving (dt_cmp (op_ne.or (op_neD (room_u64 hr))) (opd_neX rfl) (de_v (i := 6) rfl v__law_is_safe_row) (de_lst da_nil) rfl) (ds_cons (ds_setX (i := 7) sc__law_is_safe.nd rfl o__law_is_safe_state (de_pop rfl (de_v (i := 6) rfl v__law_is_safe_row) rfl rfl) rfl (.inl rfl)) (ds_cons (ds_if (dt_cmp ((op_ninY rfl rfl rfl (room_u65 hr)).or ((op_notInD (room_u65 hr)).or op_notIn_seq)) (opd_ninY rfl) (de_v (i := 7) rfl v__law_is_safe_state) (de_v (i := 5) rfl v__law_is_safe_found) rfl) (ds_cons (ds_stD rfl rfl rfl (room_u65 hr) de_bool (de_v (i := 5) rfl v__law_is_safe_found) (de_v (i := 7) rfl v__law_is_safe_state) rfl rfl rfl (fun _ => rfl)) (ds_cons (ds_if (dt_cmp (op_eq.or (op_eqD (room_u64 hr))) (opd_eqX rfl) (de_ix rfl (de_v (i := 7) rfl v__law_is_safe_state) de_int (fun _ _ => rfl)) de_int rfl) (ds_cons (ds_ret de_bool) ds_nil) ds_nil) (ds_cons (ds_setN (i := 6) sc__law_is_safe.nd rfl o__law_is_safe_row (dn_add rfl (de_v (i := 6) rfl v__law_is_safe_row) (de_callG ((ok__law_moved T).mono (by decide : 1 ≤ 1)) hr hG g__law_is_safe__law_moved T.g__law_moved T.f__law_moved.kp (bi__law_moved T) tk (da_cons (de_v (i := 7) rfl v__law_is_safe_state) (da_cons (de_v (i := 4) rfl v__law_is_safe_bounds) (da_cons (de_v (i := 3) rfl v__law_is_safe_fenced) da_nil rfl) rfl) rfl) (alen_cons (alen_cons (alen_cons alen_nil))) (by decide) rfl rfl)) rfl (.inl rfl)) ds_nil))) ds_nil) ds_nil))) (ds_cons (ds_ret de_bool) ds_nil))))
/-! ### _law_caught -/
abbrev N__law_caught : List Str := ["which", "server", "use", "write", "caught", "e"]
theorem sc__law_caught : FnScope N__law_caught ["which", "server", "use", "write"] (defScope st__law_caught) := ⟨rfl, rfl, rfl, by decide +kernel, rfl, by decide +kernel, by decide +kernel⟩
theorem v__law_caught_caught : Vis (defScope st__law_caught) ("caught" : Str) := .inl (by decide +kernel)
theorem g__law_caught_repr : ((defScope st__law_caught)).names.lookup ("repr" : Str) = some .globalImplicit := by decide +kernel
theorem g__law_caught_isinstance : ((defScope st__law_caught)).names.lookup ("isinstance" : Str) = some .globalImplicit := by decide +kernel
theorem g__law_caught_InvalidBounds : ((defScope st__law_caught)).names.lookup ("InvalidBounds" : Str) = some .globalImplicit := by decide +kernel
theorem v__law_caught_which : Vis (defScope st__law_caught) ("which" : Str) := .inl (by decide +kernel)
theorem v__law_caught_write : Vis (defScope st__law_caught) ("write" : Str) := .inl (by decide +kernel)
theorem v__law_caught_use : Vis (defScope st__law_caught) ("use" : Str) := .inl (by decide +kernel)
theorem v__law_caught_server : Vis (defScope st__law_caught) ("server" : Str) := .inl (by decide +kernel)
theorem g__law_caught_fence_team : ((defScope st__law_caught)).names.lookup ("fence_team" : Str) = some .globalImplicit := by decide +kernel
theorem g__law_caught_fence_goals : ((defScope st__law_caught)).names.lookup ("fence_goals" : Str) = some .globalImplicit := by decide +kernel
theorem g__law_caught_fence_is_safe : ((defScope st__law_caught)).names.lookup ("fence_is_safe" : Str) = some .globalImplicit := by decide +kernel
theorem g__law_caught_greatest_use : ((defScope st__law_caught)).names.lookup ("greatest_use" : Str) = some .globalImplicit := by decide +kernel
theorem v__law_caught_e : Vis (defScope st__law_caught) ("e" : Str) := .inl (by decide +kernel)
theorem o__law_caught_caught : Loc (defScope st__law_caught) ("caught" : Str) := .inl (by decide +kernel)
theorem l__law_caught_e : ((defScope st__law_caught)).names.lookup ("e" : Str) = some .local := by decide +kernel
theorem g__law_caught_LeaseError : ((defScope st__law_caught)).names.lookup ("LeaseError" : Str) = some .globalImplicit := by decide +kernel
def m__law_caught : M Fl := (sCons (sSetX 4 (eLit .none)) (sCons (sTry isCls2 5 (sCons (sIf (eB (eOp2 eqX (eVar 0) (eLit (.int (0))))) (sCons (sExpr (eCall false F_fence_team (aCons (eVar 1) (aCons (eVar 2) (aCons (eVar 3) (aCons (eLit (.bool true)) aNil)))))) sNil) (sCons (sIf (eB (eOp2 eqX (eVar 0) (eLit (.int (1))))) (sCons (sExpr (eCall false F_fence_goals (aCons (eVar 1) (aCons (eVar 2) (aCons (eVar 3) (aCons (eLit (.bool false)) aNil)))))) sNil) (sCons (sIf (eB (eOp2 eqX (eVar 0) (eLit (.int (2))))) (sCons (sExpr (eCall false F_fence_is_safe (aCons (eVar 1) (aCons (eVar 2) (aCons (eVar 3) (aCons (eLit (.bool false)) aNil)))))) sNil) (sCons (sExpr (eCall false F_greatest_use (aCons (eVar 1) (aCons (eVar 3) aNil)))) sNil)) sNil)) sNil)) sNil) (sCons (sSetX 4 (eVar 5)) sNil)) (sCons (sRet (eTup (aCons (eIs isNon (isEx "InvalidBounds") (eVar 4)) (aCons (ifV (eB (eIsN false (eVar 4))) (eLit .none) (eCB reprF (aCons (eVal isCls (eVar 4)) aNil))) aNil)))) sNil)))
def F__law_caught : Fsp := runF false 6 m__law_caught
theorem bi__law_caught (T : Txt Pg K mg a d) : Binds K d._law_caught ["which", "server", "use", "write"] [] := T.f__law_caught.binds fun _ _ _ _ _ _ us hl => match us, hl with | [_, _, _, _], _ => rfl
theorem ok__law_caught (T : Txt Pg K mg a d) : FnOkG Pg wd K mg base (L2.CX Pg wd) 12 a._law_caught d._law_caught ["which", "server", "use", "write"] (spD ⟨K, mg, Pg, wd⟩ false 4 F__law_caught) :=
  fn_okG (k := 11) T.f__law_caught sc__law_caught fun cdv A outer s H E hr hG tk =>
    (ds_cons (ds_setX (i := 4) sc__law_caught.nd rfl o__law_caught_caught de_none rfl (.inl rfl)) (ds_cons (ds_try (i := 5) rfl rfl rfl rfl sc__law_caught.nd rfl l__law_caught_e ⟨g__law_caught_LeaseError, by decide, .inl T.k_LeaseError⟩ tk T.caOk (fun W pn xe tk' hpo => (ds_cons (ds_if (dt_cmp (op_eq.or (op_eqD (room_u64 hr))) (opd_eqX rfl) (de_v (i := 0) rfl v__law_caught_which) de_int rfl) (ds_cons (ds_expr (de_callG ((ok_fence_team T).mono (by decide : 11 ≤ 11)) hr hG g__law_caught_fence_team T.g_fence_team T.f_fence_team.kp (bi_fence_team T) tk' (da_cons (de_v (i := 1) rfl v__law_caught_server) (da_cons (de_v (i := 2) rfl v__law_caught_use) (da_cons (de_v (i := 3) rfl v__law_caught_write) (da_cons de_bool da_nil rfl) rfl) rfl) rfl) (alen_cons (alen_cons (alen_cons (alen_cons alen_nil)))) (by decide) rfl rfl) rfl) ds_nil) (ds_cons (ds_if (dt_cmp (op_eq.or (op_eqD (room_u64 hr))) (opd_eqX rfl) (de_v (i := 0) rfl v__law_caught_which) de_int rfl) (ds_cons (ds_expr (de_callG ((ok_fence_goals T).mono (by decide : 11 ≤ 11)) hr hG g__law_caught_fence_goals T.g_fence_goals T.f_fence_goals.kp (bi_fence_goals T) tk' (da_cons (de_v (i := 1) rfl v__law_caught_server) (da_cons (de_v (i := 2) rfl v__law_caught_use) (da_cons (de_v (i := 3) rfl v__law_caught_write) (da_cons de_bool da_nil rfl) rfl) rfl) rfl) (alen_cons (alen_cons (alen_cons (alen_cons alen_nil)))) (by decide) rfl rfl) rfl) ds_nil) (ds_cons (ds_if (dt_cmp (op_eq.or (op_eqD (room_u64 hr))) (opd_eqX rfl) (de_v (i := 0) rfl v__law_caught_which) de_int rfl) (ds_cons (ds_expr (de_callG ((ok_fence_is_safe T).mono (by decide : 11 ≤ 11)) hr hG g__law_caught_fence_is_safe T.g_fence_is_safe T.f_fence_is_safe.kp (bi_fence_is_safe T) tk' (da_cons (de_v (i := 1) rfl v__law_caught_server) (da_cons (de_v (i := 2) rfl v__law_caught_use) (da_cons (de_v (i := 3) rfl v__law_caught_write) (da_cons de_bool da_nil rfl) rfl) rfl) rfl) (alen_cons (alen_cons (alen_cons (alen_cons alen_nil)))) (by decide) rfl rfl) rfl) ds_nil) (ds_cons (ds_expr (de_callG ((ok_greatest_use T).mono (by decide : 11 ≤ 11)) hr hG g__law_caught_greatest_use T.g_greatest_use T.f_greatest_use.kp (bi_greatest_use T) tk' (da_cons (de_v (i := 1) rfl v__law_caught_server) (da_cons (de_v (i := 3) rfl v__law_caught_write) da_nil rfl) rfl) (alen_cons (alen_cons alen_nil)) (by decide) rfl rfl) rfl) ds_nil)) ds_nil)) ds_nil)) ds_nil)) (fun a pn => (ds_cons (ds_setX (i := 4) sc__law_caught.nd rfl o__law_caught_caught (de_v (i := 5) rfl v__law_caught_e) rfl (.inl rfl)) ds_nil))) (ds_cons (ds_ret (de_tup (da_cons (de_isG rfl g__law_caught_isinstance T.b_isinstance (de_v (i := 4) rfl v__law_caught_caught) (pe_glob g__law_caught_InvalidBounds T.k_InvalidBounds (v := .ref a.k_InvalidBounds) rfl) (.own _) T.nn_InvalidBounds T.ie_InvalidBounds rfl rfl rfl) (da_cons (de_if (dt_isNx (de_v (i := 4) rfl v__law_caught_caught)) de_none (de_cb (call_reprG hG (room_u hr)) (cbd_repr rfl) g__law_caught_repr T.b_repr (by decide +kernel) (da_cons (de_val rfl (de_v (i := 4) rfl v__law_caught_caught) T.valOk rfl) da_nil rfl) (by decide) (by decide) rfl rfl)) da_nil rfl) rfl))) ds_nil)))
theorem kwb_greatest_use_1_0 (T : Txt Pg K mg a d) : KwB d.greatest_use ["server", "write"] ["write", "server"] [1, 0] := kwB_of T.f_greatest_use fun _ _ _ _ _ _ ws hl => match ws, hl with | [_, _], _ => rfl
theorem kwb_fence_is_safe_3_2_1_0 (T : Txt Pg K mg a d) : KwB d.fence_is_safe ["server", "use", "write", "fenced"] ["fenced", "write", "use", "server"] [3, 2, 1, 0] := kwB_of T.f_fence_is_safe fun _ _ _ _ _ _ ws hl => match ws, hl with | [_, _, _, _], _ => rfl
/-! ### law -/
abbrev N_law : List Str := ["script", "pool", "turn", "most", "server", "use", "write", "fenced", "due", "told", "high", "bad", "which"]
theorem sc_law : FnScope N_law ["script"] (defScope st_law) := ⟨rfl, rfl, rfl, by decide +kernel, rfl, by decide +kernel, by decide +kernel⟩
theorem g_law_range : ((defScope st_law)).names.lookup ("range" : Str) = some .globalImplicit := by decide +kernel
theorem o_law_turn : Loc (defScope st_law) ("turn" : Str) := .inl (by decide +kernel)
theorem v_law_which : Vis (defScope st_law) ("which" : Str) := .inl (by decide +kernel)
theorem v_law_bad : Vis (defScope st_law) ("bad" : Str) := .inl (by decide +kernel)
theorem v_law_server : Vis (defScope st_law) ("server" : Str) := .inl (by decide +kernel)
theorem g_law__law_caught : ((defScope st_law)).names.lookup ("_law_caught" : Str) = some .globalImplicit := by decide +kernel
theorem g_law_repr : ((defScope st_law)).names.lookup ("repr" : Str) = some .globalImplicit := by decide +kernel
theorem v_law_use : Vis (defScope st_law) ("use" : Str) := .inl (by decide +kernel)
theorem v_law_pool : Vis (defScope st_law) ("pool" : Str) := .inl (by decide +kernel)
theorem g_law__law_take : ((defScope st_law)).names.lookup ("_law_take" : Str) = some .globalImplicit := by decide +kernel
theorem o_law_which : Loc (defScope st_law) ("which" : Str) := .inl (by decide +kernel)
theorem o_law_bad : Loc (defScope st_law) ("bad" : Str) := .inl (by decide +kernel)
theorem v_law_due : Vis (defScope st_law) ("due" : Str) := .inl (by decide +kernel)
theorem v_law_write : Vis (defScope st_law) ("write" : Str) := .inl (by decide +kernel)
theorem g_law_fence_is_safe : ((defScope st_law)).names.lookup ("fence_is_safe" : Str) = some .globalImplicit := by decide +kernel
theorem g_law_greatest_use : ((defScope st_law)).names.lookup ("greatest_use" : Str) = some .globalImplicit := by decide +kernel
theorem v_law_high : Vis (defScope st_law) ("high" : Str) := .inl (by decide +kernel)
theorem o_law_due : Loc (defScope st_law) ("due" : Str) := .inl (by decide +kernel)
theorem g_law_min : ((defScope st_law)).names.lookup ("min" : Str) = some .globalImplicit := by decide +kernel
theorem o_law_high : Loc (defScope st_law) ("high" : Str) := .inl (by decide +kernel)
theorem o_law_fenced : Loc (defScope st_law) ("fenced" : Str) := .inl (by decide +kernel)
theorem v_law_told : Vis (defScope st_law) ("told" : Str) := .inl (by decide +kernel)
theorem v_law_most : Vis (defScope st_law) ("most" : Str) := .inl (by decide +kernel)
theorem v_law_fenced : Vis (defScope st_law) ("fenced" : Str) := .inl (by decide +kernel)
theorem g_law__law_is_safe : ((defScope st_law)).names.lookup ("_law_is_safe" : Str) = some .globalImplicit := by decide +kernel
theorem o_law_told : Loc (defScope st_law) ("told" : Str) := .inl (by decide +kernel)
theorem g_law__law_pair : ((defScope st_law)).names.lookup ("_law_pair" : Str) = some .globalImplicit := by decide +kernel
theorem l_law_server : ((defScope st_law)).names.lookup ("server" : Str) = some .local := by decide +kernel
theorem l_law_use : ((defScope st_law)).names.lookup ("use" : Str) = some .local := by decide +kernel
theorem l_law_write : ((defScope st_law)).names.lookup ("write" : Str) = some .local := by decide +kernel
theorem g_law_int : ((defScope st_law)).names.lookup ("int" : Str) = some .globalImplicit := by decide +kernel
theorem v_law_turn : Vis (defScope st_law) ("turn" : Str) := .inl (by decide +kernel)
theorem o_law_most : Loc (defScope st_law) ("most" : Str) := .inl (by decide +kernel)
theorem v_law_script : Vis (defScope st_law) ("script" : Str) := .inl (by decide +kernel)
theorem g_law__law_pool : ((defScope st_law)).names.lookup ("_law_pool" : Str) = some .globalImplicit := by decide +kernel
theorem o_law_pool : Loc (defScope st_law) ("pool" : Str) := .inl (by decide +kernel)
def m_law : M Fl := (sCons (sSetN 1 (nCall false F__law_pool (aCons (eVar 0) (aCons (eLit (.int (300))) aNil)))) (sCons (sFor (iRng (aCons (eLit (.int (6))) aNil)) (.nm 2) (sCons (sSetX 3 (eOp2 ixD (eLst (aCons (eLit (.int (3))) (aCons (eLit (.int (3))) (aCons (eLit (.int (60))) aNil)))) (eOp2 modD (eCB intF (aCons (eVar 2) aNil)) (eLit (.int (3)))))) (sCons (sPar [4, 5, 6] (aCons (eCall true F__law_pair (aCons (eVar 1) (aCons (eVar 3) aNil))) (aCons (eCall true F__law_pair (aCons (eVar 1) (aCons (eVar 3) aNil))) (aCons (eCall true F__law_pair (aCons (eVar 1) (aCons (eVar 3) aNil))) aNil)))) (sCons (sFor (iDat (eLst (aCons (eLit (.bool true)) (aCons (eLit (.bool false)) aNil)))) (.nm 7) (sCons (sSetX 8 (orV (eVar 7) (eOp2 ltD (eOp2 addD (eOp2 ixD (eVar 5) (eLit (.int (1)))) (eOp2 ixD (eVar 6) (eLit (.int (1))))) (eOp2 addD (eOp2 ixD (eVar 4) (eLit (.int (0)))) (eOp2 ixD (eVar 6) (eLit (.int (0)))))))) (sCons (sSetN 9 (nLst (aCons (eCall false F_fence_is_safe (aCons (eVar 4) (aCons (eVar 5) (aCons (eVar 6) (aCons (eVar 7) aNil))))) aNil))) (sCons (sExpr (eAp (eVar 9) (eCallK [3, 2, 1, 0] F_fence_is_safe (aCons (eVar 7) (aCons (eVar 6) (aCons (eVar 5) (aCons (eVar 4) aNil))))))) (sCons (sIf (orT (eB (eOp2 neX (eCB reprF (aCons (eVar 9) aNil)) (eCB reprF (aCons (eLst (aCons (eVar 8) (aCons (eVar 8) aNil))) aNil)))) (andT (eB (eOp2 ltD (eVar 3) (eLit (.int (60))))) (eB (eOp2 neX (eCall false F__law_is_safe (aCons (eVar 4) (aCons (eVar 5) (aCons (eVar 6) (aCons (eVar 7) aNil))))) (eVar 8))))) (sCons (sRet (eLit (.bool false))) sNil) sNil) sNil))))) (sCons (sSetX 10 (eCB minF (aCons (eLit (.int (60))) (aCons (eOp2 subD (eOp2 subD (eOp2 addD (eOp2 ixD (eVar 4) (eLit (.int (0)))) (eOp2 ixD (eVar 6) (eLit (.int (0))))) (eOp2 ixD (eVar 6) (eLit (.int (1))))) (eLit (.int (1)))) aNil)))) (sCons (sSetX 8 (ifV (eB (eOp2 geD (eVar 10) (eLit (.int (0))))) (eVar 10) (eLit .none))) (sCons (sIf (eB (eOp2 neX (eCB reprF (aCons (eLst (aCons (eCall false F_greatest_use (aCons (eVar 4) (aCons (eVar 6) aNil))) (aCons (eCallK [1, 0] F_greatest_use (aCons (eVar 6) (aCons (eVar 4) aNil))) aNil))) aNil)) (eCB reprF (aCons (eLst (aCons (eVar 8) (aCons (eVar 8) aNil))) aNil)))) (sCons (sRet (eLit (.bool false))) sNil) sNil) (sCons (sIf (andT (eB (eIsN true (eVar 8))) (notT (eB (eCall false F_fence_is_safe (aCons (eVar 4) (aCons (eTup (aCons (eLit (.int (0))) (aCons (eVar 8) aNil))) (aCons (eVar 6) (aCons (eLit (.bool false)) aNil)))))))) (sCons (sRet (eLit (.bool false))) sNil) sNil) (sCons (sSetX 11 (eOp2 ixD (eLst (aCons (eLit .none) (aCons (eTup (aCons (eLit (.int (1))) (aCons (eLit (.int (0))) aNil))) (aCons (eTup (aCons (eLit (.int (0))) (aCons (eLit (.int (61))) aNil))) (aCons (eLst (aCons (eLit (.int (0))) (aCons (eLit (.int (1))) aNil))) (aCons (eTup (aCons (eLit (.int (0))) (aCons (eLit .none) aNil))) (aCons (eTup (aCons (eLit (.bool true)) (aCons (eLit (.int (2))) aNil))) (aCons (eTup (aCons (eLit (.int (1))) aNil)) (aCons (eTup (aCons (eTup (aCons (eLit (.int (0))) (aCons (eLst (aCons (eLit (.int (1))) aNil)) aNil))) aNil)) aNil))))))))) (eCall true F__law_take (aCons (eVar 1) (aCons (eLit (.int (8))) aNil))))) (sCons (sSetX 12 (eCall true F__law_take (aCons (eVar 1) (aCons (eLit (.int (4))) aNil)))) (sCons (sIf (eB (eOp2 neX (eCall false F__law_caught (aCons (eVar 12) (aCons (eVar 11) (aCons (eLit .none) (aCons (eLit (.int (5))) aNil))))) (eTup (aCons (eLit (.bool true)) (aCons (eCB reprF (aCons (eVar 11) aNil)) aNil))))) (sCons (sRet (eLit (.bool false))) sNil) sNil) (sCons (sIf (eB (eOp2 neX (eCall false F__law_caught (aCons (eVar 12) (aCons (eVar 4) (aCons (eVar 5) (aCons (eVar 11) aNil))))) (eTup (aCons (eLit (.bool true)) (aCons (eCB reprF (aCons (eVar 11) aNil)) aNil))))) (sCons (sRet (eLit (.bool false))) sNil) sNil) (sCons (sIf (andT (eB (eOp2 ltD (eVar 12) (eLit (.int (3))))) (eB (eOp2 neX (eCall false F__law_caught (aCons (eVar 12) (aCons (eVar 4) (aCons (eVar 11) (aCons (eLit .none) aNil))))) (eTup (aCons (eLit (.bool true)) (aCons (eCB reprF (aCons (eVar 11) aNil)) aNil)))))) (sCons (sRet (eLit (.bool false))) sNil) sNil) sNil))))))))))))) (sCons (sRet (eLit (.bool true))) sNil)))
def F_law : Fsp := runF false 13 m_law
theorem bi_law (T : Txt Pg K mg a d) : Binds K d.law ["script"] [] := T.f_law.binds fun _ _ _ _ _ _ us hl => match us, hl with | [_], _ => rfl
theorem ok_law (T : Txt Pg K mg a d) : FnOkG Pg wd K mg base (L2.CX Pg wd) 13 a.law d.law ["script"] (spD ⟨K, mg, Pg, wd⟩ false 1 F_law) :=
  fn_okG (k := 12) T.f_law sc_law fun cdv A outer s H E hr hG tk =>
    (ds_cons (ds_setN (i := 1) sc_law.nd rfl o_law_pool (dn_callG ((ok__law_pool T).mono (by decide : 1 ≤ 12)) hr hG g_law__law_pool T.g__law_pool T.f__law_pool.kp (bi__law_pool T) tk (da_cons (de_v (i := 0) rfl v_law_script) (da_cons de_int da_nil rfl) rfl) (alen_cons (alen_cons alen_nil)) (by decide) rfl rfl) rfl (.inl rfl)) (ds_cons (ds_for PassesOwn.leaving rfl (di_rng1 (alen_cons alen_nil) g_law_range T.b_range (da_cons de_int da_nil rfl) rfl) (dg_name (i := 2) sc_law.nd rfl o_law_turn ((.inl rfl))) (ds_cons (ds_setX (i := 3) sc_law.nd rfl o_law_most (de_ix rfl (de_lst (da_cons de_int (da_cons de_int (da_cons de_int da_nil rfl) rfl) rfl)) (de_bin op_mod opd_mod (de_cty call_int1 cbd_int g_law_int T.b_int (by decide +kernel) (da_cons (de_v (i := 2) rfl v_law_turn) da_nil rfl) (by decide) (by decide) rfl rfl) de_int) (fun _ _ => rfl)) rfl (.inl rfl)) (ds_cons (ds_par3 (i := 4) (j := 5) (l := 6) rfl sc_law.nd rfl rfl rfl (by decide) (by decide) (by decide) l_law_server l_law_use l_law_write (da_cons (de_callG ((ok__law_pair T).mono (by decide : 2 ≤ 12)) hr hG g_law__law_pair T.g__law_pair T.f__law_pair.kp (bi__law_pair T) tk (da_cons (de_v (i := 1) rfl v_law_pool) (da_cons (de_v (i := 3) rfl v_law_most) da_nil rfl) rfl) (alen_cons (alen_cons alen_nil)) (by decide) rfl rfl) (da_cons (de_callG ((ok__law_pair T).mono (by decide : 2 ≤ 12)) hr hG g_law__law_pair T.g__law_pair T.f__law_pair.kp (bi__law_pair T) tk (da_cons (de_v (i := 1) rfl v_law_pool) (da_cons (de_v (i := 3) rfl v_law_most) da_nil rfl) rfl) (alen_cons (alen_cons alen_nil)) (by decide) rfl rfl) (da_cons (de_callG ((ok__law_pair T).mono (by decide : 2 ≤ 12)) hr hG g_law__law_pair T.g__law_pair T.f__law_pair.kp (bi__law_pair T) tk (da_cons (de_v (i := 1) rfl v_law_pool) (da_cons (de_v (i := 3) rfl v_law_most) da_nil rfl) rfl) (alen_cons (alen_cons alen_nil)) (by decide) rfl rfl) da_nil rfl) rfl) rfl) rfl rfl) (ds_cons (ds_for PassesOwn.leaving rfl (di_dat rfl (de_lst (da_cons de_bool (da_cons de_bool da_nil rfl) rfl))) (dg_name (i := 7) sc_law.nd rfl o_law_fenced ((.inl rfl))) (ds_cons (ds_setX (i := 8) sc_law.nd rfl o_law_due (de_or (de_v (i := 7) rfl v_law_fenced) (pe_one (de_cmp op_lt opd_lt (de_bin op_addA (opd_add rfl) (de_ix rfl (de_v (i := 5) rfl v_law_use) de_int (fun _ _ => rfl)) (de_ix rfl (de_v (i := 6) rfl v_law_write) de_int (fun _ _ => rfl))) (de_bin op_addA (opd_add rfl) (de_ix rfl (de_v (i := 4) rfl v_law_server) de_int (fun _ _ => rfl)) (de_ix rfl (de_v (i := 6) rfl v_law_write) de_int (fun _ _ => rfl))) rfl))) rfl (.inl rfl)) (ds_cons (ds_setN (i := 9) sc_law.nd rfl o_law_told (dn_lst (da_cons (de_callG ((ok_fence_is_safe T).mono (by decide : 11 ≤ 12)) hr hG g_law_fence_is_safe T.g_fence_is_safe T.f_fence_is_safe.kp (bi_fence_is_safe T) tk (da_cons (de_v (i := 4) rfl v_law_server) (da_cons (de_v (i := 5) rfl v_law_use) (da_cons (de_v (i := 6) rfl v_law_write) (da_cons (de_v (i := 7) rfl v_law_fenced) da_nil rfl) rfl) rfl) rfl) (alen_cons (alen_cons (alen_cons (alen_cons alen_nil)))) (by decide) rfl rfl) da_nil rfl)) rfl (.inl rfl)) (ds_cons (ds_expr (de_app rfl (de_v (i := 9) rfl v_law_told) (de_kw ((ok_fence_is_safe T).mono (by decide : 11 ≤ 12)) hr hG g_law_fence_is_safe T.g_fence_is_safe T.f_fence_is_safe.kp (kwb_fence_is_safe_3_2_1_0 T) tk (dk_cons (de_v (i := 7) rfl v_law_fenced) (dk_cons (de_v (i := 6) rfl v_law_write) (dk_cons (de_v (i := 5) rfl v_law_use) (dk_cons (de_v (i := 4) rfl v_law_server) dk_nil)))) (alen_cons (alen_cons (alen_cons (alen_cons alen_nil)))) rfl (fun vs h => match vs, h with | [_, _, _, _], _ => rfl) rfl rfl rfl rfl) rfl rfl rfl rfl rfl) rfl) (ds_cons (ds_if (PW.fin (dw_or (dt_cmp (op_ne.or (op_neD (room_u64 hr))) (opd_neX rfl) (de_cb (call_reprG hG (room_u hr)) (cbd_repr rfl) g_law_repr T.b_repr (by decide +kernel) (da_cons (de_v (i := 9) rfl v_law_told) da_nil rfl) (by decide) (by decide) rfl rfl) (de_cb (call_reprG hG (room_u hr)) (cbd_repr rfl) g_law_repr T.b_repr (by decide +kernel) (da_cons (de_lst (da_cons (de_v (i := 8) rfl v_law_due) (da_cons (de_v (i := 8) rfl v_law_due) da_nil rfl) rfl)) da_nil rfl) (by decide) (by decide) rfl rfl) rfl) (pw_or1 (PW.fin (dw_and (dt_cmp op_lt opd_lt (de_v (i := 3) rfl v_law_most) de_int rfl) (pw_and1 (dt_cmp (op_ne.or (op_neD (room_u64 hr))) (opd_neX rfl) (de_callG ((ok__law_is_safe T).mono (by decide : 2 ≤ 12)) hr hG g_law__law_is_safe T.g__law_is_safe T.f__law_is_safe.kp (bi__law_is_safe T) tk (da_cons (de_v (i := 4) rfl v_law_server) (da_cons (de_v (i := 5) rfl v_law_use) (da_cons (de_v (i := 6) rfl v_law_write) (da_cons (de_v (i := 7) rfl v_law_fenced) da_nil rfl) rfl) rfl) rfl) (alen_cons (alen_cons (alen_cons (alen_cons alen_nil)))) (by decide) rfl rfl) (de_v (i := 8) rfl v_law_due) rfl))))))) (ds_cons (ds_ret de_bool) ds_nil) ds_nil) ds_nil)))) (fun _ => rfl)) (ds_cons (ds_setX (i := 10) sc_law.nd rfl o_law_high (de_cb (call_min2 rfl) cbd_min g_law_min T.b_min (by decide +kernel) (da_cons de_int (da_cons (de_bin op_sub opd_sub (de_bin op_sub opd_sub (de_bin op_addA (opd_add rfl) (de_ix rfl (de_v (i := 4) rfl v_law_server) de_int (fun _ _ => rfl)) (de_ix rfl (de_v (i := 6) rfl v_law_write) de_int (fun _ _ => rfl))) (de_ix rfl (de_v (i := 6) rfl v_law_write) de_int (fun _ _ => rfl))) de_int) da_nil rfl) rfl) (by decide) (by decide) rfl rfl) rfl (.inl rfl)) (ds_cons (ds_setX (i := 8) sc_law.nd rfl o_law_due (de_if (dt_cmp op_ge opd_ge (de_v (i := 10) rfl v_law_high) de_int rfl) (de_v (i := 10) rfl v_law_high) de_none) rfl (.inl rfl)) (ds_cons (ds_if (dt_cmp (op_ne.or (op_neD (room_u64 hr))) (opd_neX rfl) (de_cb (call_reprG hG (room_u hr)) (cbd_repr rfl) g_law_repr T.b_repr (by decide +kernel) (da_cons (de_lst (da_cons (de_callG ((ok_greatest_use T).mono (by decide : 11 ≤ 12)) hr hG g_law_greatest_use T.g_greatest_use T.f_greatest_use.kp (bi_greatest_use T) tk (da_cons (de_v (i := 4) rfl v_law_server) (da_cons (de_v (i := 6) rfl v_law_write) da_nil rfl) rfl) (alen_cons (alen_cons alen_nil)) (by decide) rfl rfl) (da_cons (de_kw ((ok_greatest_use T).mono (by decide : 11 ≤ 12)) hr hG g_law_greatest_use T.g_greatest_use T.f_greatest_use.kp (kwb_greatest_use_1_0 T) tk (dk_cons (de_v (i := 6) rfl v_law_write) (dk_cons (de_v (i := 4) rfl v_law_server) dk_nil)) (alen_cons (alen_cons alen_nil)) rfl (fun vs h => match vs, h with | [_, _], _ => rfl) rfl rfl rfl rfl) da_nil rfl) rfl)) da_nil rfl) (by decide) (by decide) rfl rfl) (de_cb (call_reprG hG (room_u hr)) (cbd_repr rfl) g_law_repr T.b_repr (by decide +kernel) (da_cons (de_lst (da_cons (de_v (i := 8) rfl v_law_due) (da_cons (de_v (i := 8) rfl v_law_due) da_nil rfl) rfl)) da_nil rfl) (by decide) (by decide) rfl rfl) rfl) (ds_cons (ds_ret de_bool) ds_nil) ds_nil) (ds_cons (ds_if (PW.fin (dw_and (dt_notNx (de_v (i := 8) rfl v_law_due)) (pw_and1 (dt_not (dt_val (de_callG ((ok_fence_is_safe T).mono (by decide : 11 ≤ 12)) hr hG g_law_fence_is_safe T.g_fence_is_safe T.f_fence_is_safe.kp (bi_fence_is_safe T) tk (da_cons (de_v (i := 4) rfl v_law_server) (da_cons (de_tup (da_cons de_int (da_cons (de_v (i := 8) rfl v_law_due) da_nil rfl) rfl)) (da_cons (de_v (i := 6) rfl v_law_write) (da_cons de_bool da_nil rfl) rfl) rfl) rfl) (alen_cons (alen_cons (alen_cons (alen_cons alen_nil)))) (by decide) rfl rfl) (fun _ => rfl)))))) (ds_cons (ds_ret de_bool) ds_nil) ds_nil) (ds_cons (ds_setX (i := 11) sc_law.nd rfl o_law_bad (de_ix rfl (de_lst (da_cons de_none (da_cons (de_tup (da_cons de_int (da_cons de_int da_nil rfl) rfl)) (da_cons (de_tup (da_cons de_int (da_cons de_int da_nil rfl) rfl)) (da_cons (de_lst (da_cons de_int (da_cons de_int da_nil rfl) rfl)) (da_cons (de_tup (da_cons de_int (da_cons de_none da_nil rfl) rfl)) (da_cons (de_tup (da_cons de_bool (da_cons de_int da_nil rfl) rfl)) (da_cons (de_tup (da_cons de_int da_nil rfl)) (da_cons (de_tup (da_cons (de_tup (da_cons de_int (da_cons (de_lst (da_cons de_int da_nil rfl)) da_nil rfl) rfl)) da_nil rfl)) da_nil rfl) rfl) rfl) rfl) rfl) rfl) rfl) rfl)) (de_callG ((ok__law_take T).mono (by decide : 1 ≤ 12)) hr hG g_law__law_take T.g__law_take T.f__law_take.kp (bi__law_take T) tk (da_cons (de_v (i := 1) rfl v_law_pool) (da_cons de_int da_nil rfl) rfl) (alen_cons (alen_cons alen_nil)) (by decide) rfl rfl) (fun _ _ => rfl)) rfl (.inl rfl)) (ds_cons (ds_setX (i := 12) sc_law.nd rfl o_law_which (de_callG ((ok__law_take T).mono (by decide : 1 ≤ 12)) hr hG g_law__law_take T.g__law_take T.f__law_take.kp (bi__law_take T) tk (da_cons (de_v (i := 1) rfl v_law_pool) (da_cons de_int da_nil rfl) rfl) (alen_cons (alen_cons alen_nil)) (by decide) rfl rfl) rfl (.inl rfl)) (ds_cons (ds_if (dt_cmp (op_ne.or (op_neD (room_u64 hr))) (opd_neX rfl) (de_callG ((ok__law_caught T).mono (by decide : 12 ≤ 12)) hr hG g_law__law_caught T.g__law_caught T.f__law_caught.kp (bi__law_caught T) tk (da_cons (de_v (i := 12) rfl v_law_which) (da_cons (de_v (i := 11) rfl v_law_bad) (da_cons de_none (da_cons de_int da_nil rfl) rfl) rfl) rfl) (alen_cons (alen_cons (alen_cons (alen_cons alen_nil)))) (by decide) rfl rfl) (de_tup (da_cons de_bool (da_cons (de_cb (call_reprG hG (room_u hr)) (cbd_repr rfl) g_law_repr T.b_repr (by decide +kernel) (da_cons (de_v (i := 11) rfl v_law_bad) da_nil rfl) (by decide) (by decide) rfl rfl) da_nil rfl) rfl)) rfl) (ds_cons (ds_ret de_bool) ds_nil) ds_nil) (ds_cons (ds_if (dt_cmp (op_ne.or (op_neD (room_u64 hr))) (opd_neX rfl) (de_callG ((ok__law_caught T).mono (by decide : 12 ≤ 12)) hr hG g_law__law_caught T.g__law_caught T.f__law_caught.kp (bi__law_caught T) tk (da_cons (de_v (i := 12) rfl v_law_which) (da_cons (de_v (i := 4) rfl v_law_server) (da_cons (de_v (i := 5) rfl v_law_use) (da_cons (de_v (i := 11) rfl v_law_bad) da_nil rfl) rfl) rfl) rfl) (alen_cons (alen_cons (alen_cons (alen_cons alen_nil)))) (by decide) rfl rfl) (de_tup (da_cons de_bool (da_cons (de_cb (call_reprG hG (room_u hr)) (cbd_repr rfl) g_law_repr T.b_repr (by decide +kernel) (da_cons (de_v (i := 11) rfl v_law_bad) da_nil rfl) (by decide) (by decide) rfl rfl) da_nil rfl) rfl)) rfl) (ds_cons (ds_ret de_bool) ds_nil) ds_nil) (ds_cons (ds_if (PW.fin (dw_and (dt_cmp op_lt opd_lt (de_v (i := 12) rfl v_law_which) de_int rfl) (pw_and1 (dt_cmp (op_ne.or (op_neD (room_u64 hr))) (opd_neX rfl) (de_callG ((ok__law_caught T).mono (by decide : 12 ≤ 12)) hr hG g_law__law_caught T.g__law_caught T.f__law_caught.kp (bi__law_caught T) tk (da_cons (de_v (i := 12) rfl v_law_which) (da_cons (de_v (i := 4) rfl v_law_server) (da_cons (de_v (i := 11) rfl v_law_bad) (da_cons de_none da_nil rfl) rfl) rfl) rfl) (alen_cons (alen_cons (alen_cons (alen_cons alen_nil)))) (by decide) rfl rfl) (de_tup (da_cons de_bool (da_cons (de_cb (call_reprG hG (room_u hr)) (cbd_repr rfl) g_law_repr T.b_repr (by decide +kernel) (da_cons (de_v (i := 11) rfl v_law_bad) da_nil rfl) (by decide) (by decide) rfl rfl) da_nil rfl) rfl)) rfl)))) (ds_cons (ds_ret de_bool) ds_nil) ds_nil) ds_nil)))))))))))) (fun _ => rfl)) (ds_cons (ds_ret de_bool) ds_nil)))
end
end
end LK

set_option Elab.async false
set_option linter.all false
set_option maxRecDepth 100000
set_option maxHeartbeats 4000000
namespace LK
noncomputable section
open PySem PySem.Spec PyProof.Rows L2 DL
/-! ### is_integer -/
def p_is_integer (value1 : D) : R D := (bd ((bd (Rk value1) (isXd (isTy "int")))) fun v4 => bd (bl v4) fun b5 => if b5 = true then ((bd ((bd (Rk value1) (isXd (isTy "bool")))) fun v2 => bd (bl v2) fun b3 => Rk (.bool (!b3)))) else Rk (.bool false))
def P_is_integer : List D → R D
  | [value1] => p_is_integer value1
  | _ => none
theorem g_is_integer (value1 : D) : FG (F_is_integer [] [value1]) (p_is_integer value1) ΨD := by
  show FG (runF false 1 m_is_integer [] [value1]) _ _
  refine fg_D (pt := [.is (.dat value1)]) ?_ ⟨rfl, trivial⟩
  unfold m_is_integer p_is_integer
  exact (st_ret retF (x_and (x_is (At.r (AtS.a (at_var rfl)))) (x_not (x_is (At.r (AtS.a (at_var rfl)))))))
theorem GP_is_integer : ∀ ds, FG (F_is_integer [] ds) (P_is_integer ds) ΨD
  | [value1] => g_is_integer value1
  | [] => trivial
  | _ :: _ :: _ => trivial
/-! ### is_between -/
def p_is_between (value1 : D) (low2 : D) (high3 : D) : R D := (bd ((p_is_integer value1)) fun v9 => bd (bl v9) fun b10 => if b10 = true then ((bd (Rk low2) fun v4 => bd (Rk value1) fun v5 => bd (lf (leD v4 v5)) fun z7 => bd (bl z7) fun t8 => if t8 = true then bd (Rk high3) fun v6 => lf (leD v5 v6) else Rk (.bool false))) else Rk (.bool false))
def P_is_between : List D → R D
  | [value1, low2, high3] => p_is_between value1 low2 high3
  | _ => none
theorem g_is_between (value1 : D) (low2 : D) (high3 : D) : FG (F_is_between [] [value1, low2, high3]) (p_is_between value1 low2 high3) ΨD := by
  show FG (runF false 3 m_is_between [] [value1, low2, high3]) _ _
  refine fg_D (pt := [.is (.dat value1), .is (.dat low2), .is (.dat high3)]) ?_ ⟨rfl, rfl, rfl, trivial⟩
  unfold m_is_between p_is_between
  exact (st_ret retF (x_and (x_call GP_is_integer (GS.a (gs_at (at_var rfl) gs_nil)) (fun _ _ => trivial)) (x_chain (At.r (AtS.a (at_var rfl))) (At.r (AtS.a (at_var rfl))) (At.r (AtS.a (at_var rfl))))))
theorem GP_is_between : ∀ ds, FG (F_is_between [] ds) (P_is_between ds) ΨD
  | [value1, low2, high3] => g_is_between value1 low2 high3
  | [] => trivial
  | [_] => trivial
  | [_, _] => trivial
  | _ :: _ :: _ :: _ :: _ => trivial
/-! ### is_tuple -/
def p_is_tuple (value1 : D) (low2 : D) (high3 : D) : R D := (bd ((bd (Rk value1) (isXd (isTy "tuple")))) fun v10 => bd (bl v10) fun b11 => if b11 = true then ((bd (Rk low2) fun v5 => bd ((lf (lenF [value1]))) fun v6 => bd (lf (leD v5 v6)) fun z8 => bd (bl z8) fun t9 => if t9 = true then bd (Rk high3) fun v7 => lf (leD v6 v7) else Rk (.bool false))) else Rk (.bool false))
def P_is_tuple : List D → R D
  | [value1, low2, high3] => p_is_tuple value1 low2 high3
  | _ => none
theorem g_is_tuple (value1 : D) (low2 : D) (high3 : D) : FG (F_is_tuple [] [value1, low2, high3]) (p_is_tuple value1 low2 high3) ΨD := by
  show FG (runF false 3 m_is_tuple [] [value1, low2, high3]) _ _
  refine fg_D (pt := [.is (.dat value1), .is (.dat low2), .is (.dat high3)]) ?_ ⟨rfl, rfl, rfl, trivial⟩
  unfold m_is_tuple p_is_tuple
  exact (st_ret retF (x_and (x_is (At.r (AtS.a (at_var rfl)))) (x_chain (At.r (AtS.a (at_var rfl))) (XE.r (x_cb1a (AtS.a (at_var rfl)))) (At.r (AtS.a (at_var rfl))))))
theorem GP_is_tuple : ∀ ds, FG (F_is_tuple [] ds) (P_is_tuple ds) ΨD
  | [value1, low2, high3] => g_is_tuple value1 low2 high3
  | [] => trivial
  | [_] => trivial
  | [_, _] => trivial
  | _ :: _ :: _ :: _ :: _ => trivial
/-! ### anew -/
def p_anew : Nat → D → R D
  | 0, _ => none
  | k + 1, value1 => (bd ((bd ((bd (Rk value1) (isXd (isTy "list")))) bl)) fun b2 => if b2 = true then (bd ((bd ((itR' value1)) fun l5 => mapR (fun d4 => (p_anew k d4)) l5)) fun l6 => Rk (.list l6)) else (bd ((bd ((bd (Rk value1) (isXd (isTy "tuple")))) bl)) fun b7 => if b7 = true then (bd ((bd ((bd ((itR' value1)) fun l10 => mapR (fun d9 => (p_anew k d9)) l10)) fun l11 => Rk (.list l11))) fun v12 => lf (tupleF [v12])) else (Rk value1)))
def P_anew (k : Nat) : List D → R D
  | [value1] => p_anew k value1
  | _ => none
theorem g_anew : ∀ (k : Nat) (value1 : D), FG (F_anew k [] [value1]) (p_anew k value1) ΨD
  | 0, value1 => trivial
  | k + 1, value1 => by
    have GP_anew : ∀ (k0 : Nat), k0 = k → ∀ ds, FG (F_anew k0 [] ds) (P_anew k0 ds) ΨD := fun k0 h ds => by
      subst h
      match ds with
      | [value1] => exact g_anew k0 value1
      | [] => exact True.intro
      | _ :: _ :: _ => exact True.intro
    show FG (runF false 2 (m_anew (F_anew k)) [] [value1]) _ _
    refine fg_D (pt := [.is (.dat value1), .any]) ?_ ⟨rfl, .inl rfl, trivial⟩
    unfold m_anew p_anew
    exact (st_if (t_b (x_is (At.r (AtS.a (at_var rfl))))) (st_assoc (st_retND (inj := id) retF (n_map (E2 := fun _ => True) (i_at (at_var rfl)) rfl (all_lt rfl) (fun d4 acc3 => (lt_map1 rfl (x_call (GP_anew k rfl) (GS.a (gs_at (at_var rfl) gs_nil)) (fun _ _ => trivial)) (.c .r (.c .a (.c .r .n)))))))) (st_nilr (st_if (t_b (x_is (At.r (AtS.a (at_var rfl))))) (st_assoc (st_ret retF (x_cb1 (XE.r (x_lc (n_map (E2 := fun _ => True) (i_at (at_var rfl)) rfl (all_lt rfl) (fun d9 acc8 => (lt_map1 rfl (x_call (GP_anew k rfl) (GS.a (gs_at (at_var rfl) gs_nil)) (fun _ _ => trivial)) (.c .r (.c .a (.c .r .n))))))))))) (st_nilr (st_retA (inj := id) retF (at_var rfl))))))
theorem GP_anew (k : Nat) : ∀ ds, FG (F_anew k [] ds) (P_anew k ds) ΨD
  | [value1] => g_anew k value1
  | [] => trivial
  | _ :: _ :: _ => trivial
/-! ### product_of -/
def p_product_of (team1 : D) : R D := (bd ((bd ((lf (ixD team1 (.int (1))))) itR')) fun l5 => bd (forR (fun (s6 : D) d7 => (bd ((lf (ixD d7 (.int (0))))) fun v12 => bd (lf (imulD s6 v12)) fun found13 => (Rk found13))) (.int (1)) l5) fun (s14 : D) => (Rk s14))
def P_product_of : List D → R D
  | [team1] => p_product_of team1
  | _ => none
theorem g_product_of (team1 : D) : FG (F_product_of [] [team1]) (p_product_of team1) ΨD := by
  show FG (runF false 3 m_product_of [] [team1]) _ _
  refine fg_D (pt := [.is (.dat team1), .any, .any]) ?_ ⟨rfl, .inl rfl, .inl rfl, trivial⟩
  unfold m_product_of p_product_of
  exact (st_setA at_lit rfl (st_for (fun (s9 : D) => [.is (.dat team1), .is (.dat s9), .any]) (.int (1)) (i_dat (x_op2c (AtS.a (at_var rfl)) (AtS.a at_lit))) (.c .r (.c .r (.c .r .n))) (fun s6 d7 => (sb_nm rfl (st_aug rfl (XE.r (x_op2c (AtS.a (at_var rfl)) (AtS.a at_lit))) (fun found13 => (st_l (.c .r (.c .r (.c .a .n)))))))) (fun s14 => (st_retA (inj := id) retF (at_var rfl)))))
theorem GP_product_of : ∀ ds, FG (F_product_of [] ds) (P_product_of ds) ΨD
  | [team1] => g_product_of team1
  | [] => trivial
  | _ :: _ :: _ => trivial
/-! ### places_of -/
def p_places_of (team1 : D) (place2 : D) : R D := (bd ((bd ((bd ((lf (ixD team1 (.int (1))))) fun v6 => lf (revX v6))) itR')) fun l7 => bd (forR (fun (s8 : D × (List D)) d9 => (bd ((bd ((lf (ixD d9 (.int (0))))) fun v15 => lf (modD s8.1 v15))) fun v16 => bd (appR s8.2 v16) fun found17 => (bd ((lf (ixD d9 (.int (0))))) fun v20 => bd (lf (fdivD s8.1 v20)) fun place21 => (Rk (place21, found17))))) (place2, []) l7) fun (s22 : D × (List D)) => (bd ((lf (revX (.list s22.2)))) fun v24 => lf (tupleF [v24])))
def P_places_of : List D → R D
  | [team1, place2] => p_places_of team1 place2
  | _ => none
theorem g_places_of (team1 : D) (place2 : D) : FG (F_places_of [] [team1, place2]) (p_places_of team1 place2) ΨD := by
  show FG (runF false 4 m_places_of [] [team1, place2]) _ _
  refine fg_D (pt := [.is (.dat team1), .is (.dat place2), .any, .any]) ?_ ⟨rfl, rfl, .inl rfl, .inl rfl, trivial⟩
  unfold m_places_of p_places_of
  exact (st_setNA al_nil rfl rfl (st_for (fun (s11 : D × (List D)) => [.is (.dat team1), .is (.dat s11.1), .is (.lst s11.2), .any]) (place2, []) (i_dat (x_op1 (XE.r (x_op2c (AtS.a (at_var rfl)) (AtS.a at_lit))))) (.c .r (.c .r (.c .r (.c .r .n)))) (fun s8 d9 => (sb_nm rfl (st_app (x_op2a (AtS.a (at_var rfl)) (XE.r (x_op2c (AtS.a (at_var rfl)) (AtS.a at_lit)))) rfl rfl rfl (fun found17 => (st_aug rfl (XE.r (x_op2c (AtS.a (at_var rfl)) (AtS.a at_lit))) (fun place21 => (st_l (.c .r (.c .r (.c .r (.c .a .n))))))))))) (fun s22 => (st_ret retF (x_cb1 (XE.r (x_op1a (at_ownL rfl rfl))))))))
theorem GP_places_of : ∀ ds, FG (F_places_of [] ds) (P_places_of ds) ΨD
  | [team1, place2] => g_places_of team1 place2
  | [] => trivial
  | [_] => trivial
  | _ :: _ :: _ :: _ => trivial
/-! ### goals_by -/
def p_goals_by (team1 : D) (wanted2 : D) : R D := (bd ((bd ((p_product_of team1)) fun v4 => (lf (rngF [v4])))) fun l5 => bd (forR (fun (s6 : (List D)) d7 => (bd ((bd ((bd ((bd ((bd ((bd ((p_places_of team1 d7)) fun v10 => (lf (zipX [v10, wanted2])))) fun l14 => mapR (fun d12 => bd (un2 d12) fun t13 => (bd ((bd (Rk t13.2) fun v15 => Rk (.bool (if false then !isNoneB v15 else isNoneB v15)))) fun v18 => bd (bl v18) fun b19 => if b19 = true then Rk (.bool true) else ((lf (inY t13.1 t13.2))))) l14)) fun l20 => Rk (.list l20))) fun v21 => lf (allF [v21]))) bl)) fun b22 => if b22 = true then (bd (Rk d7) fun v23 => bd (appR s6 v23) fun found24 => (Rk found24)) else (Rk s6))) [] l5) fun (s25 : (List D)) => (lf (tupleF [(.list s25)])))
def P_goals_by : List D → R D
  | [team1, wanted2] => p_goals_by team1 wanted2
  | _ => none
theorem g_goals_by (team1 : D) (wanted2 : D) : FG (F_goals_by [] [team1, wanted2]) (p_goals_by team1 wanted2) ΨD := by
  show FG (runF false 6 m_goals_by [] [team1, wanted2]) _ _
  refine fg_D (pt := [.is (.dat team1), .is (.dat wanted2), .any, .any, .any, .any]) ?_ ⟨rfl, rfl, .inl rfl, .inl rfl, .inl rfl, .inl rfl, trivial⟩
  unfold m_goals_by p_goals_by
  exact (st_setNA al_nil rfl rfl (st_for (fun (s9 : (List D)) => [.is (.dat team1), .is (.dat wanted2), .is (.lst s9), .any, .any, .any]) [] (i_rng (gs_cons (x_call GP_product_of (GS.a (gs_at (at_var rfl) gs_nil)) (fun _ _ => trivial)) (fun v4 => gs_nil))) (.c .r (.c .r (.c .r (.c .r (.c .r (.c .r .n)))))) (fun s6 d7 => (sb_nm rfl (st_if (t_b (x_cb1 (XE.r (x_lc (n_map (E2 := fun _ => True) (i_zipX (GS.a (gs_cons (x_call GP_places_of (GS.a (gs_at (at_var rfl) (gs_at (at_var rfl) gs_nil))) (fun _ _ => trivial)) (fun v10 => (gs_at (at_var rfl) gs_nil))))) rfl (all_lt rfl) (fun d12 acc11 => (lt_map (s_tp2 rfl (fun _ => rfl)) (fun t13 => (x_or (x_isN (At.r (AtS.a (at_var rfl)))) (x_op2c (AtS.a (at_var rfl)) (AtS.a (at_var rfl))))) (fun t13 => (.c .r (.c .r (.c .r (.c .r (.c .a (.c .a (.c .r .n))))))))))))))) (st_assoc (st_app (AtS.e (at_var rfl)) rfl rfl rfl (fun found24 => (st_nilr (st_l (.c .r (.c .r (.c .r (.c .a (.c .r (.c .r .n))))))))))) (st_nilr (st_l (.c .r (.c .r (.c .r (.c .a (.c .r (.c .r .n))))))))))) (fun s25 => (st_ret retF (x_cb1a (at_ownL rfl rfl))))))
theorem GP_goals_by : ∀ ds, FG (F_goals_by [] ds) (P_goals_by ds) ΨD
  | [team1, wanted2] => g_goals_by team1 wanted2
  | [] => trivial
  | [_] => trivial
  | _ :: _ :: _ :: _ => trivial
/-! ### are_bounds -/
def p_are_bounds (value1 : D) : R D := (bd ((bd ((bd ((bd ((p_is_tuple value1 (.int (2)) (.int (2)))) bl)) fun b2 => Rk (!b2))) fun b7 => if b7 = true then Rk true else (bd ((bd ((bd ((lf (ixD value1 (.int (0))))) fun v5 => (p_is_between v5 (.int (0)) (.int (60))))) bl)) fun b6 => Rk (!b6)))) fun b8 => if b8 = true then (Rk (.bool false)) else (bd ((lf (ixD value1 (.int (1))))) fun v14 => (bd ((lf (ixD value1 (.int (0))))) fun v15 => (p_is_between v14 v15 (.int (60))))))
def P_are_bounds : List D → R D
  | [value1] => p_are_bounds value1
  | _ => none
theorem g_are_bounds (value1 : D) : FG (F_are_bounds [] [value1]) (p_are_bounds value1) ΨD := by
  show FG (runF false 1 m_are_bounds [] [value1]) _ _
  refine fg_D (pt := [.is (.dat value1)]) ?_ ⟨rfl, trivial⟩
  unfold m_are_bounds p_are_bounds
  exact (st_if (t_or (t_not (t_b (x_call GP_is_tuple (GS.a (gs_at (at_var rfl) (gs_at at_lit (gs_at at_lit gs_nil)))) (fun _ _ => trivial)))) (t_not (t_b (x_call GP_is_between (GS.a (gs_cons (x_op2c (AtS.a (at_var rfl)) (AtS.a at_lit)) (fun v5 => (gs_at at_lit (gs_at at_lit gs_nil))))) (fun _ _ => trivial))))) (st_assoc (st_retA (inj := id) retF at_lit)) (st_nilr (st_ret retF (x_call GP_is_between (GS.a (gs_cons (x_op2c (AtS.a (at_var rfl)) (AtS.a at_lit)) (fun v14 => (gs_cons (x_op2c (AtS.a (at_var rfl)) (AtS.a at_lit)) (fun v15 => (gs_at at_lit gs_nil)))))) (fun _ _ => trivial)))))
theorem GP_are_bounds : ∀ ds, FG (F_are_bounds [] ds) (P_are_bounds ds) ΨD
  | [value1] => g_are_bounds value1
  | [] => trivial
  | _ :: _ :: _ => trivial
/-! ### need_bounds -/
def p_need_bounds (bounds1 : D) : R D := (bd ((itR' bounds1)) fun l2 => bd (forR (fun (s3 : Unit) d4 => (bd ((bd ((bd ((p_are_bounds d4)) bl)) fun b7 => Rk (!b7))) fun b8 => if b8 = true then (bd ((p_anew 8 d4)) fun v9 => Rx ("InvalidBounds", v9)) else (Rk ()))) () l2) fun (s10 : Unit) => (Rk .none))
def P_need_bounds : List D → R D
  | [bounds1] => p_need_bounds bounds1
  | _ => none
theorem g_need_bounds (bounds1 : D) : FG (F_need_bounds [] [bounds1]) (p_need_bounds bounds1) ΨD := by
  show FG (runF false 2 m_need_bounds [] [bounds1]) _ _
  refine fg_D (pt := [.is (.dat bounds1), .any]) ?_ ⟨rfl, .inl rfl, trivial⟩
  unfold m_need_bounds p_need_bounds
  exact (st_for (fun (s6 : Unit) => [.is (.dat bounds1), .any]) () (i_at (at_var rfl)) (.c .r (.c .r .n)) (fun s3 d4 => (sb_nm rfl (st_if (t_not (t_b (x_call GP_are_bounds (GS.a (gs_at (at_var rfl) gs_nil)) (fun _ _ => trivial)))) (st_assoc (st_raise (hE := (fun _ _ => trivial)) (x_call (GP_anew 8) (GS.a (gs_at (at_var rfl) gs_nil)) (fun _ _ => trivial)))) (st_nilr (st_l (.c .r (.c .a .n))))))) (fun s10 => st_endD))
theorem GP_need_bounds : ∀ ds, FG (F_need_bounds [] ds) (P_need_bounds ds) ΨD
  | [bounds1] => g_need_bounds bounds1
  | [] => trivial
  | _ :: _ :: _ => trivial
/-! ### server_party -/
def p_server_party  : R D := (bd ((lf (tupleF [(.list [(.tuple [(.int (0)), (.tuple [(.str "timer"), (.int (0))]), (.int (1)), (.tuple []), (.tuple []), .none]), (.tuple [(.int (1)), (.tuple [(.str "free")]), (.int (2)), (.tuple []), (.tuple []), .none]), (.tuple [(.int (2)), (.tuple [(.str "free")]), (.int (3)), (.tuple [(.int (3))]), (.tuple []), .none])])]))) fun v3 => Rk (.tuple [(.int (4)), v3, (.tuple [(.int (0)), (.tuple [(.int (0))])])]))
def P_server_party : List D → R D
  | [] => p_server_party 
  | _ => none
theorem g_server_party  : FG (F_server_party [] []) (p_server_party ) ΨD := by
  show FG (runF false 1 m_server_party [] []) _ _
  refine fg_D (pt := [.any]) ?_ ⟨.inl rfl, trivial⟩
  unfold m_server_party p_server_party
  exact (st_setA (at_lst (al_cons (at_tup (al_cons at_lit (al_cons (at_tup (al_cons at_lit (al_cons at_lit al_nil)) rfl) (al_cons at_lit (al_cons (at_tup al_nil rfl) (al_cons (at_tup al_nil rfl) (al_cons at_lit al_nil)))))) rfl) (al_cons (at_tup (al_cons at_lit (al_cons (at_tup (al_cons at_lit al_nil) rfl) (al_cons at_lit (al_cons (at_tup al_nil rfl) (al_cons (at_tup al_nil rfl) (al_cons at_lit al_nil)))))) rfl) (al_cons (at_tup (al_cons at_lit (al_cons (at_tup (al_cons at_lit al_nil) rfl) (al_cons at_lit (al_cons (at_tup (al_cons at_lit al_nil) rfl) (al_cons (at_tup al_nil rfl) (al_cons at_lit al_nil)))))) rfl) al_nil))) rfl) rfl (st_ret retF (x_tup (GS.a (gs_at at_lit (gs_cons (x_cb1a (AtS.a (at_var rfl))) (fun v3 => (gs_at (at_tup (al_cons at_lit (al_cons (at_tup (al_cons at_lit al_nil) rfl) al_nil)) rfl) gs_nil))))))))
theorem GP_server_party : ∀ ds, FG (F_server_party [] ds) (P_server_party ds) ΨD
  | [] => g_server_party 
  | _ :: _ => trivial
/-! ### holder_party -/
def p_holder_party  : R D := (Rk (.tuple [(.int (3)), (.tuple [(.tuple [(.int (0)), (.tuple [(.str "free")]), (.int (2)), (.tuple [(.int (2))]), (.tuple []), .none]), (.tuple [(.int (0)), (.tuple [(.str "timer"), (.int (1))]), (.int (1)), (.tuple []), (.tuple []), .none])]), (.tuple [(.int (0)), (.tuple [(.int (1))])])]))
def P_holder_party : List D → R D
  | [] => p_holder_party 
  | _ => none
theorem g_holder_party  : FG (F_holder_party [] []) (p_holder_party ) ΨD := by
  show FG (runF false 0 m_holder_party [] []) _ _
  refine fg_D (pt := []) ?_ trivial
  unfold m_holder_party p_holder_party
  exact (st_retA (inj := id) retF (at_tup (al_cons at_lit (al_cons (at_tup (al_cons (at_tup (al_cons at_lit (al_cons (at_tup (al_cons at_lit al_nil) rfl) (al_cons at_lit (al_cons (at_tup (al_cons at_lit al_nil) rfl) (al_cons (at_tup al_nil rfl) (al_cons at_lit al_nil)))))) rfl) (al_cons (at_tup (al_cons at_lit (al_cons (at_tup (al_cons at_lit (al_cons at_lit al_nil)) rfl) (al_cons at_lit (al_cons (at_tup al_nil rfl) (al_cons (at_tup al_nil rfl) (al_cons at_lit al_nil)))))) rfl) al_nil)) rfl) (al_cons (at_tup (al_cons at_lit (al_cons (at_tup (al_cons at_lit al_nil) rfl) al_nil)) rfl) al_nil))) rfl))
theorem GP_holder_party : ∀ ds, FG (F_holder_party [] ds) (P_holder_party ds) ΨD
  | [] => g_holder_party 
  | _ :: _ => trivial
/-! ### store_party -/
def p_store_party (fenced1 : D) : R D := (bd ((bd ((bd ((bd ((bd (Rk fenced1) bl)) fun c2 => if c2 = true then Rk (.int (2)) else Rk (.int (3)))) fun v3 => Rk (.tuple [(.int (2)), (.tuple [(.str "timer"), (.int (2))]), v3, (.tuple []), (.tuple []), .none]))) fun v4 => Rk [(.tuple [(.int (0)), (.tuple [(.str "timer"), (.int (2))]), (.int (1)), (.tuple []), (.tuple []), .none]), v4])) fun steps5 => (bd ((Rk [(.tuple [(.int (0)), (.tuple [(.str "timer"), (.int (3))]), (.int (2)), (.tuple []), (.tuple []), .none]), (.tuple [(.int (1)), (.tuple [(.str "timer"), (.int (3))]), (.int (2)), (.tuple []), (.tuple []), .none])])) fun v6 => bd (extR steps5 v6) fun steps7 => (bd ((lf (tupleF [(.list steps7)]))) fun v9 => Rk (.tuple [(.int (4)), v9, (.tuple [(.int (0)), (.tuple [])])]))))
def P_store_party : List D → R D
  | [fenced1] => p_store_party fenced1
  | _ => none
theorem g_store_party (fenced1 : D) : FG (F_store_party [] [fenced1]) (p_store_party fenced1) ΨD := by
  show FG (runF false 2 m_store_party [] [fenced1]) _ _
  refine fg_D (pt := [.is (.dat fenced1), .any]) ?_ ⟨rfl, .inl rfl, trivial⟩
  unfold m_store_party p_store_party
  exact (st_setN (n_lst (GS.a (gs_at (at_tup (al_cons at_lit (al_cons (at_tup (al_cons at_lit (al_cons at_lit al_nil)) rfl) (al_cons at_lit (al_cons (at_tup al_nil rfl) (al_cons (at_tup al_nil rfl) (al_cons at_lit al_nil)))))) rfl) (gs_cons (x_tup (GS.a (gs_at at_lit (gs_at (at_tup (al_cons at_lit (al_cons at_lit al_nil)) rfl) (gs_cons (x_if (t_b (AtS.e (at_var rfl))) (AtS.e at_lit) (AtS.e at_lit)) (fun v3 => (gs_at (at_tup al_nil rfl) (gs_at (at_tup al_nil rfl) (gs_at at_lit gs_nil))))))))) (fun v4 => gs_nil))))) rfl (fun steps5 => (st_ext (n_lst (GS.a (gs_at (at_tup (al_cons at_lit (al_cons (at_tup (al_cons at_lit (al_cons at_lit al_nil)) rfl) (al_cons at_lit (al_cons (at_tup al_nil rfl) (al_cons (at_tup al_nil rfl) (al_cons at_lit al_nil)))))) rfl) (gs_at (at_tup (al_cons at_lit (al_cons (at_tup (al_cons at_lit (al_cons at_lit al_nil)) rfl) (al_cons at_lit (al_cons (at_tup al_nil rfl) (al_cons (at_tup al_nil rfl) (al_cons at_lit al_nil)))))) rfl) gs_nil)))) rfl rfl rfl (fun steps7 => (st_ret retF (x_tup (GS.a (gs_at at_lit (gs_cons (x_cb1a (at_ownL rfl rfl)) (fun v9 => (gs_at (at_tup (al_cons at_lit (al_cons (at_tup al_nil rfl) al_nil)) rfl) gs_nil)))))))))))
theorem GP_store_party : ∀ ds, FG (F_store_party [] ds) (P_store_party ds) ΨD
  | [fenced1] => g_store_party fenced1
  | [] => trivial
  | _ :: _ :: _ => trivial
/-! ### team_by -/
def p_team_by (server1 : D) (use2 : D) (write3 : D) (fenced4 : D) : R D := (bd ((bd ((p_server_party )) fun v5 => (bd ((p_holder_party )) fun v6 => (bd ((p_store_party fenced4)) fun v7 => Rk (.tuple [v5, v6, v7]))))) fun v8 => Rk (.tuple [(.tuple [server1, use2, write3, write3]), v8]))
def P_team_by : List D → R D
  | [server1, use2, write3, fenced4] => p_team_by server1 use2 write3 fenced4
  | _ => none
theorem g_team_by (server1 : D) (use2 : D) (write3 : D) (fenced4 : D) : FG (F_team_by [] [server1, use2, write3, fenced4]) (p_team_by server1 use2 write3 fenced4) ΨD := by
  show FG (runF false 4 m_team_by [] [server1, use2, write3, fenced4]) _ _
  refine fg_D (pt := [.is (.dat server1), .is (.dat use2), .is (.dat write3), .is (.dat fenced4)]) ?_ ⟨rfl, rfl, rfl, rfl, trivial⟩
  unfold m_team_by p_team_by
  exact (st_ret retF (x_tup (GS.a (gs_at (at_tup (al_cons (at_var rfl) (al_cons (at_var rfl) (al_cons (at_var rfl) (al_cons (at_var rfl) al_nil)))) rfl) (gs_cons (x_tup (GS.a (gs_cons (x_call GP_server_party (GS.a gs_nil) (fun _ _ => trivial)) (fun v5 => (gs_cons (x_call GP_holder_party (GS.a gs_nil) (fun _ _ => trivial)) (fun v6 => (gs_cons (x_call GP_store_party (GS.a (gs_at (at_var rfl) gs_nil)) (fun _ _ => trivial)) (fun v7 => gs_nil)))))))) (fun v8 => gs_nil))))))
theorem GP_team_by : ∀ ds, FG (F_team_by [] ds) (P_team_by ds) ΨD
  | [server1, use2, write3, fenced4] => g_team_by server1 use2 write3 fenced4
  | [] => trivial
  | [_] => trivial
  | [_, _] => trivial
  | [_, _, _] => trivial
  | _ :: _ :: _ :: _ :: _ :: _ => trivial
/-! ### fence_team -/
def p_fence_team (server1 : D) (use2 : D) (write3 : D) (fenced4 : D) : R D := (bd ((p_need_bounds (.tuple [server1, use2, write3]))) fun v5 => (p_team_by server1 use2 write3 fenced4))
def P_fence_team : List D → R D
  | [server1, use2, write3, fenced4] => p_fence_team server1 use2 write3 fenced4
  | _ => none
theorem g_fence_team (server1 : D) (use2 : D) (write3 : D) (fenced4 : D) : FG (F_fence_team [] [server1, use2, write3, fenced4]) (p_fence_team server1 use2 write3 fenced4) ΨD := by
  show FG (runF false 4 m_fence_team [] [server1, use2, write3, fenced4]) _ _
  refine fg_D (pt := [.is (.dat server1), .is (.dat use2), .is (.dat write3), .is (.dat fenced4)]) ?_ ⟨rfl, rfl, rfl, rfl, trivial⟩
  unfold m_fence_team p_fence_team
  exact (st_expr (x_call GP_need_bounds (GS.a (gs_at (at_tup (al_cons (at_var rfl) (al_cons (at_var rfl) (al_cons (at_var rfl) al_nil))) rfl) gs_nil)) (fun _ _ => trivial)) (fun v5 => (st_ret retF (x_call GP_team_by (GS.a (gs_at (at_var rfl) (gs_at (at_var rfl) (gs_at (at_var rfl) (gs_at (at_var rfl) gs_nil))))) (fun _ _ => trivial)))))
theorem GP_fence_team : ∀ ds, FG (F_fence_team [] ds) (P_fence_team ds) ΨD
  | [server1, use2, write3, fenced4] => g_fence_team server1 use2 write3 fenced4
  | [] => trivial
  | [_] => trivial
  | [_, _] => trivial
  | [_, _, _] => trivial
  | _ :: _ :: _ :: _ :: _ :: _ => trivial
/-! ### fence_goals -/
def p_fence_goals (server1 : D) (use2 : D) (write3 : D) (fenced4 : D) : R D := (bd ((p_need_bounds (.tuple [server1, use2, write3]))) fun v5 => (bd ((p_team_by server1 use2 write3 fenced4)) fun v6 => (p_goals_by v6 (.tuple [.none, .none, (.tuple [(.int (3))])]))))
def P_fence_goals : List D → R D
  | [server1, use2, write3, fenced4] => p_fence_goals server1 use2 write3 fenced4
  | _ => none
theorem g_fence_goals (server1 : D) (use2 : D) (write3 : D) (fenced4 : D) : FG (F_fence_goals [] [server1, use2, write3, fenced4]) (p_fence_goals server1 use2 write3 fenced4) ΨD := by
  show FG (runF false 4 m_fence_goals [] [server1, use2, write3, fenced4]) _ _
  refine fg_D (pt := [.is (.dat server1), .is (.dat use2), .is (.dat write3), .is (.dat fenced4)]) ?_ ⟨rfl, rfl, rfl, rfl, trivial⟩
  unfold m_fence_goals p_fence_goals
  exact (st_expr (x_call GP_need_bounds (GS.a (gs_at (at_tup (al_cons (at_var rfl) (al_cons (at_var rfl) (al_cons (at_var rfl) al_nil))) rfl) gs_nil)) (fun _ _ => trivial)) (fun v5 => (st_ret retF (x_call GP_goals_by (GS.a (gs_cons (x_call GP_team_by (GS.a (gs_at (at_var rfl) (gs_at (at_var rfl) (gs_at (at_var rfl) (gs_at (at_var rfl) gs_nil))))) (fun _ _ => trivial)) (fun v6 => (gs_at (at_tup (al_cons at_lit (al_cons at_lit (al_cons (at_tup (al_cons at_lit al_nil) rfl) al_nil))) rfl) gs_nil)))) (fun _ _ => trivial)))))
theorem GP_fence_goals : ∀ ds, FG (F_fence_goals [] ds) (P_fence_goals ds) ΨD
  | [server1, use2, write3, fenced4] => g_fence_goals server1 use2 write3 fenced4
  | [] => trivial
  | [_] => trivial
  | [_, _] => trivial
  | [_, _, _] => trivial
  | _ :: _ :: _ :: _ :: _ :: _ => trivial
/-! ### fence_is_safe -/
def p_fence_is_safe (server1 : D) (use2 : D) (write3 : D) (fenced4 : D) : R D := (bd ((p_need_bounds (.tuple [server1, use2, write3]))) fun v5 => (bd (Rk fenced4) fun v20 => bd (bl v20) fun b21 => if b21 = true then Rk (.bool true) else ((bd ((bd ((lf (ixD use2 (.int (1))))) fun v10 => bd ((lf (ixD write3 (.int (1))))) fun v11 => lf (addD v10 v11))) fun v18 => bd ((bd ((lf (ixD server1 (.int (0))))) fun v16 => bd ((lf (ixD write3 (.int (0))))) fun v17 => lf (addD v16 v17))) fun v19 => lf (ltD v18 v19)))))
def P_fence_is_safe : List D → R D
  | [server1, use2, write3, fenced4] => p_fence_is_safe server1 use2 write3 fenced4
  | _ => none
theorem g_fence_is_safe (server1 : D) (use2 : D) (write3 : D) (fenced4 : D) : FG (F_fence_is_safe [] [server1, use2, write3, fenced4]) (p_fence_is_safe server1 use2 write3 fenced4) ΨD := by
  show FG (runF false 4 m_fence_is_safe [] [server1, use2, write3, fenced4]) _ _
  refine fg_D (pt := [.is (.dat server1), .is (.dat use2), .is (.dat write3), .is (.dat fenced4)]) ?_ ⟨rfl, rfl, rfl, rfl, trivial⟩
  unfold m_fence_is_safe p_fence_is_safe
  exact (st_expr (x_call GP_need_bounds (GS.a (gs_at (at_tup (al_cons (at_var rfl) (al_cons (at_var rfl) (al_cons (at_var rfl) al_nil))) rfl) gs_nil)) (fun _ _ => trivial)) (fun v5 => (st_ret retF (x_or (AtS.e (at_var rfl)) (x_op2 (XE.r (x_op2 (XE.r (x_op2c (AtS.a (at_var rfl)) (AtS.a at_lit))) (XE.r (x_op2c (AtS.a (at_var rfl)) (AtS.a at_lit))))) (XE.r (x_op2 (XE.r (x_op2c (AtS.a (at_var rfl)) (AtS.a at_lit))) (XE.r (x_op2c (AtS.a (at_var rfl)) (AtS.a at_lit))))))))))
theorem GP_fence_is_safe : ∀ ds, FG (F_fence_is_safe [] ds) (P_fence_is_safe ds) ΨD
  | [server1, use2, write3, fenced4] => g_fence_is_safe server1 use2 write3 fenced4
  | [] => trivial
  | [_] => trivial
  | [_, _] => trivial
  | [_, _, _] => trivial
  | _ :: _ :: _ :: _ :: _ :: _ => trivial
/-! ### greatest_use -/
def p_greatest_use (server1 : D) (write2 : D) : R D := (bd ((p_need_bounds (.tuple [server1, write2]))) fun v3 => (bd ((bd ((bd ((bd ((bd ((lf (ixD server1 (.int (0))))) fun v8 => bd ((lf (ixD write2 (.int (0))))) fun v9 => lf (addD v8 v9))) fun v12 => bd ((lf (ixD write2 (.int (1))))) fun v13 => lf (subD v12 v13))) fun v14 => lf (subD v14 (.int (1))))) fun v16 => (lf (minF [(.int (60)), v16])))) fun found17 => (bd ((bd ((lf (geD found17 (.int (0))))) bl)) fun c20 => if c20 = true then Rk found17 else Rk .none)))
def P_greatest_use : List D → R D
  | [server1, write2] => p_greatest_use server1 write2
  | _ => none
theorem g_greatest_use (server1 : D) (write2 : D) : FG (F_greatest_use [] [server1, write2]) (p_greatest_use server1 write2) ΨD := by
  show FG (runF false 3 m_greatest_use [] [server1, write2]) _ _
  refine fg_D (pt := [.is (.dat server1), .is (.dat write2), .any]) ?_ ⟨rfl, rfl, .inl rfl, trivial⟩
  unfold m_greatest_use p_greatest_use
  exact (st_expr (x_call GP_need_bounds (GS.a (gs_at (at_tup (al_cons (at_var rfl) (al_cons (at_var rfl) al_nil)) rfl) gs_nil)) (fun _ _ => trivial)) (fun v3 => (st_set (x_cb (gs_at at_lit (gs_cons (x_op2b (XE.r (x_op2 (XE.r (x_op2 (XE.r (x_op2c (AtS.a (at_var rfl)) (AtS.a at_lit))) (XE.r (x_op2c (AtS.a (at_var rfl)) (AtS.a at_lit))))) (XE.r (x_op2c (AtS.a (at_var rfl)) (AtS.a at_lit))))) (AtS.a at_lit)) (fun v16 => gs_nil)))) rfl (fun found17 => (st_ret retF (x_if (t_b (x_op2c (AtS.a (at_var rfl)) (AtS.a at_lit))) (AtS.e (at_var rfl)) (AtS.e at_lit)))))))
theorem GP_greatest_use : ∀ ds, FG (F_greatest_use [] ds) (P_greatest_use ds) ΨD
  | [server1, write2] => g_greatest_use server1 write2
  | [] => trivial
  | [_] => trivial
  | _ :: _ :: _ :: _ => trivial
/-! ### _law_pool -/
def p__law_pool (script1 : D) (many2 : D) : R (List D) := (bd ((bd ((bd (Rk script1) fun v5 => bd (Rk none) fun l6 => bd ((bd (Rk (.int (63))) itR)) fun h7 => lf (slF v5 l6 h7))) itR')) fun l8 => bd (forR (fun (s9 : (List D) × D) d10 => (bd ((bd ((lf (intF [d10]))) fun v14 => lf (absF [v14]))) fun left15 => (bd ((bd ((bd ((bd ((bd ((lf (mulX s9.2 (.int (48271))))) fun v21 => bd ((bd ((lf (intF [left15]))) fun v19 => lf (modD v19 (.int (2147483629))))) fun v22 => lf (addD v21 v22))) fun v26 => bd ((bd ((lf (lenF [(.list s9.1)]))) fun v25 => lf (mulX (.int (7)) v25))) fun v27 => lf (addD v26 v27))) fun v31 => bd ((bd ((lf (ltD d10 (.int (0))))) fun v30 => lf (intF [v30]))) fun v32 => lf (addD v31 v32))) fun v33 => lf (modD v33 (.int (2147483647))))) fun seed35 => (bd ((bd ((bd ((lf (powD (.int (10)) (.int (18))))) fun v39 => lf (geD left15 v39))) bl)) fun b40 => if b40 = true then (bd ((lf (rngF [(.int (60))]))) fun l41 => bd (forR (fun (s42 : (List D) × D) d43 => (bd ((bd ((lf (gtD s42.2 (.int (0))))) bl)) fun b48 => if b48 = true then (bd ((bd ((lf (intF [s42.2]))) fun v50 => lf (modD v50 (.int (1000))))) fun v52 => bd (appR s42.1 v52) fun pool53 => (bd ((lf (fdivD s42.2 (.int (1000))))) fun left56 => (Rk (pool53, left56)))) else (Rk (s42.1, s42.2)))) (s9.1, left15) l41) fun (s57 : (List D) × D) => (Rk (s57.1, seed35))) else (Rk (s9.1, seed35)))))) ([], (.int (35767))) l8) fun (s58 : (List D) × D) => (bd ((lf (rngF [many2]))) fun l59 => bd (forR (fun (s60 : (List D) × D) d61 => (bd ((bd ((bd ((bd ((lf (mulX s60.2 (.int (69621))))) fun v66 => lf (addD v66 (.int (12347))))) fun v68 => lf (addD v68 d61))) fun v70 => lf (modD v70 (.int (2147483647))))) fun seed72 => (bd ((bd ((bd ((bd ((bd ((bd ((bd ((bd ((lf (mulX (.int (2)) d61))) fun v76 => lf (addD seed72 v76))) fun v77 => lf (addD v77 (.int (1))))) fun v80 => lf (mulX seed72 v80))) fun v81 => lf (intF [v81]))) fun v82 => lf (modD v82 (.int (2147483629))))) fun v84 => lf (fdivD v84 (.int (1009))))) fun v86 => lf (modD v86 (.int (1000))))) fun v88 => bd (appR s60.1 v88) fun pool89 => (Rk (pool89, seed72))))) (s58.1, s58.2) l59) fun (s90 : (List D) × D) => (bd ((bd (Rk (.list s90.1)) fun v91 => lf (revLF v91))) fun l92 => Rk l92)))
def P__law_pool : List D → R (List D)
  | [script1, many2] => p__law_pool script1 many2
  | _ => none
theorem g__law_pool (script1 : D) (many2 : D) : FG (F__law_pool [] [script1, many2]) (p__law_pool script1 many2) ΨN := by
  show FG (runF false 7 m__law_pool [] [script1, many2]) _ _
  refine fg_N (pt := [.is (.dat script1), .is (.dat many2), .any, .any, .any, .any, .any]) ?_ ⟨rfl, rfl, .inl rfl, .inl rfl, .inl rfl, .inl rfl, .inl rfl, trivial⟩
  unfold m__law_pool p__law_pool
  exact (st_setNA al_nil rfl rfl (st_setA at_lit rfl (st_for (fun (s12 : (List D) × D) => [.is (.dat script1), .is (.dat many2), .is (.lst s12.1), .is (.dat s12.2), .any, .any, .any]) ([], (.int (35767))) (i_dat (x_sl (At.r (AtS.a (at_var rfl))) pp_none (pp_some (At.r (AtS.a at_lit))))) (.c .r (.c .r (.c .r (.c .r (.c .r (.c .r (.c .r .n))))))) (fun s9 d10 => (sb_nm rfl (st_set (x_cb1 (XE.r (x_cb1a (AtS.a (at_var rfl))))) rfl (fun left15 => (st_set (x_op2b (XE.r (x_op2 (XE.r (x_op2 (XE.r (x_op2 (XE.r (x_op2c (AtS.a (at_var rfl)) (AtS.a at_lit))) (XE.r (x_op2b (XE.r (x_cb1a (AtS.a (at_var rfl)))) (AtS.a at_lit))))) (XE.r (x_op2a (AtS.a at_lit) (XE.r (x_cb1a (at_ownL rfl rfl))))))) (XE.r (x_cb1 (XE.r (x_op2c (AtS.a (at_var rfl)) (AtS.a at_lit))))))) (AtS.a at_lit)) rfl (fun seed35 => (st_if (t_b (x_op2a (AtS.a (at_var rfl)) (XE.r (x_op2c (AtS.a at_lit) (AtS.a at_lit))))) (st_assoc (st_for (fun (s45 : (List D) × D) => [.is (.dat script1), .is (.dat many2), .is (.lst s45.1), .is (.dat seed35), .is (.dat d10), .is (.dat s45.2), .any]) (s9.1, left15) (i_rng (gs_at at_lit gs_nil)) (.c .r (.c .r (.c .r (.c .r (.c .r (.c .r (.c .r .n))))))) (fun s42 d43 => (sb_nm rfl (st_if (t_b (x_op2c (AtS.a (at_var rfl)) (AtS.a at_lit))) (st_assoc (st_app (x_op2b (XE.r (x_cb1a (AtS.a (at_var rfl)))) (AtS.a at_lit)) rfl rfl rfl (fun pool53 => (st_assoc (st_set (x_op2c (AtS.a (at_var rfl)) (AtS.a at_lit)) rfl (fun left56 => (st_nilr (st_l (.c .r (.c .r (.c .r (.c .r (.c .r (.c .r (.c .a .n))))))))))))))) (st_nilr (st_l (.c .r (.c .r (.c .r (.c .r (.c .r (.c .r (.c .a .n)))))))))))) (fun s57 => (st_nilr (st_l (.c .r (.c .r (.c .r (.c .r (.c .a (.c .a (.c .r .n)))))))))))) (st_nilr (st_l (.c .r (.c .r (.c .r (.c .r (.c .a (.c .a (.c .r .n)))))))))))))))) (fun s58 => (st_for (fun (s63 : (List D) × D) => [.is (.dat script1), .is (.dat many2), .is (.lst s63.1), .is (.dat s63.2), .any, .any, .any]) (s58.1, s58.2) (i_rng (gs_at (at_var rfl) gs_nil)) (.c .r (.c .r (.c .r (.c .r (.c .r (.c .r (.c .r .n))))))) (fun s60 d61 => (sb_nm rfl (st_set (x_op2b (XE.r (x_op2b (XE.r (x_op2b (XE.r (x_op2c (AtS.a (at_var rfl)) (AtS.a at_lit))) (AtS.a at_lit))) (AtS.a (at_var rfl)))) (AtS.a at_lit)) rfl (fun seed72 => (st_app (x_op2b (XE.r (x_op2b (XE.r (x_op2b (XE.r (x_cb1 (XE.r (x_op2a (AtS.a (at_var rfl)) (XE.r (x_op2b (XE.r (x_op2a (AtS.a (at_var rfl)) (XE.r (x_op2c (AtS.a at_lit) (AtS.a (at_var rfl)))))) (AtS.a at_lit))))))) (AtS.a at_lit))) (AtS.a at_lit))) (AtS.a at_lit)) rfl rfl rfl (fun pool89 => (st_l (.c .r (.c .r (.c .r (.c .r (.c .r (.c .r (.c .a .n)))))))))))))) (fun s90 => (st_retN (inj := id) retF (n_op1 (At.r (at_ownL rfl rfl))))))))))
theorem GP__law_pool : ∀ ds, FG (F__law_pool [] ds) (P__law_pool ds) ΨN
  | [script1, many2] => g__law_pool script1 many2
  | [] => trivial
  | [_] => trivial
  | _ :: _ :: _ :: _ => trivial
/-! ### _law_take -/
def p__law_take (pool1 : List D) (limit2 : D) : R (D × List D) := (bd ((bd ((lf (eqX (.list pool1) (.list [])))) bl)) fun b5 => if b5 = true then (bd (Rk (.int (0))) fun v6 => Rk (v6, pool1)) else (bd ((bd ((bd ((bd (popR pool1) fun v11 => Rk (v11.1, v11.2))) fun v12 => (bd (lf (intF [v12.1])) fun v10 => Rk (v10, v12.2)))) fun v7 => bd (lf (modD v7.1 limit2)) fun z9 => Rk (z9, v7.2))) fun v13 => Rk (v13.1, v13.2)))
def P__law_take (w : List D) : List D → R (D × List D)
  | [limit2] => p__law_take w limit2
  | _ => none
theorem g__law_take (pool1 : List D) (limit2 : D) : FG (F__law_take pool1 [limit2]) (p__law_take pool1 limit2) ΨDo := by
  show FG (runF true 2 m__law_take pool1 [limit2]) _ _
  refine fg_Do (pt := [.is (.bor pool1), .is (.dat limit2)]) ?_ ⟨rfl, rfl, trivial⟩
  unfold m__law_take p__law_take
  exact (st_if (t_b (x_op2c (at_ownL rfl rfl) (AtS.a (at_lst al_nil rfl)))) (st_assoc (st_reto (inj := id) retF (AtS.e at_lit) rfl)) (st_nilr (st_retoI (pc := fun (s : (List D)) => [.is (.bor s), .is (.dat limit2)]) (s := pool1) (inj := id) (g := fun s => s) retF (xi_op2b (xi_cb (ai_i (xi_pop (g := fun s => s) (u := fun _ w => w) (fun _ => ⟨_, rfl, rfl, fun _ => rfl⟩)) (fun v12 => (ai_nil rfl)))) (fun _ => (AtS.a (at_var rfl)))) (fun _ => rfl))))
theorem GP__law_take (w : List D) : ∀ ds, FG (F__law_take w ds) (P__law_take w ds) ΨDo
  | [limit2] => g__law_take w limit2
  | [] => trivial
  | _ :: _ :: _ => trivial
/-! ### _law_pair -/
def p__law_pair (pool1 : List D) (most2 : D) : R (D × List D) := (bd ((bd ((lf (addD most2 (.int (1))))) fun v6 => (bd (p__law_take pool1 v6) fun r3 => Rk (r3.1, r3.2)))) fun low7 => (bd ((bd ((bd ((bd ((bd ((lf (subD most2 low7.1))) fun v15 => lf (addD v15 (.int (1))))) fun v17 => (bd (p__law_take low7.2 v17) fun r12 => Rk (r12.1, r12.2)))) fun v10 => bd (lf (addD low7.1 v10.1)) fun z11 => Rk (z11, v10.2))) fun v18 => (bd (tupR [low7.1, v18.1]) fun v8 => Rk (v8, v18.2)))) fun v19 => Rk (v19.1, v19.2)))
def P__law_pair (w : List D) : List D → R (D × List D)
  | [most2] => p__law_pair w most2
  | _ => none
theorem g__law_pair (pool1 : List D) (most2 : D) : FG (F__law_pair pool1 [most2]) (p__law_pair pool1 most2) ΨDo := by
  show FG (runF true 3 m__law_pair pool1 [most2]) _ _
  refine fg_Do (pt := [.is (.bor pool1), .is (.dat most2), .any]) ?_ ⟨rfl, rfl, .inl rfl, trivial⟩
  unfold m__law_pair p__law_pair
  exact (st_setI (pc := fun (s : (List D)) => [.is (.bor s), .is (.dat most2), .any]) (s := pool1) (xi_callO (g := fun s => s) (u := fun _ w => w) GP__law_take (fun _ => ⟨_, rfl, rfl, fun _ => rfl⟩) (ai_e (x_op2c (AtS.a (at_var rfl)) (AtS.a at_lit)) (fun v6 => (ai_nil rfl))) (fun _ => trivial)) (fun _ => rfl) (fun low7 => (st_retoI (pc := fun (s : (List D)) => [.is (.bor s), .is (.dat most2), .is (.dat low7.1)]) (s := low7.2) (inj := id) (g := fun s => s) retF (xi_tup (ai_at (at_var rfl) (ai_i (xi_op2a (at_var rfl) (xi_callO (g := fun s => s) (u := fun _ w => w) GP__law_take (fun _ => ⟨_, rfl, rfl, fun _ => rfl⟩) (ai_e (x_op2b (XE.r (x_op2c (AtS.a (at_var rfl)) (AtS.a (at_var rfl)))) (AtS.a at_lit)) (fun v17 => (ai_nil rfl))) (fun _ => trivial))) (fun v18 => (ai_nil rfl))))) (fun _ => rfl))))
theorem GP__law_pair (w : List D) : ∀ ds, FG (F__law_pair w ds) (P__law_pair w ds) ΨDo
  | [most2] => g__law_pair w most2
  | [] => trivial
  | _ :: _ :: _ => trivial
/-! ### _law_moved -/
def p__law_moved (state1 : D) (bounds2 : D) (fenced3 : D) : R (List D) := (bd (Rk state1) fun v5 => bd (un4 v5) fun t4 => (bd ((bd ((bd ((bd ((bd ((bd ((itR' bounds2)) fun l10 => mapR (fun d8 => bd (un2 d8) fun t9 => Rk t9.1) l10)) fun l11 => Rk (.list l11))) fun v12 => (lf (zipX [t4.2.2.2, v12])))) fun l16 => mapR (fun d14 => bd (un2 d14) fun t15 => (bd ((bd (Rk t15.1) fun v17 => Rk (.bool (if true then !isNoneB v17 else isNoneB v17)))) fun v20 => bd (bl v20) fun b21 => if b21 = true then ((lf (geD t15.1 t15.2))) else Rk (.bool false))) l16)) fun l22 => Rk (.list l22))) fun ready23 => (bd ((bd ((bd ((lf (ixD ready23 (.int (0))))) bl)) fun b28 => if b28 = true then (bd ((lf (eqX t4.1 (.int (0))))) bl) else Rk false)) fun b29 => bd (if b29 = true then (bd ((bd ((bd ((bd (Rk t4.2.2.2) fun v32 => bd ((bd (Rk (.int (1))) itR)) fun l33 => bd (Rk none) fun h34 => lf (slF v32 l33 h34))) fun v36 => lf (addD (.tuple [.none]) v36))) fun v37 => Rk (.tuple [(.int (1)), t4.2.1, t4.2.2.1, v37]))) fun v38 => bd (appR [] v38) fun found39 => (Rk found39)) else (Rk [])) fun (j30 : (List D)) => (bd ((bd ((lf (eqX t4.1 (.int (1))))) bl)) fun b42 => bd (if b42 = true then (bd (Rk (.tuple [(.int (2)), t4.2.1, t4.2.2.1, t4.2.2.2])) fun v45 => bd (appR j30 v45) fun found46 => (Rk found46)) else (Rk j30)) fun (j43 : (List D)) => (bd ((bd ((lf (eqX t4.1 (.int (2))))) bl)) fun b49 => bd (if b49 = true then (bd ((bd ((bd ((bd (Rk t4.2.2.2) fun v52 => bd (Rk none) fun l53 => bd ((bd (Rk (.int (3))) itR)) fun h54 => lf (slF v52 l53 h54))) fun v55 => lf (addD v55 (.tuple [(.int (0))])))) fun v57 => Rk (.tuple [(.int (3)), t4.2.1, t4.2.2.1, v57]))) fun v58 => bd (appR j43 v58) fun found59 => (Rk found59)) else (Rk j43)) fun (j50 : (List D)) => (bd ((bd ((lf (eqX t4.2.1 (.int (0))))) bl)) fun b62 => bd (if b62 = true then (bd ((bd ((bd ((bd ((bd (Rk t4.2.2.2) fun v65 => bd (Rk none) fun l66 => bd ((bd (Rk (.int (2))) itR)) fun h67 => lf (slF v65 l66 h67))) fun v68 => lf (addD v68 (.tuple [(.int (0))])))) fun v73 => bd ((bd (Rk t4.2.2.2) fun v70 => bd ((bd (Rk (.int (3))) itR)) fun l71 => bd (Rk none) fun h72 => lf (slF v70 l71 h72))) fun v74 => lf (addD v73 v74))) fun v75 => Rk (.tuple [t4.1, (.int (2)), t4.2.2.1, v75]))) fun v76 => bd (appR j50 v76) fun found77 => (Rk found77)) else (Rk j50)) fun (j63 : (List D)) => (bd ((bd ((lf (ixD ready23 (.int (1))))) bl)) fun b80 => bd (if b80 = true then (bd ((bd ((bd ((bd ((lf (eqX t4.2.1 (.int (0))))) bl)) fun c85 => if c85 = true then Rk (.int (1)) else Rk t4.2.1)) fun v94 => (bd ((bd ((bd ((lf (ixD t4.2.2.2 (.int (0))))) fun v88 => Rk (.tuple [v88, .none]))) fun v92 => bd ((bd (Rk t4.2.2.2) fun v89 => bd ((bd (Rk (.int (2))) itR)) fun l90 => bd (Rk none) fun h91 => lf (slF v89 l90 h91))) fun v93 => lf (addD v92 v93))) fun v95 => Rk (.tuple [t4.1, v94, t4.2.2.1, v95])))) fun v96 => bd (appR j63 v96) fun found97 => (Rk found97)) else (Rk j63)) fun (j81 : (List D)) => (bd ((bd ((lf (ixD ready23 (.int (2))))) bl)) fun b100 => bd (if b100 = true then (bd ((bd ((bd ((bd ((bd (Rk fenced3) bl)) fun c103 => if c103 = true then Rk (.int (2)) else Rk (.int (3)))) fun v104 => Rk (.list [(.int (1)), t4.2.2.1, v104, t4.2.2.1]))) fun v105 => lf (ixD v105 t4.2.2.1))) fun after107 => (bd ((bd ((bd ((bd (Rk t4.2.2.2) fun v108 => bd (Rk none) fun l109 => bd ((bd (Rk (.int (2))) itR)) fun h110 => lf (slF v108 l109 h110))) fun v114 => bd ((bd ((lf (ixD t4.2.2.2 (.int (3))))) fun v113 => Rk (.tuple [.none, v113]))) fun v115 => lf (addD v114 v115))) fun v116 => Rk (.tuple [t4.1, t4.2.1, after107, v116]))) fun v117 => bd (appR j81 v117) fun found118 => (Rk found118))) else (Rk j81)) fun (j101 : (List D)) => (bd ((bd ((lf (ixD ready23 (.int (3))))) bl)) fun b121 => bd (if b121 = true then (bd ((bd ((bd ((bd ((lf (ltD t4.2.2.1 (.int (2))))) bl)) fun c126 => if c126 = true then Rk (.int (2)) else Rk t4.2.2.1)) fun v132 => (bd ((bd ((bd (Rk t4.2.2.2) fun v127 => bd (Rk none) fun l128 => bd ((bd (Rk (.int (3))) itR)) fun h129 => lf (slF v127 l128 h129))) fun v130 => lf (addD v130 (.tuple [.none])))) fun v133 => Rk (.tuple [t4.1, t4.2.1, v132, v133])))) fun v134 => bd (appR j101 v134) fun found135 => (Rk found135)) else (Rk j101)) fun (j122 : (List D)) => (bd ((bd ((bd ((bd ((bd ((lf (zipX [t4.2.2.2, bounds2]))) fun l139 => lcR (fun d137 => bd (un2 d137) fun t138 => selR ((bd ((bd ((bd (Rk t138.1) fun v140 => Rk (.bool (if true then !isNoneB v140 else isNoneB v140)))) bl)) fun b145 => if b145 = true then (bd ((bd ((lf (ixD t138.2 (.int (1))))) fun v144 => lf (eqX t138.1 v144))) bl) else Rk false)) (Rk t138.1)) l139)) fun l146 => Rk (.list l146))) fun v147 => lf (eqX v147 (.list [])))) bl)) fun b149 => bd (if b149 = true then (bd ((bd ((bd ((bd ((bd ((itR' t4.2.2.2)) fun l154 => mapR (fun d153 => (bd ((bd ((bd (Rk d153) fun v155 => Rk (.bool (if false then !isNoneB v155 else isNoneB v155)))) bl)) fun c158 => if c158 = true then Rk .none else (lf (addD d153 (.int (1)))))) l154)) fun l159 => Rk (.list l159))) fun v160 => lf (tupleF [v160]))) fun v161 => Rk (.tuple [t4.1, t4.2.1, t4.2.2.1, v161]))) fun v162 => bd (appR j122 v162) fun found163 => (Rk found163)) else (Rk j122)) fun (j150 : (List D)) => (Rk j150)))))))))))
def P__law_moved : List D → R (List D)
  | [state1, bounds2, fenced3] => p__law_moved state1 bounds2 fenced3
  | _ => none
theorem g__law_moved (state1 : D) (bounds2 : D) (fenced3 : D) : FG (F__law_moved [] [state1, bounds2, fenced3]) (p__law_moved state1 bounds2 fenced3) ΨN := by
  show FG (runF false 14 m__law_moved [] [state1, bounds2, fenced3]) _ _
  refine fg_N (pt := [.is (.dat state1), .is (.dat bounds2), .is (.dat fenced3), .any, .any, .any, .any, .any, .any, .any, .any, .any, .any, .any]) ?_ ⟨rfl, rfl, rfl, .inl rfl, .inl rfl, .inl rfl, .inl rfl, .inl rfl, .inl rfl, .inl rfl, .inl rfl, .inl rfl, .inl rfl, .inl rfl, trivial⟩
  unfold m__law_moved p__law_moved
  exact (st_unp4 (AtS.e (at_var rfl)) rfl (fun _ => rfl) (fun _ _ => rfl) (fun _ _ _ => rfl) (fun t4 => (st_setNA al_nil rfl rfl (st_set (x_lc (n_map (E2 := fun _ => True) (i_zipX (GS.a (gs_at (at_var rfl) (gs_cons (x_lc (n_map (E2 := fun _ => True) (i_at (at_var rfl)) rfl (all_lt rfl) (fun d8 acc7 => (lt_map (s_tp2 rfl (fun _ => rfl)) (fun t9 => (AtS.e (at_var rfl))) (fun t9 => (.c .r (.c .r (.c .r (.c .r (.c .r (.c .r (.c .r (.c .r (.c .r (.c .r (.c .r (.c .a (.c .a (.c .r (.c .r .n)))))))))))))))))))) (fun v12 => gs_nil))))) rfl (all_lt rfl) (fun d14 acc13 => (lt_map (s_tp2 rfl (fun _ => rfl)) (fun t15 => (x_and (x_isN (At.r (AtS.a (at_var rfl)))) (x_op2c (AtS.a (at_var rfl)) (AtS.a (at_var rfl))))) (fun t15 => (.c .r (.c .r (.c .r (.c .r (.c .r (.c .r (.c .r (.c .r (.c .r (.c .r (.c .a (.c .a (.c .r (.c .r (.c .r .n)))))))))))))))))))) rfl (fun ready23 => (st_ifj (fun (j31 : (List D)) => [.is (.dat state1), .is (.dat bounds2), .is (.dat fenced3), .is (.dat t4.1), .is (.dat t4.2.1), .is (.dat t4.2.2.1), .is (.dat t4.2.2.2), .is (.lst j31), .is (.dat ready23), .any, .any, .any, .any, .any]) (t_and (t_b (x_op2c (AtS.a (at_var rfl)) (AtS.a at_lit))) (t_b (x_op2c (AtS.a (at_var rfl)) (AtS.a at_lit)))) (st_app (x_tup (GS.a (gs_at at_lit (gs_at (at_var rfl) (gs_at (at_var rfl) (gs_cons (x_op2a (AtS.a (at_tup (al_cons at_lit al_nil) rfl)) (XE.r (x_sl (At.r (AtS.a (at_var rfl))) (pp_some (At.r (AtS.a at_lit))) pp_none))) (fun v37 => gs_nil))))))) rfl rfl rfl (fun found39 => (st_j (.c .r (.c .r (.c .r (.c .r (.c .r (.c .r (.c .r (.c .r (.c .r (.c .r (.c .r (.c .r (.c .r (.c .r .n))))))))))))))))) (st_j (.c .r (.c .r (.c .r (.c .r (.c .r (.c .r (.c .r (.c .r (.c .r (.c .r (.c .r (.c .r (.c .r (.c .r .n))))))))))))))) (fun j30 => (st_ifj (fun (j44 : (List D)) => [.is (.dat state1), .is (.dat bounds2), .is (.dat fenced3), .is (.dat t4.1), .is (.dat t4.2.1), .is (.dat t4.2.2.1), .is (.dat t4.2.2.2), .is (.lst j44), .is (.dat ready23), .any, .any, .any, .any, .any]) (t_b (x_op2c (AtS.a (at_var rfl)) (AtS.a at_lit))) (st_app (AtS.e (at_tup (al_cons at_lit (al_cons (at_var rfl) (al_cons (at_var rfl) (al_cons (at_var rfl) al_nil)))) rfl)) rfl rfl rfl (fun found46 => (st_j (.c .r (.c .r (.c .r (.c .r (.c .r (.c .r (.c .r (.c .r (.c .r (.c .r (.c .r (.c .r (.c .r (.c .r .n))))))))))))))))) (st_j (.c .r (.c .r (.c .r (.c .r (.c .r (.c .r (.c .r (.c .r (.c .r (.c .r (.c .r (.c .r (.c .r (.c .r .n))))))))))))))) (fun j43 => (st_ifj (fun (j51 : (List D)) => [.is (.dat state1), .is (.dat bounds2), .is (.dat fenced3), .is (.dat t4.1), .is (.dat t4.2.1), .is (.dat t4.2.2.1), .is (.dat t4.2.2.2), .is (.lst j51), .is (.dat ready23), .any, .any, .any, .any, .any]) (t_b (x_op2c (AtS.a (at_var rfl)) (AtS.a at_lit))) (st_app (x_tup (GS.a (gs_at at_lit (gs_at (at_var rfl) (gs_at (at_var rfl) (gs_cons (x_op2b (XE.r (x_sl (At.r (AtS.a (at_var rfl))) pp_none (pp_some (At.r (AtS.a at_lit))))) (AtS.a (at_tup (al_cons at_lit al_nil) rfl))) (fun v57 => gs_nil))))))) rfl rfl rfl (fun found59 => (st_j (.c .r (.c .r (.c .r (.c .r (.c .r (.c .r (.c .r (.c .r (.c .r (.c .r (.c .r (.c .r (.c .r (.c .r .n))))))))))))))))) (st_j (.c .r (.c .r (.c .r (.c .r (.c .r (.c .r (.c .r (.c .r (.c .r (.c .r (.c .r (.c .r (.c .r (.c .r .n))))))))))))))) (fun j50 => (st_ifj (fun (j64 : (List D)) => [.is (.dat state1), .is (.dat bounds2), .is (.dat fenced3), .is (.dat t4.1), .is (.dat t4.2.1), .is (.dat t4.2.2.1), .is (.dat t4.2.2.2), .is (.lst j64), .is (.dat ready23), .any, .any, .any, .any, .any]) (t_b (x_op2c (AtS.a (at_var rfl)) (AtS.a at_lit))) (st_app (x_tup (GS.a (gs_at (at_var rfl) (gs_at at_lit (gs_at (at_var rfl) (gs_cons (x_op2 (XE.r (x_op2b (XE.r (x_sl (At.r (AtS.a (at_var rfl))) pp_none (pp_some (At.r (AtS.a at_lit))))) (AtS.a (at_tup (al_cons at_lit al_nil) rfl)))) (XE.r (x_sl (At.r (AtS.a (at_var rfl))) (pp_some (At.r (AtS.a at_lit))) pp_none))) (fun v75 => gs_nil))))))) rfl rfl rfl (fun found77 => (st_j (.c .r (.c .r (.c .r (.c .r (.c .r (.c .r (.c .r (.c .r (.c .r (.c .r (.c .r (.c .r (.c .r (.c .r .n))))))))))))))))) (st_j (.c .r (.c .r (.c .r (.c .r (.c .r (.c .r (.c .r (.c .r (.c .r (.c .r (.c .r (.c .r (.c .r (.c .r .n))))))))))))))) (fun j63 => (st_ifj (fun (j82 : (List D)) => [.is (.dat state1), .is (.dat bounds2), .is (.dat fenced3), .is (.dat t4.1), .is (.dat t4.2.1), .is (.dat t4.2.2.1), .is (.dat t4.2.2.2), .is (.lst j82), .is (.dat ready23), .any, .any, .any, .any, .any]) (t_b (x_op2c (AtS.a (at_var rfl)) (AtS.a at_lit))) (st_app (x_tup (GS.a (gs_at (at_var rfl) (gs_cons (x_if (t_b (x_op2c (AtS.a (at_var rfl)) (AtS.a at_lit))) (AtS.e at_lit) (AtS.e (at_var rfl))) (fun v94 => (gs_at (at_var rfl) (gs_cons (x_op2 (XE.r (x_tup (GS.a (gs_cons (x_op2c (AtS.a (at_var rfl)) (AtS.a at_lit)) (fun v88 => (gs_at at_lit gs_nil)))))) (XE.r (x_sl (At.r (AtS.a (at_var rfl))) (pp_some (At.r (AtS.a at_lit))) pp_none))) (fun v95 => gs_nil)))))))) rfl rfl rfl (fun found97 => (st_j (.c .r (.c .r (.c .r (.c .r (.c .r (.c .r (.c .r (.c .r (.c .r (.c .r (.c .r (.c .r (.c .r (.c .r .n))))))))))))))))) (st_j (.c .r (.c .r (.c .r (.c .r (.c .r (.c .r (.c .r (.c .r (.c .r (.c .r (.c .r (.c .r (.c .r (.c .r .n))))))))))))))) (fun j81 => (st_ifj (fun (j102 : (List D)) => [.is (.dat state1), .is (.dat bounds2), .is (.dat fenced3), .is (.dat t4.1), .is (.dat t4.2.1), .is (.dat t4.2.2.1), .is (.dat t4.2.2.2), .is (.lst j102), .is (.dat ready23), .any, .any, .any, .any, .any]) (t_b (x_op2c (AtS.a (at_var rfl)) (AtS.a at_lit))) (st_set (x_op2b (XE.r (x_lst (GS.a (gs_at at_lit (gs_at (at_var rfl) (gs_cons (x_if (t_b (AtS.e (at_var rfl))) (AtS.e at_lit) (AtS.e at_lit)) (fun v104 => (gs_at (at_var rfl) gs_nil)))))))) (AtS.a (at_var rfl))) rfl (fun after107 => (st_app (x_tup (GS.a (gs_at (at_var rfl) (gs_at (at_var rfl) (gs_at (at_var rfl) (gs_cons (x_op2 (XE.r (x_sl (At.r (AtS.a (at_var rfl))) pp_none (pp_some (At.r (AtS.a at_lit))))) (XE.r (x_tup (GS.a (gs_at at_lit (gs_cons (x_op2c (AtS.a (at_var rfl)) (AtS.a at_lit)) (fun v113 => gs_nil))))))) (fun v116 => gs_nil))))))) rfl rfl rfl (fun found118 => (st_j (.c .r (.c .r (.c .r (.c .r (.c .r (.c .r (.c .r (.c .r (.c .r (.c .a (.c .r (.c .r (.c .r (.c .r .n))))))))))))))))))) (st_j (.c .r (.c .r (.c .r (.c .r (.c .r (.c .r (.c .r (.c .r (.c .r (.c .r (.c .r (.c .r (.c .r (.c .r .n))))))))))))))) (fun j101 => (st_ifj (fun (j123 : (List D)) => [.is (.dat state1), .is (.dat bounds2), .is (.dat fenced3), .is (.dat t4.1), .is (.dat t4.2.1), .is (.dat t4.2.2.1), .is (.dat t4.2.2.2), .is (.lst j123), .is (.dat ready23), .any, .any, .any, .any, .any]) (t_b (x_op2c (AtS.a (at_var rfl)) (AtS.a at_lit))) (st_app (x_tup (GS.a (gs_at (at_var rfl) (gs_at (at_var rfl) (gs_cons (x_if (t_b (x_op2c (AtS.a (at_var rfl)) (AtS.a at_lit))) (AtS.e at_lit) (AtS.e (at_var rfl))) (fun v132 => (gs_cons (x_op2b (XE.r (x_sl (At.r (AtS.a (at_var rfl))) pp_none (pp_some (At.r (AtS.a at_lit))))) (AtS.a (at_tup (al_cons at_lit al_nil) rfl))) (fun v133 => gs_nil)))))))) rfl rfl rfl (fun found135 => (st_j (.c .r (.c .r (.c .r (.c .r (.c .r (.c .r (.c .r (.c .r (.c .r (.c .r (.c .r (.c .r (.c .r (.c .r .n))))))))))))))))) (st_j (.c .r (.c .r (.c .r (.c .r (.c .r (.c .r (.c .r (.c .r (.c .r (.c .r (.c .r (.c .r (.c .r (.c .r .n))))))))))))))) (fun j122 => (st_ifj (fun (j151 : (List D)) => [.is (.dat state1), .is (.dat bounds2), .is (.dat fenced3), .is (.dat t4.1), .is (.dat t4.2.1), .is (.dat t4.2.2.1), .is (.dat t4.2.2.2), .is (.lst j151), .is (.dat ready23), .any, .any, .any, .any, .any]) (t_b (x_op2b (XE.r (x_lc (n_lc (E2 := fun _ => True) (i_zipX (GS.a (gs_at (at_var rfl) (gs_at (at_var rfl) gs_nil)))) rfl (all_lt rfl) (fun d137 acc136 => (lt_sel (s_tp2 rfl (fun _ => rfl)) (fun t138 => (t_and (t_b (x_isN (At.r (AtS.a (at_var rfl))))) (t_b (x_op2a (AtS.a (at_var rfl)) (XE.r (x_op2c (AtS.a (at_var rfl)) (AtS.a at_lit))))))) (fun t138 => (AtS.e (at_var rfl))) (fun t138 => (.c .r (.c .r (.c .r (.c .r (.c .r (.c .r (.c .r (.c .r (.c .r (.c .r (.c .a (.c .r (.c .r (.c .a (.c .r .n)))))))))))))))) (fun t138 => (.c .r (.c .r (.c .r (.c .r (.c .r (.c .r (.c .r (.c .r (.c .r (.c .r (.c .a (.c .r (.c .r (.c .a (.c .r .n))))))))))))))))))))) (AtS.a (at_lst al_nil rfl)))) (st_app (x_tup (GS.a (gs_at (at_var rfl) (gs_at (at_var rfl) (gs_at (at_var rfl) (gs_cons (x_cb1 (XE.r (x_lc (n_map (E2 := fun _ => True) (i_at (at_var rfl)) rfl (all_lt rfl) (fun d153 acc152 => (lt_map1 rfl (x_if (t_b (x_isN (At.r (AtS.a (at_var rfl))))) (AtS.e at_lit) (x_op2c (AtS.a (at_var rfl)) (AtS.a at_lit))) (.c .r (.c .r (.c .r (.c .r (.c .r (.c .r (.c .r (.c .r (.c .r (.c .r (.c .a (.c .r (.c .r (.c .r (.c .r .n))))))))))))))))))))) (fun v161 => gs_nil))))))) rfl rfl rfl (fun found163 => (st_j (.c .r (.c .r (.c .r (.c .r (.c .r (.c .r (.c .r (.c .r (.c .r (.c .r (.c .r (.c .r (.c .r (.c .r .n))))))))))))))))) (st_j (.c .r (.c .r (.c .r (.c .r (.c .r (.c .r (.c .r (.c .r (.c .r (.c .r (.c .r (.c .r (.c .r (.c .r .n))))))))))))))) (fun j150 => (st_retOwn (inj := id) retF rfl))))))))))))))))))))))
theorem GP__law_moved : ∀ ds, FG (F__law_moved [] ds) (P__law_moved ds) ΨN
  | [state1, bounds2, fenced3] => g__law_moved state1 bounds2 fenced3
  | [] => trivial
  | [_] => trivial
  | [_, _] => trivial
  | _ :: _ :: _ :: _ :: _ => trivial
/-! ### _law_is_safe -/
def p__law_is_safe (server1 : D) (use2 : D) (write3 : D) (fenced4 : D) : R D := (bd (Rk ()) fun _ => bd (quiet (Rk ())) fun _ => (bd (whX (fun (s8 : (List (D × D)) × (List D)) => bd ((bd ((lf (neX (.list s8.2) (.list [])))) bl)) fun b13 => if b13 = true then (bd ((bd (popR s8.2) fun v17 => Rk (v17.1, v17.2))) fun state18 => (bd ((bd ((lf (ninY state18.1 (.dict s8.1)))) bl)) fun b21 => if b21 = true then (bd (Rk (.bool true)) fun v22 => bd (Rk state18.1) fun v23 => bd (lf (dPut s8.1 v23 v22)) fun found24 => (bd ((bd ((bd ((lf (ixD state18.1 (.int (2))))) fun v27 => lf (eqX v27 (.int (3))))) bl)) fun b29 => if b29 = true then (Rk (.ret (.bool false))) else (bd ((bd (Rk (.list state18.2)) fun v32 => bd ((bd (p__law_moved state18.1 (.tuple [server1, use2, write3, write3]) fenced4) fun l31 => Rk (.list l31))) fun v33 => lf (catF v32 v33))) fun row34 => (Rk (.nx (found24, row34)))))) else (Rk (.nx (s8.1, state18.2))))) else Rk (.brk s8)) ([], [(.tuple [(.int (0)), (.int (0)), (.int (0)), (.tuple [(.int (0)), (.int (0)), .none, .none])])])) fun l11 => thn l11 (fun (s10 : (List (D × D)) × (List D)) => (Rk (.bool true))) fun t12 => Rk t12))
def P__law_is_safe : List D → R D
  | [server1, use2, write3, fenced4] => p__law_is_safe server1 use2 write3 fenced4
  | _ => none
theorem g__law_is_safe (server1 : D) (use2 : D) (write3 : D) (fenced4 : D) : FG (F__law_is_safe [] [server1, use2, write3, fenced4]) (p__law_is_safe server1 use2 write3 fenced4) ΨD := by
  show FG (runF false 8 m__law_is_safe [] [server1, use2, write3, fenced4]) _ _
  refine fg_D (pt := [.is (.dat server1), .is (.dat use2), .is (.dat write3), .is (.dat fenced4), .any, .any, .any, .any]) ?_ ⟨rfl, rfl, rfl, rfl, .inl rfl, .inl rfl, .inl rfl, .inl rfl, trivial⟩
  unfold m__law_is_safe p__law_is_safe
  exact (st_setA (at_tup (al_cons (at_var rfl) (al_cons (at_var rfl) (al_cons (at_var rfl) (al_cons (at_var rfl) al_nil)))) rfl) rfl (st_parNN (E2 := fun _ => True) (AtN.no n_dic) (fun _ => (AtN.no (n_lstA (al_cons (at_tup (al_cons at_lit (al_cons at_lit (al_cons at_lit (al_cons (at_tup (al_cons at_lit (al_cons at_lit (al_cons at_lit (al_cons at_lit al_nil)))) rfl) al_nil)))) rfl) al_nil) rfl))) (fun _ => ⟨rfl, Nat.le_of_ble_eq_true rfl⟩) (fun _ => rfl) (fun _ _ => (st_whX id (fun (s9 : (List (D × D)) × (List D)) => [.is (.dat server1), .is (.dat use2), .is (.dat write3), .is (.dat fenced4), .is (.dat (.tuple [server1, use2, write3, write3])), .is (.dic s9.1), .is (.lst s9.2), .any]) ([], [(.tuple [(.int (0)), (.int (0)), (.int (0)), (.tuple [(.int (0)), (.int (0)), .none, .none])])]) (.c .r (.c .r (.c .r (.c .r (.c .r (.c .r (.c .r (.c .r .n)))))))) (fun s8 => (t_b (x_op2c (at_ownL rfl rfl) (AtS.a (at_lst al_nil rfl))))) (fun s8 => (st_setI (pc := fun (s : (List D)) => [.is (.dat server1), .is (.dat use2), .is (.dat write3), .is (.dat fenced4), .is (.dat (.tuple [server1, use2, write3, write3])), .is (.dic s8.1), .is (.lst s), .any]) (s := s8.2) (xi_pop (g := fun s => s) (u := fun _ w => w) (fun _ => ⟨_, rfl, rfl, fun _ => rfl⟩)) (fun _ => rfl) (fun state18 => (st_if (t_b (x_op2c (AtS.a (at_var rfl)) (at_ownD rfl rfl))) (st_assoc (st_stD (AtS.e at_lit) (At.r (AtS.a (at_var rfl))) rfl (fun found24 => (st_assoc (st_if (t_b (x_op2b (XE.r (x_op2c (AtS.a (at_var rfl)) (AtS.a at_lit))) (AtS.a at_lit))) (st_assoc (st_retA (inj := Lo.ret) retX at_lit)) (st_nilr (st_assoc (st_setN (n_op2 (At.r (at_ownL rfl rfl)) (XE.r (x_call (nD_fg GP__law_moved) (GS.a (gs_at (at_var rfl) (gs_at (at_var rfl) (gs_at (at_var rfl) gs_nil)))) (fun _ _ => trivial)))) rfl (fun row34 => (st_nilr (st_xl (.c .r (.c .r (.c .r (.c .r (.c .r (.c .r (.c .r (.c .a .n))))))))))))))))))) (st_nilr (st_xl (.c .r (.c .r (.c .r (.c .r (.c .r (.c .r (.c .r (.c .a .n)))))))))))))) (fun s10 => (st_retA (inj := id) retF at_lit)) retF))))
theorem GP__law_is_safe : ∀ ds, FG (F__law_is_safe [] ds) (P__law_is_safe ds) ΨD
  | [server1, use2, write3, fenced4] => g__law_is_safe server1 use2 write3 fenced4
  | [] => trivial
  | [_] => trivial
  | [_, _] => trivial
  | [_, _, _] => trivial
  | _ :: _ :: _ :: _ :: _ :: _ => trivial
/-! ### _law_caught -/
def p__law_caught (which1 : D) (server2 : D) (use3 : D) (write4 : D) : R D := (bd (tryR isCls2 (bd ((bd ((lf (eqX which1 (.int (0))))) bl)) fun b11 => if b11 = true then (bd ((p_fence_team server2 use3 write4 (.bool true))) fun v12 => (Rk (.dat .none))) else (bd ((bd ((lf (eqX which1 (.int (1))))) bl)) fun b15 => if b15 = true then (bd ((p_fence_goals server2 use3 write4 (.bool false))) fun v16 => (Rk (.dat .none))) else (bd ((bd ((lf (eqX which1 (.int (2))))) bl)) fun b19 => if b19 = true then (bd ((p_fence_is_safe server2 use3 write4 (.bool false))) fun v20 => (Rk (.dat .none))) else (bd ((p_greatest_use server2 write4)) fun v21 => (Rk (.dat .none)))))) fun x6 => (Rk (.exc x6.1 x6.2))) fun (j8 : DV) => (bd ((isXv isNon (isEx "InvalidBounds") j8)) fun v25 => (bd ((bd ((bd ((isNv false j8)) bl)) fun c24 => if c24 = true then Rk .none else (bd ((valV isCls j8)) fun v23 => lf (reprF [v23])))) fun v26 => Rk (.tuple [v25, v26]))))
def P__law_caught : List D → R D
  | [which1, server2, use3, write4] => p__law_caught which1 server2 use3 write4
  | _ => none
theorem g__law_caught (which1 : D) (server2 : D) (use3 : D) (write4 : D) : FG (F__law_caught [] [which1, server2, use3, write4]) (p__law_caught which1 server2 use3 write4) ΨD := by
  show FG (runF false 6 m__law_caught [] [which1, server2, use3, write4]) _ _
  refine fg_D (pt := [.is (.dat which1), .is (.dat server2), .is (.dat use3), .is (.dat write4), .any, .any]) ?_ ⟨rfl, rfl, rfl, rfl, .inl rfl, .inl rfl, trivial⟩
  unfold m__law_caught p__law_caught
  exact (st_setA at_lit rfl (st_try (fun (j7 : DV) => [.is (.dat which1), .is (.dat server2), .is (.dat use3), .is (.dat write4), .xx j7, .any]) [.is (.dat which1), .is (.dat server2), .is (.dat use3), .is (.dat write4), .is (.dat .none), .any] (st_if (t_b (x_op2c (AtS.a (at_var rfl)) (AtS.a at_lit))) (st_assoc (st_expr (x_call GP_fence_team (GS.a (gs_at (at_var rfl) (gs_at (at_var rfl) (gs_at (at_var rfl) (gs_at at_lit gs_nil))))) (fun _ h => Sees.weak h (.c .r (.c .r (.c .r (.c .r (.c .r (.c .r .n)))))))) (fun v12 => (st_nilr (st_j (.c .r (.c .r (.c .r (.c .r (.c .dx (.c .r .n))))))))))) (st_assoc (st_if (t_b (x_op2c (AtS.a (at_var rfl)) (AtS.a at_lit))) (st_assoc (st_expr (x_call GP_fence_goals (GS.a (gs_at (at_var rfl) (gs_at (at_var rfl) (gs_at (at_var rfl) (gs_at at_lit gs_nil))))) (fun _ h => Sees.weak h (.c .r (.c .r (.c .r (.c .r (.c .r (.c .r .n)))))))) (fun v16 => (st_nilr (st_nilr (st_j (.c .r (.c .r (.c .r (.c .r (.c .dx (.c .r .n)))))))))))) (st_assoc (st_if (t_b (x_op2c (AtS.a (at_var rfl)) (AtS.a at_lit))) (st_assoc (st_expr (x_call GP_fence_is_safe (GS.a (gs_at (at_var rfl) (gs_at (at_var rfl) (gs_at (at_var rfl) (gs_at at_lit gs_nil))))) (fun _ h => Sees.weak h (.c .r (.c .r (.c .r (.c .r (.c .r (.c .r .n)))))))) (fun v20 => (st_nilr (st_nilr (st_nilr (st_j (.c .r (.c .r (.c .r (.c .r (.c .dx (.c .r .n))))))))))))) (st_assoc (st_expr (x_call GP_greatest_use (GS.a (gs_at (at_var rfl) (gs_at (at_var rfl) gs_nil))) (fun _ h => Sees.weak h (.c .r (.c .r (.c .r (.c .r (.c .r (.c .r .n)))))))) (fun v21 => (st_nilr (st_nilr (st_nilr (st_j (.c .r (.c .r (.c .r (.c .r (.c .dx (.c .r .n)))))))))))))))))) rfl (fun x6 => (st_setE rfl rfl (st_th rfl (.c .r (.c .r (.c .r (.c .r (.c .ex (.c .u .n))))))))) (fun _ _ => trivial) (fun j8 => (st_ret retF (x_tup (GS.a (gs_cons (x_isV rfl) (fun v25 => (gs_cons (x_if (t_b (x_isNV rfl)) (AtS.e at_lit) (x_cb1 (XE.r (x_valV rfl)))) (fun v26 => gs_nil))))))))))
theorem GP__law_caught : ∀ ds, FG (F__law_caught [] ds) (P__law_caught ds) ΨD
  | [which1, server2, use3, write4] => g__law_caught which1 server2 use3 write4
  | [] => trivial
  | [_] => trivial
  | [_, _] => trivial
  | [_, _, _] => trivial
  | _ :: _ :: _ :: _ :: _ :: _ => trivial
/-! ### law -/
def p_law (script1 : D) : R D := (bd ((p__law_pool script1 (.int (300)))) fun pool2 => (bd ((lf (rngF [(.int (6))]))) fun l3 => bd (forX (fun (s4 : (List D)) d5 => (bd ((bd ((bd ((lf (intF [d5]))) fun v9 => lf (modD v9 (.int (3))))) fun v12 => lf (ixD (.list [(.int (3)), (.int (3)), (.int (60))]) v12))) fun most13 => (bd ((bd ((bd (p__law_pair s4 most13) fun r15 => Rk (r15.1, r15.2))) fun v16 => (bd ((bd (p__law_pair v16.2 most13) fun r17 => Rk (r17.1, r17.2))) fun v18 => (bd ((bd (p__law_pair v18.2 most13) fun r19 => Rk (r19.1, r19.2))) fun v20 => (bd (pr3 [v16.1, v18.1, v20.1]) fun t14 => Rk (t14, v20.2)))))) fun b21 => (bd ((itR' (.list [(.bool true), (.bool false)]))) fun l22 => bd (forX (fun (s23 : Unit) d24 => (bd ((bd (Rk d24) fun v41 => bd (bl v41) fun b42 => if b42 = true then Rk (.bool true) else ((bd ((bd ((lf (ixD b21.1.2.1 (.int (1))))) fun v31 => bd ((lf (ixD b21.1.2.2 (.int (1))))) fun v32 => lf (addD v31 v32))) fun v39 => bd ((bd ((lf (ixD b21.1.1 (.int (0))))) fun v37 => bd ((lf (ixD b21.1.2.2 (.int (0))))) fun v38 => lf (addD v37 v38))) fun v40 => lf (ltD v39 v40))))) fun due43 => (bd ((bd ((p_fence_is_safe b21.1.1 b21.1.2.1 b21.1.2.2 d24)) fun v44 => Rk [v44])) fun told45 => (bd ((p_fence_is_safe b21.1.1 b21.1.2.1 b21.1.2.2 d24)) fun v46 => bd (appR told45 v46) fun told47 => (bd ((bd ((bd ((bd ((lf (reprF [(.list told47)]))) fun v50 => bd ((lf (reprF [(.list [due43, due43])]))) fun v51 => lf (neX v50 v51))) bl)) fun b57 => if b57 = true then Rk true else (bd ((bd ((lf (ltD most13 (.int (60))))) bl)) fun b56 => if b56 = true then (bd ((bd ((p__law_is_safe b21.1.1 b21.1.2.1 b21.1.2.2 d24)) fun v54 => lf (neX v54 due43))) bl) else Rk false))) fun b58 => if b58 = true then (Rk (.ret (.bool false))) else (Rk (.nx ()))))))) () l22) fun l120 => thn l120 (fun (s60 : Unit) => (bd ((bd ((bd ((bd ((bd ((lf (ixD b21.1.1 (.int (0))))) fun v65 => bd ((lf (ixD b21.1.2.2 (.int (0))))) fun v66 => lf (addD v65 v66))) fun v69 => bd ((lf (ixD b21.1.2.2 (.int (1))))) fun v70 => lf (subD v69 v70))) fun v71 => lf (subD v71 (.int (1))))) fun v73 => (lf (minF [(.int (60)), v73])))) fun high74 => (bd ((bd ((bd ((lf (geD high74 (.int (0))))) bl)) fun c77 => if c77 = true then Rk high74 else Rk .none)) fun due78 => (bd ((bd ((bd ((bd ((bd ((p_greatest_use b21.1.1 b21.1.2.2)) fun v79 => (bd ((p_greatest_use b21.1.1 b21.1.2.2)) fun v80 => Rk (.list [v79, v80])))) fun v81 => lf (reprF [v81]))) fun v83 => bd ((lf (reprF [(.list [due78, due78])]))) fun v84 => lf (neX v83 v84))) bl)) fun b85 => if b85 = true then (Rk (.ret (.bool false))) else (bd ((bd ((bd ((bd (Rk due78) fun v87 => Rk (.bool (if true then !isNoneB v87 else isNoneB v87)))) bl)) fun b89 => if b89 = true then (bd ((bd ((p_fence_is_safe b21.1.1 (.tuple [(.int (0)), due78]) b21.1.2.2 (.bool false))) bl)) fun b88 => Rk (!b88)) else Rk false)) fun b90 => if b90 = true then (Rk (.ret (.bool false))) else (bd ((bd ((bd (p__law_take b21.2 (.int (8))) fun r95 => Rk (r95.1, r95.2))) fun v93 => bd (lf (ixD (.list [.none, (.tuple [(.int (1)), (.int (0))]), (.tuple [(.int (0)), (.int (61))]), (.list [(.int (0)), (.int (1))]), (.tuple [(.int (0)), .none]), (.tuple [(.bool true), (.int (2))]), (.tuple [(.int (1))]), (.tuple [(.tuple [(.int (0)), (.list [(.int (1))])])])]) v93.1)) fun z94 => Rk (z94, v93.2))) fun bad96 => (bd ((bd (p__law_take bad96.2 (.int (4))) fun r97 => Rk (r97.1, r97.2))) fun which98 => (bd ((bd ((bd ((p__law_caught which98.1 bad96.1 .none (.int (5)))) fun v101 => bd ((bd ((lf (reprF [bad96.1]))) fun v100 => Rk (.tuple [(.bool true), v100]))) fun v102 => lf (neX v101 v102))) bl)) fun b103 => if b103 = true then (Rk (.ret (.bool false))) else (bd ((bd ((bd ((p__law_caught which98.1 b21.1.1 b21.1.2.1 bad96.1)) fun v107 => bd ((bd ((lf (reprF [bad96.1]))) fun v106 => Rk (.tuple [(.bool true), v106]))) fun v108 => lf (neX v107 v108))) bl)) fun b109 => if b109 = true then (Rk (.ret (.bool false))) else (bd ((bd ((bd ((lf (ltD which98.1 (.int (3))))) bl)) fun b117 => if b117 = true then (bd ((bd ((p__law_caught which98.1 b21.1.1 bad96.1 .none)) fun v115 => bd ((bd ((lf (reprF [bad96.1]))) fun v114 => Rk (.tuple [(.bool true), v114]))) fun v116 => lf (neX v115 v116))) bl) else Rk false)) fun b118 => if b118 = true then (Rk (.ret (.bool false))) else (Rk (.nx which98.2)))))))))))) fun t121 => Rk (.ret t121))))) pool2 l3) fun l124 => thn l124 (fun (s122 : (List D)) => (Rk (.bool true))) fun t125 => Rk t125))
def P_law : List D → R D
  | [script1] => p_law script1
  | _ => none
theorem g_law (script1 : D) : FG (F_law [] [script1]) (p_law script1) ΨD := by
  show FG (runF false 13 m_law [] [script1]) _ _
  refine fg_D (pt := [.is (.dat script1), .any, .any, .any, .any, .any, .any, .any, .any, .any, .any, .any, .any]) ?_ ⟨rfl, .inl rfl, .inl rfl, .inl rfl, .inl rfl, .inl rfl, .inl rfl, .inl rfl, .inl rfl, .inl rfl, .inl rfl, .inl rfl, .inl rfl, trivial⟩
  unfold m_law p_law
  exact (st_setN (n_call GP__law_pool (GS.a (gs_at (at_var rfl) (gs_at at_lit gs_nil))) (fun _ _ => trivial)) rfl (fun pool2 => (st_forX id (fun (s7 : (List D)) => [.is (.dat script1), .is (.lst s7), .any, .any, .any, .any, .any, .any, .any, .nb, .any, .any, .any]) pool2 (i_rng (gs_at at_lit gs_nil)) (.c .r (.c .r (.c .r (.c .r (.c .r (.c .r (.c .r (.c .r (.c .r (.c .an (.c .r (.c .r (.c .r .n))))))))))))) (fun s4 d5 => (sb_nm rfl (st_set (x_op2a (AtS.a (at_lst (al_cons at_lit (al_cons at_lit (al_cons at_lit al_nil))) rfl)) (XE.r (x_op2b (XE.r (x_cb1a (AtS.a (at_var rfl)))) (AtS.a at_lit)))) rfl (fun most13 => (st_par3I (pc := fun (s : (List D)) => [.is (.dat script1), .is (.lst s), .is (.dat d5), .is (.dat most13), .any, .any, .any, .any, .any, .nb, .any, .any, .any]) (s := s4) (ai_i (xi_callO (g := fun s => s) (u := fun _ w => w) GP__law_pair (fun _ => ⟨_, rfl, rfl, fun _ => rfl⟩) (ai_at (at_var rfl) (ai_nil rfl)) (fun _ => trivial)) (fun v16 => (ai_i (xi_callO (g := fun s => s) (u := fun _ w => w) GP__law_pair (fun _ => ⟨_, rfl, rfl, fun _ => rfl⟩) (ai_at (at_var rfl) (ai_nil rfl)) (fun _ => trivial)) (fun v18 => (ai_i (xi_callO (g := fun s => s) (u := fun _ w => w) GP__law_pair (fun _ => ⟨_, rfl, rfl, fun _ => rfl⟩) (ai_at (at_var rfl) (ai_nil rfl)) (fun _ => trivial)) (fun v20 => (ai_nil rfl))))))) (fun _ => rfl) (fun _ _ => rfl) (fun _ _ _ => rfl) (fun b21 => (st_forX Lo.ret (fun (s26 : Unit) => [.is (.dat script1), .is (.lst b21.2), .is (.dat d5), .is (.dat most13), .is (.dat b21.1.1), .is (.dat b21.1.2.1), .is (.dat b21.1.2.2), .any, .any, .nb, .any, .any, .any]) () (i_at (at_lst (al_cons at_lit (al_cons at_lit al_nil)) rfl)) (.c .r (.c .r (.c .r (.c .r (.c .r (.c .r (.c .r (.c .r (.c .r (.c .r (.c .r (.c .r (.c .r .n))))))))))))) (fun s23 d24 => (sb_nm rfl (st_set (x_or (AtS.e (at_var rfl)) (x_op2 (XE.r (x_op2 (XE.r (x_op2c (AtS.a (at_var rfl)) (AtS.a at_lit))) (XE.r (x_op2c (AtS.a (at_var rfl)) (AtS.a at_lit))))) (XE.r (x_op2 (XE.r (x_op2c (AtS.a (at_var rfl)) (AtS.a at_lit))) (XE.r (x_op2c (AtS.a (at_var rfl)) (AtS.a at_lit))))))) rfl (fun due43 => (st_setN (n_lst (GS.a (gs_cons (x_call GP_fence_is_safe (GS.a (gs_at (at_var rfl) (gs_at (at_var rfl) (gs_at (at_var rfl) (gs_at (at_var rfl) gs_nil))))) (fun _ _ => trivial)) (fun v44 => gs_nil)))) rfl (fun told45 => (st_app (x_callK GP_fence_is_safe (GS.a (gs_at (at_var rfl) (gs_at (at_var rfl) (gs_at (at_var rfl) (gs_at (at_var rfl) gs_nil))))) (fun _ _ => trivial)) rfl rfl rfl (fun told47 => (st_if (t_or (t_b (x_op2 (XE.r (x_cb1a (at_ownL rfl rfl))) (XE.r (x_cb1a (AtS.a (at_lst (al_cons (at_var rfl) (al_cons (at_var rfl) al_nil)) rfl)))))) (t_and (t_b (x_op2c (AtS.a (at_var rfl)) (AtS.a at_lit))) (t_b (x_op2b (XE.r (x_call GP__law_is_safe (GS.a (gs_at (at_var rfl) (gs_at (at_var rfl) (gs_at (at_var rfl) (gs_at (at_var rfl) gs_nil))))) (fun _ _ => trivial))) (AtS.a (at_var rfl)))))) (st_assoc (st_retA (inj := Lo.ret) retX at_lit)) (st_nilr (st_xl (.c .r (.c .r (.c .r (.c .r (.c .r (.c .r (.c .r (.c .a (.c .a (.c .l (.c .r (.c .r (.c .r .n)))))))))))))))))))))))) (fun s60 => (st_set (x_cb (gs_at at_lit (gs_cons (x_op2b (XE.r (x_op2 (XE.r (x_op2 (XE.r (x_op2c (AtS.a (at_var rfl)) (AtS.a at_lit))) (XE.r (x_op2c (AtS.a (at_var rfl)) (AtS.a at_lit))))) (XE.r (x_op2c (AtS.a (at_var rfl)) (AtS.a at_lit))))) (AtS.a at_lit)) (fun v73 => gs_nil)))) rfl (fun high74 => (st_set (x_if (t_b (x_op2c (AtS.a (at_var rfl)) (AtS.a at_lit))) (AtS.e (at_var rfl)) (AtS.e at_lit)) rfl (fun due78 => (st_if (t_b (x_op2 (XE.r (x_cb1 (XE.r (x_lst (GS.a (gs_cons (x_call GP_greatest_use (GS.a (gs_at (at_var rfl) (gs_at (at_var rfl) gs_nil))) (fun _ _ => trivial)) (fun v79 => (gs_cons (x_callK GP_greatest_use (GS.a (gs_at (at_var rfl) (gs_at (at_var rfl) gs_nil))) (fun _ _ => trivial)) (fun v80 => gs_nil))))))))) (XE.r (x_cb1a (AtS.a (at_lst (al_cons (at_var rfl) (al_cons (at_var rfl) al_nil)) rfl)))))) (st_assoc (st_retA (inj := Lo.ret) retX at_lit)) (st_nilr (st_if (t_and (t_b (x_isN (At.r (AtS.a (at_var rfl))))) (t_not (t_b (x_call GP_fence_is_safe (GS.a (gs_at (at_var rfl) (gs_at (at_tup (al_cons at_lit (al_cons (at_var rfl) al_nil)) rfl) (gs_at (at_var rfl) (gs_at at_lit gs_nil))))) (fun _ _ => trivial))))) (st_assoc (st_retA (inj := Lo.ret) retX at_lit)) (st_nilr (st_setI (pc := fun (s : (List D)) => [.is (.dat script1), .is (.lst s), .is (.dat d5), .is (.dat most13), .is (.dat b21.1.1), .is (.dat b21.1.2.1), .is (.dat b21.1.2.2), .any, .is (.dat due78), .nb, .is (.dat high74), .any, .any]) (s := b21.2) (xi_op2a (at_lst (al_cons at_lit (al_cons (at_tup (al_cons at_lit (al_cons at_lit al_nil)) rfl) (al_cons (at_tup (al_cons at_lit (al_cons at_lit al_nil)) rfl) (al_cons (at_lst (al_cons at_lit (al_cons at_lit al_nil)) rfl) (al_cons (at_tup (al_cons at_lit (al_cons at_lit al_nil)) rfl) (al_cons (at_tup (al_cons at_lit (al_cons at_lit al_nil)) rfl) (al_cons (at_tup (al_cons at_lit al_nil) rfl) (al_cons (at_tup (al_cons (at_tup (al_cons at_lit (al_cons (at_lst (al_cons at_lit al_nil) rfl) al_nil)) rfl) al_nil) rfl) al_nil)))))))) rfl) (xi_callO (g := fun s => s) (u := fun _ w => w) GP__law_take (fun _ => ⟨_, rfl, rfl, fun _ => rfl⟩) (ai_at at_lit (ai_nil rfl)) (fun _ => trivial))) (fun _ => rfl) (fun bad96 => (st_setI (pc := fun (s : (List D)) => [.is (.dat script1), .is (.lst s), .is (.dat d5), .is (.dat most13), .is (.dat b21.1.1), .is (.dat b21.1.2.1), .is (.dat b21.1.2.2), .any, .is (.dat due78), .nb, .is (.dat high74), .is (.dat bad96.1), .any]) (s := bad96.2) (xi_callO (g := fun s => s) (u := fun _ w => w) GP__law_take (fun _ => ⟨_, rfl, rfl, fun _ => rfl⟩) (ai_at at_lit (ai_nil rfl)) (fun _ => trivial)) (fun _ => rfl) (fun which98 => (st_if (t_b (x_op2 (XE.r (x_call GP__law_caught (GS.a (gs_at (at_var rfl) (gs_at (at_var rfl) (gs_at at_lit (gs_at at_lit gs_nil))))) (fun _ _ => trivial))) (XE.r (x_tup (GS.a (gs_at at_lit (gs_cons (x_cb1a (AtS.a (at_var rfl))) (fun v100 => gs_nil)))))))) (st_assoc (st_retA (inj := Lo.ret) retX at_lit)) (st_nilr (st_if (t_b (x_op2 (XE.r (x_call GP__law_caught (GS.a (gs_at (at_var rfl) (gs_at (at_var rfl) (gs_at (at_var rfl) (gs_at (at_var rfl) gs_nil))))) (fun _ _ => trivial))) (XE.r (x_tup (GS.a (gs_at at_lit (gs_cons (x_cb1a (AtS.a (at_var rfl))) (fun v106 => gs_nil)))))))) (st_assoc (st_retA (inj := Lo.ret) retX at_lit)) (st_nilr (st_if (t_and (t_b (x_op2c (AtS.a (at_var rfl)) (AtS.a at_lit))) (t_b (x_op2 (XE.r (x_call GP__law_caught (GS.a (gs_at (at_var rfl) (gs_at (at_var rfl) (gs_at (at_var rfl) (gs_at at_lit gs_nil))))) (fun _ _ => trivial))) (XE.r (x_tup (GS.a (gs_at at_lit (gs_cons (x_cb1a (AtS.a (at_var rfl))) (fun v114 => gs_nil))))))))) (st_assoc (st_retA (inj := Lo.ret) retX at_lit)) (st_nilr (st_xl (.c .r (.c .r (.c .a (.c .a (.c .a (.c .a (.c .a (.c .r (.c .a (.c .r (.c .a (.c .a (.c .a .n))))))))))))))))))))))))))))))))) retX))))))) (fun s122 => (st_retA (inj := id) retF at_lit)) retF)))
theorem GP_law : ∀ ds, FG (F_law [] ds) (P_law ds) ΨD
  | [script1] => g_law script1
  | [] => trivial
  | _ :: _ :: _ => trivial
end
end LK

set_option Elab.async false
set_option linter.all false
set_option maxRecDepth 100000
set_option maxHeartbeats 4000000
/-! PU: how the plain functions evaluate. -/
namespace DL
open PySem PySem.Spec PyProof.Rows L2
/-! ### operators on known data -/
section
variable {i j : Int} {d e a b c x y z u v : D} {ds es l m : List D} {s t : Str}
@[simp] theorem addD_i : addD (.int i) (.int j) = some (.int (i + j)) := nr rfl
@[simp] theorem iaddD_i : iaddD (.int i) (.int j) = some (.int (i + j)) := nr rfl
@[simp] theorem subD_i : subD (.int i) (.int j) = some (.int (i - j)) := nr rfl
@[simp] theorem ltD_i : ltD (.int i) (.int j) = some (.bool (decide (i < j))) := nr rfl
@[simp] theorem leD_i : leD (.int i) (.int j) = some (.bool (decide (i ≤ j))) := nr rfl
@[simp] theorem gtD_i : gtD (.int i) (.int j) = some (.bool (decide (j < i))) := nr rfl
@[simp] theorem geD_i : geD (.int i) (.int j) = some (.bool (decide (j ≤ i))) := nr rfl
@[simp] theorem negD_i : negD (.int i) = some (.int (-i)) := nr rfl
theorem mulD_i (h : mulC i j = true) : mulD (.int i) (.int j) = some (.int (i * j)) := by show (if mulC i j then _ else _) = _; rw [if_pos h]
theorem mul_c1 (h : j.natAbs < 2 ^ 64) : mulC i j = true := by unfold mulC; rw [decide_eq_true h, Bool.or_true, Bool.or_true]
theorem mul_c2 (h : i.natAbs < 2 ^ 64) : mulC i j = true := by unfold mulC; rw [decide_eq_true h, Bool.true_or, Bool.or_true]
theorem log2_of {n k : Nat} (h : n < 2 ^ k) (hk : 0 < k) : n.log2 < k := by
  by_cases h0 : n = 0
  · subst h0; simpa using hk
  · exact (Nat.log2_lt h0).mpr h
theorem mul_c3 (hi : i.natAbs < 2 ^ 1000) (hj : j.natAbs < 2 ^ 1000) : mulC i j = true := by
  have h1 := log2_of hi (by decide)
  have h2 := log2_of hj (by decide)
  unfold mulC
  rw [decide_eq_true (by omega : i.natAbs.log2 + j.natAbs.log2 < 1000000), Bool.true_or]
theorem mulX_i (h : mulC i j = true) : mulX (.int i) (.int j) = some (.int (i * j)) := mulD_i h
theorem mulX_r (h : j.natAbs < 2 ^ 64) : mulX (.int i) (.int j) = some (.int (i * j)) := mulD_i (mul_c1 h)
theorem mulX_l (h : i.natAbs < 2 ^ 64) : mulX (.int i) (.int j) = some (.int (i * j)) := mulD_i (mul_c2 h)
theorem mulX_b (hi : i.natAbs < 2 ^ 1000) (hj : j.natAbs < 2 ^ 1000) : mulX (.int i) (.int j) = some (.int (i * j)) := mulD_i (mul_c3 hi hj)
theorem mulX_list (h1 : -1000 ≤ j) (h2 : j ≤ 1000) (h3 : ds.length ≤ 1000) : mulX (.list ds) (.int j) = some (.list (repD j ds)) := if_pos ⟨h1, h2, h3⟩
theorem mulX_tup (h1 : -1000 ≤ j) (h2 : j ≤ 1000) (h3 : ds.length ≤ 1000) : mulX (.tuple ds) (.int j) = some (.tuple (repD j ds)) := if_pos ⟨h1, h2, h3⟩
theorem imulD_r (h : j.natAbs < 2 ^ 64) : imulD (.int i) (.int j) = some (.int (i * j)) := by
  show (if imulC i j then _ else _) = _
  rw [if_pos (by unfold imulC; rw [decide_eq_true h, Bool.or_true])]
theorem modD_i (h : 0 < j) : modD (.int i) (.int j) = some (.int (i % j)) := by show (if modC i j then _ else _) = _; rw [if_pos (show modC i j = true from decide_eq_true h)]
theorem fdivD_i (h : 0 < j) (h2 : j.natAbs < 2 ^ 1000) : fdivD (.int i) (.int j) = some (.int (i / j)) := by
  show (if divC i j then _ else _) = _
  have h2 : j.natAbs.log2 < 9000 := Nat.lt_trans (log2_of h2 (by decide)) (by decide)
  rw [if_pos (by unfold divC; rw [decide_eq_true h, decide_eq_true h2]; rfl)]
theorem powD_n (n : Nat) (hn : n ≤ 1000000) : powD (.int 10) (.int n) = some (.int (10 ^ n)) := by
  show (if powC 10 n then some (PyData.int (10 ^ (n : Int).toNat)) else none) = _
  rw [if_pos (by unfold powC; rw [decide_eq_true (by omega : (0 : Int) ≤ n), decide_eq_true (by omega : (n : Int) ≤ 1000000)]; decide)]
  rfl
@[simp] theorem intF_i : intF [.int i] = some (.int i) := nr rfl
@[simp] theorem intF_b {b : Bool} : intF [.bool b] = some (.int (if b then 1 else 0)) := nr rfl
@[simp] theorem absF_i : absF [.int i] = some (.int (if i < 0 then -i else i)) := nr rfl
@[simp] theorem maxF_i : maxF [.int i, .int j] = some (.int (if j > i then j else i)) := nr rfl
@[simp] theorem minF_i : minF [.int i, .int j] = some (.int (if j < i then j else i)) := nr rfl
@[simp] theorem lenF_l : lenF [.list ds] = some (.int ds.length) := nr rfl
@[simp] theorem lenF_t : lenF [.tuple ds] = some (.int ds.length) := nr rfl
@[simp] theorem tupleF_l : tupleF [.list ds] = some (.tuple ds) := nr rfl
@[simp] theorem tupleF_t : tupleF [.tuple ds] = some (.tuple ds) := nr rfl
@[simp] theorem listF_l : listF [.list ds] = some (.list ds) := nr rfl
@[simp] theorem listF_t : listF [.tuple ds] = some (.list ds) := nr rfl
@[simp] theorem revX_l : revX (.list ds) = some (.list ds.reverse) := nr rfl
@[simp] theorem revX_t : revX (.tuple ds) = some (.tuple ds.reverse) := nr rfl
@[simp] theorem zipF_l : zipF [.list ds, .list es] = some (zipD ds es) := nr rfl
@[simp] theorem zipF_t : zipF [.tuple ds, .tuple es] = some (zipD ds es) := nr rfl
@[simp] theorem enumF_l : enumF [.list ds] = some (enumD 0 ds) := nr rfl
@[simp] theorem isN_n : isNoneB .none = true := nr rfl
@[simp] theorem isN_i : isNoneB (.int i) = false := nr rfl
@[simp] theorem isN_b {b : Bool} : isNoneB (.bool b) = false := nr rfl
@[simp] theorem isN_s : isNoneB (.str s) = false := nr rfl
@[simp] theorem isN_l : isNoneB (.list ds) = false := nr rfl
@[simp] theorem isN_t : isNoneB (.tuple ds) = false := nr rfl
@[simp] theorem eqX_s : eqX (.str s) (.str t) = some (.bool (s == t)) := nr rfl
@[simp] theorem neX_s : neX (.str s) (.str t) = some (.bool (!(s == t))) := nr rfl
theorem eqX_i : eqX (.int i) (.int j) = some (.bool (decide (i = j))) := by
  show eqD _ _ = _
  unfold eqD
  rw [if_pos (by simp [SeqAt.shaped, PyData.canLay0, PyData.depth])]
  rfl
theorem neX_i : neX (.int i) (.int j) = some (.bool (!decide (i = j))) := by
  show neD _ _ = _
  unfold neD
  rw [if_pos (by simp [SeqAt.shaped, PyData.canLay0, PyData.depth])]
  rfl
/-! items of displays -/
@[simp] theorem ix_t0 : ixD (.tuple (a :: l)) (.int 0) = some a := by
  show atI _ _ = _
  unfold atI ixN
  simp
@[simp] theorem ix_l0 : ixD (.list (a :: l)) (.int 0) = some a := by
  show atI _ _ = _
  unfold atI ixN
  simp
end
theorem ixN_nat {n k : Nat} (h : k < n) : ixN n (k : Int) = some k := by
  unfold ixN
  rw [if_pos (by omega)]
  first
    | (rw [if_pos (by omega)]; congr 1)
    | (congr 1)
theorem ix_tn {ds : List D} {k : Nat} (h : k < ds.length) : ixD (.tuple ds) (.int k) = some ds[k] := by
  show atI _ _ = _
  unfold atI
  rw [ixN_nat h, Option.bind_some, List.getElem?_eq_getElem h]
theorem ix_ln {ds : List D} {k : Nat} (h : k < ds.length) : ixD (.list ds) (.int k) = some ds[k] := by
  show atI _ _ = _
  unfold atI
  rw [ixN_nat h, Option.bind_some, List.getElem?_eq_getElem h]
section
variable {a b c d e f g : D} {l : List D}
@[simp] theorem ix_t1 : ixD (.tuple (a :: b :: l)) (.int 1) = some b := ix_tn (k := 1) (by simp)
@[simp] theorem ix_t2 : ixD (.tuple (a :: b :: c :: l)) (.int 2) = some c := ix_tn (k := 2) (by simp)
@[simp] theorem ix_t3 : ixD (.tuple (a :: b :: c :: d :: l)) (.int 3) = some d := ix_tn (k := 3) (by simp)
@[simp] theorem ix_t4 : ixD (.tuple (a :: b :: c :: d :: e :: l)) (.int 4) = some e := ix_tn (k := 4) (by simp)
@[simp] theorem ix_t5 : ixD (.tuple (a :: b :: c :: d :: e :: f :: l)) (.int 5) = some f := ix_tn (k := 5) (by simp)
@[simp] theorem ix_l1 : ixD (.list (a :: b :: l)) (.int 1) = some b := ix_ln (k := 1) (by simp)
@[simp] theorem ix_l2 : ixD (.list (a :: b :: c :: l)) (.int 2) = some c := ix_ln (k := 2) (by simp)
@[simp] theorem ix_l3 : ixD (.list (a :: b :: c :: d :: l)) (.int 3) = some d := ix_ln (k := 3) (by simp)
end
/-! isinstance -/
def tyIs (t : String) (d : D) : Bool := tyD d == t || (tyD d == "bool" && t == "int")
def dInt : D → Bool | .int _ => true | _ => false
def dTup : D → Bool | .tuple _ => true | _ => false
def dStr : D → Bool | .str _ => true | _ => false
def dLst : D → Bool | .list _ => true | _ => false
def dIntB : D → Bool | .int _ => true | .bool _ => true | _ => false
def dBool : D → Bool | .bool _ => true | _ => false
theorem kit_int : ∀ d : D, isTy "int" d = some (dIntB d)
  | .none => (by decide +kernel : kitB "NoneType" "int" = some false)
  | .bool _ => (by decide +kernel : kitB "bool" "int" = some true)
  | .int _ => (by decide +kernel : kitB "int" "int" = some true)
  | .str _ => (by decide +kernel : kitB "str" "int" = some false)
  | .list _ => (by decide +kernel : kitB "list" "int" = some false)
  | .tuple _ => (by decide +kernel : kitB "tuple" "int" = some false)
  | .dict _ => (by decide +kernel : kitB "dict" "int" = some false)
theorem kit_bool : ∀ d : D, isTy "bool" d = some (dBool d)
  | .none => (by decide +kernel : kitB "NoneType" "bool" = some false)
  | .bool _ => (by decide +kernel : kitB "bool" "bool" = some true)
  | .int _ => (by decide +kernel : kitB "int" "bool" = some false)
  | .str _ => (by decide +kernel : kitB "str" "bool" = some false)
  | .list _ => (by decide +kernel : kitB "list" "bool" = some false)
  | .tuple _ => (by decide +kernel : kitB "tuple" "bool" = some false)
  | .dict _ => (by decide +kernel : kitB "dict" "bool" = some false)
theorem kit_str : ∀ d : D, isTy "str" d = some (dStr d)
  | .none => (by decide +kernel : kitB "NoneType" "str" = some false)
  | .bool _ => (by decide +kernel : kitB "bool" "str" = some false)
  | .int _ => (by decide +kernel : kitB "int" "str" = some false)
  | .str _ => (by decide +kernel : kitB "str" "str" = some true)
  | .list _ => (by decide +kernel : kitB "list" "str" = some false)
  | .tuple _ => (by decide +kernel : kitB "tuple" "str" = some false)
  | .dict _ => (by decide +kernel : kitB "dict" "str" = some false)
theorem kit_tuple : ∀ d : D, isTy "tuple" d = some (dTup d)
  | .none => (by decide +kernel : kitB "NoneType" "tuple" = some false)
  | .bool _ => (by decide +kernel : kitB "bool" "tuple" = some false)
  | .int _ => (by decide +kernel : kitB "int" "tuple" = some false)
  | .str _ => (by decide +kernel : kitB "str" "tuple" = some false)
  | .list _ => (by decide +kernel : kitB "list" "tuple" = some false)
  | .tuple _ => (by decide +kernel : kitB "tuple" "tuple" = some true)
  | .dict _ => (by decide +kernel : kitB "dict" "tuple" = some false)
theorem kit_list : ∀ d : D, isTy "list" d = some (dLst d)
  | .none => (by decide +kernel : kitB "NoneType" "list" = some false)
  | .bool _ => (by decide +kernel : kitB "bool" "list" = some false)
  | .int _ => (by decide +kernel : kitB "int" "list" = some false)
  | .str _ => (by decide +kernel : kitB "str" "list" = some false)
  | .list _ => (by decide +kernel : kitB "list" "list" = some true)
  | .tuple _ => (by decide +kernel : kitB "tuple" "list" = some false)
  | .dict _ => (by decide +kernel : kitB "dict" "list" = some false)
theorem isXd_int (d : D) : isXd (isTy "int") d = Rk (.bool (dIntB d)) := by unfold isXd; rw [kit_int]; rfl
theorem isXd_bool (d : D) : isXd (isTy "bool") d = Rk (.bool (dBool d)) := by unfold isXd; rw [kit_bool]; rfl
theorem isXd_str (d : D) : isXd (isTy "str") d = Rk (.bool (dStr d)) := by unfold isXd; rw [kit_str]; rfl
theorem isXd_tuple (d : D) : isXd (isTy "tuple") d = Rk (.bool (dTup d)) := by unfold isXd; rw [kit_tuple]; rfl
theorem isXd_list (d : D) : isXd (isTy "list") d = Rk (.bool (dLst d)) := by unfold isXd; rw [kit_list]; rfl
/-! ### loops and comprehensions -/
section
variable {α β σ τ : Type}
theorem lcP_ok {f : D → R (Option D)} {h : D → Option D} : ∀ {ds : List D}, (∀ d ∈ ds, f d = Rk (h d)) → lcP f ds = Rk (ds.filterMap h)
  | [], _ => rfl
  | d :: ds, hf => by
    unfold lcP
    rw [hf d (List.mem_cons_self ..), quiet_ok, bd_ok, lcP_ok fun x hx => hf x (List.mem_cons_of_mem _ hx), bd_ok]
    cases e : h d with
    | none => rw [List.filterMap_cons_none e]
    | some y => rw [List.filterMap_cons_some e]
theorem lcR_ok {f : D → R (Option D)} {h : D → Option D} {ds : List D} (hf : ∀ d ∈ ds, f d = Rk (h d)) (hl : ds.length ≤ 16777216) : lcR f ds = Rk (ds.filterMap h) := by
  unfold lcR
  rw [lcP_ok hf, bd_ok]
  exact capR_ok (Nat.le_trans (List.length_filterMap_le h ds) hl)
theorem mapR_ok {g : D → R D} {h : D → D} {ds : List D} (hf : ∀ d ∈ ds, g d = Rk (h d)) (hl : ds.length ≤ 16777216) : mapR g ds = Rk (ds.map h) := by
  unfold mapR
  rw [lcR_ok (h := fun d => some (h d)) (fun d hd => by rw [hf d hd, bd_ok]) hl, List.filterMap_eq_map']
theorem mapR_enc {g : D → R D} (enc : α → D) {h : α → D} {xs : List α} (hf : ∀ x ∈ xs, g (enc x) = Rk (h x)) (hl : xs.length ≤ 16777216) : mapR g (xs.map enc) = Rk (xs.map h) := by
  have : ∀ xs : List α, (∀ x ∈ xs, g (enc x) = Rk (h x)) → lcP (fun d => bd (g d) fun y => Rk (some y)) (xs.map enc) = Rk (xs.map h) := by
    intro xs
    induction xs with
    | nil => intro _; rfl
    | cons x xs ih =>
      intro hf
      rw [List.map_cons]
      unfold lcP
      rw [hf x (List.mem_cons_self ..), bd_ok, quiet_ok, bd_ok, ih fun y hy => hf y (List.mem_cons_of_mem _ hy)]
      rfl
  unfold mapR lcR
  rw [this xs hf, bd_ok]
  exact capR_ok (by rw [List.length_map]; exact hl)
theorem selR_ok {c : R Bool} {e : R D} {b : Bool} {y : D} (hc : c = Rk b) (he : b = true → e = Rk y) : selR c e = Rk (if b = true then some y else none) := by
  unfold selR
  rw [hc, bd_ok]
  cases b with
  | true => rw [if_pos rfl, if_pos rfl, he rfl]; rfl
  | false => rfl
/-- [x for x in xs if c] -/
theorem lcR_filter {c : D → R Bool} (enc : α → D) {b : α → Bool} {xs : List α} (hf : ∀ x ∈ xs, c (enc x) = Rk (b x)) (hl : xs.length ≤ 16777216) : lcR (fun d => selR (c d) (Rk d)) (xs.map enc) = Rk ((xs.filter b).map enc) := by
  have : ∀ xs : List α, (∀ x ∈ xs, c (enc x) = Rk (b x)) → lcP (fun d => selR (c d) (Rk d)) (xs.map enc) = Rk ((xs.filter b).map enc) := by
    intro xs
    induction xs with
    | nil => intro _; rfl
    | cons x xs ih =>
      intro hf
      rw [List.map_cons]
      unfold lcP
      rw [selR_ok (hf x (List.mem_cons_self ..)) (fun _ => rfl), quiet_ok, bd_ok, ih fun y hy => hf y (List.mem_cons_of_mem _ hy), bd_ok]
      cases e : b x with
      | true => rw [List.filter_cons_of_pos e]; rfl
      | false => rw [List.filter_cons_of_neg (by rw [e]; exact Bool.false_ne_true)]; rfl
  unfold lcR
  rw [this xs hf, bd_ok]
  exact capR_ok (by rw [List.length_map]; exact Nat.le_trans (List.length_filter_le _ _) hl)
theorem lcR_enc {f : D → R (Option D)} (enc : α → D) {h : α → Option D} {xs : List α} (hf : ∀ x ∈ xs, f (enc x) = Rk (h x)) (hl : xs.length ≤ 16777216) : lcR f (xs.map enc) = Rk (xs.filterMap h) := by
  have : ∀ xs : List α, (∀ x ∈ xs, f (enc x) = Rk (h x)) → lcP f (xs.map enc) = Rk (xs.filterMap h) := by
    intro xs
    induction xs with
    | nil => intro _; rfl
    | cons x xs ih =>
      intro hf
      rw [List.map_cons]
      unfold lcP
      rw [hf x (List.mem_cons_self ..), quiet_ok, bd_ok, ih fun y hy => hf y (List.mem_cons_of_mem _ hy), bd_ok]
      cases e : h x with
      | none => rw [List.filterMap_cons_none e]
      | some y => rw [List.filterMap_cons_some e]
  unfold lcR
  rw [this xs hf, bd_ok]
  exact capR_ok (Nat.le_trans (List.length_filterMap_le _ _) hl)
theorem forR_nil {f : σ → D → R σ} {s : σ} : forR f s [] = Rk s := rfl
theorem forR_cons {f : σ → D → R σ} {s : σ} {d : D} {ds : List D} : forR f s (d :: ds) = bd (f s d) fun s' => forR f s' ds := rfl
/-- a loop as a fold, states and items encoded -/
theorem forR_enc {f : σ → D → R σ} (es : β → σ) (ex : α → D) {g : β → α → β} : ∀ {xs : List α} {b : β}, (∀ b x, x ∈ xs → f (es b) (ex x) = Rk (es (g b x))) → forR f (es b) (xs.map ex) = Rk (es (xs.foldl g b))
  | [], b, _ => rfl
  | x :: xs, b, h => by
    rw [List.map_cons, forR_cons, h b x (List.mem_cons_self ..), bd_ok]
    exact forR_enc es ex fun b y hy => h b y (List.mem_cons_of_mem _ hy)
/-- a loop by what holds with the items left -/
theorem forR_inv {f : σ → D → R σ} (P : List D → σ → Prop) (hs : ∀ s d ds, P (d :: ds) s → ∃ s', f s d = Rk s' ∧ P ds s') : ∀ {ds : List D} {s : σ}, P ds s → ∃ s', forR f s ds = Rk s' ∧ P [] s'
  | [], s, h => ⟨s, rfl, h⟩
  | d :: ds, s, h => by
    obtain ⟨s', e, h'⟩ := hs s d ds h
    obtain ⟨s2, e2, h2⟩ := forR_inv P hs h'
    exact ⟨s2, by rw [forR_cons, e, bd_ok]; exact e2, h2⟩
theorem forX_cons {f : σ → D → R (Lo σ τ)} {s : σ} {d : D} {ds : List D} : forX f s (d :: ds) = bd (f s d) fun l => match l with
    | .nx s' => forX f s' ds
    | .brk s' => Rk (.nx s')
    | .ret t => Rk (.ret t) := rfl
/-- a loop that is not left -/
theorem forX_inv {f : σ → D → R (Lo σ τ)} (P : List D → σ → Prop) (hs : ∀ s d ds, P (d :: ds) s → ∃ s', f s d = Rk (.nx s') ∧ P ds s') : ∀ {ds : List D} {s : σ}, P ds s → ∃ s', forX f s ds = Rk (.nx s') ∧ P [] s'
  | [], s, h => ⟨s, rfl, h⟩
  | d :: ds, s, h => by
    obtain ⟨s', e, h'⟩ := hs s d ds h
    obtain ⟨s2, e2, h2⟩ := forX_inv P hs h'
    exact ⟨s2, by rw [forX_cons, e, bd_ok]; exact e2, h2⟩
/-- a comprehension that changes lists -/
theorem lcI_inv {f : σ → D → R (Option D × σ)} (P : List D → List D → σ → Prop) (hs : ∀ s d ds acc, P acc (d :: ds) s → ∃ o s', f s d = Rk (o, s') ∧ P (acc ++ o.toList) ds s') : ∀ {ds : List D} {acc : List D} {s : σ}, P acc ds s → ∃ es s', lcI f s ds = Rk (es, s') ∧ P (acc ++ es) [] s' ∧ es.length ≤ ds.length
  | [], acc, s, h => ⟨[], s, rfl, by rw [List.append_nil]; exact h, Nat.le_refl _⟩
  | d :: ds, acc, s, h => by
    obtain ⟨o, s', e, h'⟩ := hs s d ds acc h
    obtain ⟨es, s2, e2, h2, hl⟩ := lcI_inv P hs h'
    unfold lcI
    rw [e, quiet_ok, bd_ok]
    dsimp only
    rw [e2, bd_ok]
    cases o with
    | none => exact ⟨es, s2, rfl, by simpa using h2, by simp; omega⟩
    | some y => exact ⟨y :: es, s2, rfl, by simpa using h2, by simp; omega⟩
theorem capI_ok {b : List D × σ} (h : b.1.length ≤ 16777216) : capI b = Rk b := if_pos h
theorem appR_ok {ds : List D} {d : D} (h : ds.length < 16777216) : appR ds d = Rk (ds ++ [d]) := if_pos h
theorem extR_ok {ds es : List D} (h : ds.length + es.length ≤ 16777216) : extR ds es = Rk (ds ++ es) := if_pos h
@[simp] theorem thn_ret' {t : τ} {k : σ → R β} {r : τ → R β} : thn (.ret t) k r = r t := nr rfl
theorem bd_pair {x : R (α × β)} : (bd x fun v => Rk (v.1, v.2)) = x := by
  match x with
  | none => rfl
  | some (.ok (a, b)) => rfl
  | some (.error e) => rfl
end
/-! ranges -/
theorem rngF_n {n : Nat} (h : n < 2 ^ 60) : rngF [.int n] = some ((List.range n).map fun (i : Nat) => PyData.int i) := by
  show (if okR n then some (rangeD 0 n) else none) = _
  rw [if_pos (by unfold okR; rw [decide_eq_true (by omega), decide_eq_true (by omega)]; rfl)]
  unfold rangeD
  simp
theorem rngF_0 {i : Int} (h : i ≤ 0) (h2 : -(2 ^ 60) < i) : rngF [.int i] = some [] := by
  show (if okR i then some (rangeD 0 i) else none) = _
  rw [if_pos (by unfold okR; rw [decide_eq_true (by omega), decide_eq_true (by omega)]; rfl)]
  unfold rangeD
  have : (i - 0).toNat = 0 := by omega
  rw [this]; rfl
end DL

set_option Elab.async false
set_option linter.all false
set_option maxRecDepth 100000
set_option maxHeartbeats 4000000
/-! PG: data that can be written and compared. -/
namespace DL
open PySem PySem.Spec PyProof.Rows L2
structure Good (k z : Nat) (d : D) : Prop where
  depth : d.depth ≤ k
  rz : DL.rz d ≤ z
  sh : d.showable = true
  lay : d.canLay0 = true
section
variable {k z k' z' : Nat} {d e : D} {ds : List D}
theorem Good.mono (h : Good k z d) (hk : k ≤ k') (hz : z ≤ z') : Good k' z' d := ⟨Nat.le_trans h.depth hk, Nat.le_trans h.rz hz, h.sh, h.lay⟩
theorem good_none : Good 0 4 .none := ⟨by simp [PyData.depth], by simp [rz], by simp [PyData.showable], by simp [PyData.canLay0]⟩
theorem good_bool (b : Bool) : Good 0 5 (.bool b) := ⟨by simp [PyData.depth], by simp [rz], by simp [PyData.showable], by simp [PyData.canLay0]⟩
theorem good_int {i : Int} (h : i.natAbs < 2 ^ 1000) : Good 0 1002 (.int i) := by
  have h1 := log2_of h (by decide)
  exact ⟨by simp [PyData.depth], by simp [rz]; omega, by simp [PyData.showable]; omega, by simp [PyData.canLay0]⟩
theorem good_str {x : Str} (h1 : PyData.strOk x = true) (h2 : (reprText x).length ≤ 1000) : Good 0 1000 (.str x) := ⟨by simp [PyData.depth], by simp [rz]; exact h2, by simp [PyData.showable], by simpa [PyData.canLay0] using h1⟩
theorem rzAll_le : ∀ {ds : List D}, (∀ d ∈ ds, Good k z d) → rzAll ds ≤ ds.length * (z + 2)
  | [], _ => by simp [rzAll]
  | d :: ds, h => by
    have h1 := (h d (List.mem_cons_self ..)).rz
    have h2 := rzAll_le fun e he => h e (List.mem_cons_of_mem _ he)
    rw [rzAll, List.length_cons, Nat.succ_mul]
    omega
theorem depthAll_le : ∀ {ds : List D}, (∀ d ∈ ds, Good k z d) → PyData.depthAll ds ≤ k
  | [], _ => by simp [PyData.depthAll]
  | d :: ds, h => by
    have h1 := (h d (List.mem_cons_self ..)).depth
    have h2 := depthAll_le fun e he => h e (List.mem_cons_of_mem _ he)
    rw [PyData.depthAll]
    omega
theorem showAll : ∀ {ds : List D}, (∀ d ∈ ds, Good k z d) → PyData.showableAll ds = true
  | [], _ => by simp [PyData.showableAll]
  | d :: ds, h => by
    rw [PyData.showableAll, (h d (List.mem_cons_self ..)).sh, showAll fun e he => h e (List.mem_cons_of_mem _ he)]; rfl
theorem layAll : ∀ {ds : List D}, (∀ d ∈ ds, Good k z d) → PyData.canLayAll0 ds = true
  | [], _ => by simp [PyData.canLayAll0]
  | d :: ds, h => by
    rw [PyData.canLayAll0, (h d (List.mem_cons_self ..)).lay, layAll fun e he => h e (List.mem_cons_of_mem _ he)]; rfl
theorem good_list (n : Nat) (h : ∀ d ∈ ds, Good k z d) (hn : ds.length ≤ n) : Good (k + 1) (n * (z + 2) + 3) (.list ds) := by
  have h1 := rzAll_le h
  have h2 := depthAll_le h
  have h3 := Nat.mul_le_mul_right (z + 2) hn
  exact ⟨by rw [PyData.depth]; omega, by rw [rz]; omega, by rw [PyData.showable]; exact showAll h, by rw [PyData.canLay0]; exact layAll h⟩
theorem good_tup (n : Nat) (h : ∀ d ∈ ds, Good k z d) (hn : ds.length ≤ n) : Good (k + 1) (n * (z + 2) + 3) (.tuple ds) := by
  have h1 := rzAll_le h
  have h2 := depthAll_le h
  have h3 := Nat.mul_le_mul_right (z + 2) hn
  exact ⟨by rw [PyData.depth]; omega, by rw [rz]; omega, by rw [PyData.showable]; exact showAll h, by rw [PyData.canLay0]; exact layAll h⟩
theorem Good.shaped (h : Good k z d) (hk : k ≤ 64) : SeqAt.shaped d = true := by
  unfold SeqAt.shaped
  rw [h.lay, decide_eq_true (Nat.le_trans h.depth hk)]; rfl
theorem Good.repr (h : Good k z d) (hk : k ≤ 64) (hz : z ≤ 16777216) : reprF [d] = some (.str d.shown) := by
  show (if reprOk d then _ else _) = _
  rw [if_pos]
  unfold reprOk
  rw [h.sh, h.shaped hk, decide_eq_true (Nat.le_trans h.depth hk), decide_eq_true (Nat.le_trans h.rz hz)]; rfl
mutual
theorem eqv_rfl : ∀ d : D, d.hasDict = false → PyData.eqv d d = true
  | .none, _ => by simp [PyData.eqv]
  | .bool _, _ => by simp [PyData.eqv]
  | .int _, _ => by simp [PyData.eqv]
  | .str _, _ => by simp [PyData.eqv]
  | .list ds, h => by simp only [PyData.eqv]; exact eqvAll_rfl ds (by simpa only [PyData.hasDict] using h)
  | .tuple ds, h => by simp only [PyData.eqv]; exact eqvAll_rfl ds (by simpa only [PyData.hasDict] using h)
  | .dict _, h => by simp [PyData.hasDict] at h
theorem eqvAll_rfl : ∀ ds : List D, PyData.hasDictAll ds = false → PyData.eqvAll ds ds = true
  | [], _ => by simp [PyData.eqvAll]
  | d :: ds, h => by
    simp only [PyData.hasDictAll, Bool.or_eq_false_iff] at h
    simp only [PyData.eqvAll, eqv_rfl d h.1, eqvAll_rfl ds h.2, Bool.and_self]
end
theorem Good.noDict (h : Good k z d) : d.hasDict = false := PyData.hasDict_of_canLay d h.lay
theorem eqX_eq (h1 : SeqAt.shaped d = true) (h2 : SeqAt.shaped e = true) : eqX d e = some (.bool (PyData.eqv d e)) := by
  have e1 : eqD d e = some (.bool (PyData.eqv d e)) := by
    unfold eqD
    rw [h1, h2, Bool.and_self, if_pos rfl]
  cases d with
  | str x =>
    cases e with
    | str y => rw [eqX_s]; simp only [PyData.eqv]
    | _ => exact e1
  | _ => cases e <;> exact e1
theorem neX_eq (h1 : SeqAt.shaped d = true) (h2 : SeqAt.shaped e = true) : neX d e = some (.bool (!PyData.eqv d e)) := by
  have e1 : neD d e = some (.bool (!PyData.eqv d e)) := by
    unfold neD
    rw [h1, h2, Bool.and_self, if_pos rfl]
  cases d with
  | str x =>
    cases e with
    | str y => rw [neX_s]; simp only [PyData.eqv]
    | _ => exact e1
  | _ => cases e <;> exact e1
theorem Good.eq (h : Good k z d) (hk : k ≤ 64) : eqX d d = some (.bool true) := by
  rw [eqX_eq (h.shaped hk) (h.shaped hk), eqv_rfl d h.noDict]
theorem Good.ne (h : Good k z d) (hk : k ≤ 64) : neX d d = some (.bool false) := by
  rw [neX_eq (h.shaped hk) (h.shaped hk), eqv_rfl d h.noDict]; rfl
theorem neX_same {s : Str} : neX (.str s) (.str s) = some (.bool false) := by rw [neX_s]; simp
theorem eqX_same {s : Str} : eqX (.str s) (.str s) = some (.bool true) := by rw [eqX_s]; simp
theorem len_le_rzAll : ∀ ds : List D, ds.length ≤ rzAll ds
  | [] => Nat.zero_le _
  | d :: ds => by
    have := len_le_rzAll ds
    rw [rzAll, List.length_cons]; omega
theorem mem_rzAll : ∀ {ds : List D} {d : D}, d ∈ ds → rz d ≤ rzAll ds
  | e :: ds, d, h => by
    rw [rzAll]
    rcases List.mem_cons.mp h with rfl | h
    · omega
    · have := mem_rzAll h; omega
theorem mem_depthAll : ∀ {ds : List D} {d : D}, d ∈ ds → d.depth ≤ PyData.depthAll ds
  | e :: ds, d, h => by
    rw [PyData.depthAll]
    rcases List.mem_cons.mp h with rfl | h
    · omega
    · have := mem_depthAll h; omega
/-! lists of truths -/
theorem asBools_map : ∀ bs : List Bool, asBools (bs.map PyData.bool) = some bs
  | [] => rfl
  | b :: bs => by
    rw [List.map_cons]
    show (asBools (bs.map PyData.bool)).map (b :: ·) = _
    rw [asBools_map bs]; rfl
theorem allF_bools (bs : List Bool) : allF [.list (bs.map PyData.bool)] = some (.bool (bs.all id)) := by
  show (asBools (bs.map PyData.bool)).map _ = _
  rw [asBools_map]; rfl
theorem anyF_bools (bs : List Bool) : anyF [.list (bs.map PyData.bool)] = some (.bool (bs.any id)) := by
  show (asBools (bs.map PyData.bool)).map _ = _
  rw [asBools_map]; rfl
theorem asInts_map : ∀ bs : List Int, asInts (bs.map PyData.int) = some bs
  | [] => rfl
  | b :: bs => by
    rw [List.map_cons]
    show (asInts (bs.map PyData.int)).map (b :: ·) = _
    rw [asInts_map bs]; rfl
theorem shaped_bools (bs : List Bool) : SeqAt.shaped (.list (bs.map PyData.bool)) = true :=
  (good_list (k := 0) (z := 5) bs.length (fun d hd => by obtain ⟨b, _, rfl⟩ := List.mem_map.mp hd; exact good_bool b) (by rw [List.length_map]; exact Nat.le_refl _)).shaped (by decide)
theorem any_false (bs : List Bool) : (bs.map PyData.bool).any (fun z => PyData.eqv z (.bool false)) = !bs.all id := by
  induction bs with
  | nil => rfl
  | cons b bs ih => rw [List.map_cons, List.any_cons, ih, List.all_cons]; cases b <;> simp [PyData.eqv]
/-- False in [..], False not in [..] -/
theorem inX_false (bs : List Bool) : inX (.bool false) (.list (bs.map PyData.bool)) = some (.bool (!bs.all id)) := by
  show inD (.bool false) (.list (bs.map PyData.bool)) = _
  unfold inD
  dsimp only
  rw [shaped_bools, show SeqAt.shaped (.bool false) = true by simp [SeqAt.shaped, PyData.canLay0, PyData.depth], Bool.and_self, if_pos rfl, any_false]
theorem ninX_false (bs : List Bool) : ninX (.bool false) (.list (bs.map PyData.bool)) = some (.bool (bs.all id)) := by
  show ninD (.bool false) (.list (bs.map PyData.bool)) = _
  unfold ninD
  dsimp only
  rw [shaped_bools, show SeqAt.shaped (.bool false) = true by simp [SeqAt.shaped, PyData.canLay0, PyData.depth], Bool.and_self, if_pos rfl, any_false, Bool.not_not]
/-! zip, enumerate of encoded lists -/
theorem zipD_map {α β : Type} {f : α → D} {g : β → D} : ∀ {xs : List α} {ys : List β}, zipD (xs.map f) (ys.map g) = (xs.zip ys).map fun p => .tuple [f p.1, g p.2]
  | [], _ => by cases ‹List β› <;> rfl
  | _ :: _, [] => rfl
  | x :: xs, y :: ys => by
    rw [List.map_cons, List.map_cons, List.zip_cons_cons, List.map_cons]
    show _ :: zipD (xs.map f) (ys.map g) = _
    rw [zipD_map]
theorem zipD_len : ∀ (xs ys : List D), (zipD xs ys).length = min xs.length ys.length
  | [], ys => by simp [zipD]
  | _ :: _, [] => by simp [zipD]
  | x :: xs, y :: ys => by simp only [zipD, List.length_cons, zipD_len xs ys]; omega
end
end DL

set_option Elab.async false
set_option linter.all false
set_option maxRecDepth 100000
set_option maxHeartbeats 4000000
/-! PH: loops that gather. -/
namespace DL
open PySem PySem.Spec PyProof.Rows L2
section
variable {α β σ τ : Type}
@[simp] theorem mapR_nil {g : D → R D} : mapR g [] = Rk [] := nr rfl
@[simp] theorem lcR_nil {g : D → R (Option D)} : lcR g [] = Rk [] := nr rfl
/-- a loop that appends what a test takes -/
theorem forR_filter {f : List D → D → R (List D)} (enc enc' : α → D) {b : α → Bool} : ∀ {xs : List α} {acc : List D}, acc.length + xs.length < 16777216 → (∀ acc x, x ∈ xs → acc.length < 16777216 → f acc (enc x) = Rk (if b x = true then acc ++ [enc' x] else acc)) →
    forR f acc (xs.map enc) = Rk (acc ++ (xs.filter b).map enc')
  | [], acc, _, _ => by simp [forR_nil]
  | x :: xs, acc, hl, h => by
    rw [List.length_cons] at hl
    rw [List.map_cons, forR_cons, h acc x (List.mem_cons_self ..) (by omega), bd_ok]
    cases e : b x with
    | true =>
      rw [if_pos rfl, forR_filter enc enc' (by rw [List.length_append]; simp; omega) fun acc y hy => h acc y (List.mem_cons_of_mem _ hy), List.filter_cons_of_pos e, List.map_cons, List.append_assoc]; rfl
    | false =>
      rw [if_neg Bool.false_ne_true, forR_filter enc enc' (by omega) fun acc y hy => h acc y (List.mem_cons_of_mem _ hy), List.filter_cons_of_neg (by rw [e]; exact Bool.false_ne_true)]
/-- a loop that extends by what each item gives -/
theorem forR_flatMap {f : List D → D → R (List D)} (enc : α → D) {g : α → List D} : ∀ {xs : List α} {acc : List D}, acc.length + (xs.flatMap g).length ≤ 16777216 → (∀ acc x, x ∈ xs → acc.length + (g x).length ≤ 16777216 → f acc (enc x) = Rk (acc ++ g x)) →
    forR f acc (xs.map enc) = Rk (acc ++ xs.flatMap g)
  | [], acc, _, _ => by simp [forR_nil]
  | x :: xs, acc, hl, h => by
    rw [List.flatMap_cons, List.length_append] at hl
    rw [List.map_cons, forR_cons, h acc x (List.mem_cons_self ..) (by omega), bd_ok,
      forR_flatMap enc (by rw [List.length_append]; omega) fun acc y hy => h acc y (List.mem_cons_of_mem _ hy), List.flatMap_cons, List.append_assoc]
/-- a loop within what follows, by what holds with the items left -/
theorem bd_forR {f : σ → D → R σ} {s : σ} {ds : List D} {k : σ → R β} {G : R β → Prop} (P : List D → σ → Prop) (h0 : P ds s) (hs : ∀ s d ds, P (d :: ds) s → ∃ s', f s d = Rk s' ∧ P ds s') (hk : ∀ s', P [] s' → G (k s')) : G (bd (forR f s ds) k) := by
  obtain ⟨s', e, h⟩ := forR_inv P hs h0
  rw [e, bd_ok]; exact hk s' h
theorem bd_forX {f : σ → D → R (Lo σ τ)} {s : σ} {ds : List D} {k : Lo σ τ → R β} {G : R β → Prop} (P : List D → σ → Prop) (h0 : P ds s) (hs : ∀ s d ds, P (d :: ds) s → ∃ s', f s d = Rk (.nx s') ∧ P ds s') (hk : ∀ s', P [] s' → G (k (.nx s'))) : G (bd (forX f s ds) k) := by
  obtain ⟨s', e, h⟩ := forX_inv P hs h0
  rw [e, bd_ok]; exact hk s' h
theorem bd_lcI {f : σ → D → R (Option D × σ)} {s : σ} {ds : List D} {k : List D × σ → R β} {G : R β → Prop} (P : List D → List D → σ → Prop) (h0 : P [] ds s) (hs : ∀ s d ds acc, P acc (d :: ds) s → ∃ o s', f s d = Rk (o, s') ∧ P (acc ++ o.toList) ds s') (hl : ds.length ≤ 16777216)
    (hk : ∀ es s', es.length ≤ ds.length → P es [] s' → G (k (es, s'))) : G (bd (bd (lcI f s ds) capI) k) := by
  obtain ⟨es, s', e, h, hn⟩ := lcI_inv P hs h0
  rw [e, bd_ok, capI_ok (Nat.le_trans hn hl), bd_ok]
  exact hk es s' hn (by simpa using h)
/-- a comprehension that changes lists, turn by turn -/
theorem lcI_nil {f : σ → D → R (Option D × σ)} {s : σ} : lcI f s [] = Rk ([], s) := rfl
theorem lcI_some {f : σ → D → R (Option D × σ)} {s s1 s2 : σ} {d y : D} {ds es : List D} (h : f s d = Rk (some y, s1)) (t : lcI f s1 ds = Rk (es, s2)) : lcI f s (d :: ds) = Rk (y :: es, s2) := by
  unfold lcI
  rw [h, quiet_ok, bd_ok]
  dsimp only
  rw [t, bd_ok]
theorem lcI_none {f : σ → D → R (Option D × σ)} {s s1 s2 : σ} {d : D} {ds es : List D} (h : f s d = Rk (none, s1)) (t : lcI f s1 ds = Rk (es, s2)) : lcI f s (d :: ds) = Rk (es, s2) := by
  unfold lcI
  rw [h, quiet_ok, bd_ok]
  dsimp only
  rw [t, bd_ok]
end
/-! small numbers as data -/
def natD (n : Nat) : D := .int n
theorem good_nat {n : Nat} (h : n < 2 ^ 100) : Good 0 1002 (natD n) := good_int (by
  have : ((n : Nat) : Int).natAbs = n := by simp
  rw [this]
  exact Nat.lt_trans h (by decide))
theorem rngF_map {n : Nat} (h : n < 2 ^ 60) : rngF [.int n] = some ((List.range n).map natD) := rngF_n h
theorem eqv_nat {m n : Nat} : PyData.eqv (natD m) (natD n) = decide (m = n) := by
  simp only [natD, PyData.eqv]
  by_cases h : m = n
  · subst h; simp
  · rw [decide_eq_false h]; exact beq_eq_false_iff_ne.mpr fun e => h (by omega)
theorem flat_nat (l : List Nat) : (l.map natD).all flatD = true := by
  rw [List.all_map]
  simp [natD, flatD, List.all_eq_true, Function.comp]
theorem inX_nats {n : Nat} {l : List Nat} : inX (natD n) (.tuple (l.map natD)) = some (.bool (l.contains n)) := by
  unfold inX
  dsimp only
  rw [flat_nat, show flatD (natD n) = true from rfl, Bool.and_self, if_pos rfl, List.any_map]
  congr 2
  induction l with
  | nil => rfl
  | cons a l ih =>
    rw [List.any_cons, List.contains_cons, ih, Function.comp, eqv_nat]
    congr 1
    by_cases h : a = n
    · subst h; simp
    · rw [decide_eq_false h]; exact (beq_eq_false_iff_ne.mpr fun e => h e.symm).symm
theorem ninX_nats {n : Nat} {l : List Nat} : ninX (natD n) (.tuple (l.map natD)) = some (.bool (!l.contains n)) := by
  have h := inX_nats (n := n) (l := l)
  unfold inX at h
  unfold ninX
  dsimp only at h ⊢
  rw [flat_nat, show flatD (natD n) = true from rfl, Bool.and_self, if_pos rfl] at h ⊢
  have := Option.some.inj h
  injection this with this
  rw [this]
theorem modD_n {m n : Nat} (h : 0 < n) : modD (natD m) (.int n) = some (natD (m % n)) := by
  unfold natD; rw [modD_i (by omega)]; simp
theorem fdivD_n {m n : Nat} (h : 0 < n) (h2 : n < 2 ^ 64) : fdivD (natD m) (.int n) = some (natD (m / n)) := by
  unfold natD
  rw [fdivD_i (by omega) (by
    have : ((n : Nat) : Int).natAbs = n := by simp
    rw [this]; exact Nat.lt_trans h2 (by decide))]
  simp
theorem mulX_n {m n : Nat} (h : n < 2 ^ 64) : mulX (natD m) (.int n) = some (natD (m * n)) := by
  unfold natD; rw [mulX_r (by omega)]; simp
theorem addD_n {m n : Nat} : addD (natD m) (natD n) = some (natD (m + n)) := by
  unfold natD; rw [addD_i]; simp
end DL

set_option Elab.async false
set_option linter.all false
set_option maxRecDepth 100000
set_option maxHeartbeats 4000000
/-! PD: dicts as sets of encoded things; steps of results. -/
namespace DL
open PySem PySem.Spec PyProof.Rows L2
section
variable {α β γ : Type}
theorem bd_to {x : R α} {a : α} {k : α → R β} {r : R β} (h : x = Rk a) (hk : k a = r) : bd x k = r := by rw [h, bd_ok]; exact hk
theorem mapR4 {g : D → R D} {a b c d a' b' c' d' : D} (h1 : g a = Rk a') (h2 : g b = Rk b') (h3 : g c = Rk c') (h4 : g d = Rk d') : mapR g [a, b, c, d] = Rk [a', b', c', d'] := by
  unfold mapR lcR
  simp [lcP, h1, h2, h3, h4, capR]
theorem mapR3 {g : D → R D} {a b c a' b' c' : D} (h1 : g a = Rk a') (h2 : g b = Rk b') (h3 : g c = Rk c') : mapR g [a, b, c] = Rk [a', b', c'] := by
  unfold mapR lcR
  simp [lcP, h1, h2, h3, capR]
theorem mapR2 {g : D → R D} {a b a' b' : D} (h1 : g a = Rk a') (h2 : g b = Rk b') : mapR g [a, b] = Rk [a', b'] := by
  unfold mapR lcR
  simp [lcP, h1, h2, capR]
theorem addD_t {xs ys : List D} (h : xs.length + ys.length ≤ 16777216) : addD (.tuple xs) (.tuple ys) = some (.tuple (xs ++ ys)) := if_pos h
theorem addD_l {xs ys : List D} (h : xs.length + ys.length ≤ 16777216) : addD (.list xs) (.list ys) = some (.list (xs ++ ys)) := if_pos h
theorem catF_l {xs ys : List D} (h : xs.length + ys.length ≤ 16777216) : catF (.list xs) (.list ys) = some (xs ++ ys) := if_pos h
@[simp] theorem revLF_l {xs : List D} : revLF (.list xs) = some xs.reverse := nr rfl
@[simp] theorem listLF_l {xs : List D} : listLF [.list xs] = some xs := nr rfl
@[simp] theorem listLF_t {xs : List D} : listLF [.tuple xs] = some xs := nr rfl
@[simp] theorem ninY_d {d : D} {kvs : List (D × D)} : ninY d (.dict kvs) = (dFind kvs d).map fun o => .bool (!o.isSome) := nr rfl
@[simp] theorem inY_d {d : D} {kvs : List (D × D)} : inY d (.dict kvs) = (dFind kvs d).map fun o => .bool o.isSome := nr rfl
/-! a dict that is a set: its keys encoded, its values one -/
variable [DecidableEq α] {enc : α → D} {key : α → Kx} {v : D}
def setK (enc : α → D) (v : D) (fs : List α) : List (D × D) := fs.map fun x => (enc x, v)
theorem set_get (hk : ∀ a, kxD (enc a) = some (key a)) (hi : ∀ a b, key a = key b → a = b) (a : α) : ∀ fs : List α, dGetK (setK enc v fs) (key a) = if a ∈ fs then some v else none
  | [] => rfl
  | b :: fs => by
    have ih := set_get hk hi a fs
    unfold dGetK setK at ih ⊢
    rw [List.map_cons, List.find?_cons]
    dsimp only
    rw [hk b]
    by_cases e : b = a
    · subst e
      rw [decide_eq_true rfl, if_pos (List.mem_cons_self ..)]; rfl
    · rw [decide_eq_false (fun z => e (hi _ _ (Option.some.inj z)))]
      dsimp only
      rw [ih]
      by_cases hm : a ∈ fs
      · rw [if_pos hm, if_pos (List.mem_cons_of_mem _ hm)]
      · rw [if_neg hm, if_neg (fun z => (List.mem_cons.mp z).elim (fun q => e q.symm) hm)]
theorem set_fit (hk : ∀ a, kxD (enc a) = some (key a)) (hs : ∀ a b, kxSame (key a) (key b) = true) (a : α) : ∀ fs : List α, kxFit (setK enc v fs) (key a) = true
  | [] => rfl
  | b :: fs => by
    show (match kxD (enc b) with | some k' => kxSame k' (key a) | none => false) = true
    rw [hk b]; exact hs b a
theorem set_find (hk : ∀ a, kxD (enc a) = some (key a)) (hi : ∀ a b, key a = key b → a = b) (hs : ∀ a b, kxSame (key a) (key b) = true) (a : α) (fs : List α) : dFind (setK enc v fs) (enc a) = some (if a ∈ fs then some v else none) := by
  unfold dFind
  rw [hk a]
  dsimp only
  rw [if_pos (set_fit hk hs a fs), set_get hk hi a fs]
theorem set_put (hk : ∀ a, kxD (enc a) = some (key a)) (hi : ∀ a b, key a = key b → a = b) (hs : ∀ a b, kxSame (key a) (key b) = true) {a : α} {fs : List α} (hn : a ∉ fs) (hl : fs.length < 16777216) : dPut (setK enc v fs) (enc a) v = some (setK enc v (fs ++ [a])) := by
  unfold dPut
  rw [hk a]
  dsimp only
  rw [if_pos (by rw [set_fit hk hs a fs, Bool.true_and, decide_eq_true_iff]; unfold setK; rw [List.length_map]; exact hl)]
  unfold dPutK
  rw [set_get hk hi a fs, if_neg hn, if_neg (by simp)]
  unfold setK
  rw [List.map_append]; rfl
end
end DL

set_option Elab.async false
set_option linter.all false
/-! T57a: going through a graph, depth first. -/
namespace TG
section
variable {α : Type} [DecidableEq α]
theorem nodup_le : ∀ (n : Nat) (l : List Nat), l.Nodup → (∀ x ∈ l, x < n) → l.length ≤ n
  | 0, l, _, h => by
    cases l with
    | nil => exact Nat.le_refl _
    | cons x l => exact absurd (h x (List.mem_cons_self ..)) (Nat.not_lt_zero _)
  | n + 1, l, hn, h => by
    have h1 : (l.erase n).Nodup := hn.erase n
    have h2 : ∀ x ∈ l.erase n, x < n := fun x hx => by
      have h3 := h x (List.mem_of_mem_erase hx)
      have h4 : x ≠ n := fun e => by
        subst e
        exact (List.Nodup.not_mem_erase hn) hx
      omega
    have h5 := nodup_le n _ h1 h2
    by_cases hm : n ∈ l
    · rw [List.length_erase_of_mem hm] at h5
      omega
    · rw [List.erase_of_not_mem hm] at h5
      omega
inductive Reach (succ : α → List α) (i : α) : α → Prop
  | init : Reach succ i i
  | step {s t : α} : Reach succ i s → t ∈ succ s → Reach succ i t
def dfs (succ : α → List α) (bad : α → Bool) : Nat → List α → List α → Option Bool
  | 0, _, _ => none
  | n + 1, found, row => match row.getLast? with
    | none => some true
    | some s => if s ∈ found then dfs succ bad n found row.dropLast else if bad s = true then some false else dfs succ bad n (found ++ [s]) (row.dropLast ++ succ s)
structure Inv (succ : α → List α) (bad : α → Bool) (i : α) (found row : List α) : Prop where
  f : ∀ s ∈ found, Reach succ i s
  r : ∀ s ∈ row, Reach succ i s
  g : ∀ s ∈ found, bad s = false ∧ ∀ t ∈ succ s, t ∈ found ∨ t ∈ row
  i : i ∈ found ∨ i ∈ row
  n : found.Nodup
theorem last_split {l : List α} {s : α} (h : l.getLast? = some s) : l = l.dropLast ++ [s] := by
  obtain ⟨ys, rfl⟩ := List.getLast?_eq_some_iff.mp h
  rw [List.dropLast_concat]
theorem Inv.skip {succ : α → List α} {bad : α → Bool} {i s : α} {found row : List α} (h : Inv succ bad i found row) (e : row.getLast? = some s) (hs : s ∈ found) : Inv succ bad i found row.dropLast := by
  have e := last_split e
  have mem : ∀ t, t ∈ row → t ∈ found ∨ t ∈ row.dropLast := fun t ht => by
    rw [e] at ht
    rcases List.mem_append.mp ht with h1 | h1
    · exact .inr h1
    · rw [List.mem_singleton] at h1; subst h1; exact .inl hs
  refine ⟨h.f, fun t ht => h.r t (List.dropLast_subset _ ht), fun t ht => ⟨(h.g t ht).1, fun u hu => ?_⟩, ?_, h.n⟩
  · rcases (h.g t ht).2 u hu with g | g
    · exact .inl g
    · exact mem u g
  · rcases h.i with g | g
    · exact .inl g
    · exact mem _ g
theorem Inv.take {succ : α → List α} {bad : α → Bool} {i s : α} {found row : List α} (h : Inv succ bad i found row) (e : row.getLast? = some s) (hs : s ∉ found) (hb : bad s = false) : Inv succ bad i (found ++ [s]) (row.dropLast ++ succ s) := by
  have e := last_split e
  have hr : Reach succ i s := h.r s (by rw [e]; exact List.mem_append_right _ (List.mem_singleton.mpr rfl))
  have mem : ∀ t, t ∈ found ∨ t ∈ row → t ∈ found ++ [s] ∨ t ∈ row.dropLast ++ succ s := fun t ht => by
    rcases ht with ht | ht
    · exact .inl (List.mem_append_left _ ht)
    · rw [e] at ht
      rcases List.mem_append.mp ht with h1 | h1
      · exact .inr (List.mem_append_left _ h1)
      · exact .inl (List.mem_append_right _ h1)
  refine ⟨fun t ht => ?_, fun t ht => ?_, fun t ht => ?_, mem _ h.i, ?_⟩
  · rcases List.mem_append.mp ht with h1 | h1
    · exact h.f t h1
    · rw [List.mem_singleton] at h1; subst h1; exact hr
  · rcases List.mem_append.mp ht with h1 | h1
    · exact h.r t (List.dropLast_subset _ h1)
    · exact .step hr h1
  · rcases List.mem_append.mp ht with h1 | h1
    · exact ⟨(h.g t h1).1, fun u hu => mem u ((h.g t h1).2 u hu)⟩
    · rw [List.mem_singleton] at h1; subst h1
      exact ⟨hb, fun u hu => .inr (List.mem_append_right _ hu)⟩
  · rw [List.nodup_append]
    exact ⟨h.n, by simp, fun a ha b hb2 => by rw [List.mem_singleton] at hb2; subst hb2; exact fun z => hs (z ▸ ha)⟩
theorem dfs_right {succ : α → List α} {bad : α → Bool} {i : α} : ∀ (n : Nat) (found row : List α) (b : Bool), Inv succ bad i found row → dfs succ bad n found row = some b → (b = false → ∃ s, Reach succ i s ∧ bad s = true) ∧ (b = true → ∀ s, Reach succ i s → bad s = false)
  | 0, _, _, _, _, h => by cases h
  | n + 1, found, row, b, I, h => by
    unfold dfs at h
    split at h
    · rename_i e
      cases h
      have er : row = [] := List.getLast?_eq_none_iff.mp e
      subst er
      refine ⟨fun z => (by cases z), fun _ => ?_⟩
      have all : ∀ s, Reach succ i s → s ∈ found := fun s hs => by
        induction hs with
        | init => exact I.i.resolve_right (by simp)
        | step _ ht ih => exact ((I.g _ ih).2 _ ht).resolve_right (by simp)
      exact fun s hs => (I.g s (all s hs)).1
    · rename_i s e
      split at h
      · rename_i hs
        exact dfs_right n _ _ b (I.skip e hs) h
      · rename_i hs
        split at h
        · rename_i hb
          cases h
          refine ⟨fun _ => ⟨s, I.r s (by rw [last_split e]; exact List.mem_append_right _ (List.mem_singleton.mpr rfl)), hb⟩, fun z => (by cases z)⟩
        · rename_i hb
          exact dfs_right n _ _ b (I.take e hs (Bool.eq_false_iff.mpr hb)) h
/-- all that is met lies in a finite lot -/
structure Fin (succ : α → List α) (U : α → Prop) (code : α → Nat) (N k : Nat) : Prop where
  closed : ∀ s, U s → ∀ t ∈ succ s, U t
  lt : ∀ s, U s → code s < N
  inj : ∀ s t, U s → U t → code s = code t → s = t
  few : ∀ s, (succ s).length ≤ k
theorem found_le {succ : α → List α} {U : α → Prop} {code : α → Nat} {N k : Nat} (F : Fin succ U code N k) {found : List α} (hn : found.Nodup) (hu : ∀ s ∈ found, U s) : found.length ≤ N := by
  have h1 : (found.map code).Nodup := by
    unfold List.Nodup
    rw [List.pairwise_map]
    exact List.Pairwise.imp_of_mem (fun ha hb hab e => hab (F.inj _ _ (hu _ ha) (hu _ hb) e)) hn
  have := nodup_le N _ h1 fun x hx => by
    obtain ⟨s, hs, rfl⟩ := List.mem_map.mp hx
    exact F.lt s (hu s hs)
  rwa [List.length_map] at this
theorem dfs_ends {succ : α → List α} {bad : α → Bool} {U : α → Prop} {code : α → Nat} {N k : Nat} (F : Fin succ U code N k) : ∀ (n : Nat) (found row : List α), found.Nodup → (∀ s ∈ found, U s) → (∀ s ∈ row, U s) → (N - found.length) * (k + 1) + row.length < n → ∃ b, dfs succ bad n found row = some b
  | 0, _, _, _, _, _, h => absurd h (Nat.not_lt_zero _)
  | n + 1, found, row, hn, hf, hr, h => by
    unfold dfs
    split
    · exact ⟨_, rfl⟩
    · rename_i s e
      have e' := last_split e
      have hl : row.length = row.dropLast.length + 1 := by
        have := congrArg List.length e'
        rw [List.length_append] at this
        exact this
      have us : U s := hr s (by rw [e']; exact List.mem_append_right _ (List.mem_singleton.mpr rfl))
      have ud : ∀ t ∈ row.dropLast, U t := fun t ht => hr t (List.dropLast_subset _ ht)
      split
      · exact dfs_ends F n found row.dropLast hn hf ud (by omega)
      · rename_i hs
        split
        · exact ⟨_, rfl⟩
        · have hn' : (found ++ [s]).Nodup := by
            rw [List.nodup_append]
            exact ⟨hn, by simp, fun a ha b hb2 => by rw [List.mem_singleton] at hb2; subst hb2; exact fun z => hs (z ▸ ha)⟩
          have hf' : ∀ t ∈ found ++ [s], U t := fun t ht => by
            rcases List.mem_append.mp ht with h1 | h1
            · exact hf t h1
            · rw [List.mem_singleton] at h1; subst h1; exact us
          refine dfs_ends F n _ _ hn' hf' (fun t ht => ?_) ?_
          · rcases List.mem_append.mp ht with h1 | h1
            · exact ud t h1
            · exact F.closed s us t h1
          · have h1 := found_le F hn' hf'
            rw [List.length_append] at h1 ⊢
            rw [List.length_append]
            have h2 := F.few s
            simp only [List.length_singleton] at h1 ⊢
            have h3 : (N - found.length) * (k + 1) = (N - (found.length + 1)) * (k + 1) + (k + 1) := by
              have : N - found.length = (N - (found.length + 1)) + 1 := by omega
              rw [this, Nat.succ_mul]
            omega
end
end TG

set_option Elab.async false
set_option linter.all false
set_option maxRecDepth 100000
set_option maxHeartbeats 4000000
/-! PW: a while loop that goes through a graph. -/
namespace DL
open PySem PySem.Spec PyProof.Rows L2 TG
section
variable {α σ τ : Type} [DecidableEq α] {succ : α → List α} {bad : α → Bool} {U : α → Prop} {code : α → Nat} {N k : Nat} {f : σ → R (Lo σ τ)}
/-- what is kept by the search -/
structure Kp (U : α → Prop) (k : Nat) (found row : List α) : Prop where
  n : found.Nodup
  f : ∀ s ∈ found, U s
  r : ∀ s ∈ row, U s
  l : row.length ≤ k * found.length + 1
theorem Kp.skip {found row : List α} {s : α} (h : Kp U k found row) (e : row.getLast? = some s) : Kp U k found row.dropLast :=
  ⟨h.n, h.f, fun t ht => h.r t (List.dropLast_subset _ ht), by have := h.l; rw [List.length_dropLast]; omega⟩
theorem Kp.take {found row : List α} {s : α} (F : Fin succ U code N k) (h : Kp U k found row) (e : row.getLast? = some s) (hs : s ∉ found) : Kp U k (found ++ [s]) (row.dropLast ++ succ s) := by
  have us : U s := h.r s (by rw [last_split e]; exact List.mem_append_right _ (List.mem_singleton.mpr rfl))
  refine ⟨?_, fun t ht => ?_, fun t ht => ?_, ?_⟩
  · rw [List.nodup_append]
    exact ⟨h.n, by simp, fun a ha b hb2 => by rw [List.mem_singleton] at hb2; subst hb2; exact fun z => hs (z ▸ ha)⟩
  · rcases List.mem_append.mp ht with h1 | h1
    · exact h.f t h1
    · rw [List.mem_singleton] at h1; subst h1; exact us
  · rcases List.mem_append.mp ht with h1 | h1
    · exact h.r t (List.dropLast_subset _ h1)
    · exact F.closed s us t h1
  · have h1 := F.few s
    have h2 := h.l
    rw [List.length_append, List.length_append, List.length_dropLast, List.length_singleton, Nat.mul_succ]
    omega
theorem wh_dfs (F : Fin succ U code N k) (st : List α → List α → σ) (t : τ) (h0 : ∀ found, Kp U k found [] → f (st found []) = Rk (.brk (st found [])))
    (h1 : ∀ found row s, Kp U k found row → row.getLast? = some s → s ∈ found → f (st found row) = Rk (.nx (st found row.dropLast)))
    (h2 : ∀ found row s, Kp U k found row → row.getLast? = some s → s ∉ found → bad s = true → f (st found row) = Rk (.ret t))
    (h3 : ∀ found row s, Kp U k found row → row.getLast? = some s → s ∉ found → bad s = false → f (st found row) = Rk (.nx (st (found ++ [s]) (row.dropLast ++ succ s)))) :
    ∀ (n : Nat) (found row : List α) (b : Bool), Kp U k found row → dfs succ bad n found row = some b → if b = true then ∃ fs, whX f (st found row) = Rk (.nx (st fs [])) else whX f (st found row) = Rk (.ret t)
  | 0, _, _, _, _, h => by cases h
  | n + 1, found, row, b, hk, h => by
    unfold dfs at h
    split at h
    · rename_i e
      cases h
      have er : row = [] := List.getLast?_eq_none_iff.mp e
      subst er
      rw [if_pos rfl]
      exact ⟨found, whX_brk (h0 found hk)⟩
    · rename_i s e
      split at h
      · rename_i hs
        rw [whX_nx (h1 found row s hk e hs)]
        exact wh_dfs F st t h0 h1 h2 h3 n _ _ b (hk.skip e) h
      · rename_i hs
        split at h
        · rename_i hb
          cases h
          rw [if_neg Bool.false_ne_true]
          exact whX_ret (h2 found row s hk e hs hb)
        · rename_i hb
          rw [whX_nx (h3 found row s hk e hs (Bool.eq_false_iff.mpr hb))]
          exact wh_dfs F st t h0 h1 h2 h3 n _ _ b (hk.take F e hs) h
end
theorem popR_map {α : Type} {enc : α → D} {l : List α} {s : α} (h : l.getLast? = some s) : popR (l.map enc) = Rk (enc s, l.dropLast.map enc) := by
  unfold popR
  have h1 : (l.map enc)[(l.map enc).length - 1]? = some (enc s) := by
    rw [← List.getLast?_eq_getElem?, List.getLast?_map, h]; rfl
  rw [h1]
  dsimp only
  rw [List.map_dropLast]
theorem flat_shaped {ds : List D} (n : Nat) (hn : n < 64) (h : ∀ d ∈ ds, PyData.canLay0 d = true ∧ d.depth ≤ n) : SeqAt.shaped (.list ds) = true := by
  have : ∀ ds : List D, (∀ d ∈ ds, PyData.canLay0 d = true ∧ d.depth ≤ n) → PyData.canLayAll0 ds = true ∧ PyData.depthAll ds ≤ n := by
    intro ds
    induction ds with
    | nil => intro _; simp [PyData.canLayAll0, PyData.depthAll]
    | cons d ds ih =>
      intro h
      obtain ⟨h1, h2⟩ := ih fun e he => h e (List.mem_cons_of_mem _ he)
      obtain ⟨h3, h4⟩ := h d (List.mem_cons_self ..)
      rw [PyData.canLayAll0, PyData.depthAll, h1, h3]
      exact ⟨rfl, by omega⟩
  obtain ⟨h1, h2⟩ := this ds h
  unfold SeqAt.shaped
  rw [PyData.canLay0, PyData.depth, h1, decide_eq_true (by omega)]; rfl
theorem neX_nil {ds : List D} (h : SeqAt.shaped (.list ds) = true) : neX (.list ds) (.list []) = some (.bool (!ds.isEmpty)) := by
  rw [neX_eq h (by simp [SeqAt.shaped, PyData.canLay0, PyData.canLayAll0, PyData.depth, PyData.depthAll])]
  cases ds <;> simp [PyData.eqv, PyData.eqvAll]
theorem eqX_nil {ds : List D} (h : SeqAt.shaped (.list ds) = true) : eqX (.list ds) (.list []) = some (.bool ds.isEmpty) := by
  rw [eqX_eq h (by simp [SeqAt.shaped, PyData.canLay0, PyData.canLayAll0, PyData.depth, PyData.depthAll])]
  cases ds <;> simp [PyData.eqv, PyData.eqvAll]
end DL

set_option Elab.async false
set_option linter.all false
set_option maxRecDepth 100000
set_option maxHeartbeats 4000000
/-! T57b: the fence team tick by tick. -/
namespace T57
open TG
structure S where
  sv : Nat
  ho : Nat
  st : Nat
  a0 : Option Nat
  a1 : Option Nat
  a2 : Option Nat
  a3 : Option Nat
  deriving DecidableEq
structure C where
  sl : Nat
  sh : Nat
  ul : Nat
  uh : Nat
  wl : Nat
  wh : Nat
  fc : Bool
def rdy (a : Option Nat) (lo : Nat) : Bool := match a with
  | some x => decide (lo ≤ x)
  | none => false
def hit (a : Option Nat) (hi : Nat) : Bool := match a with
  | some x => decide (x = hi)
  | none => false
def inc (a : Option Nat) : Option Nat := a.map (· + 1)
def after (c : C) (st : Nat) : Nat := if st = 0 then 1 else if st = 1 then st else if st = 2 then (if c.fc then 2 else 3) else st
def blocked (c : C) (s : S) : Bool := hit s.a0 c.sh || (hit s.a1 c.uh || (hit s.a2 c.wh || hit s.a3 c.wh))
def m1 (c : C) (s : S) : Bool := rdy s.a0 c.sl && decide (s.sv = 0)
def add (l : List S) (b : Bool) (s : S) : List S := if b = true then l ++ [s] else l
def moved (c : C) (s : S) : List S :=
  add (add (add (add (add (add (add (add [] (m1 c s) ⟨1, s.ho, s.st, none, s.a1, s.a2, s.a3⟩)
    (decide (s.sv = 1)) ⟨2, s.ho, s.st, s.a0, s.a1, s.a2, s.a3⟩)
    (decide (s.sv = 2)) ⟨3, s.ho, s.st, s.a0, s.a1, s.a2, some 0⟩)
    (decide (s.ho = 0)) ⟨s.sv, 2, s.st, s.a0, s.a1, some 0, s.a3⟩)
    (rdy s.a1 c.ul) ⟨s.sv, if s.ho = 0 then 1 else s.ho, s.st, s.a0, none, s.a2, s.a3⟩)
    (rdy s.a2 c.wl) ⟨s.sv, s.ho, after c s.st, s.a0, s.a1, none, s.a3⟩)
    (rdy s.a3 c.wl) ⟨s.sv, s.ho, if s.st < 2 then 2 else s.st, s.a0, s.a1, s.a2, none⟩)
    (!blocked c s) ⟨s.sv, s.ho, s.st, inc s.a0, inc s.a1, inc s.a2, inc s.a3⟩
def ini : S := ⟨0, 0, 0, some 0, some 0, none, none⟩
theorem mem_add {l : List S} {b : Bool} {s t : S} : t ∈ add l b s ↔ t ∈ l ∨ (b = true ∧ t = s) := by
  unfold add
  split
  · rename_i h; rw [List.mem_append, List.mem_singleton]; simp [h]
  · rename_i h; simp [h]
theorem len_add {l : List S} {b : Bool} {s : S} : (add l b s).length ≤ l.length + 1 := by
  unfold add
  split
  · simp
  · omega
theorem moved_len (c : C) (s : S) : (moved c s).length ≤ 8 := by
  unfold moved
  refine Nat.le_trans len_add (Nat.succ_le_succ ?_)
  refine Nat.le_trans len_add (Nat.succ_le_succ ?_)
  refine Nat.le_trans len_add (Nat.succ_le_succ ?_)
  refine Nat.le_trans len_add (Nat.succ_le_succ ?_)
  refine Nat.le_trans len_add (Nat.succ_le_succ ?_)
  refine Nat.le_trans len_add (Nat.succ_le_succ ?_)
  refine Nat.le_trans len_add (Nat.succ_le_succ ?_)
  exact len_add
def bad (s : S) : Bool := decide (s.st = 3)
/-- what all states are like -/
def le3 (a : Option Nat) (hi : Nat) : Prop := ∀ x, a = some x → x ≤ hi
structure U (c : C) (s : S) : Prop where
  sv : s.sv ≤ 3
  ho : s.ho ≤ 2
  st : s.st ≤ 3
  a0 : le3 s.a0 c.sh
  a1 : le3 s.a1 c.uh
  a2 : le3 s.a2 c.wh
  a3 : le3 s.a3 c.wh
theorem le3_none {hi : Nat} : le3 none hi := fun x h => by cases h
theorem le3_0 {hi : Nat} : le3 (some 0) hi := fun x h => by cases h; exact Nat.zero_le _
theorem le3_inc {a : Option Nat} {hi : Nat} (h : le3 a hi) (n : hit a hi = false) : le3 (inc a) hi := by
  intro x hx
  cases a with
  | none => cases hx
  | some y =>
    cases hx
    have := h y rfl
    have n : y ≠ hi := of_decide_eq_false n
    show y + 1 ≤ hi
    omega
theorem U_ini (c : C) : U c ini := ⟨by decide, by decide, by decide, le3_0, le3_0, le3_none, le3_none⟩
theorem U_closed (c : C) (s : S) (h : U c s) (t : S) (ht : t ∈ moved c s) : U c t := by
  unfold moved at ht
  simp only [mem_add, List.not_mem_nil, false_or] at ht
  have h1 := h.sv; have h2 := h.ho; have h3 := h.st
  have haf : after c s.st ≤ 3 := by unfold after; split <;> (try split) <;> (try split) <;> (try split) <;> omega
  rcases ht with ((((((⟨_, rfl⟩ | ⟨_, rfl⟩) | ⟨_, rfl⟩) | ⟨_, rfl⟩) | ⟨_, rfl⟩) | ⟨_, rfl⟩) | ⟨_, rfl⟩) | ⟨hb, rfl⟩
  · exact ⟨by dsimp only; omega, h2, h3, le3_none, h.a1, h.a2, h.a3⟩
  · exact ⟨by dsimp only; omega, h2, h3, h.a0, h.a1, h.a2, h.a3⟩
  · exact ⟨by dsimp only; omega, h2, h3, h.a0, h.a1, h.a2, le3_0⟩
  · exact ⟨h1, by dsimp only; omega, h3, h.a0, h.a1, le3_0, h.a3⟩
  · exact ⟨h1, by dsimp only; split <;> omega, h3, h.a0, le3_none, h.a2, h.a3⟩
  · exact ⟨h1, h2, haf, h.a0, h.a1, le3_none, h.a3⟩
  · exact ⟨h1, h2, by dsimp only; split <;> omega, h.a0, h.a1, h.a2, le3_none⟩
  · have hb : blocked c s = false := by simpa using hb
    unfold blocked at hb
    simp only [Bool.or_eq_false_iff] at hb
    exact ⟨h1, h2, h3, le3_inc h.a0 hb.1, le3_inc h.a1 hb.2.1, le3_inc h.a2 hb.2.2.1, le3_inc h.a3 hb.2.2.2⟩
/-- small bounds -/
structure Ok (c : C) : Prop where
  s : c.sl ≤ c.sh ∧ c.sh ≤ 3
  u : c.ul ≤ c.uh ∧ c.uh ≤ 3
  w : c.wl ≤ c.wh ∧ c.wh ≤ 3
def co (a : Option Nat) : Nat := match a with
  | none => 0
  | some x => x + 1
def code (s : S) : Nat := s.sv + 4 * (s.ho + 3 * (s.st + 4 * (co s.a0 + 5 * (co s.a1 + 5 * (co s.a2 + 5 * co s.a3)))))
theorem co_lt {a : Option Nat} {hi : Nat} (h : le3 a hi) (h3 : hi ≤ 3) : co a < 5 := by
  cases a with
  | none => decide
  | some x => have := h x rfl; show x + 1 < 5; omega
theorem co_inj {a b : Option Nat} (h : co a = co b) : a = b := by
  cases a <;> cases b <;> simp_all [co]
theorem fin (c : C) (h : Ok c) : Fin (moved c) (U c) code 30000 8 where
  closed := U_closed c
  lt s hs := by
    have := hs.sv; have := hs.ho; have := hs.st
    have := co_lt hs.a0 h.s.2; have := co_lt hs.a1 h.u.2; have := co_lt hs.a2 h.w.2; have := co_lt hs.a3 h.w.2
    unfold code
    omega
  inj s t hs ht e := by
    have := hs.sv; have := hs.ho; have := hs.st
    have := co_lt hs.a0 h.s.2; have := co_lt hs.a1 h.u.2; have := co_lt hs.a2 h.w.2; have := co_lt hs.a3 h.w.2
    have := ht.sv; have := ht.ho; have := ht.st
    have := co_lt ht.a0 h.s.2; have := co_lt ht.a1 h.u.2; have := co_lt ht.a2 h.w.2; have := co_lt ht.a3 h.w.2
    unfold code at e
    have e1 : s.sv = t.sv := by omega
    have e2 : s.ho = t.ho := by omega
    have e3 : s.st = t.st := by omega
    have e4 : co s.a0 = co t.a0 := by omega
    have e5 : co s.a1 = co t.a1 := by omega
    have e6 : co s.a2 = co t.a2 := by omega
    have e7 : co s.a3 = co t.a3 := by omega
    obtain ⟨x1, x2, x3, x4, x5, x6, x7⟩ := s
    obtain ⟨y1, y2, y3, y4, y5, y6, y7⟩ := t
    dsimp only at e1 e2 e3 e4 e5 e6 e7
    rw [e1, e2, e3, co_inj e4, co_inj e5, co_inj e6, co_inj e7]
  few := moved_len c
/-! ### what is due -/
def due (c : C) : Bool := c.fc || decide (c.uh + c.wh < c.sl + c.wl)
/-- at the time t -/
structure At (c : C) (t : Nat) (s : S) : Prop where
  a0 : ∀ x, s.a0 = some x → x = t
  s1 : 1 ≤ s.sv → c.sl ≤ t
  a1 : ∀ x, s.a1 = some x → x = t ∧ t ≤ c.uh
  h0 : s.ho = 0 → ∃ x, s.a1 = some x
  a2 : ∀ x, s.a2 = some x → x ≤ t ∧ t ≤ c.uh + x ∧ x ≤ c.wh
  a3 : ∀ x, s.a3 = some x → x + c.sl ≤ t
  st2 : s.st = 2 → c.sl + c.wl ≤ t
  st3 : s.st ≤ 2
theorem At_ini (c : C) : At c 0 ini := ⟨fun x h => (by cases h; rfl), fun h => absurd h (by decide), fun x h => (by cases h; exact ⟨rfl, Nat.zero_le _⟩), fun _ => ⟨0, rfl⟩, fun x h => (by cases h), fun x h => (by cases h), fun h => absurd h (by decide), by decide⟩
theorem At_step (c : C) (hf : c.fc = false) (hd : c.uh + c.wh < c.sl + c.wl) (t : Nat) (s s' : S) (h : At c t s) (ht : s' ∈ moved c s) : ∃ t', At c t' s' := by
  unfold moved at ht
  simp only [mem_add, List.not_mem_nil, false_or] at ht
  rcases ht with ((((((⟨hb, rfl⟩ | ⟨hb, rfl⟩) | ⟨hb, rfl⟩) | ⟨hb, rfl⟩) | ⟨hb, rfl⟩) | ⟨hb, rfl⟩) | ⟨hb, rfl⟩) | ⟨hb, rfl⟩
  · refine ⟨t, fun x e => (by cases e), fun _ => ?_, h.a1, h.h0, h.a2, h.a3, h.st2, h.st3⟩
    unfold m1 rdy at hb
    rw [Bool.and_eq_true] at hb
    cases e : s.a0 with
    | none => rw [e] at hb; exact absurd hb.1 Bool.false_ne_true
    | some x =>
      rw [e] at hb
      have := h.a0 x e
      have := of_decide_eq_true hb.1
      omega
  · exact ⟨t, h.a0, fun _ => h.s1 (by have := of_decide_eq_true hb; omega), h.a1, h.h0, h.a2, h.a3, h.st2, h.st3⟩
  · have := h.s1 (by have := of_decide_eq_true hb; omega)
    exact ⟨t, h.a0, fun _ => this, h.a1, h.h0, h.a2, fun x e => (by cases e; omega), h.st2, h.st3⟩
  · obtain ⟨x, ex⟩ := h.h0 (of_decide_eq_true hb)
    have h1 := h.a1 x ex
    exact ⟨t, h.a0, h.s1, h.a1, fun e => (by dsimp only at e; omega), fun y e => (by cases e; omega), h.a3, h.st2, h.st3⟩
  · refine ⟨t, h.a0, h.s1, fun x e => (by cases e), fun e => ?_, h.a2, h.a3, h.st2, h.st3⟩
    dsimp only at e
    split at e
    · exact absurd e (by decide)
    · rename_i n; exact absurd e n
  · have hlt : s.st ≠ 2 := fun e2 => by
      unfold rdy at hb
      cases e : s.a2 with
      | none => rw [e] at hb; exact absurd hb Bool.false_ne_true
      | some x =>
        rw [e] at hb
        have := of_decide_eq_true hb
        have := h.a2 x e
        have := h.st2 e2
        omega
    have h3 := h.st3
    have e' : after c s.st = 1 := by
      unfold after
      split
      · rfl
      · split
        · assumption
        · omega
    refine ⟨t, h.a0, h.s1, h.a1, h.h0, fun x e => (by cases e), h.a3, fun e => ?_, ?_⟩
    · dsimp only at e; rw [e'] at e; exact absurd e (by decide)
    · dsimp only; rw [e']; decide
  · have h3 := h.st3
    refine ⟨t, h.a0, h.s1, h.a1, h.h0, h.a2, fun x e => (by cases e), fun _ => ?_, by dsimp only; split <;> omega⟩
    unfold rdy at hb
    cases e : s.a3 with
    | none => rw [e] at hb; exact absurd hb Bool.false_ne_true
    | some x =>
      rw [e] at hb
      have := of_decide_eq_true hb
      have := h.a3 x e
      omega
  · have hb : blocked c s = false := by simpa using hb
    unfold blocked at hb
    simp only [Bool.or_eq_false_iff] at hb
    have up : ∀ {a : Option Nat} {x : Nat}, inc a = some x → ∃ y, a = some y ∧ x = y + 1 := fun {a x} e => by
      cases a with
      | none => cases e
      | some y => cases e; exact ⟨y, rfl, rfl⟩
    refine ⟨t + 1, fun x e => ?_, fun e => Nat.le_succ_of_le (h.s1 e), fun x e => ?_, fun e => ?_, fun x e => ?_, fun x e => ?_, fun e => Nat.le_succ_of_le (h.st2 e), h.st3⟩
    · obtain ⟨y, e1, rfl⟩ := up e
      have := h.a0 y e1; omega
    · obtain ⟨y, e1, rfl⟩ := up e
      have h1 := h.a1 y e1
      have h2 := hb.2.1
      rw [e1] at h2
      have h2 : y ≠ c.uh := of_decide_eq_false h2
      omega
    · obtain ⟨x, ex⟩ := h.h0 e
      exact ⟨x + 1, by dsimp only; rw [ex]; rfl⟩
    · obtain ⟨y, e1, rfl⟩ := up e
      have h1 := h.a2 y e1
      have h2 := hb.2.2.1
      rw [e1] at h2
      have h2 : y ≠ c.wh := of_decide_eq_false h2
      omega
    · obtain ⟨y, e1, rfl⟩ := up e
      have h1 := h.a3 y e1
      omega
theorem safe_free (c : C) (hf : c.fc = false) (hd : c.uh + c.wh < c.sl + c.wl) : ∀ s, Reach (moved c) ini s → bad s = false := fun s hs => by
  have : ∃ t, At c t s := by
    induction hs with
    | init => exact ⟨0, At_ini c⟩
    | step _ ht ih => obtain ⟨t, h⟩ := ih; exact At_step c hf hd t _ _ h ht
  obtain ⟨t, h⟩ := this
  have := h.st3
  exact decide_eq_false (by omega)
theorem safe_fenced (c : C) (hf : c.fc = true) : ∀ s, Reach (moved c) ini s → bad s = false := fun s hs => by
  have : s.st ≤ 2 := by
    induction hs with
    | init => decide
    | @step s s' _ ht ih =>
      unfold moved at ht
      simp only [mem_add, List.not_mem_nil, false_or] at ht
      rcases ht with ((((((⟨_, rfl⟩ | ⟨_, rfl⟩) | ⟨_, rfl⟩) | ⟨_, rfl⟩) | ⟨_, rfl⟩) | ⟨_, rfl⟩) | ⟨_, rfl⟩) | ⟨hb, rfl⟩
      · exact ih
      · exact ih
      · exact ih
      · exact ih
      · exact ih
      · show after c s.st ≤ 2
        unfold after
        rw [hf]
        split
        · decide
        · split
          · exact ih
          · split
            · exact Nat.le_refl 2
            · exact ih
      · show (if s.st < 2 then 2 else s.st) ≤ 2
        split <;> omega
      · exact ih
  exact decide_eq_false (by omega)
/-! a way to what is not safe -/
def pick (c : C) (u : Nat) (t : Nat) (s : S) : S :=
  if rdy s.a0 c.sl && decide (s.sv = 0) then ⟨1, s.ho, s.st, none, s.a1, s.a2, s.a3⟩
  else if s.sv = 1 then ⟨2, s.ho, s.st, s.a0, s.a1, s.a2, s.a3⟩
  else if s.sv = 2 then ⟨3, s.ho, s.st, s.a0, s.a1, s.a2, some 0⟩
  else if decide (s.ho = 0) && hit s.a1 u then ⟨s.sv, 2, s.st, s.a0, s.a1, some 0, s.a3⟩
  else if hit s.a1 u then ⟨s.sv, if s.ho = 0 then 1 else s.ho, s.st, s.a0, none, s.a2, s.a3⟩
  else if rdy s.a3 c.wl then ⟨s.sv, s.ho, if s.st < 2 then 2 else s.st, s.a0, s.a1, s.a2, none⟩
  else if decide (s.st = 2) && rdy s.a2 c.wl then ⟨s.sv, s.ho, after c s.st, s.a0, s.a1, none, s.a3⟩
  else ⟨s.sv, s.ho, s.st, inc s.a0, inc s.a1, inc s.a2, inc s.a3⟩
/-- one goes on till a bad one is met; each step is a move -/
def walk (c : C) : Nat → S → Bool
  | 0, _ => false
  | n + 1, s => if bad s = true then true else (moved c s).contains (pick c c.uh 0 s) && walk c n (pick c c.uh 0 s)
theorem walk_reach (c : C) : ∀ (n : Nat) (s : S), Reach (moved c) ini s → walk c n s = true → ∃ s, Reach (moved c) ini s ∧ bad s = true
  | 0, _, _, h => by cases h
  | n + 1, s, r, h => by
    unfold walk at h
    split at h
    · exact ⟨s, r, by assumption⟩
    · rw [Bool.and_eq_true] at h
      exact walk_reach c n _ (.step r (by simpa using h.1)) h.2
def allC (f : C → Bool) : Bool := (List.range 4).all fun sh => (List.range (sh + 1)).all fun sl => (List.range 4).all fun uh => (List.range (uh + 1)).all fun ul => (List.range 4).all fun wh => (List.range (wh + 1)).all fun wl => f ⟨sl, sh, ul, uh, wl, wh, false⟩
theorem allC_at {f : C → Bool} (h : allC f = true) (c : C) (hc : Ok c) (hf : c.fc = false) : f c = true := by
  unfold allC at h
  simp only [List.all_eq_true, List.mem_range] at h
  have := h c.sh (by have := hc.s; omega) c.sl (by have := hc.s; omega) c.uh (by have := hc.u; omega) c.ul (by have := hc.u; omega) c.wh (by have := hc.w; omega) c.wl (by have := hc.w; omega)
  rw [← hf] at this
  exact this
theorem walks : allC (fun c => due c || walk c 40 ini) = true := by decide +kernel
theorem unsafe_way (c : C) (hc : Ok c) (hd : due c = false) : ∃ s, Reach (moved c) ini s ∧ bad s = true := by
  have hf : c.fc = false := by unfold due at hd; rw [Bool.or_eq_false_iff] at hd; exact hd.1
  have := allC_at walks c hc hf
  rw [hd, Bool.false_or] at this
  exact walk_reach c 40 ini .init this
theorem due_true (c : C) (hd : due c = true) : ∀ s, Reach (moved c) ini s → bad s = false := by
  unfold due at hd
  rw [Bool.or_eq_true] at hd
  cases hf : c.fc with
  | true => exact safe_fenced c hf
  | false =>
    rw [hf] at hd
    exact safe_free c hf (of_decide_eq_true (hd.resolve_left (by decide)))
/-- what the search tells -/
theorem search (c : C) (hc : Ok c) : ∃ n, dfs (moved c) bad n [] [ini] = some (due c) := by
  obtain ⟨b, hb⟩ := dfs_ends (fin c hc) (bad := bad) (((30000 - 0) * (8 + 1) + 1) + 1) [] [ini] List.nodup_nil (fun s h => absurd h (by simp)) (fun s h => by rw [List.mem_singleton] at h; subst h; exact U_ini c) (Nat.lt_succ_self _)
  refine ⟨_, hb.trans ?_⟩
  have I : Inv (moved c) bad ini [] [ini] := ⟨fun s h => absurd h (by simp), fun s h => by rw [List.mem_singleton] at h; subst h; exact .init, fun s h => absurd h (by simp), .inr (by simp), List.nodup_nil⟩
  obtain ⟨h1, h2⟩ := dfs_right _ _ _ b I hb
  congr 1
  cases e : due c with
  | true =>
    cases b with
    | true => rfl
    | false =>
      obtain ⟨s, r, hs⟩ := h1 rfl
      rw [due_true c e s r] at hs; cases hs
  | false =>
    cases b with
    | false => rfl
    | true =>
      obtain ⟨s, r, hs⟩ := unsafe_way c hc e
      rw [h2 rfl s r] at hs; cases hs
end T57

set_option Elab.async false
set_option linter.all false
set_option maxRecDepth 100000
set_option maxHeartbeats 4000000
/-! M57a: a state's moves. -/
namespace LK
open PySem PySem.Spec PyProof.Rows L2 DL T57
def oi (a : Option Nat) : D := match a with
  | none => .none
  | some x => natD x
def encS (s : S) : D := .tuple [natD s.sv, natD s.ho, natD s.st, .tuple [oi s.a0, oi s.a1, oi s.a2, oi s.a3]]
def prD (a b : Nat) : D := .tuple [natD a, natD b]
def bnD (c : C) : D := .tuple [prD c.sl c.sh, prD c.ul c.uh, prD c.wl c.wh, prD c.wl c.wh]
theorem isN_nat {n : Nat} : isNoneB (natD n) = false := rfl
theorem eqX_n {m n : Nat} : eqX (natD m) (natD n) = some (.bool (decide (m = n))) := by
  unfold natD
  rw [eqX_i]
  by_cases h : m = n
  · subst h; simp
  · rw [decide_eq_false h, decide_eq_false (by omega)]
theorem geD_n {m n : Nat} : geD (natD m) (natD n) = some (.bool (decide (n ≤ m))) := by
  unfold natD
  rw [geD_i]
  by_cases h : n ≤ m
  · rw [decide_eq_true h, decide_eq_true (by omega)]
  · rw [decide_eq_false h, decide_eq_false (by omega)]
theorem ltD_n {m n : Nat} : ltD (natD m) (natD n) = some (.bool (decide (m < n))) := by
  unfold natD
  rw [ltD_i]
  by_cases h : m < n
  · rw [decide_eq_true h, decide_eq_true (by omega)]
  · rw [decide_eq_false h, decide_eq_false (by omega)]
theorem eqX_k {m : Nat} {k : Nat} {i : Int} (h : i = (k : Int)) : eqX (natD m) (.int i) = some (.bool (decide (m = k))) := by subst h; exact eqX_n
theorem ltD_k {m : Nat} {k : Nat} {i : Int} (h : i = (k : Int)) : ltD (natD m) (.int i) = some (.bool (decide (m < k))) := by subst h; exact ltD_n
theorem rdy_ok (a : Option Nat) (lo : Nat) : (bd ((bd (Rk (oi a)) fun v17 => Rk (.bool (if true then !isNoneB v17 else isNoneB v17)))) fun v20 => bd (bl v20) fun b21 => if b21 = true then ((lf (geD (oi a) (natD lo)))) else Rk (.bool false)) = Rk (.bool (rdy a lo)) := by
  cases a with
  | none => rfl
  | some x => simp only [bd_ok, oi, isN_nat, bl_b, Bool.not_false, if_true, geD_n, lf_some, rdy]
theorem zip4 {a b c d e f g h : D} : zipD [a, b, c, d] [e, f, g, h] = [.tuple [a, e], .tuple [b, f], .tuple [c, g], .tuple [d, h]] := rfl
section
variable {a b c d : D}
theorem sl1 : slF (.tuple [a, b, c, d]) (some 1) none = some (.tuple [b, c, d]) := rfl
theorem sl_3 : slF (.tuple [a, b, c, d]) none (some 3) = some (.tuple [a, b, c]) := rfl
theorem sl_2 : slF (.tuple [a, b, c, d]) none (some 2) = some (.tuple [a, b]) := rfl
theorem sl3 : slF (.tuple [a, b, c, d]) (some 3) none = some (.tuple [d]) := rfl
theorem sl2 : slF (.tuple [a, b, c, d]) (some 2) none = some (.tuple [c, d]) := rfl
end
/-- one that may be put to the list -/
theorem bd_add {β : Type} {b : Bool} (l : List S) (s : S) {x : R D} {k : List D → R β} {r : R β} (hx : b = true → x = Rk (encS s)) (hl : l.length < 100) (hk : k ((add l b s).map encS) = r) : (bd (if b = true then (bd x fun v => bd (appR (l.map encS) v) fun f => Rk f) else Rk (l.map encS)) k) = r := by
  cases b with
  | false => exact hk
  | true =>
    rw [if_pos rfl, hx rfl, bd_ok, appR_ok (by rw [List.length_map]; omega), bd_ok, bd_ok]
    rw [← hk]
    show k (l.map encS ++ [encS s]) = k ((l ++ [s]).map encS)
    rw [List.map_append]; rfl
theorem hit_ok (a : Option Nat) (lo hi : Nat) : selR ((bd ((bd ((bd (Rk (oi a)) fun v140 => Rk (.bool (if true then !isNoneB v140 else isNoneB v140)))) bl)) fun b145 => if b145 = true then (bd ((bd ((lf (ixD (prD lo hi) (.int (1))))) fun v144 => lf (eqX (oi a) v144))) bl) else Rk false)) (Rk (oi a)) = Rk (if hit a hi = true then some (oi a) else none) := by
  cases a with
  | none => rfl
  | some x =>
    simp only [bd_ok, oi, isN_nat, bl_b, Bool.not_false, if_true, prD, ix_t1, lf_some, eqX_n]
    exact selR_ok rfl fun _ => rfl
theorem add_len {l : List S} {b : Bool} {s : S} {n : Nat} (h : l.length < n) : (add l b s).length < n + 1 := by
  unfold add
  split
  · simp; exact h
  · omega
theorem lcR4 {f : D → R (Option D)} {a b c d : D} {o1 o2 o3 o4 : Option D} (h1 : f a = Rk o1) (h2 : f b = Rk o2) (h3 : f c = Rk o3) (h4 : f d = Rk o4) : lcR f [a, b, c, d] = Rk (o1.toList ++ (o2.toList ++ (o3.toList ++ o4.toList))) := by
  unfold lcR
  simp only [lcP, h1, h2, h3, h4, quiet_ok, bd_ok]
  cases o1 <;> cases o2 <;> cases o3 <;> cases o4 <;> rfl
def hits (c : C) (s : S) : List D := (if hit s.a0 c.sh = true then some (oi s.a0) else none).toList ++ ((if hit s.a1 c.uh = true then some (oi s.a1) else none).toList ++ ((if hit s.a2 c.wh = true then some (oi s.a2) else none).toList ++ (if hit s.a3 c.wh = true then some (oi s.a3) else none).toList))
theorem hitL (c : C) (s : S) : lcR (fun d137 => bd (un2 d137) fun t138 => selR ((bd ((bd ((bd (Rk t138.1) fun v140 => Rk (.bool (if true then !isNoneB v140 else isNoneB v140)))) bl)) fun b145 => if b145 = true then (bd ((bd ((lf (ixD t138.2 (.int (1))))) fun v144 => lf (eqX t138.1 v144))) bl) else Rk false)) (Rk t138.1)) [.tuple [oi s.a0, prD c.sl c.sh], .tuple [oi s.a1, prD c.ul c.uh], .tuple [oi s.a2, prD c.wl c.wh], .tuple [oi s.a3, prD c.wl c.wh]]
    = Rk (hits c s) := lcR4 (hit_ok s.a0 c.sl c.sh) (hit_ok s.a1 c.ul c.uh) (hit_ok s.a2 c.wl c.wh) (hit_ok s.a3 c.wl c.wh)
theorem oi_shaped (a : Option Nat) : PyData.canLay0 (oi a) = true ∧ (oi a).depth = 0 := by
  cases a <;> simp [oi, natD, PyData.canLay0, PyData.depth]
theorem hits_empty (c : C) (s : S) : eqX (.list (hits c s)) (.list []) = some (.bool (!blocked c s)) := by
  have h0 := oi_shaped s.a0; have h1 := oi_shaped s.a1; have h2 := oi_shaped s.a2; have h3 := oi_shaped s.a3
  unfold hits
  rw [eqX_eq ?_ (by simp [SeqAt.shaped, PyData.canLay0, PyData.canLayAll0, PyData.depth, PyData.depthAll])]
  · unfold blocked
    cases hit s.a0 c.sh <;> cases hit s.a1 c.uh <;> cases hit s.a2 c.wh <;> cases hit s.a3 c.wh <;> simp [PyData.eqv, PyData.eqvAll]
  · cases hit s.a0 c.sh <;> cases hit s.a1 c.uh <;> cases hit s.a2 c.wh <;> cases hit s.a3 c.wh <;> simp [SeqAt.shaped, PyData.canLay0, PyData.canLayAll0, PyData.depth, PyData.depthAll, h0, h1, h2, h3]
theorem inc_ok (a : Option Nat) : (bd ((bd ((bd (Rk (oi a)) fun v155 => Rk (.bool (if false then !isNoneB v155 else isNoneB v155)))) bl)) fun c158 => if c158 = true then Rk .none else (lf (addD (oi a) (.int (1))))) = Rk (oi (inc a)) := by
  cases a with
  | none => rfl
  | some x =>
    simp only [bd_ok, oi, isN_nat, bl_b, Bool.false_eq_true, if_false]
    rw [show addD (natD x) (.int 1) = some (natD (x + 1)) from addD_n (m := x) (n := 1)]; rfl
theorem after_ok (c : C) (s : S) (h : s.st ≤ 3) : ixD (.list [.int 1, natD s.st, natD (if c.fc = true then 2 else 3), natD s.st]) (natD s.st) = some (natD (after c s.st)) := by
  obtain ⟨sv, ho, st, a0, a1, a2, a3⟩ := s
  dsimp only at h ⊢
  have : st = 0 ∨ st = 1 ∨ st = 2 ∨ st = 3 := by omega
  rcases this with rfl | rfl | rfl | rfl
  · exact ix_l0
  · exact ix_l1
  · exact ix_l2
  · exact ix_l3
theorem c_eq {m k : Nat} {i : Int} (h : i = (k : Int)) : bd (lf (eqX (natD m) (.int i))) bl = Rk (decide (m = k)) := by rw [eqX_k h]; rfl
theorem ready_ok (c : C) (s : S) : (bd ((bd ((bd ((bd ((bd ((itR' (bnD c))) fun l10 => mapR (fun d8 => bd (un2 d8) fun t9 => Rk t9.1) l10)) fun l11 => Rk (PyData.list l11))) fun v12 => (lf (zipX [PyData.tuple [oi s.a0, oi s.a1, oi s.a2, oi s.a3], v12])))) fun l16 => mapR (fun d14 => bd (un2 d14) fun t15 => (bd ((bd (Rk t15.1) fun v17 => Rk (PyData.bool (if true then !isNoneB v17 else isNoneB v17)))) fun v20 => bd (bl v20) fun b21 => if b21 = true then ((lf (geD t15.1 t15.2))) else Rk (PyData.bool false))) l16)) fun l22 => Rk (PyData.list l22))
    = Rk (.list [.bool (rdy s.a0 c.sl), .bool (rdy s.a1 c.ul), .bool (rdy s.a2 c.wl), .bool (rdy s.a3 c.wl)]) := by
  refine bd_to (a := [PyData.bool (rdy s.a0 c.sl), .bool (rdy s.a1 c.ul), .bool (rdy s.a2 c.wl), .bool (rdy s.a3 c.wl)]) ?_ rfl
  refine bd_to (a := [PyData.tuple [oi s.a0, natD c.sl], .tuple [oi s.a1, natD c.ul], .tuple [oi s.a2, natD c.wl], .tuple [oi s.a3, natD c.wl]]) ?_ (mapR4 (rdy_ok s.a0 c.sl) (rdy_ok s.a1 c.ul) (rdy_ok s.a2 c.wl) (rdy_ok s.a3 c.wl))
  refine bd_to (a := PyData.list [natD c.sl, natD c.ul, natD c.wl, natD c.wl]) ?_ rfl
  refine bd_to (a := [natD c.sl, natD c.ul, natD c.wl, natD c.wl]) ?_ rfl
  refine bd_to (a := [prD c.sl c.sh, prD c.ul c.uh, prD c.wl c.wh, prD c.wl c.wh]) rfl ?_
  exact mapR4 rfl rfl rfl rfl
theorem moved_ok (c : C) (s : S) (hst : s.st ≤ 3) : p__law_moved (encS s) (bnD c) (.bool c.fc) = Rk ((moved c s).map encS) := by
  unfold p__law_moved
  refine bd_to (a := encS s) rfl (bd_to (a := (natD s.sv, natD s.ho, natD s.st, .tuple [oi s.a0, oi s.a1, oi s.a2, oi s.a3])) rfl ?_)
  dsimp only
  refine bd_to (ready_ok c s) ?_
  refine bd_to (a := m1 c s) (bd_to (a := rdy s.a0 c.sl) rfl ?_) ?_
  · unfold m1
    cases rdy s.a0 c.sl with
    | false => rfl
    | true => rw [if_pos rfl, c_eq (k := 0) (i := 0) rfl]; rfl
  refine bd_add [] ⟨1, s.ho, s.st, none, s.a1, s.a2, s.a3⟩ (fun _ => rfl) (by decide) ?_
  refine bd_to (c_eq (k := 1) rfl) ?_
  refine bd_add _ ⟨2, s.ho, s.st, s.a0, s.a1, s.a2, s.a3⟩ (fun _ => rfl) (Nat.lt_of_lt_of_le (add_len (n := 1) (by decide)) (by decide)) ?_
  refine bd_to (c_eq (k := 2) rfl) ?_
  refine bd_add _ ⟨3, s.ho, s.st, s.a0, s.a1, s.a2, some 0⟩ (fun _ => rfl) (Nat.lt_of_lt_of_le (add_len (add_len (n := 1) (by decide))) (by decide)) ?_
  refine bd_to (c_eq (k := 0) rfl) ?_
  refine bd_add _ ⟨s.sv, 2, s.st, s.a0, s.a1, some 0, s.a3⟩ (fun _ => rfl) (Nat.lt_of_lt_of_le (add_len (add_len (add_len (n := 1) (by decide)))) (by decide)) ?_
  refine bd_to (a := rdy s.a1 c.ul) rfl ?_
  refine bd_add _ ⟨s.sv, if s.ho = 0 then 1 else s.ho, s.st, s.a0, none, s.a2, s.a3⟩ (fun _ => bd_to (a := natD (if s.ho = 0 then 1 else s.ho)) (bd_to (c_eq (k := 0) rfl) ?_) rfl) (Nat.lt_of_lt_of_le (add_len (add_len (add_len (add_len (n := 1) (by decide))))) (by decide)) ?_
  · by_cases e : s.ho = 0
    · rw [decide_eq_true e, if_pos rfl, if_pos e]; rfl
    · rw [decide_eq_false e, if_neg Bool.false_ne_true, if_neg e]
  refine bd_to (a := rdy s.a2 c.wl) rfl ?_
  have haf : (bd ((bd ((bd (Rk (PyData.bool c.fc)) bl)) fun c103 => if c103 = true then Rk (PyData.int (2)) else Rk (.int (3)))) fun v104 => Rk (PyData.list [(.int (1)), natD s.st, v104, natD s.st])) = Rk (.list [.int 1, natD s.st, natD (if c.fc = true then 2 else 3), natD s.st]) := by
    cases c.fc <;> rfl
  have e6 : ∀ (l : List S), l.length < 100 → (if rdy s.a2 c.wl = true then (bd ((bd ((bd ((bd ((bd (Rk (PyData.bool c.fc)) bl)) fun c103 => if c103 = true then Rk (PyData.int (2)) else Rk (.int (3)))) fun v104 => Rk (PyData.list [(.int (1)), natD s.st, v104, natD s.st]))) fun v105 => lf (ixD v105 (natD s.st)))) fun after107 => (bd ((bd ((bd ((bd (Rk (PyData.tuple [oi s.a0, oi s.a1, oi s.a2, oi s.a3])) fun v108 => bd (Rk none) fun l109 => bd ((bd (Rk (PyData.int (2))) itR)) fun h110 => lf (slF v108 l109 h110))) fun v114 => bd ((bd ((lf (ixD (PyData.tuple [oi s.a0, oi s.a1, oi s.a2, oi s.a3]) (.int (3))))) fun v113 => Rk (PyData.tuple [.none, v113]))) fun v115 => lf (addD v114 v115))) fun v116 => Rk (PyData.tuple [natD s.sv, natD s.ho, after107, v116]))) fun v117 => bd (appR (l.map encS) v117) fun found118 => (Rk found118))) else (Rk (l.map encS)))
      = Rk ((add l (rdy s.a2 c.wl) ⟨s.sv, s.ho, after c s.st, s.a0, s.a1, none, s.a3⟩).map encS) := by
    intro l hl
    cases rdy s.a2 c.wl with
    | false => rfl
    | true =>
      rw [if_pos rfl]
      refine bd_to (bd_to haf (show lf _ = _ by rw [after_ok c s hst]; rfl)) (bd_to (a := encS ⟨s.sv, s.ho, after c s.st, s.a0, s.a1, none, s.a3⟩) rfl ?_)
      rw [appR_ok (by rw [List.length_map]; omega)]
      show Rk (l.map encS ++ [encS ⟨s.sv, s.ho, after c s.st, s.a0, s.a1, none, s.a3⟩]) = Rk ((l ++ [_]).map encS)
      rw [List.map_append]; rfl
  refine bd_to (e6 _ (Nat.lt_of_lt_of_le (add_len (add_len (add_len (add_len (add_len (n := 1) (by decide)))))) (by decide))) ?_
  refine bd_to (a := rdy s.a3 c.wl) rfl ?_
  refine bd_add _ ⟨s.sv, s.ho, if s.st < 2 then 2 else s.st, s.a0, s.a1, s.a2, none⟩ (fun _ => bd_to (a := natD (if s.st < 2 then 2 else s.st)) (bd_to (a := decide (s.st < 2)) (by rw [ltD_k (k := 2) (i := 2) rfl]; rfl) ?_) rfl) (Nat.lt_of_lt_of_le (add_len (add_len (add_len (add_len (add_len (add_len (n := 1) (by decide))))))) (by decide)) ?_
  · by_cases e : s.st < 2
    · rw [decide_eq_true e, if_pos rfl, if_pos e]; rfl
    · rw [decide_eq_false e, if_neg Bool.false_ne_true, if_neg e]
  refine bd_to (a := !blocked c s) ?_ ?_
  · refine bd_to (a := .bool (!blocked c s)) ?_ rfl
    refine bd_to (a := .list (hits c s)) ?_ (by show lf (eqX (.list (hits c s)) (.list [])) = _; rw [hits_empty]; rfl)
    refine bd_to (a := hits c s) ?_ rfl
    refine bd_to (a := [PyData.tuple [oi s.a0, prD c.sl c.sh], .tuple [oi s.a1, prD c.ul c.uh], .tuple [oi s.a2, prD c.wl c.wh], .tuple [oi s.a3, prD c.wl c.wh]]) rfl ?_
    exact hitL c s
  refine bd_add _ ⟨s.sv, s.ho, s.st, inc s.a0, inc s.a1, inc s.a2, inc s.a3⟩ (fun _ => ?_) (Nat.lt_of_lt_of_le (add_len (add_len (add_len (add_len (add_len (add_len (add_len (n := 1) (by decide)))))))) (by decide)) ?_
  · refine bd_to (a := .tuple [oi (inc s.a0), oi (inc s.a1), oi (inc s.a2), oi (inc s.a3)]) ?_ rfl
    refine bd_to (a := .list [oi (inc s.a0), oi (inc s.a1), oi (inc s.a2), oi (inc s.a3)]) ?_ rfl
    refine bd_to (a := [oi (inc s.a0), oi (inc s.a1), oi (inc s.a2), oi (inc s.a3)]) ?_ rfl
    refine bd_to (a := [oi s.a0, oi s.a1, oi s.a2, oi s.a3]) rfl ?_
    exact mapR4 (inc_ok _) (inc_ok _) (inc_ok _) (inc_ok _)
  rfl
end LK

set_option Elab.async false
set_option linter.all false
set_option maxRecDepth 100000
set_option maxHeartbeats 4000000
/-! objects built anew, what plain values are. -/
namespace LK
open PySem PySem.Spec PyProof.Rows L2 DL
theorem anew_ok : ∀ (k : Nat) (d : D), d.depth < k → rz d ≤ 16777216 → p_anew k d = Rk d
  | 0, d, h, _ => absurd h (Nat.not_lt_zero _)
  | k + 1, d, h, hz => by
    unfold p_anew
    simp only [bd_ok, isXd_list, bl_b, isXd_tuple]
    cases d with
    | list ds =>
      rw [PyData.depth] at h; rw [rz] at hz
      simp only [dLst, if_true, itR'_l, bd_ok]
      have hm : mapR (fun d => p_anew k d) ds = Rk (ds.map id) := mapR_ok (fun d hd => anew_ok k d (by have := mem_depthAll hd; omega) (by have := mem_rzAll hd; omega)) (by have := len_le_rzAll ds; omega)
      rw [hm, List.map_id, bd_ok]
    | tuple ds =>
      rw [PyData.depth] at h; rw [rz] at hz
      simp only [dLst, dTup, if_true, Bool.false_eq_true, if_false, itR'_t, bd_ok]
      have hm : mapR (fun d => p_anew k d) ds = Rk (ds.map id) := mapR_ok (fun d hd => anew_ok k d (by have := mem_depthAll hd; omega) (by have := mem_rzAll hd; omega)) (by have := len_le_rzAll ds; omega)
      rw [hm, List.map_id, bd_ok]
      simp only [bd_ok, lf_some, tupleF_l]
    | _ => simp only [dLst, dTup, Bool.false_eq_true, if_false]
def btw (lo hi : Int) : D → Bool
  | .int i => decide (lo ≤ i) && decide (i ≤ hi)
  | _ => false
theorem is_between (d : D) (lo hi : Int) : p_is_between d (.int lo) (.int hi) = Rk (.bool (btw lo hi d)) := by
  unfold p_is_between p_is_integer
  cases d with
  | int i =>
    simp only [bd_ok, isXd_int, isXd_bool, bl_b, dIntB, dBool, if_true, Bool.not_false, lf_some, leD_i, btw]
    by_cases h : lo ≤ i
    · rw [decide_eq_true h]; simp
    · rw [decide_eq_false h]; simp
  | _ => simp [bd_ok, isXd_int, isXd_bool, bl_b, dIntB, dBool, btw]
def tupLen (lo hi : Int) : D → Bool
  | .tuple ds => decide (lo ≤ ds.length) && decide ((ds.length : Int) ≤ hi)
  | _ => false
theorem is_tuple (d : D) (lo hi : Int) : p_is_tuple d (.int lo) (.int hi) = Rk (.bool (tupLen lo hi d)) := by
  unfold p_is_tuple
  cases d with
  | tuple ds =>
    simp only [bd_ok, isXd_tuple, bl_b, dTup, if_true, lf_some, leD_i, lenF_t, tupLen]
    by_cases h : lo ≤ (ds.length : Int)
    · rw [decide_eq_true h]; simp
    · rw [decide_eq_false h]; simp
  | _ => simp [bd_ok, isXd_tuple, bl_b, dTup, tupLen]
end LK

set_option Elab.async false
set_option linter.all false
set_option maxRecDepth 100000
set_option maxHeartbeats 4000000
/-! M57b: the search of the law tells what is due. -/
namespace LK
open PySem PySem.Spec PyProof.Rows L2 DL T57 TG
def okk (a : Option Nat) : NestedKey := match a with
  | none => .none
  | some x => .num x
def keyS (s : S) : Kx := .inr (.tup [.num s.sv, .num s.ho, .num s.st, .tup [okk s.a0, okk s.a1, okk s.a2, okk s.a3]])
theorem nk_oi (a : Option Nat) : nkD (oi a) = some (okk a) := by cases a <;> simp [oi, natD, nkD, okk]
theorem dep_okk (a : Option Nat) : (okk a).depth ≤ 1 := by cases a <;> simp [okk, NestedKey.depth]
theorem key_ok (s : S) : kxD (encS s) = some (keyS s) := by
  refine kxD_t ?_
  have h : nkAll [natD s.sv, natD s.ho, natD s.st, .tuple [oi s.a0, oi s.a1, oi s.a2, oi s.a3]] = some [.num s.sv, .num s.ho, .num s.st, .tup [okk s.a0, okk s.a1, okk s.a2, okk s.a3]] := by
    simp [nkAll, nkD, nk_oi, natD]
  unfold tkD encS
  dsimp only
  rw [h]
  dsimp only
  have h0 := dep_okk s.a0; have h1 := dep_okk s.a1; have h2 := dep_okk s.a2; have h3 := dep_okk s.a3
  rw [if_pos (by simp [NestedKey.depth, NestedKey.depthAll]; omega)]
theorem okk_inj {a b : Option Nat} (h : okk a = okk b) : a = b := by
  cases a <;> cases b
  · rfl
  · cases h
  · cases h
  · simp only [okk, NestedKey.num.injEq] at h; exact congrArg some (Int.ofNat.inj h)
theorem key_inj (s t : S) (h : keyS s = keyS t) : s = t := by
  obtain ⟨x1, x2, x3, x4, x5, x6, x7⟩ := s
  obtain ⟨y1, y2, y3, y4, y5, y6, y7⟩ := t
  simp only [keyS, Sum.inr.injEq, NestedKey.tup.injEq, List.cons.injEq, NestedKey.num.injEq, and_true] at h
  obtain ⟨h1, h2, h3, h4, h5, h6, h7⟩ := h
  rw [okk_inj h4, okk_inj h5, okk_inj h6, okk_inj h7, Int.ofNat.inj h1, Int.ofNat.inj h2, Int.ofNat.inj h3]
theorem enc_lay (s : S) : PyData.canLay0 (encS s) = true ∧ (encS s).depth ≤ 3 := by
  have h0 := oi_shaped s.a0; have h1 := oi_shaped s.a1; have h2 := oi_shaped s.a2; have h3 := oi_shaped s.a3
  simp [encS, natD, PyData.canLay0, PyData.canLayAll0, PyData.depth, PyData.depthAll, h0, h1, h2, h3]
theorem row_shaped (row : List S) : SeqAt.shaped (.list (row.map encS)) = true := flat_shaped 3 (by decide) fun d hd => by
  obtain ⟨s, _, rfl⟩ := List.mem_map.mp hd
  exact enc_lay s
abbrev stS (found row : List S) : List (D × D) × List D := (setK encS (.bool true) found, row.map encS)
theorem safe_key (c : C) (hc : Ok c) (f : List (D × D) × List D → R (Lo (List (D × D) × List D) D)) (h0 : ∀ found, f (stS found []) = Rk (.brk (stS found [])))
    (h1 : ∀ found row s, found.length ≤ 30000 → row.length ≤ 300000 → U c s → row.getLast? = some s → f (stS found row) = if s ∈ found then Rk (.nx (stS found row.dropLast)) else if bad s = true then Rk (.ret (.bool false)) else Rk (.nx (stS (found ++ [s]) (row.dropLast ++ moved c s)))) :
    bd (whX f (stS [] [ini])) (fun l => thn l (fun (_ : List (D × D) × List D) => Rk (PyData.bool true)) fun t => Rk t) = Rk (.bool (due c)) := by
  obtain ⟨n, hn⟩ := search c hc
  have F := fin c hc
  have few : ∀ {found row}, Kp (U c) 8 found row → found.length ≤ 30000 ∧ row.length ≤ 300000 := fun {found row} h => by
    have := found_le F h.n h.f
    have := h.l
    omega
  have us : ∀ {found row s}, Kp (U c) 8 found row → row.getLast? = some s → U c s := fun {found row s} h e => h.r s (by rw [last_split e]; exact List.mem_append_right _ (List.mem_singleton.mpr rfl))
  have w := wh_dfs (f := f) F stS (PyData.bool false) (fun found _ => h0 found)
    (fun found row s h e hs => by rw [h1 found row s (few h).1 (few h).2 (us h e) e, if_pos hs])
    (fun found row s h e hs hb => by rw [h1 found row s (few h).1 (few h).2 (us h e) e, if_neg hs, if_pos hb])
    (fun found row s h e hs hb => by rw [h1 found row s (few h).1 (few h).2 (us h e) e, if_neg hs, if_neg (by rw [hb]; exact Bool.false_ne_true)])
    n [] [ini] (due c) ⟨List.nodup_nil, fun s h => absurd h (by simp), fun s h => by rw [List.mem_singleton] at h; subst h; exact U_ini c, by simp⟩ hn
  cases e : due c with
  | true =>
    rw [e, if_pos rfl] at w
    obtain ⟨fs, w⟩ := w
    rw [w]; rfl
  | false =>
    rw [e, if_neg Bool.false_ne_true] at w
    rw [w]; rfl
theorem law_is_safe (c : C) (hc : Ok c) : p__law_is_safe (prD c.sl c.sh) (prD c.ul c.uh) (prD c.wl c.wh) (.bool c.fc) = Rk (.bool (due c)) := by
  unfold p__law_is_safe
  simp only [bd_ok, quiet_ok]
  have same : ∀ a b, kxSame (keyS a) (keyS b) = true := fun _ _ => rfl
  refine safe_key c hc _ ?_ ?_
  · intro found
    dsimp only [stS, List.map_nil]
    rw [neX_nil (row_shaped [])]
    rfl
  · intro found row s hf hr us e
    have hne : row.isEmpty = false := by cases row with
      | nil => cases e
      | cons a t => rfl
    dsimp only [stS]
    rw [neX_nil (row_shaped row)]
    simp only [lf_some, bd_ok, bl_b, List.isEmpty_map, hne, Bool.not_false, if_true, popR_map e, ninY_d, set_find key_ok key_inj same s found]
    by_cases hs : s ∈ found
    · simp only [if_pos hs, Option.map_some, lf_some, bd_ok, bl_b, Option.isSome_some, Bool.not_true, Bool.false_eq_true, if_false]
    · simp only [if_neg hs, Option.map_some, lf_some, bd_ok, bl_b, Option.isSome_none, Bool.not_false, if_true]
      rw [set_put key_ok key_inj same hs (by omega)]
      simp only [lf_some, bd_ok]
      have h2 : ixD (encS s) (.int 2) = some (natD s.st) := ix_t2
      rw [h2]
      simp only [lf_some, bd_ok]
      rw [eqX_k (k := 3) (i := 3) rfl]
      simp only [lf_some, bd_ok, bl_b]
      unfold bad
      by_cases hb : s.st = 3
      · simp only [hb, decide_true, if_true]
      · have hm : p__law_moved (encS s) (.tuple [prD c.sl c.sh, prD c.ul c.uh, prD c.wl c.wh, prD c.wl c.wh]) (.bool c.fc) = Rk ((moved c s).map encS) := moved_ok c s us.st
        simp only [decide_eq_false hb, Bool.false_eq_true, if_false, hm, bd_ok]
        rw [catF_l (by have := moved_len c s; simp only [List.length_map, List.length_dropLast]; omega)]
        simp only [lf_some, bd_ok, List.map_append]
end LK

set_option Elab.async false
set_option linter.all false
set_option maxRecDepth 100000
set_option maxHeartbeats 4000000
/-! M57c: bounds, what is refused. -/
namespace LK
open PySem PySem.Spec PyProof.Rows L2 DL T57 TG
def bnd : D → Bool
  | .tuple [.int a, d] => btw 0 60 (.int a) && btw a 60 d
  | _ => false
theorem are_bounds (d : D) : p_are_bounds d = Rk (.bool (bnd d)) := by
  unfold p_are_bounds
  rw [is_tuple]
  simp only [bd_ok, bl_b]
  cases d with
  | tuple ds =>
    match ds with
    | [a, b] =>
      simp only [tupLen, List.length_cons, List.length_nil, ix_t0, ix_t1, lf_some, bd_ok]
      rw [is_between]
      simp only [bd_ok, bl_b]
      cases a with
      | int i =>
        simp only [bnd]
        cases h : btw 0 60 (.int i) with
        | true => rw [is_between]; rfl
        | false => rfl
      | _ => rfl
    | [] => rfl
    | [a] =>
      have : tupLen 2 2 (.tuple [a]) = false := by simp [tupLen]
      rw [this]
      cases a <;> rfl
    | a :: b :: c :: l =>
      have : tupLen 2 2 (.tuple (a :: b :: c :: l)) = false := by
        simp only [tupLen, List.length_cons, Bool.and_eq_false_iff, decide_eq_false_iff_not]
        exact .inr (by omega)
      rw [this]
      cases a <;> rfl
  | _ => rfl
theorem bnd_pr {a b : Nat} (h1 : a ≤ b) (h2 : b ≤ 60) : bnd (prD a b) = true := by
  show (btw 0 60 (.int (a : Int)) && btw (a : Int) 60 (.int (b : Int))) = true
  simp only [btw, Bool.and_eq_true, decide_eq_true_eq]
  omega
/-- objects that may be put in -/
structure Sml (d : D) : Prop where
  dp : d.depth < 8
  z : rz d ≤ 16777216
theorem need_go : ∀ (ds : List D) (b : D) (es : List D), (∀ d ∈ ds, bnd d = true) → bnd b = false → Sml b → p_need_bounds (.tuple (ds ++ b :: es)) = Rx ("InvalidBounds", b) := by
  intro ds b es hd hb hs
  unfold p_need_bounds
  rw [itR'_t, bd_ok]
  induction ds with
  | nil =>
    rw [List.nil_append, forR_cons, are_bounds, hb, anew_ok 8 b hs.dp hs.z]; rfl
  | cons d ds ih =>
    rw [List.cons_append, forR_cons, are_bounds, hd d (List.mem_cons_self ..)]
    exact ih fun e he => hd e (List.mem_cons_of_mem _ he)
theorem need_all : ∀ (ds : List D), (∀ d ∈ ds, bnd d = true) → p_need_bounds (.tuple ds) = Rk .none := by
  intro ds hd
  unfold p_need_bounds
  rw [itR'_t, bd_ok]
  induction ds with
  | nil => rfl
  | cons d ds ih =>
    rw [forR_cons, are_bounds, hd d (List.mem_cons_self ..)]
    exact ih fun e he => hd e (List.mem_cons_of_mem _ he)
theorem addD_nn {m n : Nat} : addD (.int m) (.int n) = some (.int ((m + n : Nat) : Int)) := addD_n
theorem fence_ok {s0 s1 u0 u1 w0 w1 : Nat} (b : Bool) (hs : bnd (prD s0 s1) = true) (hu : bnd (prD u0 u1) = true) (hw : bnd (prD w0 w1) = true) : p_fence_is_safe (prD s0 s1) (prD u0 u1) (prD w0 w1) (.bool b) = Rk (.bool (b || decide (u1 + w1 < s0 + w0))) := by
  unfold p_fence_is_safe
  rw [need_all _ (fun d hd => by simp only [List.mem_cons, List.not_mem_nil, or_false] at hd; rcases hd with rfl | rfl | rfl <;> assumption)]
  simp only [bd_ok, bl_b]
  cases b with
  | true => rfl
  | false =>
    simp only [Bool.false_eq_true, if_false, prD, ix_t0, ix_t1, lf_some, bd_ok]
    rw [show addD (natD u1) (natD w1) = some (natD (u1 + w1)) from addD_n, show addD (natD s0) (natD w0) = some (natD (s0 + w0)) from addD_n]
    simp only [lf_some, bd_ok, ltD_n, Bool.false_or]
/-- the greatest high, None where there is none -/
def high (s0 w0 w1 : Nat) : Int := if (s0 : Int) + w0 - w1 - 1 < 60 then (s0 : Int) + w0 - w1 - 1 else 60
def dueD (s0 w0 w1 : Nat) : D := if decide (0 ≤ high s0 w0 w1) = true then .int (high s0 w0 w1) else .none
theorem greatest_ok {s0 s1 w0 w1 : Nat} (hs : bnd (prD s0 s1) = true) (hw : bnd (prD w0 w1) = true) : p_greatest_use (prD s0 s1) (prD w0 w1) = Rk (dueD s0 w0 w1) := by
  unfold p_greatest_use
  rw [need_all _ (fun d hd => by simp only [List.mem_cons, List.not_mem_nil, or_false] at hd; rcases hd with rfl | rfl <;> assumption)]
  simp only [bd_ok, prD, natD, ix_t0, ix_t1, lf_some, addD_i, subD_i, minF_i, geD_i, bl_b]
  unfold dueD high
  generalize (if (s0 : Int) + w0 - w1 - 1 < 60 then (s0 : Int) + w0 - w1 - 1 else 60) = x
  cases decide (0 ≤ x) <;> rfl
/-! what is refused -/
def callF (which a b c : D) : R D := (bd ((bd ((lf (eqX which (.int (0))))) bl)) fun b11 => if b11 = true then (bd ((p_fence_team a b c (.bool true))) fun v12 => (Rk (.none))) else (bd ((bd ((lf (eqX which (.int (1))))) bl)) fun b15 => if b15 = true then (bd ((p_fence_goals a b c (.bool false))) fun v16 => (Rk (.none))) else (bd ((bd ((lf (eqX which (.int (2))))) bl)) fun b19 => if b19 = true then (bd ((p_fence_is_safe a b c (.bool false))) fun v20 => (Rk (.none))) else (bd ((p_greatest_use a c)) fun v21 => (Rk (.none))))))
theorem caught_ok {k : Nat} {a b c x : D} {s : Str} (hk : k < 4) (h3 : k < 3 → p_need_bounds (.tuple [a, b, c]) = Rx ("InvalidBounds", x)) (h2 : k = 3 → p_need_bounds (.tuple [a, c]) = Rx ("InvalidBounds", x)) (hr : reprF [x] = some (.str s)) : p__law_caught (natD k) a b c = Rk (.tuple [.bool true, .str s]) := by
  have e : ∀ (i : Int) (j : Nat), i = j → bd (lf (eqX (natD k) (.int i))) bl = Rk (decide (k = j)) := fun i j h => c_eq h
  unfold p__law_caught
  rw [e 0 0 rfl, e 1 1 rfl, e 2 2 rfl]
  simp only [bd_ok]
  have fin : ∀ p : R DV, p = Rx ("InvalidBounds", x) → bd (tryR isCls2 p fun x6 => Rk (DV.exc x6.1 x6.2)) (fun (j8 : DV) => (bd ((isXv isNon (isEx "InvalidBounds") j8)) fun v25 => (bd ((bd ((bd ((isNv false j8)) bl)) fun c24 => if c24 = true then Rk PyData.none else (bd ((valV isCls j8)) fun v23 => lf (reprF [v23])))) fun v26 => Rk (PyData.tuple [v25, v26])))) = Rk (.tuple [.bool true, .str s]) := by
    intro p hp
    rw [hp, tryR_er (x := ("InvalidBounds", x)) rfl, quiet_ok, bd_ok]
    have h1 : isXv isNon (isEx "InvalidBounds") (.exc "InvalidBounds" x) = Rk (.bool true) := rfl
    have h2 : isNv false (.exc "InvalidBounds" x) = Rk (.bool false) := rfl
    have h4 : valV isCls (.exc "InvalidBounds" x) = Rk x := rfl
    simp only [h1, h2, h4, bd_ok, bl_b, Bool.false_eq_true, if_false, hr, lf_some]
  refine fin _ ?_
  have : k = 0 ∨ k = 1 ∨ k = 2 ∨ k = 3 := by omega
  rcases this with rfl | rfl | rfl | rfl
  · have := h3 (by decide)
    simp only [decide_true, if_true]
    unfold p_fence_team
    rw [this]; rfl
  · have := h3 (by decide)
    unfold p_fence_goals
    rw [this]; rfl
  · have := h3 (by decide)
    unfold p_fence_is_safe
    rw [this]; rfl
  · have := h2 rfl
    unfold p_greatest_use
    rw [this]; rfl
end LK

set_option Elab.async false
set_option linter.all false
set_option maxRecDepth 100000
set_option maxHeartbeats 4000000
/-! M57d: what is drawn. -/
namespace LK
open PySem PySem.Spec PyProof.Rows L2 DL T57 TG
def Cell (d : D) : Prop := ∃ i : Int, d = .int i ∧ 0 ≤ i ∧ i < 1000
/-- a pool of at most n numbers -/
structure Pl (n : Nat) (l : List D) : Prop where
  c : ∀ d ∈ l, Cell d
  l : l.length ≤ n
theorem Pl.put {n : Nat} {l : List D} {i : Int} (h : Pl n l) (h0 : 0 ≤ i) (h1 : i < 1000) : Pl (n + 1) (l ++ [.int i]) := ⟨fun d hd => by
  rcases List.mem_append.mp hd with g | g
  · exact h.c d g
  · rw [List.mem_singleton] at g; exact ⟨i, g, h0, h1⟩, by rw [List.length_append]; exact Nat.succ_le_succ h.l⟩
theorem Pl.mono {n m : Nat} {l : List D} (h : Pl n l) (hm : n ≤ m) : Pl m l := ⟨h.c, Nat.le_trans h.l hm⟩
theorem mod_lt {i j : Int} (h : 0 < j) : 0 ≤ i % j ∧ i % j < j := ⟨Int.emod_nonneg _ (by omega), Int.emod_lt_of_pos _ h⟩
theorem pow18 : powD (.int 10) (.int 18) = some (.int (10 ^ 18)) := powD_n 18 (by decide)
theorem cut63 {ds : List D} (h : ds.length ≤ 63) : slF (.list ds) none (some 63) = some (.list ds) := by
  show some (PyData.list (DL.cutD ds none (some 63))) = _
  rw [cutD_whole]
  constructor
  · rfl
  · unfold HT.sIx
    simp
    omega
theorem pool_ok (ns : List Int) (hl : ns.length ≤ 63) : ∃ l, p__law_pool (.list (ns.map PyData.int)) (.int 300) = Rk l ∧ Pl 10000 l := by
  unfold p__law_pool
  simp only [bd_ok, itR_i, cut63 (ds := ns.map PyData.int) (by rw [List.length_map]; exact hl), lf_some, itR'_l]
  refine bd_forR (G := fun x => ∃ l, x = Rk l ∧ Pl 10000 l) (fun rest s => (∀ d ∈ rest, ∃ i : Int, d = .int i) ∧ rest.length ≤ 63 ∧ Pl (60 * (63 - rest.length)) s.1 ∧ ∃ x : Int, s.2 = PyData.int x ∧ x.natAbs < 2 ^ 200) ⟨fun d hd => by
    obtain ⟨i, _, rfl⟩ := List.mem_map.mp hd
    exact ⟨i, rfl⟩, by rw [List.length_map]; exact hl, ⟨fun d hd => absurd hd (by simp), Nat.zero_le _⟩, 35767, rfl, by decide⟩ ?_ ?_
  · rintro ⟨pool, sd⟩ d rest ⟨hd, hr, hp, x, hx, hb⟩
    obtain ⟨i, rfl⟩ := hd d (List.mem_cons_self ..)
    have hd' : ∀ e ∈ rest, ∃ i : Int, e = .int i := fun e he => hd e (List.mem_cons_of_mem _ he)
    rw [List.length_cons] at hr hp
    dsimp only at hx hp ⊢
    subst hx
    simp only [intF_i, lf_some, bd_ok, absF_i, lenF_l, ltD_i, intF_b]
    rw [mulX_r (j := 48271) (by decide), mulX_l (i := 7) (by decide)]
    simp only [lf_some, bd_ok]
    rw [modD_i (by decide)]
    simp only [lf_some, bd_ok, addD_i]
    rw [modD_i (by decide)]
    simp only [lf_some, bd_ok, pow18, geD_i, bl_b]
    generalize hs : x * 48271 + (if i < 0 then -i else i) % 2147483629 + 7 * (pool.length : Int) + (if decide (i < 0) = true then 1 else 0) = y
    have m1 := mod_lt (i := y) (j := 2147483647) (by decide)
    generalize hlf : (if i < 0 then -i else i) = a
    have ha : 0 ≤ a := by rw [← hlf]; split <;> omega
    by_cases hg : (10 : Int) ^ 18 ≤ a
    · rw [decide_eq_true hg, if_pos rfl, show rngF [.int 60] = some ((List.range 60).map natD) from rngF_map (n := 60) (by decide)]
      simp only [lf_some, bd_ok]
      refine bd_forR (G := fun t => ∃ s' : List D × D, t = Rk s' ∧ (∀ e ∈ rest, ∃ i : Int, e = .int i) ∧ rest.length ≤ 63 ∧ Pl (60 * (63 - rest.length)) s'.1 ∧ ∃ x : Int, s'.2 = PyData.int x ∧ x.natAbs < 2 ^ 200) (fun r s => r.length ≤ 60 ∧ Pl (60 * (63 - (rest.length + 1)) + (60 - r.length)) s.1 ∧ ∃ z : Int, s.2 = PyData.int z) ⟨by simp, by simpa using hp, a, rfl⟩ ?_ ?_
      · rintro ⟨p2, lf2⟩ d2 r2 ⟨hr2, hp2, z, hz⟩
        rw [List.length_cons] at hr2 hp2
        dsimp only at hz hp2 ⊢
        subst hz
        simp only [gtD_i, lf_some, bd_ok, bl_b, intF_i]
        by_cases h0 : 0 < z
        · rw [decide_eq_true h0, if_pos rfl, modD_i (by decide), lf_some, bd_ok, appR_ok (by have := hp2.l; omega), bd_ok, fdivD_i (by decide) (by decide)]
          simp only [lf_some, bd_ok]
          have m2 := mod_lt (i := z) (j := 1000) (by decide)
          exact ⟨_, rfl, by omega, (hp2.put m2.1 m2.2).mono (by omega), _, rfl⟩
        · rw [decide_eq_false h0, if_neg Bool.false_ne_true]
          exact ⟨_, rfl, by omega, hp2.mono (by omega), z, rfl⟩
      · rintro ⟨p3, lf3⟩ ⟨_, hp3, _⟩
        exact ⟨_, rfl, hd', by omega, hp3.mono (by simp; omega), _, rfl, by omega⟩
    · rw [decide_eq_false hg, if_neg Bool.false_ne_true]
      exact ⟨_, rfl, hd', by omega, hp.mono (by omega), _, rfl, by omega⟩
  · rintro ⟨pool, sd⟩ ⟨_, _, hp, x, hx, hb⟩
    dsimp only at hx hp ⊢
    subst hx
    rw [show rngF [.int 300] = some ((List.range 300).map natD) from rngF_map (n := 300) (by decide)]
    simp only [lf_some, bd_ok]
    refine bd_forR (G := fun x => ∃ l, x = Rk l ∧ Pl 10000 l) (fun rest s => rest.length ≤ 300 ∧ (∀ d ∈ rest, ∃ k : Nat, d = natD k ∧ k < 300) ∧ Pl (3780 + (300 - rest.length)) s.1 ∧ ∃ x : Int, s.2 = PyData.int x ∧ x.natAbs < 2 ^ 200) ⟨by simp, fun d hd => by
      obtain ⟨k, hk, rfl⟩ := List.mem_map.mp hd
      exact ⟨k, rfl, List.mem_range.mp hk⟩, by simpa using hp, x, rfl, hb⟩ ?_ ?_
    · rintro ⟨p2, sd2⟩ d2 r2 ⟨hr2, hd2, hp2, z, hz, hb2⟩
      obtain ⟨k, rfl, hk⟩ := hd2 d2 (List.mem_cons_self ..)
      rw [List.length_cons] at hr2 hp2
      dsimp only at hz hp2 ⊢
      subst hz
      simp only [natD]
      rw [mulX_r (j := 69621) (by decide), mulX_l (i := 2) (by decide)]
      simp only [lf_some, bd_ok, addD_i]
      rw [modD_i (by decide)]
      simp only [lf_some, bd_ok, addD_i]
      have m1 := mod_lt (i := z * 69621 + 12347 + (k : Int)) (j := 2147483647) (by decide)
      generalize (z * 69621 + 12347 + (k : Int)) % 2147483647 = y at m1 ⊢
      rw [mulX_b (i := y) (by omega) (by omega)]
      simp only [lf_some, bd_ok, intF_i]
      rw [modD_i (by decide)]
      simp only [lf_some, bd_ok]
      rw [fdivD_i (by decide) (by decide)]
      simp only [lf_some, bd_ok]
      rw [modD_i (by decide)]
      simp only [lf_some, bd_ok]
      rw [appR_ok (by have := hp2.l; omega), bd_ok]
      have m2 := mod_lt (i := y * (y + 2 * (k : Int) + 1) % 2147483629 / 1009) (j := 1000) (by decide)
      exact ⟨_, rfl, by omega, fun d hd => hd2 d (List.mem_cons_of_mem _ hd), (hp2.put m2.1 m2.2).mono (by omega), _, rfl, by omega⟩
    · rintro ⟨p3, sd3⟩ ⟨_, _, hp3, _⟩
      simp only [bd_ok, revLF_l, lf_some]
      refine ⟨_, rfl, fun d hd => hp3.c d (by simpa using hd), ?_⟩
      have := hp3.l
      simp at this ⊢
      omega
theorem cell_shaped {n : Nat} {l : List D} (h : Pl n l) : SeqAt.shaped (.list l) = true := flat_shaped 0 (by decide) fun d hd => by
  obtain ⟨i, rfl, _⟩ := h.c d hd
  simp [PyData.canLay0, PyData.depth]
theorem take_ok {n m : Nat} {l : List D} (h : Pl n l) (hm : 0 < m) : ∃ k l', p__law_take l (.int m) = Rk (natD k, l') ∧ k < m ∧ Pl n l' := by
  unfold p__law_take
  rw [eqX_nil (cell_shaped h)]
  simp only [lf_some, bd_ok, bl_b]
  cases e : l.getLast? with
  | none =>
    have : l = [] := List.getLast?_eq_none_iff.mp e
    subst this
    exact ⟨0, [], rfl, hm, h⟩
  | some d =>
    have hne : l.isEmpty = false := by cases l with
      | nil => cases e
      | cons a t => rfl
    have hd : d ∈ l := List.mem_of_getLast? e
    obtain ⟨i, rfl, h0, h1⟩ := h.c d hd
    have hp : popR l = Rk (.int i, l.dropLast) := by
      have := popR_map (enc := fun d : D => d) e
      simpa using this
    rw [hne, if_neg Bool.false_ne_true, hp]
    simp only [bd_ok, intF_i, lf_some]
    rw [modD_i (by omega)]
    simp only [lf_some, bd_ok]
    have m1 := mod_lt (i := i) (j := (m : Int)) (by omega)
    refine ⟨(i % (m : Int)).toNat, l.dropLast, ?_, by omega, fun d hd => h.c d (List.dropLast_subset _ hd), ?_⟩
    · unfold natD
      rw [Int.toNat_of_nonneg m1.1]
    · rw [List.length_dropLast]; have := h.l; omega
theorem pair_ok {n m : Nat} {l : List D} (h : Pl n l) : ∃ lo hi l', p__law_pair l (.int m) = Rk (prD lo hi, l') ∧ lo ≤ hi ∧ hi ≤ m ∧ Pl n l' := by
  unfold p__law_pair
  obtain ⟨lo, l1, e1, h1, p1⟩ := take_ok (m := m + 1) h (by omega)
  rw [show addD (.int (m : Int)) (.int 1) = some (.int ((m + 1 : Nat) : Int)) from addD_n (m := m) (n := 1)]
  simp only [lf_some, bd_ok, e1]
  obtain ⟨d, l2, e2, h2, p2⟩ := take_ok (m := m - lo + 1) p1 (by omega)
  rw [show subD (.int (m : Int)) (natD lo) = some (.int ((m - lo : Nat) : Int)) by unfold natD; rw [subD_i]; congr 2; omega]
  simp only [lf_some, bd_ok]
  rw [show addD (.int ((m - lo : Nat) : Int)) (.int 1) = some (.int ((m - lo + 1 : Nat) : Int)) from addD_n (m := m - lo) (n := 1)]
  simp only [lf_some, bd_ok, e2]
  rw [show addD (natD lo) (natD d) = some (natD (lo + d)) from addD_n]
  simp only [lf_some, bd_ok]
  rw [tupR_ok (by simp)]
  exact ⟨lo, lo + d, l2, rfl, by omega, by omega, p2⟩
end LK

set_option Elab.async false
set_option linter.all false
set_option maxRecDepth 100000
set_option maxHeartbeats 4000000
/-! M57e: the law. -/
namespace LK
open PySem PySem.Spec PyProof.Rows L2 DL T57 TG
def bads : List D := [.none, (.tuple [(.int (1)), (.int (0))]), (.tuple [(.int (0)), (.int (61))]), (.list [(.int (0)), (.int (1))]), (.tuple [(.int (0)), .none]), (.tuple [(.bool true), (.int (2))]), (.tuple [(.int (1))]), (.tuple [(.tuple [(.int (0)), (.list [(.int (1))])])])]
def chk (x : D) : Bool := !bnd x && (decide (x.depth < 8) && (decide (rz x ≤ 16777216) && (reprOk x && (PyData.strOk x.shown && decide ((reprText x.shown).length ≤ 1000)))))
theorem bads_chk : bads.all chk = true := by decide +kernel
structure Bad (x : D) (s : Str) : Prop where
  n : bnd x = false
  m : Sml x
  r : reprF [x] = some (.str s)
  g : neX (.tuple [.bool true, .str s]) (.tuple [.bool true, .str s]) = some (.bool false)
theorem bad_at {k : Nat} (hk : k < 8) : ∃ x s, ixD (.list bads) (natD k) = some x ∧ Bad x s := by
  have h : k < bads.length := hk
  refine ⟨bads[k], bads[k].shown, ix_ln h, ?_⟩
  have c := List.all_eq_true.mp bads_chk bads[k] (List.getElem_mem h)
  unfold chk at c
  simp only [Bool.and_eq_true, Bool.not_eq_true', decide_eq_true_eq] at c
  obtain ⟨c1, c2, c3, c4, c5, c6⟩ := c
  refine ⟨c1, ⟨c2, c3⟩, ?_, ?_⟩
  · show (if reprOk bads[k] then _ else _) = _
    rw [if_pos c4]
  · have g : Good 1 5000 (.tuple [.bool true, .str bads[k].shown]) := (good_tup (k := 0) (z := 1000) 2 (ds := [.bool true, .str bads[k].shown]) (fun d hd => by
      simp only [List.mem_cons, List.not_mem_nil, or_false] at hd
      rcases hd with rfl | rfl
      · exact (good_bool true).mono (by decide) (by decide)
      · exact good_str c5 c6) (Nat.le_refl _)).mono (by decide) (by decide)
    exact g.ne (by decide)
theorem repr_two {k z : Nat} {d : D} (h : Good k z d) (hk : k < 64) (hz : 2 * (z + 2) + 3 ≤ 16777216) : ∃ x, reprF [.list [d, d]] = some (.str x) :=
  ⟨_, (good_list (k := k) (z := z) 2 (ds := [d, d]) (fun e he => by
    simp only [List.mem_cons, List.not_mem_nil, or_false] at he
    rcases he with rfl | rfl <;> exact h) (Nat.le_refl _)).repr (by omega) hz⟩
theorem dueD_good {s0 w0 w1 : Nat} (h0 : s0 ≤ 60) (h1 : w0 ≤ 60) (h2 : w1 ≤ 60) : Good 0 1002 (dueD s0 w0 w1) := by
  unfold dueD
  split
  · refine good_int ?_
    have : (high s0 w0 w1).natAbs < 2 ^ 10 := by unfold high; split <;> omega
    exact Nat.lt_trans this (by decide)
  · exact good_none.mono (by decide) (by decide)
theorem most_ok (k : Nat) : ∃ m : Nat, (bd ((bd ((lf (intF [natD k]))) fun v9 => lf (modD v9 (.int (3))))) fun v12 => lf (ixD (.list [(.int (3)), (.int (3)), (.int (60))]) v12)) = Rk (.int (m : Int)) ∧ (m = 3 ∨ m = 60) := by
  rw [show intF [natD k] = some (natD k) from rfl, lf_some, bd_ok, show modD (natD k) (.int 3) = some (natD (k % 3)) from modD_n (n := 3) (by decide), lf_some, bd_ok]
  have : k % 3 = 0 ∨ k % 3 = 1 ∨ k % 3 = 2 := by omega
  rcases this with h | h | h <;> rw [h]
  · exact ⟨3, rfl, .inl rfl⟩
  · exact ⟨3, rfl, .inl rfl⟩
  · exact ⟨60, rfl, .inr rfl⟩
theorem due_ok (s0 u1 w0 w1 : Nat) {s1 u0 : Nat} (b : Bool) : (bd (Rk (PyData.bool b)) fun v41 => bd (bl v41) fun b42 => if b42 = true then Rk (PyData.bool true) else ((bd ((bd ((lf (ixD (prD u0 u1) (.int (1))))) fun v31 => bd ((lf (ixD (prD w0 w1) (.int (1))))) fun v32 => lf (addD v31 v32))) fun v39 => bd ((bd ((lf (ixD (prD s0 s1) (.int (0))))) fun v37 => bd ((lf (ixD (prD w0 w1) (.int (0))))) fun v38 => lf (addD v37 v38))) fun v40 => lf (ltD v39 v40))))
    = Rk (.bool (due ⟨s0, s1, u0, u1, w0, w1, b⟩)) := by
  simp only [bd_ok, bl_b]
  unfold due
  cases b with
  | true => rfl
  | false =>
    simp only [Bool.false_eq_true, if_false, prD, ix_t0, ix_t1, lf_some, bd_ok]
    rw [show addD (natD u1) (natD w1) = some (natD (u1 + w1)) from addD_n, show addD (natD s0) (natD w0) = some (natD (s0 + w0)) from addD_n]
    simp only [lf_some, bd_ok, ltD_n, Bool.false_or]
theorem law_ok (ns : List Int) (hl : ns.length ≤ 63) : p_law (.list (ns.map PyData.int)) = Rk (.bool true) := by
  unfold p_law
  obtain ⟨pool, ep, hp⟩ := pool_ok ns hl
  rw [ep, bd_ok, show rngF [.int 6] = some ((List.range 6).map natD) from rngF_map (n := 6) (by decide), lf_some, bd_ok]
  refine bd_forX (G := fun x => x = Rk (PyData.bool true)) (fun rest s => (∀ d ∈ rest, ∃ k, d = natD k) ∧ Pl 10000 s) ⟨fun d hd => by
    obtain ⟨k, _, rfl⟩ := List.mem_map.mp hd
    exact ⟨k, rfl⟩, hp⟩ ?_ (fun _ _ => rfl)
  rintro s d rest ⟨hd, hs⟩
  obtain ⟨k, rfl⟩ := hd d (List.mem_cons_self ..)
  have hd' : ∀ d ∈ rest, ∃ k, d = natD k := fun d h => hd d (List.mem_cons_of_mem _ h)
  obtain ⟨m, em, hm⟩ := most_ok k
  have hm60 : m ≤ 60 := by omega
  obtain ⟨s0, s1, l1, e1, hs01, hs1, p1⟩ := pair_ok (m := m) hs
  obtain ⟨u0, u1, l2, e2, hu01, hu1, p2⟩ := pair_ok (m := m) p1
  obtain ⟨w0, w1, l3, e3, hw01, hw1, p3⟩ := pair_ok (m := m) p2
  have bs : bnd (prD s0 s1) = true := bnd_pr hs01 (by omega)
  have bu : bnd (prD u0 u1) = true := bnd_pr hu01 (by omega)
  have bw : bnd (prD w0 w1) = true := bnd_pr hw01 (by omega)
  rw [em]
  simp only [bd_ok, e1, e2, e3, pr3_t, itR'_l]
  refine bd_forX (G := fun x => ∃ s', x = Rk (Lo.nx s') ∧ (∀ d ∈ rest, ∃ k, d = natD k) ∧ Pl 10000 s') (fun rest _ => ∀ d ∈ rest, ∃ b, d = PyData.bool b) (fun d hd => by
    simp only [List.mem_cons, List.not_mem_nil, or_false] at hd
    rcases hd with rfl | rfl <;> exact ⟨_, rfl⟩) ?_ ?_
  · rintro ⟨⟩ d rest2 hb
    obtain ⟨b, rfl⟩ := hb d (List.mem_cons_self ..)
    refine ⟨(), ?_, fun d h => hb d (List.mem_cons_of_mem _ h)⟩
    have hd0 : due ⟨s0, s1, u0, u1, w0, w1, b⟩ = (b || decide (u1 + w1 < s0 + w0)) := rfl
    refine bd_to (due_ok s0 u1 w0 w1 b) ?_
    rw [hd0]
    generalize hx : (b || decide (u1 + w1 < s0 + w0)) = v
    have ef : p_fence_is_safe (prD s0 s1) (prD u0 u1) (prD w0 w1) (.bool b) = Rk (.bool v) := by rw [fence_ok b bs bu bw, hx]
    rw [ef]
    simp only [bd_ok]
    rw [appR_ok (by simp)]
    obtain ⟨x1, ex1⟩ := repr_two (good_bool v) (by decide) (by decide)
    simp only [bd_ok, List.cons_append, List.nil_append, ex1, lf_some, neX_same, bl_b, Bool.false_eq_true, if_false]
    rcases hm with rfl | rfl
    · have es : p__law_is_safe (prD s0 s1) (prD u0 u1) (prD w0 w1) (.bool b) = Rk (.bool v) := by
        have := law_is_safe ⟨s0, s1, u0, u1, w0, w1, b⟩ ⟨⟨hs01, hs1⟩, ⟨hu01, hu1⟩, ⟨hw01, hw1⟩⟩
        rw [hd0, hx] at this
        exact this
      have en : neX (.bool v) (.bool v) = some (.bool false) := (good_bool v).ne (by decide)
      rw [es]
      simp only [bd_ok, en, lf_some, bl_b, ltD_i]
      rfl
    · rfl
  · intro s' _
    rw [thn_nx]
    have eh : (bd ((bd ((bd ((bd ((lf (ixD (prD s0 s1) (.int (0))))) fun v65 => bd ((lf (ixD (prD w0 w1) (.int (0))))) fun v66 => lf (addD v65 v66))) fun v69 => bd ((lf (ixD (prD w0 w1) (.int (1))))) fun v70 => lf (subD v69 v70))) fun v71 => lf (subD v71 (.int (1))))) fun v73 => (lf (minF [(.int (60)), v73]))) = Rk (.int (high s0 w0 w1)) := by
      simp only [prD, natD, ix_t0, ix_t1, lf_some, bd_ok, addD_i, subD_i, minF_i]
      rfl
    have ed : (bd ((bd ((lf (geD (.int (high s0 w0 w1)) (.int (0))))) bl)) fun c77 => if c77 = true then Rk (PyData.int (high s0 w0 w1)) else Rk .none) = Rk (dueD s0 w0 w1) := by
      simp only [geD_i, lf_some, bd_ok, bl_b]
      unfold dueD
      cases decide (0 ≤ high s0 w0 w1) <;> rfl
    rw [eh, bd_ok, ed, bd_ok, greatest_ok bs bw]
    obtain ⟨x2, ex2⟩ := repr_two (dueD_good (s0 := s0) (w0 := w0) (w1 := w1) (by omega) (by omega) (by omega)) (by decide) (by decide)
    simp only [bd_ok, ex2, lf_some, neX_same, bl_b, Bool.false_eq_true, if_false]
    have e90 : (if (if True then !isNoneB (dueD s0 w0 w1) else isNoneB (dueD s0 w0 w1)) = true then bd (bd (p_fence_is_safe (prD s0 s1) (.tuple [.int 0, dueD s0 w0 w1]) (prD w0 w1) (.bool false)) bl) fun b88 => Rk (!b88) else Rk false) = Rk false := by
      unfold dueD
      by_cases h0 : 0 ≤ high s0 w0 w1
      · rw [decide_eq_true h0, if_pos rfl]
        obtain ⟨h, hh⟩ := Int.eq_ofNat_of_zero_le h0
        have hb : h ≤ 60 ∧ h + w1 < s0 + w0 := by unfold high at hh; split at hh <;> omega
        rw [hh]
        have := fence_ok (s0 := s0) (s1 := s1) (u0 := 0) (u1 := h) (w0 := w0) (w1 := w1) false bs (bnd_pr (Nat.zero_le _) hb.1) bw
        rw [show (PyData.tuple [.int 0, .int (h : Int)]) = prD 0 h from rfl, this, decide_eq_true hb.2]
        rfl
      · rw [decide_eq_false h0, if_neg Bool.false_ne_true]; rfl
    rw [e90]
    simp only [bd_ok, Bool.false_eq_true, if_false]
    obtain ⟨kb, l4, e4, hkb, p4⟩ := take_ok (m := 8) p3 (by decide)
    obtain ⟨x, t, exb, hbad⟩ := bad_at hkb
    obtain ⟨kw, l5, e5, hkw, p5⟩ := take_ok (m := 4) p4 (by decide)
    rw [show p__law_take l3 (.int 8) = _ from e4]
    simp only [bd_ok]
    rw [show ixD (.list [.none, (.tuple [(.int (1)), (.int (0))]), (.tuple [(.int (0)), (.int (61))]), (.list [(.int (0)), (.int (1))]), (.tuple [(.int (0)), .none]), (.tuple [(.bool true), (.int (2))]), (.tuple [(.int (1))]), (.tuple [(.tuple [(.int (0)), (.list [(.int (1))])])])]) (natD kb) = some x from exb]
    simp only [lf_some, bd_ok]
    rw [show p__law_take l4 (.int 4) = _ from e5]
    simp only [bd_ok]
    rw [caught_ok (a := x) (b := .none) (c := .int 5) hkw (fun _ => need_go [] x [.none, .int 5] (fun d hd => absurd hd (by simp)) hbad.n hbad.m) (fun _ => need_go [] x [.int 5] (fun d hd => absurd hd (by simp)) hbad.n hbad.m) hbad.r]
    simp only [bd_ok, hbad.r, lf_some, hbad.g, bl_b, Bool.false_eq_true, if_false]
    have two : ∀ d ∈ [prD s0 s1, prD u0 u1], bnd d = true := fun d hd => by
      simp only [List.mem_cons, List.not_mem_nil, or_false] at hd
      rcases hd with rfl | rfl <;> assumption
    have one : ∀ d ∈ [prD s0 s1], bnd d = true := fun d hd => by
      rw [List.mem_singleton] at hd; subst hd; exact bs
    rw [caught_ok (a := prD s0 s1) (b := prD u0 u1) (c := x) hkw (fun _ => need_go [prD s0 s1, prD u0 u1] x [] two hbad.n hbad.m) (fun _ => need_go [prD s0 s1] x [] one hbad.n hbad.m) hbad.r]
    simp only [bd_ok, hbad.r, lf_some, hbad.g, bl_b, Bool.false_eq_true, if_false]
    rw [ltD_k (k := 3) (i := 3) rfl]
    simp only [lf_some, bd_ok, bl_b]
    by_cases h3 : kw < 3
    · rw [decide_eq_true h3, if_pos rfl, caught_ok (a := prD s0 s1) (b := x) (c := .none) hkw (fun _ => need_go [prD s0 s1] x [.none] one hbad.n hbad.m) (fun h => absurd h (by omega)) hbad.r]
      simp only [bd_ok, hbad.r, lf_some, hbad.g, bl_b, Bool.false_eq_true, if_false]
      exact ⟨l5, rfl, hd', p5⟩
    · rw [decide_eq_false h3, if_neg Bool.false_ne_true]
      exact ⟨l5, rfl, hd', p5⟩
theorem law_true (ns : List Int) (h : ns.length ≤ 63) : ∃ w, F_law [] [.list (ns.map PyData.int)] = some (.ok (.dat (.bool true)), w) := by
  have g := g_law (.list (ns.map PyData.int))
  rw [law_ok ns h] at g
  obtain ⟨r, w, e, q⟩ := g
  cases r with
  | dat d => exact ⟨w, by rw [e]; cases (show d = .bool true from q); rfl⟩
  | new es => exact nomatch (show PyData.list es = .bool true from q)
end LK

set_option Elab.async false
set_option linter.all false
set_option maxRecDepth 100000
set_option maxHeartbeats 4000000
namespace LK
open PySem PySem.Spec PyProof.Rows L2 DL
theorem cx_none {P : Program} {w : World} {H : Hp} {s : Shared} {e : Value} {s' : Shared} (h : L2.CX P w [] H s (fun _ _ _ => False) e s') : False := by
  obtain ⟨_, _, _, _, _, _, h⟩ := h
  simp at h

def spLaw (K : PySem.W.Frag) : Sp := fun vs H Q E => ∃ (a : Addr) (ns : List Int), vs = [.ref a] ∧ SqL K H a (ns.map V.int) ∧ ns.length ≤ 63 ∧ ∀ H', Q (.bl true) H'
theorem spLaw_imp {K : PySem.W.Frag} {mg : Str → Option Value} {pg : Program} {wd : World} (vs : List V) (H : Hp) (Q : VK) (E : XK) (h : spLaw K vs H Q E) : spD ⟨K, mg, pg, wd⟩ false 1 F_law vs H Q E := by
  obtain ⟨a, ns, rfl, hS, hl, q⟩ := h
  refine ⟨rfl, H, none, [.ref a], [], [.list (ns.map PyData.int)], rfl, rfl, Same.refl H, trivial, .cons (.lst hS (RpAll.ints ns)) .nil, ?_⟩
  obtain ⟨w, e⟩ := law_true ns hl
  rw [e]
  intro v F' H' s s' n fr lt rv
  cases (show Rp ⟨K, mg, pg, wd⟩ F' v (.bool true) from rv)
  exact q H'
theorem walk {l : PySem.W.OpenLaw} {q : Program} {loose : List Str} {XP : (Str → Option Value) → Heap → Prop} {YP : World → Heap → Prop} {d : DefRec} {K : Params → PySem.W.Frag} (hn : l.most = some 63) (hdf : d.params.defaults = [])
    (hY : ∀ (w : World) (h : Heap), YP w h → (K w.params).In h)
    (F : ∀ (w : World) (mg : Str → Option Value) (fa : Addr) (h : Heap), (K w.params).In h → h.Ns mainGlobals mg → mg d.name = some (.ref fa) →
      ∃ fd : FuncData, (∀ (s : Shared) (u : Value), BindsTo s fd ⟨[u], []⟩ [("script", u)]) ∧ ∀ base : Heap, (K w.params).In base → base.Ns mainGlobals mg → FnOkG l.prog w (K w.params) mg base (L2.CX l.prog w) 13 fa fd ["script"] (spLaw (K w.params))) :
    PySem.W.WalkO q loose XP YP l.row.toRowW d [] (fun f vs => PySem.call f vs) :=
  walk_ofG (n := 63) (k := 13) (x := "script") (CX := fun w => L2.CX l.prog w) (sp := fun w => spLaw (K w.params)) hn (by decide) hdf ⟨rfl, by decide, by decide⟩ hY F (fun _ _ a ns hl _ hS => ⟨a, ns, rfl, hS, hl, fun _ => rfl⟩) fun _ _ _ _ _ z => cx_none z
theorem all_mk {w : World} {K : PySem.W.Frag} {h : Heap} {mg : Str → Option Value} {fa : Addr} (X : K.In h) (G : h.Ns mainGlobals mg) (hfa : mg "law" = some (.ref fa))
    (pI : PySem.LeX.IP)
    {f_is_integer f_is_between f_is_tuple f_anew f_product_of f_places_of f_goals_by f_are_bounds f_need_bounds f_server_party f_holder_party f_store_party f_team_by f_fence_team f_fence_goals f_fence_is_safe f_greatest_use f__law_pool f__law_take f__law_pair f__law_moved f__law_is_safe f__law_caught f_law C_LeaseError C_InvalidBounds fI cc cda : Addr}
    {od_is_integer an_is_integer : Option Addr} {sl_is_integer : Array (Option Value)} {oc_is_integer kV_is_integer dc_is_integer pm_is_integer cd_is_integer ct_is_integer : Value}
    {od_is_between an_is_between : Option Addr} {sl_is_between : Array (Option Value)} {oc_is_between kV_is_between dc_is_between pm_is_between cd_is_between ct_is_between : Value}
    {od_is_tuple an_is_tuple : Option Addr} {sl_is_tuple : Array (Option Value)} {oc_is_tuple kV_is_tuple dc_is_tuple pm_is_tuple cd_is_tuple ct_is_tuple : Value}
    {od_anew an_anew : Option Addr} {sl_anew : Array (Option Value)} {oc_anew kV_anew dc_anew pm_anew cd_anew ct_anew : Value}
    {od_product_of an_product_of : Option Addr} {sl_product_of : Array (Option Value)} {oc_product_of kV_product_of dc_product_of pm_product_of cd_product_of ct_product_of : Value}
    {od_places_of an_places_of : Option Addr} {sl_places_of : Array (Option Value)} {oc_places_of kV_places_of dc_places_of pm_places_of cd_places_of ct_places_of : Value}
    {od_goals_by an_goals_by : Option Addr} {sl_goals_by : Array (Option Value)} {oc_goals_by kV_goals_by dc_goals_by pm_goals_by cd_goals_by ct_goals_by : Value}
    {od_are_bounds an_are_bounds : Option Addr} {sl_are_bounds : Array (Option Value)} {oc_are_bounds kV_are_bounds dc_are_bounds pm_are_bounds cd_are_bounds ct_are_bounds : Value}
    {od_need_bounds an_need_bounds : Option Addr} {sl_need_bounds : Array (Option Value)} {oc_need_bounds kV_need_bounds dc_need_bounds pm_need_bounds cd_need_bounds ct_need_bounds : Value}
    {od_server_party an_server_party : Option Addr} {sl_server_party : Array (Option Value)} {oc_server_party kV_server_party dc_server_party pm_server_party cd_server_party ct_server_party : Value}
    {od_holder_party an_holder_party : Option Addr} {sl_holder_party : Array (Option Value)} {oc_holder_party kV_holder_party dc_holder_party pm_holder_party cd_holder_party ct_holder_party : Value}
    {od_store_party an_store_party : Option Addr} {sl_store_party : Array (Option Value)} {oc_store_party kV_store_party dc_store_party pm_store_party cd_store_party ct_store_party : Value}
    {od_team_by an_team_by : Option Addr} {sl_team_by : Array (Option Value)} {oc_team_by kV_team_by dc_team_by pm_team_by cd_team_by ct_team_by : Value}
    {od_fence_team an_fence_team : Option Addr} {sl_fence_team : Array (Option Value)} {oc_fence_team kV_fence_team dc_fence_team pm_fence_team cd_fence_team ct_fence_team : Value}
    {od_fence_goals an_fence_goals : Option Addr} {sl_fence_goals : Array (Option Value)} {oc_fence_goals kV_fence_goals dc_fence_goals pm_fence_goals cd_fence_goals ct_fence_goals : Value}
    {od_fence_is_safe an_fence_is_safe : Option Addr} {sl_fence_is_safe : Array (Option Value)} {oc_fence_is_safe kV_fence_is_safe dc_fence_is_safe pm_fence_is_safe cd_fence_is_safe ct_fence_is_safe : Value}
    {od_greatest_use an_greatest_use : Option Addr} {sl_greatest_use : Array (Option Value)} {oc_greatest_use kV_greatest_use dc_greatest_use pm_greatest_use cd_greatest_use ct_greatest_use : Value}
    {od__law_pool an__law_pool : Option Addr} {sl__law_pool : Array (Option Value)} {oc__law_pool kV__law_pool dc__law_pool pm__law_pool cd__law_pool ct__law_pool : Value}
    {od__law_take an__law_take : Option Addr} {sl__law_take : Array (Option Value)} {oc__law_take kV__law_take dc__law_take pm__law_take cd__law_take ct__law_take : Value}
    {od__law_pair an__law_pair : Option Addr} {sl__law_pair : Array (Option Value)} {oc__law_pair kV__law_pair dc__law_pair pm__law_pair cd__law_pair ct__law_pair : Value}
    {od__law_moved an__law_moved : Option Addr} {sl__law_moved : Array (Option Value)} {oc__law_moved kV__law_moved dc__law_moved pm__law_moved cd__law_moved ct__law_moved : Value}
    {od__law_is_safe an__law_is_safe : Option Addr} {sl__law_is_safe : Array (Option Value)} {oc__law_is_safe kV__law_is_safe dc__law_is_safe pm__law_is_safe cd__law_is_safe ct__law_is_safe : Value}
    {od__law_caught an__law_caught : Option Addr} {sl__law_caught : Array (Option Value)} {oc__law_caught kV__law_caught dc__law_caught pm__law_caught cd__law_caught ct__law_caught : Value}
    {od_law an_law : Option Addr} {sl_law : Array (Option Value)} {oc_law kV_law dc_law pm_law cd_law ct_law : Value}
    {t_MOST_BOUND : Tok}
    {nm_LeaseError qn_LeaseError : Str} {N_LeaseError : Addr} {bs_LeaseError sub_LeaseError : List Value} {sn_LeaseError : List Str} {ab_LeaseError : Bool} {col_LeaseError : Option Bool} {dd_LeaseError : Option Addr} {m0_LeaseError m1_LeaseError m2_LeaseError m3_LeaseError m5_LeaseError : Option Value}
    {nm_InvalidBounds qn_InvalidBounds : Str} {N_InvalidBounds : Addr} {bs_InvalidBounds sub_InvalidBounds : List Value} {sn_InvalidBounds : List Str} {ab_InvalidBounds : Bool} {col_InvalidBounds : Option Bool} {dd_InvalidBounds : Option Addr} {m0_InvalidBounds m1_InvalidBounds m2_InvalidBounds m3_InvalidBounds m5_InvalidBounds : Option Value}
    {odI anI cdd cld : Option Addr} {ocI dcI pmI ctI ccl cl : Value} {slI ccs csl : Array (Option Value)} {vsC : Array Value} {fileC : Str} {tfC : Tok}
    (a_is_integer : PySem.W.nsIn K mainGlobals "is_integer" = some (some (.ref f_is_integer)))
    (l_is_integer : K.lookup f_is_integer = some ⟨oc_is_integer, od_is_integer, .func (PySem.W.fnOf "is_integer" "is_integer" (defArgs st_is_integer) (defBody st_is_integer) (defScope st_is_integer) .none kV_is_integer dc_is_integer pm_is_integer an_is_integer cd_is_integer ct_is_integer), sl_is_integer⟩)
    (c_is_integer : PySem.W.codeIn K cd_is_integer "is_integer" = true)
    (k_is_integer : PySem.W.keepIn K (.ref f_is_integer) = true)
    (a_is_between : PySem.W.nsIn K mainGlobals "is_between" = some (some (.ref f_is_between)))
    (l_is_between : K.lookup f_is_between = some ⟨oc_is_between, od_is_between, .func (PySem.W.fnOf "is_between" "is_between" (defArgs st_is_between) (defBody st_is_between) (defScope st_is_between) .none kV_is_between dc_is_between pm_is_between an_is_between cd_is_between ct_is_between), sl_is_between⟩)
    (c_is_between : PySem.W.codeIn K cd_is_between "is_between" = true)
    (k_is_between : PySem.W.keepIn K (.ref f_is_between) = true)
    (a_is_tuple : PySem.W.nsIn K mainGlobals "is_tuple" = some (some (.ref f_is_tuple)))
    (l_is_tuple : K.lookup f_is_tuple = some ⟨oc_is_tuple, od_is_tuple, .func (PySem.W.fnOf "is_tuple" "is_tuple" (defArgs st_is_tuple) (defBody st_is_tuple) (defScope st_is_tuple) .none kV_is_tuple dc_is_tuple pm_is_tuple an_is_tuple cd_is_tuple ct_is_tuple), sl_is_tuple⟩)
    (c_is_tuple : PySem.W.codeIn K cd_is_tuple "is_tuple" = true)
    (k_is_tuple : PySem.W.keepIn K (.ref f_is_tuple) = true)
    (a_anew : PySem.W.nsIn K mainGlobals "anew" = some (some (.ref f_anew)))
    (l_anew : K.lookup f_anew = some ⟨oc_anew, od_anew, .func (PySem.W.fnOf "anew" "anew" (defArgs st_anew) (defBody st_anew) (defScope st_anew) .none kV_anew dc_anew pm_anew an_anew cd_anew ct_anew), sl_anew⟩)
    (c_anew : PySem.W.codeIn K cd_anew "anew" = true)
    (k_anew : PySem.W.keepIn K (.ref f_anew) = true)
    (a_product_of : PySem.W.nsIn K mainGlobals "product_of" = some (some (.ref f_product_of)))
    (l_product_of : K.lookup f_product_of = some ⟨oc_product_of, od_product_of, .func (PySem.W.fnOf "product_of" "product_of" (defArgs st_product_of) (defBody st_product_of) (defScope st_product_of) .none kV_product_of dc_product_of pm_product_of an_product_of cd_product_of ct_product_of), sl_product_of⟩)
    (c_product_of : PySem.W.codeIn K cd_product_of "product_of" = true)
    (k_product_of : PySem.W.keepIn K (.ref f_product_of) = true)
    (a_places_of : PySem.W.nsIn K mainGlobals "places_of" = some (some (.ref f_places_of)))
    (l_places_of : K.lookup f_places_of = some ⟨oc_places_of, od_places_of, .func (PySem.W.fnOf "places_of" "places_of" (defArgs st_places_of) (defBody st_places_of) (defScope st_places_of) .none kV_places_of dc_places_of pm_places_of an_places_of cd_places_of ct_places_of), sl_places_of⟩)
    (c_places_of : PySem.W.codeIn K cd_places_of "places_of" = true)
    (k_places_of : PySem.W.keepIn K (.ref f_places_of) = true)
    (a_goals_by : PySem.W.nsIn K mainGlobals "goals_by" = some (some (.ref f_goals_by)))
    (l_goals_by : K.lookup f_goals_by = some ⟨oc_goals_by, od_goals_by, .func (PySem.W.fnOf "goals_by" "goals_by" (defArgs st_goals_by) (defBody st_goals_by) (defScope st_goals_by) .none kV_goals_by dc_goals_by pm_goals_by an_goals_by cd_goals_by ct_goals_by), sl_goals_by⟩)
    (c_goals_by : PySem.W.codeIn K cd_goals_by "goals_by" = true)
    (k_goals_by : PySem.W.keepIn K (.ref f_goals_by) = true)
    (a_are_bounds : PySem.W.nsIn K mainGlobals "are_bounds" = some (some (.ref f_are_bounds)))
    (l_are_bounds : K.lookup f_are_bounds = some ⟨oc_are_bounds, od_are_bounds, .func (PySem.W.fnOf "are_bounds" "are_bounds" (defArgs st_are_bounds) (defBody st_are_bounds) (defScope st_are_bounds) .none kV_are_bounds dc_are_bounds pm_are_bounds an_are_bounds cd_are_bounds ct_are_bounds), sl_are_bounds⟩)
    (c_are_bounds : PySem.W.codeIn K cd_are_bounds "are_bounds" = true)
    (k_are_bounds : PySem.W.keepIn K (.ref f_are_bounds) = true)
    (a_need_bounds : PySem.W.nsIn K mainGlobals "need_bounds" = some (some (.ref f_need_bounds)))
    (l_need_bounds : K.lookup f_need_bounds = some ⟨oc_need_bounds, od_need_bounds, .func (PySem.W.fnOf "need_bounds" "need_bounds" (defArgs st_need_bounds) (defBody st_need_bounds) (defScope st_need_bounds) .none kV_need_bounds dc_need_bounds pm_need_bounds an_need_bounds cd_need_bounds ct_need_bounds), sl_need_bounds⟩)
    (c_need_bounds : PySem.W.codeIn K cd_need_bounds "need_bounds" = true)
    (k_need_bounds : PySem.W.keepIn K (.ref f_need_bounds) = true)
    (a_server_party : PySem.W.nsIn K mainGlobals "server_party" = some (some (.ref f_server_party)))
    (l_server_party : K.lookup f_server_party = some ⟨oc_server_party, od_server_party, .func (PySem.W.fnOf "server_party" "server_party" (defArgs st_server_party) (defBody st_server_party) (defScope st_server_party) .none kV_server_party dc_server_party pm_server_party an_server_party cd_server_party ct_server_party), sl_server_party⟩)
    (c_server_party : PySem.W.codeIn K cd_server_party "server_party" = true)
    (k_server_party : PySem.W.keepIn K (.ref f_server_party) = true)
    (a_holder_party : PySem.W.nsIn K mainGlobals "holder_party" = some (some (.ref f_holder_party)))
    (l_holder_party : K.lookup f_holder_party = some ⟨oc_holder_party, od_holder_party, .func (PySem.W.fnOf "holder_party" "holder_party" (defArgs st_holder_party) (defBody st_holder_party) (defScope st_holder_party) .none kV_holder_party dc_holder_party pm_holder_party an_holder_party cd_holder_party ct_holder_party), sl_holder_party⟩)
    (c_holder_party : PySem.W.codeIn K cd_holder_party "holder_party" = true)
    (k_holder_party : PySem.W.keepIn K (.ref f_holder_party) = true)
    (a_store_party : PySem.W.nsIn K mainGlobals "store_party" = some (some (.ref f_store_party)))
    (l_store_party : K.lookup f_store_party = some ⟨oc_store_party, od_store_party, .func (PySem.W.fnOf "store_party" "store_party" (defArgs st_store_party) (defBody st_store_party) (defScope st_store_party) .none kV_store_party dc_store_party pm_store_party an_store_party cd_store_party ct_store_party), sl_store_party⟩)
    (c_store_party : PySem.W.codeIn K cd_store_party "store_party" = true)
    (k_store_party : PySem.W.keepIn K (.ref f_store_party) = true)
    (a_team_by : PySem.W.nsIn K mainGlobals "team_by" = some (some (.ref f_team_by)))
    (l_team_by : K.lookup f_team_by = some ⟨oc_team_by, od_team_by, .func (PySem.W.fnOf "team_by" "team_by" (defArgs st_team_by) (defBody st_team_by) (defScope st_team_by) .none kV_team_by dc_team_by pm_team_by an_team_by cd_team_by ct_team_by), sl_team_by⟩)
    (c_team_by : PySem.W.codeIn K cd_team_by "team_by" = true)
    (k_team_by : PySem.W.keepIn K (.ref f_team_by) = true)
    (a_fence_team : PySem.W.nsIn K mainGlobals "fence_team" = some (some (.ref f_fence_team)))
    (l_fence_team : K.lookup f_fence_team = some ⟨oc_fence_team, od_fence_team, .func (PySem.W.fnOf "fence_team" "fence_team" (defArgs st_fence_team) (defBody st_fence_team) (defScope st_fence_team) .none kV_fence_team dc_fence_team pm_fence_team an_fence_team cd_fence_team ct_fence_team), sl_fence_team⟩)
    (c_fence_team : PySem.W.codeIn K cd_fence_team "fence_team" = true)
    (k_fence_team : PySem.W.keepIn K (.ref f_fence_team) = true)
    (a_fence_goals : PySem.W.nsIn K mainGlobals "fence_goals" = some (some (.ref f_fence_goals)))
    (l_fence_goals : K.lookup f_fence_goals = some ⟨oc_fence_goals, od_fence_goals, .func (PySem.W.fnOf "fence_goals" "fence_goals" (defArgs st_fence_goals) (defBody st_fence_goals) (defScope st_fence_goals) .none kV_fence_goals dc_fence_goals pm_fence_goals an_fence_goals cd_fence_goals ct_fence_goals), sl_fence_goals⟩)
    (c_fence_goals : PySem.W.codeIn K cd_fence_goals "fence_goals" = true)
    (k_fence_goals : PySem.W.keepIn K (.ref f_fence_goals) = true)
    (a_fence_is_safe : PySem.W.nsIn K mainGlobals "fence_is_safe" = some (some (.ref f_fence_is_safe)))
    (l_fence_is_safe : K.lookup f_fence_is_safe = some ⟨oc_fence_is_safe, od_fence_is_safe, .func (PySem.W.fnOf "fence_is_safe" "fence_is_safe" (defArgs st_fence_is_safe) (defBody st_fence_is_safe) (defScope st_fence_is_safe) .none kV_fence_is_safe dc_fence_is_safe pm_fence_is_safe an_fence_is_safe cd_fence_is_safe ct_fence_is_safe), sl_fence_is_safe⟩)
    (c_fence_is_safe : PySem.W.codeIn K cd_fence_is_safe "fence_is_safe" = true)
    (k_fence_is_safe : PySem.W.keepIn K (.ref f_fence_is_safe) = true)
    (a_greatest_use : PySem.W.nsIn K mainGlobals "greatest_use" = some (some (.ref f_greatest_use)))
    (l_greatest_use : K.lookup f_greatest_use = some ⟨oc_greatest_use, od_greatest_use, .func (PySem.W.fnOf "greatest_use" "greatest_use" (defArgs st_greatest_use) (defBody st_greatest_use) (defScope st_greatest_use) .none kV_greatest_use dc_greatest_use pm_greatest_use an_greatest_use cd_greatest_use ct_greatest_use), sl_greatest_use⟩)
    (c_greatest_use : PySem.W.codeIn K cd_greatest_use "greatest_use" = true)
    (k_greatest_use : PySem.W.keepIn K (.ref f_greatest_use) = true)
    (a__law_pool : PySem.W.nsIn K mainGlobals "_law_pool" = some (some (.ref f__law_pool)))
    (l__law_pool : K.lookup f__law_pool = some ⟨oc__law_pool, od__law_pool, .func (PySem.W.fnOf "_law_pool" "_law_pool" (defArgs st__law_pool) (defBody st__law_pool) (defScope st__law_pool) .none kV__law_pool dc__law_pool pm__law_pool an__law_pool cd__law_pool ct__law_pool), sl__law_pool⟩)
    (c__law_pool : PySem.W.codeIn K cd__law_pool "_law_pool" = true)
    (k__law_pool : PySem.W.keepIn K (.ref f__law_pool) = true)
    (a__law_take : PySem.W.nsIn K mainGlobals "_law_take" = some (some (.ref f__law_take)))
    (l__law_take : K.lookup f__law_take = some ⟨oc__law_take, od__law_take, .func (PySem.W.fnOf "_law_take" "_law_take" (defArgs st__law_take) (defBody st__law_take) (defScope st__law_take) .none kV__law_take dc__law_take pm__law_take an__law_take cd__law_take ct__law_take), sl__law_take⟩)
    (c__law_take : PySem.W.codeIn K cd__law_take "_law_take" = true)
    (k__law_take : PySem.W.keepIn K (.ref f__law_take) = true)
    (a__law_pair : PySem.W.nsIn K mainGlobals "_law_pair" = some (some (.ref f__law_pair)))
    (l__law_pair : K.lookup f__law_pair = some ⟨oc__law_pair, od__law_pair, .func (PySem.W.fnOf "_law_pair" "_law_pair" (defArgs st__law_pair) (defBody st__law_pair) (defScope st__law_pair) .none kV__law_pair dc__law_pair pm__law_pair an__law_pair cd__law_pair ct__law_pair), sl__law_pair⟩)
    (c__law_pair : PySem.W.codeIn K cd__law_pair "_law_pair" = true)
    (k__law_pair : PySem.W.keepIn K (.ref f__law_pair) = true)
    (a__law_moved : PySem.W.nsIn K mainGlobals "_law_moved" = some (some (.ref f__law_moved)))
    (l__law_moved : K.lookup f__law_moved = some ⟨oc__law_moved, od__law_moved, .func (PySem.W.fnOf "_law_moved" "_law_moved" (defArgs st__law_moved) (defBody st__law_moved) (defScope st__law_moved) .none kV__law_moved dc__law_moved pm__law_moved an__law_moved cd__law_moved ct__law_moved), sl__law_moved⟩)
    (c__law_moved : PySem.W.codeIn K cd__law_moved "_law_moved" = true)
    (k__law_moved : PySem.W.keepIn K (.ref f__law_moved) = true)
    (a__law_is_safe : PySem.W.nsIn K mainGlobals "_law_is_safe" = some (some (.ref f__law_is_safe)))
    (l__law_is_safe : K.lookup f__law_is_safe = some ⟨oc__law_is_safe, od__law_is_safe, .func (PySem.W.fnOf "_law_is_safe" "_law_is_safe" (defArgs st__law_is_safe) (defBody st__law_is_safe) (defScope st__law_is_safe) .none kV__law_is_safe dc__law_is_safe pm__law_is_safe an__law_is_safe cd__law_is_safe ct__law_is_safe), sl__law_is_safe⟩)
    (c__law_is_safe : PySem.W.codeIn K cd__law_is_safe "_law_is_safe" = true)
    (k__law_is_safe : PySem.W.keepIn K (.ref f__law_is_safe) = true)
    (a__law_caught : PySem.W.nsIn K mainGlobals "_law_caught" = some (some (.ref f__law_caught)))
    (l__law_caught : K.lookup f__law_caught = some ⟨oc__law_caught, od__law_caught, .func (PySem.W.fnOf "_law_caught" "_law_caught" (defArgs st__law_caught) (defBody st__law_caught) (defScope st__law_caught) .none kV__law_caught dc__law_caught pm__law_caught an__law_caught cd__law_caught ct__law_caught), sl__law_caught⟩)
    (c__law_caught : PySem.W.codeIn K cd__law_caught "_law_caught" = true)
    (k__law_caught : PySem.W.keepIn K (.ref f__law_caught) = true)
    (a_law : PySem.W.nsIn K mainGlobals "law" = some (some (.ref f_law)))
    (l_law : K.lookup f_law = some ⟨oc_law, od_law, .func (PySem.W.fnOf "law" "law" (defArgs st_law) (defBody st_law) (defScope st_law) .none kV_law dc_law pm_law an_law cd_law ct_law), sl_law⟩)
    (c_law : PySem.W.codeIn K cd_law "law" = true)
    (k_law : PySem.W.keepIn K (.ref f_law) = true)
    (b_abs : PySem.W.nsIn K mainGlobals "abs" = some none)
    (b_all : PySem.W.nsIn K mainGlobals "all" = some none)
    (b_bool : PySem.W.nsIn K mainGlobals "bool" = some none)
    (b_int : PySem.W.nsIn K mainGlobals "int" = some none)
    (b_isinstance : PySem.W.nsIn K mainGlobals "isinstance" = some none)
    (b_len : PySem.W.nsIn K mainGlobals "len" = some none)
    (b_list : PySem.W.nsIn K mainGlobals "list" = some none)
    (b_min : PySem.W.nsIn K mainGlobals "min" = some none)
    (b_range : PySem.W.nsIn K mainGlobals "range" = some none)
    (b_repr : PySem.W.nsIn K mainGlobals "repr" = some none)
    (b_tuple : PySem.W.nsIn K mainGlobals "tuple" = some none)
    (b_zip : PySem.W.nsIn K mainGlobals "zip" = some none)
    (v_MOST_BOUND : PySem.W.nsIn K mainGlobals "MOST_BOUND" = some (some (.int (60) t_MOST_BOUND)))
    (ca_LeaseError : PySem.W.nsIn K mainGlobals "LeaseError" = some (some (.ref C_LeaseError)))
    (cx_LeaseError : K.lookup C_LeaseError = some (excClassObj nm_LeaseError qn_LeaseError C_LeaseError N_LeaseError bs_LeaseError [.type "ValueError", .type "Exception", .type "BaseException", .type "object"] true sn_LeaseError sub_LeaseError ab_LeaseError col_LeaseError dd_LeaseError m0_LeaseError m1_LeaseError m2_LeaseError m3_LeaseError m5_LeaseError "ValueError.__new__"))
    (sa_LeaseError : PySem.W.findIn K (.ref C_LeaseError) "__setattr__" = some (some (.builtin "object.__setattr__")))
    (ga_LeaseError : PySem.W.findIn K (.ref C_LeaseError) "__getattribute__" = some (some (.builtin "BaseException.__getattribute__")))
    (gg_LeaseError : PySem.W.findIn K (.ref C_LeaseError) "__getattr__" = some none)
    (nb_LeaseError : PySem.W.findIn K (.ref C_LeaseError) "value" = some none)
    (iC_LeaseError : PySem.W.findIn K (.ref C_LeaseError) "__init__" = some (some (.ref fI)))
    (kC_LeaseError : PySem.W.keepIn K (.ref C_LeaseError) = true)
    (eC_LeaseError : PySem.W.subIn K (.ref C_LeaseError) (.type "BaseException") = some true)
    (tC_LeaseError : PySem.W.typeIn K (.ref C_LeaseError) = some (.type "type"))
    (hC_LeaseError : PySem.W.hasDictIn K C_LeaseError = true)
    (mD_LeaseError : PySem.W.mroIn K C_LeaseError (.ref C_LeaseError) = some true)
    (sI_LeaseError : PySem.W.ks_superIn K C_LeaseError C_LeaseError "__init__" = some (some (.builtin "ValueError.__init__")))
    (sV_LeaseError : PySem.W.subIn K (.ref C_LeaseError) (.type "ValueError") = some true)
    (sD_LeaseError : PySem.W.subIn K (.ref C_LeaseError) (.ref C_LeaseError) = some true)
    (cC_LeaseError : PySem.W.findIn K (.ref C_LeaseError) "__class__" = some (some (.builtin "object.__class__")))
    (mO_LeaseError : PySem.W.mroIn K C_LeaseError (.type "object") = some true)
    (ca_InvalidBounds : PySem.W.nsIn K mainGlobals "InvalidBounds" = some (some (.ref C_InvalidBounds)))
    (cx_InvalidBounds : K.lookup C_InvalidBounds = some (excClassObj nm_InvalidBounds qn_InvalidBounds C_InvalidBounds N_InvalidBounds bs_InvalidBounds [.ref C_LeaseError, .type "ValueError", .type "Exception", .type "BaseException", .type "object"] true sn_InvalidBounds sub_InvalidBounds ab_InvalidBounds col_InvalidBounds dd_InvalidBounds m0_InvalidBounds m1_InvalidBounds m2_InvalidBounds m3_InvalidBounds m5_InvalidBounds "ValueError.__new__"))
    (sa_InvalidBounds : PySem.W.findIn K (.ref C_InvalidBounds) "__setattr__" = some (some (.builtin "object.__setattr__")))
    (ga_InvalidBounds : PySem.W.findIn K (.ref C_InvalidBounds) "__getattribute__" = some (some (.builtin "BaseException.__getattribute__")))
    (gg_InvalidBounds : PySem.W.findIn K (.ref C_InvalidBounds) "__getattr__" = some none)
    (nb_InvalidBounds : PySem.W.findIn K (.ref C_InvalidBounds) "value" = some none)
    (iC_InvalidBounds : PySem.W.findIn K (.ref C_InvalidBounds) "__init__" = some (some (.ref fI)))
    (kC_InvalidBounds : PySem.W.keepIn K (.ref C_InvalidBounds) = true)
    (eC_InvalidBounds : PySem.W.subIn K (.ref C_InvalidBounds) (.type "BaseException") = some true)
    (tC_InvalidBounds : PySem.W.typeIn K (.ref C_InvalidBounds) = some (.type "type"))
    (hC_InvalidBounds : PySem.W.hasDictIn K C_InvalidBounds = true)
    (mD_InvalidBounds : PySem.W.mroIn K C_InvalidBounds (.ref C_LeaseError) = some true)
    (sI_InvalidBounds : PySem.W.ks_superIn K C_InvalidBounds C_LeaseError "__init__" = some (some (.builtin "ValueError.__init__")))
    (sV_InvalidBounds : PySem.W.subIn K (.ref C_InvalidBounds) (.type "ValueError") = some true)
    (sD_InvalidBounds : PySem.W.subIn K (.ref C_InvalidBounds) (.ref C_LeaseError) = some true)
    (cC_InvalidBounds : PySem.W.findIn K (.ref C_InvalidBounds) "__class__" = some (some (.builtin "object.__class__")))
    (mO_InvalidBounds : PySem.W.mroIn K C_InvalidBounds (.type "object") = some true)
    (tI : PySem.W.typeIn K (.ref fI) = some (.type "function"))
    (lI : K.lookup fI = some ⟨ocI, odI, .func (PySem.W.ksFn "__init__" "LeaseError.__init__" (PySem.LeX.iA pI.a pI.b) (PySem.LeX.iB pI) PySem.LeX.iS .none .none dcI pmI anI (.ref cda) ctI cc), slI⟩)
    (cI : PySem.W.codeIn K (.ref cda) "LeaseError.__init__" = true)
    (lc : K.lookup cda = some ⟨ccl, cdd, .fields vsC, ccs⟩)
    (vc : vsC[2]? = some (.str fileC tfC))
    (fc : ((PySem.Challenge.pw_leasesall_k57_fences.main.file : Str) == fileC) = true)
    (ll : K.lookup cc = some ⟨cl, cld, .cell (some (.ref C_LeaseError)), csl⟩)
    (isD : PySem.W.isClsIn K C_LeaseError = true)
    (nsu : PySem.W.nsIn K mainGlobals "super" = some none)
    (any : PySem.W.nsIn K cStatics "thirdparty.any" = some none)
    (gs : PySem.W.specialIn K (.builtin "object.__class__") "__get__" = some (some (.builtin "getset_descriptor.__get__")))
    (tk : PySem.W.takesIn K (.builtin "object.__class__") = some true)
    (kn_InvalidBounds : PySem.W.kitOne K (.type "NoneType") (.ref C_InvalidBounds) = some false)
    (kk_LeaseError_InvalidBounds : PySem.W.kitOne K (.ref C_LeaseError) (.ref C_InvalidBounds) = some false)
    (kk_InvalidBounds_InvalidBounds : PySem.W.kitOne K (.ref C_InvalidBounds) (.ref C_InvalidBounds) = some true)
    : ∃ fd : FuncData, (∀ (s : Shared) (u : Value), BindsTo s fd ⟨[u], []⟩ [("script", u)]) ∧ ∀ base : Heap, K.In base → base.Ns mainGlobals mg → FnOkG PySem.Challenge.pw_leasesall_k57_fences w K mg base (L2.CX PySem.Challenge.pw_leasesall_k57_fences w) 13 fa fd ["script"] (spLaw K) := by
  have e := hfa.symm.trans (PySem.W.mg_of X G a_law)
  cases e
  have F_is_integer := fun_mk (st := st_is_integer) l_is_integer c_is_integer k_is_integer
  have F_is_between := fun_mk (st := st_is_between) l_is_between c_is_between k_is_between
  have F_is_tuple := fun_mk (st := st_is_tuple) l_is_tuple c_is_tuple k_is_tuple
  have F_anew := fun_mk (st := st_anew) l_anew c_anew k_anew
  have F_product_of := fun_mk (st := st_product_of) l_product_of c_product_of k_product_of
  have F_places_of := fun_mk (st := st_places_of) l_places_of c_places_of k_places_of
  have F_goals_by := fun_mk (st := st_goals_by) l_goals_by c_goals_by k_goals_by
  have F_are_bounds := fun_mk (st := st_are_bounds) l_are_bounds c_are_bounds k_are_bounds
  have F_need_bounds := fun_mk (st := st_need_bounds) l_need_bounds c_need_bounds k_need_bounds
  have F_server_party := fun_mk (st := st_server_party) l_server_party c_server_party k_server_party
  have F_holder_party := fun_mk (st := st_holder_party) l_holder_party c_holder_party k_holder_party
  have F_store_party := fun_mk (st := st_store_party) l_store_party c_store_party k_store_party
  have F_team_by := fun_mk (st := st_team_by) l_team_by c_team_by k_team_by
  have F_fence_team := fun_mk (st := st_fence_team) l_fence_team c_fence_team k_fence_team
  have F_fence_goals := fun_mk (st := st_fence_goals) l_fence_goals c_fence_goals k_fence_goals
  have F_fence_is_safe := fun_mk (st := st_fence_is_safe) l_fence_is_safe c_fence_is_safe k_fence_is_safe
  have F_greatest_use := fun_mk (st := st_greatest_use) l_greatest_use c_greatest_use k_greatest_use
  have F__law_pool := fun_mk (st := st__law_pool) l__law_pool c__law_pool k__law_pool
  have F__law_take := fun_mk (st := st__law_take) l__law_take c__law_take k__law_take
  have F__law_pair := fun_mk (st := st__law_pair) l__law_pair c__law_pair k__law_pair
  have F__law_moved := fun_mk (st := st__law_moved) l__law_moved c__law_moved k__law_moved
  have F__law_is_safe := fun_mk (st := st__law_is_safe) l__law_is_safe c__law_is_safe k__law_is_safe
  have F__law_caught := fun_mk (st := st__law_caught) l__law_caught c__law_caught k__law_caught
  have F_law := fun_mk (st := st_law) l_law c_law k_law
  have lc_LeaseError : PySem.LeX.LcTxt K C_LeaseError fI C_LeaseError := { cls := ⟨nm_LeaseError, qn_LeaseError, N_LeaseError, bs_LeaseError, _, sn_LeaseError, sub_LeaseError, ab_LeaseError, col_LeaseError, dd_LeaseError, m0_LeaseError, m1_LeaseError, m2_LeaseError, m3_LeaseError, m5_LeaseError, cx_LeaseError, by first | rfl | decide +kernel⟩, sa := sa_LeaseError, ga := ga_LeaseError, gg := gg_LeaseError, noN := nb_LeaseError, iC := iC_LeaseError, tC := tI, kC := kC_LeaseError, exC := eC_LeaseError, tyC := tC_LeaseError, hdC := hC_LeaseError, suD := mD_LeaseError, suI := sI_LeaseError, suV := sV_LeaseError }
  have xc_LeaseError : ExcC K C_LeaseError := ⟨ga_LeaseError, gg_LeaseError, eC_LeaseError, hC_LeaseError, cC_LeaseError, gs, tk, mO_LeaseError⟩
  have xf_LeaseError : XfC K C_LeaseError := ⟨ga_LeaseError, gg_LeaseError, eC_LeaseError, hC_LeaseError⟩
  have g_LeaseError := PySem.W.mg_of X G ca_LeaseError
  have lc_InvalidBounds : PySem.LeX.LcTxt K C_LeaseError fI C_InvalidBounds := { cls := ⟨nm_InvalidBounds, qn_InvalidBounds, N_InvalidBounds, bs_InvalidBounds, _, sn_InvalidBounds, sub_InvalidBounds, ab_InvalidBounds, col_InvalidBounds, dd_InvalidBounds, m0_InvalidBounds, m1_InvalidBounds, m2_InvalidBounds, m3_InvalidBounds, m5_InvalidBounds, cx_InvalidBounds, by first | rfl | decide +kernel⟩, sa := sa_InvalidBounds, ga := ga_InvalidBounds, gg := gg_InvalidBounds, noN := nb_InvalidBounds, iC := iC_InvalidBounds, tC := tI, kC := kC_InvalidBounds, exC := eC_InvalidBounds, tyC := tC_InvalidBounds, hdC := hC_InvalidBounds, suD := mD_InvalidBounds, suI := sI_InvalidBounds, suV := sV_InvalidBounds }
  have xc_InvalidBounds : ExcC K C_InvalidBounds := ⟨ga_InvalidBounds, gg_InvalidBounds, eC_InvalidBounds, hC_InvalidBounds, cC_InvalidBounds, gs, tk, mO_InvalidBounds⟩
  have xf_InvalidBounds : XfC K C_InvalidBounds := ⟨ga_InvalidBounds, gg_InvalidBounds, eC_InvalidBounds, hC_InvalidBounds⟩
  have g_InvalidBounds := PySem.W.mg_of X G ca_InvalidBounds
  have byCls : ∀ (Φ : Str → Addr → Prop), Φ "LeaseError" C_LeaseError ∧ Φ "InvalidBounds" C_InvalidBounds → ∀ (y : Str) (C : Addr), isCls y = true → mg y = some (.ref C) → Φ y C := fun Φ h y C hy hC => by
    have hy2 : y ∈ clsNs := by simpa [isCls] using hy
    simp only [clsNs, List.mem_cons, List.not_mem_nil, or_false] at hy2
    obtain ⟨h_LeaseError, h_InvalidBounds⟩ := h
    rcases hy2 with rfl | rfl
    · have e := hC.symm.trans g_LeaseError; cases e; exact h_LeaseError
    · have e := hC.symm.trans g_InvalidBounds; cases e; exact h_InvalidBounds
  have T : Txt PySem.Challenge.pw_leasesall_k57_fences K mg ⟨fI, C_LeaseError, C_InvalidBounds, f_is_integer, f_is_between, f_is_tuple, f_anew, f_product_of, f_places_of, f_goals_by, f_are_bounds, f_need_bounds, f_server_party, f_holder_party, f_store_party, f_team_by, f_fence_team, f_fence_goals, f_fence_is_safe, f_greatest_use, f__law_pool, f__law_take, f__law_pair, f__law_moved, f__law_is_safe, f__law_caught, fa⟩ ⟨_, _, _, _, _, _, _, _, _, _, _, _, _, _, _, _, _, _, _, _, _, _, _, _⟩ := {
    f_is_integer := F_is_integer, g_is_integer := PySem.W.mg_of X G a_is_integer,
    f_is_between := F_is_between, g_is_between := PySem.W.mg_of X G a_is_between,
    f_is_tuple := F_is_tuple, g_is_tuple := PySem.W.mg_of X G a_is_tuple,
    f_anew := F_anew, g_anew := PySem.W.mg_of X G a_anew,
    f_product_of := F_product_of, g_product_of := PySem.W.mg_of X G a_product_of,
    f_places_of := F_places_of, g_places_of := PySem.W.mg_of X G a_places_of,
    f_goals_by := F_goals_by, g_goals_by := PySem.W.mg_of X G a_goals_by,
    f_are_bounds := F_are_bounds, g_are_bounds := PySem.W.mg_of X G a_are_bounds,
    f_need_bounds := F_need_bounds, g_need_bounds := PySem.W.mg_of X G a_need_bounds,
    f_server_party := F_server_party, g_server_party := PySem.W.mg_of X G a_server_party,
    f_holder_party := F_holder_party, g_holder_party := PySem.W.mg_of X G a_holder_party,
    f_store_party := F_store_party, g_store_party := PySem.W.mg_of X G a_store_party,
    f_team_by := F_team_by, g_team_by := PySem.W.mg_of X G a_team_by,
    f_fence_team := F_fence_team, g_fence_team := PySem.W.mg_of X G a_fence_team,
    f_fence_goals := F_fence_goals, g_fence_goals := PySem.W.mg_of X G a_fence_goals,
    f_fence_is_safe := F_fence_is_safe, g_fence_is_safe := PySem.W.mg_of X G a_fence_is_safe,
    f_greatest_use := F_greatest_use, g_greatest_use := PySem.W.mg_of X G a_greatest_use,
    f__law_pool := F__law_pool, g__law_pool := PySem.W.mg_of X G a__law_pool,
    f__law_take := F__law_take, g__law_take := PySem.W.mg_of X G a__law_take,
    f__law_pair := F__law_pair, g__law_pair := PySem.W.mg_of X G a__law_pair,
    f__law_moved := F__law_moved, g__law_moved := PySem.W.mg_of X G a__law_moved,
    f__law_is_safe := F__law_is_safe, g__law_is_safe := PySem.W.mg_of X G a__law_is_safe,
    f__law_caught := F__law_caught, g__law_caught := PySem.W.mg_of X G a__law_caught,
    f_law := F_law, g_law := PySem.W.mg_of X G a_law,
    b_abs := PySem.W.mg_none_of X G b_abs,
    b_all := PySem.W.mg_none_of X G b_all,
    b_bool := PySem.W.mg_none_of X G b_bool,
    b_int := PySem.W.mg_none_of X G b_int,
    b_isinstance := PySem.W.mg_none_of X G b_isinstance,
    b_len := PySem.W.mg_none_of X G b_len,
    b_list := PySem.W.mg_none_of X G b_list,
    b_min := PySem.W.mg_none_of X G b_min,
    b_range := PySem.W.mg_none_of X G b_range,
    b_repr := PySem.W.mg_none_of X G b_repr,
    b_tuple := PySem.W.mg_none_of X G b_tuple,
    b_zip := PySem.W.mg_none_of X G b_zip,
    c_MOST_BOUND := ⟨_, PySem.W.mg_of X G v_MOST_BOUND⟩,
    le := { fn := ⟨cc, cda, _, _, _, _, _, _, _, pI, lI, cI, ⟨_, _, _, _, _, _, lc, vc, fc⟩, _, _, _, ll⟩, isD := isD, sup := PySem.W.mg_none_of X G nsu, any := any, top := by decide +kernel },
    lc_LeaseError := lc_LeaseError, k_LeaseError := g_LeaseError,
    lc_InvalidBounds := lc_InvalidBounds, k_InvalidBounds := g_InvalidBounds,
    nn_InvalidBounds := fun d b hb => (by cases d <;> first | (cases hb; exact kn_InvalidBounds) | cases hb),
    ie_InvalidBounds := fun y b C hb hC => (by
        unfold isEx at hb
        split at hb
        · rename_i hy
          cases hb
          exact byCls (fun y C => ExcC K C ∧ PySem.W.kitOne K (.ref C) (.ref C_InvalidBounds) = some (("InvalidBounds" : Str) == y || ("InvalidBounds" : Str) == ("LeaseError" : Str))) ⟨⟨xc_LeaseError, kk_LeaseError_InvalidBounds⟩, ⟨xc_InvalidBounds, kk_InvalidBounds_InvalidBounds⟩⟩ y C hy hC
        · cases hb),
    caOk := fun y b C hb hC => (by
        unfold isCls2 at hb
        split at hb
        · rename_i hy
          cases hb
          exact byCls (fun y C => PySem.W.exmOne K (.ref C) (.ref C_LeaseError) = some true) ⟨PySem.W.exm_ref eC_LeaseError hC_LeaseError tC_LeaseError sD_LeaseError, PySem.W.exm_ref eC_LeaseError hC_LeaseError tC_LeaseError sD_InvalidBounds⟩ y C hy hC
        · cases hb),
    valOk := fun y C hy hC => byCls (fun y C => XfC K C ∧ PySem.W.findIn K (.ref C) "value" = some none) ⟨⟨xf_LeaseError, nb_LeaseError⟩, ⟨xf_InvalidBounds, nb_InvalidBounds⟩⟩ y C hy hC }
  exact ⟨_, fun s u => .of_eq rfl, fun base _ _ => (ok_law T).imp spLaw_imp⟩
end LK
open PySem PySem.W PyProof.Rows in
set_option maxRecDepth 100000 in
set_option maxHeartbeats 0 in
theorem PySem.Challenge.cw_leasesall_k57_fences_holds : PySem.Challenge.rw_leasesall_k57_fences.Holds := by
  w_on; o_law; k_head; (case hw => w_witness2)
  k_fill
  refine LK.walk (l := PySem.Challenge.rw_leasesall_k57_fences) rfl rfl (fun w h Y => PySem.W.kIn_of Y) ?F
  case F =>
    intro w mg fa h KX G hmg
    refine' LK.all_mk KX G hmg ⟨⟨4, 17, 4, 21⟩, ⟨4, 23, 4, 28⟩, ⟨5, 8, 5, 13⟩, ⟨5, 8, 5, 15⟩, ⟨5, 8, 5, 24⟩, ⟨5, 25, 5, 36⟩, ⟨5, 8, 5, 37⟩, ⟨5, 8, 5, 37⟩, ⟨6, 8, 6, 12⟩, ⟨6, 8, 6, 18⟩, ⟨6, 21, 6, 26⟩, ⟨6, 8, 6, 26⟩, by decide⟩ ?a_is_integer ?l_is_integer ?c_is_integer ?k_is_integer ?a_is_between ?l_is_between ?c_is_between ?k_is_between ?a_is_tuple ?l_is_tuple ?c_is_tuple ?k_is_tuple ?a_anew ?l_anew ?c_anew ?k_anew ?a_product_of ?l_product_of ?c_product_of ?k_product_of ?a_places_of ?l_places_of ?c_places_of ?k_places_of ?a_goals_by ?l_goals_by ?c_goals_by ?k_goals_by ?a_are_bounds ?l_are_bounds ?c_are_bounds ?k_are_bounds ?a_need_bounds ?l_need_bounds ?c_need_bounds ?k_need_bounds ?a_server_party ?l_server_party ?c_server_party ?k_server_party ?a_holder_party ?l_holder_party ?c_holder_party ?k_holder_party ?a_store_party ?l_store_party ?c_store_party ?k_store_party ?a_team_by ?l_team_by ?c_team_by ?k_team_by ?a_fence_team ?l_fence_team ?c_fence_team ?k_fence_team ?a_fence_goals ?l_fence_goals ?c_fence_goals ?k_fence_goals ?a_fence_is_safe ?l_fence_is_safe ?c_fence_is_safe ?k_fence_is_safe ?a_greatest_use ?l_greatest_use ?c_greatest_use ?k_greatest_use ?a__law_pool ?l__law_pool ?c__law_pool ?k__law_pool ?a__law_take ?l__law_take ?c__law_take ?k__law_take ?a__law_pair ?l__law_pair ?c__law_pair ?k__law_pair ?a__law_moved ?l__law_moved ?c__law_moved ?k__law_moved ?a__law_is_safe ?l__law_is_safe ?c__law_is_safe ?k__law_is_safe ?a__law_caught ?l__law_caught ?c__law_caught ?k__law_caught ?a_law ?l_law ?c_law ?k_law ?b_abs ?b_all ?b_bool ?b_int ?b_isinstance ?b_len ?b_list ?b_min ?b_range ?b_repr ?b_tuple ?b_zip ?v_MOST_BOUND ?ca_LeaseError ?cx_LeaseError ?sa_LeaseError ?ga_LeaseError ?gg_LeaseError ?nb_LeaseError ?iC_LeaseError ?kC_LeaseError ?eC_LeaseError ?tC_LeaseError ?hC_LeaseError ?mD_LeaseError ?sI_LeaseError ?sV_LeaseError ?sD_LeaseError ?cC_LeaseError ?mO_LeaseError ?ca_InvalidBounds ?cx_InvalidBounds ?sa_InvalidBounds ?ga_InvalidBounds ?gg_InvalidBounds ?nb_InvalidBounds ?iC_InvalidBounds ?kC_InvalidBounds ?eC_InvalidBounds ?tC_InvalidBounds ?hC_InvalidBounds ?mD_InvalidBounds ?sI_InvalidBounds ?sV_InvalidBounds ?sD_InvalidBounds ?cC_InvalidBounds ?mO_InvalidBounds ?tI ?lI ?cI ?lc ?vc ?fc ?ll ?isD ?nsu ?any ?gs ?tk ?kn_InvalidBounds ?kk_LeaseError_InvalidBounds ?kk_InvalidBounds_InvalidBounds
    (case a_is_integer => k_is)
    (case l_is_integer => k_is)
    (case c_is_integer => k_is)
    (case k_is_integer => k_is)
    (case a_is_between => k_is)
    (case l_is_between => k_is)
    (case c_is_between => k_is)
    (case k_is_between => k_is)
    (case a_is_tuple => k_is)
    (case l_is_tuple => k_is)
    (case c_is_tuple => k_is)
    (case k_is_tuple => k_is)
    (case a_anew => k_is)
    (case l_anew => k_is)
    (case c_anew => k_is)
    (case k_anew => k_is)
    (case a_product_of => k_is)
    (case l_product_of => k_is)
    (case c_product_of => k_is)
    (case k_product_of => k_is)
    (case a_places_of => k_is)
    (case l_places_of => k_is)
    (case c_places_of => k_is)
    (case k_places_of => k_is)
    (case a_goals_by => k_is)
    (case l_goals_by => k_is)
    (case c_goals_by => k_is)
    (case k_goals_by => k_is)
    (case a_are_bounds => k_is)
    (case l_are_bounds => k_is)
    (case c_are_bounds => k_is)
    (case k_are_bounds => k_is)
    (case a_need_bounds => k_is)
    (case l_need_bounds => k_is)
    (case c_need_bounds => k_is)
    (case k_need_bounds => k_is)
    (case a_server_party => k_is)
    (case l_server_party => k_is)
    (case c_server_party => k_is)
    (case k_server_party => k_is)
    (case a_holder_party => k_is)
    (case l_holder_party => k_is)
    (case c_holder_party => k_is)
    (case k_holder_party => k_is)
    (case a_store_party => k_is)
    (case l_store_party => k_is)
    (case c_store_party => k_is)
    (case k_store_party => k_is)
    (case a_team_by => k_is)
    (case l_team_by => k_is)
    (case c_team_by => k_is)
    (case k_team_by => k_is)
    (case a_fence_team => k_is)
    (case l_fence_team => k_is)
    (case c_fence_team => k_is)
    (case k_fence_team => k_is)
    (case a_fence_goals => k_is)
    (case l_fence_goals => k_is)
    (case c_fence_goals => k_is)
    (case k_fence_goals => k_is)
    (case a_fence_is_safe => k_is)
    (case l_fence_is_safe => k_is)
    (case c_fence_is_safe => k_is)
    (case k_fence_is_safe => k_is)
    (case a_greatest_use => k_is)
    (case l_greatest_use => k_is)
    (case c_greatest_use => k_is)
    (case k_greatest_use => k_is)
    (case a__law_pool => k_is)
    (case l__law_pool => k_is)
    (case c__law_pool => k_is)
    (case k__law_pool => k_is)
    (case a__law_take => k_is)
    (case l__law_take => k_is)
    (case c__law_take => k_is)
    (case k__law_take => k_is)
    (case a__law_pair => k_is)
    (case l__law_pair => k_is)
    (case c__law_pair => k_is)
    (case k__law_pair => k_is)
    (case a__law_moved => k_is)
    (case l__law_moved => k_is)
    (case c__law_moved => k_is)
    (case k__law_moved => k_is)
    (case a__law_is_safe => k_is)
    (case l__law_is_safe => k_is)
    (case c__law_is_safe => k_is)
    (case k__law_is_safe => k_is)
    (case a__law_caught => k_is)
    (case l__law_caught => k_is)
    (case c__law_caught => k_is)
    (case k__law_caught => k_is)
    (case a_law => k_is)
    (case l_law => k_is)
    (case c_law => k_is)
    (case k_law => k_is)
    (case b_abs => k_is)
    (case b_all => k_is)
    (case b_bool => k_is)
    (case b_int => k_is)
    (case b_isinstance => k_is)
    (case b_len => k_is)
    (case b_list => k_is)
    (case b_min => k_is)
    (case b_range => k_is)
    (case b_repr => k_is)
    (case b_tuple => k_is)
    (case b_zip => k_is)
    (case v_MOST_BOUND => k_is)
    (case ca_LeaseError => k_is)
    (case cx_LeaseError => k_is)
    (case sa_LeaseError => k_is)
    (case ga_LeaseError => k_is)
    (case gg_LeaseError => k_is)
    (case nb_LeaseError => k_is)
    (case iC_LeaseError => k_is)
    (case kC_LeaseError => k_is)
    (case eC_LeaseError => k_is)
    (case tC_LeaseError => k_is)
    (case hC_LeaseError => k_is)
    (case mD_LeaseError => k_is)
    (case sI_LeaseError => ks_is)
    (case sV_LeaseError => k_is)
    (case sD_LeaseError => first | rfl | k_is)
    (case cC_LeaseError => k_is)
    (case mO_LeaseError => k_is)
    (case ca_InvalidBounds => k_is)
    (case cx_InvalidBounds => k_is)
    (case sa_InvalidBounds => k_is)
    (case ga_InvalidBounds => k_is)
    (case gg_InvalidBounds => k_is)
    (case nb_InvalidBounds => k_is)
    (case iC_InvalidBounds => k_is)
    (case kC_InvalidBounds => k_is)
    (case eC_InvalidBounds => k_is)
    (case tC_InvalidBounds => k_is)
    (case hC_InvalidBounds => k_is)
    (case mD_InvalidBounds => k_is)
    (case sI_InvalidBounds => ks_is)
    (case sV_InvalidBounds => k_is)
    (case sD_InvalidBounds => k_is)
    (case cC_InvalidBounds => k_is)
    (case mO_InvalidBounds => k_is)
    (case tI => k_is)
    (case lI => k_is)
    (case cI => k_is)
    (case lc => k_is)
    (case vc => first | rfl | decide +kernel)
    (case fc => first | rfl | decide +kernel)
    (case ll => k_is)
    (case isD => k_is)
    (case nsu => k_is)
    (case any => k_is)
    (case gs => k_is)
    (case tk => k_is)
    (case kn_InvalidBounds => kit_is)
    (case kk_LeaseError_InvalidBounds => kit_is)
    (case kk_InvalidBounds_InvalidBounds => kit_is)

