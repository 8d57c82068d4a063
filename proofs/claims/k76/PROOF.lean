import PyProof.Rows.All
import Wide.All
import OpenK.AllK
import Wide.FinOn
import HandS.ForMost
import HandS.Defaults
import HandS.Wide
import KE.DataCmp
import KE.DataEq
import KE.DataAny
import KE.DataMinMax
import KE.DataIsa
import KE.SortData
import PyProof.ReprRoads
import HandS.IsInst
import HandS.Zip
import HandS.RevRange
import HandS.TupAny
import HandS.Style
import HandS.Text
import KE.KxIndex
import HandS.Ends
import HandS.Dict
import HandS.List
import HandS.SortRule
import HandS.DictTup
import KE.KDictPairs
import HandS.Comp
import HandS.MakeKwOnly
import HandS.Words
import HandS.WordsExc
import PyProof.LongRange
import PyProof.SumWalkG
import HandS.SortKw
import PyProof.ReprBulk
import HandS.HeadHook2
import KE.KStateDown
import Lean
import HandS.Base
import HandS.Call
import HandS.More
import HandS.Head0
import HandS.Head1
import HandS.Head2
import HandS.HeadEnd
import HandS.HeadHook1
import HandS.HeadHook3
import HandS.HeadHook4
import PySem.Challenge.RW_hintedpoints_k76_middles_within
set_option Elab.async false
set_option linter.all false
set_option maxRecDepth 100000
set_option maxHeartbeats 200000
/-! Lay1: data above the hand layer. D: what a value is as a tree; Rep: the value v is the tree d, by what is frozen in H;
Ab: the abstract heap H holds the frozen part Hb and, apart from it, the cells of the store S. -/
namespace DL
open PySem PySem.Spec PyProof.Rows L2

inductive D where
  | non | bl (b : Bool) | int (i : Int) | str (x : Str) | ref (a : Addr) | ty (n : String)
  | lst (xs : List D) | tup (xs : List D)
  /-- a list that is read alone (the script) -/
  | rol (xs : List D)
  /-- a tuple that the module holds -/
  | rot (xs : List D)

mutual
def Rep (K : PySem.W.Frag) (H : Hp) : D → V → Prop
  | .non, v => v = .non
  | .bl b, v => v = .bl b
  | .int i, v => v = .int i
  | .str x, v => v = .str x
  | .ref a, v => v = .ref a
  | .ty n, v => v = .ty n
  | .lst ds, v => ∃ a vs, v = .ref a ∧ H a = some (.lst vs) ∧ RepAll K H ds vs
  | .rol ds, v => ∃ a vs, v = .ref a ∧ SqL K H a vs ∧ RepAll K H ds vs
  | .rot ds, v => ∃ a vs, v = .ref a ∧ SqT K H a vs ∧ RepAll K H ds vs
  | .tup ds, v => ∃ a vs, v = .ref a ∧ H a = some (.tup vs) ∧ RepAll K H ds vs
def RepAll (K : PySem.W.Frag) (H : Hp) : List D → List V → Prop
  | [], vs => vs = []
  | d :: ds, vs => ∃ v r, vs = v :: r ∧ Rep K H d v ∧ RepAll K H ds r
end

variable {K : PySem.W.Frag} {H H' Hb Hb' : Hp}

abbrev Sub (H H' : Hp) : Prop := Same H H'

theorem seqT_sub {a : Addr} {xs : List V} (e : Sub H H') (h : SqT K H a xs) : SqT K H' a xs := by
  rcases h with (h | ⟨o, h⟩) | h
  · exact .inl (.inl (e _ _ h))
  · exact .inl (.inr ⟨o, e _ _ h⟩)
  · exact .inr h
mutual
theorem Rep.sub (e : Sub H H') : ∀ {d : D} {v : V}, Rep K H d v → Rep K H' d v
  | .non, _, h => h
  | .bl _, _, h => h
  | .int _, _, h => h
  | .str _, _, h => h
  | .ref _, _, h => h
  | .ty _, _, h => h
  | .lst ds, v, h => by
    simp only [Rep] at h ⊢
    obtain ⟨a, vs, rfl, hs, hr⟩ := h
    exact ⟨a, vs, rfl, e _ _ hs, RepAll.sub e hr⟩
  | .rol ds, v, h => by
    simp only [Rep] at h ⊢
    obtain ⟨a, vs, rfl, hs, hr⟩ := h
    exact ⟨a, vs, rfl, e.seq hs, RepAll.sub e hr⟩
  | .rot ds, v, h => by
    simp only [Rep] at h ⊢
    obtain ⟨a, vs, rfl, hs, hr⟩ := h
    exact ⟨a, vs, rfl, seqT_sub e hs, RepAll.sub e hr⟩
  | .tup ds, v, h => by
    simp only [Rep] at h ⊢
    obtain ⟨a, vs, rfl, hs, hr⟩ := h
    exact ⟨a, vs, rfl, e _ _ hs, RepAll.sub e hr⟩
theorem RepAll.sub (e : Sub H H') : ∀ {ds : List D} {vs : List V}, RepAll K H ds vs → RepAll K H' ds vs
  | [], _, h => h
  | d :: ds, vs, h => by
    simp only [RepAll] at h ⊢
    obtain ⟨v, r, rfl, h1, h2⟩ := h
    exact ⟨v, r, rfl, Rep.sub e h1, RepAll.sub e h2⟩
end
theorem RepAll.length : ∀ {ds : List D} {vs : List V}, RepAll K H ds vs → vs.length = ds.length
  | [], _, h => by
    simp only [RepAll] at h
    subst h
    rfl
  | d :: ds, vs, h => by
    simp only [RepAll] at h
    obtain ⟨v, r, rfl, _, h2⟩ := h
    simp only [List.length_cons, RepAll.length h2]
theorem RepAll.get : ∀ {ds : List D} {vs : List V}, RepAll K H ds vs → ∀ {i : Nat} {d : D}, ds[i]? = some d → ∃ v, vs[i]? = some v ∧ Rep K H d v
  | [], _, _, _, _, e => by simp at e
  | d :: ds, vs, h, i, x, e => by
    simp only [RepAll] at h
    obtain ⟨v, r, rfl, h1, h2⟩ := h
    cases i with
    | zero =>
      simp only [List.getElem?_cons_zero, Option.some.injEq] at e
      subst e
      exact ⟨v, rfl, h1⟩
    | succ i =>
      simp only [List.getElem?_cons_succ] at e ⊢
      exact RepAll.get h2 e
theorem RepAll.get' {ds : List D} {vs : List V} (h : RepAll K H ds vs) {i : Nat} {v : V} (e : vs[i]? = some v) : ∃ d, ds[i]? = some d ∧ Rep K H d v := by
  have hi : i < vs.length := (List.getElem?_eq_some_iff.mp e).1
  have hi' : i < ds.length := by rw [← h.length]; exact hi
  obtain ⟨v', e', r⟩ := h.get (List.getElem?_eq_getElem hi')
  rw [e] at e'
  cases e'
  exact ⟨_, List.getElem?_eq_getElem hi', r⟩
theorem RepAll.append : ∀ {ds es : List D} {vs us : List V}, RepAll K H ds vs → RepAll K H es us → RepAll K H (ds ++ es) (vs ++ us)
  | [], _, _, _, h, g => by
    simp only [RepAll] at h
    subst h
    exact g
  | d :: ds, es, vs, us, h, g => by
    simp only [RepAll] at h
    obtain ⟨v, r, rfl, h1, h2⟩ := h
    simp only [List.cons_append, RepAll]
    exact ⟨v, r ++ us, rfl, h1, RepAll.append h2 g⟩
theorem RepAll.nil : RepAll K H [] [] := by simp only [RepAll]
theorem RepAll.cons {d : D} {ds : List D} {v : V} {vs : List V} (h : Rep K H d v) (g : RepAll K H ds vs) : RepAll K H (d :: ds) (v :: vs) := by
  simp only [RepAll]
  exact ⟨v, vs, rfl, h, g⟩
theorem RepAll.one {d : D} {v : V} (h : Rep K H d v) : RepAll K H [d] [v] := .cons h .nil
theorem RepAll.take : ∀ {ds : List D} {vs : List V} (n : Nat), RepAll K H ds vs → RepAll K H (ds.take n) (vs.take n)
  | _, _, 0, _ => by simp only [List.take_zero]; exact .nil
  | [], _, n + 1, h => by
    simp only [RepAll] at h
    subst h
    simp only [List.take_nil]
    exact .nil
  | d :: ds, vs, n + 1, h => by
    simp only [RepAll] at h
    obtain ⟨v, r, rfl, h1, h2⟩ := h
    simp only [List.take_succ_cons]
    exact .cons h1 (RepAll.take n h2)
theorem RepAll.drop : ∀ {ds : List D} {vs : List V} (n : Nat), RepAll K H ds vs → RepAll K H (ds.drop n) (vs.drop n)
  | _, _, 0, h => by simpa only [List.drop_zero] using h
  | [], _, n + 1, h => by
    simp only [RepAll] at h
    subst h
    simp only [List.drop_nil]
    exact .nil
  | d :: ds, vs, n + 1, h => by
    simp only [RepAll] at h
    obtain ⟨v, r, rfl, h1, h2⟩ := h
    simp only [List.drop_succ_cons]
    exact RepAll.drop n h2
theorem RepAll.set : ∀ {ds : List D} {vs : List V} {d : D} {v : V}, RepAll K H ds vs → Rep K H d v → ∀ i, RepAll K H (ds.set i d) (vs.set i v)
  | [], _, _, _, h, _, i => by
    simp only [RepAll] at h
    subst h
    simp only [List.set_nil]
    exact .nil
  | e :: ds, vs, d, v, h, g, i => by
    simp only [RepAll] at h
    obtain ⟨u, r, rfl, h1, h2⟩ := h
    cases i with
    | zero =>
      simp only [List.set_cons_zero]
      exact .cons g h2
    | succ i =>
      simp only [List.set_cons_succ]
      exact .cons h1 (RepAll.set h2 g i)
theorem RepAll.reverse : ∀ {ds : List D} {vs : List V}, RepAll K H ds vs → RepAll K H ds.reverse vs.reverse
  | [], _, h => by
    simp only [RepAll] at h
    subst h
    exact .nil
  | d :: ds, vs, h => by
    simp only [RepAll] at h
    obtain ⟨v, r, rfl, h1, h2⟩ := h
    simp only [List.reverse_cons]
    exact (RepAll.reverse h2).append (.one h1)
theorem RepAll.mem : ∀ {ds : List D} {vs : List V}, RepAll K H ds vs → ∀ d ∈ ds, ∃ v ∈ vs, Rep K H d v
  | [], _, _, _, h => by simp at h
  | d :: ds, vs, h, x, hx => by
    simp only [RepAll] at h
    obtain ⟨v, r, rfl, h1, h2⟩ := h
    rcases List.mem_cons.mp hx with rfl | hx
    · exact ⟨v, by simp, h1⟩
    · obtain ⟨u, hu, hr⟩ := RepAll.mem h2 x hx
      exact ⟨u, by simp [hu], hr⟩
theorem RepAll.ints : ∀ {ns : List Int} {vs : List V}, RepAll K H (ns.map D.int) vs → vs = ns.map V.int
  | [], _, h => by simpa only [RepAll, List.map_nil] using h
  | n :: ns, vs, h => by
    simp only [List.map_cons, RepAll, Rep] at h
    obtain ⟨v, r, rfl, rfl, h2⟩ := h
    rw [RepAll.ints h2]
    rfl
theorem RepAll.bls : ∀ {ns : List Bool} {vs : List V}, RepAll K H (ns.map D.bl) vs → vs = ns.map V.bl
  | [], _, h => by simpa only [RepAll, List.map_nil] using h
  | n :: ns, vs, h => by
    simp only [List.map_cons, RepAll, Rep] at h
    obtain ⟨v, r, rfl, rfl, h2⟩ := h
    rw [RepAll.bls h2]
    rfl
theorem RepAll.strs : ∀ {ns : List Str} {vs : List V}, RepAll K H (ns.map D.str) vs → vs = ns.map V.str
  | [], _, h => by simpa only [RepAll, List.map_nil] using h
  | n :: ns, vs, h => by
    simp only [List.map_cons, RepAll, Rep] at h
    obtain ⟨v, r, rfl, rfl, h2⟩ := h
    rw [RepAll.strs h2]
    rfl

/-! ### the store -/
inductive Cell where
  | lst (xs : List D)
  | dK (kvs : List (Key × D))
  | dT (kvs : List (List Key × D))
abbrev Sto := Addr → Option Cell
def sup (S : Sto) (a : Addr) (c : Cell) : Sto := fun b => if b = a then some c else S b
def sdel (S : Sto) (a : Addr) : Sto := fun b => if b = a then none else S b
@[simp] theorem sup_same {S : Sto} {a : Addr} {c : Cell} : sup S a c a = some c := by unfold sup; rw [if_pos rfl]
theorem sup_ne {S : Sto} {a b : Addr} {c : Cell} (h : b ≠ a) : sup S a c b = S b := by unfold sup; rw [if_neg h]
@[simp] theorem sup_sup {S : Sto} {a : Addr} {c e : Cell} : sup (sup S a c) a e = sup S a e := by funext b; unfold sup; split <;> rfl
@[simp] theorem sdel_sup {S : Sto} {a : Addr} {c : Cell} : sdel (sup S a c) a = sdel S a := by funext b; unfold sdel sup; split <;> rfl
theorem sdel_none {S : Sto} {a : Addr} (h : S a = none) : sdel S a = S := by
  funext b
  unfold sdel
  split
  · rename_i e; rw [e, h]
  · rfl
theorem sdel_ne {S : Sto} {a b : Addr} (h : b ≠ a) : sdel S a b = S b := by unfold sdel; rw [if_neg h]
theorem sup_comm {S : Sto} {a b : Addr} {c e : Cell} (h : a ≠ b) : sup (sup S a c) b e = sup (sup S b e) a c := by
  funext x
  simp only [sup]
  by_cases h1 : x = a
  · subst h1; simp [h]
  · by_cases h2 : x = b
    · subst h2; simp [h1]
    · simp [h1, h2]
theorem sdel_sup_ne {S : Sto} {a b : Addr} {c : Cell} (h : a ≠ b) : sdel (sup S a c) b = sup (sdel S b) a c := by
  funext x
  simp only [sup, sdel]
  by_cases h1 : x = a
  · subst h1; simp [h]
  · by_cases h2 : x = b
    · subst h2; simp [h1]
    · simp [h1, h2]
theorem sto_ne {S : Sto} {a b : Addr} {c : Cell} (h : S a = none) (h' : S b = some c) : a ≠ b := by
  rintro rfl
  rw [h] at h'
  cases h'

def CellOk (K : PySem.W.Frag) (Hb H : Hp) (a : Addr) : Cell → Prop
  | .lst ds => ∃ vs, H a = some (.lst vs) ∧ RepAll K Hb ds vs
  | .dK kvs => ∃ vs : List (Key × V), H a = some (.dK vs) ∧ vs.map (·.1) = kvs.map (·.1) ∧ RepAll K Hb (kvs.map (·.2)) (vs.map (·.2))
  | .dT kvs => ∃ vs : List (List Key × V), H a = some (.dT vs) ∧ vs.map (·.1) = kvs.map (·.1) ∧ RepAll K Hb (kvs.map (·.2)) (vs.map (·.2))

structure Ab (K : PySem.W.Frag) (Hb H : Hp) (S : Sto) : Prop where
  sub : Sub Hb H
  cel : ∀ a c, S a = some c → Hb a = none ∧ CellOk K Hb H a c

variable {S S' : Sto}
theorem CellOk.here {a : Addr} {c : Cell} (h : CellOk K Hb H a c) : ∃ o, H a = some o := by
  cases c with
  | lst ds => obtain ⟨vs, e, _⟩ := h; exact ⟨_, e⟩
  | dK ds => obtain ⟨vs, e, _⟩ := h; exact ⟨_, e⟩
  | dT ds => obtain ⟨vs, e, _⟩ := h; exact ⟨_, e⟩
theorem CellOk.move {a : Addr} {c : Cell} (h : CellOk K Hb H a c) (e : Sub Hb Hb') (k : H' a = H a) : CellOk K Hb' H' a c := by
  cases c with
  | lst ds => obtain ⟨vs, q, r⟩ := h; exact ⟨vs, by rw [k]; exact q, r.sub e⟩
  | dK ds => obtain ⟨vs, q, z, r⟩ := h; exact ⟨vs, by rw [k]; exact q, z, r.sub e⟩
  | dT ds => obtain ⟨vs, q, z, r⟩ := h; exact ⟨vs, by rw [k]; exact q, z, r.sub e⟩
/-- a new object that will not change -/
theorem Ab.froz {p : Addr} {o : HO} (A : Ab K Hb H S) (hp : H p = none) : Ab K (upd Hb p o) (upd H p o) S ∧ Sub Hb (upd Hb p o) := by
  have hbp : Hb p = none := by
    cases q : Hb p with
    | none => rfl
    | some u => rw [A.sub _ _ q] at hp; cases hp
  have sb : Sub Hb (upd Hb p o) := fun b u e => by rw [upd_ne (ne_of_none e hbp)]; exact e
  refine ⟨⟨fun b u e => ?_, fun a c e => ?_⟩, sb⟩
  · by_cases hb : b = p
    · subst hb
      rw [upd_same] at e ⊢
      exact e
    · rw [upd_ne hb] at e ⊢
      exact A.sub _ _ e
  · obtain ⟨h1, h2⟩ := A.cel a c e
    obtain ⟨u, hu⟩ := h2.here
    have ne : a ≠ p := ne_of_none hu hp
    exact ⟨by rw [upd_ne ne]; exact h1, h2.move sb (by rw [upd_ne ne])⟩
/-- a new object that the data does not speak of -/
theorem Ab.junk {p : Addr} {o : HO} (A : Ab K Hb H S) (hp : H p = none) : Ab K Hb (upd H p o) S :=
  ⟨fun b u e => by rw [upd_ne (ne_of_none (A.sub _ _ e) hp)]; exact A.sub _ _ e, fun a c e => by
    obtain ⟨h1, h2⟩ := A.cel a c e
    obtain ⟨u, hu⟩ := h2.here
    exact ⟨h1, h2.move (Same.refl _) (by rw [upd_ne (ne_of_none hu hp)])⟩⟩
/-- a new cell of any kind -/
theorem Ab.newC {p : Addr} {o : HO} {c : Cell} (A : Ab K Hb H S) (hp : H p = none) (r : CellOk K Hb (upd H p o) p c) : Ab K Hb (upd H p o) (sup S p c) := by
  have J := A.junk (o := o) hp
  refine ⟨J.sub, fun a c' e => ?_⟩
  by_cases h : a = p
  · subst h
    rw [sup_same] at e
    cases e
    refine ⟨?_, r⟩
    cases q : Hb a with
    | none => rfl
    | some u => rw [A.sub _ _ q] at hp; cases hp
  · rw [sup_ne h] at e
    exact J.cel a c' e
/-- a cell of any kind is written -/
theorem Ab.setC {p : Addr} {o : HO} {c c0 : Cell} (A : Ab K Hb H S) (hp : S p = some c0) (r : CellOk K Hb (upd H p o) p c) : Ab K Hb (upd H p o) (sup S p c) := by
  have nb := (A.cel p _ hp).1
  refine ⟨fun b u e => by rw [upd_ne (ne_of_none e nb)]; exact A.sub _ _ e, fun a c' e => ?_⟩
  by_cases h : a = p
  · subst h
    rw [sup_same] at e
    cases e
    exact ⟨nb, r⟩
  · rw [sup_ne h] at e
    obtain ⟨h1, h2⟩ := A.cel a c' e
    exact ⟨h1, h2.move (Same.refl _) (by rw [upd_ne h])⟩
/-- a new cell -/
theorem Ab.newL {p : Addr} {ds : List D} {vs : List V} (A : Ab K Hb H S) (hp : H p = none) (r : RepAll K Hb ds vs) : Ab K Hb (upd H p (.lst vs)) (sup S p (.lst ds)) := by
  have J := A.junk (o := .lst vs) hp
  refine ⟨J.sub, fun a c e => ?_⟩
  by_cases h : a = p
  · subst h
    rw [sup_same] at e
    cases e
    refine ⟨?_, vs, upd_same, r⟩
    cases q : Hb a with
    | none => rfl
    | some u => rw [A.sub _ _ q] at hp; cases hp
  · rw [sup_ne h] at e
    exact J.cel a c e
theorem Ab.free {p : Addr} (A : Ab K Hb H S) (hp : H p = none) : S p = none := by
  cases q : S p with
  | none => rfl
  | some c =>
    obtain ⟨u, e⟩ := (A.cel p c q).2.here
    rw [hp] at e
    cases e
/-- a list cell is written -/
theorem Ab.setL {p : Addr} {ds es : List D} {us : List V} (A : Ab K Hb H S) (hp : S p = some (.lst es)) (r : RepAll K Hb ds us) : Ab K Hb (upd H p (.lst us)) (sup S p (.lst ds)) := by
  have nb := (A.cel p _ hp).1
  refine ⟨fun b u e => by rw [upd_ne (ne_of_none e nb)]; exact A.sub _ _ e, fun a c e => ?_⟩
  by_cases h : a = p
  · subst h
    rw [sup_same] at e
    cases e
    exact ⟨nb, us, upd_same, r⟩
  · rw [sup_ne h] at e
    obtain ⟨h1, h2⟩ := A.cel a c e
    exact ⟨h1, h2.move (Same.refl _) (by rw [upd_ne h])⟩
theorem Ab.getL {p : Addr} {ds : List D} (A : Ab K Hb H S) (hp : S p = some (.lst ds)) : ∃ vs, H p = some (.lst vs) ∧ RepAll K Hb ds vs := (A.cel p _ hp).2
/-- a cell is forgotten -/
theorem Ab.del {p : Addr} (A : Ab K Hb H S) : Ab K Hb H (sdel S p) := ⟨A.sub, fun a c e => by
  by_cases h : a = p
  · subst h; unfold sdel at e; rw [if_pos rfl] at e; cases e
  · rw [sdel_ne h] at e; exact A.cel a c e⟩
theorem Ab.less (A : Ab K Hb H S) (h : ∀ a c, S' a = some c → S a = some c) : Ab K Hb H S' := ⟨A.sub, fun a c e => A.cel a c (h a c e)⟩
/-- a cell is frozen -/
theorem Ab.freeze {p : Addr} {ds : List D} (A : Ab K Hb H S) (hp : S p = some (.lst ds)) : ∃ Hb', Sub Hb Hb' ∧ Ab K Hb' H (sdel S p) ∧ Rep K Hb' (.lst ds) (.ref p) := by
  obtain ⟨nb, vs, e, r⟩ := A.cel p _ hp
  have sb : Sub Hb (upd Hb p (.lst vs)) := fun b u q => by rw [upd_ne (ne_of_none q nb)]; exact q
  refine ⟨upd Hb p (.lst vs), sb, ⟨fun b u q => ?_, fun a c q => ?_⟩, ?_⟩
  · by_cases hb : b = p
    · subst hb
      rw [upd_same] at q
      cases q
      exact e
    · rw [upd_ne hb] at q
      exact A.sub _ _ q
  · have ne : a ≠ p := by
      rintro rfl
      unfold sdel at q
      rw [if_pos rfl] at q
      cases q
    rw [sdel_ne ne] at q
    obtain ⟨h1, h2⟩ := A.cel a c q
    exact ⟨by rw [upd_ne ne]; exact h1, h2.move sb rfl⟩
  · simp only [Rep]
    exact ⟨p, vs, rfl, upd_same, r.sub sb⟩

/-! ### the judgements -/
abbrev Rho := List (Option D)
def RelS (K : PySem.W.Frag) (Hb : Hp) (σ : L2.St) (ρ : Rho) : Prop := ρ.length = σ.length ∧ ∀ (i : Nat) (d : D), ρ[i]? = some (some d) → ∃ v, σ[i]? = some (some v) ∧ Rep K Hb d v
theorem RelS.sub {σ : L2.St} {ρ : Rho} (h : RelS K Hb σ ρ) (e : Sub Hb Hb') : RelS K Hb' σ ρ := ⟨h.1, fun i d q => by
  obtain ⟨v, q1, q2⟩ := h.2 i d q
  exact ⟨v, q1, q2.sub e⟩⟩
theorem RelS.set {σ : L2.St} {ρ : Rho} {d : D} {v : V} (h : RelS K Hb σ ρ) (i : Nat) (r : Rep K Hb d v) : RelS K Hb (σ.set i (some v)) (ρ.set i (some d)) := by
  refine ⟨by simp [h.1], fun j e q => ?_⟩
  by_cases hj : j = i
  · subst hj
    by_cases hl : j < ρ.length
    · rw [List.getElem?_set_self hl] at q
      cases q
      exact ⟨v, List.getElem?_set_self (by rw [← h.1]; exact hl), r⟩
    · have : (ρ.set j (some d))[j]? = none := by
        rw [List.getElem?_eq_none_iff]
        simp
        omega
      rw [this] at q
      cases q
  · rw [List.getElem?_set_ne (Ne.symm hj)] at q ⊢
    exact h.2 j e q

abbrev QD := D → Sto → Prop
abbrev TDE := Rho → Sto → QD → Prop
abbrev TDT := Rho → Sto → (Bool → Sto → Prop) → Prop
abbrev TDA := Rho → Sto → (List D → Sto → Prop) → Prop
structure Fin where
  nx : Rho → Sto → Prop
  rt : QD
  bk : Rho → Sto → Prop := fun _ _ => False
  ct : Rho → Sto → Prop := fun _ _ => False
abbrev TDS := Fin → Rho → Sto → Prop
abbrev TDG := D → Rho → Sto → (Rho → Sto → Prop) → Prop
abbrev TDGs := List D → Rho → Sto → (Rho → Sto → Prop) → Prop

def lE (K : PySem.W.Frag) (t : TDE) : TE := fun σ H QV => ∃ ρ S Hb Q, RelS K Hb σ ρ ∧ Ab K Hb H S ∧ t ρ S Q ∧
  ∀ v H' d S' Hb', Sub Hb Hb' → Ab K Hb' H' S' → Rep K Hb' d v → Q d S' → QV v H'
def lT (K : PySem.W.Frag) (t : TDT) : TT := fun σ H QV => ∃ ρ S Hb Q, RelS K Hb σ ρ ∧ Ab K Hb H S ∧ t ρ S Q ∧
  ∀ b H' S' Hb', Sub Hb Hb' → Ab K Hb' H' S' → Q b S' → QV b H'
def lA (K : PySem.W.Frag) (t : TDA) : TA := fun σ H QV => ∃ ρ S Hb Q, RelS K Hb σ ρ ∧ Ab K Hb H S ∧ t ρ S Q ∧
  ∀ vs H' ds S' Hb', Sub Hb Hb' → Ab K Hb' H' S' → RepAll K Hb' ds vs → Q ds S' → QV vs H'
structure FinOk (K : PySem.W.Frag) (Hb : Hp) (F : Fin) (E : Ends) : Prop where
  nx : ∀ σ H ρ S Hb', Sub Hb Hb' → RelS K Hb' σ ρ → Ab K Hb' H S → F.nx ρ S → E.nx σ H
  rt : ∀ v H d S Hb', Sub Hb Hb' → Ab K Hb' H S → Rep K Hb' d v → F.rt d S → E.rt v H
  bk : ∀ σ H ρ S Hb', Sub Hb Hb' → RelS K Hb' σ ρ → Ab K Hb' H S → F.bk ρ S → E.bk σ H
  ct : ∀ σ H ρ S Hb', Sub Hb Hb' → RelS K Hb' σ ρ → Ab K Hb' H S → F.ct ρ S → E.ct σ H
theorem FinOk.sub {F : Fin} {E : Ends} (h : FinOk K Hb F E) (e : Sub Hb Hb') : FinOk K Hb' F E :=
  ⟨fun σ H ρ S Hb2 s => h.nx σ H ρ S Hb2 (e.trans s), fun v H d S Hb2 s => h.rt v H d S Hb2 (e.trans s), fun σ H ρ S Hb2 s => h.bk σ H ρ S Hb2 (e.trans s), fun σ H ρ S Hb2 s => h.ct σ H ρ S Hb2 (e.trans s)⟩
def lS (K : PySem.W.Frag) (t : TDS) : TS := fun E σ H => ∃ ρ S Hb F, RelS K Hb σ ρ ∧ Ab K Hb H S ∧ t F ρ S ∧ FinOk K Hb F E
def lG (K : PySem.W.Frag) (t : TDG) : TG := fun v σ H QV => ∃ d ρ S Hb Q, Rep K Hb d v ∧ RelS K Hb σ ρ ∧ Ab K Hb H S ∧ t d ρ S Q ∧
  ∀ σ' H' ρ' S' Hb', Sub Hb Hb' → RelS K Hb' σ' ρ' → Ab K Hb' H' S' → Q ρ' S' → QV σ' H'
def lGs (K : PySem.W.Frag) (t : TDGs) : TGs := fun vs σ H QV => ∃ ds ρ S Hb Q, RepAll K Hb ds vs ∧ RelS K Hb σ ρ ∧ Ab K Hb H S ∧ t ds ρ S Q ∧
  ∀ σ' H' ρ' S' Hb', Sub Hb Hb' → RelS K Hb' σ' ρ' → Ab K Hb' H' S' → Q ρ' S' → QV σ' H'

abbrev PD (X : Cx) (e : Expr) (t : TDE) : Prop := PE X e (lE X.K t)
abbrev PDT (X : Cx) (e : Expr) (t : TDT) : Prop := PT X e (lT X.K t)
abbrev PDW (X : Cx) (e : Expr) (t : TDT) : Prop := PW X e (lT X.K t)
abbrev PDA (X : Cx) (es : List Expr) (t : TDA) : Prop := PA X es (lA X.K t)
abbrev PDS (X : Cx) (st : Stmt) (t : TDS) : Prop := PS X st (lS X.K t)
abbrev PDSs (X : Cx) (st : List Stmt) (t : TDS) : Prop := PSs X st (lS X.K t)
abbrev PDG (X : Cx) (e : Expr) (t : TDG) : Prop := PG X e (lG X.K t)
abbrev PDGs (X : Cx) (es : List Expr) (t : TDGs) : Prop := PGs X es (lGs X.K t)

theorem PE.imp {X : Cx} {e : Expr} {t u : TE} (h : PE X e t) (k : ∀ σ H Q, u σ H Q → t σ H Q) : PE X e u := ⟨fun pins s σ H Q I q => h.run pins s σ H Q I (k σ H Q q)⟩
theorem PT.imp {X : Cx} {e : Expr} {t u : TT} (h : PT X e t) (k : ∀ σ H Q, u σ H Q → t σ H Q) : PT X e u := ⟨fun pins s σ H Q I q => h.run pins s σ H Q I (k σ H Q q)⟩
theorem PW.imp {X : Cx} {e : Expr} {t u : TT} (h : PW X e t) (k : ∀ σ H Q, u σ H Q → t σ H Q) : PW X e u := ⟨fun wh pins s σ H Q I q => h.run wh pins s σ H Q I (k σ H Q q)⟩
theorem PA.imp {X : Cx} {e : List Expr} {t u : TA} (h : PA X e t) (k : ∀ σ H Q, u σ H Q → t σ H Q) : PA X e u := ⟨fun pos pins s σ H Q I q => h.run pos pins s σ H Q I (k σ H Q q)⟩
theorem PS.imp {X : Cx} {e : Stmt} {t u : TS} (h : PS X e t) (k : ∀ D σ H, u D σ H → t D σ H) : PS X e u := ⟨fun pins s σ H D I q => h.run pins s σ H D I (k D σ H q)⟩
theorem PSs.imp {X : Cx} {e : List Stmt} {t u : TS} (h : PSs X e t) (k : ∀ D σ H, u D σ H → t D σ H) : PSs X e u := ⟨fun pins s σ H D I q => h.run pins s σ H D I (k D σ H q)⟩
theorem PG.imp {X : Cx} {e : Expr} {t u : TG} (h : PG X e t) (k : ∀ v σ H Q, u v σ H Q → t v σ H Q) : PG X e u := ⟨fun pins s σ H v w Q I r q => h.run pins s σ H v w Q I r (k v σ H Q q)⟩
theorem PGs.imp {X : Cx} {e : List Expr} {t u : TGs} (h : PGs X e t) (k : ∀ v σ H Q, u v σ H Q → t v σ H Q) : PGs X e u := ⟨fun pins s σ H v w Q I r q => h.run pins s σ H v w Q I r (k v σ H Q q)⟩

/-! ### values by their kind -/
def withV (ρ : Rho) (i : Nat) (k : D → Prop) : Prop := match ρ[i]? with
  | some (some d) => k d
  | _ => False
theorem withV_iff {ρ : Rho} {i : Nat} {k : D → Prop} : withV ρ i k ↔ ∃ d, ρ[i]? = some (some d) ∧ k d := by
  unfold withV
  constructor
  · intro h
    split at h
    · rename_i d e; exact ⟨d, e, h⟩
    · exact h.elim
  · rintro ⟨d, e, h⟩
    rw [e]
    exact h
def asB (d : D) (k : Bool → Prop) : Prop := match d with
  | .bl b => k b
  | _ => False
theorem asB_iff {d : D} {k : Bool → Prop} : asB d k ↔ ∃ c, d = .bl c ∧ k c := by
  unfold asB
  constructor
  · intro h
    split at h
    · exact ⟨_, rfl, h⟩
    · exact h.elim
  · rintro ⟨d, rfl, h⟩
    exact h
def asI (d : D) (k : Int → Prop) : Prop := match d with
  | .int b => k b
  | _ => False
theorem asI_iff {d : D} {k : Int → Prop} : asI d k ↔ ∃ c, d = .int c ∧ k c := by
  unfold asI
  constructor
  · intro h
    split at h
    · exact ⟨_, rfl, h⟩
    · exact h.elim
  · rintro ⟨d, rfl, h⟩
    exact h
def asS (d : D) (k : Str → Prop) : Prop := match d with
  | .str b => k b
  | _ => False
theorem asS_iff {d : D} {k : Str → Prop} : asS d k ↔ ∃ c, d = .str c ∧ k c := by
  unfold asS
  constructor
  · intro h
    split at h
    · exact ⟨_, rfl, h⟩
    · exact h.elim
  · rintro ⟨d, rfl, h⟩
    exact h
def asT (d : D) (k : List D → Prop) : Prop := match d with
  | .tup b => k b
  | _ => False
theorem asT_iff {d : D} {k : List D → Prop} : asT d k ↔ ∃ c, d = .tup c ∧ k c := by
  unfold asT
  constructor
  · intro h
    split at h
    · exact ⟨_, rfl, h⟩
    · exact h.elim
  · rintro ⟨d, rfl, h⟩
    exact h
def asC (ds : List D) (k : D → List D → Prop) : Prop := match ds with
  | d :: r => k d r
  | [] => False
theorem asC_iff {ds : List D} {k : D → List D → Prop} : asC ds k ↔ ∃ d r, ds = d :: r ∧ k d r := by
  unfold asC
  constructor
  · intro h
    split at h
    · exact ⟨_, _, rfl, h⟩
    · exact h.elim
  · rintro ⟨d, r, rfl, h⟩
    exact h
def asN (ds : List D) (k : Prop) : Prop := match ds with
  | [] => k
  | _ => False
theorem asN_iff {ds : List D} {k : Prop} : asN ds k ↔ ds = [] ∧ k := by
  unfold asN
  constructor
  · intro h
    split at h
    · exact ⟨rfl, h⟩
    · exact h.elim
  · rintro ⟨rfl, h⟩
    exact h
def as1 (ds : List D) (k : D → Prop) : Prop := asC ds fun d r => asN r (k d)
theorem as1_iff {ds : List D} {k : D → Prop} : as1 ds k ↔ ∃ d, ds = [d] ∧ k d := by
  simp only [as1, asC_iff, asN_iff]
  constructor
  · rintro ⟨d, r, rfl, rfl, h⟩; exact ⟨d, rfl, h⟩
  · rintro ⟨d, rfl, h⟩; exact ⟨d, [], rfl, rfl, h⟩
def as2 (ds : List D) (k : D → D → Prop) : Prop := asC ds fun d r => asC r fun e r => asN r (k d e)
theorem as2_iff {ds : List D} {k : D → D → Prop} : as2 ds k ↔ ∃ d e, ds = [d, e] ∧ k d e := by
  simp only [as2, asC_iff, asN_iff]
  constructor
  · rintro ⟨d, r, rfl, e, r, rfl, rfl, h⟩; exact ⟨d, e, rfl, h⟩
  · rintro ⟨d, e, rfl, h⟩; exact ⟨d, _, rfl, e, [], rfl, rfl, h⟩

/-! ### names, constants -/
section
variable {X : Cx}
def dV (i : Nat) : TDE := fun ρ S Q => withV ρ i fun d => Q d S
def dC (d : D) : TDE := fun _ S Q => Q d S
theorem pd_var {e : Expr} {i : Nat} (h : PE X e (tVar i)) : PD X e (dV i) := PE.imp h fun σ H QV ⟨ρ, S, Hb, Q, rs, ab, q, k⟩ => by
  replace q := withV_iff.mp q
  obtain ⟨d, e, q⟩ := q
  obtain ⟨v, ev, rv⟩ := rs.2 i d e
  exact ⟨v, ev, k v H d S Hb (Same.refl _) ab rv q⟩
theorem pd_const {e : Expr} {d : D} {v : V} (h : PE X e (tC v)) (r : ∀ Hb, Rep X.K Hb d v) : PD X e (dC d) := PE.imp h fun σ H QV ⟨ρ, S, Hb, Q, rs, ab, q, k⟩ => k v H d S Hb (Same.refl _) ab (r _) q
theorem pd_int {i j pos} : PD X (.Constant (.int i) j pos) (dC (.int i)) := pd_const pe_int fun _ => by simp only [Rep]
theorem pd_bl {b j pos} : PD X (.Constant (.bool b) j pos) (dC (.bl b)) := pd_const pe_bl fun _ => by simp only [Rep]
theorem pd_non {j pos} : PD X (.Constant .none j pos) (dC .non) := pd_const pe_non fun _ => by simp only [Rep]
theorem pd_str {x j pos} : PD X (.Constant (.str x) j pos) (dC (.str x)) := pd_const pe_str fun _ => by simp only [Rep]
/-- a module's int or text -/
theorem pd_glob {x : Str} {d : D} {v : V} {u : Value} {pos : Pos} (hg : Gl X x) (hm : X.mg x = some u) (r : RelV v u) (hr : ∀ Hb, Rep X.K Hb d v) (hd : (x == ("__debug__" : Str)) = false := by decide) : PD X (.Name x pos) (dC d) :=
  pd_const (pe_glob hg hm r hd) hr

/-! ### two operands -/
abbrev R2D := D → D → Sto → QD → Prop
def dOp (r : R2D) (ta tb : TDE) : TDE := fun ρ S Q => ta ρ S fun x S1 => tb ρ S1 fun y S2 => r x y S2 Q
/-- what a rule of the hand layer is over data -/
def OpL (K : PySem.W.Frag) (r : R2) (rd : R2D) : Prop := ∀ (x y : V) (H : Hp) (QV : VK) (dx dy : D) (S : Sto) (Hb : Hp) (Q : QD), Rep K Hb dx x → Rep K Hb dy y → Ab K Hb H S → rd dx dy S Q →
  (∀ v H' d S' Hb', Sub Hb Hb' → Ab K Hb' H' S' → Rep K Hb' d v → Q d S' → QV v H') → r x y H QV
theorem lift2 {r : R2} {rd : R2D} {ta tb : TDE} (h : OpL K r rd) {σ : L2.St} {H : Hp} {QV : VK} (q : lE K (dOp rd ta tb) σ H QV) : tOp r (lE K ta) (lE K tb) σ H QV := by
  obtain ⟨ρ, S, Hb, Q, rs, ab, q, k⟩ := q
  refine ⟨ρ, S, Hb, _, rs, ab, q, fun v1 H1 d1 S1 Hb1 s1 ab1 r1 q1 => ?_⟩
  refine ⟨ρ, S1, Hb1, _, rs.sub s1, ab1, q1, fun v2 H2 d2 S2 Hb2 s2 ab2 r2 q2 => ?_⟩
  exact h v1 v2 H2 QV d1 d2 S2 Hb2 Q (r1.sub s2) r2 ab2 q2 fun v H' d S' Hb' s3 => k v H' d S' Hb' (s1.trans (s2.trans s3))
variable {a b : Expr} {ta tb : TDE} {pos : Pos}
theorem pd_op {op : Operator} {r : R2} {rd : R2D} (h : OpL X.K r rd) (ho : OpR X (binaryOp op) r) (ha : PD X a ta) (hb : PD X b tb) : PD X (.BinOp a op b pos) (dOp rd ta tb) :=
  PE.imp (pe_op ho ha hb) fun _ _ _ q => lift2 h q
theorem pd_cmp {op : CmpOp} {r : R2} {rd : R2D} (h : OpL X.K r rd) (ho : OpR X (compareOp op) r) (ha : PD X a ta) (hb : PD X b tb) (hm : behindInMarks op b = false) : PD X (.Compare a [op] [b] pos) (dOp rd ta tb) :=
  PE.imp (pe_cmpR ho ha hb hm) fun _ _ _ q => lift2 h q
/-- a value that is a truth, as a test -/
def dB (t : TDE) : TDT := fun ρ S Q => t ρ S fun d S1 => asB d fun c => Q c S1
theorem liftB {t : TE} {td : TDE} (h : ∀ σ H QV, lE K td σ H QV → t σ H QV) {σ : L2.St} {H : Hp} {Q : Bool → Hp → Prop} (q : lT K (dB td) σ H Q) : t σ H fun x H' => ∃ k, x = .bl k ∧ Q k H' := by
  obtain ⟨ρ, S, Hb, QD, rs, ab, q, k⟩ := q
  refine h σ H _ ⟨ρ, S, Hb, _, rs, ab, q, fun v H' d S' Hb' s' ab' r q' => ?_⟩
  replace q' := asB_iff.mp q'
  obtain ⟨c, rfl, q'⟩ := q'
  simp only [Rep] at r
  exact ⟨c, r, k c H' S' Hb' s' ab' q'⟩
theorem pdt_cmp {op : CmpOp} {r : R2} {rd : R2D} (h : OpL X.K r rd) (ho : OpR X (compareOp op) r) (ha : PD X a ta) (hb : PD X b tb) (hm : behindInMarks op b = false) : PDT X (.Compare a [op] [b] pos) (dB (dOp rd ta tb)) :=
  PT.imp (pt_cmpR ho ha hb hm) fun _ _ _ q => liftB (fun _ _ _ q => lift2 h q) q
/-- an expression that is no comparison, no and, or, not: a truth as a test -/
theorem pdt_val {e : Expr} {t : TDE} (h : PD X e t) (he : ∀ whole, isTrue e X.env whole = (do let v ← whole; standAt e.pos; holding [v] (truthy v)) := by intro _; rfl) : PDT X e (dB t) :=
  PT.imp (pt_val h he) fun σ H Q q => liftB (fun _ _ _ q => q) q

/-! ### and, or, not, if-else -/
def dAnd (t u : TDT) : TDT := fun ρ S Q => t ρ S fun c S1 => if c = true then u ρ S1 Q else Q false S1
def dOr (t u : TDT) : TDT := fun ρ S Q => t ρ S fun c S1 => if c = true then Q true S1 else u ρ S1 Q
def dNot (t : TDT) : TDT := fun ρ S Q => t ρ S fun c S1 => Q (!c) S1
variable {ua ub : TDT} {rest : List Expr}
theorem pdw_and1 (ha : PDT X a ua) : PDW X (.BoolOp .And [a] pos) ua := pw_and1 ha
theorem pdw_or1 (ha : PDT X a ua) : PDW X (.BoolOp .Or [a] pos) ua := pw_or1 ha
theorem pdw_and (ha : PDT X a ua) (hb : PDW X (.BoolOp .And (b :: rest) pos) ub) : PDW X (.BoolOp .And (a :: b :: rest) pos) (dAnd ua ub) :=
  PW.imp (pw_and ha hb) fun σ H QV ⟨ρ, S, Hb, Q, rs, ab, q, k⟩ => by
    refine ⟨ρ, S, Hb, _, rs, ab, q, fun c H1 S1 Hb1 s1 ab1 q1 => ?_⟩
    cases c with
    | true =>
      rw [if_pos rfl] at q1 ⊢
      exact ⟨ρ, S1, Hb1, Q, rs.sub s1, ab1, q1, fun c H' S' Hb' s2 => k c H' S' Hb' (s1.trans s2)⟩
    | false =>
      rw [if_neg Bool.false_ne_true] at q1 ⊢
      exact k _ _ _ _ s1 ab1 q1
theorem pdw_or (ha : PDT X a ua) (hb : PDW X (.BoolOp .Or (b :: rest) pos) ub) : PDW X (.BoolOp .Or (a :: b :: rest) pos) (dOr ua ub) :=
  PW.imp (pw_or ha hb) fun σ H QV ⟨ρ, S, Hb, Q, rs, ab, q, k⟩ => by
    refine ⟨ρ, S, Hb, _, rs, ab, q, fun c H1 S1 Hb1 s1 ab1 q1 => ?_⟩
    cases c with
    | true =>
      rw [if_pos rfl] at q1 ⊢
      exact k _ _ _ _ s1 ab1 q1
    | false =>
      rw [if_neg Bool.false_ne_true] at q1 ⊢
      exact ⟨ρ, S1, Hb1, Q, rs.sub s1, ab1, q1, fun c H' S' Hb' s2 => k c H' S' Hb' (s1.trans s2)⟩
theorem pdt_not (ha : PDT X a ua) : PDT X (.UnaryOp .Not a pos) (dNot ua) :=
  PT.imp (pt_not ha) fun σ H QV ⟨ρ, S, Hb, Q, rs, ab, q, k⟩ => ⟨ρ, S, Hb, _, rs, ab, q, fun c H1 S1 Hb1 s1 ab1 q1 => k _ _ _ _ s1 ab1 q1⟩
/-- .. as values (truths) -/
def dAndV (ta tb : TDE) : TDE := fun ρ S Q => ta ρ S fun d S1 => asB d fun c => if c = true then tb ρ S1 Q else Q (.bl false) S1
def dOrV (ta tb : TDE) : TDE := fun ρ S Q => ta ρ S fun d S1 => asB d fun c => if c = true then Q (.bl true) S1 else tb ρ S1 Q
def dNotV (ta : TDE) : TDE := fun ρ S Q => ta ρ S fun d S1 => asB d fun c => Q (.bl (!c)) S1
theorem pd_one {op} {t : TDE} (h : PD X a t) : PD X (.BoolOp op [a] pos) t := pe_one h
theorem pd_and (ha : PD X a ta) (hb : PD X (.BoolOp .And (b :: rest) pos) tb) : PD X (.BoolOp .And (a :: b :: rest) pos) (dAndV ta tb) :=
  PE.imp (pe_and ha hb) fun σ H QV ⟨ρ, S, Hb, Q, rs, ab, q, k⟩ => by
    refine ⟨ρ, S, Hb, _, rs, ab, q, fun v H1 d S1 Hb1 s1 ab1 r1 q1 => ?_⟩
    replace q1 := asB_iff.mp q1
    obtain ⟨c, rfl, q1⟩ := q1
    simp only [Rep] at r1
    refine ⟨c, r1, ?_⟩
    cases c with
    | true =>
      rw [if_pos rfl] at q1 ⊢
      exact ⟨ρ, S1, Hb1, Q, rs.sub s1, ab1, q1, fun c H' d S' Hb' s2 => k c H' d S' Hb' (s1.trans s2)⟩
    | false =>
      rw [if_neg Bool.false_ne_true] at q1 ⊢
      exact k _ _ _ _ _ s1 ab1 (by simp only [Rep]) q1
theorem pd_or (ha : PD X a ta) (hb : PD X (.BoolOp .Or (b :: rest) pos) tb) : PD X (.BoolOp .Or (a :: b :: rest) pos) (dOrV ta tb) :=
  PE.imp (pe_or ha hb) fun σ H QV ⟨ρ, S, Hb, Q, rs, ab, q, k⟩ => by
    refine ⟨ρ, S, Hb, _, rs, ab, q, fun v H1 d S1 Hb1 s1 ab1 r1 q1 => ?_⟩
    replace q1 := asB_iff.mp q1
    obtain ⟨c, rfl, q1⟩ := q1
    simp only [Rep] at r1
    refine ⟨c, r1, ?_⟩
    cases c with
    | true =>
      rw [if_pos rfl] at q1 ⊢
      exact k _ _ _ _ _ s1 ab1 (by simp only [Rep]) q1
    | false =>
      rw [if_neg Bool.false_ne_true] at q1 ⊢
      exact ⟨ρ, S1, Hb1, Q, rs.sub s1, ab1, q1, fun c H' d S' Hb' s2 => k c H' d S' Hb' (s1.trans s2)⟩
theorem pd_not (ha : PD X a ta) : PD X (.UnaryOp .Not a pos) (dNotV ta) :=
  PE.imp (pe_not ha) fun σ H QV ⟨ρ, S, Hb, Q, rs, ab, q, k⟩ => by
    refine ⟨ρ, S, Hb, _, rs, ab, q, fun v H1 d S1 Hb1 s1 ab1 r1 q1 => ?_⟩
    replace q1 := asB_iff.mp q1
    obtain ⟨c, rfl, q1⟩ := q1
    simp only [Rep] at r1
    exact ⟨c, r1, k _ _ _ _ _ s1 ab1 (by simp only [Rep]) q1⟩
def dIf (c : TDT) (ta tb : TDE) : TDE := fun ρ S Q => c ρ S fun b S1 => if b = true then ta ρ S1 Q else tb ρ S1 Q
theorem pd_ifExp {c : Expr} (hc : PDT X c ua) (ha : PD X a ta) (hb : PD X b tb) : PD X (.IfExp c a b pos) (dIf ua ta tb) :=
  PE.imp (pe_ifExp hc ha hb) fun σ H QV ⟨ρ, S, Hb, Q, rs, ab, q, k⟩ => by
    refine ⟨ρ, S, Hb, _, rs, ab, q, fun c H1 S1 Hb1 s1 ab1 q1 => ?_⟩
    cases c with
    | true =>
      rw [if_pos rfl] at q1 ⊢
      exact ⟨ρ, S1, Hb1, Q, rs.sub s1, ab1, q1, fun c H' d S' Hb' s2 => k c H' d S' Hb' (s1.trans s2)⟩
    | false =>
      rw [if_neg Bool.false_ne_true] at q1 ⊢
      exact ⟨ρ, S1, Hb1, Q, rs.sub s1, ab1, q1, fun c H' d S' Hb' s2 => k c H' d S' Hb' (s1.trans s2)⟩

/-! ### argument lists, displays -/
def dNil : TDA := fun _ S Q => Q [] S
def dCons (ta : TDE) (tr : TDA) : TDA := fun ρ S Q => ta ρ S fun d S1 => tr ρ S1 fun ds S2 => Q (d :: ds) S2
variable {e : Expr} {es : List Expr} {te : TDE} {t : TDA}
theorem pda_nil : PDA X [] dNil := PA.imp pa_nil fun σ H QV ⟨ρ, S, Hb, Q, rs, ab, q, k⟩ => k _ _ _ _ _ (Same.refl _) ab .nil q
theorem lcons {σ : L2.St} {H : Hp} {QV : List V → Hp → Prop} (q : lA K (dCons te t) σ H QV) : tCons (lE K te) (lA K t) σ H QV := by
  obtain ⟨ρ, S, Hb, Q, rs, ab, q, k⟩ := q
  refine ⟨ρ, S, Hb, _, rs, ab, q, fun v H1 d S1 Hb1 s1 ab1 r1 q1 => ?_⟩
  refine ⟨ρ, S1, Hb1, _, rs.sub s1, ab1, q1, fun vs H2 ds S2 Hb2 s2 ab2 r2 q2 => ?_⟩
  exact k _ _ _ _ _ (s1.trans s2) ab2 (.cons (r1.sub s2) r2) q2
theorem pda_cons (ha : PD X e te) (hr : PDA X es t) (hs : starEach (e :: es) X.env = (false, eval e X.env) :: starEach es X.env := by rfl) : PDA X (e :: es) (dCons te t) :=
  PA.imp (pa_cons ha hr hs) fun σ H QV q => lcons q
def dTup (t : TDA) : TDE := fun ρ S Q => t ρ S fun ds S1 => ds.length ≤ sizeLine ∧ Q (.tup ds) S1
def dLst (t : TDA) : TDE := fun ρ S Q => t ρ S fun ds S1 => ds.length ≤ sizeLine ∧ Q (.lst ds) S1
/-- a list that will change -/
def dCell (t : TDA) : TDE := fun ρ S Q => t ρ S fun ds S1 => ds.length ≤ sizeLine ∧ ∀ p, S1 p = none → Q (.ref p) (sup S1 p (.lst ds))
theorem Rep.tupI {ds : List D} {vs : List V} {p : Addr} (h : H p = some (.tup vs)) (r : RepAll K H ds vs) : Rep K H (.tup ds) (.ref p) := by
  simp only [Rep]
  exact ⟨p, vs, rfl, h, r⟩
theorem Rep.lstI {ds : List D} {vs : List V} {p : Addr} (h : H p = some (.lst vs)) (r : RepAll K H ds vs) : Rep K H (.lst ds) (.ref p) := by
  simp only [Rep]
  exact ⟨p, vs, rfl, h, r⟩
theorem pd_tup {x1} (h : PDA X es t) : PD X (.Tuple es x1 pos) (dTup t) := PE.imp (pe_tup h) fun σ H QV ⟨ρ, S, Hb, Q, rs, ab, q, k⟩ => by
  refine ⟨ρ, S, Hb, _, rs, ab, q, fun vs H1 ds S1 Hb1 s1 ab1 r1 ⟨z, q1⟩ => ⟨by rw [r1.length]; exact z, fun p hp => ?_⟩⟩
  obtain ⟨ab2, s2⟩ := ab1.froz (o := .tup vs) hp
  exact k _ _ _ _ _ (s1.trans s2) ab2 (.tupI upd_same (r1.sub s2)) q1
theorem pd_lst (h : PDA X es t) : PD X (.List es pos) (dLst t) := PE.imp (pe_lst h) fun σ H QV ⟨ρ, S, Hb, Q, rs, ab, q, k⟩ => by
  refine ⟨ρ, S, Hb, _, rs, ab, q, fun vs H1 ds S1 Hb1 s1 ab1 r1 ⟨z, q1⟩ => ⟨by rw [r1.length]; exact z, fun p hp => ?_⟩⟩
  obtain ⟨ab2, s2⟩ := ab1.froz (o := .lst vs) hp
  exact k _ _ _ _ _ (s1.trans s2) ab2 (.lstI upd_same (r1.sub s2)) q1
theorem pd_cell (h : PDA X es t) : PD X (.List es pos) (dCell t) := PE.imp (pe_lst h) fun σ H QV ⟨ρ, S, Hb, Q, rs, ab, q, k⟩ => by
  refine ⟨ρ, S, Hb, _, rs, ab, q, fun vs H1 ds S1 Hb1 s1 ab1 r1 ⟨z, q1⟩ => ⟨by rw [r1.length]; exact z, fun p hp => ?_⟩⟩
  exact k _ _ _ _ _ s1 (ab1.newL hp r1) (by simp only [Rep]) (q1 p (ab1.free hp))
/-- what comes is a list that changes no more -/
def dFrz (t : TDE) : TDE := fun ρ S Q => t ρ S fun d S1 => ∃ a ds, d = .ref a ∧ S1 a = some (.lst ds) ∧ Q (.lst ds) (sdel S1 a)
theorem pd_frz (h : PD X e te) : PD X e (dFrz te) := PE.imp h fun σ H QV ⟨ρ, S, Hb, Q, rs, ab, q, k⟩ => by
  refine ⟨ρ, S, Hb, _, rs, ab, q, fun v H1 d S1 Hb1 s1 ab1 r1 ⟨a, ds, e1, e2, q1⟩ => ?_⟩
  subst e1
  simp only [Rep] at r1
  subst r1
  obtain ⟨Hb2, s2, ab2, r2⟩ := ab1.freeze e2
  exact k _ _ _ _ _ (s1.trans s2) ab2 r2 q1
end

/-! ### statements -/
section
variable {X : Cx} {st : Stmt} {rest : List Stmt} {t u : TDS} {e : Expr} {te : TDE} {pos : Pos}
def sNext : TDS := fun F ρ S => F.nx ρ S
def sSeq (t u : TDS) : TDS := fun F ρ S => t { F with nx := u F } ρ S
theorem pds_nil : PDSs X [] sNext := PSs.imp pss_nil fun E σ H ⟨ρ, S, Hb, F, rs, ab, q, k⟩ => k.nx _ _ _ _ _ (Same.refl _) rs ab q
theorem pds_cons (h1 : PDS X st t) (h2 : PDSs X rest u) : PDSs X (st :: rest) (sSeq t u) := PSs.imp (pss_cons h1 h2) fun E σ H ⟨ρ, S, Hb, F, rs, ab, q, k⟩ =>
  ⟨ρ, S, Hb, _, rs, ab, q, ⟨fun σ' H' ρ' S' Hb' s' rs' ab' q' => ⟨ρ', S', Hb', F, rs', ab', q', k.sub s'⟩, k.rt, k.bk, k.ct⟩⟩
theorem pds_one (h : PDS X st t) : PDSs X [st] t := pss_one h
def sBreak : TDS := fun F ρ S => F.bk ρ S
def sCont : TDS := fun F ρ S => F.ct ρ S
theorem pds_pass : PDS X (.Pass pos) sNext := PS.imp ps_pass fun E σ H ⟨ρ, S, Hb, F, rs, ab, q, k⟩ => k.nx _ _ _ _ _ (Same.refl _) rs ab q
theorem pds_break : PDS X (.Break pos) sBreak := PS.imp ps_break fun E σ H ⟨ρ, S, Hb, F, rs, ab, q, k⟩ => k.bk _ _ _ _ _ (Same.refl _) rs ab q
theorem pds_continue : PDS X (.Continue pos) sCont := PS.imp ps_continue fun E σ H ⟨ρ, S, Hb, F, rs, ab, q, k⟩ => k.ct _ _ _ _ _ (Same.refl _) rs ab q
def sDrop (te : TDE) : TDS := fun F ρ S => te ρ S fun _ S1 => F.nx ρ S1
theorem pds_expr (he : PD X e te) (hs : swapsWith e none pos.line X.env = pure false := by rfl) : PDS X (.Expr e pos) (sDrop te) := PS.imp (ps_expr he hs) fun E σ H ⟨ρ, S, Hb, F, rs, ab, q, k⟩ =>
  ⟨ρ, S, Hb, _, rs, ab, q, fun v H' d S' Hb' s' ab' r q' => k.nx _ _ _ _ _ s' (rs.sub s') ab' q'⟩
def sRet (te : TDE) : TDS := fun F ρ S => te ρ S F.rt
theorem pds_ret (he : PD X e te) : PDS X (.Return (some e) pos) (sRet te) := PS.imp (ps_ret he) fun E σ H ⟨ρ, S, Hb, F, rs, ab, q, k⟩ =>
  ⟨ρ, S, Hb, _, rs, ab, q, fun v H' d S' Hb' s' ab' r q' => k.rt _ _ _ _ _ s' ab' r q'⟩
def sRetN : TDS := fun F _ S => F.rt .non S
theorem pds_retN : PDS X (.Return none pos) sRetN := PS.imp ps_retN fun E σ H ⟨ρ, S, Hb, F, rs, ab, q, k⟩ => k.rt _ _ _ _ _ (Same.refl _) ab (by simp only [Rep]) q
def sIf (c : TDT) (t u : TDS) : TDS := fun F ρ S => c ρ S fun b S1 => if b = true then t F ρ S1 else u F ρ S1
theorem pds_if {c : Expr} {a b : List Stmt} {tc : TDT} (hc : PDT X c tc) (ha : PDSs X a t) (hb : PDSs X b u) : PDS X (.If c a b pos) (sIf tc t u) := PS.imp (ps_if hc ha hb) fun E σ H ⟨ρ, S, Hb, F, rs, ab, q, k⟩ => by
  refine ⟨ρ, S, Hb, _, rs, ab, q, fun c H1 S1 Hb1 s1 ab1 q1 => ?_⟩
  cases c with
  | true =>
    rw [if_pos rfl] at q1 ⊢
    exact ⟨ρ, S1, Hb1, F, rs.sub s1, ab1, q1, k.sub s1⟩
  | false =>
    rw [if_neg Bool.false_ne_true] at q1 ⊢
    exact ⟨ρ, S1, Hb1, F, rs.sub s1, ab1, q1, k.sub s1⟩
def sNever : TDS := fun _ _ _ => False
theorem pds_never : PDS X st sNever := PS.imp ps_never fun E σ H ⟨ρ, S, Hb, F, rs, ab, q, k⟩ => q

/-! ### targets -/
def gN (i : Nat) : TDG := fun d ρ S Q => Q (ρ.set i (some d)) S
def gsNil : TDGs := fun ds ρ S Q => asN ds (Q ρ S)
def gsCons (t : TDG) (u : TDGs) : TDGs := fun ds ρ S Q => asC ds fun d r => t d ρ S fun ρ' S' => u r ρ' S' Q
/-- a tuple, or a list? here a tuple -/
def gT (n : Nat) (t : TDGs) : TDG := fun d ρ S Q => asT d fun ds => ds.length = n ∧ t ds ρ S Q
theorem pdg_name {i : Nat} {x : Str} (hN : X.N.Nodup) (hi : X.N[i]? = some x) (hx : Loc X.env.scope x) (hf : X.fn x = true ∨ X.env.scope.names.lookup x = some .local := by first | exact .inl rfl | exact .inr rfl | assumption) : PDG X (.Name x pos) (gN i) :=
  PG.imp (pg_name hN hi hx hf) fun v σ H QV ⟨d, ρ, S, Hb, Q, r, rs, ab, q, k⟩ => k _ _ _ _ _ (Same.refl _) (rs.set i r) ab q
theorem pdg_nil : PDGs X [] gsNil := PGs.imp pgs_nil fun vs σ H QV ⟨ds, ρ, S, Hb, Q, r, rs, ab, q, k⟩ => by
  replace q := asN_iff.mp q
  obtain ⟨e, q⟩ := q
  subst e
  simp only [RepAll] at r
  exact ⟨r, k _ _ _ _ _ (Same.refl _) rs ab q⟩
theorem pdg_cons {e : Expr} {es : List Expr} {t : TDG} {u : TDGs} (h1 : PDG X e t) (h2 : PDGs X es u)
    (hs : (assignEach (e :: es) X.env).map (·.2) = assign e X.env :: (assignEach es X.env).map (·.2) := by rfl) : PDGs X (e :: es) (gsCons t u) :=
  PGs.imp (pgs_cons h1 h2 hs) fun vs σ H QV ⟨ds, ρ, S, Hb, Q, r, rs, ab, q, k⟩ => by
    replace q := asC_iff.mp q
    obtain ⟨d, dr, e, q⟩ := q
    subst e
    simp only [RepAll] at r
    obtain ⟨v, vr, rfl, r1, r2⟩ := r
    refine ⟨v, vr, rfl, d, ρ, S, Hb, _, r1, rs, ab, q, fun σ' H' ρ' S' Hb' s' rs' ab' q' => ?_⟩
    exact ⟨dr, ρ', S', Hb', Q, r2.sub s', rs', ab', q', fun σ2 H2 ρ2 S2 Hb2 s2 => k σ2 H2 ρ2 S2 Hb2 (s'.trans s2)⟩
theorem pdg_tup {es : List Expr} {k : Nat} {t : TDGs} {n : Nat} (hc : X.calm = true) (h : PDGs X es t)
    (hn : (assignEach es X.env).length = n := by rfl) (hst : (assignEach es X.env).findIdx? (·.1) = none := by rfl) : PDG X (.Tuple es k pos) (gT n t) :=
  PG.imp (pg_tup hc h hn hst) fun v σ H QV ⟨d, ρ, S, Hb, Q, r, rs, ab, q, k⟩ => by
    replace q := asT_iff.mp q
    obtain ⟨ds, e, hl, q⟩ := q
    subst e
    simp only [Rep] at r
    obtain ⟨a, vs, rfl, hs, hr⟩ := r
    refine ⟨a, vs, rfl, .inl (.inl (ab.sub _ _ hs)), hr.length.trans hl, ds, ρ, S, Hb, Q, hr, rs, ab, q, k⟩
def sAsg (te : TDE) (g : TDG) : TDS := fun F ρ S => te ρ S fun d S1 => g d ρ S1 F.nx
theorem lasg {g : TDG} {E : Ends} {σ : L2.St} {H : Hp} (q : lS K (sAsg te g) E σ H) : tAsg (lE K te) (lG K g) E σ H := by
  obtain ⟨ρ, S, Hb, F, rs, ab, q, k⟩ := q
  refine ⟨ρ, S, Hb, _, rs, ab, q, fun v H1 d S1 Hb1 s1 ab1 r1 q1 => ?_⟩
  exact ⟨d, ρ, S1, Hb1, _, r1, rs.sub s1, ab1, q1, fun σ' H' ρ' S' Hb' s2 => k.nx σ' H' ρ' S' Hb' (s1.trans s2)⟩
theorem pds_asg {tg e : Expr} {te : TDE} {g : TDG} (he : PD X e te) (hg : PDG X tg g) (hs : swapsWithSole [tg] e pos.line X.env = pure false := by rfl) (hw : swappedStores [tg] e X.env = pure none := by rfl)
    (h1 : (assignEach [tg] X.env).map (·.2) = [assign tg X.env] := by rfl) : PDS X (.Assign [tg] e pos) (sAsg te g) := PS.imp (ps_asg he hg hs hw h1) fun E σ H q => lasg q
theorem pds_set {i : Nat} {x : Str} {e : Expr} {te : TDE} {pos' : Pos} (hN : X.N.Nodup) (hi : X.N[i]? = some x) (hx : Loc X.env.scope x) (he : PD X e te) (hs : swapsWith e (some (.Name x pos')) pos.line X.env = pure false := by rfl) (hf : X.fn x = true ∨ X.env.scope.names.lookup x = some .local := by first | exact .inl rfl | exact .inr rfl | assumption) :
    PDS X (.Assign [.Name x pos'] e pos) (sAsg te (gN i)) := PS.imp (ps_set hN hi hx he hs hf) fun E σ H ⟨ρ, S, Hb, F, rs, ab, q, k⟩ =>
  ⟨ρ, S, Hb, _, rs, ab, q, fun v H1 d S1 Hb1 s1 ab1 r1 q1 => k.nx _ _ _ _ _ s1 ((rs.sub s1).set i r1) ab1 q1⟩
/-- a, b = x, y -/
def sPar (i j : Nat) (ta : TDA) : TDS := fun F ρ S => ta ρ S fun ds S1 => as2 ds fun d e => F.nx ((ρ.set i (some d)).set j (some e)) S1
theorem pds_par {i j : Nat} {x y : Str} {a b : Expr} {ta : TDA} {px py pt : Pos} {kt k2 pt2} (hc : X.calm = true) (hN : X.N.Nodup) (hi : X.N[i]? = some x) (hj : X.N[j]? = some y) (hij : i ≠ j)
    (hx : X.env.scope.names.lookup x = some .local) (hy : X.env.scope.names.lookup y = some .local) (ha : PDA X [a, b] ta)
    (hw : swappedStores [.Tuple [.Name x px, .Name y py] kt pt] (.Tuple [a, b] k2 pt2) X.env = pure (some [x, y]))
    (hs : swapsWithSole [.Tuple [.Name x px, .Name y py] kt pt] (.Tuple [a, b] k2 pt2) pos.line X.env = pure false := by rfl) :
    PDS X (.Assign [.Tuple [.Name x px, .Name y py] kt pt] (.Tuple [a, b] k2 pt2) pos) (sPar i j ta) :=
  PS.imp (ps_par hc hN hi hj hij hx hy ha hw hs) fun E σ H ⟨ρ, S, Hb, F, rs, ab, q, k⟩ => by
    refine ⟨ρ, S, Hb, _, rs, ab, q, fun vs H1 ds S1 Hb1 s1 ab1 r1 q1 => ?_⟩
    replace q1 := as2_iff.mp q1
    obtain ⟨d, e, e1, q1⟩ := q1
    subst e1
    simp only [RepAll] at r1
    obtain ⟨v, r, rfl, rv, w, r', rfl, rw', rfl⟩ := r1
    exact ⟨v, w, rfl, k.nx _ _ _ _ _ s1 (((rs.sub s1).set i rv).set j rw') ab1 q1⟩
/-- name op= e -/
def sAug (i : Nat) (te : TDE) (r : R2D) : TDS := fun F ρ S => withV ρ i fun d => te ρ S fun x S1 => r d x S1 fun z S2 => F.nx (ρ.set i (some z)) S2
theorem pds_aug {i : Nat} {x : Str} {e : Expr} {te : TDE} {op : Operator} {ti : TIp} {rd : R2D} {pos' : Pos} (hl : OpL X.K ti rd) (hN : X.N.Nodup) (hi : X.N[i]? = some x) (hx : Loc X.env.scope x) (he : PD X e te) (ho : PIp X op ti) (hf : X.fn x = true ∨ X.env.scope.names.lookup x = some .local := by first | exact .inl rfl | exact .inr rfl | assumption) :
    PDS X (.AugAssign (.Name x pos') op e pos) (sAug i te rd) := PS.imp (ps_aug hN hi hx he ho hf) fun E σ H ⟨ρ, S, Hb, F, rs, ab, q, k⟩ => by
  replace q := withV_iff.mp q
  obtain ⟨d, ed, q⟩ := q
  obtain ⟨v, ev, rv⟩ := rs.2 i d ed
  refine ⟨v, ev, ρ, S, Hb, _, rs, ab, q, fun y H1 dy S1 Hb1 s1 ab1 r1 q1 => ?_⟩
  exact hl v y H1 _ d dy S1 Hb1 _ (rv.sub s1) r1 ab1 q1 fun z H2 dz S2 Hb2 s2 ab2 r2 q2 => k.nx _ _ _ _ _ (s1.trans s2) ((rs.sub (s1.trans s2)).set i r2) ab2 q2
end
end DL

set_option maxHeartbeats 200000
/-! Lay2: loops, comprehensions, calls over data. -/
namespace DL
open PySem PySem.Spec PyProof.Rows L2
variable {K : PySem.W.Frag} {H H' Hb Hb' : Hp} {S S' : Sto}

/-! ### what a loop walks -/
structure Iter where
  items : List D
  ok : Sto → Prop
def ItOk (K : PySem.W.Frag) (Hb0 : Hp) (J : It) (it : Iter) : Prop := ∀ (i : Nat) (H Hb : Hp) (S : Sto), Sub Hb0 Hb → Ab K Hb H S → it.ok S →
  (∀ d, it.items[i]? = some d → J.go i H ∧ ∀ x H', J.yld i H x H' → ∃ Hb', Sub Hb Hb' ∧ Ab K Hb' H' S ∧ Rep K Hb' d x) ∧ (i = it.items.length → J.stop i H)
abbrev TDI := Rho → Sto → (Iter → Sto → Prop) → Prop
def lI (K : PySem.W.Frag) (t : TDI) : TI := fun σ H R => ∃ ρ S Hb Q, RelS K Hb σ ρ ∧ Ab K Hb H S ∧ t ρ S Q ∧
  ∀ J H' it S' Hb', Sub Hb Hb' → Ab K Hb' H' S' → ItOk K Hb' J it → Q it S' → R J H'
abbrev PDI (X : Cx) (tg e : Expr) (t : TDI) : Prop := PI X tg e (lI X.K t)
theorem PI.imp {X : Cx} {tg e : Expr} {t u : TI} (h : PI X tg e t) (k : ∀ σ H Q, u σ H Q → t σ H Q) : PI X tg e u := ⟨fun pins s σ H Q I q => h.run pins s σ H Q I (k σ H Q q)⟩

/-- the items of a list or a tuple -/
def seqOf (S : Sto) : D → Option (List D)
  | .lst xs => some xs
  | .tup xs => some xs
  | .rol xs => some xs
  | .rot xs => some xs
  | .ref a => match S a with
    | some (.lst xs) => some xs
    | _ => none
  | _ => none
@[simp] theorem seqOf_lst {xs : List D} : seqOf S (.lst xs) = some xs := rfl
@[simp] theorem seqOf_rol {xs : List D} : seqOf S (.rol xs) = some xs := rfl
@[simp] theorem seqOf_rot {xs : List D} : seqOf S (.rot xs) = some xs := rfl
@[simp] theorem seqOf_tup {xs : List D} : seqOf S (.tup xs) = some xs := rfl
theorem seqOf_ref {a : Addr} {xs : List D} (h : S a = some (.lst xs)) : seqOf S (.ref a) = some xs := by simp only [seqOf, h]
/-- what stands behind a sequence -/
theorem Rep.seq {d : D} {v : V} {xs : List D} (r : Rep K Hb d v) (A : Ab K Hb H S) (e : seqOf S d = some xs) :
    ∃ a vs, v = .ref a ∧ RepAll K Hb xs vs ∧ ((SqL K H a vs ∧ ((∃ ys, d = .lst ys ∨ d = .rol ys) ∨ d = .ref a)) ∨ (SqT K H a vs ∧ ∃ ys, d = .tup ys ∨ d = .rot ys)) := by
  cases d with
  | lst ys =>
    simp only [seqOf, Option.some.injEq] at e
    subst e
    simp only [Rep] at r
    obtain ⟨a, vs, rfl, hs, hr⟩ := r
    exact ⟨a, vs, rfl, hr, .inl ⟨.of (A.sub _ _ hs), .inl ⟨_, .inl rfl⟩⟩⟩
  | rol ys =>
    simp only [seqOf, Option.some.injEq] at e
    subst e
    simp only [Rep] at r
    obtain ⟨a, vs, rfl, hs, hr⟩ := r
    exact ⟨a, vs, rfl, hr, .inl ⟨A.sub.seq hs, .inl ⟨_, .inr rfl⟩⟩⟩
  | tup ys =>
    simp only [seqOf, Option.some.injEq] at e
    subst e
    simp only [Rep] at r
    obtain ⟨a, vs, rfl, hs, hr⟩ := r
    exact ⟨a, vs, rfl, hr, .inr ⟨.inl (.inl (A.sub _ _ hs)), _, .inl rfl⟩⟩
  | rot ys =>
    simp only [seqOf, Option.some.injEq] at e
    subst e
    simp only [Rep] at r
    obtain ⟨a, vs, rfl, hs, hr⟩ := r
    exact ⟨a, vs, rfl, hr, .inr ⟨seqT_sub A.sub hs, _, .inr rfl⟩⟩
  | ref a =>
    simp only [Rep] at r
    simp only [seqOf] at e
    split at e
    · rename_i ys q
      simp only [Option.some.injEq] at e
      subst e
      obtain ⟨vs, hv, hr⟩ := A.getL q
      exact ⟨a, vs, r, hr, .inl ⟨.of hv, .inr rfl⟩⟩
    · cases e
  | _ => simp only [seqOf] at e; cases e

/-! ### lists and tuples -/
def iSeq (K : PySem.W.Frag) (tl : TE) : TI := fun σ H R => tl σ H fun x H1 => ∃ a, x = .ref a ∧ (((∃ xs, SqL K H1 a xs) ∧ R (Itl K a) H1) ∨ ((∃ xs, SqT K H1 a xs) ∧ R (Itt K a) H1))
theorem pi_seq {X : Cx} {tg : Expr} {l : Expr} {tl : TE} (hl : PE X l tl) : PI X tg l (iSeq X.K tl) := by
  refine ⟨fun pins s σ H R I h => ?_⟩
  refine thn (hl.run pins s σ H _ I h) fun v s1 ⟨x, H1, I1, r1, q1⟩ => ?_
  obtain ⟨a, e, q⟩ := q1
  subst e
  cases r1
  rcases q with ⟨⟨xs, hq⟩, q⟩ | ⟨⟨xs, hq⟩, q⟩
  · obtain ⟨its, rv, p, hz⟩ := I1.list hq
    refine wpAny_pyIter_list p.isList ?_
    refine ⟨s1.heap.objs.size, [s1.heap.objs.size], _, _, H1, rfl, I1.kept (t' := s1.toks) fun b o e => Heap.get?_push_of_some _ e, turn_list a _, ⟨_, Heap.get?_push_size _ rfl, rfl, rfl⟩, fun b hb => ?_, q⟩
    have e : b = s1.heap.objs.size := by simpa using hb
    subst e
    exact I1.fpOk (Nat.le_refl _) (I1.hok.fresh (Nat.le_refl _))
  · obtain ⟨its, rv, p, hz⟩ := I1.tuple hq
    refine wpAny_pyIter_tuple (show s1.heap.IsTuple a its.toArray from p) ?_
    refine ⟨s1.heap.objs.size, [s1.heap.objs.size], _, _, H1, rfl, I1.kept (t' := s1.toks) fun b o e => Heap.get?_push_of_some _ e, turn_tuple a _, ⟨_, Heap.get?_push_size _ rfl, rfl, rfl⟩, fun b hb => ?_, q⟩
    have e : b = s1.heap.objs.size := by simpa using hb
    subst e
    exact I1.fpOk (Nat.le_refl _) (I1.hok.fresh (Nat.le_refl _))
/-- for x in a list or tuple -/
def dSeq (te : TDE) : TDI := fun ρ S Q => te ρ S fun d S1 => ∃ xs, seqOf S1 d = some xs ∧ Q ⟨xs, fun S => seqOf S d = some xs⟩ S1
theorem itOk_l {a : Addr} {vs : List V} {xs : List D} {d : D} (r : Rep K Hb d (.ref a)) (hd : (∃ ys, d = .lst ys ∨ d = .rol ys) ∨ d = .ref a) : ItOk K Hb (Itl K a) ⟨xs, fun S => seqOf S d = some xs⟩ := by
  intro i H2 Hb2 S2 sb ab ok
  obtain ⟨a2, us, e2, hr, q⟩ := (r.sub sb).seq ab ok
  cases e2
  have hS : SqL K H2 a us := by
    rcases q with ⟨q, _⟩ | ⟨_, ys, e⟩
    · exact q
    · rcases e with e | e <;> rcases hd with ⟨zs, z | z⟩ | z <;> (rw [z] at e; cases e)
  refine ⟨fun dd hx => ?_, fun e => ⟨us, hS, by rw [hr.length, e]; exact Nat.le_refl _⟩⟩
  obtain ⟨u, hu, ru⟩ := hr.get hx
  refine ⟨⟨us, u, hS, hu⟩, fun x H' ⟨e, y⟩ => ?_⟩
  subst e
  have := y us hS
  rw [hu] at this
  cases this
  exact ⟨Hb2, Same.refl _, ab, ru⟩
theorem itOk_t {a : Addr} {vs : List V} {xs : List D} {d : D} (r : Rep K Hb d (.ref a)) (hd : ∃ ys, d = .tup ys ∨ d = .rot ys) : ItOk K Hb (Itt K a) ⟨xs, fun S => seqOf S d = some xs⟩ := by
  intro i H2 Hb2 S2 sb ab ok
  obtain ⟨a2, us, e2, hr, q⟩ := (r.sub sb).seq ab ok
  cases e2
  obtain ⟨ys, hd⟩ := hd
  have hS : SqT K H2 a us := by
    rcases q with ⟨_, ⟨zs, z | z⟩ | z⟩ | ⟨q, _⟩
    · rcases hd with e | e <;> (rw [e] at z; cases z)
    · rcases hd with e | e <;> (rw [e] at z; cases z)
    · rcases hd with e | e <;> (rw [e] at z; cases z)
    · exact q
  refine ⟨fun dd hx => ?_, fun e => ⟨us, hS, by rw [hr.length, e]; exact Nat.le_refl _⟩⟩
  obtain ⟨u, hu, ru⟩ := hr.get hx
  refine ⟨⟨us, u, hS, hu⟩, fun x H' ⟨e, y⟩ => ?_⟩
  subst e
  have := y us hS
  rw [hu] at this
  cases this
  exact ⟨Hb2, Same.refl _, ab, ru⟩
section
variable {X : Cx} {tg e : Expr} {te : TDE}
theorem pdi_seq (h : PD X e te) : PDI X tg e (dSeq te) := PI.imp (pi_seq h) fun σ H R ⟨ρ, S, Hb, Q, rs, ab, q, k⟩ => by
  refine ⟨ρ, S, Hb, _, rs, ab, q, fun v H1 d S1 Hb1 s1 ab1 r1 ⟨xs, e1, q1⟩ => ?_⟩
  obtain ⟨a, vs, rfl, hr, z⟩ := r1.seq ab1 e1
  refine ⟨a, rfl, ?_⟩
  rcases z with ⟨z, hd⟩ | ⟨z, hd⟩
  · exact .inl ⟨⟨vs, z⟩, k _ _ _ _ _ s1 ab1 (itOk_l (vs := vs) r1 hd) q1⟩
  · exact .inr ⟨⟨vs, z⟩, k _ _ _ _ _ s1 ab1 (itOk_t (vs := vs) r1 hd) q1⟩

/-! ### ranges -/
def upI (lo : Int) (n : Nat) : List D := (List.range n).map fun i : Nat => D.int (lo + (i : Int))
@[simp] theorem upI_length {lo : Int} {n : Nat} : (upI lo n).length = n := by simp [upI]
theorem upI_get {lo : Int} {n i : Nat} (h : i < n) : (upI lo n)[i]? = some (.int (lo + i)) := by simp [upI, h]
theorem upI_get' {lo : Int} {n i : Nat} {d : D} (h : (upI lo n)[i]? = some d) : i < n ∧ d = .int (lo + i) := by
  simp only [upI, List.getElem?_map, Option.map_eq_some_iff] at h
  obtain ⟨j, h1, h2⟩ := h
  obtain ⟨h3, h4⟩ := List.getElem?_eq_some_iff.mp h1
  simp at h3 h4
  subst h4
  exact ⟨h3, h2.symm⟩
theorem itOk_r {lo : Int} {n : Nat} : ItOk K Hb (Itr lo n) ⟨upI lo n, fun _ => True⟩ := by
  intro i H2 Hb2 S2 sb ab ok
  refine ⟨fun d hx => ?_, fun e => by simp at e; exact Nat.le_of_eq e.symm⟩
  obtain ⟨h1, rfl⟩ := upI_get' hx
  refine ⟨h1, fun x H' ⟨e, y⟩ => ?_⟩
  subst e y
  exact ⟨Hb2, Same.refl _, ab, by simp only [Rep]⟩
variable {a b c : Expr} {ta tb : TDA}
def dRng1 (ta : TDA) : TDI := fun ρ S Q => ta ρ S fun ds S1 => as1 ds fun d => asI d fun j => -(2 ^ 62) ≤ j ∧ j < 2 ^ 62 ∧ Q ⟨upI 0 j.toNat, fun _ => True⟩ S1
def dRng2 (ta : TDA) : TDI := fun ρ S Q => ta ρ S fun ds S1 => as2 ds fun d e => asI d fun i => asI e fun j => (-(2 ^ 62) ≤ i ∧ i < 2 ^ 62 ∧ -(2 ^ 62) ≤ j ∧ j < 2 ^ 62) ∧ Q ⟨upI i (j - i).toNat, fun _ => True⟩ S1
theorem pdi_range1 {p pos : Pos} (hg : Gl X "range") (hm : X.mg "range" = none) (ha : PDA X [a] ta) (hs : starEach [a] X.env = [(false, eval a X.env)] := by rfl) : PDI X tg (.Call (.Name "range" p) [a] [] pos) (dRng1 ta) :=
  PI.imp (pi_range1 hg hm ha hs) fun σ H R ⟨ρ, S, Hb, Q, rs, ab, q, k⟩ => by
    refine ⟨ρ, S, Hb, _, rs, ab, q, fun vs H1 ds S1 Hb1 s1 ab1 r1 q1 => ?_⟩
    replace q1 := as1_iff.mp q1
    obtain ⟨d, rfl, q1⟩ := q1
    replace q1 := asI_iff.mp q1
    obtain ⟨j, rfl, h1, h2, q1⟩ := q1
    simp only [RepAll, Rep] at r1
    obtain ⟨v, r, rfl, rfl, rfl⟩ := r1
    exact ⟨j, rfl, h1, h2, k _ _ _ _ _ s1 ab1 itOk_r q1⟩
theorem pdi_range2 {p pos : Pos} (hg : Gl X "range") (hm : X.mg "range" = none) (ha : PDA X [a, b] ta) (hs : starEach [a, b] X.env = [(false, eval a X.env), (false, eval b X.env)] := by rfl) (hs2 : starEach [b] X.env = [(false, eval b X.env)] := by rfl) :
    PDI X tg (.Call (.Name "range" p) [a, b] [] pos) (dRng2 ta) :=
  PI.imp (pi_range2 hg hm ha hs hs2) fun σ H R ⟨ρ, S, Hb, Q, rs, ab, q, k⟩ => by
    refine ⟨ρ, S, Hb, _, rs, ab, q, fun vs H1 ds S1 Hb1 s1 ab1 r1 q1 => ?_⟩
    replace q1 := as2_iff.mp q1
    obtain ⟨d, d2, rfl, q1⟩ := q1
    replace q1 := asI_iff.mp q1
    obtain ⟨i, rfl, q1⟩ := q1
    replace q1 := asI_iff.mp q1
    obtain ⟨j, rfl, h1, q1⟩ := q1
    simp only [RepAll, Rep] at r1
    obtain ⟨v, r, rfl, rfl, v2, r2, rfl, rfl, rfl⟩ := r1
    exact ⟨i, j, rfl, h1, k _ _ _ _ _ s1 ab1 itOk_r q1⟩
/-- range(i, j, -1), reversed(range(..)) : downward -/
def down (hi : Int) (n : Nat) : List D := (List.range n).map fun i : Nat => D.int (hi - (i : Int))
@[simp] theorem down_length {hi : Int} {n : Nat} : (down hi n).length = n := by simp [down]
theorem down_get' {lo : Int} {n i : Nat} {d : D} (h : (down lo n)[i]? = some d) : i < n ∧ d = .int (lo - i) := by
  simp only [down, List.getElem?_map, Option.map_eq_some_iff] at h
  obtain ⟨j, h1, h2⟩ := h
  obtain ⟨h3, h4⟩ := List.getElem?_eq_some_iff.mp h1
  simp at h3 h4
  subst h4
  exact ⟨h3, h2.symm⟩
theorem itOk_d {hi : Int} {n : Nat} : ItOk K Hb (Itc hi (-1) n) ⟨down hi n, fun _ => True⟩ := by
  intro i H2 Hb2 S2 sb ab ok
  refine ⟨fun d hx => ?_, fun e => by simp at e; exact Nat.le_of_eq e.symm⟩
  obtain ⟨h1, rfl⟩ := down_get' hx
  refine ⟨h1, fun x H' ⟨e, y⟩ => ?_⟩
  subst e y
  exact ⟨Hb2, Same.refl _, ab, by simp only [Rep]; congr 1; omega⟩
def dRngD (ta : TDA) : TDI := fun ρ S Q => ta ρ S fun ds S1 => ∃ i j : Int, ds = [.int i, .int j, .int (-1)] ∧ (-(2 ^ 62) ≤ i ∧ i < 2 ^ 62 ∧ -(2 ^ 62) ≤ j ∧ j < 2 ^ 62) ∧ Q ⟨down i (i - j).toNat, fun _ => True⟩ S1
end

/-! ### targets that only set some slots -/
def TgL (K : PySem.W.Frag) (vs : List Nat) (g : TG) (gd : TDG) : Prop := ∀ (d : D) (v : V) (σ : L2.St) (ρ : Rho) (Hb H : Hp) (S : Sto) (Q : Rho → Sto → Prop) (QV : L2.St → Hp → Prop), Rep K Hb d v → RelS K Hb σ ρ → Ab K Hb H S → gd d ρ S Q →
  (∀ σ2 ρ2, RelS K Hb σ2 ρ2 → wipe σ2 vs = wipe σ vs → Q ρ2 S → QV σ2 H) → g v σ H QV
def TgsL (K : PySem.W.Frag) (vs : List Nat) (g : TGs) (gd : TDGs) : Prop := ∀ (ds : List D) (us : List V) (σ : L2.St) (ρ : Rho) (Hb H : Hp) (S : Sto) (Q : Rho → Sto → Prop) (QV : L2.St → Hp → Prop), RepAll K Hb ds us → RelS K Hb σ ρ → Ab K Hb H S → gd ds ρ S Q →
  (∀ σ2 ρ2, RelS K Hb σ2 ρ2 → wipe σ2 vs = wipe σ vs → Q ρ2 S → QV σ2 H) → g us σ H QV
structure PTg (X : Cx) (vs : List Nat) (tg : Expr) (g : TG) (gd : TDG) : Prop where
  pg : PG X tg g
  tl : TgL X.K vs g gd
structure PTgs (X : Cx) (vs : List Nat) (tgs : List Expr) (g : TGs) (gd : TDGs) : Prop where
  pg : PGs X tgs g
  tl : TgsL X.K vs g gd
theorem wipe_set {σ : L2.St} {i : Nat} {x : Option V} : ∀ {vs : List Nat}, i ∈ vs → wipe (σ.set i x) vs = wipe σ vs
  | v :: vs, h => by
    unfold wipe
    by_cases hm : i ∈ vs
    · rw [wipe_set hm]
    · have e : i = v := by
        rcases List.mem_cons.mp h with e | e
        · exact e
        · exact absurd e hm
      subst e
      have : wipe (σ.set i x) vs = (wipe σ vs).set i x := by
        clear h
        induction vs with
        | nil => rfl
        | cons u us ih =>
          have hu : i ≠ u := fun e => hm (by rw [e]; exact List.mem_cons_self)
          have := ih fun z => hm (List.mem_cons_of_mem _ z)
          show (wipe (σ.set i x) us).set u none = ((wipe σ us).set u none).set i x
          rw [this, List.set_comm _ _ hu]
      rw [this, List.set_set]
theorem tgL_name {i : Nat} {vs : List Nat} (h : i ∈ vs) : TgL K vs (gName i) (gN i) := fun d v σ ρ Hb H S Q QV r rs ab q k => k _ _ (rs.set i r) (wipe_set h) q
theorem tgsL_nil {vs : List Nat} : TgsL K vs gNil gsNil := fun ds us σ ρ Hb H S Q QV r rs ab q k => by
  replace q := asN_iff.mp q
  obtain ⟨e, q⟩ := q
  subst e
  simp only [RepAll] at r
  exact ⟨r, k _ _ rs rfl q⟩
theorem tgsL_cons {vs : List Nat} {g : TG} {gd : TDG} {gs : TGs} {gds : TDGs} (h1 : TgL K vs g gd) (h2 : TgsL K vs gs gds) : TgsL K vs (gCons g gs) (gsCons gd gds) := fun ds us σ ρ Hb H S Q QV r rs ab q k => by
  replace q := asC_iff.mp q
  obtain ⟨d, dr, e, q⟩ := q
  subst e
  simp only [RepAll] at r
  obtain ⟨v, vr, rfl, r1, r2⟩ := r
  refine ⟨v, vr, rfl, h1 d v σ ρ Hb H S _ _ r1 rs ab q fun σ2 ρ2 rs2 e2 q2 => ?_⟩
  exact h2 dr vr σ2 ρ2 Hb H S _ _ r2 rs2 ab q2 fun σ3 ρ3 rs3 e3 q3 => k _ _ rs3 (e3.trans e2) q3
theorem tgL_tup {vs : List Nat} {n : Nat} {gs : TGs} {gds : TDGs} (h : TgsL K vs gs gds) : TgL K vs (gTup K n gs) (gT n gds) := fun d v σ ρ Hb H S Q QV r rs ab q k => by
  replace q := asT_iff.mp q
  obtain ⟨ds, e, hl, q⟩ := q
  subst e
  simp only [Rep] at r
  obtain ⟨a, us, rfl, hs, hr⟩ := r
  exact ⟨a, us, rfl, .inl (.inl (ab.sub _ _ hs)), hr.length.trans hl, h ds us σ ρ Hb H S Q QV hr rs ab q k⟩
section
variable {X : Cx} {vs : List Nat} {pos : Pos}
theorem tg_name {i : Nat} {x : Str} (hN : X.N.Nodup) (hi : X.N[i]? = some x) (hx : Loc X.env.scope x) (hv : i ∈ vs := by decide) (hf : X.fn x = true ∨ X.env.scope.names.lookup x = some .local := by first | exact .inl rfl | exact .inr rfl | assumption) : PTg X vs (.Name x pos) (gName i) (gN i) :=
  ⟨pg_name hN hi hx hf, tgL_name hv⟩
theorem tgs_nil : PTgs X vs [] gNil gsNil := ⟨pgs_nil, tgsL_nil⟩
theorem tgs_cons {e : Expr} {es : List Expr} {t : TG} {u : TGs} {td : TDG} {ud : TDGs} (h1 : PTg X vs e t td) (h2 : PTgs X vs es u ud)
    (hs : (assignEach (e :: es) X.env).map (·.2) = assign e X.env :: (assignEach es X.env).map (·.2) := by rfl) : PTgs X vs (e :: es) (gCons t u) (gsCons td ud) := ⟨pgs_cons h1.pg h2.pg hs, tgsL_cons h1.tl h2.tl⟩
theorem tg_tup {es : List Expr} {k : Nat} {t : TGs} {td : TDGs} {n : Nat} (hc : X.calm = true) (h : PTgs X vs es t td)
    (hn : (assignEach es X.env).length = n := by rfl) (hst : (assignEach es X.env).findIdx? (·.1) = none := by rfl) : PTg X vs (.Tuple es k pos) (gTup X.K n t) (gT n td) := ⟨pg_tup hc h.pg hn hst, tgL_tup h.tl⟩
theorem PTg.pd {tg : Expr} {g : TG} {gd : TDG} (h : PTg X vs tg g gd) : PDG X tg gd := PG.imp h.pg fun v σ H QV ⟨d, ρ, S, Hb, Q, r, rs, ab, q, k⟩ =>
  h.tl d v σ ρ Hb H S Q QV r rs ab q fun σ2 ρ2 rs2 _ q2 => k _ _ _ _ _ (Same.refl _) rs2 ab q2

/-! ### for -/
def sFor (ti : TDI) (g : TDG) (tb : TDS) : TDS := fun F ρ S => ti ρ S fun it S1 => ∃ W : Nat → Rho → Sto → Prop, W 0 ρ S1 ∧ (∀ i ρ S, W i ρ S → it.ok S) ∧
  (∀ i d ρ S, it.items[i]? = some d → W i ρ S → g d ρ S fun ρ' S' => tb { F with nx := W (i + 1), ct := W (i + 1), bk := F.nx } ρ' S') ∧ ∀ ρ S, W it.items.length ρ S → F.nx ρ S
theorem pds_for {tg iter : Expr} {body : List Stmt} {ti : TDI} {g : TDG} {tb : TDS} (hp : PassesOwn (model X.prog X.w) X.A X.env X.xe) (hc : X.calm = true) (hi : PDI X tg iter ti) (hg : PDG X tg g) (hb : PDSs X body tb)
    (hs : ∀ x, foldedSetIterable iter X.env x = pure x := by intro _; rfl) : PDS X (.For tg iter body [] pos) (sFor ti g tb) :=
  PS.imp (ps_for hp hc hi hg hb hs) fun E σ H ⟨ρ, S, Hb, F, rs, ab, q, k⟩ => by
    refine ⟨ρ, S, Hb, _, rs, ab, q, fun J H1 it S1 Hb1 s1 ab1 io ⟨W, w0, wok, step, fin⟩ => ?_⟩
    refine ⟨fun i m σ H => ∃ ρ S Hb2, Sub Hb1 Hb2 ∧ RelS X.K Hb2 σ ρ ∧ Ab X.K Hb2 H S ∧ W i ρ S ∧ i ≤ it.items.length ∧ m = it.items.length - i, ⟨_, ρ, S1, Hb1, Same.refl _, rs.sub s1, ab1, w0, Nat.zero_le _, rfl⟩, ?_⟩
    rintro i m σ2 H2 ⟨ρ2, S2, Hb2, s2, rs2, ab2, w2, hle, rfl⟩
    obtain ⟨go, stop⟩ := io i H2 Hb2 S2 s2 ab2 (wok _ _ _ w2)
    by_cases hlt : i < it.items.length
    · have hd := List.getElem?_eq_getElem hlt
      obtain ⟨hgo, hy⟩ := go _ hd
      refine .inr ⟨hgo, fun σ' H' => ∃ ρ' S' Hb', Sub Hb2 Hb' ∧ RelS X.K Hb' σ' ρ' ∧ Ab X.K Hb' H' S' ∧ W (i + 1) ρ' S', fun σ' H' ⟨ρ', S', Hb', s', rs', ab', w'⟩ => ⟨_, by omega, ρ', S', Hb', s2.trans s', rs', ab', w', hlt, rfl⟩, fun x H' y => ?_⟩
      obtain ⟨Hb3, s3, ab3, r3⟩ := hy x H' y
      refine ⟨_, ρ2, S2, Hb3, _, r3, rs2.sub s3, ab3, step i _ ρ2 S2 hd w2, fun σ4 H4 ρ4 S4 Hb4 s4 rs4 ab4 q4 => ?_⟩
      refine ⟨ρ4, S4, Hb4, _, rs4, ab4, q4, ⟨fun σ5 H5 ρ5 S5 Hb5 s5 rs5 ab5 q5 => ⟨ρ5, S5, Hb5, (s3.trans s4).trans s5, rs5, ab5, q5⟩, fun v H5 d5 S5 Hb5 s5 => k.rt v H5 d5 S5 Hb5 (s1.trans (s2.trans (s3.trans (s4.trans s5)))),
        fun σ5 H5 ρ5 S5 Hb5 s5 => k.nx σ5 H5 ρ5 S5 Hb5 (s1.trans (s2.trans (s3.trans (s4.trans s5)))), fun σ5 H5 ρ5 S5 Hb5 s5 rs5 ab5 q5 => ⟨ρ5, S5, Hb5, (s3.trans s4).trans s5, rs5, ab5, q5⟩⟩⟩
    · have e : i = it.items.length := by omega
      refine .inl ⟨stop e, ?_⟩
      subst e
      exact k.nx _ _ _ _ _ (s1.trans s2) rs2 ab2 (fin _ _ w2)

/-! ### while -/
def sWhile (c : TDT) (tb : TDS) : TDS := fun F ρ S => ∃ W : Nat → Rho → Sto → Prop, (∃ m, W m ρ S) ∧ ∀ m ρ S, W m ρ S →
  c ρ S fun b S1 => if b = true then tb { F with nx := fun ρ' S' => ∃ m', m' < m ∧ W m' ρ' S', ct := fun ρ' S' => ∃ m', m' < m ∧ W m' ρ' S', bk := F.nx } ρ S1 else F.nx ρ S1
theorem pds_while {c : Expr} {body : List Stmt} {tc : TDT} {tb : TDS} (hp : PassesOwn (model X.prog X.w) X.A X.env X.xe) (hc : PDT X c tc) (hb : PDSs X body tb) : PDS X (.While c body [] pos) (sWhile tc tb) :=
  PS.imp (ps_while hp hc hb) fun E σ H ⟨ρ, S, Hb, F, rs, ab, ⟨W, ⟨m0, w0⟩, step⟩, k⟩ => by
    refine ⟨fun m σ H => ∃ ρ S Hb2, Sub Hb Hb2 ∧ RelS X.K Hb2 σ ρ ∧ Ab X.K Hb2 H S ∧ W m ρ S, ⟨m0, ρ, S, Hb, Same.refl _, rs, ab, w0⟩, ?_⟩
    rintro m σ2 H2 ⟨ρ2, S2, Hb2, s2, rs2, ab2, w2⟩
    refine ⟨ρ2, S2, Hb2, _, rs2, ab2, step m ρ2 S2 w2, fun b H3 S3 Hb3 s3 ab3 q3 => ?_⟩
    cases b with
    | true =>
      rw [if_pos rfl] at q3 ⊢
      refine ⟨fun σ' H' => ∃ ρ' S' Hb', Sub Hb Hb' ∧ RelS X.K Hb' σ' ρ' ∧ Ab X.K Hb' H' S' ∧ ∃ m', m' < m ∧ W m' ρ' S', fun σ' H' ⟨ρ', S', Hb', s', rs', ab', m', hm, w'⟩ => ⟨m', hm, ρ', S', Hb', s', rs', ab', w'⟩, ?_⟩
      refine ⟨ρ2, S3, Hb3, _, rs2.sub s3, ab3, q3, ⟨fun σ5 H5 ρ5 S5 Hb5 s5 rs5 ab5 q5 => ⟨ρ5, S5, Hb5, (s2.trans s3).trans s5, rs5, ab5, q5⟩, fun v H5 d5 S5 Hb5 s5 => k.rt v H5 d5 S5 Hb5 (s2.trans (s3.trans s5)),
        fun σ5 H5 ρ5 S5 Hb5 s5 => k.nx σ5 H5 ρ5 S5 Hb5 (s2.trans (s3.trans s5)), fun σ5 H5 ρ5 S5 Hb5 s5 rs5 ab5 q5 => ⟨ρ5, S5, Hb5, (s2.trans s3).trans s5, rs5, ab5, q5⟩⟩⟩
    | false =>
      rw [if_neg Bool.false_ne_true] at q3 ⊢
      exact k.nx _ _ _ _ _ (s2.trans s3) (rs2.sub s3) ab3 q3
end

/-! ### comprehensions -/
def dwipe (ρ : Rho) : List Nat → Rho
  | [] => ρ
  | v :: vs => (dwipe ρ vs).set v none
theorem dwipe_length (ρ : Rho) : ∀ vs : List Nat, (dwipe ρ vs).length = ρ.length
  | [] => rfl
  | v :: vs => by unfold dwipe; rw [List.length_set, dwipe_length ρ vs]
theorem RelS.forget {σ : L2.St} {ρ : Rho} (h : RelS K Hb σ ρ) (i : Nat) : RelS K Hb (σ.set i none) (ρ.set i none) := by
  refine ⟨by simp [h.1], fun j e q => ?_⟩
  by_cases hj : j = i
  · subst hj
    by_cases hl : j < ρ.length
    · rw [List.getElem?_set_self hl] at q; cases q
    · rw [List.getElem?_eq_none (by simp; omega)] at q; cases q
  · rw [List.getElem?_set_ne (Ne.symm hj)] at q ⊢
    exact h.2 j e q
theorem RelS.wipe {σ : L2.St} {ρ : Rho} (h : RelS K Hb σ ρ) : ∀ vs, RelS K Hb (L2.wipe σ vs) (dwipe ρ vs)
  | [] => h
  | v :: vs => (RelS.wipe h vs).forget v
/-- tests of a clause -/
abbrev PDTs (X : Cx) (ifs : List Expr) (t : TDT) : Prop := PTs X ifs (lT X.K t)
def dYes : TDT := fun _ S Q => Q true S
theorem pdts_nil {X : Cx} : PDTs X [] dYes := ⟨fun pins s σ H Q I ⟨ρ, S, Hb, QD, rs, ab, q, k⟩ => pts_nil.run pins s σ H Q I (k _ _ _ _ (Same.refl _) ab q)⟩
theorem pdts_one {X : Cx} {c : Expr} {t : TDT} (h : PDT X c t) : PDTs X [c] t := pts_one h
theorem wipe_mem {σ : L2.St} : ∀ {vs : List Nat} {i : Nat}, i ∈ vs → (L2.wipe σ vs).set i none = L2.wipe σ vs
  | v :: vs, i, h => by
    show ((L2.wipe σ vs).set v none).set i none = (L2.wipe σ vs).set v none
    by_cases e : i = v
    · subst e; rw [List.set_set]
    · have hm : i ∈ vs := by
        rcases List.mem_cons.mp h with z | z
        · exact absurd z e
        · exact z
      rw [List.set_comm _ _ (Ne.symm e), wipe_mem hm]
theorem wipe_sub {σ : L2.St} {vs : List Nat} : ∀ {us : List Nat}, (∀ i ∈ us, i ∈ vs) → L2.wipe (L2.wipe σ vs) us = L2.wipe σ vs
  | [], _ => rfl
  | u :: us, h => by
    show (L2.wipe (L2.wipe σ vs) us).set u none = L2.wipe σ vs
    rw [wipe_sub fun i hi => h i (List.mem_cons_of_mem _ hi), wipe_mem (h u List.mem_cons_self)]
/-- [e for g in i if t]: the list at p, a cell -/
def dLcB (ti : TDI) (g : TDG) (tt : TDT) (te : TDE) (vs : List Nat) (fin : Addr → Sto → QD → Prop) : TDE := fun ρ S Q => ti ρ S fun it S1 => ∀ p, S1 p = none → ∃ W : Nat → Sto → Prop, W 0 (sup S1 p (.lst [])) ∧ (∀ i S, W i S → it.ok S) ∧
  (∀ i d S, it.items[i]? = some d → W i S → g d (dwipe ρ vs) S fun ρ2 S2 => tt ρ2 S2 fun b S3 => if b = true then te ρ2 S3 fun y S4 => ∃ acc, S4 p = some (.lst acc) ∧ acc.length < sizeLine ∧ W (i + 1) (sup S4 p (.lst (acc ++ [y]))) else W (i + 1) S3) ∧
  ∀ S, W it.items.length S → fin p S Q
def dLcC (ti : TDI) (g : TDG) (tt : TDT) (te : TDE) (vs : List Nat) : TDE := dLcB ti g tt te vs fun p S Q => Q (.ref p) S
def dLc (ti : TDI) (g : TDG) (tt : TDT) (te : TDE) (vs : List Nat) : TDE := dLcB ti g tt te vs fun p S Q => ∃ acc, S p = some (.lst acc) ∧ Q (.lst acc) (sdel S p)
theorem llcB {ti : TDI} {g : TG} {gd : TDG} {tt : TDT} {te : TDE} {vs : List Nat} {fin : Addr → Sto → QD → Prop} (hg : TgL K vs g gd)
    (hf : ∀ {p H Hb S Q} {QV : VK}, Ab K Hb H S → fin p S Q → (∀ v H' d S' Hb', Sub Hb Hb' → Ab K Hb' H' S' → Rep K Hb' d v → Q d S' → QV v H') → QV (.ref p) H) {σ : L2.St} {H : Hp} {QV : VK} (h : lE K (dLcB ti gd tt te vs fin) σ H QV) :
    tLc (lI K ti) g (lT K tt) (lE K te) vs σ H QV := by
  obtain ⟨ρ, S, Hb, Q, rs, ab, q, k⟩ := h
  refine ⟨ρ, S, Hb, _, rs, ab, q, fun J H1 it S1 Hb1 s1 ab1 io q1 => ?_⟩
  intro D0 hD
  obtain ⟨W, w0, wok, step, fn⟩ := q1 D0 (ab1.free hD)
  refine ⟨fun i m H2 => ∃ S2 Hb2, Sub Hb1 Hb2 ∧ Ab K Hb2 H2 S2 ∧ W i S2 ∧ i ≤ it.items.length ∧ m = it.items.length - i,
    ⟨_, _, Hb1, Same.refl _, ab1.newL hD .nil, w0, Nat.zero_le _, rfl⟩, ?_⟩
  rintro i m H2 ⟨S2, Hb2, s2, ab2, w2, hle, rfl⟩
  obtain ⟨go, stop⟩ := io i H2 Hb2 S2 s2 ab2 (wok _ _ w2)
  by_cases hlt : i < it.items.length
  · have hd := List.getElem?_eq_getElem hlt
    obtain ⟨hgo, hy⟩ := go _ hd
    refine .inr ⟨hgo, fun H' => ∃ S' Hb', Sub Hb2 Hb' ∧ Ab K Hb' H' S' ∧ W (i + 1) S', fun H' ⟨S', Hb', s', ab', w'⟩ => ⟨_, by omega, S', Hb', s2.trans s', ab', w', hlt, rfl⟩, fun x H3 y => ?_⟩
    obtain ⟨Hb3, s3, ab3, r3⟩ := hy x H3 y
    have s03 := s1.trans (s2.trans s3)
    refine hg _ x _ _ Hb3 H3 S2 _ _ r3 ((rs.sub s03).wipe vs) ab3 (step i _ S2 hd w2) fun σ4 ρ4 rs4 e4 q4 => ?_
    refine ⟨e4.trans (wipe_sub fun _ z => z), ρ4, S2, Hb3, _, rs4, ab3, q4, fun b H5 S5 Hb5 s5 ab5 q5 => ?_⟩
    cases b with
    | true =>
      rw [if_pos rfl] at q5 ⊢
      refine ⟨ρ4, S5, Hb5, _, rs4.sub s5, ab5, q5, fun v H6 d S6 Hb6 s6 ab6 r6 ⟨acc, e6, l6, w6⟩ => ?_⟩
      obtain ⟨us, eu, ru⟩ := ab6.getL e6
      exact ⟨us, eu, by rw [ru.length]; exact l6, _, Hb6, s3.trans (s5.trans s6), ab6.setL e6 (ru.append (.one r6)), w6⟩
    | false =>
      rw [if_neg Bool.false_ne_true] at q5 ⊢
      exact ⟨S5, Hb5, s3.trans s5, ab5, q5⟩
  · have e : i = it.items.length := by omega
    refine .inl ⟨stop e, ?_⟩
    subst e
    exact hf ab2 (fn _ w2) fun v H' d S' Hb' s' => k v H' d S' Hb' (s1.trans (s2.trans s'))
theorem fin_frz {p : Addr} {Q : QD} {QV : VK} (A : Ab K Hb H S) (q : ∃ acc, S p = some (.lst acc) ∧ Q (.lst acc) (sdel S p)) (k : ∀ v H' d S' Hb', Sub Hb Hb' → Ab K Hb' H' S' → Rep K Hb' d v → Q d S' → QV v H') : QV (.ref p) H := by
  obtain ⟨acc, e, q⟩ := q
  obtain ⟨Hb2, s2, ab2, r2⟩ := A.freeze e
  exact k _ _ _ _ _ s2 ab2 r2 q
theorem fin_cell {p : Addr} {Q : QD} {QV : VK} (A : Ab K Hb H S) (q : Q (.ref p) S) (k : ∀ v H' d S' Hb', Sub Hb Hb' → Ab K Hb' H' S' → Rep K Hb' d v → Q d S' → QV v H') : QV (.ref p) H :=
  k _ _ _ _ _ (Same.refl _) A (by simp only [Rep]) q
section
variable {X : Cx}
variable {elt tg iter : Expr} {ifs : List Expr} {scope : Scope} {own : List (Str × Nat)} {pos : Pos} {ti : TDI} {g : TG} {gd : TDG} {tt : TDT} {te : TDE}
theorem pd_lcB {fin : Addr → Sto → QD → Prop} (hf : ∀ {p H Hb S Q} {QV : VK}, Ab X.K Hb H S → fin p S Q → (∀ v H' d S' Hb', Sub Hb Hb' → Ab X.K Hb' H' S' → Rep X.K Hb' d v → Q d S' → QV v H') → QV (.ref p) H)
    (hc : X.calm = true) (hN : X.N.Nodup) (hi : PDI X tg iter ti) (ok : BlkOk X.N X.env.scope scope own)
    (hg : ∀ (s : Shared) (H : Hp) (C : Addr) (cl : List (Str × Addr)) (fp : List Addr), PTg (X.blk s H scope (compEnvC scope cl C X.env) fp) (own.map (·.2)) tg g gd) (ht : ∀ (s : Shared) (H : Hp) (C : Addr) (cl : List (Str × Addr)) (fp : List Addr), PDTs (X.blk s H scope (compEnvC scope cl C X.env) fp) ifs tt)
    (he : ∀ (s : Shared) (H : Hp) (C : Addr) (cl : List (Str × Addr)) (fp : List Addr), PD (X.blk s H scope (compEnvC scope cl C X.env) fp) elt te) (hs : ∀ x, foldedSetIterable iter X.env x = pure x := by intro _; rfl) :
    PD X (.ListComp elt [⟨tg, iter, ifs, 0⟩] scope pos) (dLcB ti gd tt te (own.map (·.2)) fin) :=
  ⟨fun pins s σ H QV I q => (pe_lc hc hN hi ok (fun s H C cl fp => (hg s H C cl fp).pg) ht he hs).run pins s σ H QV I (llcB (hg s H 0 [] []).tl hf q)⟩
theorem pd_lc (hc : X.calm = true) (hN : X.N.Nodup) (hi : PDI X tg iter ti) (ok : BlkOk X.N X.env.scope scope own)
    (hg : ∀ (s : Shared) (H : Hp) (C : Addr) (cl : List (Str × Addr)) (fp : List Addr), PTg (X.blk s H scope (compEnvC scope cl C X.env) fp) (own.map (·.2)) tg g gd) (ht : ∀ (s : Shared) (H : Hp) (C : Addr) (cl : List (Str × Addr)) (fp : List Addr), PDTs (X.blk s H scope (compEnvC scope cl C X.env) fp) ifs tt)
    (he : ∀ (s : Shared) (H : Hp) (C : Addr) (cl : List (Str × Addr)) (fp : List Addr), PD (X.blk s H scope (compEnvC scope cl C X.env) fp) elt te) (hs : ∀ x, foldedSetIterable iter X.env x = pure x := by intro _; rfl) :
    PD X (.ListComp elt [⟨tg, iter, ifs, 0⟩] scope pos) (dLc ti gd tt te (own.map (·.2))) := pd_lcB fin_frz hc hN hi ok hg ht he hs
theorem pd_lcC (hc : X.calm = true) (hN : X.N.Nodup) (hi : PDI X tg iter ti) (ok : BlkOk X.N X.env.scope scope own)
    (hg : ∀ (s : Shared) (H : Hp) (C : Addr) (cl : List (Str × Addr)) (fp : List Addr), PTg (X.blk s H scope (compEnvC scope cl C X.env) fp) (own.map (·.2)) tg g gd) (ht : ∀ (s : Shared) (H : Hp) (C : Addr) (cl : List (Str × Addr)) (fp : List Addr), PDTs (X.blk s H scope (compEnvC scope cl C X.env) fp) ifs tt)
    (he : ∀ (s : Shared) (H : Hp) (C : Addr) (cl : List (Str × Addr)) (fp : List Addr), PD (X.blk s H scope (compEnvC scope cl C X.env) fp) elt te) (hs : ∀ x, foldedSetIterable iter X.env x = pure x := by intro _; rfl) :
    PD X (.ListComp elt [⟨tg, iter, ifs, 0⟩] scope pos) (dLcC ti gd tt te (own.map (·.2))) := pd_lcB fin_cell hc hN hi ok hg ht he hs
/-- name = [..] on one line -/
theorem pds_setLcB {fin : Addr → Sto → QD → Prop} (hf : ∀ {p H Hb S Q} {QV : VK}, Ab X.K Hb H S → fin p S Q → (∀ v H' d S' Hb', Sub Hb Hb' → Ab X.K Hb' H' S' → Rep X.K Hb' d v → Q d S' → QV v H') → QV (.ref p) H)
    {i : Nat} {y : Str} {py : Pos} {spos : Pos} (hc : X.calm = true) (hN : X.N.Nodup) (hy : X.N[i]? = some y) (hyl : X.env.scope.names.lookup y = some .local)
    (hsw : swapsWith (.ListComp elt [⟨tg, iter, ifs, 0⟩] scope pos) (some (.Name y py)) spos.line X.env = pure true) (hi : PDI X tg iter ti) (ok : BlkOk X.N X.env.scope scope own)
    (hg : ∀ (s : Shared) (H : Hp) (C : Addr) (cl : List (Str × Addr)) (fp : List Addr), PTg (X.blk s H scope (compEnvC scope cl C X.env) fp) (own.map (·.2)) tg g gd) (ht : ∀ (s : Shared) (H : Hp) (C : Addr) (cl : List (Str × Addr)) (fp : List Addr), PDTs (X.blk s H scope (compEnvC scope cl C X.env) fp) ifs tt)
    (he : ∀ (s : Shared) (H : Hp) (C : Addr) (cl : List (Str × Addr)) (fp : List Addr), PD (X.blk s H scope (compEnvC scope cl C X.env) fp) elt te) (hs : ∀ x, foldedSetIterable iter X.env x = pure x := by intro _; rfl) :
    PDS X (.Assign [.Name y py] (.ListComp elt [⟨tg, iter, ifs, 0⟩] scope pos) spos) (sAsg (dLcB ti gd tt te (own.map (·.2)) fin) (gN i)) :=
  ⟨fun pins s σ H E I q => by
    refine (ps_setLc (tt := lT X.K tt) (te := lE X.K te) hc hN hy hyl hsw hi ok (fun s H C cl fp => (hg s H C cl fp).pg) ht he hs).run pins s σ H E I ?_
    obtain ⟨ρ, S, Hb, F, rs, ab, q, k⟩ := q
    exact llcB (QV := fun x H1 => gName i x σ H1 E.nx) (hg s H 0 [] []).tl hf ⟨ρ, S, Hb, _, rs, ab, q, fun v H1 d S1 Hb1 s1 ab1 r1 q1 => k.nx _ _ _ _ _ s1 ((rs.sub s1).set i r1) ab1 q1⟩⟩
theorem pds_setLc {i : Nat} {y : Str} {py : Pos} {spos : Pos} (hc : X.calm = true) (hN : X.N.Nodup) (hy : X.N[i]? = some y) (hyl : X.env.scope.names.lookup y = some .local)
    (hsw : swapsWith (.ListComp elt [⟨tg, iter, ifs, 0⟩] scope pos) (some (.Name y py)) spos.line X.env = pure true) (hi : PDI X tg iter ti) (ok : BlkOk X.N X.env.scope scope own)
    (hg : ∀ (s : Shared) (H : Hp) (C : Addr) (cl : List (Str × Addr)) (fp : List Addr), PTg (X.blk s H scope (compEnvC scope cl C X.env) fp) (own.map (·.2)) tg g gd) (ht : ∀ (s : Shared) (H : Hp) (C : Addr) (cl : List (Str × Addr)) (fp : List Addr), PDTs (X.blk s H scope (compEnvC scope cl C X.env) fp) ifs tt)
    (he : ∀ (s : Shared) (H : Hp) (C : Addr) (cl : List (Str × Addr)) (fp : List Addr), PD (X.blk s H scope (compEnvC scope cl C X.env) fp) elt te) (hs : ∀ x, foldedSetIterable iter X.env x = pure x := by intro _; rfl) :
    PDS X (.Assign [.Name y py] (.ListComp elt [⟨tg, iter, ifs, 0⟩] scope pos) spos) (sAsg (dLc ti gd tt te (own.map (·.2))) (gN i)) := pds_setLcB fin_frz hc hN hy hyl hsw hi ok hg ht he hs
theorem pds_setLcC {i : Nat} {y : Str} {py : Pos} {spos : Pos} (hc : X.calm = true) (hN : X.N.Nodup) (hy : X.N[i]? = some y) (hyl : X.env.scope.names.lookup y = some .local)
    (hsw : swapsWith (.ListComp elt [⟨tg, iter, ifs, 0⟩] scope pos) (some (.Name y py)) spos.line X.env = pure true) (hi : PDI X tg iter ti) (ok : BlkOk X.N X.env.scope scope own)
    (hg : ∀ (s : Shared) (H : Hp) (C : Addr) (cl : List (Str × Addr)) (fp : List Addr), PTg (X.blk s H scope (compEnvC scope cl C X.env) fp) (own.map (·.2)) tg g gd) (ht : ∀ (s : Shared) (H : Hp) (C : Addr) (cl : List (Str × Addr)) (fp : List Addr), PDTs (X.blk s H scope (compEnvC scope cl C X.env) fp) ifs tt)
    (he : ∀ (s : Shared) (H : Hp) (C : Addr) (cl : List (Str × Addr)) (fp : List Addr), PD (X.blk s H scope (compEnvC scope cl C X.env) fp) elt te) (hs : ∀ x, foldedSetIterable iter X.env x = pure x := by intro _; rfl) :
    PDS X (.Assign [.Name y py] (.ListComp elt [⟨tg, iter, ifs, 0⟩] scope pos) spos) (sAsg (dLcC ti gd tt te (own.map (·.2))) (gN i)) := pds_setLcB fin_cell hc hN hy hyl hsw hi ok hg ht he hs
end

/-! ### what a def promises over data -/
abbrev Dsp := List D → Sto → QD → Prop
def lSp (K : PySem.W.Frag) (sp : Dsp) : Sp := fun vs H QV _ => ∃ ds S Hb Q, RepAll K Hb ds vs ∧ Ab K Hb H S ∧ sp ds S Q ∧
  ∀ v H' d S' Hb', Sub Hb Hb' → Ab K Hb' H' S' → Rep K Hb' d v → Q d S' → QV v H'
def dCall (sp : Dsp) (dds : List D) (ta : TDA) : TDE := fun ρ S Q => ta ρ S fun ds S1 => sp (ds ++ dds) S1 Q
/-- with keywords: g puts the values in the parameters' order -/
def dCallK (sp : Dsp) (n m : Nat) (g : List D → List D → List D) (ta tk : TDA) : TDE := fun ρ S Q => ta ρ S fun ds S1 => tk ρ S1 fun es S2 => ds.length = n ∧ es.length = m ∧ sp (g ds es) S2 Q
section
variable {X : Cx} {k : Nat} {f : Addr} {fd : FuncData} {ps ks : List Str} {sp : Dsp} {dds : List D} {dvs : List V} {dvl : List Value} {x : Str} {p pos : Pos} {e : Expr} {es : List Expr} {ta tk : TDA}
theorem pd_call (F : FnOk X.prog X.w X.K X.mg X.base CX0 k f fd ps (lSp X.K sp)) (hr : Room k X.A) (hg : Gl X x) (hm : X.mg x = some (.ref f)) (hk : PySem.W.keepIn X.K (.ref f) = true) (hb : Binds X.K fd ps dvl) (hd : Vals dvs dvl) (hdd : ∀ Hb, RepAll X.K Hb dds dvs)
    (ha : PDA X (e :: es) ta) (hdb : (x == ("__debug__" : Str)) = false := by decide) (he : starEach (e :: es) X.env = (false, eval e X.env) :: starEach es X.env := by rfl) (hpl : (backTo pos (starEach es X.env)).any (·.1) = false := by rfl) :
    PD X (.Call (.Name x p) (e :: es) [] pos) (dCall sp dds ta) := PE.imp (pe_call (E := E0) F hr hg hm hk hb hd pass0 ha hdb he hpl) fun σ H QV ⟨ρ, S, Hb, Q, rs, ab, q, kk⟩ =>
  ⟨ρ, S, Hb, _, rs, ab, q, fun vs H1 ds S1 Hb1 s1 ab1 r1 q1 => ⟨ds ++ dds, S1, Hb1, Q, r1.append (hdd _), ab1, q1, fun v H' d S' Hb' s' => kk v H' d S' Hb' (s1.trans s')⟩⟩
theorem pd_call0 (F : FnOk X.prog X.w X.K X.mg X.base CX0 k f fd ps (lSp X.K sp)) (hr : Room k X.A) (hg : Gl X x) (hm : X.mg x = some (.ref f)) (hk : PySem.W.keepIn X.K (.ref f) = true) (hb : Binds X.K fd ps dvl) (hd : Vals dvs dvl) (hdd : ∀ Hb, RepAll X.K Hb dds dvs)
    (hdb : (x == ("__debug__" : Str)) = false := by decide) :
    PD X (.Call (.Name x p) [] [] pos) (dCall sp dds dNil) := PE.imp (pe_call0 (E := E0) F hr hg hm hk hb hd pass0 hdb) fun σ H QV ⟨ρ, S, Hb, Q, rs, ab, q, kk⟩ =>
  show lSp X.K sp ([] ++ dvs) H QV E0 from ⟨dds, S, Hb, Q, hdd _, ab, q, kk⟩
/-- the values of keywords -/
abbrev PDK (X : Cx) (kws : List Keyword) (t : TDA) : Prop := PK X kws (lA X.K t)
theorem PK.imp {X : Cx} {e : List Keyword} {t u : TA} (h : PK X e t) (k : ∀ σ H Q, u σ H Q → t σ H Q) : PK X e u := ⟨fun pos pins s σ H Q I q => h.run pos pins s σ H Q I (k σ H Q q)⟩
theorem pdk_nil : PDK X [] dNil := PK.imp pk_nil fun σ H QV ⟨ρ, S, Hb, Q, rs, ab, q, k⟩ => k _ _ _ _ _ (Same.refl _) ab .nil q
theorem pdk_cons {nm : Option Str} {kpos : Pos} {kws : List Keyword} {te : TDE} {t : TDA} (ha : PD X e te) (hr : PDK X kws t) : PDK X (⟨nm, e, kpos⟩ :: kws) (dCons te t) := PK.imp (pk_cons ha hr) fun σ H QV q => lcons q
theorem pd_callK {kws : List Keyword} {n m : Nat} {g : List Value → List Value → List Value} {gV : List V → List V → List V} {gD : List D → List D → List D} (F : FnOk X.prog X.w X.K X.mg X.base CX0 k f fd ps (lSp X.K sp)) (hr : Room k X.A) (hg : Gl X x) (hm : X.mg x = some (.ref f)) (hk : PySem.W.keepIn X.K (.ref f) = true) (hb : KBn X.K fd ps n ks g gV)
    (hD : ∀ {Hb : Hp} {ds es : List D} {vs zs : List V}, ds.length = n → es.length = ks.length → RepAll X.K Hb ds vs → RepAll X.K Hb es zs → RepAll X.K Hb (gD ds es) (gV vs zs))
    (ha : PDA X (e :: es) ta) (hkw : PDK X kws tk) (hml : ks.length = m := by rfl) (hall : (backToKw pos (keywordEach kws X.env)).all (·.1.isSome) = true := by rfl) (hks : (backToKw pos (keywordEach kws X.env)).filterMap (·.1) = ks := by rfl)
    (hdb : (x == ("__debug__" : Str)) = false := by decide) (he : starEach (e :: es) X.env = (false, eval e X.env) :: starEach es X.env := by rfl)
    (hpl : ((backTo pos (starEach (e :: es) X.env)).any (·.1) || (backToKw pos (keywordEach kws X.env)).any (·.1.isNone)) = false := by rfl) :
    PD X (.Call (.Name x p) (e :: es) kws pos) (dCallK sp n m gD ta tk) := by
  subst hml
  exact PE.imp (pe_callN (E := E0) F hr hg hm hk hb pass0 ha hkw hall hks hdb he hpl) fun σ H QV ⟨ρ, S, Hb, Q, rs, ab, q, kk⟩ =>
  ⟨ρ, S, Hb, _, rs, ab, q, fun vs H1 ds S1 Hb1 s1 ab1 r1 q1 => ⟨ρ, S1, Hb1, _, rs.sub s1, ab1, q1, fun zs H2 es S2 Hb2 s2 ab2 r2 ⟨l1, l2, q2⟩ =>
    ⟨r1.length.trans l1, r2.length.trans l2, _, S2, Hb2, Q, hD l1 l2 (r1.sub s2) r2, ab2, q2, fun v H' d S' Hb' s' => kk v H' d S' Hb' (s1.trans (s2.trans s'))⟩⟩⟩
end
/-- built-in functions -/
def CallL (K : PySem.W.Frag) (r : List V → Hp → VK → Prop) (rd : List D → Sto → QD → Prop) : Prop := ∀ (vs : List V) (H : Hp) (QV : VK) (ds : List D) (S : Sto) (Hb : Hp) (Q : QD), RepAll K Hb ds vs → Ab K Hb H S → rd ds S Q →
  (∀ v H' d S' Hb', Sub Hb Hb' → Ab K Hb' H' S' → Rep K Hb' d v → Q d S' → QV v H') → r vs H QV
def dCB (r : List D → Sto → QD → Prop) (t : TDA) : TDE := fun ρ S Q => t ρ S fun ds S1 => r ds S1 Q
section
variable {X : Cx} {id T : String} {r : List V → Hp → VK → Prop} {rd : List D → Sto → QD → Prop} {x : Str} {p pos : Pos} {e : Expr} {es : List Expr} {ta : TDA}
theorem lcb {σ : L2.St} {H : Hp} {QV : VK} (h : CallL K r rd) (q : lE K (dCB rd ta) σ H QV) : tCB r (lA K ta) σ H QV := by
  obtain ⟨ρ, S, Hb, Q, rs, ab, q, kk⟩ := q
  exact ⟨ρ, S, Hb, _, rs, ab, q, fun vs H1 ds S1 Hb1 s1 ab1 r1 q1 => h vs H1 QV ds S1 Hb1 Q r1 ab1 q1 fun v H' d S' Hb' s' => kk v H' d S' Hb' (s1.trans s')⟩
theorem pd_callB (h : CallL X.K r rd) (hc : CallR X (.builtin id) r) (hg : Gl X x) (hm : X.mg x = none) (hv : bootBuiltins x = some (.builtin id)) (ha : PDA X (e :: es) ta) (hn : x ≠ "__name__" := by decide) (hdb : (x == ("__debug__" : Str)) = false := by decide)
    (he : starEach (e :: es) X.env = (false, eval e X.env) :: starEach es X.env := by rfl) (hpl : (backTo pos (starEach es X.env)).any (·.1) = false := by rfl) : PD X (.Call (.Name x p) (e :: es) [] pos) (dCB rd ta) :=
  PE.imp (pe_callB hc hg hm hv ha hn hdb he hpl) fun σ H QV q => lcb h q
theorem pd_callTy (h : CallL X.K r rd) (hc : CallR X (.type T) r) (hg : Gl X x) (hm : X.mg x = none) (hv : bootBuiltins x = some (.type T)) (ha : PDA X (e :: es) ta) (hn : x ≠ "__name__" := by decide) (hdb : (x == ("__debug__" : Str)) = false := by decide)
    (he : starEach (e :: es) X.env = (false, eval e X.env) :: starEach es X.env := by rfl) (hpl : (backTo pos (starEach es X.env)).any (·.1) = false := by rfl) : PD X (.Call (.Name x p) (e :: es) [] pos) (dCB rd ta) :=
  PE.imp (pe_callTy hc hg hm hv ha hn hdb he hpl) fun σ H QV q => lcb h q
end

/-! ### a def of the text, over data -/
def startD (n : Nat) (ds : List D) : Rho := ds.map some ++ List.replicate (n - ds.length) none
theorem relS_start {N : List Str} {ds : List D} {vs : List V} (r : RepAll K Hb ds vs) (n : Nat) (hn : n = N.length) : RelS K Hb (L2.start N vs) (startD n ds) := by
  have hl := r.length
  refine ⟨by simp [L2.start, startD, hl, hn], fun i d e => ?_⟩
  unfold startD at e
  by_cases hi : i < ds.length
  · rw [List.getElem?_append_left (by simpa using hi)] at e
    simp only [List.getElem?_map, Option.map_eq_some_iff, Option.some.injEq] at e
    obtain ⟨d', e1, rfl⟩ := e
    obtain ⟨v, e2, r2⟩ := r.get e1
    refine ⟨v, ?_, r2⟩
    unfold L2.start
    rw [List.getElem?_append_left (by simp; omega)]
    simp [e2]
  · rw [List.getElem?_append_right (by simp; omega)] at e
    simp [List.getElem?_replicate] at e
variable {P : Program} {w : World} {mg : Str → Option Value} {base : Heap}
theorem FunD.okD {x qual : Str} {params : Arguments} {body : List Stmt} {scope : Scope} {dvs : List V} {kws : List (Str × V)} {f : Addr} {fd : FuncData} {N ps : List Str} {k : Nat} {sp : Dsp} {t : TDS} (F : FunD K x qual params body scope dvs kws f fd) (S : FnScope N ps scope)
    (len : ∀ ds S Q, sp ds S Q → ds.length = ps.length) (vc : ∀ ds S Q, sp ds S Q → t { nx := fun _ S' => Q .non S', rt := Q } (startD N.length ds) S)
    (hbody : ∀ (cdv : Value) (A : Around) (outer : List Env) (s : Shared) (H : Hp) (E : XK), Room k (A.deeper (envOfC qual scope s.heap.objs.size f cdv)) →
      PDSs (cxOf CX0 P w K mg base N qual scope f cdv A outer s H E).nox body t) : FnOk P w K mg base CX0 (k + 1) f fd ps (lSp K sp) := by
  refine F.ok S (fun vs H Q E ⟨ds, S, Hb, QD, r, ab, q, _⟩ => r.length.trans (len _ _ _ q)) (fun cdv A outer s H vs Q E hr ⟨ds, S, Hb, QD, r, ab, q, kk⟩ => ⟨_, PSs.nox (hbody cdv A outer s H E hr), ?_⟩)
  refine ⟨startD N.length ds, S, Hb, _, relS_start r _ rfl, ab, vc ds S QD q, ⟨fun σ H' ρ S' Hb' s' rs' ab' q' => ?_, fun v H' d S' Hb' s' ab' r' q' => kk v H' d S' Hb' s' ab' r' q', fun _ _ _ _ _ _ _ _ z => z.elim, fun _ _ _ _ _ _ _ _ z => z.elim⟩⟩
  exact kk .non H' .non S' Hb' s' ab' (by simp only [Rep]) q'
end DL

set_option maxHeartbeats 200000
/-! Lay3: operators and built-ins over data. -/
namespace DL
open PySem PySem.Spec PyProof.Rows L2
variable {K : PySem.W.Frag} {H H' Hb Hb' : Hp} {S S' : Sto}

/-! ### data as the library has it -/
mutual
def D.pd : D → PyData
  | .non => .none
  | .bl b => .bool b
  | .int i => .int i
  | .str x => .str x
  | .ref _ => .none
  | .ty _ => .none
  | .lst xs => .list (pds xs)
  | .rol xs => .list (pds xs)
  | .rot xs => .tuple (pds xs)
  | .tup xs => .tuple (pds xs)
def pds : List D → List PyData
  | [] => []
  | x :: xs => x.pd :: pds xs
end
theorem pds_eq : ∀ xs : List D, pds xs = xs.map D.pd
  | [] => rfl
  | x :: xs => by rw [pds, pds_eq xs]; rfl
mutual
/-- plain data, at most so deep -/
def fit : Nat → D → Bool
  | _, .non => true
  | _, .bl _ => true
  | _, .int _ => true
  | _, .str x => PyData.strOk x
  | _, .ref _ => false
  | _, .ty _ => false
  | 0, .lst _ => false
  | 0, .tup _ => false
  | _, .rol _ => false
  | _, .rot _ => false
  | n + 1, .lst xs => fits n xs
  | n + 1, .tup xs => fits n xs
def fits : Nat → List D → Bool
  | _, [] => true
  | n, x :: xs => fit n x && fits n xs
end
theorem fits_eq (n : Nat) : ∀ xs : List D, fits n xs = xs.all (fit n)
  | [] => by simp [fits]
  | x :: xs => by simp [fits, fits_eq n xs]
theorem fits_iff {n : Nat} {xs : List D} : fits n xs = true ↔ ∀ x ∈ xs, fit n x = true := by rw [fits_eq, List.all_eq_true]
mutual
theorem fit_mono : ∀ {d : D} {n m : Nat}, n ≤ m → fit n d = true → fit m d = true
  | .non, _, _, _, _ => by simp [fit]
  | .bl _, _, _, _, _ => by simp [fit]
  | .int _, _, _, _, _ => by simp [fit]
  | .str x, _, _, _, h => by simpa [fit] using h
  | .ref _, _, _, _, h => by simp [fit] at h
  | .ty _, _, _, _, h => by simp [fit] at h
  | .rol _, _, _, _, h => by simp [fit] at h
  | .rot _, _, _, _, h => by simp [fit] at h
  | .lst xs, n, m, l, h => by
    cases n with
    | zero => simp [fit] at h
    | succ n =>
      cases m with
      | zero => omega
      | succ m => simp only [fit] at h ⊢; exact fits_mono (by omega) h
  | .tup xs, n, m, l, h => by
    cases n with
    | zero => simp [fit] at h
    | succ n =>
      cases m with
      | zero => omega
      | succ m => simp only [fit] at h ⊢; exact fits_mono (by omega) h
theorem fits_mono : ∀ {ds : List D} {n m : Nat}, n ≤ m → fits n ds = true → fits m ds = true
  | [], _, _, _, _ => by simp [fits]
  | d :: ds, n, m, l, h => by
    simp only [fits, Bool.and_eq_true] at h ⊢
    exact ⟨fit_mono l h.1, fits_mono l h.2⟩
end
mutual
theorem fit_lay : ∀ {d : D} {n : Nat}, fit n d = true → d.pd.canLay0 = true ∧ d.pd.depth ≤ n
  | .non, n, h => by simp [D.pd, PyData.canLay0, PyData.depth]
  | .bl _, n, h => by simp [D.pd, PyData.canLay0, PyData.depth]
  | .int _, n, h => by simp [D.pd, PyData.canLay0, PyData.depth]
  | .str x, n, h => by
    simp only [fit] at h
    simp [D.pd, PyData.canLay0, PyData.depth, h]
  | .ref _, n, h => by simp [fit] at h
  | .ty _, n, h => by simp [fit] at h
  | .rol _, n, h => by simp [fit] at h
  | .rot _, n, h => by simp [fit] at h
  | .lst xs, 0, h => by simp [fit] at h
  | .tup xs, 0, h => by simp [fit] at h
  | .lst xs, n + 1, h => by
    simp only [fit] at h
    obtain ⟨h1, h2⟩ := fits_lay h
    simp only [D.pd, PyData.canLay0, PyData.depth]
    exact ⟨h1, by omega⟩
  | .tup xs, n + 1, h => by
    simp only [fit] at h
    obtain ⟨h1, h2⟩ := fits_lay h
    simp only [D.pd, PyData.canLay0, PyData.depth]
    exact ⟨h1, by omega⟩
theorem fits_lay : ∀ {ds : List D} {n : Nat}, fits n ds = true → PyData.canLayAll0 (pds ds) = true ∧ PyData.depthAll (pds ds) ≤ n
  | [], n, h => by simp [pds, PyData.canLayAll0, PyData.depthAll]
  | d :: ds, n, h => by
    simp only [fits, Bool.and_eq_true] at h
    obtain ⟨h1, h2⟩ := fit_lay h.1
    obtain ⟨h3, h4⟩ := fits_lay h.2
    simp only [pds, PyData.canLayAll0, PyData.depthAll, h1, h3, Bool.and_self, true_and]
    omega
end
theorem fit_shaped {d : D} {n : Nat} (h : fit n d = true) (hn : n ≤ 64) : SeqAt.shaped d.pd = true := by
  obtain ⟨h1, h2⟩ := fit_lay h
  unfold SeqAt.shaped
  rw [h1, decide_eq_true (show d.pd.depth ≤ 64 by omega)]
  rfl
mutual
theorem Rep.dp : ∀ {d : D} {v : V} {n : Nat}, fit n d = true → Rep K H d v → Dp K H v d.pd
  | .non, v, n, f, h => by simp only [Rep] at h; subst h; exact .non
  | .bl b, v, n, f, h => by simp only [Rep] at h; subst h; exact .bl b
  | .int i, v, n, f, h => by simp only [Rep] at h; subst h; exact .int i
  | .str x, v, n, f, h => by simp only [Rep] at h; subst h; exact .str x
  | .ref _, v, n, f, h => by simp [fit] at f
  | .ty _, v, n, f, h => by simp [fit] at f
  | .rol _, v, n, f, h => by simp [fit] at f
  | .rot _, v, n, f, h => by simp [fit] at f
  | .lst xs, v, 0, f, h => by simp [fit] at f
  | .tup xs, v, 0, f, h => by simp [fit] at f
  | .lst xs, v, n + 1, f, h => by
    simp only [Rep] at h
    simp only [fit] at f
    obtain ⟨a, vs, rfl, hs, hr⟩ := h
    exact .lst (.of hs) (RepAll.dps f hr)
  | .tup xs, v, n + 1, f, h => by
    simp only [Rep] at h
    simp only [fit] at f
    obtain ⟨a, vs, rfl, hs, hr⟩ := h
    exact .tup (.inl (.inl hs)) (RepAll.dps f hr)
theorem RepAll.dps : ∀ {ds : List D} {vs : List V} {n : Nat}, fits n ds = true → RepAll K H ds vs → DpAll K H vs (pds ds)
  | [], vs, n, f, h => by simp only [RepAll] at h; subst h; exact .nil
  | d :: ds, vs, n, f, h => by
    simp only [RepAll] at h
    simp only [fits, Bool.and_eq_true] at f
    obtain ⟨v, r, rfl, h1, h2⟩ := h
    exact .cons (Rep.dp f.1 h1) (RepAll.dps f.2 h2)
end
/-- a cell as the list that it holds -/
def der (S : Sto) : D → D
  | .ref a => match S a with
    | some (.lst xs) => .lst xs
    | _ => .ref a
  | d => d
@[simp] theorem der_non : der S .non = .non := rfl
@[simp] theorem der_bl {b} : der S (.bl b) = .bl b := rfl
@[simp] theorem der_int {i} : der S (.int i) = .int i := rfl
@[simp] theorem der_str {x} : der S (.str x) = .str x := rfl
@[simp] theorem der_lst {x} : der S (.lst x) = .lst x := rfl
@[simp] theorem der_rot {x} : der S (.rot x) = .rot x := rfl
@[simp] theorem der_rol {x} : der S (.rol x) = .rol x := rfl
@[simp] theorem der_tup {x} : der S (.tup x) = .tup x := rfl
theorem der_ref {a : Addr} {xs : List D} (h : S a = some (.lst xs)) : der S (.ref a) = .lst xs := by simp only [der, h]
theorem Rep.deref {d : D} {v : V} (A : Ab K Hb H S) (r : Rep K Hb d v) : Rep K H (der S d) v := by
  cases d with
  | ref a =>
    simp only [Rep] at r
    subst r
    cases e : S a with
    | none => simp only [der, e, Rep]
    | some c =>
      cases c with
      | lst xs =>
        obtain ⟨vs, hv, hr⟩ := A.getL e
        simp only [der, e, Rep]
        exact ⟨a, vs, rfl, hv, hr.sub A.sub⟩
      | dK kvs => simp only [der, e, Rep]
      | dT kvs => simp only [der, e, Rep]
  | _ => exact r.sub A.sub
section
variable {X : Cx} {pins : List (Addr × Obj)} {σ : L2.St} {s : Shared}
theorem reads {d : D} {v : V} {u : Value} {n : Nat} (I : Inv X pins σ H s) (A : Ab X.K Hb H S) (r : Rep X.K Hb d v) (ru : RelV v u) (f : fit n (der S d) = true) : ∃ as, Reads s.heap u (der S d).pd as :=
  Dp.reads I _ v u ((r.deref A).dp f) ru
end

/-! ### whole numbers -/
section
variable {X : Cx}
def rdI (C : Int → Int → Prop) (g : Int → Int → D) : R2D := fun x y S Q => asI x fun i => asI y fun j => C i j ∧ Q (g i j) S
def rdI0 (g : Int → Int → D) : R2D := fun x y S Q => asI x fun i => asI y fun j => Q (g i j) S
theorem rdI_iff {C : Int → Int → Prop} {g : Int → Int → D} {x y : D} {S : Sto} {Q : QD} : rdI C g x y S Q ↔ ∃ i j, x = .int i ∧ y = .int j ∧ C i j ∧ Q (g i j) S := by
  simp only [rdI, asI_iff]
  constructor
  · rintro ⟨i, e1, j, e2, h⟩; exact ⟨i, j, e1, e2, h⟩
  · rintro ⟨i, j, e1, e2, h⟩; exact ⟨i, e1, j, e2, h⟩
theorem rdI0_iff {g : Int → Int → D} {x y : D} {S : Sto} {Q : QD} : rdI0 g x y S Q ↔ ∃ i j, x = .int i ∧ y = .int j ∧ Q (g i j) S := by
  simp only [rdI0, asI_iff]
  constructor
  · rintro ⟨i, e1, j, e2, h⟩; exact ⟨i, j, e1, e2, h⟩
  · rintro ⟨i, j, e1, e2, h⟩; exact ⟨i, e1, j, e2, h⟩
theorem opL_I {C : Int → Int → Prop} {g : Int → Int → V} {gd : Int → Int → D} (h : ∀ i j Hb, Rep K Hb (gd i j) (g i j)) : OpL K (rI C g) (rdI C gd) := by
  intro x y H QV dx dy S Hb Q rx ry ab q k
  replace q := rdI_iff.mp q
  obtain ⟨i, j, e1, e2, c, q⟩ := q
  subst e1 e2
  simp only [Rep] at rx ry
  exact ⟨i, j, rx, ry, c, k _ H _ S Hb (Same.refl _) ab (h i j Hb) q⟩
theorem opL_I0 {g : Int → Int → V} {gd : Int → Int → D} (h : ∀ i j Hb, Rep K Hb (gd i j) (g i j)) : OpL K (rI0 g) (rdI0 gd) := by
  intro x y H QV dx dy S Hb Q rx ry ab q k
  replace q := rdI0_iff.mp q
  obtain ⟨i, j, e1, e2, q⟩ := q
  subst e1 e2
  simp only [Rep] at rx ry
  exact ⟨i, j, rx, ry, k _ H _ S Hb (Same.refl _) ab (h i j Hb) q⟩
theorem rep_int (i : Int) (Hb : Hp) : Rep K Hb (.int i) (.int i) := by simp only [Rep]
theorem rep_bl (i : Bool) (Hb : Hp) : Rep K Hb (.bl i) (.bl i) := by simp only [Rep]
theorem rep_str (i : Str) (Hb : Hp) : Rep K Hb (.str i) (.str i) := by simp only [Rep]
theorem rep_non (Hb : Hp) : Rep K Hb .non .non := by simp only [Rep]

/-! ### + : numbers, texts, lists -/
/-- the items of a list (no tuple) -/
def lstOf (S : Sto) : D → Option (List D)
  | .lst xs => some xs
  | .ref a => match S a with
    | some (.lst xs) => some xs
    | _ => none
  | _ => none
@[simp] theorem lstOf_lst {xs : List D} : lstOf S (.lst xs) = some xs := rfl
theorem lstOf_ref {a : Addr} {xs : List D} (h : S a = some (.lst xs)) : lstOf S (.ref a) = some xs := by simp only [lstOf, h]
theorem Rep.list {d : D} {v : V} {xs : List D} (r : Rep K Hb d v) (A : Ab K Hb H S) (e : lstOf S d = some xs) : ∃ a vs, v = .ref a ∧ RepAll K Hb xs vs ∧ H a = some (.lst vs) := by
  cases d with
  | lst ys =>
    simp only [lstOf, Option.some.injEq] at e
    subst e
    simp only [Rep] at r
    obtain ⟨a, vs, rfl, hs, hr⟩ := r
    exact ⟨a, vs, rfl, hr, A.sub _ _ hs⟩
  | ref a =>
    simp only [Rep] at r
    simp only [lstOf] at e
    split at e
    · rename_i ys q
      simp only [Option.some.injEq] at e
      subst e
      obtain ⟨vs, hv, hr⟩ := A.getL q
      exact ⟨a, vs, r, hr, hv⟩
    · cases e
  | _ => simp only [lstOf] at e; cases e
def rdAddL : R2D := fun x y S Q => ∃ xs ys, lstOf S x = some xs ∧ lstOf S y = some ys ∧ xs.length + ys.length ≤ sizeLine ∧ Q (.lst (xs ++ ys)) S
def rdAdd : R2D := fun x y S Q => match x, y with
  | .int i, .int j => Q (.int (i + j)) S
  | .str i, .str j => i.length + j.length ≤ sizeLine ∧ Q (.str (i ++ j)) S
  | x, y => rdAddL x y S Q
theorem rdAdd_cases {x y : D} {S : Sto} {Q : QD} (h : rdAdd x y S Q) : (∃ i j, x = .int i ∧ y = .int j ∧ Q (.int (i + j)) S) ∨ (∃ i j, x = .str i ∧ y = .str j ∧ i.length + j.length ≤ sizeLine ∧ Q (.str (i ++ j)) S) ∨
    rdAddL x y S Q := by
  unfold rdAdd at h
  split at h
  · exact .inl ⟨_, _, rfl, rfl, h⟩
  · exact .inr (.inl ⟨_, _, rfl, rfl, h⟩)
  · exact .inr (.inr h)
theorem opR_add : OpR X (binaryOp .Add) (fun x y H Q => rI0 (fun i j => .int (i + j)) x y H Q ∨ ((fun x y H Q => ∃ i j, x = .str i ∧ y = .str j ∧ i.length + j.length ≤ sizeLine ∧ Q (.str (i ++ j)) H) x y H Q ∨ rCat x y H Q)) :=
  op_add.or (op_add_str.or op_cat)
theorem opL_add : OpL K (fun x y H Q => rI0 (fun i j => .int (i + j)) x y H Q ∨ ((fun x y H Q => ∃ i j, x = .str i ∧ y = .str j ∧ i.length + j.length ≤ sizeLine ∧ Q (.str (i ++ j)) H) x y H Q ∨ rCat x y H Q)) rdAdd := by
  intro x y H QV dx dy S Hb Q rx ry ab h k
  rcases rdAdd_cases h with ⟨i, j, rfl, rfl, q⟩ | ⟨i, j, rfl, rfl, l, q⟩ | ⟨xs, ys, e1, e2, l, q⟩
  · simp only [Rep] at rx ry
    exact .inl ⟨i, j, rx, ry, k _ H _ S Hb (Same.refl _) ab (rep_int _ _) q⟩
  · simp only [Rep] at rx ry
    exact .inr (.inl ⟨i, j, rx, ry, l, k _ H _ S Hb (Same.refl _) ab (rep_str _ _) q⟩)
  · obtain ⟨a, vs, rfl, hr, ha⟩ := rx.list ab e1
    obtain ⟨b, us, rfl, hr2, hb⟩ := ry.list ab e2
    refine .inr (.inr ⟨a, b, vs, us, rfl, rfl, ha, hb, by rw [hr.length, hr2.length]; exact l, fun p hp => ?_⟩)
    obtain ⟨ab2, s2⟩ := ab.froz (o := .lst (vs ++ us)) hp
    exact k _ _ _ _ _ s2 ab2 (.lstI upd_same ((hr.append hr2).sub s2)) q
variable {a b e : Expr} {ta tb te : TDE} {pos : Pos}
theorem pd_add (ha : PD X a ta) (hb : PD X b tb) : PD X (.BinOp a .Add b pos) (dOp rdAdd ta tb) := pd_op opL_add opR_add ha hb
def rdSub : R2D := rdI0 fun i j => .int (i - j)
theorem pd_sub (ha : PD X a ta) (hb : PD X b tb) : PD X (.BinOp a .Sub b pos) (dOp rdSub ta tb) := pd_op (opL_I0 fun _ _ _ => rep_int _ _) op_sub ha hb
/-- * : two numbers; a list so many times -/
def rdMulL : R2D := fun x y S Q => ∃ xs, lstOf S x = some xs ∧ asI y fun k => -(2 ^ 63) ≤ k ∧ k < 2 ^ 63 ∧ xs.length * k.toNat ≤ sizeLine ∧ Q (.lst (List.replicate k.toNat xs).flatten) S
def rdMul : R2D := fun x y S Q => match x, y with
  | .int i, .int j => CMulW i j ∧ Q (.int (i * j)) S
  | x, y => rdMulL x y S Q
theorem rdMul_cases {x y : D} {S : Sto} {Q : QD} (h : rdMul x y S Q) : (∃ i j, x = .int i ∧ y = .int j ∧ CMulW i j ∧ Q (.int (i * j)) S) ∨
  (∃ xs k, lstOf S x = some xs ∧ y = .int k ∧ -(2 ^ 63) ≤ k ∧ k < 2 ^ 63 ∧ xs.length * k.toNat ≤ sizeLine ∧ Q (.lst (List.replicate k.toNat xs).flatten) S) := by
  unfold rdMul at h
  split at h
  · exact .inl ⟨_, _, rfl, rfl, h⟩
  · obtain ⟨xs, e, h⟩ := h
    replace h := asI_iff.mp h
    obtain ⟨k, rfl, h⟩ := h
    exact .inr ⟨xs, k, e, rfl, h⟩
theorem RepAll.rep {ds : List D} {vs : List V} (h : RepAll K H ds vs) : ∀ k : Nat, RepAll K H (List.replicate k ds).flatten (List.replicate k vs).flatten
  | 0 => by simp only [List.replicate_zero, List.flatten_nil]; exact .nil
  | k + 1 => by simp only [List.replicate_succ, List.flatten_cons]; exact h.append (RepAll.rep h k)
theorem opL_mul : OpL K (fun x y H Q => rI CMulW (fun i j => .int (i * j)) x y H Q ∨ rRep x y H Q) rdMul := by
  intro x y H QV dx dy S Hb Q rx ry ab h k
  rcases rdMul_cases h with ⟨i, j, rfl, rfl, c, q⟩ | ⟨xs, n, e1, rfl, h1, h2, l, q⟩
  · simp only [Rep] at rx ry
    exact .inl ⟨i, j, rx, ry, c, k _ H _ S Hb (Same.refl _) ab (rep_int _ _) q⟩
  · obtain ⟨a, vs, rfl, hr, ha⟩ := rx.list ab e1
    simp only [Rep] at ry
    refine .inr ⟨a, n, vs, rfl, ry, ha, h1, h2, by rw [hr.length]; exact l, fun p hp => ?_⟩
    obtain ⟨ab2, s2⟩ := ab.froz (o := .lst (List.replicate n.toNat vs).flatten) hp
    exact k _ _ _ _ _ s2 ab2 (.lstI upd_same ((hr.rep _).sub s2)) q
theorem pd_mul (ha : PD X a ta) (hb : PD X b tb) : PD X (.BinOp a .Mult b pos) (dOp rdMul ta tb) := pd_op opL_mul (op_mulW.or op_rep) ha hb
/-- .. the list to be changed -/
def rdMulC : R2D := fun x y S Q => ∃ xs, lstOf S x = some xs ∧ asI y fun k => -(2 ^ 63) ≤ k ∧ k < 2 ^ 63 ∧ xs.length * k.toNat ≤ sizeLine ∧ ∀ p, S p = none → Q (.ref p) (sup S p (.lst (List.replicate k.toNat xs).flatten))
theorem opL_mulC : OpL K rRep rdMulC := by
  intro x y H QV dx dy S Hb Q rx ry ab ⟨xs, e1, q⟩ k
  replace q := asI_iff.mp q
  obtain ⟨n, e, h1, h2, l, q⟩ := q
  subst e
  obtain ⟨a, vs, rfl, hr, ha⟩ := rx.list ab e1
  simp only [Rep] at ry
  refine ⟨a, n, vs, rfl, ry, ha, h1, h2, by rw [hr.length]; exact l, fun p hp => ?_⟩
  exact k _ _ _ _ _ (Same.refl _) (ab.newL hp (hr.rep _)) (by simp only [Rep]) (q p (ab.free hp))
theorem pd_mulC (ha : PD X a ta) (hb : PD X b tb) : PD X (.BinOp a .Mult b pos) (dOp rdMulC ta tb) := pd_op opL_mulC op_rep ha hb
/-- // and % -/
def rdDiv : R2D := rdI (fun i j => CDivN i j ∨ CDivW i j) fun i j => .int (i.fdiv j)
theorem opR_fdiv : OpR X (binaryOp .FloorDiv) (rI (fun i j => CDivN i j ∨ CDivW i j) fun i j => .int (i.fdiv j)) := opI fun i j _ _ _ _ _ hc q => by
  rcases hc with hc | hc
  · exact floordiv_int hc.1 q (.inl (PyProof.noPylong_small hc.2))
  · exact floordiv_int (by have := hc.1; omega) q (.inl (PyProof.noPylong_of_log2 hc.2))
theorem pd_fdiv (ha : PD X a ta) (hb : PD X b tb) : PD X (.BinOp a .FloorDiv b pos) (dOp rdDiv ta tb) := pd_op (opL_I fun _ _ _ => rep_int _ _) opR_fdiv ha hb
def rdMod : R2D := rdI (fun _ j => j ≠ 0) fun i j => .int (i.fmod j)
theorem pd_mod (ha : PD X a ta) (hb : PD X b tb) : PD X (.BinOp a .Mod b pos) (dOp rdMod ta tb) := pd_op (opL_I fun _ _ _ => rep_int _ _) op_modN ha hb
def rdPow : R2D := rdI CPow fun i j => .int (i ^ j.toNat)
theorem pd_pow (ha : PD X a ta) (hb : PD X b tb) : PD X (.BinOp a .Pow b pos) (dOp rdPow ta tb) := pd_op (opL_I fun _ _ _ => rep_int _ _) op_pow ha hb
def dNeg (ta : TDE) : TDE := fun ρ S Q => ta ρ S fun d S1 => asI d fun i => Q (.int (-i)) S1
theorem pd_neg (ha : PD X a ta) : PD X (.UnaryOp .USub a pos) (dNeg ta) := PE.imp (pe_un un_neg ha) fun σ H QV ⟨ρ, S, Hb, Q, rs, ab, q, k⟩ => by
  refine ⟨ρ, S, Hb, _, rs, ab, q, fun v H1 d S1 Hb1 s1 ab1 r1 q1 => ?_⟩
  replace q1 := asI_iff.mp q1
  obtain ⟨i, rfl, q1⟩ := q1
  simp only [Rep] at r1
  exact ⟨i, r1, k _ _ _ _ _ s1 ab1 (rep_int _ _) q1⟩
/-- op= -/
theorem ip_of_op {op : Operator} {r : R2} (h : OpR X (inplaceOp op) r) : PIp X op r := fun pins s σ H x y v u Q I rx ry q => h pins s σ H x y v u Q I rx ry q
variable {i : Nat} {x : Str} {pos' : Pos}
theorem pds_augAdd (hN : X.N.Nodup) (hi : X.N[i]? = some x) (hx : Loc X.env.scope x) (he : PD X e te) (hf : X.fn x = true ∨ X.env.scope.names.lookup x = some .local := by first | exact .inl rfl | exact .inr rfl | assumption) :
    PDS X (.AugAssign (.Name x pos') .Add e pos) (sAug i te (rdI0 fun i j => .int (i + j))) := pds_aug (opL_I0 fun _ _ _ => rep_int _ _) hN hi hx he (ip_of_op iop_add) hf

/-! ### comparisons -/
/-- what can be ordered: numbers; data -/
def rdOrdD (f : PyData → PyData → Bool) : R2D := fun x y S Q => fit 60 (der S x) = true ∧ fit 60 (der S y) = true ∧ PySem.W.alike (der S x).pd (der S y).pd = true ∧ (der S x).pd ≠ .none ∧ Q (.bl (f (der S x).pd (der S y).pd)) S
def rdOrd (fi : Int → Int → Bool) (f : PyData → PyData → Bool) : R2D := fun x y S Q => match x, y with
  | .int i, .int j => Q (.bl (fi i j)) S
  | x, y => rdOrdD f x y S Q
def rOrd (K : PySem.W.Frag) (fi : Int → Int → Bool) (f : PyData → PyData → Bool) : R2 := fun x y H Q => (∃ i j, x = .int i ∧ y = .int j ∧ Q (.bl (fi i j)) H) ∨
  ∃ d e, Dp K H x d ∧ Dp K H y e ∧ PySem.W.alike d e = true ∧ d ≠ .none ∧ d.depth ≤ 60 ∧ Q (.bl (f d e)) H
theorem opL_ord {fi : Int → Int → Bool} {f : PyData → PyData → Bool} : OpL K (rOrd K fi f) (rdOrd fi f) := by
  intro x y H QV dx dy S Hb Q rx ry ab h k
  unfold rdOrd at h
  split at h
  · simp only [Rep] at rx ry
    exact .inl ⟨_, _, rx, ry, k _ H _ S Hb (Same.refl _) ab (rep_bl _ _) h⟩
  · obtain ⟨f1, f2, al, nn, q⟩ := h
    exact .inr ⟨_, _, (rx.deref ab).dp f1, (ry.deref ab).dp f2, al, nn, (fit_lay f1).2, k _ H _ S Hb (Same.refl _) ab (rep_bl _ _) q⟩
theorem opR_ord {op : CmpOp} {fi : Int → Int → Bool} {f : PyData → PyData → Bool} (hu : X.A.units + 64 < cLine)
    (hi : ∀ (i j : Int) (t u : Tok) (Q : Value → Shared → Prop) (s : Shared), Q (.bool (fi i j)) s → wpAny (model X.prog X.w) X.A (compareOp op (.int i t) (.int j u)) Q X.xe s)
    (hd : ∀ (s : Shared) (a b : Value) (da db : PyData) (as bs : List Addr) (Q : Value → Shared → Prop), Reads s.heap a da as → Reads s.heap b db bs → PySem.W.alike da db = true → da ≠ .none → X.A.units + min da.depth db.depth < cLine → Q (.bool (f da db)) s → wpAny (model X.prog X.w) X.A (compareOp op a b) Q X.xe s) :
    OpR X (compareOp op) (rOrd X.K fi f) := by
  intro pins s σ H x y v u Q I rx ry h
  rcases h with ⟨i, j, rfl, rfl, q⟩ | ⟨d, e, hd1, he, al, nn, dp, q⟩
  · obtain ⟨t, rfl⟩ := rx
    obtain ⟨t', rfl⟩ := ry
    exact hi i j t t' _ s ⟨.bl _, H, I, rfl, q⟩
  · obtain ⟨as, r1⟩ := Dp.reads I d x v hd1 rx
    obtain ⟨bs, r2⟩ := Dp.reads I e y u he ry
    exact hd s v u d e as bs _ r1 r2 al nn (by omega) ⟨.bl _, H, I, rfl, q⟩
def rdLt : R2D := rdOrd (fun i j => decide (i < j)) fun d e => PySem.W.dataLt d e
def rdGt : R2D := rdOrd (fun i j => decide (j < i)) fun d e => PySem.W.dataLt e d
def rdLe : R2D := rdOrd (fun i j => decide (i ≤ j)) fun d e => !PySem.W.dataLt e d
def rdGe : R2D := rdOrd (fun i j => decide (j ≤ i)) fun d e => !PySem.W.dataLt d e
theorem opR_lt (hu : X.A.units + 64 < cLine) : OpR X (compareOp .Lt) (rOrd X.K (fun i j => decide (i < j)) fun d e => PySem.W.dataLt d e) := opR_ord hu (fun _ _ _ _ _ _ h => lt_int h) fun _ _ _ _ _ _ _ _ r1 r2 a n u q => PySem.W.lt_data r1 r2 a n u q
theorem opR_gt (hu : X.A.units + 64 < cLine) : OpR X (compareOp .Gt) (rOrd X.K (fun i j => decide (j < i)) fun d e => PySem.W.dataLt e d) := opR_ord hu (fun _ _ _ _ _ _ h => gt_int h) fun _ _ _ _ _ _ _ _ r1 r2 a n u q => PySem.W.gt_data r1 r2 a n u q
theorem opR_le (hu : X.A.units + 64 < cLine) : OpR X (compareOp .LtE) (rOrd X.K (fun i j => decide (i ≤ j)) fun d e => !PySem.W.dataLt e d) := opR_ord hu (fun _ _ _ _ _ _ h => le_int h) fun _ _ _ _ _ _ _ _ r1 r2 a n u q => PySem.W.le_data r1 r2 a n u q
theorem opR_ge (hu : X.A.units + 64 < cLine) : OpR X (compareOp .GtE) (rOrd X.K (fun i j => decide (j ≤ i)) fun d e => !PySem.W.dataLt d e) := opR_ord hu (fun _ _ _ _ _ _ h => ge_int h) fun _ _ _ _ _ _ _ _ r1 r2 a n u q => PySem.W.ge_data r1 r2 a n u q
/-- == and != : data -/
def rdEqv : R2D := fun x y S Q => fit 60 (der S x) = true ∧ fit 60 (der S y) = true ∧ Q (.bl (PyData.eqv (der S x).pd (der S y).pd)) S
def rdNev : R2D := fun x y S Q => fit 60 (der S x) = true ∧ fit 60 (der S y) = true ∧ Q (.bl (!PyData.eqv (der S x).pd (der S y).pd)) S
theorem opL_eq : OpL K (rEqD K) rdEqv := by
  intro x y H QV dx dy S Hb Q rx ry ab ⟨f1, f2, q⟩ k
  exact ⟨_, _, (rx.deref ab).dp f1, (ry.deref ab).dp f2, fit_shaped f1 (by omega), fit_shaped f2 (by omega), k _ H _ S Hb (Same.refl _) ab (rep_bl _ _) q⟩
theorem opL_ne : OpL K (rNeD K) rdNev := by
  intro x y H QV dx dy S Hb Q rx ry ab ⟨f1, f2, q⟩ k
  exact ⟨_, _, (rx.deref ab).dp f1, (ry.deref ab).dp f2, fit_shaped f1 (by omega), fit_shaped f2 (by omega), k _ H _ S Hb (Same.refl _) ab (rep_bl _ _) q⟩
theorem pd_lt (hu : X.A.units + 64 < cLine) (ha : PD X a ta) (hb : PD X b tb) : PD X (.Compare a [.Lt] [b] pos) (dOp rdLt ta tb) := pd_cmp opL_ord (opR_lt hu) ha hb (nomark _)
theorem pd_gt (hu : X.A.units + 64 < cLine) (ha : PD X a ta) (hb : PD X b tb) : PD X (.Compare a [.Gt] [b] pos) (dOp rdGt ta tb) := pd_cmp opL_ord (opR_gt hu) ha hb (nomark _)
theorem pd_le (hu : X.A.units + 64 < cLine) (ha : PD X a ta) (hb : PD X b tb) : PD X (.Compare a [.LtE] [b] pos) (dOp rdLe ta tb) := pd_cmp opL_ord (opR_le hu) ha hb (nomark _)
theorem pd_ge (hu : X.A.units + 64 < cLine) (ha : PD X a ta) (hb : PD X b tb) : PD X (.Compare a [.GtE] [b] pos) (dOp rdGe ta tb) := pd_cmp opL_ord (opR_ge hu) ha hb (nomark _)
theorem pd_eq (hu : X.A.units + 64 < cLine) (ha : PD X a ta) (hb : PD X b tb) : PD X (.Compare a [.Eq] [b] pos) (dOp rdEqv ta tb) := pd_cmp opL_eq (op_eqD hu) ha hb (nomark _)
theorem pd_ne (hu : X.A.units + 64 < cLine) (ha : PD X a ta) (hb : PD X b tb) : PD X (.Compare a [.NotEq] [b] pos) (dOp rdNev ta tb) := pd_cmp opL_ne (op_neD hu) ha hb (nomark _)
theorem pdt_lt (hu : X.A.units + 64 < cLine) (ha : PD X a ta) (hb : PD X b tb) : PDT X (.Compare a [.Lt] [b] pos) (dB (dOp rdLt ta tb)) := pdt_cmp opL_ord (opR_lt hu) ha hb (nomark _)
theorem pdt_gt (hu : X.A.units + 64 < cLine) (ha : PD X a ta) (hb : PD X b tb) : PDT X (.Compare a [.Gt] [b] pos) (dB (dOp rdGt ta tb)) := pdt_cmp opL_ord (opR_gt hu) ha hb (nomark _)
theorem pdt_le (hu : X.A.units + 64 < cLine) (ha : PD X a ta) (hb : PD X b tb) : PDT X (.Compare a [.LtE] [b] pos) (dB (dOp rdLe ta tb)) := pdt_cmp opL_ord (opR_le hu) ha hb (nomark _)
theorem pdt_ge (hu : X.A.units + 64 < cLine) (ha : PD X a ta) (hb : PD X b tb) : PDT X (.Compare a [.GtE] [b] pos) (dB (dOp rdGe ta tb)) := pdt_cmp opL_ord (opR_ge hu) ha hb (nomark _)
theorem pdt_eq (hu : X.A.units + 64 < cLine) (ha : PD X a ta) (hb : PD X b tb) : PDT X (.Compare a [.Eq] [b] pos) (dB (dOp rdEqv ta tb)) := pdt_cmp opL_eq (op_eqD hu) ha hb (nomark _)
theorem pdt_ne (hu : X.A.units + 64 < cLine) (ha : PD X a ta) (hb : PD X b tb) : PDT X (.Compare a [.NotEq] [b] pos) (dB (dOp rdNev ta tb)) := pdt_cmp opL_ne (op_neD hu) ha hb (nomark _)
/-- a < b <= c -/
def dChain (r r' : R2D) (ta tb tc : TDE) : TDE := fun ρ S Q => ta ρ S fun x S1 => tb ρ S1 fun y S2 => r x y S2 fun z S3 => asB z fun k => if k = true then tc ρ S3 fun w S4 => r' y w S4 Q else Q (.bl false) S3
variable {c : Expr} {tc : TDE}
end
end DL

set_option maxHeartbeats 200000
/-! Lay4: more operators and built-ins over data. -/
namespace DL
open PySem PySem.Spec PyProof.Rows L2
variable {K : PySem.W.Frag} {H H' Hb Hb' : Hp} {S S' : Sto}
def withO {α : Type} (o : Option α) (k : α → Prop) : Prop := match o with
  | some x => k x
  | none => False
theorem withO_iff {α : Type} {o : Option α} {k : α → Prop} : withO o k ↔ ∃ x, o = some x ∧ k x := by
  unfold withO
  constructor
  · intro h
    split at h
    · exact ⟨_, rfl, h⟩
    · exact h.elim
  · rintro ⟨d, rfl, h⟩
    exact h
@[simp] theorem withO_some {α : Type} {x : α} {k : α → Prop} : withO (some x) k = k x := rfl
section
variable {X : Cx} {a b c e : Expr} {ta tb tc te : TDE} {pos : Pos}

/-! ### chains -/
theorem lchain {r r' : R2} {rd rd' : R2D} (h : OpL K r rd) (h' : OpL K r' rd') {σ : L2.St} {H : Hp} {QV : VK} (q : lE K (dChain rd rd' ta tb tc) σ H QV) : tChain r r' (lE K ta) (lE K tb) (lE K tc) σ H QV := by
  obtain ⟨ρ, S, Hb, Q, rs, ab, q, k⟩ := q
  refine ⟨ρ, S, Hb, _, rs, ab, q, fun v1 H1 d1 S1 Hb1 s1 ab1 r1 q1 => ?_⟩
  refine ⟨ρ, S1, Hb1, _, rs.sub s1, ab1, q1, fun v2 H2 d2 S2 Hb2 s2 ab2 r2 q2 => ?_⟩
  refine h v1 v2 H2 _ d1 d2 S2 Hb2 _ (r1.sub s2) r2 ab2 q2 fun v3 H3 d3 S3 Hb3 s3 ab3 r3 q3 => ?_
  obtain ⟨c, rfl, q4⟩ := asB_iff.mp q3
  simp only [Rep] at r3
  refine ⟨c, r3, ?_⟩
  cases c with
  | true =>
    rw [if_pos rfl] at q4 ⊢
    refine ⟨ρ, S3, Hb3, _, rs.sub (s1.trans (s2.trans s3)), ab3, q4, fun v5 H5 d5 S5 Hb5 s5 ab5 r5 q5 => ?_⟩
    exact h' v2 v5 H5 QV d2 d5 S5 Hb5 Q (r2.sub (s3.trans s5)) r5 ab5 q5 fun v H' d S' Hb' s' => k v H' d S' Hb' (s1.trans (s2.trans (s3.trans (s5.trans s'))))
  | false =>
    rw [if_neg Bool.false_ne_true] at q4 ⊢
    exact k _ _ _ _ _ (s1.trans (s2.trans s3)) ab3 (rep_bl _ _) q4
theorem pd_chain {op op' : CmpOp} {r r' : R2} {rd rd' : R2D} (h : OpL X.K r rd) (h' : OpL X.K r' rd') (ho : OpR X (compareOp op) r) (ho' : OpR X (compareOp op') r') (ha : PD X a ta) (hb : PD X b tb) (hc : PD X c tc)
    (hm : lastMarks [op, op'] [b, c] = false := by with_unfolding_all rfl) : PD X (.Compare a [op, op'] [b, c] pos) (dChain rd rd' ta tb tc) := PE.imp (pe_chain ho ho' ha hb hc hm) fun _ _ _ q => lchain h h' q
theorem pdt_chain {op op' : CmpOp} {r r' : R2} {rd rd' : R2D} (h : OpL X.K r rd) (h' : OpL X.K r' rd') (ho : OpR X (compareOp op) r) (ho' : OpR X (compareOp op') r') (ha : PD X a ta) (hb : PD X b tb) (hc : PD X c tc)
    (hm : lastMarks [op, op'] [b, c] = false := by with_unfolding_all rfl) : PDT X (.Compare a [op, op'] [b, c] pos) (dB (dChain rd rd' ta tb tc)) := PT.imp (pt_chain ho ho' ha hb hc hm) fun _ _ _ q => liftB (fun _ _ _ q => lchain h h' q) q

/-! ### is None -/
def isNon : D → Bool
  | .non => true
  | _ => false
theorem Rep.isNon {d : D} {v : V} (r : Rep K Hb d v) : decide (v = .non) = DL.isNon d := by
  cases d <;> simp only [Rep, DL.isNon] at r ⊢
  case non => subst r; rfl
  case lst => obtain ⟨a, vs, rfl, _⟩ := r; rfl
  case tup => obtain ⟨a, vs, rfl, _⟩ := r; rfl
  case rol => obtain ⟨a, vs, rfl, _⟩ := r; rfl
  case rot => obtain ⟨a, vs, rfl, _⟩ := r; rfl
  all_goals (subst r; rfl)
def dIsN (te : TDE) : TDE := fun ρ S Q => te ρ S fun d S1 => Q (.bl (isNon d)) S1
def dNotN (te : TDE) : TDE := fun ρ S Q => te ρ S fun d S1 => Q (.bl (!isNon d)) S1
theorem lisN {σ : L2.St} {H : Hp} {QV : VK} (q : lE K (dIsN te) σ H QV) : tIsN (lE K te) σ H QV := by
  obtain ⟨ρ, S, Hb, Q, rs, ab, q, k⟩ := q
  refine ⟨ρ, S, Hb, _, rs, ab, q, fun v1 H1 d1 S1 Hb1 s1 ab1 r1 q1 => ?_⟩
  have e := r1.isNon
  rw [← e] at q1
  exact k _ _ _ _ _ s1 ab1 (rep_bl _ _) q1
theorem lnotN {σ : L2.St} {H : Hp} {QV : VK} (q : lE K (dNotN te) σ H QV) : tNotN (lE K te) σ H QV := by
  obtain ⟨ρ, S, Hb, Q, rs, ab, q, k⟩ := q
  refine ⟨ρ, S, Hb, _, rs, ab, q, fun v1 H1 d1 S1 Hb1 s1 ab1 r1 q1 => ?_⟩
  have e := r1.isNon
  rw [← e] at q1
  exact k _ _ _ _ _ s1 ab1 (rep_bl _ _) q1
variable {j : Nat} {pos' : Pos}
theorem pd_isN (he : PD X e te) : PD X (.Compare e [.Is] [.Constant .none j pos'] pos) (dIsN te) := PE.imp (pe_cmp (pc_isN he)) fun _ _ _ q => lisN q
theorem pd_notN (he : PD X e te) : PD X (.Compare e [.IsNot] [.Constant .none j pos'] pos) (dNotN te) := PE.imp (pe_cmp (pc_notN he)) fun _ _ _ q => lnotN q
theorem pdt_isN (he : PD X e te) : PDT X (.Compare e [.Is] [.Constant .none j pos'] pos) (dB (dIsN te)) := PT.imp (pt_cmp (pc_isN he)) fun _ _ _ q => liftB (fun _ _ _ q => lisN q) q
theorem pdt_notN (he : PD X e te) : PDT X (.Compare e [.IsNot] [.Constant .none j pos'] pos) (dB (dNotN te)) := PT.imp (pt_cmp (pc_notN he)) fun _ _ _ q => liftB (fun _ _ _ q => lnotN q) q

/-! ### x in a list, a tuple of data -/
def rInD (K : PySem.W.Frag) (neg : Bool) : R2 := fun x y H Q => ∃ d es, Dp K H x d ∧ (Dp K H y (.list es) ∨ Dp K H y (.tuple es)) ∧ PyData.plainAll es = true ∧ d.plain = true ∧ d.depth ≤ 60 ∧ Q (.bl (if neg then !es.any fun z => PyData.eqv z d else es.any fun z => PyData.eqv z d)) H
theorem opR_inD (hu : X.A.units + 64 < cLine) : OpR X (compareOp .In) (rInD X.K false) := by
  intro pins s σ H x y v u Q I rx ry ⟨d, es, hd, he, p1, p2, dp, q⟩
  obtain ⟨as, r1⟩ := Dp.reads I d x v hd rx
  rcases he with he | he
  · obtain ⟨bs, r2⟩ := Dp.reads I _ y u he ry
    exact PySem.SeqAt.in_list_data r2 r1 p1 p2 (by omega) ⟨.bl _, H, I, rfl, q⟩
  · obtain ⟨bs, r2⟩ := Dp.reads I _ y u he ry
    exact PySem.SeqAt.in_tuple_data r2 r1 p1 p2 (by omega) ⟨.bl _, H, I, rfl, q⟩
theorem opR_notInD (hu : X.A.units + 64 < cLine) : OpR X (compareOp .NotIn) (rInD X.K true) := by
  intro pins s σ H x y v u Q I rx ry ⟨d, es, hd, he, p1, p2, dp, q⟩
  obtain ⟨as, r1⟩ := Dp.reads I d x v hd rx
  rcases he with he | he
  · obtain ⟨bs, r2⟩ := Dp.reads I _ y u he ry
    exact PySem.SeqAt.notIn_list_data r2 r1 p1 p2 (by omega) ⟨.bl _, H, I, rfl, q⟩
  · obtain ⟨bs, r2⟩ := Dp.reads I _ y u he ry
    exact PySem.SeqAt.notIn_tuple_data r2 r1 p1 p2 (by omega) ⟨.bl _, H, I, rfl, q⟩
def rdIn (neg : Bool) : R2D := fun x y S Q => fit 60 (der S x) = true ∧ ∃ es, seqOf S y = some es ∧ fits 60 es = true ∧ Q (.bl (if neg then !es.any fun z => PyData.eqv z.pd (der S x).pd else es.any fun z => PyData.eqv z.pd (der S x).pd)) S
theorem fit_plain {d : D} {n : Nat} (h : fit n d = true) : d.pd.plain = true := PySem.PyData.plain_of_canLay0 _ (fit_lay h).1
theorem fits_plain {d : List D} {n : Nat} (h : fits n d = true) : PyData.plainAll (pds d) = true := PySem.PyData.plainAll_of_canLay0 _ (fits_lay h).1
theorem Rep.cont {d : D} {v : V} {es : List D} {n : Nat} (A : Ab K Hb H S) (r : Rep K Hb d v) (e : seqOf S d = some es) (f : fits n es = true) (hr : ∀ ys, d ≠ .rol ys) : Dp K H v (.list (pds es)) ∨ Dp K H v (.tuple (pds es)) := by
  have r2 := r.deref A
  cases d with
  | lst xs =>
    simp only [seqOf, Option.some.injEq] at e
    subst e
    exact .inl (Rep.dp (n := n + 1) (by simpa only [fit, der_lst, der_tup] using f) r2)
  | tup xs =>
    simp only [seqOf, Option.some.injEq] at e
    subst e
    exact .inr (Rep.dp (n := n + 1) (by simpa only [fit, der_lst, der_tup] using f) r2)
  | rol xs => exact absurd rfl (hr xs)
  | rot xs =>
    simp only [seqOf, Option.some.injEq] at e
    subst e
    simp only [der_rot, Rep] at r2
    obtain ⟨a, vs, rfl, hs, hr'⟩ := r2
    exact .inr (.tup hs (RepAll.dps f hr'))
  | ref a =>
    simp only [seqOf] at e
    split at e
    · rename_i ys q
      simp only [Option.some.injEq] at e
      subst e
      rw [der_ref q] at r2
      exact .inl (Rep.dp (n := n + 1) (by simpa only [fit, der_lst, der_tup] using f) r2)
    · cases e
  | _ => simp only [seqOf] at e; cases e
def isRol : D → Bool
  | .rol _ => true
  | _ => false
def rdIn' (neg : Bool) : R2D := fun x y S Q => fit 60 (der S x) = true ∧ isRol y = false ∧ withO (seqOf S y) fun es => fits 60 es = true ∧ Q (.bl (if neg then !es.any fun z => PyData.eqv z.pd (der S x).pd else es.any fun z => PyData.eqv z.pd (der S x).pd)) S
theorem any_pds (es : List D) (p : PyData) : ((pds es).any fun z => PyData.eqv z p) = es.any fun z => PyData.eqv z.pd p := by
  rw [pds_eq, List.any_map]
  rfl
theorem opL_in {neg : Bool} : OpL K (rInD K neg) (rdIn' neg) := by
  intro x y H QV dx dy S Hb Q rx ry ab ⟨f1, nr, q⟩ k
  replace q := withO_iff.mp q
  obtain ⟨es, e1, f2, q⟩ := q
  refine ⟨_, pds es, (rx.deref ab).dp f1, ry.cont ab e1 f2 (fun ys z => by rw [z] at nr; cases nr), fits_plain f2, fit_plain f1, (fit_lay f1).2, k _ H _ S Hb (Same.refl _) ab (rep_bl _ _) ?_⟩
  rw [any_pds]
  exact q
theorem pd_in (hu : X.A.units + 64 < cLine) (ha : PD X a ta) (hb : PD X b tb) (hm : behindInMarks .In b = false) : PD X (.Compare a [.In] [b] pos) (dOp (rdIn' false) ta tb) := pd_cmp opL_in (opR_inD hu) ha hb hm
theorem pd_notIn (hu : X.A.units + 64 < cLine) (ha : PD X a ta) (hb : PD X b tb) (hm : behindInMarks .NotIn b = false) : PD X (.Compare a [.NotIn] [b] pos) (dOp (rdIn' true) ta tb) := pd_cmp opL_in (opR_notInD hu) ha hb hm
theorem pdt_in (hu : X.A.units + 64 < cLine) (ha : PD X a ta) (hb : PD X b tb) (hm : behindInMarks .In b = false) : PDT X (.Compare a [.In] [b] pos) (dB (dOp (rdIn' false) ta tb)) := pdt_cmp opL_in (opR_inD hu) ha hb hm
theorem pdt_notIn (hu : X.A.units + 64 < cLine) (ha : PD X a ta) (hb : PD X b tb) (hm : behindInMarks .NotIn b = false) : PDT X (.Compare a [.NotIn] [b] pos) (dB (dOp (rdIn' true) ta tb)) := pdt_cmp opL_in (opR_notInD hu) ha hb hm
/-- a sign, or a text, in a text -/
def rdInS (neg : Bool) : R2D := fun x y S Q => asS x fun i => asS y fun z => Q (.bl (if neg then !(!(Builtin.Str.occurrences z i 0 z.length 1).isEmpty) else !(Builtin.Str.occurrences z i 0 z.length 1).isEmpty)) S
theorem pd_inS (ha : PD X a ta) (hb : PD X b tb) (hm : behindInMarks .In b = false) : PD X (.Compare a [.In] [b] pos) (dOp (rdInS false) ta tb) := pd_cmp (fun x y H QV dx dy S Hb Q rx ry ab q k => by
  replace q := asS_iff.mp q
  obtain ⟨i, rfl, q⟩ := q
  replace q := asS_iff.mp q
  obtain ⟨z, rfl, q⟩ := q
  simp only [Rep] at rx ry
  exact ⟨i, z, rx, ry, k _ H _ S Hb (Same.refl _) ab (rep_bl _ _) q⟩) op_in_str ha hb hm

/-! ### items -/
def rdIxS : R2D := fun x y S Q => asI y fun i => asS x fun z => z.length ≤ sizeLine ∧ withO (atI z.cps.toList i) fun c => Q (.str ⟨#[c]⟩) S
def rdIxL : R2D := fun x y S Q => asI y fun i => withO (seqOf S x) fun xs => withO (atI xs i) fun v => Q v S
def rdIx : R2D := fun x y S Q => match x with
  | .str z => rdIxS (.str z) y S Q
  | x => rdIxL x y S Q
theorem rdIx_cases {x y : D} {S : Sto} {Q : QD} (h : rdIx x y S Q) : rdIxS x y S Q ∨ rdIxL x y S Q := by
  unfold rdIx at h
  split at h
  · exact .inl h
  · exact .inr h
theorem RepAll.at {ds : List D} {vs : List V} {i : Int} {d : D} (h : RepAll K H ds vs) (e : atI ds i = some d) : ∃ v, atI vs i = some v ∧ Rep K H d v := by
  unfold atI at e ⊢
  rw [h.length]
  cases q : ixN ds.length i with
  | none => rw [q] at e; cases e
  | some j =>
    rw [q] at e
    exact h.get e
theorem opL_ix {x y : V} {H : Hp} {QV : VK} {dx dy : D} {S : Sto} {Hb : Hp} {Q : QD} (rx : Rep K Hb dx x) (ry : Rep K Hb dy y) (ab : Ab K Hb H S) (h : rdIx dx dy S Q)
    (k : ∀ v H' d S' Hb', Sub Hb Hb' → Ab K Hb' H' S' → Rep K Hb' d v → Q d S' → QV v H') : rIx K x y H QV := by
  rcases rdIx_cases h with h | h
  · obtain ⟨i, rfl, h⟩ := asI_iff.mp h
    replace h := asS_iff.mp h
    obtain ⟨z, rfl, l, h⟩ := h
    obtain ⟨c, e, q⟩ := withO_iff.mp h
    simp only [Rep] at rx ry
    exact .inr (.inr ⟨z, i, c, rx, ry, l, e, k _ H _ S Hb (Same.refl _) ab (rep_str _ _) q⟩)
  · obtain ⟨i, rfl, h⟩ := asI_iff.mp h
    replace h := withO_iff.mp h
    obtain ⟨xs, e1, h⟩ := h
    obtain ⟨v, e2, q⟩ := withO_iff.mp h
    simp only [Rep] at ry
    obtain ⟨a, vs, rfl, hr, z⟩ := rx.seq ab e1
    obtain ⟨u, eu, ru⟩ := hr.at e2
    rcases z with ⟨z, _⟩ | ⟨z, _⟩
    · exact .inl ⟨a, vs, i, u, rfl, ry, z, eu, k _ H _ S Hb (Same.refl _) ab ru q⟩
    · exact .inr (.inl ⟨a, vs, i, u, rfl, ry, z, eu, k _ H _ S Hb (Same.refl _) ab ru q⟩)
theorem pd_ix (ha : PD X a ta) (hb : PD X b tb) (hs : PlainIx b) : PD X (.Subscript a b pos) (dOp rdIx ta tb) := PE.imp (pe_ix ix_seq ha hb hs) fun _ _ _ q => lift2 (fun x y H QV dx dy S Hb Q rx ry ab h k => opL_ix rx ry ab h k) q

/-! ### slices -/
abbrev TDO := Rho → Sto → (Option Int → Sto → Prop) → Prop
def lO (K : PySem.W.Frag) (t : TDO) : TO := fun σ H QV => ∃ ρ S Hb Q, RelS K Hb σ ρ ∧ Ab K Hb H S ∧ t ρ S Q ∧ ∀ b H' S' Hb', Sub Hb Hb' → Ab K Hb' H' S' → Q b S' → QV b H'
abbrev PDO (X : Cx) (e : Option Expr) (t : TDO) : Prop := PO X e (lO X.K t)
theorem PO.imp {X : Cx} {e : Option Expr} {t u : TO} (h : PO X e t) (k : ∀ σ H Q, u σ H Q → t σ H Q) : PO X e u := ⟨fun pins s σ H Q I q => h.run pins s σ H Q I (k σ H Q q)⟩
def oNo : TDO := fun _ S Q => Q none S
def oSo (t : TDE) : TDO := fun ρ S Q => t ρ S fun d S1 => asI d fun i => Q (some i) S1
theorem pdo_none : PDO X none oNo := PO.imp po_none fun σ H QV ⟨ρ, S, Hb, Q, rs, ab, q, k⟩ => k _ _ _ _ (Same.refl _) ab q
theorem pdo_some (h : PD X e te) : PDO X (some e) (oSo te) := PO.imp (po_some h) fun σ H QV ⟨ρ, S, Hb, Q, rs, ab, q, k⟩ => by
  refine ⟨ρ, S, Hb, _, rs, ab, q, fun v1 H1 d1 S1 Hb1 s1 ab1 r1 q1 => ?_⟩
  replace q1 := asI_iff.mp q1
  obtain ⟨i, rfl, q1⟩ := q1
  simp only [Rep] at r1
  exact ⟨i, r1, k _ _ _ _ s1 ab1 q1⟩
def cutD (xs : List D) (lo hi : Option Int) : List D := (xs.drop (HT.sIx xs.length 0 lo)).take (HT.sIx xs.length xs.length hi - HT.sIx xs.length 0 lo)
theorem RepAll.cut {ds : List D} {vs : List V} (h : RepAll K H ds vs) (lo hi : Option Int) : RepAll K H (cutD ds lo hi) (cutV vs lo hi) := by
  unfold cutD cutV
  rw [h.length]
  exact (h.drop _).take _
/-- a list's slice: a new list -/
def rdSl (x : D) (lo hi : Option Int) (S : Sto) (Q : QD) : Prop := withO (lstOf S x) fun xs => Q (.lst (cutD xs lo hi)) S
def dSl (te : TDE) (tl th : TDO) : TDE := fun ρ S Q => te ρ S fun d S1 => tl ρ S1 fun l S2 => th ρ S2 fun u S3 => rdSl d l u S3 Q
variable {lo hi : Option Expr} {tl th : TDO} {p2 : Pos}
theorem pd_sl (he : PD X e te) (hl : PDO X lo tl) (hu : PDO X hi th) : PD X (.Subscript e (.Slice lo hi none p2) pos) (dSl te tl th) := PE.imp (pe_slice sl_list he hl hu) fun σ H QV ⟨ρ, S, Hb, Q, rs, ab, q, k⟩ => by
  refine ⟨ρ, S, Hb, _, rs, ab, q, fun v1 H1 d1 S1 Hb1 s1 ab1 r1 q1 => ?_⟩
  refine ⟨ρ, S1, Hb1, _, rs.sub s1, ab1, q1, fun l H2 S2 Hb2 s2 ab2 q2 => ?_⟩
  refine ⟨ρ, S2, Hb2, _, rs.sub (s1.trans s2), ab2, q2, fun u H3 S3 Hb3 s3 ab3 q3 => ?_⟩
  obtain ⟨xs, e1, q4⟩ := withO_iff.mp q3
  obtain ⟨a, vs, rfl, hr, ha⟩ := (r1.sub (s2.trans s3)).list ab3 e1
  refine ⟨a, vs, rfl, .of ha, fun p hp => ?_⟩
  obtain ⟨ab4, s4⟩ := ab3.froz (o := .lst (cutV vs l u)) hp
  exact k _ _ _ _ _ (s1.trans (s2.trans (s3.trans s4))) ab4 (.lstI upd_same ((hr.cut l u).sub s4)) q4

/-! ### built-in functions -/
variable {es : List Expr} {t : TDA}
def rdLen (ds : List D) (S : Sto) (Q : QD) : Prop := as1 ds fun d => match d with
  | .str z => z.length ≤ sizeLine ∧ Q (.int z.length) S
  | d => withO (seqOf S d) fun xs => Q (.int xs.length) S
theorem callL_len : CallL K (fun xs H Q => ∃ x n, xs = [x] ∧ LenV K x H n ∧ Q (.int n) H) rdLen := by
  intro vs H QV ds S Hb Q r ab h k
  replace h := as1_iff.mp h
  obtain ⟨d, rfl, h⟩ := h
  simp only [RepAll] at r
  obtain ⟨v, r', rfl, rv, rfl⟩ := r
  split at h
  · rename_i z
    simp only [Rep] at rv
    subst rv
    exact ⟨_, _, rfl, ⟨h.1, rfl⟩, k _ H _ S Hb (Same.refl _) ab (rep_int _ _) h.2⟩
  · obtain ⟨xs, e, q⟩ := withO_iff.mp h
    obtain ⟨a, us, rfl, hr, z⟩ := rv.seq ab e
    refine ⟨_, us.length, rfl, ?_, k _ H _ S Hb (Same.refl _) ab (rep_int _ _) (by rw [hr.length]; exact q)⟩
    rcases z with ⟨z, _⟩ | ⟨z, _⟩
    · exact .inl ⟨us, z, rfl⟩
    · exact .inr ⟨us, z, rfl⟩
def rdAbs (ds : List D) (S : Sto) (Q : QD) : Prop := as1 ds fun d => asI d fun i => Q (.int (if i < 0 then -i else i)) S
theorem callL_abs : CallL K (fun xs H Q => ∃ i, xs = [.int i] ∧ Q (.int (if i < 0 then -i else i)) H) rdAbs := by
  intro vs H QV ds S Hb Q r ab h k
  replace h := as1_iff.mp h
  obtain ⟨d, rfl, h⟩ := h
  replace h := asI_iff.mp h
  obtain ⟨i, rfl, h⟩ := h
  simp only [RepAll, Rep] at r
  obtain ⟨v, r', rfl, rfl, rfl⟩ := r
  exact ⟨i, rfl, k _ H _ S Hb (Same.refl _) ab (rep_int _ _) h⟩
def rdMax2 (ds : List D) (S : Sto) (Q : QD) : Prop := as2 ds fun d e => asI d fun i => asI e fun j => Q (.int (if j > i then j else i)) S
def rdMin2 (ds : List D) (S : Sto) (Q : QD) : Prop := as2 ds fun d e => asI d fun i => asI e fun j => Q (.int (if j < i then j else i)) S
theorem callL_max2 : CallL K (fun xs H Q => ∃ i j, xs = [.int i, .int j] ∧ Q (.int (if j > i then j else i)) H) rdMax2 := by
  intro vs H QV ds S Hb Q r ab h k
  replace h := as2_iff.mp h
  obtain ⟨d, d2, rfl, h⟩ := h
  replace h := asI_iff.mp h
  obtain ⟨i, rfl, h⟩ := h
  replace h := asI_iff.mp h
  obtain ⟨j, rfl, h⟩ := h
  simp only [RepAll, Rep] at r
  obtain ⟨v, r', rfl, rfl, v2, r2, rfl, rfl, rfl⟩ := r
  exact ⟨i, j, rfl, k _ H _ S Hb (Same.refl _) ab (rep_int _ _) h⟩
theorem callL_min2 : CallL K (fun xs H Q => ∃ i j, xs = [.int i, .int j] ∧ Q (.int (if j < i then j else i)) H) rdMin2 := by
  intro vs H QV ds S Hb Q r ab h k
  replace h := as2_iff.mp h
  obtain ⟨d, d2, rfl, h⟩ := h
  replace h := asI_iff.mp h
  obtain ⟨i, rfl, h⟩ := h
  replace h := asI_iff.mp h
  obtain ⟨j, rfl, h⟩ := h
  simp only [RepAll, Rep] at r
  obtain ⟨v, r', rfl, rfl, v2, r2, rfl, rfl, rfl⟩ := r
  exact ⟨i, j, rfl, k _ H _ S Hb (Same.refl _) ab (rep_int _ _) h⟩
/-- a list of numbers -/
theorem RepAll.intsOf {ds : List D} {vs : List V} {ns : List Int} (h : RepAll K H ds vs) (e : ds = ns.map D.int) : vs = ns.map V.int := by subst e; exact h.ints
def rdMaxL (ds : List D) (S : Sto) (Q : QD) : Prop := as1 ds fun d => withO (lstOf S d) fun xs => ∃ ns : List Int, xs = ns.map D.int ∧ 0 < ns.length ∧ ∀ m, m ∈ ns → (∀ y, y ∈ ns → y ≤ m) → Q (.int m) S
def rdMinL (ds : List D) (S : Sto) (Q : QD) : Prop := as1 ds fun d => withO (lstOf S d) fun xs => ∃ ns : List Int, xs = ns.map D.int ∧ 0 < ns.length ∧ ∀ m, m ∈ ns → (∀ y, y ∈ ns → m ≤ y) → Q (.int m) S
theorem callL_maxL : CallL K (rMax K) rdMaxL := by
  intro vs H QV ds S Hb Q r ab h k
  replace h := as1_iff.mp h
  obtain ⟨d, rfl, h⟩ := h
  obtain ⟨xs, e, ns, e2, l, q⟩ := withO_iff.mp h
  simp only [RepAll] at r
  obtain ⟨v, r', rfl, rv, rfl⟩ := r
  obtain ⟨a, us, rfl, hr, ha⟩ := rv.list ab e
  rw [hr.intsOf e2] at ha
  exact ⟨a, ns, rfl, .of ha, l, fun m hm hy => k _ H _ S Hb (Same.refl _) ab (rep_int _ _) (q m hm hy)⟩
theorem callL_minL : CallL K (rMin K) rdMinL := by
  intro vs H QV ds S Hb Q r ab h k
  replace h := as1_iff.mp h
  obtain ⟨d, rfl, h⟩ := h
  obtain ⟨xs, e, ns, e2, l, q⟩ := withO_iff.mp h
  simp only [RepAll] at r
  obtain ⟨v, r', rfl, rv, rfl⟩ := r
  obtain ⟨a, us, rfl, hr, ha⟩ := rv.list ab e
  rw [hr.intsOf e2] at ha
  exact ⟨a, ns, rfl, .of ha, l, fun m hm hy => k _ H _ S Hb (Same.refl _) ab (rep_int _ _) (q m hm hy)⟩
def rdSum (ds : List D) (S : Sto) (Q : QD) : Prop := as1 ds fun d => withO (lstOf S d) fun xs => ∃ ns : List Int, xs = ns.map D.int ∧ Q (.int ns.sum) S
theorem callL_sum : CallL K (rSum K) rdSum := by
  intro vs H QV ds S Hb Q r ab h k
  replace h := as1_iff.mp h
  obtain ⟨d, rfl, h⟩ := h
  obtain ⟨xs, e, ns, e2, q⟩ := withO_iff.mp h
  simp only [RepAll] at r
  obtain ⟨v, r', rfl, rv, rfl⟩ := r
  obtain ⟨a, us, rfl, hr, ha⟩ := rv.list ab e
  rw [hr.intsOf e2] at ha
  exact ⟨a, ns, rfl, .of ha, k _ H _ S Hb (Same.refl _) ab (rep_int _ _) q⟩
def rdAll (ds : List D) (S : Sto) (Q : QD) : Prop := as1 ds fun d => withO (lstOf S d) fun xs => ∃ bs : List Bool, xs = bs.map D.bl ∧ Q (.bl (bs.all id)) S
def rdAny (ds : List D) (S : Sto) (Q : QD) : Prop := as1 ds fun d => withO (lstOf S d) fun xs => ∃ bs : List Bool, xs = bs.map D.bl ∧ Q (.bl (bs.any id)) S
theorem callL_all : CallL K (rAll K) rdAll := by
  intro vs H QV ds S Hb Q r ab h k
  replace h := as1_iff.mp h
  obtain ⟨d, rfl, h⟩ := h
  obtain ⟨xs, e, ns, e2, q⟩ := withO_iff.mp h
  simp only [RepAll] at r
  obtain ⟨v, r', rfl, rv, rfl⟩ := r
  obtain ⟨a, us, rfl, hr, ha⟩ := rv.list ab e
  subst e2
  rw [hr.bls] at ha
  exact ⟨a, ns, rfl, .of ha, k _ H _ S Hb (Same.refl _) ab (rep_bl _ _) q⟩
theorem callL_any : CallL K (rAny K) rdAny := by
  intro vs H QV ds S Hb Q r ab h k
  replace h := as1_iff.mp h
  obtain ⟨d, rfl, h⟩ := h
  obtain ⟨xs, e, ns, e2, q⟩ := withO_iff.mp h
  simp only [RepAll] at r
  obtain ⟨v, r', rfl, rv, rfl⟩ := r
  obtain ⟨a, us, rfl, hr, ha⟩ := rv.list ab e
  subst e2
  rw [hr.bls] at ha
  exact ⟨a, ns, rfl, .of ha, k _ H _ S Hb (Same.refl _) ab (rep_bl _ _) q⟩
/-- int(a number), int(a truth), int(a text) -/
def rdInt (ds : List D) (S : Sto) (Q : QD) : Prop := as1 ds fun d => match d with
  | .int i => Q (.int i) S
  | .bl b => Q (.int (if b then 1 else 0)) S
  | .str z => z.length ≤ 640 ∧ withO (PySem.intText? z) fun n => Q (.int n) S
  | _ => False
theorem callL_int : CallL K (fun xs H Q => ((∃ i, xs = [.int i] ∧ Q (.int i) H) ∨ ∃ k, xs = [.bl k] ∧ Q (.int (if k then 1 else 0)) H) ∨ ∃ a n, xs = [.str a] ∧ PySem.intText? a = some n ∧ a.length ≤ 640 ∧ Q (.int n) H) rdInt := by
  intro vs H QV ds S Hb Q r ab h k
  replace h := as1_iff.mp h
  obtain ⟨d, rfl, h⟩ := h
  split at h
  · simp only [RepAll, Rep] at r
    obtain ⟨v, r', rfl, rfl, rfl⟩ := r
    exact .inl (.inl ⟨_, rfl, k _ H _ S Hb (Same.refl _) ab (rep_int _ _) h⟩)
  · simp only [RepAll, Rep] at r
    obtain ⟨v, r', rfl, rfl, rfl⟩ := r
    exact .inl (.inr ⟨_, rfl, k _ H _ S Hb (Same.refl _) ab (rep_int _ _) h⟩)
  · obtain ⟨l, h⟩ := h
    obtain ⟨n, e, q⟩ := withO_iff.mp h
    simp only [RepAll, Rep] at r
    obtain ⟨v, r', rfl, rfl, rfl⟩ := r
    exact .inr ⟨_, n, rfl, e, l, k _ H _ S Hb (Same.refl _) ab (rep_int _ _) q⟩
  · exact h.elim
theorem callR_int : CallR X (.type "int") (fun xs H Q => ((∃ i, xs = [.int i] ∧ Q (.int i) H) ∨ ∃ k, xs = [.bl k] ∧ Q (.int (if k then 1 else 0)) H) ∨ ∃ a n, xs = [.str a] ∧ PySem.intText? a = some n ∧ a.length ≤ 640 ∧ Q (.int n) H) := call_int1.or call_int_str
/-- list(x): a new list; tuple(x) -/
def rdList (ds : List D) (S : Sto) (Q : QD) : Prop := as1 ds fun d => withO (seqOf S d) fun xs => Q (.lst xs) S
def rdListC (ds : List D) (S : Sto) (Q : QD) : Prop := as1 ds fun d => withO (seqOf S d) fun xs => ∀ p, S p = none → Q (.ref p) (sup S p (.lst xs))
def tupOf (xs : List D) : D → D
  | .rot ys => .rot ys
  | _ => .tup xs
def rdTuple (ds : List D) (S : Sto) (Q : QD) : Prop := as1 ds fun d => withO (seqOf S d) fun xs => Q (tupOf xs d) S
theorem callL_list : CallL K (fun xs H Q => ∃ p ys, xs = [.ref p] ∧ (SqL K H p ys ∨ SqT K H p ys) ∧ ∀ l, H l = none → Q (.ref l) (upd H l (.lst ys))) rdList := by
  intro vs H QV ds S Hb Q r ab h k
  replace h := as1_iff.mp h
  obtain ⟨d, rfl, h⟩ := h
  obtain ⟨xs, e, q⟩ := withO_iff.mp h
  simp only [RepAll] at r
  obtain ⟨v, r', rfl, rv, rfl⟩ := r
  obtain ⟨a, us, rfl, hr, z⟩ := rv.seq ab e
  refine ⟨a, us, rfl, z.elim (fun z => .inl z.1) fun z => .inr z.1, fun l hl => ?_⟩
  obtain ⟨ab2, s2⟩ := ab.froz (o := .lst us) hl
  exact k _ _ _ _ _ s2 ab2 (.lstI upd_same (hr.sub s2)) q
theorem callL_listC : CallL K (fun xs H Q => ∃ p ys, xs = [.ref p] ∧ (SqL K H p ys ∨ SqT K H p ys) ∧ ∀ l, H l = none → Q (.ref l) (upd H l (.lst ys))) rdListC := by
  intro vs H QV ds S Hb Q r ab h k
  replace h := as1_iff.mp h
  obtain ⟨d, rfl, h⟩ := h
  obtain ⟨xs, e, q⟩ := withO_iff.mp h
  simp only [RepAll] at r
  obtain ⟨v, r', rfl, rv, rfl⟩ := r
  obtain ⟨a, us, rfl, hr, z⟩ := rv.seq ab e
  refine ⟨a, us, rfl, z.elim (fun z => .inl z.1) fun z => .inr z.1, fun l hl => ?_⟩
  exact k _ _ _ _ _ (Same.refl _) (ab.newL hl hr) (by simp only [Rep]) (q l (ab.free hl))
theorem callL_tuple : CallL K (fun xs H Q => ∃ p ys, xs = [.ref p] ∧ ((SqL K H p ys ∧ ∀ l, H l = none → Q (.ref l) (upd H l (.tup ys))) ∨ (SqT K H p ys ∧ Q (.ref p) H))) rdTuple := by
  intro vs H QV ds S Hb Q r ab h k
  replace h := as1_iff.mp h
  obtain ⟨d, rfl, h⟩ := h
  obtain ⟨xs, e, q⟩ := withO_iff.mp h
  simp only [RepAll] at r
  obtain ⟨v, r', rfl, rv, rfl⟩ := r
  obtain ⟨a, us, rfl, hr, z⟩ := rv.seq ab e
  rcases z with ⟨z, hd⟩ | ⟨z, ys, hd⟩
  · refine ⟨a, us, rfl, .inl ⟨z, fun l hl => ?_⟩⟩
    obtain ⟨ab2, s2⟩ := ab.froz (o := .tup us) hl
    refine k _ _ _ _ _ s2 ab2 (.tupI upd_same (hr.sub s2)) ?_
    rcases hd with ⟨ys, hd | hd⟩ | hd <;> (subst hd; exact q)
  · rcases hd with hd | hd
    · subst hd
      simp only [seqOf, Option.some.injEq] at e
      subst e
      exact ⟨a, us, rfl, .inr ⟨z, k _ H _ S Hb (Same.refl _) ab rv q⟩⟩
    · subst hd
      exact ⟨a, us, rfl, .inr ⟨z, k _ H _ S Hb (Same.refl _) ab rv q⟩⟩

/-! ### methods -/
/-- l.append(x) -/
def dAppend (to te : TDE) : TDE := fun ρ S Q => to ρ S fun d S1 => ∃ a ys, d = .ref a ∧ S1 a = some (.lst ys) ∧ te ρ S1 fun e S2 => ∃ xs, S2 a = some (.lst xs) ∧ xs.length < sizeLine ∧ Q .non (sup S2 a (.lst (xs ++ [e])))
variable {o : Expr} {to : TDE} {apos cpos : Pos}
theorem pd_append (ho : PD X o to) (he : PD X e te) (hbase : attributeBase o "append" X.env (eval o X.env) = eval o X.env := by rfl)
    (hfew : ((backTo cpos (starEach [e] X.env)).all (fun x => !x.1) && (backToKw cpos (keywordEach [] X.env)).all (fun x => x.1.isSome)
      && decide ([e].length + ([] : List Keyword).length + (if ([] : List Keyword).isEmpty then 0 else 1) < 30)) = true := by rfl)
    (hline : (apos.endLine == cpos.line) = true := by rfl) (hs : starEach [e] X.env = (false, eval e X.env) :: starEach [] X.env := by rfl) (hplain : (backTo cpos (starEach [] X.env)).any (·.1) = false := by rfl) :
    PD X (.Call (.Attribute o "append" apos) [e] [] cpos) (dAppend to te) :=
  PE.imp (pe_bm PySem.F.plainAttrs_list PySem.F.slot_list_append PySem.F.type_list_append mt_append ho (pa_cons he pa_nil hs) hbase hfew hline hs hplain) fun σ H QV ⟨ρ, S, Hb, Q, rs, ab, q, k⟩ => by
    refine ⟨ρ, S, Hb, _, rs, ab, q, fun v1 H1 d1 S1 Hb1 s1 ab1 r1 q1 => ?_⟩
    obtain ⟨a, ys, rfl, e1, q1⟩ := q1
    simp only [Rep] at r1
    subst r1
    obtain ⟨ws, ew, _⟩ := ab1.getL e1
    refine ⟨.inl ⟨rfl, ws, .of ew⟩, ρ, S1, Hb1, _, rs.sub s1, ab1, q1, fun v2 H2 d2 S2 Hb2 s2 ab2 r2 q2 => ?_⟩
    obtain ⟨xs, e2, l, q2⟩ := q2
    obtain ⟨us, eu, hu⟩ := ab2.getL e2
    exact ⟨a, us, v2, rfl, rfl, eu, by rw [hu.length]; exact l, k _ _ _ _ _ (s1.trans s2) (ab2.setL e2 (hu.append (.one r2))) (rep_non _) q2⟩
/-- l.extend(ys) -/
def dExtend (to te : TDE) : TDE := fun ρ S Q => to ρ S fun d S1 => ∃ a ys, d = .ref a ∧ S1 a = some (.lst ys) ∧ te ρ S1 fun e S2 => ∃ xs zs, S2 a = some (.lst xs) ∧ lstOf S2 e = some zs ∧ xs.length + zs.length ≤ sizeLine ∧ Q .non (sup S2 a (.lst (xs ++ zs)))
theorem pd_extend (ho : PD X o to) (he : PD X e te) (hbase : attributeBase o "extend" X.env (eval o X.env) = eval o X.env := by rfl)
    (hfew : ((backTo cpos (starEach [e] X.env)).all (fun x => !x.1) && (backToKw cpos (keywordEach [] X.env)).all (fun x => x.1.isSome)
      && decide ([e].length + ([] : List Keyword).length + (if ([] : List Keyword).isEmpty then 0 else 1) < 30)) = true := by rfl)
    (hline : (apos.endLine == cpos.line) = true := by rfl) (hs : starEach [e] X.env = (false, eval e X.env) :: starEach [] X.env := by rfl) (hplain : (backTo cpos (starEach [] X.env)).any (·.1) = false := by rfl) :
    PD X (.Call (.Attribute o "extend" apos) [e] [] cpos) (dExtend to te) :=
  PE.imp (pe_bm PySem.F.plainAttrs_list PySem.F.slot_list_extend PySem.F.type_list_extend mt_extend ho (pa_cons he pa_nil hs) hbase hfew hline hs hplain) fun σ H QV ⟨ρ, S, Hb, Q, rs, ab, q, k⟩ => by
    refine ⟨ρ, S, Hb, _, rs, ab, q, fun v1 H1 d1 S1 Hb1 s1 ab1 r1 q1 => ?_⟩
    obtain ⟨a, ys, rfl, e1, q1⟩ := q1
    simp only [Rep] at r1
    subst r1
    obtain ⟨ws, ew, _⟩ := ab1.getL e1
    refine ⟨.inl ⟨rfl, ws, .of ew⟩, ρ, S1, Hb1, _, rs.sub s1, ab1, q1, fun v2 H2 d2 S2 Hb2 s2 ab2 r2 q2 => ?_⟩
    obtain ⟨xs, zs, e2, e3, l, q2⟩ := q2
    obtain ⟨us, eu, hu⟩ := ab2.getL e2
    obtain ⟨b, vs, rfl, hv, hb⟩ := r2.list ab2 e3
    exact ⟨a, b, us, vs, rfl, rfl, eu, hb, by rw [hu.length, hv.length]; exact l, k _ _ _ _ _ (s1.trans s2) (ab2.setL e2 (hu.append hv)) (rep_non _) q2⟩
/-- sep.join(xs) -/
def dJoin (to te : TDE) : TDE := fun ρ S Q => to ρ S fun d S1 => asS d fun z => te ρ S1 fun e S2 => withO (seqOf S2 e) fun xs => ∃ ys : List Str, xs = ys.map D.str ∧ (ys.map (·.length)).sum + ys.length * z.length ≤ 16777216 ∧ Q (.str (Txt.join z ys)) S2
theorem pd_join (ho : PD X o to) (he : PD X e te) (hs : starEach [e] X.env = [(false, eval e X.env)] := by rfl) (hbase : attributeBase o "join" X.env (eval o X.env) = eval o X.env := by rfl) (hline : (apos.endLine == cpos.line) = true := by rfl) :
    PD X (.Call (.Attribute o "join" apos) [e] [] cpos) (dJoin to te) :=
  PE.imp (pe_join ho he hs hbase hline) fun σ H QV ⟨ρ, S, Hb, Q, rs, ab, q, k⟩ => by
    refine ⟨ρ, S, Hb, _, rs, ab, q, fun v1 H1 d1 S1 Hb1 s1 ab1 r1 q1 => ?_⟩
    obtain ⟨z, rfl, q2⟩ := asS_iff.mp q1
    simp only [Rep] at r1
    subst r1
    refine ⟨⟨z, rfl⟩, ρ, S1, Hb1, _, rs.sub s1, ab1, q2, fun v2 H2 d2 S2 Hb2 s2 ab2 r2 q3 => ?_⟩
    obtain ⟨xs, e, ys, e2, l, q4⟩ := withO_iff.mp q3
    obtain ⟨a, us, rfl, hr, w⟩ := r2.seq ab2 e
    subst e2
    have hu := hr.strs
    subst hu
    exact ⟨z, a, ys, rfl, rfl, w.elim (fun w => .inl w.1) fun w => .inr w.1, l, k _ _ _ _ _ (s1.trans s2) ab2 (rep_str _ _) q4⟩

/-! ### stores -/
/-- xs[i] = v -/
def gSet (to ti : TDE) : TDG := fun v ρ S Q => to ρ S fun d S1 => ti ρ S1 fun i S2 => asI i fun n => ∃ a xs j, d = .ref a ∧ S2 a = some (.lst xs) ∧ ixN xs.length n = some j ∧ Q ρ (sup S2 a (.lst (xs.set j v)))
variable {i : Expr} {ti : TDE}
theorem pdg_set (ho : PD X o to) (hi : PD X i ti)
    (ha : ∀ v, assign (.Subscript o i pos) X.env v = (do
      let ov ← holding [v] (eval o X.env)
      let iv ← holding [v, ov] (eval i X.env)
      standAt pos
      holding [v, ov, iv] (setItem ov iv v)
      release [v, ov, iv] []) := by intro _; rfl) : PDG X (.Subscript o i pos) (gSet to ti) :=
  PG.imp (pg_sub ho hi set_list ha) fun v σ H QV ⟨d0, ρ, S, Hb, Q, r0, rs, ab, q, k⟩ => by
    refine ⟨ρ, S, Hb, _, rs, ab, q, fun v1 H1 d1 S1 Hb1 s1 ab1 r1 q1 => ?_⟩
    refine ⟨ρ, S1, Hb1, _, rs.sub s1, ab1, q1, fun v2 H2 d2 S2 Hb2 s2 ab2 r2 q2 => ?_⟩
    obtain ⟨n, rfl, a, xs, j, rfl, e, hj, q3⟩ := asI_iff.mp q2
    simp only [Rep] at r1 r2
    subst r1 r2
    obtain ⟨us, eu, hu⟩ := ab2.getL e
    exact ⟨a, us, n, j, rfl, rfl, eu, by rw [hu.length]; exact hj, k _ _ _ _ _ (s1.trans s2) (rs.sub (s1.trans s2)) (ab2.setL e (hu.set (r0.sub (s1.trans s2)) j)) q3⟩

/-! ### isinstance -/
def tyD (S : Sto) : D → Option String
  | .non => some "NoneType"
  | .bl _ => some "bool"
  | .int _ => some "int"
  | .str _ => some "str"
  | .lst _ => some "list"
  | .rol _ => some "list"
  | .rot _ => some "tuple"
  | .tup _ => some "tuple"
  | .ref a => match S a with
    | some (.lst _) => some "list"
    | some (.dK _) => some "dict"
    | some (.dT _) => some "dict"
    | _ => none
  | .ty _ => none
theorem Rep.tyx {d : D} {v : V} {n : String} (A : Ab K Hb H S) (r : Rep K Hb d v) (e : tyD S d = some n) : TyX K H v (.type n) := by
  cases d with
  | non => simp only [tyD, Option.some.injEq] at e; simp only [Rep] at r; subst e r; exact .base .non
  | bl b => simp only [tyD, Option.some.injEq] at e; simp only [Rep] at r; subst e r; exact .base (.bl b)
  | int b => simp only [tyD, Option.some.injEq] at e; simp only [Rep] at r; subst e r; exact .base (.int b)
  | str b => simp only [tyD, Option.some.injEq] at e; simp only [Rep] at r; subst e r; exact .base (.str b)
  | lst ds =>
    simp only [tyD, Option.some.injEq] at e
    simp only [Rep] at r
    obtain ⟨a, vs, rfl, hs, _⟩ := r
    subst e
    exact .base (.lst (A.sub _ _ hs))
  | rol ds =>
    simp only [tyD, Option.some.injEq] at e
    simp only [Rep] at r
    obtain ⟨a, vs, rfl, hs, _⟩ := r
    subst e
    rcases A.sub.seq hs with (hs | ⟨o, hs⟩) | ⟨o, its, n, h1, h2, _⟩
    · exact .base (.lst hs)
    · exact .base (.frz hs)
    · exact .kList h1 h2
  | tup ds =>
    simp only [tyD, Option.some.injEq] at e
    simp only [Rep] at r
    obtain ⟨a, vs, rfl, hs, _⟩ := r
    subst e
    exact .base (.tup (A.sub _ _ hs))
  | rot ds =>
    simp only [tyD, Option.some.injEq] at e
    simp only [Rep] at r
    obtain ⟨a, vs, rfl, hs, _⟩ := r
    subst e
    rcases seqT_sub A.sub hs with (hs | ⟨o, hs⟩) | ⟨o, its, n, h1, h2, _⟩
    · exact .base (.tup hs)
    · exact .fTuple hs
    · exact .kTuple h1 h2
  | ref a =>
    simp only [Rep] at r
    simp only [tyD] at e
    split at e
    · rename_i xs q
      simp only [Option.some.injEq] at e
      obtain ⟨vs, hv, _⟩ := A.getL q
      subst e r
      exact .base (.lst hv)
    · rename_i xs q
      simp only [Option.some.injEq] at e
      obtain ⟨vs, hv, _⟩ := (A.cel _ _ q).2
      subst e r
      exact .base (.dK hv)
    · rename_i xs q
      simp only [Option.some.injEq] at e
      obtain ⟨vs, hv, _⟩ := (A.cel _ _ q).2
      subst e r
      exact .base (.dT hv)
    · cases e
  | ty _ => simp only [tyD] at e; cases e
def kitAnyB (n : String) : List String → Option Bool
  | [] => some false
  | t :: ts => match kitB n t with
    | some true => some true
    | some false => kitAnyB n ts
    | none => none
theorem kitAnyB_ok {n : String} : ∀ {ts : List String} {b : Bool}, kitAnyB n ts = some b → PySem.W.kitAny K (.type n) (ts.map Value.type) = some b
  | [], b, h => by
    simp only [kitAnyB, Option.some.injEq] at h
    subst h
    rfl
  | t :: ts, b, h => by
    simp only [kitAnyB] at h
    split at h
    · rename_i e
      simp only [Option.some.injEq] at h
      subst h
      exact kitAny_cons (b := true) (kit_ty e) (fun z => nomatch z) fun _ => rfl
    · rename_i e
      exact kitAny_cons (b := false) (kit_ty e) (fun _ => kitAnyB_ok h) fun z => nomatch z
    · cases h
theorem RepAll.tys : ∀ {ts : List String} {vs : List V}, RepAll K H (ts.map D.ty) vs → vs = ts.map V.ty
  | [], _, h => by simpa only [RepAll, List.map_nil] using h
  | n :: ns, vs, h => by
    simp only [List.map_cons, RepAll, Rep] at h
    obtain ⟨v, r, rfl, rfl, h2⟩ := h
    rw [RepAll.tys h2]
    rfl
def rIsi1 (K : PySem.W.Frag) : List V → Hp → VK → Prop := fun xs H Q => ∃ (x : V) (n t : String) (b : Bool), xs = [x, .ty t] ∧ TyX K H x (.type n) ∧ kitAnyB n [t] = some b ∧ Q (.bl b) H
def rIsi2 (K : PySem.W.Frag) : List V → Hp → VK → Prop := fun xs H Q => ∃ (x : V) (tp : Addr) (n : String) (ts : List String) (b : Bool), xs = [x, .ref tp] ∧ SqT K H tp (ts.map V.ty) ∧ TyX K H x (.type n) ∧ kitAnyB n ts = some b ∧ Q (.bl b) H
theorem Vals.tys : ∀ {ts : List String} {us : List Value}, Vals (ts.map V.ty) us → us = ts.map Value.type
  | [], _, .nil => rfl
  | t :: ts, _, .cons h r => by
    have h1 : _ = Value.type t := h
    rw [h1, Vals.tys r]
    rfl
theorem callR_isi1 : CallR X (.builtin "isinstance") (rIsi1 X.K) := fun pins s σ H xs us Q I r ⟨x, n, t, b, e, ty, kb, q⟩ => by
  refine call_isi pins s σ H xs us Q I r ⟨x, .ty t, _, _, b, e, .ty t, ty, ?_, q⟩
  simp only [kitAnyB] at kb
  split at kb
  · rename_i z; cases kb; exact kit_ty z
  · rename_i z; cases kb; exact kit_ty z
  · cases kb
theorem callR_isi2 : CallR X (.builtin "isinstance") (rIsi2 X.K) := fun pins s σ H xs us Q I r ⟨x, tp, n, ts, b, e, hT, ty, kb, q⟩ => by
  subst e
  obtain ⟨u1, u2, rfl, r1, r2⟩ := vals2 r
  cases (show u2 = Value.ref tp from r2)
  obtain ⟨P, Z, p, hx⟩ := kit_of I r1 ty
  obtain ⟨its, rv, ⟨o, h1, h2, m, h3⟩, _⟩ := I.tuple hT
  have e3 := Vals.tys rv
  subst e3
  obtain ⟨oc, od, dt, sl⟩ := o
  simp only at h2 h3
  subst h2 h3
  exact PySem.W.kia_tup Z I.kIn p h1 (kitAnyB_ok kb) hx fun tk => ⟨.bl b, H, I.tok tk, rfl, q⟩
def rIsiX (K : PySem.W.Frag) : List V → Hp → VK → Prop := fun xs H Q => rIsi1 K xs H Q ∨ rIsi2 K xs H Q
theorem callR_isi : CallR X (.builtin "isinstance") (rIsiX X.K) := callR_isi1.or callR_isi2
def tysOf : List D → Option (List String)
  | [] => some []
  | .ty n :: r => (tysOf r).map (n :: ·)
  | _ :: _ => none
theorem tysOf_ok : ∀ {ds : List D} {ts : List String}, tysOf ds = some ts → ds = ts.map D.ty
  | [], ts, h => by
    simp only [tysOf, Option.some.injEq] at h
    subst h
    rfl
  | d :: r, ts, h => by
    cases d with
    | ty n =>
      simp only [tysOf, Option.map_eq_some_iff] at h
      obtain ⟨us, h1, rfl⟩ := h
      rw [tysOf_ok h1]
      rfl
    | _ => simp only [tysOf] at h; cases h
def clsOf' : D → Option (List String)
  | .ty n => some [n]
  | .tup ds => tysOf ds
  | _ => none
/-- isinstance(x, T), isinstance(x, (T, U)) -/
def rdIsi (ds : List D) (S : Sto) (Q : QD) : Prop := as2 ds fun d c => withO (tyD S d) fun n => withO (clsOf' c) fun ts => withO (kitAnyB n ts) fun b => Q (.bl b) S
theorem callL_isi : CallL K (rIsiX K) rdIsi := by
  intro vs H QV ds S Hb Q r ab h k
  obtain ⟨d, c, rfl, h1⟩ := as2_iff.mp h
  obtain ⟨n, e, h2⟩ := withO_iff.mp h1
  obtain ⟨ts, e2, h3⟩ := withO_iff.mp h2
  obtain ⟨b, eb, q⟩ := withO_iff.mp h3
  simp only [RepAll] at r
  obtain ⟨v, r', rfl, rv, v2, r2, rfl, rc, rfl⟩ := r
  cases c with
  | ty t =>
    simp only [clsOf', Option.some.injEq] at e2
    subst e2
    simp only [Rep] at rc
    subst rc
    exact .inl ⟨v, n, t, b, rfl, rv.tyx ab e, eb, k _ H _ S Hb (Same.refl _) ab (rep_bl _ _) q⟩
  | tup cs =>
    have e3 := tysOf_ok e2
    subst e3
    simp only [Rep] at rc
    obtain ⟨a, us, rfl, hs, hr⟩ := rc
    have hu := hr.tys
    subst hu
    exact .inr ⟨v, a, n, ts, b, rfl, .inl (.inl (ab.sub _ _ hs)), rv.tyx ab e, eb, k _ H _ S Hb (Same.refl _) ab (rep_bl _ _) q⟩
  | _ => simp only [clsOf'] at e2; cases e2
/-- a built-in class as a value -/
theorem pd_ty {x : Str} {n : String} {pos : Pos} (hg : Gl X x) (hm : X.mg x = none) (hv : bootBuiltins x = some (.type n)) (hn : x ≠ "__name__" := by decide) (hd : (x == ("__debug__" : Str)) = false := by decide) : PD X (.Name x pos) (dC (.ty n)) :=
  pd_const (pe_bltn (v := .ty n) hg hm hv rfl hn hd) fun _ => by simp only [Rep]
end
end DL

set_option maxHeartbeats 200000
/-! Lay5: more iterables, slices of tuples, slice stores, a text so many times. -/
namespace DL
open PySem PySem.Spec PyProof.Rows L2
variable {K : PySem.W.Frag} {H H' Hb Hb' : Hp} {S S' : Sto}
section
variable {X : Cx} {tg a b c e : Expr} {ta tb tc te : TDE} {t : TDA} {pos p : Pos}

/-! ### range(i, j, -1); reversed(range(i, j)) -/
theorem pdi_rangeD (hg : Gl X "range") (hm : X.mg "range" = none) (ha : PDA X [a, b, c] t)
    (hs : starEach [a, b, c] X.env = (false, eval a X.env) :: starEach [b, c] X.env := by rfl) (hpl : (backTo pos (starEach [b, c] X.env)).any (·.1) = false := by rfl) :
    PDI X tg (.Call (.Name "range" p) [a, b, c] [] pos) (dRngD t) :=
  PI.imp (pi_range3 hg hm ha hs hpl) fun σ H R ⟨ρ, S, Hb, Q, rs, ab, q, k⟩ => by
    refine ⟨ρ, S, Hb, _, rs, ab, q, fun vs H1 ds S1 Hb1 s1 ab1 r1 ⟨i, j, e1, hb, q1⟩ => ?_⟩
    subst e1
    simp only [RepAll, Rep] at r1
    obtain ⟨v, r, rfl, rfl, v2, r2, rfl, rfl, v3, r3, rfl, rfl, rfl⟩ := r1
    exact ⟨i, j, -1, (i - j).toNat, rfl, RgC.neg hb.1 hb.2.1 hb.2.2.1 hb.2.2.2, k _ _ _ _ _ s1 ab1 itOk_d q1⟩
def dRevR2 (ta tb : TDE) : TDI := fun ρ S Q => ta ρ S fun d S1 => tb ρ S1 fun e S2 => asI d fun i => asI e fun j => (-(2 ^ 62) ≤ i ∧ i < 2 ^ 62 ∧ -(2 ^ 62) ≤ j ∧ j < 2 ^ 62) ∧ Q ⟨down (i + (((j - i).toNat : Nat) : Int) - 1) (j - i).toNat, fun _ => True⟩ S2
theorem pdi_revR2 {p2 pos2 : Pos} (hg : Gl X "reversed") (hm : X.mg "reversed" = none) (hg2 : Gl X "range") (hm2 : X.mg "range" = none) (ha : PD X a ta) (hb : PD X b tb)
    (na : starEach [a, b] X.env = (false, eval a X.env) :: starEach [b] X.env := by rfl) (nb : starEach [b] X.env = (false, eval b X.env) :: starEach [] X.env := by rfl) (hp : (backTo pos2 (starEach [b] X.env)).any (·.1) = false := by rfl)
    (hs : starEach [.Call (.Name "range" p2) [a, b] [] pos2] X.env = (false, eval (.Call (.Name "range" p2) [a, b] [] pos2) X.env) :: starEach [] X.env := by rfl) :
    PDI X tg (.Call (.Name "reversed" p) [.Call (.Name "range" p2) [a, b] [] pos2] [] pos) (dRevR2 ta tb) :=
  PI.imp (pi_revR hg hm (prg_2 hg2 hm2 ha hb na nb hp) hs) fun σ H R ⟨ρ, S, Hb, Q, rs, ab, q, k⟩ => by
    refine ⟨ρ, S, Hb, _, rs, ab, q, fun v1 H1 d1 S1 Hb1 s1 ab1 r1 q1 => ?_⟩
    refine ⟨ρ, S1, Hb1, _, rs.sub s1, ab1, q1, fun v2 H2 d2 S2 Hb2 s2 ab2 r2 q2 => ?_⟩
    obtain ⟨i, rfl, q3⟩ := asI_iff.mp q2
    obtain ⟨j, rfl, hb, q4⟩ := asI_iff.mp q3
    simp only [Rep] at r1 r2
    exact ⟨i, j, r1, r2, hb.1, hb.2.1, hb.2.2.1, hb.2.2.2, k _ _ _ _ _ (s1.trans s2) ab2 itOk_d q4⟩

/-! ### enumerate of a list -/
def isTup : D → Bool
  | .tup _ => true
  | .rot _ => true
  | _ => false
def enumD (xs : List D) : List D := (List.range xs.length).map fun i => .tup [.int (i : Nat), xs.getD i .non]
@[simp] theorem enumD_length {xs : List D} : (enumD xs).length = xs.length := by simp [enumD]
theorem enumD_get {xs : List D} {i : Nat} {d : D} (h : (enumD xs)[i]? = some d) : ∃ x, xs[i]? = some x ∧ d = .tup [.int (i : Nat), x] := by
  simp only [enumD, List.getElem?_map, Option.map_eq_some_iff] at h
  obtain ⟨j, h1, h2⟩ := h
  obtain ⟨h3, h4⟩ := List.getElem?_eq_some_iff.mp h1
  simp at h3 h4
  subst h4
  refine ⟨_, List.getElem?_eq_getElem h3, ?_⟩
  rw [← h2, List.getD_eq_getElem?_getD, List.getElem?_eq_getElem h3]
  rfl
theorem itOk_enum {l : Addr} {vs : List V} {xs : List D} {d : D} (r : Rep K Hb d (.ref l)) (hd : (∃ ys, d = .lst ys ∨ d = .rol ys) ∨ d = .ref l) : ItOk K Hb (Ite K l) ⟨enumD xs, fun S => seqOf S d = some xs⟩ := by
  intro i H2 Hb2 S2 sb ab ok
  obtain ⟨a2, us, e2, hr, q⟩ := (r.sub sb).seq ab ok
  cases e2
  have hS : SqL K H2 l us := by
    rcases q with ⟨q, _⟩ | ⟨_, ys, e⟩
    · exact q
    · rcases e with e | e <;> rcases hd with ⟨zs, z | z⟩ | z <;> (rw [z] at e; cases e)
  refine ⟨fun dd hx => ?_, fun e => ⟨us, hS, by rw [hr.length]; simp at e; omega⟩⟩
  obtain ⟨x, hx1, rfl⟩ := enumD_get hx
  obtain ⟨u, hu, ru⟩ := hr.get hx1
  refine ⟨⟨us, u, hS, hu⟩, fun y H' ⟨T, z, ey, hT, eH, hz⟩ => ?_⟩
  subst ey eH
  have := hz us hS
  rw [hu] at this
  cases this
  obtain ⟨ab2, s2⟩ := ab.froz (o := .tup [.int (i : Nat), u]) hT
  exact ⟨_, s2, ab2, .tupI upd_same (.cons (rep_int _ _) (.one (ru.sub s2)))⟩
def dEnum (t : TDA) : TDI := fun ρ S Q => t ρ S fun ds S1 => as1 ds fun d => ∃ xs, seqOf S1 d = some xs ∧ isTup d = false ∧ Q ⟨enumD xs, fun S => seqOf S d = some xs⟩ S1
theorem pdi_enum {elts : List Expr} {kk : Nat} {tpos : Pos} (hg : Gl X "enumerate") (hm : X.mg "enumerate" = none) (ha : PDA X [e] t) (hs : starEach [e] X.env = [(false, eval e X.env)] := by rfl) :
    PDI X (.Tuple elts kk tpos) (.Call (.Name "enumerate" p) [e] [] pos) (dEnum t) :=
  PI.imp (pi_enum hg hm ha hs) fun σ H R ⟨ρ, S, Hb, Q, rs, ab, q, k⟩ => by
    refine ⟨ρ, S, Hb, _, rs, ab, q, fun vs H1 ds S1 Hb1 s1 ab1 r1 q1 => ?_⟩
    obtain ⟨d, rfl, xs, e1, nt, q2⟩ := as1_iff.mp q1
    simp only [RepAll] at r1
    obtain ⟨v, r, rfl, rv, rfl⟩ := r1
    obtain ⟨l, us, rfl, hr, z⟩ := rv.seq ab1 e1
    rcases z with ⟨z, hd⟩ | ⟨_, ys, e⟩
    · exact ⟨l, us, rfl, z, k _ _ _ _ _ s1 ab1 (itOk_enum (vs := us) rv hd) q2⟩
    · rcases e with e | e <;> (rw [e] at nt; cases nt)

/-! ### zip of two lists, two tuples -/
def zipD (xs ys : List D) : List D := (List.zip xs ys).map fun p => .tup [p.1, p.2]
theorem zipD_get {xs ys : List D} {i : Nat} {d : D} (h : (zipD xs ys)[i]? = some d) : ∃ x y, xs[i]? = some x ∧ ys[i]? = some y ∧ d = .tup [x, y] := by
  simp only [zipD, List.getElem?_map, Option.map_eq_some_iff] at h
  obtain ⟨⟨x, y⟩, h1, h2⟩ := h
  rw [List.getElem?_zip_eq_some] at h1
  exact ⟨x, y, h1.1, h1.2, h2.symm⟩
theorem zipD_length {xs ys : List D} : (zipD xs ys).length = min xs.length ys.length := by simp [zipD]
def dZip (t : TDA) : TDI := fun ρ S Q => t ρ S fun ds S1 => as2 ds fun d e => ∃ xs ys, seqOf S1 d = some xs ∧ seqOf S1 e = some ys ∧ isTup d = isTup e ∧ Q ⟨zipD xs ys, fun S => seqOf S d = some xs ∧ seqOf S e = some ys⟩ S1
theorem Rep.seqL {d : D} {v : V} {xs : List D} (r : Rep K Hb d v) (A : Ab K Hb H S) (e : seqOf S d = some xs) (n : isTup d = false) : ∃ a vs, v = .ref a ∧ RepAll K Hb xs vs ∧ SqL K H a vs := by
  obtain ⟨a, vs, h1, h2, z⟩ := r.seq A e
  rcases z with ⟨z, _⟩ | ⟨_, ys, z⟩
  · exact ⟨a, vs, h1, h2, z⟩
  · rcases z with z | z <;> (rw [z] at n; cases n)
theorem Rep.seqT {d : D} {v : V} {xs : List D} (r : Rep K Hb d v) (A : Ab K Hb H S) (e : seqOf S d = some xs) (n : isTup d = true) : ∃ a vs, v = .ref a ∧ RepAll K Hb xs vs ∧ SqT K H a vs := by
  obtain ⟨a, vs, h1, h2, z⟩ := r.seq A e
  rcases z with ⟨_, ⟨ys, z | z⟩ | z⟩ | ⟨z, _⟩
  · subst z; cases n
  · subst z; cases n
  · subst z; cases n
  · exact ⟨a, vs, h1, h2, z⟩
theorem itOk_zipL {l m : Addr} {xs ys : List D} {d e : D} (r : Rep K Hb d (.ref l)) (r' : Rep K Hb e (.ref m)) (hd : isTup d = false) (he : isTup e = false) : ItOk K Hb (Itz K l m) ⟨zipD xs ys, fun S => seqOf S d = some xs ∧ seqOf S e = some ys⟩ := by
  intro i H2 Hb2 S2 sb ab ⟨ok1, ok2⟩
  obtain ⟨a2, us, e2, hr, hS⟩ := (r.sub sb).seqL ab ok1 hd
  cases e2
  obtain ⟨a3, ws, e3, hr', hS'⟩ := (r'.sub sb).seqL ab ok2 he
  cases e3
  refine ⟨fun dd hx => ?_, fun e => ⟨us, ws, hS, hS', ?_⟩⟩
  · obtain ⟨x, y, hx1, hx2, rfl⟩ := zipD_get hx
    obtain ⟨u, hu, ru⟩ := hr.get hx1
    obtain ⟨w, hw, rw'⟩ := hr'.get hx2
    refine ⟨⟨us, ws, u, w, hS, hS', hu, hw⟩, fun v H' ⟨T, z1, z2, ey, hT, eH, hz1, hz2⟩ => ?_⟩
    subst ey eH
    have h1 := hz1 us hS
    rw [hu] at h1
    cases h1
    have h2 := hz2 ws hS'
    rw [hw] at h2
    cases h2
    obtain ⟨ab2, s2⟩ := ab.froz (o := .tup [u, w]) hT
    exact ⟨_, s2, ab2, .tupI upd_same (.cons (ru.sub s2) (.one (rw'.sub s2)))⟩
  · simp only [zipD_length] at e
    have h1 := hr.length
    have h2 := hr'.length
    omega
theorem itOk_zipT {l m : Addr} {xs ys : List D} {d e : D} (r : Rep K Hb d (.ref l)) (r' : Rep K Hb e (.ref m)) (hd : isTup d = true) (he : isTup e = true) : ItOk K Hb (RZ.ItzT K l m) ⟨zipD xs ys, fun S => seqOf S d = some xs ∧ seqOf S e = some ys⟩ := by
  intro i H2 Hb2 S2 sb ab ⟨ok1, ok2⟩
  obtain ⟨a2, us, e2, hr, hS⟩ := (r.sub sb).seqT ab ok1 hd
  cases e2
  obtain ⟨a3, ws, e3, hr', hS'⟩ := (r'.sub sb).seqT ab ok2 he
  cases e3
  refine ⟨fun dd hx => ?_, fun e => ⟨us, ws, hS, hS', ?_⟩⟩
  · obtain ⟨x, y, hx1, hx2, rfl⟩ := zipD_get hx
    obtain ⟨u, hu, ru⟩ := hr.get hx1
    obtain ⟨w, hw, rw'⟩ := hr'.get hx2
    refine ⟨⟨us, ws, u, w, hS, hS', hu, hw⟩, fun v H' ⟨T, z1, z2, ey, hT, eH, hz1, hz2⟩ => ?_⟩
    subst ey eH
    have h1 := hz1 us hS
    rw [hu] at h1
    cases h1
    have h2 := hz2 ws hS'
    rw [hw] at h2
    cases h2
    obtain ⟨ab2, s2⟩ := ab.froz (o := .tup [u, w]) hT
    exact ⟨_, s2, ab2, .tupI upd_same (.cons (ru.sub s2) (.one (rw'.sub s2)))⟩
  · simp only [zipD_length] at e
    have h1 := hr.length
    have h2 := hr'.length
    omega
theorem pdi_zip {e2 : Expr} {elts : List Expr} {kk : Nat} {tpos : Pos} (hg : Gl X "zip") (hm : X.mg "zip" = none) (ha : PDA X [e, e2] t)
    (hs : starEach [e, e2] X.env = (false, eval e X.env) :: starEach [e2] X.env := by rfl) (hpl : (backTo pos (starEach [e2] X.env)).any (·.1) = false := by rfl) :
    PDI X (.Tuple elts kk tpos) (.Call (.Name "zip" p) [e, e2] [] pos) (dZip t) :=
  PI.imp (RZ.pi_zipA hg hm ha hs hpl) fun σ H R ⟨ρ, S, Hb, Q, rs, ab, q, k⟩ => by
    refine ⟨ρ, S, Hb, _, rs, ab, q, fun vs H1 ds S1 Hb1 s1 ab1 r1 q1 => ?_⟩
    obtain ⟨d, d2, rfl, xs, ys, e1, e2, ht, q2⟩ := as2_iff.mp q1
    simp only [RepAll] at r1
    obtain ⟨v, r, rfl, rv, v2, r2, rfl, rv2, rfl⟩ := r1
    cases hd : isTup d with
    | false =>
      have he : isTup d2 = false := by rw [← ht, hd]
      obtain ⟨l, us, rfl, hr, hS⟩ := rv.seqL ab1 e1 hd
      obtain ⟨m, ws, rfl, hr', hS'⟩ := rv2.seqL ab1 e2 he
      exact ⟨l, m, us, ws, rfl, .inl ⟨hS, hS', k _ _ _ _ _ s1 ab1 (itOk_zipL rv rv2 hd he) q2⟩⟩
    | true =>
      have he : isTup d2 = true := by rw [← ht, hd]
      obtain ⟨l, us, rfl, hr, hS⟩ := rv.seqT ab1 e1 hd
      obtain ⟨m, ws, rfl, hr', hS'⟩ := rv2.seqT ab1 e2 he
      exact ⟨l, m, us, ws, rfl, .inr ⟨hS, hS', k _ _ _ _ _ s1 ab1 (itOk_zipT rv rv2 hd he) q2⟩⟩

/-! ### the signs of a text -/
def signs (x : Str) : List D := x.cps.toList.map fun c => .str ⟨#[c]⟩
theorem itOk_str {x : Str} : ItOk K Hb (Its x) ⟨signs x, fun _ => True⟩ := by
  intro i H2 Hb2 S2 sb ab ok
  refine ⟨fun d hx => ?_, fun e => ?_⟩
  · simp only [signs, List.getElem?_map, Option.map_eq_some_iff, Array.getElem?_toList] at hx
    obtain ⟨c, h1, rfl⟩ := hx
    refine ⟨(Array.getElem?_eq_some_iff.mp h1).1, fun v H' ⟨e1, c', h2, e2⟩ => ?_⟩
    subst e1 e2
    rw [h1] at h2
    cases h2
    exact ⟨Hb2, Same.refl _, ab, rep_str _ _⟩
  · simp [signs] at e
    exact Nat.le_of_eq e.symm
def dStrI (te : TDE) : TDI := fun ρ S Q => te ρ S fun d S1 => asS d fun x => Q ⟨signs x, fun _ => True⟩ S1
theorem pdi_str (he : PD X e te) : PDI X tg e (dStrI te) := PI.imp (pi_str he) fun σ H R ⟨ρ, S, Hb, Q, rs, ab, q, k⟩ => by
  refine ⟨ρ, S, Hb, _, rs, ab, q, fun v1 H1 d1 S1 Hb1 s1 ab1 r1 q1 => ?_⟩
  obtain ⟨x, rfl, q2⟩ := asS_iff.mp q1
  simp only [Rep] at r1
  exact ⟨x, r1, k _ _ _ _ _ s1 ab1 itOk_str q2⟩

/-! ### slices of any sequence -/
def likeOf (d : D) (xs : List D) : D := match d with
  | .tup _ => .tup xs
  | _ => .lst xs
def isRot : D → Bool
  | .rot _ => true
  | _ => false
def rdSlA (x : D) (lo hi : Option Int) (S : Sto) (Q : QD) : Prop := isRot x = false ∧ withO (seqOf S x) fun xs => Q (likeOf x (cutD xs lo hi)) S
def dSlA (te : TDE) (tl th : TDO) : TDE := fun ρ S Q => te ρ S fun d S1 => tl ρ S1 fun l S2 => th ρ S2 fun u S3 => rdSlA d l u S3 Q
theorem slR_or {r r' : V → Option Int → Option Int → Hp → VK → Prop} (h : SlR X r) (h' : SlR X r') : SlR X (fun x lo hi H Q => r x lo hi H Q ∨ r' x lo hi H Q) := fun pins s σ H x v vl vu lo hi sl Q I rx hs pl pu q =>
  q.elim (fun q => h pins s σ H x v vl vu lo hi sl Q I rx hs pl pu q) fun q => h' pins s σ H x v vl vu lo hi sl Q I rx hs pl pu q
theorem cut_whole {xs : List D} {lo hi : Option Int} (h : HT.sIx xs.length 0 lo = 0 ∧ HT.sIx xs.length xs.length hi = xs.length) : cutD xs lo hi = xs := by
  unfold cutD
  rw [h.1, h.2]
  simp
variable {lo hi : Option Expr} {tl th : TDO} {p2 : Pos}
theorem pd_slA (he : PD X e te) (hl : PDO X lo tl) (hu : PDO X hi th) : PD X (.Subscript e (.Slice lo hi none p2) pos) (dSlA te tl th) := PE.imp (pe_slice (slR_or sl_list sl_tupA) he hl hu) fun σ H QV ⟨ρ, S, Hb, Q, rs, ab, q, k⟩ => by
  refine ⟨ρ, S, Hb, _, rs, ab, q, fun v1 H1 d1 S1 Hb1 s1 ab1 r1 q1 => ?_⟩
  refine ⟨ρ, S1, Hb1, _, rs.sub s1, ab1, q1, fun l H2 S2 Hb2 s2 ab2 q2 => ?_⟩
  refine ⟨ρ, S2, Hb2, _, rs.sub (s1.trans s2), ab2, q2, fun u H3 S3 Hb3 s3 ab3 q3 => ?_⟩
  obtain ⟨nr, q3⟩ := q3
  obtain ⟨xs, e1, q4⟩ := withO_iff.mp q3
  obtain ⟨a, vs, rfl, hr, z⟩ := (r1.sub (s2.trans s3)).seq ab3 e1
  rcases z with ⟨z, hd⟩ | ⟨z, ys, hd⟩
  · refine .inl ⟨a, vs, rfl, z, fun p hp => ?_⟩
    obtain ⟨ab4, s4⟩ := ab3.froz (o := .lst (cutV vs l u)) hp
    refine k _ _ _ _ _ (s1.trans (s2.trans (s3.trans s4))) ab4 (.lstI upd_same ((hr.cut l u).sub s4)) ?_
    rcases hd with ⟨ys, hd | hd⟩ | hd
    · subst hd; exact q4
    · subst hd; exact q4
    · subst hd; exact q4
  · replace hd : d1 = .tup ys := by
      rcases hd with hd | hd
      · exact hd
      · rw [hd] at nr; cases nr
    subst hd
    simp only [seqOf, Option.some.injEq] at e1
    subst e1
    refine .inr ⟨a, vs, rfl, z, fun hw => ?_, fun hw p hp => ?_⟩
    · rw [hr.length] at hw
      rw [cut_whole hw] at q4
      exact k _ _ _ _ _ (s1.trans (s2.trans s3)) ab3 (r1.sub (s2.trans s3)) q4
    · obtain ⟨ab4, s4⟩ := ab3.froz (o := .tup (cutV vs l u)) hp
      exact k _ _ _ _ _ (s1.trans (s2.trans (s3.trans s4))) ab4 (.tupI upd_same ((hr.cut l u).sub s4)) q4

/-! ### xs[::-1] -/
def dRevL (te : TDE) : TDE := fun ρ S Q => te ρ S fun d S1 => isTup d = false ∧ withO (seqOf S1 d) fun xs => Q (.lst xs.reverse) S1
theorem pd_revL {kk : Nat} {p1 p3 : Pos} (he : PD X e te) : PD X (.Subscript e (.Slice none none (some (.UnaryOp .USub (.Constant (.int 1) kk p1) p2)) p3) pos) (dRevL te) := PE.imp (pe_revL he) fun σ H QV ⟨ρ, S, Hb, Q, rs, ab, q, k⟩ => by
  refine ⟨ρ, S, Hb, _, rs, ab, q, fun v1 H1 d1 S1 Hb1 s1 ab1 r1 ⟨ht, q1⟩ => ?_⟩
  obtain ⟨xs, e1, q2⟩ := withO_iff.mp q1
  obtain ⟨a, us, rfl, hr, hS⟩ := r1.seqL ab1 e1 ht
  refine ⟨a, us, rfl, hS, fun p hp => ?_⟩
  obtain ⟨ab2, s2⟩ := ab1.froz (o := .lst us.reverse) hp
  exact k _ _ _ _ _ (s1.trans s2) ab2 (.lstI upd_same (hr.reverse.sub s2)) q2

/-! ### a, b, c = x, y, z -/
def as3 (ds : List D) (k : D → D → D → Prop) : Prop := asC ds fun d r => asC r fun e r => asC r fun f r => asN r (k d e f)
theorem as3_iff {ds : List D} {k : D → D → D → Prop} : as3 ds k ↔ ∃ d e f, ds = [d, e, f] ∧ k d e f := by
  simp only [as3, asC_iff, asN_iff]
  constructor
  · rintro ⟨d, r, rfl, e, r, rfl, f, r, rfl, rfl, h⟩; exact ⟨d, e, f, rfl, h⟩
  · rintro ⟨d, e, f, rfl, h⟩; exact ⟨d, _, rfl, e, _, rfl, f, [], rfl, rfl, h⟩
def sPar3 (i j l : Nat) (t : TDA) : TDS := fun F ρ S => t ρ S fun ds S1 => as3 ds fun d e f => F.nx (((ρ.set i (some d)).set j (some e)).set l (some f)) S1
theorem pds_par3 {i j k : Nat} {x y z : Str} {px py pz pt : Pos} {kt k2 pt2} (hc : X.calm = true) (hN : X.N.Nodup) (hi : X.N[i]? = some x) (hj : X.N[j]? = some y) (hl : X.N[k]? = some z) (hij : i ≠ j) (hil : i ≠ k) (hjl : j ≠ k)
    (hx : X.env.scope.names.lookup x = some .local) (hy : X.env.scope.names.lookup y = some .local) (hz : X.env.scope.names.lookup z = some .local) (ha : PDA X [a, b, c] t)
    (hw : swappedStores [.Tuple [.Name x px, .Name y py, .Name z pz] kt pt] (.Tuple [a, b, c] k2 pt2) X.env = pure (some [x, y, z]))
    (hs : swapsWithSole [.Tuple [.Name x px, .Name y py, .Name z pz] kt pt] (.Tuple [a, b, c] k2 pt2) pos.line X.env = pure false := by rfl) :
    PDS X (.Assign [.Tuple [.Name x px, .Name y py, .Name z pz] kt pt] (.Tuple [a, b, c] k2 pt2) pos) (sPar3 i j k t) :=
  PS.imp (ps_par3 hc hN hi hj hl hij hil hjl hx hy hz ha hw hs) fun E σ H ⟨ρ, S, Hb, F, rs, ab, q, k⟩ => by
    refine ⟨ρ, S, Hb, _, rs, ab, q, fun vs H1 ds S1 Hb1 s1 ab1 r1 q1 => ?_⟩
    obtain ⟨d, e, f, e1, q1⟩ := as3_iff.mp q1
    subst e1
    simp only [RepAll] at r1
    obtain ⟨v, r, rfl, rv, w, r', rfl, rw', u, r'', rfl, ru, rfl⟩ := r1
    exact ⟨v, w, u, rfl, k.nx _ _ _ _ _ s1 ((((rs.sub s1).set _ rv).set _ rw').set _ ru) ab1 q1⟩
end
end DL

set_option maxHeartbeats 200000
/-! Lay6: a def whose calls are unguarded (repr), slice stores, a text so many times, calls by keywords alone. -/
namespace DL
open PySem PySem.Spec PyProof.Rows L2
variable {K : PySem.W.Frag} {H H' Hb Hb' : Hp} {S S' : Sto}

/-! ### the promise of a def that is called where no repr is under way -/
structure FnOkG (P : Program) (w : World) (K : PySem.W.Frag) (mg : Str → Option Value) (base : Heap) (CX : CXT) (k : Nat) (f : Addr) (fd : FuncData) (ps : List Str) (sp : Sp) : Prop where
  len : ∀ vs H Q E, sp vs H Q E → vs.length = ps.length
  run : ∀ (A : Around) (outer : List Env) (s : Shared) (H : Hp) (args : Args) (us : List Value) (vs : List V) (Q : VK) (E : XK), Room k A → A.guards = some [] → Env0 P w K mg base A outer s H → BindsTo s fd args (ps.zip us) → Vals vs us → sp vs H Q E →
    codeAny (model P w) A (.call (.ref f) args) (CR CX outer P w H s Q E) s
theorem fn_ofG {CX : CXT} {P : Program} {w : World} {K : PySem.W.Frag} {mg : Str → Option Value} {base : Heap} {k : Nat} {f : Addr} {name qual : Str} {params : Arguments} {body : List Stmt} {scope : Scope} {dV kV doc pm cdv ct oc : Value} {an od : Option Addr}
    {osl : Array (Option Value)} {N ps : List Str} {sp : Sp} (lk : K.lookup f = some ⟨oc, od, .func (PySem.W.fnOf name qual params body scope dV kV doc pm an cdv ct), osl⟩) (hcd : PySem.W.codeIn K cdv qual = true) (S : FnScope N ps scope)
    (len : ∀ vs H Q E, sp vs H Q E → vs.length = ps.length)
    (hbody : ∀ (A : Around) (outer : List Env) (s : Shared) (H : Hp) (vs : List V) (Q : VK) (E : XK), Room k (A.deeper (envOfC qual scope s.heap.objs.size f cdv)) → (A.deeper (envOfC qual scope s.heap.objs.size f cdv)).guards = some [] → sp vs H Q E →
      ∃ t, PSs (cxOf CX P w K mg base N qual scope f cdv A outer s H E) body t ∧ t { nx := fun _ H' => Q .non H', rt := Q } (start N vs) H) :
    FnOkG P w K mg base CX (k + 1) f (PySem.W.fnOf name qual params body scope dV kV doc pm an cdv ct) ps sp := by
  refine ⟨len, fun A outer s H args us vs Q E hr hgd e0 hb r hsp => ?_⟩
  have hl := len _ _ _ _ hsp
  have KX : K.In s.heap := e0.mod.kin.keeps fun b o e => (e0.bs b o e).1
  have lim : s.heap.NoLimit := e0.mod.nolimit.keeps fun b o e => (e0.bs b o e).1
  have hkind : ∀ y ∈ ps.zip us, scope.names.lookup y.1 = some .local ∨ (scope.names.lookup y.1 = some .cell ∧ ((cellsFrom (s.heap.objs.size + 1) scope.names []).lookup y.1).isSome = true) := fun ⟨n, v⟩ hy => by
    rcases S.par n (List.of_mem_zip hy).1 with q | q
    · exact .inl q
    · exact .inr ⟨q, PySem.W.cellsFrom_some _ _ _ (.inl q)⟩
  refine codeAny_call_function hr.depth (KX _ _ lk) rfl S.co S.gen rfl (PySem.W.codeRec_of KX hcd) (hb _ _ _ _ ?_)
  refine wpAny_newFunctionEnv_cells S.kind hkind fun env he s1 x => ?_
  subst he
  refine ⟨lim.keeps x.toInCall.keep, codeAny_func ?_⟩
  obtain ⟨t, ht, hq⟩ := hbody A outer s H vs Q E (hr.deeper _) hgd hsp
  have I : Inv (cxOf CX P w K mg base N qual scope f cdv A outer s H E) [] (L2.start N vs) H s1 := inv_start S hr.hd e0 hl r x
  refine wpAny_mono (ht.run [] s1 (L2.start N vs) H _ I hq) (fun fl s' hs => ?_) fun e s' hs => hs
  have fin : ∀ {σ' : L2.St} {H' : Hp} {v : V} {u : Value}, Inv (cxOf CX P w K mg base N qual scope f cdv A outer s H E) [] σ' H' s' → RelV v u → Q v H' → CE outer P w H s Q u s' :=
    fun {σ' H' v u} J rv q => ⟨v, H', J.os, J.bare, J.base, J.hok, rv, q⟩
  cases fl with
  | ret u =>
    obtain ⟨v, σ', H', J, rv, q⟩ := hs
    exact fin J rv q
  | next =>
    obtain ⟨σ', H', J, q⟩ := hs
    exact fin (v := V.non) (u := Value.none) J rfl q
  | brk =>
    obtain ⟨_, _, _, q⟩ := hs
    exact False.elim q
  | cont =>
    obtain ⟨_, _, _, q⟩ := hs
    exact False.elim q
theorem law_callG {P : Program} {w : World} {K : PySem.W.Frag} {mg mb : Str → Option Value} {CX : CXT} {k : Nat} {fa a : Addr} {fd : FuncData} {x : Str} {sp : Sp} {s₁ : Shared} {vs : List Value} {ns : List Int}
    (KX : K.In s₁.heap) (hns : s₁.heap.Ns mainGlobals mg) (hb : s₁.heap.Ns builtinsNs mb) (hbb : ∀ x : Str, x ≠ "__name__" → mb x = bootBuiltins x) (hlim : s₁.heap.NoLimit) (hg : s₁.gens = #[])
    (ha : s₁.heap.get? a = some { cls := .type "list", data := .seq vs.toArray }) (hi : IntsAre vs ns) (hl : ns.length ≤ sizeLine) (hr : Room k callerA)
    (F : ∀ base : Heap, K.In base → base.Ns mainGlobals mg → FnOkG P w K mg base CX k fa fd [x] sp) (hbind : ∀ (s : Shared) (u : Value), BindsTo s fd ⟨[u], []⟩ [(x, u)])
    (hsp : ∀ H : Hp, Only H → SqL K H a (ns.map V.int) → sp [.ref a] H (fun v _ => v = .bl true) fun _ _ _ => False)
    (hCX : ∀ H e s', CX [] H s₁ (fun _ _ _ => False) e s' → False) :
    codeAny (model P w) callerA (.call (.ref fa) ⟨[.ref a], []⟩) (fun r s' => r = .ok (.ret (.bool true)) ∧ OldK s₁.heap s'.heap ∧ s'.os = s₁.os ∧ AllBare s'.gens) s₁ := by
  have rv := L2.vals_ints hi
  have lenV := hi.length
  have core : ∀ H : Hp, Only H → SqL K H a (ns.map V.int) → HOk P w H s₁.heap → (∀ b, H b ≠ none → b = a) → (H a ≠ none → K.lookup a = none) →
      codeAny (model P w) callerA (.call (.ref fa) ⟨[.ref a], []⟩) (fun r s' => r = .ok (.ret (.bool true)) ∧ OldK s₁.heap s'.heap ∧ s'.os = s₁.os ∧ AllBare s'.gens) s₁ := by
    intro H hO hS hok hA hK
    have base_of : ∀ {b : Addr} {o : Obj}, s₁.heap.get? b = some o → H b = none → (hidT s₁.heap H).get? b = some o := fun e n => hidT_get e n
    have noA : ∀ {b : Addr} {o : Obj} {es : Array DictEntry} {ep : Nat}, s₁.heap.get? b = some o → o.data = .dict es ep → H b = none := fun {b o es ep} e d => by
      cases q : H b with
      | none => rfl
      | some u =>
        have e' : b = a := hA b (by rw [q]; simp)
        subst e'
        rw [ha] at e; cases e
        have d' : Data.seq vs.toArray _ = Data.dict es ep := d
        cases d'
    have nsK : ∀ {b : Addr} {m : Str → Option Value}, s₁.heap.Ns b m → (hidT s₁.heap H).Ns b m := fun {b m} ⟨o, es, ep, e, d, r⟩ => ⟨o, es, ep, base_of e (noA e d), d, r⟩
    have hKb : K.In (hidT s₁.heap H) := fun b o e => base_of (KX b o e) (by
      cases q : H b with
      | none => rfl
      | some u =>
        have e' : b = a := hA b (by rw [q]; simp)
        subst e'
        rw [hK (by rw [q]; simp)] at e; cases e)
    have hM : Mod K mg (hidT s₁.heap H) := ⟨hKb, nsK hns, ⟨mb, nsK hb, hbb⟩, let ⟨mc, h1, h2⟩ := hlim; ⟨mc, nsK h1, h2⟩⟩
    have e0 : Env0 P w K mg (hidT s₁.heap H) callerA [] s₁ H := ⟨rfl, hM, fun b o e => of_hidT e, Nat.le_of_eq (hidT_size _ _), trivial, fun b hb => absurd (show b ∈ ([] : List Addr) from hb) (by simp), hok, .of_eq hg⟩
    refine codeAny_mono ((F _ hKb (nsK hns)).run callerA [] s₁ H ⟨[.ref a], []⟩ [.ref a] [.ref a] _ _ hr rfl e0 (hbind s₁ (.ref a)) (.cons rfl .nil) (hsp H hO hS)) fun r s' h => ?_
    cases r with
    | error e => exact (hCX H e s' h).elim
    | ok fl =>
      cases fl with
      | next => exact False.elim h
      | brk => exact False.elim h
      | cont => exact False.elim h
      | ret u =>
        obtain ⟨v, H', os, bare, un, hok', r', q⟩ := h
        have q' : v = .bl true := q
        subst q'
        obtain rfl : u = Value.bool true := r'
        refine ⟨rfl, OldK.of_keep fun b o e => ?_, os, bare⟩
        cases q : H b with
        | none => exact un.keep b o e q (by intro z; exact absurd (show b ∈ ([] : List Addr) from z) (by simp)) (by simp)
        | some u =>
          rcases hO b with z | ⟨ob, xs, z⟩
          · rw [q] at z; cases z
          · have z2 := un.frzs b ob _ z
            obtain ⟨e1, _⟩ := hok b _ z
            obtain ⟨e2, _⟩ := hok' b _ z2
            rw [e] at e1; cases e1
            exact e2
  cases hk : K.lookup a with
  | some o =>
    have e := KX a o hk
    rw [ha] at e
    cases e
    refine core (fun _ => none) (fun _ => .inl rfl) (.inr ⟨_, vs.toArray, _, hk, rfl, rfl, rfl, by rw [List.size_toArray, lenV]; exact hl, by simpa using rv⟩) (fun b u z => by have z' : (none : Option HO) = some u := z; cases z') (fun b z => absurd rfl z) fun z => absurd rfl z
  | none =>
    refine core (fun b => if b = a then some (.frz { cls := .type "list", data := .seq vs.toArray } (.lst (ns.map V.int))) else none) (fun b => ?_) (.inl (.inr ⟨{ cls := .type "list", data := .seq vs.toArray }, if_pos rfl⟩)) (fun b u z => ?_) (fun b z => ?_) fun _ => hk
    · by_cases hb : b = a
      · exact .inr ⟨_, _, if_pos hb⟩
      · exact .inl (if_neg hb)
    · by_cases hb : b = a
      · have z' := (if_pos hb).symm.trans z
        cases z'
        subst hb
        exact ⟨ha, by rw [List.length_map]; exact hl, vs, _, rv, ha⟩
      · have z' := (if_neg hb).symm.trans z
        cases z'
    · by_cases hb : b = a
      · exact hb
      · exact absurd (if_neg hb) z
theorem walk_ofG {l : PySem.W.OpenLaw} {n k : Nat} {q : Program} {loose : List Str} {XP : (Str → Option Value) → Heap → Prop} {YP : World → Heap → Prop} {d : DefRec} {CX : CXT} {x : Str}
    (hn : l.most = some n) (hn2 : n ≤ sizeLine) (hdf : d.params.defaults = []) (hr : Room k callerA)
    (F : ∀ (w : World) (mg : Str → Option Value) (fa : Addr) (h : Heap), YP w h → h.Ns mainGlobals mg → mg d.name = some (.ref fa) →
      ∃ (K : PySem.W.Frag) (fd : FuncData) (sp : Sp), K.In h ∧ (∀ (s : Shared) (u : Value), BindsTo s fd ⟨[u], []⟩ [(x, u)]) ∧
        (∀ (H : Hp) (a : Addr) (ns : List Int), ns.length ≤ n → Only H → SqL K H a (ns.map V.int) → sp [.ref a] H (fun v _ => v = .bl true) fun _ _ _ => False) ∧
        ∀ base : Heap, K.In base → base.Ns mainGlobals mg → FnOkG l.prog w K mg base CX k fa fd [x] sp)
    (hCX : ∀ (H : Hp) (s : Shared) (e : Value) (s' : Shared), CX [] H s (fun _ _ _ => False) e s' → False) :
    PySem.W.WalkO q loose XP YP l.row.toRowW d [] (fun f vs => PySem.call f vs) := by
  refine Att.attach_call hn hdf fun w s₀ s₁ mg mb fa o pm cd doc a vs ns G Y ho hd hcd hmg hobj hints hlen hg => ?_
  obtain ⟨K, fd, sp, KX, hb, hsp, hF⟩ := F w mg fa _ Y G.T.g hmg
  exact law_callG KX G.T.g G.T.b G.T.builtins G.T.nolimit hg hobj hints (Nat.le_trans hlen hn2) hr hF hb (fun H hO hS => hsp H a ns hlen hO hS) fun H e s' => hCX H s₁ e s'
variable {P : Program} {w : World} {mg : Str → Option Value} {base : Heap}
theorem FunD.okDG {x qual : Str} {params : Arguments} {body : List Stmt} {scope : Scope} {dvs : List V} {kws : List (Str × V)} {f : Addr} {fd : FuncData} {N ps : List Str} {k : Nat} {sp : Dsp} {t : TDS} (F : FunD K x qual params body scope dvs kws f fd) (S : FnScope N ps scope)
    (len : ∀ ds S Q, sp ds S Q → ds.length = ps.length) (vc : ∀ ds S Q, sp ds S Q → t { nx := fun _ S' => Q .non S', rt := Q } (startD N.length ds) S)
    (hbody : ∀ (cdv : Value) (A : Around) (outer : List Env) (s : Shared) (H : Hp) (E : XK), Room k (A.deeper (envOfC qual scope s.heap.objs.size f cdv)) → (A.deeper (envOfC qual scope s.heap.objs.size f cdv)).guards = some [] →
      PDSs (cxOf CX0 P w K mg base N qual scope f cdv A outer s H E).nox body t) : FnOkG P w K mg base CX0 (k + 1) f fd ps (lSp K sp) := by
  obtain ⟨oc, od, dV, kV, doc, pm, an, cdv, ct, osl, rfl, lk, hcd, _, _⟩ := F.ex
  refine fn_ofG lk hcd S (fun vs H Q E ⟨ds, S, Hb, QD, r, ab, q, _⟩ => r.length.trans (len _ _ _ q)) (fun A outer s H vs Q E hr hgd ⟨ds, S, Hb, QD, r, ab, q, kk⟩ => ⟨_, PSs.nox (hbody cdv A outer s H E hr hgd), ?_⟩)
  refine ⟨startD N.length ds, S, Hb, _, relS_start r _ rfl, ab, vc ds S QD q, ⟨fun σ H' ρ S' Hb' s' rs' ab' q' => ?_, fun v H' d S' Hb' s' ab' r' q' => kk v H' d S' Hb' s' ab' r' q', fun _ _ _ _ _ _ _ _ z => z.elim, fun _ _ _ _ _ _ _ _ z => z.elim⟩⟩
  exact kk .non H' .non S' Hb' s' ab' (by simp only [Rep]) q'

/-! ### repr -/
section
variable {X : Cx}
def rRepr (K : PySem.W.Frag) : List V → Hp → VK → Prop := fun xs H Q => ∃ x a d, xs = [x] ∧ x = .ref a ∧ Dp K H x d ∧ d.showable = true ∧ d.hasDict = false ∧ d.depth ≤ 60 ∧ d.shown.length ≤ sizeLine ∧ Q (.str d.shown) H
theorem callR_repr (hu : X.A.units + 64 < cLine) (hg : X.A.guards = some []) : CallR X (.builtin "repr") (rRepr X.K) := fun pins s σ H xs us Q I r ⟨x, a, d, e, ex, hd, hs, hn, hp, hl, q⟩ => by
  subst e
  obtain ⟨u, rfl, ru⟩ : ∃ u, us = [u] ∧ RelV x u := by
    cases r with
    | cons p q =>
      cases q
      exact ⟨_, rfl, p⟩
  obtain ⟨as, rr⟩ := Dp.reads I d x u hd ru
  subst ex
  cases (show u = Value.ref a from ru)
  exact repr_of_reads' rr hs (fun z => by rw [hn] at z; cases z) hg (by omega) (fun _ _ e => e) (fun h' u tk hk => ⟨.str d.shown, H, I.kept (t' := tk) hk, ⟨_, rfl⟩, q⟩) hl
end
mutual
theorem fit_noDict : ∀ {d : D} {n : Nat}, fit n d = true → d.pd.hasDict = false
  | .non, _, _ => by simp [D.pd, PyData.hasDict]
  | .bl _, _, _ => by simp [D.pd, PyData.hasDict]
  | .int _, _, _ => by simp [D.pd, PyData.hasDict]
  | .str _, _, _ => by simp [D.pd, PyData.hasDict]
  | .ref _, _, _ => by simp [D.pd, PyData.hasDict]
  | .ty _, _, _ => by simp [D.pd, PyData.hasDict]
  | .rol xs, _, f => by simp [fit] at f
  | .rot xs, _, f => by simp [fit] at f
  | .lst xs, 0, f => by simp [fit] at f
  | .tup xs, 0, f => by simp [fit] at f
  | .lst xs, n + 1, f => by
    simp only [fit] at f
    simp only [D.pd, PyData.hasDict]
    exact fits_noDict f
  | .tup xs, n + 1, f => by
    simp only [fit] at f
    simp only [D.pd, PyData.hasDict]
    exact fits_noDict f
theorem fits_noDict : ∀ {ds : List D} {n : Nat}, fits n ds = true → PyData.hasDictAll (pds ds) = false
  | [], _, _ => by simp [pds, PyData.hasDictAll]
  | d :: ds, n, f => by
    simp only [fits, Bool.and_eq_true] at f
    simp only [pds, PyData.hasDictAll, fit_noDict f.1, fits_noDict f.2, Bool.or_self]
end
def rdRepr (ds : List D) (S : Sto) (Q : QD) : Prop := as1 ds fun d => withO (seqOf S d) fun _ => fit 60 (der S d) = true ∧ (der S d).pd.showable = true ∧ (der S d).pd.shown.length ≤ sizeLine ∧ Q (.str (der S d).pd.shown) S
theorem callL_repr : CallL K (rRepr K) rdRepr := by
  intro vs H QV ds S Hb Q r ab h k
  obtain ⟨d, rfl, h⟩ := as1_iff.mp h
  obtain ⟨xs, e, f, hs, hl, q⟩ := withO_iff.mp h
  simp only [RepAll] at r
  obtain ⟨v, r', rfl, rv, rfl⟩ := r
  obtain ⟨a, us, rfl, _, _⟩ := rv.seq ab e
  exact ⟨_, a, _, rfl, rfl, (rv.deref ab).dp f, hs, fit_noDict f, (fit_lay f).2, hl, k _ H _ S Hb (Same.refl _) ab (rep_str _ _) q⟩
end DL

set_option maxHeartbeats 200000
/-! Lay7: dict cells; slice stores; a text so many times; calls by keywords alone; sorted. -/
namespace DL
open PySem PySem.Spec PyProof.Rows L2
variable {K : PySem.W.Frag} {H H' Hb Hb' : Hp} {S S' : Sto}

/-! ### tables of data -/
section
variable {κ : Type} [DecidableEq κ]
def valD (kvs : List (κ × D)) (k : κ) : Option D := (kvs.find? fun kv => decide (kv.1 = k)).map (·.2)
def putD (kvs : List (κ × D)) (k : κ) (v : D) : List (κ × D) :=
  if (kvs.any fun kv => decide (kv.1 = k)) = true then kvs.map (fun kv => if kv.1 = k then (kv.1, v) else kv) else kvs ++ [(k, v)]
def KR (K : PySem.W.Frag) (Hb : Hp) (kvs : List (κ × D)) (vs : List (κ × V)) : Prop := vs.map (·.1) = kvs.map (·.1) ∧ RepAll K Hb (kvs.map (·.2)) (vs.map (·.2))
theorem KR.nil : KR K Hb ([] : List (κ × D)) ([] : List (κ × V)) := ⟨rfl, by simp only [List.map_nil]; exact .nil⟩
theorem KR.cons {k : κ} {d : D} {v : V} {kvs : List (κ × D)} {vs : List (κ × V)} (r : Rep K Hb d v) (h : KR K Hb kvs vs) : KR K Hb ((k, d) :: kvs) ((k, v) :: vs) :=
  ⟨by simp only [List.map_cons, h.1], by simp only [List.map_cons]; exact .cons r h.2⟩
theorem KR.inv {kv : κ × D} {kvs : List (κ × D)} {vs : List (κ × V)} (h : KR K Hb (kv :: kvs) vs) : ∃ v r, vs = (kv.1, v) :: r ∧ Rep K Hb kv.2 v ∧ KR K Hb kvs r := by
  cases vs with
  | nil => have := h.1; simp at this
  | cons q r =>
    obtain ⟨h1, h2⟩ := h
    simp only [List.map_cons, List.cons.injEq] at h1
    simp only [List.map_cons, RepAll] at h2
    obtain ⟨v, r', e, rv, rr⟩ := h2
    simp only [List.cons.injEq] at e
    refine ⟨q.2, r, ?_, ?_, h1.2, ?_⟩
    · rw [← h1.1]
    · rw [e.1]; exact rv
    · rw [e.2]; exact rr
theorem KR.len {kvs : List (κ × D)} {vs : List (κ × V)} (h : KR K Hb kvs vs) : vs.length = kvs.length := by
  have := congrArg List.length h.1
  simpa using this
theorem KR.sub {kvs : List (κ × D)} {vs : List (κ × V)} (h : KR K Hb kvs vs) (e : Sub Hb Hb') : KR K Hb' kvs vs := ⟨h.1, h.2.sub e⟩
theorem KR.any {k : κ} : ∀ {kvs : List (κ × D)} {vs : List (κ × V)}, KR K Hb kvs vs → (vs.any fun kv => decide (kv.1 = k)) = kvs.any fun kv => decide (kv.1 = k)
  | [], vs, h => by
    have := h.len
    simp at this
    subst this
    rfl
  | kv :: kvs, vs, h => by
    obtain ⟨v, r, rfl, _, h2⟩ := h.inv
    simp only [List.any_cons, KR.any h2]
theorem KR.val {k : κ} : ∀ {kvs : List (κ × D)} {vs : List (κ × V)}, KR K Hb kvs vs → (∀ d, valD kvs k = some d → ∃ v, valV vs k = some v ∧ Rep K Hb d v) ∧ (valD kvs k = none → valV vs k = none)
  | [], vs, h => by
    have := h.len
    simp at this
    subst this
    exact ⟨fun d e => by simp [valD] at e, fun _ => rfl⟩
  | kv :: kvs, vs, h => by
    obtain ⟨v, r, rfl, rv, h2⟩ := h.inv
    have ih := KR.val (k := k) h2
    by_cases e : kv.1 = k
    · have e1 : valD (kv :: kvs) k = some kv.2 := by simp [valD, List.find?_cons, e]
      have e2 : valV ((kv.1, v) :: r) k = some v := valV_pos e
      rw [e1, e2]
      exact ⟨fun d q => by cases q; exact ⟨v, rfl, rv⟩, fun q => by cases q⟩
    · have e1 : valD (kv :: kvs) k = valD kvs k := by simp [valD, List.find?_cons, e]
      have e2 : valV ((kv.1, v) :: r) k = valV r k := valV_neg e
      rw [e1, e2]
      exact ih
theorem KR.repl {k : κ} {d : D} {v : V} (rd : Rep K Hb d v) : ∀ {kvs : List (κ × D)} {vs : List (κ × V)}, KR K Hb kvs vs → KR K Hb (kvs.map fun kv => if kv.1 = k then (kv.1, d) else kv) (vs.map fun kv => if kv.1 = k then (kv.1, v) else kv)
  | [], vs, h => by
    have := h.len
    simp at this
    subst this
    exact .nil
  | kv :: kvs, vs, h => by
    obtain ⟨u, r, rfl, ru, h2⟩ := h.inv
    simp only [List.map_cons]
    by_cases e : kv.1 = k
    · rw [if_pos e, if_pos e]
      exact .cons rd (KR.repl rd h2)
    · rw [if_neg e, if_neg e]
      exact .cons ru (KR.repl rd h2)
theorem KR.snoc {k : κ} {d : D} {v : V} (rd : Rep K Hb d v) {kvs : List (κ × D)} {vs : List (κ × V)} (h : KR K Hb kvs vs) : KR K Hb (kvs ++ [(k, d)]) (vs ++ [(k, v)]) :=
  ⟨by simp only [List.map_append, h.1, List.map_cons, List.map_nil], by simp only [List.map_append, List.map_cons, List.map_nil]; exact h.2.append (.one rd)⟩
theorem KR.put {k : κ} {d : D} {v : V} (rd : Rep K Hb d v) {kvs : List (κ × D)} {vs : List (κ × V)} (h : KR K Hb kvs vs) : KR K Hb (putD kvs k d) (putK vs k v) := by
  unfold putD putK
  rw [h.any]
  split
  · exact h.repl rd
  · exact h.snoc rd
end
/-- a key -/
def keyOf : D → Option Key
  | .int i => some (.inl i)
  | .str x => some (.inr x)
  | _ => none
def keysOf : List D → Option (List Key)
  | [] => some []
  | d :: ds => match keyOf d, keysOf ds with
    | some k, some r => some (k :: r)
    | _, _ => none
def tkey : D → Option (List Key)
  | .tup ds => keysOf ds
  | _ => none
theorem keyOf_ok {d : D} {k : Key} {v : V} (r : Rep K Hb d v) (e : keyOf d = some k) : v = kV k := by
  cases d with
  | int i => simp only [keyOf, Option.some.injEq] at e; simp only [Rep] at r; subst e r; rfl
  | str i => simp only [keyOf, Option.some.injEq] at e; simp only [Rep] at r; subst e r; rfl
  | _ => simp only [keyOf] at e; cases e
theorem keysOf_ok : ∀ {ds : List D} {ks : List Key} {vs : List V}, RepAll K Hb ds vs → keysOf ds = some ks → vs = ks.map kV
  | [], ks, vs, r, e => by
    simp only [keysOf, Option.some.injEq] at e
    simp only [RepAll] at r
    subst e r
    rfl
  | d :: ds, ks, vs, r, e => by
    simp only [keysOf] at e
    split at e
    · rename_i k rr e1 e2
      simp only [Option.some.injEq] at e
      subst e
      simp only [RepAll] at r
      obtain ⟨v, r', rfl, rv, rr'⟩ := r
      rw [keyOf_ok rv e1, keysOf_ok rr' e2]
      rfl
    · cases e
theorem tkey_ok {d : D} {ks : List Key} {v : V} (r : Rep K Hb d v) (e : tkey d = some ks) : ∃ b, v = .ref b ∧ Hb b = some (.tup (ks.map kV)) := by
  cases d with
  | tup ds =>
    simp only [tkey] at e
    simp only [Rep] at r
    obtain ⟨a, vs, rfl, hs, hr⟩ := r
    rw [keysOf_ok hr e] at hs
    exact ⟨a, rfl, hs⟩
  | _ => simp only [tkey] at e; cases e
/-- what the dict cell at a says of the key y -/
def atD (S : Sto) (a : Addr) (y : D) : Option (Option D) := match S a with
  | some (.dK kvs) => (keyOf y).map fun k => valD kvs k
  | some (.dT kvs) => (tkey y).map fun k => valD kvs k
  | _ => none
theorem Ab.at {a : Addr} {y : D} {v : V} {o : Option D} (A : Ab K Hb H S) (r : Rep K Hb y v) (e : atD S a y = some o) : ∃ o', DGet H a v o' ∧ (∀ d, o = some d → ∃ u, o' = some u ∧ Rep K Hb d u) ∧ (o = none → o' = none) := by
  unfold atD at e
  split at e
  · rename_i kvs q
    obtain ⟨k, e1, e2⟩ := Option.map_eq_some_iff.mp e
    obtain ⟨_, vs, hv, hr⟩ := A.cel _ _ q
    have := KR.val (k := k) (show KR K Hb kvs vs from hr)
    rw [e2] at this
    rw [keyOf_ok r e1]
    exact ⟨_, .k hv, this.1, this.2⟩
  · rename_i kvs q
    obtain ⟨k, e1, e2⟩ := Option.map_eq_some_iff.mp e
    obtain ⟨_, vs, hv, hr⟩ := A.cel _ _ q
    have := KR.val (k := k) (show KR K Hb kvs vs from hr)
    rw [e2] at this
    obtain ⟨b, rfl, hb⟩ := tkey_ok r e1
    exact ⟨_, .t hv (A.sub _ _ hb), this.1, this.2⟩
  · cases e
section
variable {X : Cx} {a b c o i e f : Expr} {ta tb tc te to ti tv : TDE} {t : TDA} {pos p pos' apos cpos : Pos}
def refD (d : D) (k : Addr → Prop) : Prop := match d with
  | .ref a => k a
  | _ => False
theorem refD_iff {d : D} {k : Addr → Prop} : refD d k ↔ ∃ a, d = .ref a ∧ k a := by
  unfold refD
  constructor
  · intro h
    split at h
    · exact ⟨_, rfl, h⟩
    · exact h.elim
  · rintro ⟨d, rfl, h⟩
    exact h
/-- {} : to be a dict with keys of that kind -/
def dDct : TDE := fun _ S Q => ∀ p, S p = none → Q (.ref p) (sup S p (.dK []))
def dDctT : TDE := fun _ S Q => ∀ p, S p = none → Q (.ref p) (sup S p (.dT []))
theorem pd_dct : PD X (.Dict [] [] pos) dDct := PE.imp pe_dnewK fun σ H QV ⟨ρ, S, Hb, Q, rs, ab, q, k⟩ => fun p hp =>
  k _ _ _ _ _ (Same.refl _) (ab.newC (c := .dK []) hp ⟨[], upd_same, rfl, .nil⟩) (by simp only [Rep]) (q p (ab.free hp))
theorem pd_dctT : PD X (.Dict [] [] pos) dDctT := PE.imp pe_dnewT fun σ H QV ⟨ρ, S, Hb, Q, rs, ab, q, k⟩ => fun p hp =>
  k _ _ _ _ _ (Same.refl _) (ab.newC (c := .dT []) hp ⟨[], upd_same, rfl, .nil⟩) (by simp only [Rep]) (q p (ab.free hp))
/-- d[y] -/
def dGet (to ti : TDE) : TDE := fun ρ S Q => to ρ S fun d S1 => ti ρ S1 fun y S2 => refD d fun a => withO (atD S2 a y) fun o => withO o fun v => Q v S2
theorem pd_get (hu : X.A.units + 1 < cLine) (ho : PD X o to) (hi : PD X i ti) (hs : NoSl i) : PD X (.Subscript o i pos) (dGet to ti) := PE.imp (pe_dget hu ho hi hs) fun σ H QV ⟨ρ, S, Hb, Q, rs, ab, q, k⟩ => by
  refine ⟨ρ, S, Hb, _, rs, ab, q, fun v1 H1 d1 S1 Hb1 s1 ab1 r1 q1 => ?_⟩
  refine ⟨ρ, S1, Hb1, _, rs.sub s1, ab1, q1, fun v2 H2 d2 S2 Hb2 s2 ab2 r2 q2 => ?_⟩
  obtain ⟨a, rfl, q3⟩ := refD_iff.mp q2
  obtain ⟨ov, e1, q4⟩ := withO_iff.mp q3
  obtain ⟨v, rfl, q5⟩ := withO_iff.mp q4
  simp only [Rep] at r1
  obtain ⟨o', g, g1, _⟩ := ab2.at r2 e1
  obtain ⟨u, rfl, ru⟩ := g1 v rfl
  exact ⟨a, u, r1, g, k _ _ _ _ _ (s1.trans s2) ab2 ru q5⟩
/-- d.get(y, z) -/
def isDct (S : Sto) (a : Addr) : Bool := match S a with
  | some (.dK _) => true
  | some (.dT _) => true
  | _ => false
theorem Ab.isD {a : Addr} (A : Ab K Hb H S) (e : isDct S a = true) : IsD H a := by
  unfold isDct at e
  split at e
  · rename_i kvs q
    obtain ⟨_, vs, hv, hr⟩ := A.cel _ _ q
    exact .inl ⟨vs, .inl hv⟩
  · rename_i kvs q
    obtain ⟨_, vs, hv, hr⟩ := A.cel _ _ q
    exact .inr ⟨vs, .inl hv⟩
  · cases e
def dGet2 (to ti tv : TDE) : TDE := fun ρ S Q => to ρ S fun d S1 => refD d fun a => isDct S1 a = true ∧ ti ρ S1 fun y S2 => tv ρ S2 fun z S3 => withO (atD S3 a y) fun o => Q (o.getD z) S3
theorem pd_get2 (hu : X.A.units + 1 < cLine) (ho : PD X o to) (hi : PD X e ti) (hv : PD X f tv) (m : M2 X o "get" apos e f cpos := by exact ⟨rfl, rfl, rfl, rfl⟩) : PD X (.Call (.Attribute o "get" apos) [e, f] [] cpos) (dGet2 to ti tv) := PE.imp (pe_dget2 hu ho hi hv m) fun σ H QV ⟨ρ, S, Hb, Q, rs, ab, q, k⟩ => by
  refine ⟨ρ, S, Hb, _, rs, ab, q, fun v1 H1 d1 S1 Hb1 s1 ab1 r1 q1 => ?_⟩
  obtain ⟨a, rfl, hd, q1⟩ := refD_iff.mp q1
  simp only [Rep] at r1
  refine ⟨a, r1, ab1.isD hd, ρ, S1, Hb1, _, rs.sub s1, ab1, q1, fun v2 H2 d2 S2 Hb2 s2 ab2 r2 q2 => ?_⟩
  refine ⟨ρ, S2, Hb2, _, rs.sub (s1.trans s2), ab2, q2, fun v3 H3 d3 S3 Hb3 s3 ab3 r3 q3 => ?_⟩
  obtain ⟨ov, e1, q4⟩ := withO_iff.mp q3
  obtain ⟨o', g, g1, g2⟩ := ab3.at (r2.sub s3) e1
  refine ⟨o', g, ?_⟩
  cases ov with
  | none =>
    rw [g2 rfl]
    exact k _ _ _ _ _ (s1.trans (s2.trans s3)) ab3 r3 q4
  | some d =>
    obtain ⟨u, rfl, ru⟩ := g1 d rfl
    exact k _ _ _ _ _ (s1.trans (s2.trans s3)) ab3 ru q4
/-- y in d, y not in d -/
def dInT (ti to : TDE) : TDE := fun ρ S Q => ti ρ S fun y S1 => to ρ S1 fun d S2 => refD d fun a => withO (atD S2 a y) fun o => Q (.bl o.isSome) S2
def dNotInT (ti to : TDE) : TDE := fun ρ S Q => ti ρ S fun y S1 => to ρ S1 fun d S2 => refD d fun a => withO (atD S2 a y) fun o => Q (.bl (!o.isSome)) S2
theorem some_same {o : Option D} {o' : Option V} (g1 : ∀ d, o = some d → ∃ u, o' = some u ∧ Rep K Hb d u) (g2 : o = none → o' = none) : o'.isSome = o.isSome := by
  cases o with
  | none => rw [g2 rfl]; rfl
  | some d => obtain ⟨u, rfl, _⟩ := g1 d rfl; rfl
theorem linT {σ : L2.St} {H : Hp} {QV : VK} (q : lE K (dInT ti to) σ H QV) : tDIn (lE K ti) (lE K to) σ H QV := by
  obtain ⟨ρ, S, Hb, Q, rs, ab, q, k⟩ := q
  refine ⟨ρ, S, Hb, _, rs, ab, q, fun v1 H1 d1 S1 Hb1 s1 ab1 r1 q1 => ?_⟩
  refine ⟨ρ, S1, Hb1, _, rs.sub s1, ab1, q1, fun v2 H2 d2 S2 Hb2 s2 ab2 r2 q2 => ?_⟩
  obtain ⟨a, rfl, q3⟩ := refD_iff.mp q2
  obtain ⟨ov, e1, q4⟩ := withO_iff.mp q3
  simp only [Rep] at r2
  obtain ⟨o', g, g1, g2⟩ := ab2.at (r1.sub s2) e1
  refine ⟨a, o', r2, g, ?_⟩
  rw [some_same g1 g2]
  exact k _ _ _ _ _ (s1.trans s2) ab2 (rep_bl _ _) q4
theorem lnotInT {σ : L2.St} {H : Hp} {QV : VK} (q : lE K (dNotInT ti to) σ H QV) : tDNotIn (lE K ti) (lE K to) σ H QV := by
  obtain ⟨ρ, S, Hb, Q, rs, ab, q, k⟩ := q
  refine ⟨ρ, S, Hb, _, rs, ab, q, fun v1 H1 d1 S1 Hb1 s1 ab1 r1 q1 => ?_⟩
  refine ⟨ρ, S1, Hb1, _, rs.sub s1, ab1, q1, fun v2 H2 d2 S2 Hb2 s2 ab2 r2 q2 => ?_⟩
  obtain ⟨a, rfl, q3⟩ := refD_iff.mp q2
  obtain ⟨ov, e1, q4⟩ := withO_iff.mp q3
  simp only [Rep] at r2
  obtain ⟨o', g, g1, g2⟩ := ab2.at (r1.sub s2) e1
  refine ⟨a, o', r2, g, ?_⟩
  rw [some_same g1 g2]
  exact k _ _ _ _ _ (s1.trans s2) ab2 (rep_bl _ _) q4
theorem pd_inT (hu : X.A.units + 1 < cLine) (hi : PD X i ti) (ho : PD X o to) (hm : behindInMarks .In o = false := by rfl) : PD X (.Compare i [.In] [o] pos) (dInT ti to) := PE.imp (pe_cmp (pc_din hu hi ho) (h1 := hm)) fun _ _ _ q => linT q
theorem pd_notInT (hu : X.A.units + 1 < cLine) (hi : PD X i ti) (ho : PD X o to) (hm : behindInMarks .NotIn o = false := by rfl) : PD X (.Compare i [.NotIn] [o] pos) (dNotInT ti to) := PE.imp (pe_cmp (pc_dnotin hu hi ho) (h1 := hm)) fun _ _ _ q => lnotInT q
theorem pdt_inT (hu : X.A.units + 1 < cLine) (hi : PD X i ti) (ho : PD X o to) (hm : behindInMarks .In o = false := by rfl) : PDT X (.Compare i [.In] [o] pos) (dB (dInT ti to)) := PT.imp (pt_cmp (pc_din hu hi ho) (h1 := hm)) fun _ _ _ q => liftB (fun _ _ _ q => linT q) q
theorem pdt_notInT (hu : X.A.units + 1 < cLine) (hi : PD X i ti) (ho : PD X o to) (hm : behindInMarks .NotIn o = false := by rfl) : PDT X (.Compare i [.NotIn] [o] pos) (dB (dNotInT ti to)) := PT.imp (pt_cmp (pc_dnotin hu hi ho) (h1 := hm)) fun _ _ _ q => liftB (fun _ _ _ q => lnotInT q) q
/-- d[y] = v -/
def putC (c : Cell) (y v : D) : Option Cell := match c with
  | .dK kvs => (keyOf y).bind fun k => if kvs.length < sizeLine then some (.dK (putD kvs k v)) else none
  | .dT kvs => (tkey y).bind fun k => if kvs.length < sizeLine then some (.dT (putD kvs k v)) else none
  | _ => none
def sPut (to ti tv : TDE) : TDS := fun F ρ S => tv ρ S fun v S1 => to ρ S1 fun d S2 => ti ρ S2 fun y S3 => refD d fun a => withO (S3 a) fun c => withO (putC c y v) fun c' => F.nx ρ (sup S3 a c')
theorem Ab.put {a : Addr} {y v : D} {vy vv : V} {c c' : Cell} (A : Ab K Hb H S) (ry : Rep K Hb y vy) (rv : Rep K Hb v vv) (e : S a = some c) (h : putC c y v = some c') : ∃ H', DPut H a vy vv H' ∧ Ab K Hb H' (sup S a c') := by
  cases c with
  | lst xs => simp only [putC] at h; cases h
  | dK kvs =>
    simp only [putC, Option.bind_eq_some_iff] at h
    obtain ⟨k, e1, h⟩ := h
    split at h
    · rename_i hl
      simp only [Option.some.injEq] at h
      subst h
      obtain ⟨_, vs, hv, hr⟩ := A.cel _ _ e
      have hr : KR K Hb kvs vs := hr
      rw [keyOf_ok ry e1]
      exact ⟨_, .k hv (by rw [hr.len]; exact hl), A.setC e ⟨_, upd_same, hr.put rv⟩⟩
    · cases h
  | dT kvs =>
    simp only [putC, Option.bind_eq_some_iff] at h
    obtain ⟨k, e1, h⟩ := h
    split at h
    · rename_i hl
      simp only [Option.some.injEq] at h
      subst h
      obtain ⟨_, vs, hv, hr⟩ := A.cel _ _ e
      have hr : KR K Hb kvs vs := hr
      obtain ⟨b, rfl, hb⟩ := tkey_ok ry e1
      exact ⟨_, .t hv (A.sub _ _ hb) (by rw [hr.len]; exact hl), A.setC e ⟨_, upd_same, hr.put rv⟩⟩
    · cases h
theorem pds_put (hu : X.A.units + 1 < cLine) (ho : PD X o to) (hi : PD X i ti) (hv : PD X e tv) (hs : swapsWith e (some (.Subscript o i pos')) pos.line X.env = pure false := by rfl) :
    PDS X (.Assign [.Subscript o i pos'] e pos) (sPut to ti tv) := PS.imp (ps_dput hu ho hi hv hs) fun E σ H ⟨ρ, S, Hb, F, rs, ab, q, k⟩ => by
  refine ⟨ρ, S, Hb, _, rs, ab, q, fun v1 H1 d1 S1 Hb1 s1 ab1 r1 q1 => ?_⟩
  refine ⟨ρ, S1, Hb1, _, rs.sub s1, ab1, q1, fun v2 H2 d2 S2 Hb2 s2 ab2 r2 q2 => ?_⟩
  refine ⟨ρ, S2, Hb2, _, rs.sub (s1.trans s2), ab2, q2, fun v3 H3 d3 S3 Hb3 s3 ab3 r3 q3 => ?_⟩
  obtain ⟨a, rfl, q4⟩ := refD_iff.mp q3
  obtain ⟨c, e1, q5⟩ := withO_iff.mp q4
  obtain ⟨c', e2, q6⟩ := withO_iff.mp q5
  simp only [Rep] at r2
  obtain ⟨H4, g, ab4⟩ := ab3.put r3 (r1.sub (s2.trans s3)) e1 e2
  exact ⟨a, H4, r2, g, k.nx _ _ _ _ _ (s1.trans (s2.trans s3)) (rs.sub (s1.trans (s2.trans s3))) ab4 q6⟩

/-! ### sorted of pairs of numbers -/
def pairsOf : List D → Option (List (Int × Int))
  | [] => some []
  | .tup [.int i, .int j] :: r => (pairsOf r).map ((i, j) :: ·)
  | _ => none
abbrev pairD (p : Int × Int) : D := .tup [.int p.1, .int p.2]
theorem pairsOf_ok : ∀ {ds : List D} {ps : List (Int × Int)}, pairsOf ds = some ps → ds = ps.map pairD
  | [], ps, e => by
    simp only [pairsOf, Option.some.injEq] at e
    subst e
    rfl
  | d :: r, ps, e => by
    unfold pairsOf at e
    split at e
    · rename_i h; cases h
    · rename_i i j r' h
      cases h
      obtain ⟨qs, e1, rfl⟩ := Option.map_eq_some_iff.mp e
      rw [pairsOf_ok e1]
      rfl
    · cases e
end
end DL

set_option maxHeartbeats 200000
/-! Lay8: slice stores; a text so many times; calls by keywords alone; sorted; dict of pairs with tuples as keys. -/
namespace DL
open PySem PySem.Spec PyProof.Rows L2
variable {K : PySem.W.Frag} {H H' Hb Hb' : Hp} {S S' : Sto}
section
variable {X : Cx} {a b c o i e f : Expr} {ta tb tc te to ti tv : TDE} {t : TDA} {pos p p2 pos' apos cpos : Pos}

/-! ### xs[lo:hi] = ys -/
def gSlV (to : TE) (tl th : TO) : TG := fun v σ H QV => to σ H fun x H1 => tl σ H1 fun l H2 => th σ H2 fun u H3 => ∃ (p b : Addr) (xs ys : List V) (i j : Int), x = .ref p ∧ v = .ref b ∧ l = some i ∧ u = some j ∧ H3 p = some (.lst xs) ∧ H3 b = some (.lst ys) ∧ p ≠ b ∧
  0 ≤ i ∧ i ≤ j ∧ j ≤ xs.length ∧ xs.length + ys.length ≤ sizeLine ∧ QV σ (upd H3 p (.lst (xs.take i.toNat ++ ys ++ xs.drop j.toNat)))
variable {lo hi : Option Expr}
theorem pg_slV {to : TE} {tl th : TO} (ho : PE X o to) (hl : PO X lo tl) (hu : PO X hi th)
    (ha : ∀ v, assign (.Subscript o (.Slice lo hi none p2) pos) X.env v = (do
      let ov ← holding [v] (eval o X.env)
      let iv ← holding [v, ov] (eval (.Slice lo hi none p2) X.env)
      standAt pos
      holding [v, ov, iv] (setItem ov iv v)
      release [iv, v, ov] []) := by intro _; rfl) : PG X (.Subscript o (.Slice lo hi none p2) pos) (gSlV to tl th) := by
  refine ⟨fun pins s σ H v u Q I r h => ?_⟩
  rw [ha]
  refine wpAny_bind (wpAny_holding (thn (ho.run pins s σ H _ I h) fun ov s1 ⟨x, H1, I1, r1, q1⟩ => ?_))
  refine wpAny_bind (wpAny_holding ?_)
  refine wpAny_Slice (thn (hl.run pins s1 σ H1 _ I1 q1) fun vl s2 ⟨l, H2, I2, pl, q2⟩ => thn (hu.run pins s2 σ H2 _ I2 q2) fun vu s3 ⟨w, H3, I3, pu, q3⟩ => ?_)
  rw [evalPart_none]
  refine wpAny_pure ?_
  have I4 : Inv X pins σ H3 { s3 with heap := s3.heap.push { cls := .type "slice", data := .fields #[vl, vu, .none] } } := I3.kept (t' := s3.toks) fun b ob q => Heap.get?_push_of_some _ q
  obtain ⟨q, b, xs, ys, i, j, rfl, rfl, rfl, rfl, hx, hy, hne, h0, h1, h2, h3, q4⟩ := q3
  cases r1
  cases r
  cases pl
  cases pu
  refine wpAny_bind (wpAny_standAt (wpAny_bind (wpAny_holding ?_)))
  refine set_slice I4 hx hy hne (Heap.IsSliceOf.new ..) ⟨_, rfl⟩ ⟨_, rfl⟩ h0 h1 h2 h3 fun s5 I5 => ?_
  exact wpAny_release ⟨σ, _, I5, q4⟩
/-- .. over data -/
def gSetSl (to : TDE) (tl th : TDO) : TDG := fun v ρ S Q => to ρ S fun d S1 => tl ρ S1 fun l S2 => th ρ S2 fun u S3 => refD d fun a => withO l fun i => withO u fun j => withO (lstOf S3 v) fun ys => withO (lstOf S3 d) fun xs =>
  S3 a = some (.lst xs) ∧ v ≠ .ref a ∧ 0 ≤ i ∧ i ≤ j ∧ j ≤ xs.length ∧ xs.length + ys.length ≤ sizeLine ∧ Q ρ (sup S3 a (.lst (xs.take i.toNat ++ ys ++ xs.drop j.toNat)))
variable {tl th : TDO}
theorem pdg_setSl (ho : PD X o to) (hl : PDO X lo tl) (hu : PDO X hi th)
    (ha : ∀ v, assign (.Subscript o (.Slice lo hi none p2) pos) X.env v = (do
      let ov ← holding [v] (eval o X.env)
      let iv ← holding [v, ov] (eval (.Slice lo hi none p2) X.env)
      standAt pos
      holding [v, ov, iv] (setItem ov iv v)
      release [iv, v, ov] []) := by intro _; rfl) : PDG X (.Subscript o (.Slice lo hi none p2) pos) (gSetSl to tl th) :=
  PG.imp (pg_slV ho hl hu ha) fun v σ H QV ⟨d0, ρ, S, Hb, Q, r0, rs, ab, q, k⟩ => by
    refine ⟨ρ, S, Hb, _, rs, ab, q, fun v1 H1 d1 S1 Hb1 s1 ab1 r1 q1 => ?_⟩
    refine ⟨ρ, S1, Hb1, _, rs.sub s1, ab1, q1, fun l H2 S2 Hb2 s2 ab2 q2 => ?_⟩
    refine ⟨ρ, S2, Hb2, _, rs.sub (s1.trans s2), ab2, q2, fun u H3 S3 Hb3 s3 ab3 q3 => ?_⟩
    obtain ⟨a, rfl, q4⟩ := refD_iff.mp q3
    obtain ⟨i, rfl, q5⟩ := withO_iff.mp q4
    obtain ⟨j, rfl, q6⟩ := withO_iff.mp q5
    obtain ⟨ys, e1, q7⟩ := withO_iff.mp q6
    obtain ⟨xs, e2, e3, hne, h0, h1, h2, h3, q8⟩ := withO_iff.mp q7
    simp only [Rep] at r1
    subst r1
    obtain ⟨b, us, rfl, hr, hb⟩ := (r0.sub (s1.trans (s2.trans s3))).list ab3 e1
    obtain ⟨ws, ew, hw⟩ := ab3.getL e3
    refine ⟨a, b, ws, us, i, j, rfl, rfl, rfl, rfl, ew, hb, ?_, h0, h1, by rw [hw.length]; exact h2, by rw [hw.length, hr.length]; exact h3, k _ _ _ _ _ (s1.trans (s2.trans s3)) (rs.sub (s1.trans (s2.trans s3))) (ab3.setL e3 ((hw.take _ |>.append hr).append (hw.drop _))) q8⟩
    rintro rfl
    cases d0 with
    | ref a' =>
      simp only [Rep] at r0
      cases r0
      exact hne rfl
    | lst ds =>
      simp only [Rep] at r0
      obtain ⟨a', vs, e, h, _⟩ := r0
      cases e
      have h := (s1.trans (s2.trans s3)) _ _ h
      rw [(ab3.cel _ _ e3).1] at h
      cases h
    | _ => simp only [lstOf] at e1; cases e1

/-! ### a text so many times -/
def rdMulS : R2D := fun x y S Q => asS x fun z => asI y fun n => MulOk z n ∧ Q (.str (Txt.mul z n)) S
theorem opR_mulS : OpR X (binaryOp .Mult) (fun x y H Q => ∃ z n, x = .str z ∧ y = .int n ∧ MulOk z n ∧ Q (.str (Txt.mul z n)) H) := fun pins s σ H x y v u Q I rx ry ⟨z, n, ex, ey, ok, q⟩ => by
  subst ex ey
  obtain ⟨t, rfl⟩ := rx
  obtain ⟨t', rfl⟩ := ry
  exact SB.mul ok fun t2 k => ⟨.str (Txt.mul z n), H, I.tok _, ⟨_, rfl⟩, q⟩
theorem pd_mulS (ha : PD X a ta) (hb : PD X b tb) : PD X (.BinOp a .Mult b pos) (dOp rdMulS ta tb) := pd_op (fun x y H QV dx dy S Hb Q rx ry ab q k => by
  obtain ⟨z, rfl, q⟩ := asS_iff.mp q
  obtain ⟨n, rfl, ok, q⟩ := asI_iff.mp q
  simp only [Rep] at rx ry
  exact ⟨z, n, rx, ry, ok, k _ H _ S Hb (Same.refl _) ab (rep_str _ _) q⟩) opR_mulS ha hb

/-! ### f(k = v, ..) -/
theorem pd_callK0 {k m : Nat} {ff : Addr} {fd : FuncData} {ps ks : List Str} {sp : Dsp} {x : Str} {tk : TDA} {kws : List Keyword} {g : List Value → List Value → List Value} {gV : List V → List V → List V} {gD : List D → List D → List D} (F : FnOk X.prog X.w X.K X.mg X.base CX0 k ff fd ps (lSp X.K sp)) (hr : Room k X.A) (hg : Gl X x) (hm : X.mg x = some (.ref ff)) (hk : PySem.W.keepIn X.K (.ref ff) = true) (hb : KBn X.K fd ps 0 ks g gV)
    (hD : ∀ {Hb : Hp} {ds es : List D} {vs zs : List V}, ds.length = 0 → es.length = ks.length → RepAll X.K Hb ds vs → RepAll X.K Hb es zs → RepAll X.K Hb (gD ds es) (gV vs zs))
    (hkw : PDK X kws tk) (hml : ks.length = m := by rfl) (hall : (backToKw pos (keywordEach kws X.env)).all (·.1.isSome) = true := by rfl) (hks : (backToKw pos (keywordEach kws X.env)).filterMap (·.1) = ks := by rfl)
    (hdb : (x == ("__debug__" : Str)) = false := by decide) (hpl : ((backTo pos (starEach [] X.env)).any (·.1) || (backToKw pos (keywordEach kws X.env)).any (·.1.isNone)) = false := by rfl) :
    PD X (.Call (.Name x p) [] kws pos) (dCallK sp 0 m gD dNil tk) := by
  subst hml
  refine ⟨fun pins s σ H Q I h => ?_⟩
  obtain ⟨ρ, S, Hb, QD, rs, ab, q, kk⟩ := h
  refine wpAny_Call_Name_kw (ld_glob I hg hm ?_ hdb)
  refine PySem.W.callWith_KW0 (h₀ := X.base) I.ok.mod.kin hk hall ?_ hpl
  have hkk : lA X.K tk σ H (fun zs H2 => zs.length = ks.length ∧ lSp X.K sp (gV [] zs) H2 Q E0) := by
    refine ⟨ρ, S, Hb, _, rs, ab, q, fun zs H2 es S2 Hb2 s2 ab2 r2 q2 => ?_⟩
    obtain ⟨l1, l2, q2⟩ := q2
    exact ⟨r2.length.trans l2, _, S2, Hb2, QD, hD rfl l2 .nil r2, ab2, q2, fun v H' d S' Hb' s' => kk v H' d S' Hb' (s2.trans s')⟩
  refine thn (hkw.run pos pins s σ H _ I hkk) fun ws s2 ⟨zs, H2, I2, rz, l2, q2⟩ => ⟨I2.kIn, ?_⟩
  rw [hks]
  exact run_fnN F hr hb pass0 I2 .nil rz rfl l2 q2

/-! ### sorted(xs), any data -/
def rSrt (K : PySem.W.Frag) : List V → Hp → VK → Prop := fun xs H Q => ∃ (a : Addr) (zs : List (V × PyData)), xs = [.ref a] ∧ SqL K H a (zs.map (·.1)) ∧ (∀ z ∈ zs, Dp K H z.1 z.2) ∧ PySem.W.AllAlike (zs.map (·.2)) ∧ PySem.W.Sortable (zs.map (·.2)) ∧ (∀ z ∈ zs, z.2.depth ≤ 60) ∧
  ∀ p, H p = none → Q (.ref p) (upd H p (.lst ((zs.mergeSort (PySem.W.dataLe false (·.2))).map (·.1))))
theorem each_of_vals {P : V → PyData → Prop} {R2 : Value → PyData → Prop} : ∀ {zs : List (V × PyData)} {us : List Value}, Vals (zs.map (·.1)) us → (∀ z ∈ zs, P z.1 z.2) → (∀ v u d, RelV v u → P v d → R2 u d) → PySem.W.EachIs (fun u (z : V × PyData) => RelV z.1 u ∧ R2 u z.2) us zs
  | [], us, r, _, _ => by
    simp only [List.map_nil] at r
    cases r
    exact .nil
  | z :: zs, us, r, h, k => by
    simp only [List.map_cons] at r
    cases r with
    | cons h1 h2 => exact .cons ⟨h1, k _ _ _ h1 (h z List.mem_cons_self)⟩ (each_of_vals h2 (fun y hy => h y (List.mem_cons_of_mem _ hy)) k)
theorem vals_of_each {zs : List (V × PyData)} {us : List Value} (h : PySem.W.EachIs (fun u (z : V × PyData) => RelV z.1 u) us zs) : Vals (zs.map (·.1)) us := by
  induction h with
  | nil => simp only [List.map_nil]; exact .nil
  | cons h1 _ ih => simp only [List.map_cons]; exact .cons h1 ih
theorem each_mono {α β : Type} {R R' : α → β → Prop} {as : List α} {bs : List β} (h : PySem.W.EachIs R as bs) (k : ∀ a b, R a b → R' a b) : PySem.W.EachIs R' as bs := by
  induction h with
  | nil => exact .nil
  | cons h1 _ ih => exact .cons (k _ _ h1) ih
theorem callR_srt (hu : X.A.units + 64 < cLine) : CallR X (.builtin "sorted") (rSrt X.K) := by
  intro pins s σ H xs us Q I r ⟨a, zs, e0, hs, hd, al, so, dp, q⟩
  subst e0
  obtain ⟨its, rv, hl, hz⟩ := I.list hs
  rw [Vals.ref1 r]
  have E := each_of_vals (P := fun v d => Dp X.K H v d) (R2 := fun u d => ∃ as, Reads s.heap u d as) rv hd fun v u d rvu hp => Dp.reads I d v u hp rvu
  refine PySem.W.sorted_data (R := fun u (z : V × PyData) => RelV z.1 u) (enc := (·.2)) hl.isList (each_mono E fun _ _ z => z.1) (each_mono E fun _ _ z => z.2) al so (by rw [List.length_map] at hz; exact hz) (fun z hz => by have := dp z hz; omega) fun out ho eo => ?_
  obtain ⟨ep, he'⟩ := PyProof.Rows.sortedAll_at s.heap its out.toArray
  have hv := vals_of_each eo
  have hlen : ((zs.mergeSort (PySem.W.dataLe false (·.2))).map (·.1)).length ≤ sizeLine := by
    rw [List.length_map, List.length_mergeSort]
    rw [List.length_map] at hz
    exact hz
  exact ⟨.ref _, upd H (s.heap.objs.size + 1) (.lst ((zs.mergeSort (PySem.W.dataLe false (·.2))).map (·.1))), I.laid (t' := s.toks) (fun _ _ => PyProof.Rows.sortedAll_old) (Nat.le_succ _) ⟨hlen, out, ep, hv, he'⟩, rfl, q _ (I.hok.fresh (Nat.le_succ _))⟩
/-- sorted(xs): xs a list -/
def rdSorted (ds : List D) (S : Sto) (Q : QD) : Prop := as1 ds fun d => isTup d = false ∧ withO (seqOf S d) fun xs => fits 60 xs = true ∧ PySem.W.AllAlike (xs.map D.pd) ∧ PySem.W.Sortable (xs.map D.pd) ∧ Q (.lst (xs.mergeSort (PySem.W.dataLe false D.pd))) S
theorem RepAll.zip : ∀ {ds : List D} {vs : List V}, RepAll K H ds vs → ∀ p ∈ vs.zip ds, Rep K H p.2 p.1
  | [], _, h, p, hp => by
    simp only [RepAll] at h
    subst h
    simp at hp
  | d :: ds, vs, h, p, hp => by
    simp only [RepAll] at h
    obtain ⟨v, r, rfl, h1, h2⟩ := h
    simp only [List.zip_cons_cons] at hp
    rcases List.mem_cons.mp hp with rfl | hp
    · exact h1
    · exact RepAll.zip h2 p hp
theorem RepAll.unzip : ∀ {zs : List (V × D)}, (∀ p ∈ zs, Rep K H p.2 p.1) → RepAll K H (zs.map (·.2)) (zs.map (·.1))
  | [], _ => by simp only [List.map_nil]; exact .nil
  | z :: zs, h => by simp only [List.map_cons]; exact .cons (h z List.mem_cons_self) (RepAll.unzip fun p hp => h p (List.mem_cons_of_mem _ hp))
theorem callL_srt : CallL K (rSrt K) rdSorted := by
  intro vs H QV ds S Hb Q r ab h k
  obtain ⟨d, rfl, nt, h⟩ := as1_iff.mp h
  obtain ⟨xs, e, f, al, so, q⟩ := withO_iff.mp h
  simp only [RepAll] at r
  obtain ⟨v, r', rfl, rv, rfl⟩ := r
  obtain ⟨a, us, rfl, hr, hS⟩ := rv.seqL ab e nt
  have hl := hr.length
  have hz := hr.zip
  have m1 : (us.zip xs).map (·.1) = us := List.map_fst_zip (by omega)
  have m2 : (us.zip xs).map (·.2) = xs := List.map_snd_zip (by omega)
  have hf := fits_iff.mp f
  generalize us.zip xs = zs at hz m1 m2
  have c1 : (zs.map fun p : V × D => (p.1, p.2.pd)).map (·.1) = us := by rw [List.map_map]; exact m1
  have c2 : (zs.map fun p : V × D => (p.1, p.2.pd)).map (·.2) = xs.map D.pd := by rw [List.map_map, ← m2, List.map_map]; rfl
  have hm : ∀ p ∈ zs, fit 60 p.2 = true := fun p hp => hf p.2 (by rw [← m2]; exact List.mem_map_of_mem hp)
  have e1 : (zs.map fun p : V × D => (p.1, p.2.pd)).mergeSort (PySem.W.dataLe false (·.2)) = (zs.mergeSort (PySem.W.dataLe false fun p : V × D => p.2.pd)).map fun p => (p.1, p.2.pd) :=
    (List.map_mergeSort (r := PySem.W.dataLe false fun p : V × D => p.2.pd) (s := PySem.W.dataLe false (fun x : V × PyData => x.2)) (f := fun p : V × D => (p.1, p.2.pd)) (l := zs) (fun a _ b _ => rfl)).symm
  have e2 : xs.mergeSort (PySem.W.dataLe false D.pd) = (zs.mergeSort (PySem.W.dataLe false fun p : V × D => p.2.pd)).map (·.2) := by
    rw [← m2]
    exact (List.map_mergeSort (r := PySem.W.dataLe false fun p : V × D => p.2.pd) (s := PySem.W.dataLe false D.pd) (f := fun p : V × D => p.2) (l := zs) (fun a _ b _ => rfl)).symm
  refine ⟨a, zs.map fun p => (p.1, p.2.pd), rfl, by rw [c1]; exact hS, ?_, by rw [c2]; exact al, by rw [c2]; exact so, ?_, fun p hp => ?_⟩
  · intro z hz'
    obtain ⟨p, hp, rfl⟩ := List.mem_map.mp hz'
    exact Rep.dp (hm p hp) ((hz p hp).sub ab.sub)
  · intro z hz'
    obtain ⟨p, hp, rfl⟩ := List.mem_map.mp hz'
    exact (fit_lay (hm p hp)).2
  · rw [e1, List.map_map]
    have hperm := List.mergeSort_perm zs (PySem.W.dataLe false fun p : V × D => p.2.pd)
    have hrep := RepAll.unzip (K := K) (H := Hb) (zs := zs.mergeSort (PySem.W.dataLe false fun p : V × D => p.2.pd)) fun p hp' => hz p (hperm.mem_iff.mp hp')
    rw [← e2] at hrep
    obtain ⟨ab2, s2⟩ := ab.froz (o := .lst ((zs.mergeSort (PySem.W.dataLe false fun p : V × D => p.2.pd)).map (·.1))) hp
    exact k _ _ _ _ _ s2 ab2 (.lstI upd_same (hrep.sub s2)) q
end
end DL

set_option maxHeartbeats 200000
/-! Lay9: dict of pairs with tuples as keys; sorted(d.items()). -/
namespace DL
open PySem PySem.Spec PyProof.Rows L2
variable {K : PySem.W.Frag} {H H' Hb Hb' : Hp} {S S' : Sto}
def foldT (acc kvs : List (List Key × V)) : List (List Key × V) := kvs.foldl (fun acc kv => putK acc kv.1 kv.2) acc
theorem foldT_len : ∀ (kvs acc : List (List Key × V)), (foldT acc kvs).length ≤ acc.length + kvs.length
  | [], acc => Nat.le_refl _
  | kv :: kvs, acc => by
    have h := foldT_len kvs (putK acc kv.1 kv.2)
    have h2 := length_putK acc kv.1 kv.2
    show (foldT (putK acc kv.1 kv.2) kvs).length ≤ acc.length + (kvs.length + 1)
    omega
theorem KT.fold : ∀ {kvs : List (List Key × V)} {xs : List (List Key × Addr × Value)} {acc : List (List Key × V)} {ax : List (List Key × Addr × Value)}, KT H kvs xs → KT H acc ax → KT H (foldT acc kvs) (storedAllH ax xs)
  | [], _, _, _, .nil, h => h
  | kv :: kvs, x :: xs, acc, ax, .cons h t, r => by
    obtain ⟨e, hb, rv⟩ := h
    have := KT.fold t (KT.put r kv.1 (b := x.2.1) hb rv)
    show KT H (foldT (putK acc kv.1 kv.2) kvs) (storedAllH (storedH ax x.1 x.2.1 x.2.2) xs)
    rw [← e]
    exact this
def rDictT (K : PySem.W.Frag) : List V → Hp → VK → Prop := fun xs H Q => ∃ (a : Addr) (ps : List Addr) (kvs : List (List Key × V)), xs = [.ref a] ∧ SqL K H a (ps.map V.ref) ∧ Paired (fun (p : Addr) (kv : List Key × V) => ∃ b, SqT K H p [.ref b, kv.2] ∧ H b = some (.tup (kv.1.map kV))) ps kvs ∧
  ∀ p, H p = none → Q (.ref p) (upd H p (.dT (foldT [] kvs)))
section
variable {X : Cx}
theorem trips {pins : List (Addr × Obj)} {σ : L2.St} {s : Shared} (I : Inv X pins σ H s) : ∀ {ps : List Addr} {kvs : List (List Key × V)}, Paired (fun (p : Addr) (kv : List Key × V) => ∃ b, SqT X.K H p [.ref b, kv.2] ∧ H b = some (.tup (kv.1.map kV))) ps kvs →
    ∃ xs : List (List Key × Addr × Value), KT H kvs xs ∧ xs.length = ps.length ∧ ∀ (j : Nat) (x : List Key × Addr × Value), xs[j]? = some x → ∃ T, ps[j]? = some T ∧ IsTup s.heap T #[.ref x.2.1, x.2.2]
  | _, _, .nil => ⟨[], .nil, rfl, fun j x e => by simp at e⟩
  | _, _, .cons (a := p) (b := kv) ⟨b, h, hb⟩ t => by
    obtain ⟨xs, r, hl, hp⟩ := trips I t
    obtain ⟨its, rv, ht, _⟩ := I.tuple h
    obtain ⟨u, y, ei, ru, ry⟩ := vals2 rv
    subst ei
    cases (show u = Value.ref b from ru)
    refine ⟨(kv.1, b, y) :: xs, .cons ⟨rfl, hb, ry⟩ r, by rw [List.length_cons, List.length_cons, hl], fun j x e => ?_⟩
    cases j with
    | zero =>
      have e' : (kv.1, b, y) = x := Option.some.inj e
      subst e'
      exact ⟨p, rfl, ht⟩
    | succ j =>
      obtain ⟨T, e1, e2⟩ := hp j x (by simpa using e)
      exact ⟨T, by simpa using e1, e2⟩
theorem callR_dictT (hcalm : X.calm = true) (hu : X.A.units + 2 < cLine) : CallR X (.type "dict") (rDictT X.K) := by
  intro pins s σ H xs us Q I r ⟨a, ps, kvs, e0, hq, hp, q⟩
  subst e0
  obtain ⟨u, eu, rx⟩ := vals1 r
  subst eu
  cases rx
  obtain ⟨its, rv, pl, hz⟩ := I.list hq
  have ei := refs_at rv
  subst ei
  rw [List.length_map] at hz
  obtain ⟨ts, rel, hl, hpr⟩ := trips I hp
  obtain ⟨o, n, ho, hc, hd, hdat⟩ := pl
  have lrel : kvs.length = ts.length := Paired.length rel
  have hkeys : ∀ {l : List (List Key × V)} {m : List (List Key × Addr × Value)}, KT H l m → ∀ x ∈ m, H x.2.1 = some (.tup (x.1.map kV)) := by
    intro l m r
    induction r with
    | nil => intro x hx; cases hx
    | cons h _ ih =>
      intro x hx
      rcases List.mem_cons.mp hx with rfl | hx
      · rw [← h.1]; exact h.2.1
      · exact ih x hx
  refine call_dict_pairsH (knd := tupleKind (mixKind X.prog X.w)) (ps := ts) (PairArg.list a (ps.map Value.ref).toArray (fun j => ps.getD j 0) (ts.map fun x => (Value.ref x.2.1, x.2.2))) (I.ok.hd hcalm) (tupleKind_room_in1 (A := X.A.in1) (by show X.A.units + 1 + 1 < cLine; omega))
    ⟨⟨o, n, ho, hc, hd, hdat⟩, by simp [hl], fun j k v e => ?_⟩ ⟨by simp, fun i key v e => ?_⟩ (fun h' kp x hx => ?_) (by simp [hl]; exact hz) fun h' tk hd' kp => ?_
  · rw [List.getElem?_map] at e
    obtain ⟨x, hx, ex⟩ := Option.map_eq_some_iff.mp e
    simp only [Prod.mk.injEq] at ex
    obtain ⟨T, e1, e2⟩ := hpr j x hx
    have eT : ps.getD j 0 = T := by rw [List.getD_eq_getElem?_getD, e1]; rfl
    refine ⟨by simp [e1, eT], .inl ?_⟩
    show Heap.IsTuple s.heap (ps.getD j 0) _
    rw [eT, ← ex.1, ← ex.2]
    exact e2
  · have e : (ts.map fun x : List Key × Addr × Value => (Value.ref x.2.1, x.2.2))[i]? = some (key, v) := e
    rw [List.getElem?_map] at e
    obtain ⟨x, hx, ex⟩ := Option.map_eq_some_iff.mp e
    simp only [Prod.mk.injEq] at ex
    exact ⟨x.1, x.2.1, by rw [hx, ← ex.2], ex.1.symm⟩
  · have hk := hkeys rel x hx
    obtain ⟨_, its2, r2, ob, h1, h2, m, h3⟩ := (show ObjOk X.prog X.w H s.heap x.2.1 (.tup (x.1.map kV)) from I.hok _ _ hk)
    exact ⟨ob, its2.toArray, m, kp _ _ (Nat.ne_of_lt (Heap.lt_size h1)) (by simp) h1, h2, h3, by simpa using items_are r2⟩
  · obtain ⟨oq, es, ep, hoq, h2, h3, h4, _, h5⟩ := hd'
    have hm : (s.heap.objs.size == sysModules) = false := beq_eq_false_iff_ne.mpr (Nat.ne_of_gt I.big)
    have hlen : (foldT [] kvs).length ≤ sizeLine := by
      refine Nat.le_trans (foldT_len kvs []) ?_
      rw [List.length_nil, Nat.zero_add, lrel, hl]
      exact hz
    have hn : H s.heap.objs.size = none := I.hok.fresh (Nat.le_refl _)
    have new : ObjOk X.prog X.w (upd H s.heap.objs.size (.dT (foldT [] kvs))) h' s.heap.objs.size (.dT (foldT [] kvs)) :=
      ⟨hlen, hm, _, (KT.fold rel .nil).keeps fun c ys ec => by rw [upd_ne (ne_of_none ec hn)]; exact ec, oq, es, ep, hoq, h2, h3, h4, h5⟩
    exact ⟨.ref s.heap.objs.size, _, I.laid (t' := tk) (fun b o e => kp b o (by simp) e) (Nat.le_refl _) new, rfl, q _ hn⟩
end
/-- dict(xs): xs a list of pairs, the keys tuples -/
def tpairs : List D → Option (List (List Key × D))
  | [] => some []
  | .tup [.tup ks, v] :: r => match keysOf ks, tpairs r with
    | some k, some rr => some ((k, v) :: rr)
    | _, _ => none
  | _ => none
def foldD (acc kvs : List (List Key × D)) : List (List Key × D) := kvs.foldl (fun acc kv => putD acc kv.1 kv.2) acc
theorem KR.fold : ∀ {kvs : List (List Key × D)} {vs : List (List Key × V)} {acc : List (List Key × D)} {av : List (List Key × V)}, KR K Hb kvs vs → KR K Hb acc av → KR K Hb (foldD acc kvs) (foldT av vs)
  | [], vs, acc, av, h, g => by
    have := h.len
    simp at this
    subst this
    exact g
  | kv :: kvs, vs, acc, av, h, g => by
    obtain ⟨v, r, rfl, rv, h2⟩ := h.inv
    show KR K Hb (foldD (putD acc kv.1 kv.2) kvs) (foldT (putK av kv.1 v) r)
    exact KR.fold h2 (g.put rv)
theorem tpairs_ok : ∀ {ds : List D} {kvs : List (List Key × D)} {vs : List V}, tpairs ds = some kvs → RepAll K H ds vs → ∃ (ps : List Addr) (ws : List (List Key × V)), vs = ps.map V.ref ∧ KR K H kvs ws ∧
    Paired (fun (p : Addr) (kv : List Key × V) => ∃ b, SqT K H p [.ref b, kv.2] ∧ H b = some (.tup (kv.1.map kV))) ps ws
  | [], kvs, vs, e, r => by
    simp only [tpairs, Option.some.injEq] at e
    simp only [RepAll] at r
    subst e r
    exact ⟨[], [], rfl, .nil, .nil⟩
  | d :: ds, kvs, vs, e, r => by
    unfold tpairs at e
    split at e
    · rename_i h; cases h
    · rename_i ks v r' h
      cases h
      split at e
      · rename_i k rr e1 e2
        simp only [Option.some.injEq] at e
        subst e
        simp only [RepAll] at r
        obtain ⟨x, rest, rfl, rx, rr'⟩ := r
        obtain ⟨ps, ws, e3, hk, hp⟩ := tpairs_ok e2 rr'
        simp only [Rep] at rx
        obtain ⟨p, us, rfl, hs, hr⟩ := rx
        simp only [RepAll, Rep] at hr
        obtain ⟨x1, u1, rfl, ⟨b, ys, rfl, hb, hrb⟩, x2, u2, rfl, rv, rfl⟩ := hr
        rw [keysOf_ok hrb e1] at hb
        exact ⟨p :: ps, (k, x2) :: ws, by rw [e3]; rfl, .cons rv hk, .cons ⟨b, .inl (.inl hs), hb⟩ hp⟩
      · cases e
    · cases e
def rdDictT (ds : List D) (S : Sto) (Q : QD) : Prop := as1 ds fun d => isTup d = false ∧ withO (seqOf S d) fun xs => withO (tpairs xs) fun kvs => ∀ p, S p = none → Q (.ref p) (sup S p (.dT (foldD [] kvs)))
theorem callL_dictT : CallL K (rDictT K) rdDictT := by
  intro vs H QV ds S Hb Q r ab h k
  obtain ⟨d, rfl, nt, h⟩ := as1_iff.mp h
  obtain ⟨xs, e, h2⟩ := withO_iff.mp h
  obtain ⟨kvs, e2, q⟩ := withO_iff.mp h2
  simp only [RepAll] at r
  obtain ⟨v, r', rfl, rv, rfl⟩ := r
  obtain ⟨a, us, rfl, hr, hS⟩ := rv.seqL ab e nt
  obtain ⟨ps, ws, e3, hk, hp⟩ := tpairs_ok e2 hr
  subst e3
  refine ⟨a, ps, ws, rfl, hS, L2.Paired.mapP hp fun p kv ⟨b, h1, h2⟩ => ⟨b, seqT_sub ab.sub h1, ab.sub _ _ h2⟩, fun p hp => ?_⟩
  exact k _ _ _ _ _ (Same.refl _) (ab.newC (c := .dT (foldD [] kvs)) hp ⟨_, upd_same, KR.fold hk .nil⟩) (by simp only [Rep]) (q p (ab.free hp))
end DL

set_option maxHeartbeats 200000
/-! Lay10: sorted(d.items()), keys numbers or texts. -/
namespace DL
open PySem PySem.Spec PyProof.Rows L2
variable {K : PySem.W.Frag} {H H' Hb Hb' : Hp} {S S' : Sto}
mutual
theorem reads_old {h : Heap} : ∀ {v : Value} {d : PyData} {as : List Addr}, Reads h v d as → ∀ a ∈ as, a < h.objs.size
  | _, _, _, .none, a, ha => by simp at ha
  | _, _, _, .bool b, a, ha => by simp at ha
  | _, _, _, .int i t, a, ha => by simp at ha
  | _, _, _, .str x t, a, ha => by simp at ha
  | _, _, _, .list h1 h2 h3 h4, a, ha => by
    rcases List.mem_cons.mp ha with rfl | ha
    · exact Heap.lt_size h1
    · exact readsAll_old h4 a ha
  | _, _, _, .tuple h1 h2 h3 h4, a, ha => readsAll_old h4 a ha
  | _, _, _, .dict h1 h2 h3 h4 h5, a, ha => by
    rcases List.mem_append.mp ha with ha | ha
    · rcases List.mem_cons.mp ha with rfl | ha
      · exact Heap.lt_size h1
      · exact readsAll_old h4 a ha
    · exact readsAll_old h5 a ha
theorem readsAll_old {h : Heap} : ∀ {vs : List Value} {ds : List PyData} {as : List Addr}, ReadsAll h vs ds as → ∀ a ∈ as, a < h.objs.size
  | _, _, _, .nil, a, ha => by simp at ha
  | _, _, _, .cons h1 h2, a, ha => by
    rcases List.mem_append.mp ha with ha | ha
    · exact reads_old h1 a ha
    · exact readsAll_old h2 a ha
end
def keyP : Key → PyData
  | .inl i => .int i
  | .inr x => .str x
def keyD : Key → D
  | .inl i => .int i
  | .inr x => .str x
theorem keyD_pd (k : Key) : (keyD k).pd = keyP k := by cases k <;> simp [keyD, keyP, D.pd]
theorem keyD_rep (k : Key) (Hb : Hp) : Rep K Hb (keyD k) (kV k) := by cases k <;> simp only [keyD, kV, Rep]
section
variable {X : Cx}
def rItemsK : V → List V → Hp → VK → Prop := fun x xs H Q => ∃ (a : Addr) (kvs : List (Key × V)), x = .ref a ∧ xs = [] ∧ H a = some (.dK kvs) ∧ ∀ p, H p = none → Q (.ref p) (upd H p (DX.itemsO p a))
theorem mt_itemsK : MtR X "dict.items" rItemsK := by
  intro pins s σ H x xs v us Q I rx rxs ⟨a, kvs, ex, exs, ha, q⟩
  subst ex exs
  cases rx
  cases rxs
  obtain ⟨z, hd, vs, rel, o, es, ep, ho, hx, hdat, _⟩ := dk_of I.hok ha
  refine DT.callItems (es := es) (ep := ep) hd ⟨o, ho, hx, hdat⟩ ?_
  have hf : H s.heap.objs.size = none := I.hok.fresh (Nat.le_refl _)
  exact ⟨.ref s.heap.objs.size, upd H s.heap.objs.size (DX.itemsO s.heap.objs.size a), I.laid (t' := s.toks) (fun b u e => Heap.get?_push_of_some _ e) (Nat.le_refl _) (DX.itemsO_ok (Heap.get?_push_size _ rfl)), rfl, q _ hf⟩
def rSrtIt (K : PySem.W.Frag) : List V → Hp → VK → Prop := fun xs H Q => ∃ (p a : Addr) (β : Type) (bs : List ((Key × V) × β)) (enc : β → PyData), xs = [.ref p] ∧ H p = some (DX.itemsO p a) ∧ H a = some (.dK (bs.map (·.1))) ∧
  (∀ z ∈ bs, ∃ d, enc z.2 = .tuple [keyP z.1.1, d] ∧ Dp K H z.1.2 d ∧ d.depth ≤ 50) ∧ PySem.W.AllAlike (bs.map fun z => enc z.2) ∧
  ∀ (H' : Hp) (l : Addr) (as : List Addr), as.length = bs.length → (∀ b o, H b = some o → H' b = some o) → H l = none → (∀ T ∈ as, H T = none) → H' l = some (.lst (((as.zip bs).mergeSort (PySem.W.dataLe false fun z => enc z.2.2)).map fun z => V.ref z.1)) →
    (∀ z ∈ as.zip bs, H' z.1 = some (.tup [kV z.2.1.1, z.2.1.2])) → Q (.ref l) H'
theorem pairs_get {prog : Program} {w : World} : ∀ {es : List DictEntry} {kvs : List (Key × Value)}, Pairs (mixKind prog w) es kvs → ∀ {j : Nat} {kv : Key × Value}, kvs[j]? = some kv → ∃ e, es[j]? = some e ∧ keyIs kv.1 e.key = true ∧ e.val = kv.2
  | _, _, .nil, _, _, e => by simp at e
  | _, _, .cons h1 h2 h3, j, kv, e => by
    cases j with
    | zero =>
      simp only [List.getElem?_cons_zero, Option.some.injEq] at e
      subst e
      exact ⟨_, rfl, h1, h2⟩
    | succ j =>
      simp only [List.getElem?_cons_succ] at e ⊢
      exact pairs_get h3 e
theorem kv_get : ∀ {kvs : List (Key × V)} {vs : List (Key × Value)}, KV kvs vs → ∀ {j : Nat} {kv : Key × V}, kvs[j]? = some kv → ∃ u, vs[j]? = some (kv.1, u) ∧ RelV kv.2 u
  | _, _, .nil, _, _, e => by simp at e
  | _, _, .cons (a := a) (b := b) h1 h3, j, kv, e => by
    cases j with
    | zero =>
      simp only [List.getElem?_cons_zero, Option.some.injEq] at e
      subst e
      exact ⟨b.2, by simp [h1.1], h1.2⟩
    | succ j =>
      simp only [List.getElem?_cons_succ] at e ⊢
      exact kv_get h3 e
theorem key_rel {k : Key} {u : Value} (h : keyIs k u = true) : RelV (kV k) u ∧ ∀ hp : Heap, Reads hp u (keyP k) [] := by
  rcases keyIs_shape h with ⟨i, t, rfl, rfl⟩ | ⟨x, t, rfl, rfl⟩
  · exact ⟨⟨_, rfl⟩, fun _ => .int _ _⟩
  · exact ⟨⟨_, rfl⟩, fun _ => .str _ _⟩
theorem callR_srtIt (hc : X.calm = true) (hu : X.A.units + 64 < cLine) : CallR X (.builtin "sorted") (rSrtIt X.K) := by
  intro pins s σ H xs us Q I r ⟨p, a, β, bs, enc, e0, hp, ha, hd, al, q⟩
  subst e0
  obtain rfl := Vals.ref1 r
  have view : s.heap.IsItemsView p a := (show ObjOk X.prog X.w H s.heap p (DX.itemsO p a) from I.hok p _ hp).1
  obtain ⟨z, hdd, vs', rel, o, es, ep, ho, hx, hdat, hko, hpr, hn⟩ := dk_of I.hok ha
  have l0 : bs.length = vs'.length := by have := Paired.length rel; rw [List.length_map] at this; exact this
  have l2 : es.size = vs'.length := by have := hpr.length; simpa using this
  rw [List.length_map] at z
  have hh : X.A.handled = none := I.ok.hd hc
  refine DT.sortedI (es := es) (ep := ep) hh view ⟨o, ho, hx, hdat⟩ (by omega) fun h' tk as hk hlt hl hG => ?_
  have lak : as.length = bs.length := by omega
  have nd : as.Nodup := List.Pairwise.imp (fun h => Nat.ne_of_lt h) hG.rise
  -- the pairs that were made
  have pr : ∀ (j : Nat) (b : Addr) (zz : (Key × V) × β), as[j]? = some b → bs[j]? = some zz → ∃ ku vu, h'.get? b = some { cls := .type "tuple", data := .seq #[ku, vu] } ∧ RelV (kV zz.1.1) ku ∧ RelV zz.1.2 vu ∧ ∀ hp : Heap, Reads hp ku (keyP zz.1.1) [] := by
    intro j b zz hj hz
    obtain ⟨en, he, hg⟩ := hG.pairs j b hj
    have hbj : (bs.map (·.1))[j]? = some zz.1 := by rw [List.getElem?_map, hz]; rfl
    obtain ⟨u, hu1, hu2⟩ := kv_get rel hbj
    obtain ⟨e', he', hk1, hk2⟩ := pairs_get hpr hu1
    have : e' = en := by
      rw [Array.getElem?_toList] at he'
      exact Option.some.inj (he'.symm.trans he)
    subst this
    obtain ⟨k1, k2⟩ := key_rel hk1
    exact ⟨_, _, hg, k1, by rw [hk2]; exact hu2, k2⟩
  have hob : (h'.push { cls := .type "list", data := .seq (as.map Value.ref).toArray }).get? h'.objs.size = some (seqObj "list" (as.map Value.ref).toArray 0) := Heap.get?_push_size _ rfl
  have kb : ∀ b o, s.heap.get? b = some o → (h'.push { cls := .type "list", data := .seq (as.map Value.ref).toArray }).get? b = some o := fun b o e => Heap.get?_push_of_some _ (hk b o e)
  have ne0 : ∀ b o, h'.get? b = some o → b ≠ h'.objs.size := fun b o e => Nat.ne_of_lt (Heap.lt_size e)
  have ka : ∀ b o, h'.get? b = some o → (h'.push { cls := .type "list", data := .seq (as.map Value.ref).toArray }).get? b = some o := fun b o e => Heap.get?_push_of_some _ e
  generalize hh2 : h'.push { cls := .type "list", data := .seq (as.map Value.ref).toArray } = h2 at hob kb ka ⊢
  have rd : ∀ zz ∈ as.zip bs, ∃ ax, Reads h2 (.ref zz.1) (enc zz.2.2) ax ∧ h'.objs.size ∉ ax := by
    intro zz hz
    obtain ⟨j, hj⟩ := List.mem_iff_getElem?.mp hz
    obtain ⟨j1, j2⟩ := List.getElem?_zip_eq_some.mp hj
    obtain ⟨ku, vu, hg, rk, rv, rdk⟩ := pr j zz.1 zz.2 j1 j2
    obtain ⟨d, ed, dpd, _⟩ := hd zz.2 (List.mem_of_getElem? j2)
    obtain ⟨ax, rx⟩ := Dp.reads I d _ vu dpd rv
    have rx2 := Reads.keeps hk rx
    rw [ed]
    refine ⟨[] ++ (ax ++ []), .tuple (ka _ _ hg) rfl rfl (.cons (rdk _) (.cons (Reads.keeps ka rx2) .nil)), fun hm => ?_⟩
    simp only [List.nil_append, List.append_nil] at hm
    exact absurd (reads_old rx2 _ hm) (Nat.lt_irrefl _)
  have E : ∀ (as : List Addr) (bs : List ((Key × V) × β)), as.length = bs.length → (∀ zz ∈ as.zip bs, ∃ ax, Reads h2 (.ref zz.1) (enc zz.2.2) ax ∧ h'.objs.size ∉ ax) →
      PySem.W.EachIs (fun v (zz : Addr × ((Key × V) × β)) => v = .ref zz.1 ∧ ∃ ax, Reads h2 v (enc zz.2.2) ax ∧ h'.objs.size ∉ ax) (as.map Value.ref) (as.zip bs) := by
    intro as
    induction as with
    | nil => intro bs _ _; simp only [List.map_nil, List.zip_nil_left]; exact .nil
    | cons x as ih =>
      intro bs hl h
      cases bs with
      | nil => simp at hl
      | cons y bs =>
        simp only [List.map_cons, List.zip_cons_cons] at h ⊢
        exact .cons ⟨rfl, h (x, y) List.mem_cons_self⟩ (ih bs (by simpa using hl) fun zz hz => h zz (List.mem_cons_of_mem _ hz))
  have E1 := E as bs lak rd
  have mb : (as.zip bs).map (·.2) = bs := List.map_snd_zip (by omega)
  have me : (as.zip bs).map (fun zz => enc zz.2.2) = bs.map fun zz => enc zz.2 := by
    conv => rhs; rw [← mb]
    rw [List.map_map]
    rfl
  have hlz : (as.zip bs).length = bs.length := by rw [List.length_zip]; omega
  refine PySem.W.list_sort_data (s := { s with heap := h2, toks := tk }) (R := fun v (zz : Addr × ((Key × V) × β)) => v = .ref zz.1) (enc := fun zz => enc zz.2.2) hob (each_mono E1 fun _ _ z => z.1) (each_mono E1 fun _ _ z => z.2) (by rw [me]; exact al)
    (.inl fun d hd' => ?_) (by rw [hlz]; exact z) (fun zz hz => ?_) fun out hol eo => ?_
  · rw [me] at hd'
    obtain ⟨zz, hz, rfl⟩ := List.mem_map.mp hd'
    obtain ⟨d, ed, _⟩ := hd zz hz
    exact ⟨_, _, ed⟩
  · obtain ⟨j, hj⟩ := List.mem_iff_getElem?.mp hz
    obtain ⟨j1, j2⟩ := List.getElem?_zip_eq_some.mp hj
    obtain ⟨d, ed, _, hdep⟩ := hd zz.2 (List.mem_of_getElem? j2)
    have hkd : (keyP zz.2.1.1).depth = 0 := by cases zz.2.1.1 <;> simp [keyP, PyData.depth]
    have : (enc zz.2.2).depth ≤ 52 := by
      rw [ed]
      simp only [PyData.depth, PyData.depthAll, hkd]
      omega
    show X.A.units + 1 + 1 + _ < cLine
    omega
  · show EP X pins σ Q (.ref h'.objs.size) { s with heap := sortedHeap h2 h'.objs.size (as.map Value.ref) (List.toArray out), toks := tk }
    have kF : ∀ b o, b ≠ h'.objs.size → h2.get? b = some o → (sortedHeap h2 h'.objs.size (as.map Value.ref) (List.toArray out)).get? b = some o := fun b o hb e => (PyProof.Rows.sortedHeap_old hb (Heap.lt_size e)).trans e
    have kS : ∀ b o, s.heap.get? b = some o → (sortedHeap h2 h'.objs.size (as.map Value.ref) (List.toArray out)).get? b = some o := fun b o e => kF b o (ne0 _ _ (hk b o e)) (kb b o e)
    obtain ⟨eF, heF⟩ := PyProof.Rows.sortedHeap_at (vs := as.map Value.ref) (out := List.toArray out) hob
    have I1 : Inv X pins σ H { s with heap := sortedHeap h2 h'.objs.size (as.map Value.ref) (List.toArray out), toks := tk } := I.kept (t' := tk) kS
    have hn0 : H h'.objs.size = none := I.hok.fresh (Nat.le_of_lt hlt)
    have vout : ∀ {zs : List (Addr × ((Key × V) × β))} {us : List Value}, PySem.W.EachIs (fun v (zz : Addr × ((Key × V) × β)) => v = .ref zz.1) us zs → Vals (zs.map fun zz => V.ref zz.1) us := by
      intro zs us h
      induction h with
      | nil => simp only [List.map_nil]; exact .nil
      | cons h1 _ ih => simp only [List.map_cons]; exact .cons h1 ih
    have rv := vout eo
    have hlen : (((as.zip bs).mergeSort (PySem.W.dataLe false fun zz => enc zz.2.2)).map fun zz => V.ref zz.1).length ≤ sizeLine := by
      rw [List.length_map, List.length_mergeSort, hlz]
      exact z
    have I2 : Inv X pins σ (upd H h'.objs.size (.lst (((as.zip bs).mergeSort (PySem.W.dataLe false fun zz => enc zz.2.2)).map fun zz => V.ref zz.1))) { s with heap := sortedHeap h2 h'.objs.size (as.map Value.ref) (List.toArray out), toks := tk } :=
      I1.take (h' := sortedHeap h2 h'.objs.size (as.map Value.ref) (List.toArray out)) (t' := tk) (fun b ob _ e => e) (I.fpOk (Nat.le_of_lt hlt) hn0) ⟨hlen, out, eF, rv, heF⟩
    obtain ⟨H2, I3, g, qt⟩ := DX.takeT (P := fun b vs => ∃ (j : Nat) (zz : (Key × V) × β), as[j]? = some b ∧ bs[j]? = some zz ∧ vs = [kV zz.1.1, zz.1.2]) I as _ I2 nd fun b hb => by
      obtain ⟨j, hj⟩ := List.mem_iff_getElem?.mp hb
      have hjl : j < bs.length := by have := (List.getElem?_eq_some_iff.mp hj).1; omega
      obtain ⟨ku, vu, hg, rk, rv, _⟩ := pr j b bs[j] hj (List.getElem?_eq_getElem hjl)
      have hbl : s.heap.objs.size ≤ b := Nat.le_of_lt (hG.above b hb)
      refine ⟨hbl, ?_, _, ⟨j, _, hj, List.getElem?_eq_getElem hjl, rfl⟩, fun H3 => ⟨(by rw [sizeLine_eq]; show 2 ≤ 16777216; omega), [ku, vu], .cons rk (.cons rv .nil), ⟨_, kF _ _ (ne0 _ _ hg) (ka _ _ hg), rfl, 0, rfl⟩⟩⟩
      rw [upd_ne (ne0 _ _ hg)]
      exact I.hok.fresh hbl
    have gr : ∀ b o, H b = some o → H2 b = some o := fun b o e => g b o (by rw [upd_ne (ne_of_none e hn0)]; exact e)
    refine ⟨.ref h'.objs.size, H2, I3, rfl, q H2 h'.objs.size as lak gr hn0 (fun T hT => I.hok.fresh (Nat.le_of_lt (hG.above T hT))) (g _ _ upd_same) fun zz hz => ?_⟩
    obtain ⟨j, hj⟩ := List.mem_iff_getElem?.mp hz
    obtain ⟨j1, j2⟩ := List.getElem?_zip_eq_some.mp hj
    obtain ⟨vs, ⟨i, zz', i1, i2, ev⟩, hH⟩ := qt zz.1 (List.mem_of_getElem? j1)
    have eij : i = j := (List.getElem?_inj (List.getElem?_eq_some_iff.mp i1).1 nd).mp (i1.trans j1.symm)
    subst eij
    have ee : zz' = zz.2 := Option.some.inj (i2.symm.trans j2)
    rw [ev, ee] at hH
    exact hH
def itemD (kv : Key × D) : D := .tup [keyD kv.1, kv.2]
def encD (kv : Key × D) : PyData := .tuple [keyP kv.1, kv.2.pd]
theorem itemD_pd (kv : Key × D) : (itemD kv).pd = encD kv := by simp only [itemD, D.pd, pds, keyD_pd, encD]
def dSortI (to : TDE) : TDE := fun ρ S Q => to ρ S fun d S1 => refD d fun a => ∃ kvs, S1 a = some (.dK kvs) ∧ fits 48 (kvs.map (·.2)) = true ∧ PySem.W.AllAlike (kvs.map encD) ∧ Q (.lst ((kvs.map itemD).mergeSort (PySem.W.dataLe false D.pd))) S1
/-- a heap that has grown -/
theorem Ab.grow (A : Ab K Hb H S) (h : ∀ b o, H b = some o → H' b = some o) : ∃ Hb', Sub Hb Hb' ∧ Ab K Hb' H' S ∧ ∀ b o, H b = none → H' b = some o → Hb' b = some o := by
  refine ⟨fun b => match H b with | some _ => Hb b | none => H' b, fun b o e => ?_, ⟨fun b o e => ?_, fun a c e => ?_⟩, fun b o n e => ?_⟩
  · show (match H b with | some _ => Hb b | none => H' b) = some o
    rw [A.sub _ _ e]
    exact e
  · have e : (match H b with | some _ => Hb b | none => H' b) = some o := e
    split at e
    · exact h _ _ (A.sub _ _ e)
    · exact e
  · obtain ⟨h1, h2⟩ := A.cel a c e
    obtain ⟨o, ho⟩ := h2.here
    refine ⟨?_, h2.move (fun b o e => ?_) (by rw [h _ _ ho, ho])⟩
    · show (match H a with | some _ => Hb a | none => H' a) = none
      rw [ho]
      exact h1
    · show (match H b with | some _ => Hb b | none => H' b) = some o
      rw [A.sub _ _ e]
      exact e
  · show (match H b with | some _ => Hb b | none => H' b) = some o
    rw [n]
    exact e
theorem KR.zip {kvs : List (Key × D)} {vs : List (Key × V)} (h : KR K Hb kvs vs) : ∀ z ∈ vs.zip kvs, z.1.1 = z.2.1 ∧ Rep K Hb z.2.2 z.1.2 := by
  intro z hz
  obtain ⟨j, hj⟩ := List.mem_iff_getElem?.mp hz
  obtain ⟨j1, j2⟩ := List.getElem?_zip_eq_some.mp hj
  have e1 : (vs.map (·.1))[j]? = some z.1.1 := by rw [List.getElem?_map, j1]; rfl
  rw [h.1, List.getElem?_map, j2] at e1
  have e2 : (vs.map (·.2))[j]? = some z.1.2 := by rw [List.getElem?_map, j1]; rfl
  obtain ⟨d, e3, r⟩ := h.2.get' e2
  rw [List.getElem?_map, j2] at e3
  simp only [Option.map_some, Option.some.injEq] at e1 e3
  rw [← e3] at r
  exact ⟨e1.symm, r⟩
variable {o : Expr} {to : TDE} {apos cpos pos p : Pos}
theorem pd_sortI (hc : X.calm = true) (hu : X.A.units + 64 < cLine) (ho : PD X o to) (hg : Gl X "sorted") (hm : X.mg "sorted" = none) (hv : bootBuiltins "sorted" = some (.builtin "sorted"))
    (hbase : attributeBase o "items" X.env (eval o X.env) = eval o X.env := by rfl) (hline : (apos.endLine == cpos.line) = true := by rfl)
    (he : starEach [.Call (.Attribute o "items" apos) [] [] cpos] X.env = (false, eval (.Call (.Attribute o "items" apos) [] [] cpos) X.env) :: starEach [] X.env := by rfl) :
    PD X (.Call (.Name "sorted" p) [.Call (.Attribute o "items" apos) [] [] cpos] [] pos) (dSortI to) :=
  PE.imp (pe_callB (callR_srtIt hc hu) hg hm hv (pa_cons (pe_bm0 PySem.F.plainAttrs_dict PySem.F.slot_dict_items PySem.F.type_dict_items mt_itemsK ho hbase hline) pa_nil he) (he := he)) fun σ H QV ⟨ρ, S, Hb, Q, rs, ab, q, k⟩ => by
    refine ⟨ρ, S, Hb, _, rs, ab, q, fun v1 H1 d1 S1 Hb1 s1 ab1 r1 q1 => ?_⟩
    obtain ⟨a, rfl, kvs, e1, f1, al, q2⟩ := refD_iff.mp q1
    simp only [Rep] at r1
    subst r1
    obtain ⟨_, vs, hv, hr⟩ := ab1.cel _ _ e1
    have hr : KR X.K Hb1 kvs vs := hr
    refine ⟨.inr (.inr (.inl ⟨rfl, .inl ⟨vs, hv⟩⟩)), a, vs, rfl, rfl, hv, fun p hp => ?_⟩
    have hl := hr.len
    have m1 : (vs.zip kvs).map (·.1) = vs := List.map_fst_zip (by omega)
    have m2 : (vs.zip kvs).map (·.2) = kvs := List.map_snd_zip (by omega)
    have nap : a ≠ p := ne_of_none hv hp
    have abp : Ab X.K Hb1 (upd H1 p (DX.itemsO p a)) S1 := ab1.junk hp
    have hz := hr.zip
    have hf := fits_iff.mp f1
    refine ⟨p, a, Key × D, vs.zip kvs, encD, rfl, upd_same, by rw [upd_ne nap, m1]; exact hv, fun z hzz => ?_, ?_, fun H' l as hla hgr hnl hnT hL hTs => ?_⟩
    · obtain ⟨h1, h2⟩ := hz z hzz
      have hmem : z.2 ∈ kvs := by
        have := List.mem_map_of_mem (f := fun z : (Key × V) × (Key × D) => z.2) hzz
        rw [m2] at this
        exact this
      have hfz : fit 48 z.2.2 = true := hf _ (List.mem_map_of_mem (f := fun kv : Key × D => kv.2) hmem)
      exact ⟨z.2.2.pd, by rw [h1]; rfl, Rep.dp hfz (h2.sub abp.sub), Nat.le_trans (fit_lay hfz).2 (by omega)⟩
    · have : (vs.zip kvs).map (fun z => encD z.2) = kvs.map encD := by
        conv => rhs; rw [← m2]
        rw [List.map_map]
        rfl
      rw [this]
      exact al
    · obtain ⟨Hb2, s2, ab2, hnew⟩ := abp.grow hgr
      have hz3 : (as.zip (vs.zip kvs)).map (fun z => itemD z.2.2) = kvs.map itemD := by
        have e2 : (as.zip (vs.zip kvs)).map (·.2) = vs.zip kvs := List.map_snd_zip (by omega)
        conv => rhs; rw [← m2, ← e2]
        rw [List.map_map, List.map_map]
        rfl
      have e3 : (kvs.map itemD).mergeSort (PySem.W.dataLe false D.pd) = ((as.zip (vs.zip kvs)).mergeSort (PySem.W.dataLe false fun z => encD z.2.2)).map fun z => itemD z.2.2 := by
        rw [← hz3]
        refine (List.map_mergeSort (r := PySem.W.dataLe false fun z : Addr × (Key × V) × (Key × D) => encD z.2.2) (s := PySem.W.dataLe false D.pd) (f := fun z : Addr × (Key × V) × (Key × D) => itemD z.2.2) (l := as.zip (vs.zip kvs)) fun x _ y _ => ?_).symm
        simp only [PySem.W.dataLe_eq, itemD_pd]
      have hperm := List.mergeSort_perm (as.zip (vs.zip kvs)) (PySem.W.dataLe false fun z => encD z.2.2)
      have hrep : RepAll X.K Hb2 (((as.zip (vs.zip kvs)).mergeSort (PySem.W.dataLe false fun z => encD z.2.2)).map fun z => itemD z.2.2) (((as.zip (vs.zip kvs)).mergeSort (PySem.W.dataLe false fun z => encD z.2.2)).map fun z => V.ref z.1) := by
        have := RepAll.unzip (K := X.K) (H := Hb2) (zs := ((as.zip (vs.zip kvs)).mergeSort (PySem.W.dataLe false fun z => encD z.2.2)).map fun z => (V.ref z.1, itemD z.2.2)) fun y hy => by
          obtain ⟨z, hzz, rfl⟩ := List.mem_map.mp hy
          have hzz := hperm.mem_iff.mp hzz
          have hT := hTs z hzz
          obtain ⟨j, hj⟩ := List.mem_iff_getElem?.mp hzz
          obtain ⟨j1, j2⟩ := List.getElem?_zip_eq_some.mp hj
          have hT2 := hnew _ _ (hnT z.1 (List.mem_of_getElem? j1)) hT
          obtain ⟨h1, h2⟩ := hz z.2 (List.mem_of_getElem? j2)
          refine .tupI hT2 (.cons ?_ (.one (h2.sub s2)))
          rw [h1]
          exact keyD_rep _ _
        rw [List.map_map, List.map_map] at this
        exact this
      rw [e3] at q2
      exact k _ _ _ _ _ (s1.trans s2) ab2 (.lstI (hnew _ _ hnl hL) hrep) q2
end
end DL

set_option maxHeartbeats 200000
/-! Lay11: list comprehensions of any number of clauses. -/
namespace DL
open PySem PySem.Spec PyProof.Rows L2
/-- what a turn does behind its tests -/
def behind (elt : Expr) (gens : List Comprehension) (scope : Scope) (pos : Pos) (d : Nat) (acc : Value) (env : Env) (k : Sem PySem.Fin) : Sem PySem.Fin := match gens[d]? with
  | some g' => do
    let x ← eval g'.iter env
    standAt g'.iter.pos
    let x ← if g'.is_async != 0 then foldedIterable g'.iter x else foldedSetIterable g'.iter env x
    let _ ← runOwn (.compStart (.ListComp elt gens scope pos) d (← holding [x] (if g'.is_async != 0 then asyncIter x else pyIter x)) acc env) env
    k
  | none => do
    (do let _ ← call (.builtin "list.append") [acc, ← eval elt env])
    k
section
variable {prog : Program} {w : World} {A : Around} {R : Result → Shared → Prop} {s : Shared} {elt t0 i0 : Expr} {ifs0 : List Expr} {gens : List Comprehension} {d : Nat} {scope : Scope} {pos : Pos} {it acc : Value} {env : Env}
theorem turn_eq (hg : gens[d]? = some ⟨t0, i0, ifs0, 0⟩) : compTurn (.ListComp elt gens scope pos) d it acc env = (do
      standAt i0.pos
      match ← pyNext it with
      | none => pure (.done .next)
      | some v =>
        letOwnedTupleGo t0 it v
        assign t0 env v
        let mut ok := true
        for c in ifs0 do
          if ok then ok ← isTrue c env (eval c env)
        if ok then
          behind elt gens scope pos (d + 1) acc env (again (.compLoop (.ListComp elt gens scope pos) d it acc env))
        else again (.compLoop (.ListComp elt gens scope pos) d it acc env)) := by
  unfold compTurn
  dsimp only
  rw [hg]
  rfl
theorem loop_any (hg : gens[d]? = some ⟨t0, i0, ifs0, 0⟩) (I : Nat → Shared → Prop)
    (turn : ∀ n s, I n s → wpAny (model prog w) A (pyNext it) (fun r s₁ => match r with
      | none => R (.ok .next) s₁
      | some v => wpAny (model prog w) A (letOwnedTupleGo t0 it v) (fun _ s₁' => wpAny (model prog w) A (assign t0 env v) (fun _ s₂ =>
          wpAny (model prog w) A (forIn ifs0 true fun c r => if r = true then do let ok ← isTrue c env (eval c env); pure (ForInStep.yield ok) else pure (ForInStep.yield r)) (fun ok s₃ =>
            if ok = true then ∀ (k : Sem PySem.Fin) (Q : PySem.Fin → Shared → Prop) (E : Value → Shared → Prop), (∀ s₅, (∃ m, m < n ∧ I m s₅) → wpAny (model prog w) A k Q E s₅) → wpAny (model prog w) A (behind elt gens scope pos (d + 1) acc env k) Q E s₃
            else ∃ m, m < n ∧ I m s₃) (notedBy (model prog w) A env fun e s' => R (.error e) s') s₂) (notedBy (model prog w) A env fun e s' => R (.error e) s') s₁') (notedBy (model prog w) A env fun e s' => R (.error e) s') s₁) (notedBy (model prog w) A env fun e s' => R (.error e) s') s)
    (n : Nat) (h : I n s) : codeAny (model prog w) A (.compLoop (.ListComp elt gens scope pos) d it acc env) R s := by
  refine codeAny_loop rfl I (fun n s hI => ?_) n h
  show wpAny _ A ((compTurn (.ListComp elt gens scope pos) d it acc env).onRaise (fun x => do noteFrame x env; theTreesLotGoes x)) _ _ s
  refine wpAny_noted ?_
  rw [turn_eq hg]
  refine wpAny_bind (wpAny_standAt (wpAny_bind (wpAny_mono (turn n s hI) (fun r s₁ h₁ => ?_) fun _ _ h' => h')))
  cases r with
  | none => exact wpAny_pure h₁
  | some v =>
    refine wpAny_bind (wpAny_mono h₁ (fun _ s₁' h₁' => ?_) fun _ _ h' => h')
    refine wpAny_bind (wpAny_mono h₁' (fun _ s₂ h₂ => wpAny_bind (wpAny_mono h₂ (fun ok s₃ h₃ => ?_) fun _ _ h' => h')) fun _ _ h' => h')
    cases ok with
    | false => exact wpAny_pure ⟨rfl, h₃⟩
    | true => exact h₃ _ _ _ fun s₅ h₅ => wpAny_pure ⟨rfl, h₅⟩
theorem start_any (hg : gens[d]? = some ⟨t0, i0, ifs0, 0⟩) (h0 : codeAny (model prog w) A (.compLoop (.ListComp elt gens scope pos) d it acc env) R s)
    (h : wpAny (model prog w) A (pyIter it) (fun it' s' => codeAny (model prog w) A (.compLoop (.ListComp elt gens scope pos) d it' acc env) R s')
      (notedBy (model prog w) A env fun x s' => R (.error x) s') s) :
    codeAny (model prog w) A (.compStart (.ListComp elt gens scope pos) d it acc env) R s := by
  refine codeAny_of_tree ?_
  show wpAny _ _ ((compStart (.ListComp elt gens scope pos) d it acc env).onRaise (fun x => do noteFrame x env; standAt theWindowsPlace)) _ _ s
  refine wpAny_notedAt ?_
  have hcl : (clausesOf (.ListComp elt gens scope pos))[d]? = some ⟨t0, i0, ifs0, 0⟩ := hg
  unfold compStart
  rw [hcl]
  show wpAny _ _ (ask >>= _) _ _ s
  refine wpAny_bind (wpAny_askSetting (wpAny_ite ?_))
  split
  · first
      | exact wpAny_bind (wpAny_pure (wpAny_pure (And.intro rfl h0)))
      | exact wpAny_pure (And.intro rfl h0)
  · first
      | exact wpAny_bind (wpAny_rule (wpAny_bind (wpAny_standAt (wpAny_bind (wpAny_mono h (fun it' s' h' => wpAny_pure (And.intro rfl h')) fun _ _ x => x)))))
      | (refine wpAny_bind (wpAny_rule ?_); show wpAny _ _ (standAt i0.pos >>= _) _ _ s; exact wpAny_bind (wpAny_standAt (wpAny_bind (wpAny_mono h (fun it' s' h' => wpAny_pure (And.intro rfl h')) fun _ _ x => x))))
end
abbrev TB := Addr → L2.St → Hp → (Hp → Prop) → Prop
/-- the slots of an inner part: what is known ahead and is none of vs is known behind -/
def Keepv (vs : List Nat) (σ σ' : L2.St) : Prop := σ.length = σ'.length ∧ ∀ (j : Nat) v, (L2.wipe σ vs)[j]? = some (some v) → σ'[j]? = some (some v)
structure PB (Y : Cx) (vs : List Nat) (elt : Expr) (gens : List Comprehension) (scope : Scope) (pos : Pos) (d : Nat) (t : TB) : Prop where
  run : ∀ (pins : List (Addr × Obj)) (s : Shared) (σ : L2.St) (H : Hp) (Nx : Hp → Prop) (D : Addr) (k : Sem PySem.Fin) (Q : PySem.Fin → Shared → Prop) (E : Value → Shared → Prop), Inv Y pins σ H s → t D σ H Nx →
    (∀ σ' H' s', Inv Y pins σ' H' s' → Keepv vs σ σ' → Nx H' → wpAny (model Y.prog Y.w) Y.A k Q E s') → wpAny (model Y.prog Y.w) Y.A (behind elt gens scope pos d (.ref D) Y.env k) Q E s
def tbLast (te : TE) : TB := fun D σ H Nx => te σ H fun y H1 => ∃ acc, H1 D = some (.lst acc) ∧ acc.length < sizeLine ∧ Nx (upd H1 D (.lst (acc ++ [y])))
def tbFor (wi : TI) (g : TG) (tt : TT) (tb : TB) (vs : List Nat) : TB := fun D σ H Nx => wi σ H fun J H4 => ∃ W : Nat → Nat → Hp → Prop, (∃ m, W 0 m H4) ∧ ∀ j k H, W j k H →
  (J.stop j H ∧ Nx H) ∨ (J.go j H ∧ ∃ Nx1 : Hp → Prop, (∀ H', Nx1 H' → ∃ k', k' < k ∧ W (j + 1) k' H') ∧ ∀ x H', J.yld j H x H' → g x (L2.wipe σ vs) H' fun σ3 H5 => L2.wipe σ3 vs = L2.wipe σ vs ∧ tt σ3 H5 fun b H6 =>
    if b = true then tb D σ3 H6 Nx1 else Nx1 H6)
section
variable {X : Cx} {elt tg iter : Expr} {ifs : List Expr} {gens : List Comprehension} {scope : Scope} {pos : Pos} {d : Nat} {te : TE} {wi : TI} {g : TG} {tt : TT} {tb : TB} {vs vs' : List Nat}
theorem pb_last {Y : Cx} (hxe : Y.xe = fun _ _ => False) (hg : gens[d]? = none) (he : PE Y elt te) : PB Y [] elt gens scope pos d (tbLast te) := by
  refine ⟨fun pins s σ H Nx D k Q E I h kk => ?_⟩
  unfold behind
  rw [hg]
  have hr := he.run pins s σ H _ I h
  rw [hxe] at hr
  refine wpAny_bind (wpAny_bind (thnF hr fun z s1 ⟨yv, H1, I1, r1, acc, hD, hz, nx⟩ => ?_))
  refine wpAny_bind (app_ok I1 hD hz r1 fun s2 I2 => wpAny_pure (kk σ _ s2 I2 ⟨rfl, fun j v e => e⟩ nx))
theorem pb_for {s0 : Shared} {H0 : Hp} {ce : Env} {fp0 : List Addr} (hc : X.calm = true) (hg : gens[d]? = some ⟨tg, iter, ifs, 0⟩) (hv : ∀ i ∈ vs', i ∈ vs) (hi : PI (X.blk s0 H0 scope ce fp0) tg iter wi) (hgt : PG (X.blk s0 H0 scope ce fp0) tg g)
    (ht : PTs (X.blk s0 H0 scope ce fp0) ifs tt) (hb : PB (X.blk s0 H0 scope ce fp0) vs' elt gens scope pos (d + 1) tb) (hs : ∀ x, foldedSetIterable iter ce x = pure x) :
    PB (X.blk s0 H0 scope ce fp0) vs elt gens scope pos d (tbFor wi g tt tb vs) := by
  refine ⟨fun pins s σ H Nx D kc Qc Ec I h kk => ?_⟩
  unfold behind
  rw [hg]
  show wpAny _ _ (eval iter ce >>= _) _ _ _
  refine wpAny_bind (thnF (hi.run pins s σ H _ I h) fun xv s1 hx => ?_)
  refine wpAny_bind (wpAny_standAt (wpAny_bind (wpAny_of_eq (hs xv) (wpAny_bind (wpAny_holding (thnF hx fun itv s2 h2 => ?_))))))
  obtain ⟨it, fp, tn, J, H2, e1, I2, T, st2, f2, W, ⟨m0, w0⟩, turn⟩ := h2
  subst e1
  refine wpAny_bind (wpAny_runOwn ?_)
  rw [Around.mark_none]
  have stat : ∀ {H' : Hp}, (∀ b ∈ fp, H' b = none) → ∀ b ∈ fp, FpOk (X.blk s0 H0 scope ce fp0) pins H' b := fun hn b hb => ⟨hn b hb, (f2 b hb).2⟩
  have loop : codeAny (model X.prog X.w) X.A (.compLoop (.ListComp elt gens scope pos) d (.ref it) (.ref D) ce)
      (fun r s' => match r with
        | .ok _ => ∃ σ' H', Inv (X.blk s0 H0 scope ce fp0) pins σ' H' s' ∧ Keepv vs σ σ' ∧ Nx H'
        | .error _ => False) s2 := by
    refine loop_any hg (fun k s' => ∃ j H', Inv (X.blk s0 H0 scope ce fp0) pins (L2.wipe σ vs) H' s' ∧ tn j s'.heap ∧ (∀ b ∈ fp, H' b = none) ∧ W j k H') ?_ m0 ⟨0, H2, I2.weak (wipe_length _ _) (fun j v e => (wipe_some e).1), st2, fun b hb => (f2 b hb).1, w0⟩
    rintro k s3 ⟨j, H3, I3, st3, n3, w3⟩
    rcases turn j k H3 w3 with ⟨stop, nx⟩ | ⟨go, Nx1, hNx1, step⟩
    · refine thnF (T.done (X.blk s0 H0 scope ce fp0) rfl rfl rfl hc j _ s3 (L2.wipe σ vs) H3 (fun _ _ => False) I3 (stat n3) st3 stop) fun r s4 ⟨hr, I4⟩ => ?_
      subst hr
      exact ⟨_, H3, I4, ⟨(wipe_length _ _).symm, fun j v e => e⟩, nx⟩
    · refine thnF (T.item (X.blk s0 H0 scope ce fp0) rfl rfl rfl hc j _ s3 (L2.wipe σ vs) H3 (fun _ _ => False) I3 (stat n3) st3 go) fun r s4 ⟨u, hr, h4⟩ => ?_
      subst hr
      refine thnF h4 fun _ s5 ⟨x, H5, I5, r5, y5, st5, n5⟩ => ?_
      have I5' := I5.pinned (stat n5) (T.obj _ _ st5)
      refine thnF (hgt.run _ s5 (L2.wipe σ vs) H5 x u _ I5' r5 (step x H5 y5)) fun _ s6 ⟨σ6, H6, I6, hw6, q6⟩ => ?_
      refine thnF (ht.run _ s6 σ6 H6 _ I6 q6) fun b s7 ⟨H7, I7, q7⟩ => ?_
      have fin : ∀ {σ8 : L2.St} {s' : Shared} {H' : Hp}, Inv (X.blk s0 H0 scope ce fp0) (pins ++ pinsAt fp s5.heap) σ8 H' s' → Keepv vs' σ6 σ8 → Nx1 H' → ∃ m, m < k ∧ ∃ j H', Inv (X.blk s0 H0 scope ce fp0) pins (L2.wipe σ vs) H' s' ∧ tn j s'.heap ∧ (∀ b ∈ fp, H' b = none) ∧ W j m H' := fun {σ8 s' H'} I' kv nx => by
        obtain ⟨m', hm, w'⟩ := hNx1 H' nx
        have pin' : ∀ b ∈ fp, ∀ o, s5.heap.get? b = some o → s'.heap.get? b = some o ∧ H' b = none := fun b hb o e =>
          let z := I'.pin (b, o) (List.mem_append_right _ (List.mem_append_right _ (mem_pinsAt hb e)))
          ⟨z.1, z.2.1⟩
        refine ⟨m', hm, j + 1, H', I'.unpinned.weak ?_ (fun i v e => ?_), T.keep _ _ _ st5 fun b hb o e => (pin' b hb o e).1, fun b hb => ?_, w'⟩
        · rw [← kv.1, ← hw6, wipe_length]
        · rw [← hw6] at e
          obtain ⟨e1, e2⟩ := wipe_some e
          refine kv.2 i v ?_
          rw [wipe_out fun z => e2 (hv i z)]
          exact e1
        · obtain ⟨o, e, _⟩ := T.obj _ _ st5 b hb
          exact (pin' b hb o e).2
      cases b with
      | false =>
        simp only [Bool.false_eq_true, if_false] at q7 ⊢
        exact fin I7 ⟨rfl, fun i v e => (wipe_some e).1⟩ q7
      | true =>
        simp only [if_true] at q7 ⊢
        exact fun k2 Q2 E2 kk2 => hb.run _ s7 σ6 H7 Nx1 D k2 Q2 E2 I7 q7 fun σ8 H8 s8 I8 kv nx => kk2 s8 (fin I8 kv nx)
  refine codeAny_mono (start_any hg loop (T.self X.A 0 _ _ _ st2 loop)) fun r s' hr => ?_
  cases r with
  | ok f =>
    obtain ⟨σ', H', I', kv, nx⟩ := hr
    first
      | exact kk σ' H' s' I' kv nx
      | exact wpAny_pure (kk σ' H' s' I' kv nx)
      | exact wpAny_bind (wpAny_pure (kk σ' H' s' I' kv nx))
  | error e => exact hr.elim
def tLcN (wi : TI) (g : TG) (tt : TT) (tb : TB) (vs : List Nat) : TE := fun σ H Q => wi σ H fun J H1 => ∀ D, H1 D = none → ∃ W : Nat → Nat → Hp → Prop, (∃ m, W 0 m (upd H1 D (.lst []))) ∧ ∀ i m H, W i m H →
  (J.stop i H ∧ Q (.ref D) H) ∨ (J.go i H ∧ ∃ Nx : Hp → Prop, (∀ H', Nx H' → ∃ m', m' < m ∧ W (i + 1) m' H') ∧ ∀ x H', J.yld i H x H' → g x (L2.wipe σ vs) H' fun σ2 H2 => L2.wipe σ2 vs = L2.wipe σ vs ∧ tt σ2 H2 fun b H3 =>
    if b = true then tb D σ2 H3 Nx else Nx H3)
theorem lcN_core {rest : List Comprehension} {own : List (Str × Nat)} {pins : List (Addr × Obj)} {s : Shared} {σ : L2.St} {H : Hp} {Q : VK} {pos' : Pos} {use : Option (Value → Sem Unit)} {Qf : Value → Shared → Prop}
    (hc : X.calm = true) (hN : X.N.Nodup) (I : Inv X pins σ H s) (hi : PI X tg iter wi) (ok : BlkOk X.N X.env.scope scope own) (hv : ∀ i ∈ vs', i ∈ own.map (·.2))
    (hg : ∀ (s : Shared) (H : Hp) (C : Addr) (cl : List (Str × Addr)) (fp : List Addr), PG (X.blk s H scope (compEnvC scope cl C X.env) fp) tg g) (ht : ∀ (s : Shared) (H : Hp) (C : Addr) (cl : List (Str × Addr)) (fp : List Addr), PTs (X.blk s H scope (compEnvC scope cl C X.env) fp) ifs tt)
    (hb : ∀ (s : Shared) (H : Hp) (C : Addr) (cl : List (Str × Addr)) (fp : List Addr), PB (X.blk s H scope (compEnvC scope cl C X.env) fp) vs' elt (⟨tg, iter, ifs, 0⟩ :: rest) scope pos 1 tb) (hs : ∀ x, foldedSetIterable iter X.env x = pure x)
    (h : tLcN wi g tt tb (own.map (·.2)) σ H Q)
    (hRR : ∀ D C s' m H', Inv X pins σ H' s' → Q (.ref D) H' → s'.heap.Ns C m → FpOk X pins H' C → compPost (model X.prog X.w) X.A X.xe use Qf (.ref D) C (.ok .next) s') :
    wpAny (model X.prog X.w) X.A (comprehension (.ListComp elt (⟨tg, iter, ifs, 0⟩ :: rest) scope pos) scope X.env pos' (newList []) false (eval iter X.env) use) Qf X.xe s := by
  have hfree : ∀ y ∈ scope.names, y.2 = .free → ∃ c, X.env.cells.lookup y.1 = some c := fun y hy e => by
    rcases ok.free y hy e with k | k
    · exact I.ok.has _ (.inl k)
    · exact I.ok.has _ (.inr k)
  refine wpAny_comprehension_free (use := use) rfl hs (closure_ok hfree) ok.kind (fun y hy e => by rw [ok.uniq y hy, e])
    (thn (hi.run pins s σ H _ I h) fun xv s1 hx => thn hx fun itv s2 h2 => ?_)
  obtain ⟨it, fp, tn, J, H2, e, I2, T, st2, f2, q⟩ := h2
  subst e
  refine wpAny_newObj_type (newEnv_comp ?_) (by show 0 ≤ sizeLine; decide)
  generalize hD : s2.heap.objs.size = D
  have hDn : H2 D = none := I2.hok.fresh (Nat.le_of_eq hD)
  obtain ⟨W, ⟨m0, w0⟩, turn⟩ := q D hDn
  generalize hs3 : ({ s2 with heap := s2.heap.push { cls := .type "list", data := .seq ([] : List Value).toArray } } : Shared) = s3
  have I3 : Inv X pins σ (upd H2 D (.lst [])) s3 := by
    rw [← hs3]
    refine I2.laid (t' := s2.toks) (fun b o e => Heap.get?_push_of_some _ e) (Nat.le_of_eq hD) ⟨Nat.zero_le _, [], 0, .nil, ?_⟩
    rw [← hD]
    exact Heap.get?_push_size _ rfl
  have h3 : s3.heap = s2.heap.push { cls := .type "list", data := .seq ([] : List Value).toArray } := by rw [← hs3]
  have sz : ∀ b ∈ fp, b < s2.heap.objs.size := fun b hb => by
    obtain ⟨o, e, _⟩ := T.obj _ _ st2 b hb
    exact Heap.lt_size e
  have f3 : ∀ b ∈ fp, FpOk X pins (upd H2 D (.lst [])) b ∧ b < s3.heap.objs.size := fun b hb => by
    have hlt := sz b hb
    refine ⟨⟨?_, (f2 b hb).2⟩, by rw [h3, Heap.size_push]; exact Nat.lt_succ_of_lt hlt⟩
    rw [upd_ne (by rw [← hD]; exact Nat.ne_of_lt hlt)]
    exact (f2 b hb).1
  have st3 : tn 0 s3.heap := T.keep _ _ _ st2 fun b _ o e => by rw [h3]; exact Heap.get?_push_of_some _ e
  have I4 := block_start I3 ok hN f3
  have pg := hg s3 (upd H2 D (.lst [])) s3.heap.objs.size (cellsFrom (s3.heap.objs.size + 1) scope.names (cloFrom X.env.cells scope.names [])) fp
  have pt := ht s3 (upd H2 D (.lst [])) s3.heap.objs.size (cellsFrom (s3.heap.objs.size + 1) scope.names (cloFrom X.env.cells scope.names [])) fp
  have pb := hb s3 (upd H2 D (.lst [])) s3.heap.objs.size (cellsFrom (s3.heap.objs.size + 1) scope.names (cloFrom X.env.cells scope.names [])) fp
  show codeAny _ _ (.compStart (.ListComp elt (⟨tg, iter, ifs, 0⟩ :: rest) scope pos) 0 (.ref it) (.ref D) (compEnvC scope (cellsFrom (s3.heap.objs.size + 1) scope.names (cloFrom X.env.cells scope.names [])) s3.heap.objs.size X.env)) (compPost (model X.prog X.w) X.A X.xe use Qf (.ref D) s3.heap.objs.size) { s3 with heap := pushCells (s3.heap.push { cls := .type "dict", data := .dict #[] }) scope.names }
  have nfp : ∀ b ∈ fp, (upd H2 D (.lst [])) b = none := fun b hb => (f3 b hb).1.1
  generalize hce : compEnvC scope (cellsFrom (s3.heap.objs.size + 1) scope.names (cloFrom X.env.cells scope.names [])) s3.heap.objs.size X.env = ce at I4 pg pt pb ⊢
  have cL : ce.locals = s3.heap.objs.size := by subst hce; rfl
  generalize hH3 : upd H2 D (.lst []) = H3 at I3 I4 pg pt pb w0 nfp f3
  generalize hs4 : ({ s3 with heap := pushCells (s3.heap.push { cls := .type "dict", data := .dict #[] }) scope.names } : Shared) = s4 at I4 ⊢
  have st4 : tn 0 s4.heap := T.keep _ _ _ st3 fun b _ o e => by rw [← hs4]; exact pushCells_keeps _ _ _ _ (Heap.get?_push_of_some _ e)
  have stat : ∀ {σ' : L2.St} {H' : Hp} {s' : Shared}, Inv (X.blk s3 H3 scope ce fp) [] σ' H' s' → (∀ b ∈ fp, H' b = none) → ∀ b ∈ fp, FpOk (X.blk s3 H3 scope ce fp) [] H' b := fun {σ' H' s'} I' hn b hb =>
    ⟨hn b hb, (I'.ok.exf b hb).1, I'.ok.exfs b hb, .inl hb, fun x c e => (I'.ok.exf b hb).2 x c e, fun p hp => absurd (show p ∈ ([] : List (Addr × Obj)) ++ [] from hp) (by simp)⟩
  have loop : codeAny (model X.prog X.w) X.A (.compLoop (.ListComp elt (⟨tg, iter, ifs, 0⟩ :: rest) scope pos) 0 (.ref it) (.ref D) ce) (compPost (model X.prog X.w) X.A X.xe use Qf (.ref D) s3.heap.objs.size) s4 := by
    refine loop_any (t0 := tg) (i0 := iter) (ifs0 := ifs) rfl (fun n s' => ∃ i H', Inv (X.blk s3 H3 scope ce fp) [] (L2.wipe σ (own.map (·.2))) H' s' ∧ tn i s'.heap ∧ (∀ b ∈ fp, H' b = none) ∧ W i n H') ?_ m0 ⟨0, H3, I4, st4, nfp, w0⟩
    rintro n s5 ⟨i, H5, I5, st5, n5, w5⟩
    rcases turn i n H5 w5 with ⟨stop, qq⟩ | ⟨go, Nx, hNx, step⟩
    · have td := T.done (X.blk s3 H3 scope ce fp) rfl rfl rfl hc i [] s5 _ H5 (fun _ _ => False) I5 (stat I5 n5) st5 stop
      refine thnF td fun r s6 ⟨hr, I6⟩ => ?_
      subst hr
      have I7 : Inv X pins σ H5 s6 := I3.call' (ch := fp) I6.os I6.base I6.hok I6.bare fun b hb => ⟨(f3 b hb).1.2.2.2.1, (f3 b hb).1.2.1, (f3 b hb).1.2.2.2.2.1, (f3 b hb).1.2.2.2.2.2⟩
      have nC : H5 s3.heap.objs.size = none := by
        have z : H5 ce.locals = none := I6.free
        rw [cL] at z
        exact z
      obtain ⟨m, hn, _⟩ := I6.loc
      have hn : s6.heap.Ns ce.locals m := hn
      rw [cL] at hn
      exact hRR D s3.heap.objs.size s6 m H5 I7 qq hn (I3.fpOk (Nat.le_refl _) nC)
    · have ti := T.item (X.blk s3 H3 scope ce fp) rfl rfl rfl hc i [] s5 _ H5 (fun _ _ => False) I5 (stat I5 n5) st5 go
      refine thnF ti fun r s6 ⟨u, hr, h6⟩ => ?_
      subst hr
      refine thnF h6 fun _ s7 ⟨x, H7, I7, r7, y7, st7, n7⟩ => ?_
      have I7' := I7.pinned (stat I7 n7) (T.obj _ _ st7)
      refine thnF (pg.run _ s7 _ H7 x u _ I7' r7 (step x H7 y7)) fun _ s8 ⟨σ8, H8, I8, hw8, q8⟩ => ?_
      refine thnF (pt.run _ s8 σ8 H8 _ I8 q8) fun b s9 ⟨H9, I9, q9⟩ => ?_
      have fin : ∀ {σ9 : L2.St} {s' : Shared} {H' : Hp}, Inv (X.blk s3 H3 scope ce fp) ([] ++ pinsAt fp s7.heap) σ9 H' s' → Keepv vs' σ8 σ9 → Nx H' → ∃ m, m < n ∧ ∃ i H', Inv (X.blk s3 H3 scope ce fp) [] (L2.wipe σ (own.map (·.2))) H' s' ∧ tn i s'.heap ∧ (∀ b ∈ fp, H' b = none) ∧ W i m H' := fun {σ9 s' H'} I' kv nx => by
        obtain ⟨m', hm, w'⟩ := hNx H' nx
        have pin' : ∀ b ∈ fp, ∀ o, s7.heap.get? b = some o → s'.heap.get? b = some o ∧ H' b = none := fun b hb o e =>
          let z := I'.pin (b, o) (List.mem_append_right _ (List.mem_append_right _ (mem_pinsAt hb e)))
          ⟨z.1, z.2.1⟩
        refine ⟨m', hm, i + 1, H', (I'.unpinned (pins := [])).weak ?_ (fun j v e => ?_), T.keep _ _ _ st7 fun b hb o e => (pin' b hb o e).1, fun b hb => ?_, w'⟩
        · rw [← kv.1, ← hw8, wipe_length]
        · rw [← hw8] at e
          obtain ⟨e1, e2⟩ := wipe_some e
          refine kv.2 j v ?_
          rw [wipe_out fun z => e2 (hv j z)]
          exact e1
        · obtain ⟨o, e, _⟩ := T.obj _ _ st7 b hb
          exact (pin' b hb o e).2
      cases b with
      | false =>
        simp only [Bool.false_eq_true, if_false] at q9 ⊢
        exact fin I9 ⟨rfl, fun i v e => (wipe_some e).1⟩ q9
      | true =>
        simp only [if_true] at q9 ⊢
        exact fun k2 Q2 E2 kk2 => pb.run _ s9 σ8 H9 Nx D k2 Q2 E2 I9 q9 fun σ10 H10 s10 I10 kv nx => kk2 s10 (fin I10 kv nx)
  exact codeAny_compStart_list loop (T.self X.A 0 _ _ _ st4 loop)
theorem ps_setLcN {rest : List Comprehension} {own : List (Str × Nat)} {i : Nat} {y : Str} {py spos : Pos} (hc : X.calm = true) (hN : X.N.Nodup) (hy : X.N[i]? = some y) (hyl : X.env.scope.names.lookup y = some .local)
    (hsw : swapsWith (.ListComp elt (⟨tg, iter, ifs, 0⟩ :: rest) scope pos) (some (.Name y py)) spos.line X.env = pure true) (hi : PI X tg iter wi) (ok : BlkOk X.N X.env.scope scope own) (hv : ∀ i ∈ vs', i ∈ own.map (·.2))
    (hg : ∀ (s : Shared) (H : Hp) (C : Addr) (cl : List (Str × Addr)) (fp : List Addr), PG (X.blk s H scope (compEnvC scope cl C X.env) fp) tg g) (ht : ∀ (s : Shared) (H : Hp) (C : Addr) (cl : List (Str × Addr)) (fp : List Addr), PTs (X.blk s H scope (compEnvC scope cl C X.env) fp) ifs tt)
    (hb : ∀ (s : Shared) (H : Hp) (C : Addr) (cl : List (Str × Addr)) (fp : List Addr), PB (X.blk s H scope (compEnvC scope cl C X.env) fp) vs' elt (⟨tg, iter, ifs, 0⟩ :: rest) scope pos 1 tb) (hs : ∀ x, foldedSetIterable iter X.env x = pure x := by intro _; rfl) :
    PS X (.Assign [.Name y py] (.ListComp elt (⟨tg, iter, ifs, 0⟩ :: rest) scope pos) spos) (tAsg (tLcN wi g tt tb (own.map (·.2))) (gName i)) := by
  refine ⟨fun pins s σ H D I h => ?_⟩
  rw [exec_Assign_Name_used _ _ _ _ hsw]
  refine wpAny_bind (wpAny_standAt (wpAny_bind ?_))
  show wpAny _ X.A (do let _ ← comprehension (.ListComp elt (⟨tg, iter, ifs, 0⟩ :: rest) scope pos) scope X.env (firstIterPos (⟨tg, iter, ifs, 0⟩ :: rest) pos) (newList []) false (eval iter X.env) (some (assign (.Name y py) X.env))) _ _ s
  have h : tLcN wi g tt tb (own.map (·.2)) σ H (fun x H1 => gName i x σ H1 D.nx) := h
  refine wpAny_bind (thn (lcN_core (Qf := fun _ s' => SP X pins D .next s') hc hN I hi ok hv hg ht hb hs h fun L C s' m H' I' q hn f => ?_) fun _ s' hq => wpAny_pure (wpAny_pure hq))
  show wpAny _ _ (assign (.Name y py) X.env (.ref L)) _ _ _
  refine wpAny_assign_Name (store_ok2 (v := V.ref L) I' hN hy (.inl hyl) rfl (fun s2 I2 ⟨a, sb, ha⟩ => ?_) (.inr hyl))
  obtain ⟨f0, f1, f2, f3, f4, f5⟩ := f
  have haC : C ≠ a := by
    rcases ha with z | z
    · rw [z]; exact f1
    · exact fun e => f4 y a z e.symm
  refine ⟨m, hn.sameBut sb haC, fun h3 sb3 => ?_⟩
  exact ⟨_, H', I2.turned (t' := s2.toks) (fun b o hb e => (sb3.2 b hb).trans e) f0 f1 f3 f4 f5, q⟩
theorem pe_lcN {rest : List Comprehension} {own : List (Str × Nat)} (hc : X.calm = true) (hN : X.N.Nodup) (hi : PI X tg iter wi) (ok : BlkOk X.N X.env.scope scope own) (hv : ∀ i ∈ vs', i ∈ own.map (·.2))
    (hg : ∀ (s : Shared) (H : Hp) (C : Addr) (cl : List (Str × Addr)) (fp : List Addr), PG (X.blk s H scope (compEnvC scope cl C X.env) fp) tg g) (ht : ∀ (s : Shared) (H : Hp) (C : Addr) (cl : List (Str × Addr)) (fp : List Addr), PTs (X.blk s H scope (compEnvC scope cl C X.env) fp) ifs tt)
    (hb : ∀ (s : Shared) (H : Hp) (C : Addr) (cl : List (Str × Addr)) (fp : List Addr), PB (X.blk s H scope (compEnvC scope cl C X.env) fp) vs' elt (⟨tg, iter, ifs, 0⟩ :: rest) scope pos 1 tb) (hs : ∀ x, foldedSetIterable iter X.env x = pure x := by intro _; rfl) :
    PE X (.ListComp elt (⟨tg, iter, ifs, 0⟩ :: rest) scope pos) (tLcN wi g tt tb (own.map (·.2))) := by
  refine ⟨fun pins s σ H Q I h => ?_⟩
  rw [eval_ListComp]
  refine lcN_core hc hN I hi ok hv hg ht hb hs h fun D C s' m H' I' q hn f => ⟨m, hn, fun h'' sb => ?_⟩
  obtain ⟨f0, f1, f2, f3, f4, f5⟩ := f
  exact ⟨.ref D, H', I'.turned (t' := s'.toks) (fun b o hb e => (sb.2 b hb).trans e) f0 f1 f3 f4 f5, rfl, q⟩
end

/-! ### over data -/
variable {K : PySem.W.Frag} {H H' Hb Hb' : Hp} {S S' : Sto}
abbrev TDB := Addr → Rho → Sto → (Sto → Prop) → Prop
def lB (K : PySem.W.Frag) (t : TDB) : TB := fun D σ H Nx => ∃ ρ S Hb Q, RelS K Hb σ ρ ∧ Ab K Hb H S ∧ t D ρ S Q ∧ ∀ H' S' Hb', Sub Hb Hb' → Ab K Hb' H' S' → Q S' → Nx H'
def dbLast (te : TDE) : TDB := fun p ρ S Nx => te ρ S fun y S1 => ∃ acc, S1 p = some (.lst acc) ∧ acc.length < sizeLine ∧ Nx (sup S1 p (.lst (acc ++ [y])))
def dbFor (ti : TDI) (g : TDG) (tt : TDT) (tb : TDB) (vs : List Nat) : TDB := fun p ρ S Nx => ti ρ S fun it S1 => ∃ W : Nat → Sto → Prop, W 0 S1 ∧ (∀ i S, W i S → it.ok S) ∧
  (∀ i d S, it.items[i]? = some d → W i S → g d (dwipe ρ vs) S fun ρ2 S2 => tt ρ2 S2 fun b S3 => if b = true then tb p ρ2 S3 (W (i + 1)) else W (i + 1) S3) ∧ ∀ S, W it.items.length S → Nx S
abbrev PDB (Y : Cx) (vs : List Nat) (elt : Expr) (gens : List Comprehension) (scope : Scope) (pos : Pos) (d : Nat) (t : TDB) : Prop := PB Y vs elt gens scope pos d (lB Y.K t)
theorem PB.imp {Y : Cx} {vs : List Nat} {elt : Expr} {gens : List Comprehension} {scope : Scope} {pos : Pos} {d : Nat} {t u : TB} (h : PB Y vs elt gens scope pos d t) (k : ∀ D σ H Nx, u D σ H Nx → t D σ H Nx) : PB Y vs elt gens scope pos d u :=
  ⟨fun pins s σ H Nx D kc Q E I q => h.run pins s σ H Nx D kc Q E I (k D σ H Nx q)⟩
theorem pdb_last {Y : Cx} {elt : Expr} {gens : List Comprehension} {scope : Scope} {pos : Pos} {d : Nat} {te : TDE} (hxe : Y.xe = fun _ _ => False) (hg : gens[d]? = none) (he : PD Y elt te) : PDB Y [] elt gens scope pos d (dbLast te) :=
  PB.imp (pb_last hxe hg he) fun D σ H Nx ⟨ρ, S, Hb, Q, rs, ab, q, k⟩ => by
    refine ⟨ρ, S, Hb, _, rs, ab, q, fun v H1 d S1 Hb1 s1 ab1 r1 ⟨acc, e1, l1, q1⟩ => ?_⟩
    obtain ⟨us, eu, ru⟩ := ab1.getL e1
    exact ⟨us, eu, by rw [ru.length]; exact l1, k _ _ _ s1 (ab1.setL e1 (ru.append (.one r1))) q1⟩
section
variable {X : Cx} {elt tg iter : Expr} {ifs : List Expr} {gens : List Comprehension} {scope : Scope} {pos : Pos} {d : Nat} {ti : TDI} {gV : TG} {g : TDG} {tt : TDT} {tb : TDB} {vs vs' : List Nat}
theorem lbFor (hg : TgL K vs gV g) {D : Addr} {σ : L2.St} {H : Hp} {Nx : Hp → Prop} (h : lB K (dbFor ti g tt tb vs) D σ H Nx) : tbFor (lI K ti) gV (lT K tt) (lB K tb) vs D σ H Nx := by
  obtain ⟨ρ, S, Hb, Q, rs, ab, q, k⟩ := h
  refine ⟨ρ, S, Hb, _, rs, ab, q, fun J H1 it S1 Hb1 s1 ab1 io q1 => ?_⟩
  obtain ⟨W, w0, wok, step, fn⟩ := q1
  refine ⟨fun i m H2 => ∃ S2 Hb2, Sub Hb1 Hb2 ∧ Ab K Hb2 H2 S2 ∧ W i S2 ∧ i ≤ it.items.length ∧ m = it.items.length - i, ⟨_, S1, Hb1, Same.refl _, ab1, w0, Nat.zero_le _, rfl⟩, ?_⟩
  rintro i m H2 ⟨S2, Hb2, s2, ab2, w2, hle, rfl⟩
  obtain ⟨go, stop⟩ := io i H2 Hb2 S2 s2 ab2 (wok _ _ w2)
  by_cases hlt : i < it.items.length
  · have hd := List.getElem?_eq_getElem hlt
    obtain ⟨hgo, hy⟩ := go _ hd
    refine .inr ⟨hgo, fun H' => ∃ S' Hb', Sub Hb2 Hb' ∧ Ab K Hb' H' S' ∧ W (i + 1) S', fun H' ⟨S', Hb', s', ab', w'⟩ => ⟨_, by omega, S', Hb', s2.trans s', ab', w', hlt, rfl⟩, fun x H3 y => ?_⟩
    obtain ⟨Hb3, s3, ab3, r3⟩ := hy x H3 y
    have s03 := s1.trans (s2.trans s3)
    refine hg _ x _ _ Hb3 H3 S2 _ _ r3 ((rs.sub s03).wipe vs) ab3 (step i _ S2 hd w2) fun σ4 ρ4 rs4 e4 q4 => ?_
    refine ⟨e4.trans (wipe_sub fun _ z => z), ρ4, S2, Hb3, _, rs4, ab3, q4, fun b H5 S5 Hb5 s5 ab5 q5 => ?_⟩
    cases b with
    | true =>
      rw [if_pos rfl] at q5 ⊢
      exact ⟨ρ4, S5, Hb5, _, rs4.sub s5, ab5, q5, fun H6 S6 Hb6 s6 ab6 w6 => ⟨S6, Hb6, s3.trans (s5.trans s6), ab6, w6⟩⟩
    | false =>
      rw [if_neg Bool.false_ne_true] at q5 ⊢
      exact ⟨S5, Hb5, s3.trans s5, ab5, q5⟩
  · have e : i = it.items.length := by omega
    refine .inl ⟨stop e, ?_⟩
    subst e
    exact k _ _ _ (s1.trans s2) ab2 (fn _ w2)
theorem pdb_for {s0 : Shared} {H0 : Hp} {ce : Env} {fp0 : List Addr} (hc : X.calm = true) (hg : gens[d]? = some ⟨tg, iter, ifs, 0⟩) (hv : ∀ i ∈ vs', i ∈ vs) (hi : PDI (X.blk s0 H0 scope ce fp0) tg iter ti) (hgt : PTg (X.blk s0 H0 scope ce fp0) vs tg gV g)
    (ht : PDTs (X.blk s0 H0 scope ce fp0) ifs tt) (hb : PDB (X.blk s0 H0 scope ce fp0) vs' elt gens scope pos (d + 1) tb) (hs : ∀ x, foldedSetIterable iter ce x = pure x := by intro _; rfl) :
    PDB (X.blk s0 H0 scope ce fp0) vs elt gens scope pos d (dbFor ti g tt tb vs) := PB.imp (pb_for hc hg hv hi hgt.pg ht hb hs) fun D σ H Nx q => lbFor hgt.tl q
/-- [e for .. for ..] -/
def dLcNB (ti : TDI) (g : TDG) (tt : TDT) (tb : TDB) (vs : List Nat) (fin : Addr → Sto → QD → Prop) : TDE := fun ρ S Q => ti ρ S fun it S1 => ∀ p, S1 p = none → ∃ W : Nat → Sto → Prop, W 0 (sup S1 p (.lst [])) ∧ (∀ i S, W i S → it.ok S) ∧
  (∀ i d S, it.items[i]? = some d → W i S → g d (dwipe ρ vs) S fun ρ2 S2 => tt ρ2 S2 fun b S3 => if b = true then tb p ρ2 S3 (W (i + 1)) else W (i + 1) S3) ∧ ∀ S, W it.items.length S → fin p S Q
def dLcN (ti : TDI) (g : TDG) (tt : TDT) (tb : TDB) (vs : List Nat) : TDE := dLcNB ti g tt tb vs fun p S Q => ∃ acc, S p = some (.lst acc) ∧ Q (.lst acc) (sdel S p)
theorem llcN {fin : Addr → Sto → QD → Prop} (hg : TgL K vs gV g)
    (hf : ∀ {p H Hb S Q} {QV : VK}, Ab K Hb H S → fin p S Q → (∀ v H' d S' Hb', Sub Hb Hb' → Ab K Hb' H' S' → Rep K Hb' d v → Q d S' → QV v H') → QV (.ref p) H) {σ : L2.St} {H : Hp} {QV : VK} (h : lE K (dLcNB ti g tt tb vs fin) σ H QV) :
    tLcN (lI K ti) gV (lT K tt) (lB K tb) vs σ H QV := by
  obtain ⟨ρ, S, Hb, Q, rs, ab, q, k⟩ := h
  refine ⟨ρ, S, Hb, _, rs, ab, q, fun J H1 it S1 Hb1 s1 ab1 io q1 => ?_⟩
  intro D0 hD
  obtain ⟨W, w0, wok, step, fn⟩ := q1 D0 (ab1.free hD)
  refine ⟨fun i m H2 => ∃ S2 Hb2, Sub Hb1 Hb2 ∧ Ab K Hb2 H2 S2 ∧ W i S2 ∧ i ≤ it.items.length ∧ m = it.items.length - i, ⟨_, _, Hb1, Same.refl _, ab1.newL hD .nil, w0, Nat.zero_le _, rfl⟩, ?_⟩
  rintro i m H2 ⟨S2, Hb2, s2, ab2, w2, hle, rfl⟩
  obtain ⟨go, stop⟩ := io i H2 Hb2 S2 s2 ab2 (wok _ _ w2)
  by_cases hlt : i < it.items.length
  · have hd := List.getElem?_eq_getElem hlt
    obtain ⟨hgo, hy⟩ := go _ hd
    refine .inr ⟨hgo, fun H' => ∃ S' Hb', Sub Hb2 Hb' ∧ Ab K Hb' H' S' ∧ W (i + 1) S', fun H' ⟨S', Hb', s', ab', w'⟩ => ⟨_, by omega, S', Hb', s2.trans s', ab', w', hlt, rfl⟩, fun x H3 y => ?_⟩
    obtain ⟨Hb3, s3, ab3, r3⟩ := hy x H3 y
    have s03 := s1.trans (s2.trans s3)
    refine hg _ x _ _ Hb3 H3 S2 _ _ r3 ((rs.sub s03).wipe vs) ab3 (step i _ S2 hd w2) fun σ4 ρ4 rs4 e4 q4 => ?_
    refine ⟨e4.trans (wipe_sub fun _ z => z), ρ4, S2, Hb3, _, rs4, ab3, q4, fun b H5 S5 Hb5 s5 ab5 q5 => ?_⟩
    cases b with
    | true =>
      rw [if_pos rfl] at q5 ⊢
      exact ⟨ρ4, S5, Hb5, _, rs4.sub s5, ab5, q5, fun H6 S6 Hb6 s6 ab6 w6 => ⟨S6, Hb6, s3.trans (s5.trans s6), ab6, w6⟩⟩
    | false =>
      rw [if_neg Bool.false_ne_true] at q5 ⊢
      exact ⟨S5, Hb5, s3.trans s5, ab5, q5⟩
  · have e : i = it.items.length := by omega
    refine .inl ⟨stop e, ?_⟩
    subst e
    exact hf ab2 (fn _ w2) fun v H' d S' Hb' s' => k v H' d S' Hb' (s1.trans (s2.trans s'))
theorem pd_lcN {rest : List Comprehension} {own : List (Str × Nat)} (hc : X.calm = true) (hN : X.N.Nodup) (hi : PDI X tg iter ti) (ok : BlkOk X.N X.env.scope scope own) (hv : ∀ i ∈ vs', i ∈ own.map (·.2))
    (hg : ∀ (s : Shared) (H : Hp) (C : Addr) (cl : List (Str × Addr)) (fp : List Addr), PTg (X.blk s H scope (compEnvC scope cl C X.env) fp) (own.map (·.2)) tg gV g) (ht : ∀ (s : Shared) (H : Hp) (C : Addr) (cl : List (Str × Addr)) (fp : List Addr), PDTs (X.blk s H scope (compEnvC scope cl C X.env) fp) ifs tt)
    (hb : ∀ (s : Shared) (H : Hp) (C : Addr) (cl : List (Str × Addr)) (fp : List Addr), PDB (X.blk s H scope (compEnvC scope cl C X.env) fp) vs' elt (⟨tg, iter, ifs, 0⟩ :: rest) scope pos 1 tb) (hs : ∀ x, foldedSetIterable iter X.env x = pure x := by intro _; rfl) :
    PD X (.ListComp elt (⟨tg, iter, ifs, 0⟩ :: rest) scope pos) (dLcN ti g tt tb (own.map (·.2))) :=
  ⟨fun pins s σ H QV I q => (pe_lcN hc hN hi ok hv (fun s H C cl fp => (hg s H C cl fp).pg) ht hb hs).run pins s σ H QV I (llcN (hg s H 0 [] []).tl fin_frz q)⟩
theorem pds_setLcN {rest : List Comprehension} {own : List (Str × Nat)} {i : Nat} {y : Str} {py spos : Pos} (hc : X.calm = true) (hN : X.N.Nodup) (hy : X.N[i]? = some y) (hyl : X.env.scope.names.lookup y = some .local)
    (hsw : swapsWith (.ListComp elt (⟨tg, iter, ifs, 0⟩ :: rest) scope pos) (some (.Name y py)) spos.line X.env = pure true) (hi : PDI X tg iter ti) (ok : BlkOk X.N X.env.scope scope own) (hv : ∀ i ∈ vs', i ∈ own.map (·.2))
    (hg : ∀ (s : Shared) (H : Hp) (C : Addr) (cl : List (Str × Addr)) (fp : List Addr), PTg (X.blk s H scope (compEnvC scope cl C X.env) fp) (own.map (·.2)) tg gV g) (ht : ∀ (s : Shared) (H : Hp) (C : Addr) (cl : List (Str × Addr)) (fp : List Addr), PDTs (X.blk s H scope (compEnvC scope cl C X.env) fp) ifs tt)
    (hb : ∀ (s : Shared) (H : Hp) (C : Addr) (cl : List (Str × Addr)) (fp : List Addr), PDB (X.blk s H scope (compEnvC scope cl C X.env) fp) vs' elt (⟨tg, iter, ifs, 0⟩ :: rest) scope pos 1 tb) (hs : ∀ x, foldedSetIterable iter X.env x = pure x := by intro _; rfl) :
    PDS X (.Assign [.Name y py] (.ListComp elt (⟨tg, iter, ifs, 0⟩ :: rest) scope pos) spos) (sAsg (dLcN ti g tt tb (own.map (·.2))) (gN i)) :=
  ⟨fun pins s σ H E I q => by
    refine (ps_setLcN (tb := lB X.K tb) (tt := lT X.K tt) hc hN hy hyl hsw hi ok hv (fun s H C cl fp => (hg s H C cl fp).pg) ht hb hs).run pins s σ H E I ?_
    obtain ⟨ρ, S, Hb, F, rs, ab, q, k⟩ := q
    have q : dLcNB ti g tt tb (own.map (·.2)) (fun p S Q => ∃ acc, S p = some (.lst acc) ∧ Q (.lst acc) (sdel S p)) ρ S (fun d S1 => F.nx (ρ.set i (some d)) S1) := q
    exact llcN (fin := fun p S Q => ∃ acc, S p = some (.lst acc) ∧ Q (.lst acc) (sdel S p)) (QV := fun x H1 => gName i x σ H1 E.nx) (hg s H 0 [] []).tl fin_frz ⟨ρ, S, Hb, _, rs, ab, q, fun v H1 d S1 Hb1 s1 ab1 r1 q1 => k.nx _ _ _ _ _ s1 ((rs.sub s1).set i r1) ab1 q1⟩⟩
end
end DL

set_option maxHeartbeats 200000
/-! Lay12: what a def of the text is to its callers. -/
namespace DL
open PySem PySem.Spec PyProof.Rows L2
section
variable {K : PySem.W.Frag} {x qual : Str} {params : Arguments} {body : List Stmt} {scope : Scope} {kws : List (Str × V)} {f : Addr} {fd : FuncData} {ps : List Str}
/-- f(e, .., k = v, ..), no defaults at all -/
theorem FunD.kbindsN (F : FunD K x qual params body scope [] kws f fd) (n : Nat) (ks : List Str) (g : {α : Type} → List α → List α → List α)
    (hrel : ∀ {vs zs : List V} {us ws : List Value}, Vals vs us → Vals zs ws → Vals (g vs zs) (g us ws))
    (h : ∀ (kV doc pm : Value) (an : Option Addr) (cdv ct : Value) (us ws : List Value), us.length = n → ws.length = ks.length →
      bindArgs (PySem.W.fnOf x qual params body scope .none kV doc pm an cdv ct) ⟨us, ks.zip ws⟩ = pure (ps.zip (g us ws))) : KBn K fd ps n ks (fun us ws => g us ws) (fun vs zs => g vs zs) := by
  obtain ⟨oc, od, dV, kV, doc, pm, an, cdv, ct, osl, rfl, lk, hcd, hD, hK⟩ := F.ex
  rcases hD with ⟨_, rfl⟩ | ⟨e, _⟩
  · exact ⟨fun s us ws X l1 l2 => .of_eq (h kV doc pm an cdv ct us ws l1 l2), fun r1 r2 => hrel r1 r2⟩
  · exact absurd rfl e
end
/-- a def of the text: its function object, that it stands behind its name -/
structure DefAt (K : PySem.W.Frag) (mg : Str → Option Value) (x : Str) (st : Stmt) (kws : List (Str × V)) (f : Addr) (fd : FuncData) : Prop where
  F : FunD K x x (defArgs st) (defBody st) (defScope st) [] kws f fd
  m : mg x = some (.ref f)
/-- .. and what it promises -/
structure Has (P : Program) (w : World) (K : PySem.W.Frag) (mg : Str → Option Value) (base : Heap) (x : Str) (st : Stmt) (kws : List (Str × V)) (k : Nat) (ps : List Str) (sp : Dsp) : Prop where
  ex : ∃ f fd, DefAt K mg x st kws f fd ∧ FnOk P w K mg base CX0 k f fd ps (lSp K sp)

theorem pd_gint {X : Cx} {x : Str} {i : Int} {pos : Pos} (hg : Gl X x) (h : ∃ t, X.mg x = some (.int i t)) (hd : (x == ("__debug__" : Str)) = false := by decide) : PD X (.Name x pos) (dC (.int i)) := by
  obtain ⟨t, h⟩ := h
  exact pd_glob (v := .int i) hg h ⟨t, rfl⟩ (rep_int _) hd
theorem pd_gstr {X : Cx} {x i : Str} {pos : Pos} (hg : Gl X x) (h : ∃ t, X.mg x = some (.str i t)) (hd : (x == ("__debug__" : Str)) = false := by decide) : PD X (.Name x pos) (dC (.str i)) := by
  obtain ⟨t, h⟩ := h
  exact pd_glob (v := .str i) hg h ⟨t, rfl⟩ (rep_str _) hd
theorem pd_gtup {X : Cx} {x : Str} {ds : List D} {vs : List V} {pos : Pos} (hg : Gl X x) (h : ∃ a, X.mg x = some (.ref a) ∧ ∀ H, SqT X.K H a vs) (hr : ∀ Hb, RepAll X.K Hb ds vs) (hd : (x == ("__debug__" : Str)) = false := by decide) : PD X (.Name x pos) (dC (.rot ds)) := by
  obtain ⟨a, h1, h2⟩ := h
  exact pd_const (pe_glob (v := .ref a) hg h1 rfl hd) fun Hb => by simp only [Rep]; exact ⟨a, vs, rfl, h2 Hb, hr Hb⟩
theorem hu1 {A : Around} {k : Nat} (r : Room k A) : A.units + 1 < cLine := by have := r.un; omega
theorem hu2 {A : Around} {k : Nat} (r : Room k A) : A.units + 2 < cLine := by have := r.un; omega
end DL

set_option maxHeartbeats 200000
/-! Lay13: facts by which what readings ask is shown. -/
namespace DL
open PySem PySem.Spec PyProof.Rows L2
theorem k_int_int : kitAnyB "int" ["int"] = some true := by decide +kernel
theorem k_int_bool : kitAnyB "int" ["bool"] = some false := by decide +kernel
theorem k_int_str : kitAnyB "int" ["str"] = some false := by decide +kernel
theorem k_int_tuple : kitAnyB "int" ["tuple"] = some false := by decide +kernel
theorem k_bool_int : kitAnyB "bool" ["int"] = some true := by decide +kernel
theorem k_bool_bool : kitAnyB "bool" ["bool"] = some true := by decide +kernel
theorem k_str_str : kitAnyB "str" ["str"] = some true := by decide +kernel
theorem k_str_int : kitAnyB "str" ["int"] = some false := by decide +kernel
theorem k_str_tuple : kitAnyB "str" ["tuple"] = some false := by decide +kernel
theorem k_tup_int : kitAnyB "tuple" ["int"] = some false := by decide +kernel
theorem k_tup_str : kitAnyB "tuple" ["str"] = some false := by decide +kernel
theorem k_tup_tup : kitAnyB "tuple" ["tuple"] = some true := by decide +kernel
theorem k_lst_tup : kitAnyB "list" ["tuple"] = some false := by decide +kernel
theorem k_lst_seq : kitAnyB "list" ["list", "tuple"] = some true := by decide +kernel
theorem k_tup_seq : kitAnyB "tuple" ["list", "tuple"] = some true := by decide +kernel
variable {S : Sto} {Q : QD}
/-! ### comparisons of what is known -/
theorem ev_int (i j : Int) : PyData.eqv (.int i) (.int j) = decide (i = j) := by
  simp [PyData.eqv]
  rfl
theorem ev_str (i j : Str) : PyData.eqv (.str i) (.str j) = decide (i = j) := by
  simp [PyData.eqv]
  rfl
theorem rdEqv_ii {i j : Int} : rdEqv (.int i) (.int j) S Q = Q (.bl (decide (i = j))) S := by
  simp only [rdEqv, der_int, fit, D.pd, ev_int, true_and]
theorem rdNev_ii {i j : Int} : rdNev (.int i) (.int j) S Q = Q (.bl (!decide (i = j))) S := by
  simp only [rdNev, der_int, fit, D.pd, ev_int, true_and]
/-! ### equality of data of one form -/
def Same1 {α : Type} [DecidableEq α] (f : α → D) : Prop := ∀ a b, PyData.eqv (f a).pd (f b).pd = decide (a = b)
section
variable {α β : Type} [DecidableEq α] [DecidableEq β]
theorem same_int : Same1 D.int := fun a b => by simp only [D.pd, ev_int]
theorem same_str : Same1 D.str := fun a b => by simp only [D.pd, ev_str]
theorem sameAll {f : α → D} (h : Same1 f) : ∀ xs ys : List α, PyData.eqvAll (pds (xs.map f)) (pds (ys.map f)) = decide (xs = ys)
  | [], [] => by simp [pds, PyData.eqvAll]
  | _ :: _, [] => by simp [pds, PyData.eqvAll]
  | [], _ :: _ => by simp [pds, PyData.eqvAll]
  | x :: xs, y :: ys => by
    simp only [List.map_cons, pds, PyData.eqvAll, h x y, sameAll h xs ys]
    by_cases h1 : x = y <;> by_cases h2 : xs = ys <;> simp [h1, h2]
theorem same_lst {f : α → D} (h : Same1 f) : Same1 fun xs : List α => .lst (xs.map f) := fun a b => by
  simp only [D.pd, PyData.eqv]
  exact sameAll h a b
theorem same_tup {f : α → D} (h : Same1 f) : Same1 fun xs : List α => .tup (xs.map f) := fun a b => by
  simp only [D.pd, PyData.eqv]
  exact sameAll h a b
theorem fits_map {f : α → D} {n : Nat} (h : ∀ a, fit n (f a) = true) (xs : List α) : fits n (xs.map f) = true := by
  rw [fits_iff]
  intro x hx
  obtain ⟨a, _, rfl⟩ := List.mem_map.mp hx
  exact h a
/-- == of two of one form -/
theorem rdEqv_of {f : α → D} (h : Same1 f) (hf : ∀ a, fit 60 (f a) = true) (hd : ∀ a S, der S (f a) = f a) {a b : α} {S : Sto} {Q : QD} (q : Q (.bl (decide (a = b))) S) : rdEqv (f a) (f b) S Q := by
  simp only [rdEqv, hd, hf, h a b, true_and]
  exact q
theorem rdNev_of {f : α → D} (h : Same1 f) (hf : ∀ a, fit 60 (f a) = true) (hd : ∀ a S, der S (f a) = f a) {a b : α} {S : Sto} {Q : QD} (q : Q (.bl (!decide (a = b))) S) : rdNev (f a) (f b) S Q := by
  simp only [rdNev, hd, hf, h a b, true_and]
  exact q
end
/-! ### spans and pairs -/
abbrev Spn := Int × Int × Int
def spanD (s : Spn) : D := .tup [.int s.1, .int s.2.1, .int s.2.2]
theorem same_span : Same1 spanD := fun a b => by
  obtain ⟨a1, a2, a3⟩ := a
  obtain ⟨b1, b2, b3⟩ := b
  simp only [spanD, D.pd, pds, PyData.eqv, PyData.eqvAll, Bool.and_true]
  by_cases h1 : a1 = b1 <;> by_cases h2 : a2 = b2 <;> by_cases h3 : a3 = b3 <;> simp [h1, h2, h3]
theorem fit_span (s : Spn) : fit 2 (spanD s) = true := by simp [spanD, fit, fits]
theorem der_span (s : Spn) (S : Sto) : der S (spanD s) = spanD s := rfl
theorem fit_spans (ss : List Spn) : fit 60 (.lst (ss.map spanD)) = true := by
  simp only [fit]
  exact fits_map (fun a => fit_mono (n := 2) (by omega) (fit_span a)) ss
/-! ### comprehensions without side effects -/
theorem dLc_map {ti : TDI} {g : TDG} {tt : TDT} {te : TDE} {vs : List Nat} {ρ : Rho} {S : Sto} {Q : QD} (xs : List D) (ok : Sto → Prop) (f : D → Option D) (hi : ∀ R, R ⟨xs, ok⟩ S → ti ρ S R) (hok : ∀ p zs, S p = none → ok (sup S p (.lst zs))) (hl : xs.length ≤ sizeLine)
    (hs : ∀ d ∈ xs, ∀ p zs (Y : QD) (N : Sto → Prop), S p = none → (match f d with | some y => Y y (sup S p (.lst zs)) | none => N (sup S p (.lst zs))) →
      g d (dwipe ρ vs) (sup S p (.lst zs)) fun ρ2 S2 => tt ρ2 S2 fun b S3 => if b = true then te ρ2 S3 Y else N S3)
    (hq : Q (.lst (xs.filterMap f)) S) : dLc ti g tt te vs ρ S Q := by
  unfold dLc dLcB
  refine hi _ fun p hp => ?_
  refine ⟨fun i S' => S' = sup S p (.lst ((xs.take i).filterMap f)), by simp, fun i S' e => by subst e; exact hok _ _ hp, fun i d S' hd e => ?_, fun S' e => ?_⟩
  · subst e
    have hi' : i < xs.length := (List.getElem?_eq_some_iff.mp hd).1
    have hm : d ∈ xs := List.mem_of_getElem? hd
    refine hs d hm p _ _ _ hp ?_
    have e1 : xs.take (i + 1) = xs.take i ++ [d] := by rw [List.take_add_one, hd]; rfl
    cases q : f d with
    | none =>
      show sup S p (.lst ((xs.take i).filterMap f)) = sup S p (.lst ((xs.take (i + 1)).filterMap f))
      rw [e1, List.filterMap_append]
      simp [List.filterMap_cons, q]
    | some y =>
      refine ⟨_, sup_same, ?_, ?_⟩
      · have h1 : ((xs.take i).filterMap f).length ≤ (xs.take i).length := List.length_filterMap_le _ _
        have h2 : (xs.take i).length ≤ i := List.length_take_le _ _
        omega
      · show sup (sup S p (.lst ((xs.take i).filterMap f))) p (.lst ((xs.take i).filterMap f ++ [y])) = sup S p (.lst ((xs.take (i + 1)).filterMap f))
        rw [sup_sup, e1, List.filterMap_append]
        simp [List.filterMap_cons, q]
  · subst e
    refine ⟨_, sup_same, ?_⟩
    simp only [List.take_length, sdel_sup, sdel_none hp]
    exact hq
/-- a loop whose turns leave the store, known as it is by their number -/
theorem upI_mem {lo : Int} {n : Nat} {d : D} (h : d ∈ upI lo n) : ∃ i : Nat, i < n ∧ d = .int (lo + i) := by
  unfold upI at h
  obtain ⟨i, h1, rfl⟩ := List.mem_map.mp h
  exact ⟨i, by simpa using h1, rfl⟩
theorem seqOf_sup {d : D} {xs : List D} {p : Addr} {c : Cell} {S : Sto} (hp : S p = none) (h : seqOf S d = some xs) : seqOf (sup S p c) d = some xs := by
  cases d with
  | ref a =>
    simp only [seqOf] at h ⊢
    by_cases e : a = p
    · subst e
      rw [hp] at h
      cases h
    · rw [sup_ne e]
      exact h
  | _ => exact h
/-- over a list or tuple -/
theorem dLc_seq {t0 : TDE} {g : TDG} {tt : TDT} {te : TDE} {vs : List Nat} {ρ : Rho} {S : Sto} {Q : QD} (d0 : D) (xs : List D) (f : D → Option D) (h0 : ∀ R : QD, R d0 S → t0 ρ S R) (hx : seqOf S d0 = some xs) (hl : xs.length ≤ sizeLine)
    (hs : ∀ d ∈ xs, ∀ p zs (Y : QD) (N : Sto → Prop), S p = none → (match f d with | some y => Y y (sup S p (.lst zs)) | none => N (sup S p (.lst zs))) →
      g d (dwipe ρ vs) (sup S p (.lst zs)) fun ρ2 S2 => tt ρ2 S2 fun b S3 => if b = true then te ρ2 S3 Y else N S3)
    (hq : Q (.lst (xs.filterMap f)) S) : dLc (dSeq t0) g tt te vs ρ S Q :=
  dLc_map xs (fun S => seqOf S d0 = some xs) f (fun R h => h0 _ ⟨xs, hx, h⟩) (fun p zs hp => seqOf_sup hp hx) hl hs hq
/-- over a range -/
theorem dLc_rng {ti : TDI} {g : TDG} {tt : TDT} {te : TDE} {vs : List Nat} {ρ : Rho} {S : Sto} {Q : QD} (lo : Int) (n : Nat) (f : D → Option D) (hi : ∀ R, R ⟨upI lo n, fun _ => True⟩ S → ti ρ S R) (hl : n ≤ sizeLine)
    (hs : ∀ i : Nat, i < n → ∀ p zs (Y : QD) (N : Sto → Prop), S p = none → (match f (.int (lo + i)) with | some y => Y y (sup S p (.lst zs)) | none => N (sup S p (.lst zs))) →
      g (.int (lo + i)) (dwipe ρ vs) (sup S p (.lst zs)) fun ρ2 S2 => tt ρ2 S2 fun b S3 => if b = true then te ρ2 S3 Y else N S3)
    (hq : Q (.lst ((upI lo n).filterMap f)) S) : dLc ti g tt te vs ρ S Q :=
  dLc_map (upI lo n) (fun _ => True) f hi (fun _ _ _ => trivial) (by rw [upI_length]; exact hl) (fun d hd => by
    obtain ⟨i, hi, rfl⟩ := upI_mem hd
    exact hs i hi) hq
theorem filterMap_all {α β : Type} (f : α → β) (xs : List α) : xs.filterMap (fun a => some (f a)) = xs.map f := List.filterMap_eq_map (f := f) ▸ rfl
theorem le_line {n : Nat} (h : n ≤ 16777216) : n ≤ sizeLine := by rw [sizeLine_eq]; exact h
theorem rdAll_of {bs : List Bool} {xs : List D} {S : Sto} {Q : QD} (e : xs = bs.map D.bl) (q : Q (.bl (bs.all id)) S) : rdAll [.lst xs] S Q := by
  subst e
  exact ⟨bs, rfl, q⟩
theorem ix30 : ixN 3 0 = some 0 := by decide
theorem ix31 : ixN 3 1 = some 1 := by decide
theorem ix32 : ixN 3 2 = some 2 := by decide
theorem ix20 : ixN 2 0 = some 0 := by decide
theorem ix21 : ixN 2 1 = some 1 := by decide
theorem ix40 : ixN 4 0 = some 0 := by decide
theorem ix41 : ixN 4 1 = some 1 := by decide
theorem ix42 : ixN 4 2 = some 2 := by decide
theorem ix43 : ixN 4 3 = some 3 := by decide
theorem rdGe_pp {a b c d : Int} {S : Sto} {Q : QD} : rdGe (.tup [.int a, .int b]) (.tup [.int c, .int d]) S Q = Q (.bl (!decide (a < c ∨ a = c ∧ b < d))) S := by
  simp only [rdGe, rdOrd, rdOrdD, der_tup, fit, fits, D.pd, pds, PySem.W.dataLt_ii, Bool.and_self, true_and, ne_eq, reduceCtorEq, not_false_eq_true]
  have : PySem.W.alike (.tuple [.int a, .int b]) (.tuple [.int c, .int d]) = true := by simp [PySem.W.alike, PySem.W.alikeAll]
  simp only [this, true_and]
theorem cut1 (xs : List D) : cutD xs (some 1) none = xs.drop 1 := by
  unfold cutD
  rw [HT.sIx_none, show (1 : Int) = ((1 : Nat) : Int) from rfl, HT.sIx_nat]
  rw [List.take_of_length_le (by rw [List.length_drop]; exact Nat.le_refl _)]
  cases xs with
  | nil => rfl
  | cons x xs => simp
theorem likeOf_seq {d : D} {ys : List D} {S : Sto} : seqOf S (likeOf d ys) = some ys := by cases d <;> rfl
theorem zip_get_map {α : Type} {f : α → D} {xs : List α} {i : Nat} {d : D} (h : (zipD (xs.map f) ((xs.map f).drop 1))[i]? = some d) : ∃ a b, xs[i]? = some a ∧ xs[i + 1]? = some b ∧ d = .tup [f a, f b] := by
  obtain ⟨x, y, h1, h2, rfl⟩ := zipD_get h
  rw [List.getElem?_drop, List.getElem?_map] at h2
  rw [List.getElem?_map] at h1
  obtain ⟨a, ha, rfl⟩ := Option.map_eq_some_iff.mp h1
  obtain ⟨b, hb, rfl⟩ := Option.map_eq_some_iff.mp h2
  exact ⟨a, b, ha, by rw [Nat.add_comm]; exact hb, rfl⟩
theorem map_get {α : Type} {f : α → D} {xs : List α} {i : Nat} {d : D} (h : (xs.map f)[i]? = some d) : ∃ a, xs[i]? = some a ∧ d = f a := by
  rw [List.getElem?_map] at h
  obtain ⟨a, ha, rfl⟩ := Option.map_eq_some_iff.mp h
  exact ⟨a, ha, rfl⟩
/-! ### readings at what is known -/
section
variable {S : Sto} {Q : QD}
theorem asI_int {i : Int} {k : Int → Prop} : asI (.int i) k = k i := rfl
theorem asB_bl {i : Bool} {k : Bool → Prop} : asB (.bl i) k = k i := rfl
theorem asS_str {i : Str} {k : Str → Prop} : asS (.str i) k = k i := rfl
theorem asT_tup {i : List D} {k : List D → Prop} : asT (.tup i) k = k i := rfl
theorem asC_cons {d : D} {r : List D} {k : D → List D → Prop} : asC (d :: r) k = k d r := rfl
theorem asN_nil {k : Prop} : asN [] k = k := rfl
theorem as1_one {d : D} {k : D → Prop} : as1 [d] k = k d := rfl
theorem as2_two {d e : D} {k : D → D → Prop} : as2 [d, e] k = k d e := rfl
theorem as3_three {d e f : D} {k : D → D → D → Prop} : as3 [d, e, f] k = k d e f := rfl
theorem refD_ref {a : Addr} {k : Addr → Prop} : refD (.ref a) k = k a := rfl
theorem tyD_non : tyD S .non = some "NoneType" := rfl
theorem tyD_bl {b : Bool} : tyD S (.bl b) = some "bool" := rfl
theorem tyD_int {b : Int} : tyD S (.int b) = some "int" := rfl
theorem tyD_str {b : Str} : tyD S (.str b) = some "str" := rfl
theorem tyD_lst {b : List D} : tyD S (.lst b) = some "list" := rfl
theorem tyD_rol {b : List D} : tyD S (.rol b) = some "list" := rfl
theorem tyD_tup {b : List D} : tyD S (.tup b) = some "tuple" := rfl
theorem tyD_rot {b : List D} : tyD S (.rot b) = some "tuple" := rfl
theorem clsOf_ty {n : String} : clsOf' (.ty n) = some [n] := rfl
theorem clsOf_tup {ds : List D} : clsOf' (.tup ds) = tysOf ds := rfl
theorem tysOf_nil : tysOf [] = some [] := rfl
theorem tysOf_cons {n : String} {r : List D} : tysOf (.ty n :: r) = (tysOf r).map (n :: ·) := rfl
theorem rdAdd_ii {i j : Int} : rdAdd (.int i) (.int j) S Q = Q (.int (i + j)) S := rfl
theorem rdAdd_ss {i j : Str} : rdAdd (.str i) (.str j) S Q = (i.length + j.length ≤ sizeLine ∧ Q (.str (i ++ j)) S) := rfl
theorem rdAdd_ll {xs ys : List D} : rdAdd (.lst xs) (.lst ys) S Q = (xs.length + ys.length ≤ sizeLine ∧ Q (.lst (xs ++ ys)) S) := by
  simp [rdAdd, rdAddL]
theorem rdMul_ii {i j : Int} : rdMul (.int i) (.int j) S Q = (CMulW i j ∧ Q (.int (i * j)) S) := rfl
theorem rdSub_ii {i j : Int} : rdSub (.int i) (.int j) S Q = Q (.int (i - j)) S := rfl
theorem rdMod_ii {i j : Int} : rdMod (.int i) (.int j) S Q = (j ≠ 0 ∧ Q (.int (i.fmod j)) S) := rfl
theorem rdDiv_ii {i j : Int} : rdDiv (.int i) (.int j) S Q = ((CDivN i j ∨ CDivW i j) ∧ Q (.int (i.fdiv j)) S) := rfl
theorem rdPow_ii {i j : Int} : rdPow (.int i) (.int j) S Q = (CPow i j ∧ Q (.int (i ^ j.toNat)) S) := rfl
theorem rdLt_ii {i j : Int} : rdLt (.int i) (.int j) S Q = Q (.bl (decide (i < j))) S := rfl
theorem rdGt_ii {i j : Int} : rdGt (.int i) (.int j) S Q = Q (.bl (decide (j < i))) S := rfl
theorem rdLe_ii {i j : Int} : rdLe (.int i) (.int j) S Q = Q (.bl (decide (i ≤ j))) S := rfl
theorem rdGe_ii {i j : Int} : rdGe (.int i) (.int j) S Q = Q (.bl (decide (j ≤ i))) S := rfl
theorem rdLen_str {z : Str} : rdLen [.str z] S Q = (z.length ≤ sizeLine ∧ Q (.int z.length) S) := rfl
theorem rdLen_lst {xs : List D} : rdLen [.lst xs] S Q = Q (.int xs.length) S := rfl
theorem rdLen_rol {xs : List D} : rdLen [.rol xs] S Q = Q (.int xs.length) S := rfl
theorem rdLen_tup {xs : List D} : rdLen [.tup xs] S Q = Q (.int xs.length) S := rfl
theorem rdLen_of {d : D} {xs : List D} (h : seqOf S d = some xs) (q : Q (.int xs.length) S) : rdLen [d] S Q := by
  cases d <;> simp only [seqOf] at h <;> try cases h
  all_goals first | exact q | skip
  split at h
  · rename_i zs e
    cases h
    show withO (seqOf S (.ref _)) _
    simp only [seqOf, e, withO]
    exact q
  · cases h
theorem rdIx_tup {xs : List D} {i : Int} : rdIx (.tup xs) (.int i) S Q = withO (atI xs i) fun v => Q v S := rfl
theorem rdIx_lst {xs : List D} {i : Int} : rdIx (.lst xs) (.int i) S Q = withO (atI xs i) fun v => Q v S := rfl
theorem rdIx_rol {xs : List D} {i : Int} : rdIx (.rol xs) (.int i) S Q = withO (atI xs i) fun v => Q v S := rfl
theorem rdIx_str {z : Str} {i : Int} : rdIx (.str z) (.int i) S Q = (z.length ≤ sizeLine ∧ withO (atI z.cps.toList i) fun c => Q (.str ⟨#[c]⟩) S) := rfl
theorem rdIx_of {d : D} {xs : List D} {i : Int} {v : D} (h : seqOf S d = some xs) (e : atI xs i = some v) (q : Q v S) : rdIx d (.int i) S Q := by
  have k : rdIxL d (.int i) S Q := by
    unfold rdIxL
    simp only [asI_int, h, withO_some, e]
    exact q
  cases d with
  | str z => cases h
  | _ => exact k
theorem isRot_tup {xs : List D} : isRot (.tup xs) = false := rfl
theorem isRot_lst {xs : List D} : isRot (.lst xs) = false := rfl
theorem isRot_ref {a : Addr} : isRot (.ref a) = false := rfl
theorem isTup_tup {xs : List D} : isTup (.tup xs) = true := rfl
theorem isTup_lst {xs : List D} : isTup (.lst xs) = false := rfl
theorem isTup_rol {xs : List D} : isTup (.rol xs) = false := rfl
theorem isTup_ref {a : Addr} : isTup (.ref a) = false := rfl
theorem tupOf_lst {xs ys : List D} : tupOf xs (.lst ys) = .tup xs := rfl
theorem tupOf_tup {xs ys : List D} : tupOf xs (.tup ys) = .tup xs := rfl
theorem tupOf_ref {xs : List D} {a : Addr} : tupOf xs (.ref a) = .tup xs := rfl
theorem isNon_non : isNon .non = true := rfl
theorem isNon_int {i : Int} : isNon (.int i) = false := rfl
theorem rdInt_int {i : Int} : rdInt [.int i] S Q = Q (.int i) S := rfl
theorem rdInt_bl {b : Bool} : rdInt [.bl b] S Q = Q (.int (if b then 1 else 0)) S := rfl
end
theorem sl0 : (0 ≤ sizeLine) = True := eq_true (le_line (by decide))
theorem sl1 : (1 ≤ sizeLine) = True := eq_true (le_line (by decide))
theorem sl2 : (2 ≤ sizeLine) = True := eq_true (le_line (by decide))
theorem sl3 : (3 ≤ sizeLine) = True := eq_true (le_line (by decide))
theorem sl4 : (4 ≤ sizeLine) = True := eq_true (le_line (by decide))
theorem sl5 : (5 ≤ sizeLine) = True := eq_true (le_line (by decide))
theorem sl6 : (6 ≤ sizeLine) = True := eq_true (le_line (by decide))
theorem sl7 : (7 ≤ sizeLine) = True := eq_true (le_line (by decide))
theorem sl8 : (8 ≤ sizeLine) = True := eq_true (le_line (by decide))
theorem sl9 : (9 ≤ sizeLine) = True := eq_true (le_line (by decide))
theorem max_if (a b : Int) : (if b > a then b else a) = max a b := by split <;> omega
theorem min_if (a b : Int) : (if b < a then b else a) = min a b := by split <;> omega
theorem rdMax2_ii {i j : Int} {S : Sto} {Q : QD} : rdMax2 [.int i, .int j] S Q = Q (.int (max i j)) S := by rw [← max_if]; rfl
theorem rdMin2_ii {i j : Int} {S : Sto} {Q : QD} : rdMin2 [.int i, .int j] S Q = Q (.int (min i j)) S := by rw [← min_if]; rfl
theorem dAppend_of {to te : TDE} {ρ : Rho} {S : Sto} {Q : QD} (p : Addr) (xs : List D) (h0 : ∀ R : QD, R (.ref p) S → to ρ S R) (hs : S p = some (.lst xs))
    (h1 : te ρ S fun e S2 => ∃ xs, S2 p = some (.lst xs) ∧ xs.length < sizeLine ∧ Q .non (sup S2 p (.lst (xs ++ [e])))) : dAppend to te ρ S Q := h0 _ ⟨p, xs, rfl, hs, h1⟩
theorem dExtend_of {to te : TDE} {ρ : Rho} {S : Sto} {Q : QD} (p : Addr) (xs : List D) (h0 : ∀ R : QD, R (.ref p) S → to ρ S R) (hs : S p = some (.lst xs))
    (h1 : te ρ S fun e S2 => ∃ xs zs, S2 p = some (.lst xs) ∧ lstOf S2 e = some zs ∧ xs.length + zs.length ≤ sizeLine ∧ Q .non (sup S2 p (.lst (xs ++ zs)))) : dExtend to te ρ S Q := h0 _ ⟨p, xs, rfl, hs, h1⟩
theorem take_succ_of {α : Type} {xs : List α} {i : Nat} {a : α} (h : xs[i]? = some a) : xs.take (i + 1) = xs.take i ++ [a] := by rw [List.take_add_one, h]; rfl
theorem rdIx_at {b : Addr} {xs : List D} {i : Int} {S : Sto} {Q : QD} (h : S b = some (.lst xs)) : rdIx (.ref b) (.int i) S Q = withO (atI xs i) fun v => Q v S := by
  show asI (.int i) (fun i => withO (seqOf S (.ref b)) fun xs => withO (atI xs i) fun v => Q v S) = _
  simp only [asI_int, seqOf, h, withO_some]
theorem rdIx_up {b : Addr} {xs : List D} {i : Int} {S : Sto} {Q : QD} : rdIx (.ref b) (.int i) (sup S b (.lst xs)) Q = withO (atI xs i) fun v => Q v (sup S b (.lst xs)) := rdIx_at sup_same
theorem log2_lt {n k : Nat} (hk : 0 < k) (h : n < 2 ^ k) : n.log2 < k := by
  by_cases e : n = 0
  · subst e; simpa using hk
  · exact (Nat.log2_lt e).mpr h
theorem cmul_64 {i j : Int} (h1 : -18446744073709551616 < i) (h2 : i < 18446744073709551616) (h3 : -18446744073709551616 < j) (h4 : j < 18446744073709551616) : CMulW i j := by
  unfold CMulW
  have a := log2_lt (n := i.natAbs) (k := 64) (by omega) (by omega)
  have b := log2_lt (n := j.natAbs) (k := 64) (by omega) (by omega)
  omega
theorem cpow_64 {i j : Int} (h1 : -18446744073709551616 < i) (h2 : i < 18446744073709551616) (h3 : 0 ≤ j) (h4 : j ≤ 1000000) : CPow i j := ⟨h3, h4, by omega⟩
theorem cdiv_30 {i j : Int} (h1 : 0 < j) (h2 : j < 1073741824) : CDivN i j ∨ CDivW i j := .inl ⟨by omega, by omega⟩
theorem fmod_bnd {i j : Int} (h : 0 < j) : 0 ≤ i.fmod j ∧ i.fmod j < j := by
  rw [Int.fmod_eq_emod_of_nonneg _ (by omega)]
  exact ⟨Int.emod_nonneg _ (by omega), Int.emod_lt_of_pos _ h⟩
theorem fdiv_nonneg {i j : Int} (h : 0 ≤ i) (h2 : 0 ≤ j) : 0 ≤ i.fdiv j := Int.fdiv_nonneg h h2
/-- over things of one form -/
theorem dLc_gen {α : Type} {ti : TDI} {g : TDG} {tt : TDT} {te : TDE} {vs : List Nat} {ρ : Rho} {S : Sto} {Q : QD} (as : List α) (enc : α → D) (f : α → Option D) (ok : Sto → Prop) (hi : ∀ R, R ⟨as.map enc, ok⟩ S → ti ρ S R) (hok : ∀ p zs, S p = none → ok (sup S p (.lst zs))) (hl : as.length ≤ sizeLine)
    (hs : ∀ a ∈ as, ∀ p zs (Y : QD) (N : Sto → Prop), S p = none → (match f a with | some y => Y y (sup S p (.lst zs)) | none => N (sup S p (.lst zs))) →
      g (enc a) (dwipe ρ vs) (sup S p (.lst zs)) fun ρ2 S2 => tt ρ2 S2 fun b S3 => if b = true then te ρ2 S3 Y else N S3)
    (hq : Q (.lst (as.filterMap f)) S) : dLc ti g tt te vs ρ S Q := by
  unfold dLc dLcB
  refine hi _ fun p hp => ?_
  refine ⟨fun i S' => S' = sup S p (.lst ((as.take i).filterMap f)), by simp, fun i S' e => by subst e; exact hok _ _ hp, fun i d S' hd e => ?_, fun S' e => ?_⟩
  · subst e
    obtain ⟨a, ha, rfl⟩ := map_get hd
    have hi' : i < as.length := (List.getElem?_eq_some_iff.mp ha).1
    refine hs a (List.mem_of_getElem? ha) p _ _ _ hp ?_
    have e1 : as.take (i + 1) = as.take i ++ [a] := take_succ_of ha
    cases q : f a with
    | none =>
      show sup S p (.lst ((as.take i).filterMap f)) = sup S p (.lst ((as.take (i + 1)).filterMap f))
      rw [e1, List.filterMap_append]
      simp [List.filterMap_cons, q]
    | some y =>
      refine ⟨_, sup_same, ?_, ?_⟩
      · have h1 : ((as.take i).filterMap f).length ≤ (as.take i).length := List.length_filterMap_le _ _
        have h2 : (as.take i).length ≤ i := List.length_take_le _ _
        omega
      · show sup (sup S p (.lst ((as.take i).filterMap f))) p (.lst ((as.take i).filterMap f ++ [y])) = sup S p (.lst ((as.take (i + 1)).filterMap f))
        rw [sup_sup, e1, List.filterMap_append]
        simp [List.filterMap_cons, q]
  · subst e
    refine ⟨_, sup_same, ?_⟩
    simp only [List.length_map, List.take_length, sdel_sup, sdel_none hp]
    exact hq
/-- over a list or tuple of things of one form -/
theorem dLc_of {α : Type} {t0 : TDE} {g : TDG} {tt : TDT} {te : TDE} {vs : List Nat} {ρ : Rho} {S : Sto} {Q : QD} (d0 : D) (as : List α) (enc : α → D) (f : α → Option D) (h0 : ∀ R : QD, R d0 S → t0 ρ S R) (hx : seqOf S d0 = some (as.map enc)) (hl : as.length ≤ sizeLine)
    (hs : ∀ a ∈ as, ∀ p zs (Y : QD) (N : Sto → Prop), S p = none → (match f a with | some y => Y y (sup S p (.lst zs)) | none => N (sup S p (.lst zs))) →
      g (enc a) (dwipe ρ vs) (sup S p (.lst zs)) fun ρ2 S2 => tt ρ2 S2 fun b S3 => if b = true then te ρ2 S3 Y else N S3)
    (hq : Q (.lst (as.filterMap f)) S) : dLc (dSeq t0) g tt te vs ρ S Q :=
  dLc_gen as enc f (fun S => seqOf S d0 = some (as.map enc)) (fun R h => h0 _ ⟨_, hx, h⟩) (fun p zs hp => seqOf_sup hp hx) hl hs hq
/-- over a range -/
theorem dLc_rgN {ti : TDI} {g : TDG} {tt : TDT} {te : TDE} {vs : List Nat} {ρ : Rho} {S : Sto} {Q : QD} (lo : Int) (n : Nat) (f : Nat → Option D) (hi : ∀ R, R ⟨upI lo n, fun _ => True⟩ S → ti ρ S R) (hl : n ≤ sizeLine)
    (hs : ∀ i ∈ List.range n, ∀ p zs (Y : QD) (N : Sto → Prop), S p = none → (match f i with | some y => Y y (sup S p (.lst zs)) | none => N (sup S p (.lst zs))) →
      g (.int (lo + (i : Int))) (dwipe ρ vs) (sup S p (.lst zs)) fun ρ2 S2 => tt ρ2 S2 fun b S3 => if b = true then te ρ2 S3 Y else N S3)
    (hq : Q (.lst ((List.range n).filterMap f)) S) : dLc ti g tt te vs ρ S Q :=
  dLc_gen (List.range n) (fun i : Nat => D.int (lo + (i : Int))) f (fun _ => True) hi (fun _ _ _ => trivial) (by simpa using hl) hs hq
/-! ### dicts of pairs -/
theorem tpairs_map (ps : List (Int × Int)) (d : D) : tpairs (ps.map fun p => .tup [pairD p, d]) = some (ps.map fun p => ([Sum.inl p.1, Sum.inl p.2], d)) := by
  induction ps with
  | nil => rfl
  | cons p ps ih =>
    simp only [List.map_cons, tpairs, pairD, keysOf, keyOf, ih]
theorem valD_putD {κ : Type} [DecidableEq κ] (kvs : List (κ × D)) (k j : κ) (d : D) : (valD (putD kvs k d) j).isSome = (decide (j = k) || (valD kvs j).isSome) := by
  have h : ∀ l : List (κ × D), (valD l j).isSome = l.any fun kv => decide (kv.1 = j) := fun l => by
    unfold valD
    rw [Option.isSome_map, Bool.eq_iff_iff, List.find?_isSome, List.any_eq_true]
  rw [h, h]
  unfold putD
  by_cases c : (kvs.any fun kv => decide (kv.1 = k)) = true
  · rw [if_pos c, List.any_map]
    have e : ((fun kv : κ × D => decide (kv.1 = j)) ∘ fun kv => if kv.1 = k then (kv.1, d) else kv) = fun kv => decide (kv.1 = j) := by
      funext kv
      simp only [Function.comp]
      split <;> rfl
    rw [e]
    by_cases q : j = k
    · subst q
      rw [c]
      simp
    · simp [q]
  · rw [if_neg c]
    simp [List.any_append]
    rw [Bool.or_comm]
    congr 1
    by_cases q : k = j
    · subst q; simp
    · simp [q, Ne.symm q]
theorem valD_fold (kvs : List (List Key × D)) (k : List Key) : ∀ acc, (valD (foldD acc kvs) k).isSome = ((valD acc k).isSome || kvs.any fun kv => decide (kv.1 = k)) := by
  induction kvs with
  | nil => intro acc; simp [foldD]
  | cons kv kvs ih =>
    intro acc
    show (valD (foldD (putD acc kv.1 kv.2) kvs) k).isSome = _
    rw [ih, valD_putD, List.any_cons]
    by_cases q : k = kv.1
    · subst q; simp
    · have q' : ¬ kv.1 = k := fun e => q e.symm
      simp [q, q']
theorem inPairs (ps : List (Int × Int)) (d : D) (p : Int × Int) : (valD (foldD [] (ps.map fun p => ([Sum.inl p.1, Sum.inl p.2], d))) [Sum.inl p.1, Sum.inl p.2]).isSome = decide (p ∈ ps) := by
  rw [valD_fold]
  simp only [valD, List.find?_nil, Option.map_none, Option.isSome_none, Bool.false_or, List.any_map]
  rw [Bool.eq_iff_iff, List.any_eq_true, decide_eq_true_eq]
  constructor
  · rintro ⟨q, hq, e⟩
    simp only [Function.comp, decide_eq_true_eq, List.cons.injEq, Sum.inl.injEq, and_true] at e
    have : q = p := Prod.ext e.1 e.2
    rw [← this]
    exact hq
  · intro h
    exact ⟨p, h, by simp⟩
theorem atD_pairs {S : Sto} {a : Addr} {kvs : List (List Key × D)} (h : S a = some (.dT kvs)) (p : Int × Int) : atD S a (pairD p) = some (valD kvs [Sum.inl p.1, Sum.inl p.2]) := by
  simp only [atD, h, pairD, tkey, keysOf, keyOf, Option.map_some]
/-! ### what is forgotten at a def's end -/
def Le (S S' : Sto) : Prop := ∀ a c, S a = some c → S' a = some c
def Qw (Q : QD) : QD := fun d S' => ∃ S, Le S S' ∧ Q d S
theorem FunD.okDw {K : PySem.W.Frag} {P : Program} {w : World} {mg : Str → Option Value} {base : Heap} {x qual : Str} {params : Arguments} {body : List Stmt} {scope : Scope} {dvs : List V} {kws : List (Str × V)} {f : Addr} {fd : FuncData} {N ps : List Str} {k : Nat} {sp : Dsp} {t : TDS} (F : FunD K x qual params body scope dvs kws f fd) (S : FnScope N ps scope)
    (len : ∀ ds S Q, sp ds S Q → ds.length = ps.length) (vc : ∀ ds S Q, sp ds S Q → t { nx := fun _ S' => Qw Q .non S', rt := Qw Q } (startD N.length ds) S)
    (hbody : ∀ (cdv : Value) (A : Around) (outer : List Env) (s : Shared) (H : Hp) (E : XK), Room k (A.deeper (envOfC qual scope s.heap.objs.size f cdv)) →
      PDSs (cxOf CX0 P w K mg base N qual scope f cdv A outer s H E).nox body t) : FnOk P w K mg base CX0 (k + 1) f fd ps (lSp K sp) := by
  have h : FnOk P w K mg base CX0 (k + 1) f fd ps (lSp K fun ds S Q => ∃ Q0, sp ds S Q0 ∧ ∀ d S', Qw Q0 d S' → Q d S') :=
    FunD.okD (sp := fun ds S Q => ∃ Q0, sp ds S Q0 ∧ ∀ d S', Qw Q0 d S' → Q d S') (t := fun F ρ S => ∃ Q0, (∀ d S', Qw Q0 d S' → F.rt d S') ∧ (∀ ρ' S', Qw Q0 .non S' → F.nx ρ' S') ∧ t { nx := fun _ S' => Qw Q0 .non S', rt := Qw Q0 } ρ S) F S (fun ds S Q ⟨Q0, q, _⟩ => len _ _ _ q) (fun ds S Q ⟨Q0, q, k⟩ => ⟨Q0, k, fun _ S' => k _ S', vc ds S Q0 q⟩)
      fun cdv A outer s H E hr => PSs.imp (hbody cdv A outer s H E hr) fun D σ H ⟨ρ, S, Hb, F, rs, ab, ⟨Q0, k1, k2, q⟩, fo⟩ =>
        ⟨ρ, S, Hb, _, rs, ab, q, ⟨fun σ' H' ρ' S' Hb' s' rs' ab' q' => fo.nx _ _ _ _ _ s' rs' ab' (k2 ρ' S' q'), fun v H' d S' Hb' s' ab' r' q' => fo.rt _ _ _ _ _ s' ab' r' (k1 _ _ q'), fun _ _ _ _ _ _ _ _ z => z.elim, fun _ _ _ _ _ _ _ _ z => z.elim⟩⟩
  exact h.imp fun vs H Q E ⟨ds, S, Hb, QD, r, ab, q, kk⟩ => ⟨ds, S, Hb, Qw QD, r, ab, ⟨QD, q, fun _ _ z => z⟩, fun v H' d S' Hb' s' ab' r' ⟨S0, le, q'⟩ => kk v H' d S0 Hb' s' (ab'.less le) r' q'⟩
theorem rdNev_nil {α : Type} [DecidableEq α] {f : α → D} (h : Same1 f) (hf : ∀ a, fit 59 (f a) = true) {S : Sto} {Q : QD} {p : Addr} {zs : List α} (e : S p = some (.lst (zs.map f))) (q : Q (.bl (!decide (zs = []))) S) : rdNev (.ref p) (.lst []) S Q := by
  have k := same_lst h zs []
  simp only [List.map_nil] at k
  have k2 : fit 60 (.lst (zs.map f)) = true := by
    simp only [fit]
    exact fits_map hf zs
  simp only [rdNev, der_ref e, der_lst, k, k2, true_and]
  exact ⟨by simp [fit, fits], q⟩
theorem ix_last {α : Type} {f : α → D} {zs : List α} {l : α} : ixN ((zs ++ [l]).map f).length (-1) = some zs.length := by
  unfold ixN
  rw [if_neg (by omega), List.length_map, List.length_append]
  simp
  omega
theorem at_last {α : Type} {f : α → D} {zs : List α} {l : α} : ((ixN ((zs ++ [l]).map f).length (-1)).bind fun j => ((zs ++ [l]).map f)[j]?) = some (f l) := by
  rw [ix_last]
  simp
theorem fm_if {α : Type} {f : α → D} {P : α → Prop} [DecidablePred P] (xs : List α) : (xs.filterMap fun c => (if P c then some c else none : Option α).map f) = (xs.filter fun c => decide (P c)).map f := by
  induction xs with
  | nil => rfl
  | cons x xs ih =>
    rw [List.filterMap_cons]
    by_cases h : P x
    · rw [if_pos h, List.filter_cons_of_pos (by simpa using h), List.map_cons, ih]
      rfl
    · rw [if_neg h, List.filter_cons_of_neg (by simpa using h), ih]
      rfl
theorem Qw.same {Q : QD} {d : D} {S : Sto} (h : Q d S) : Qw Q d S := ⟨S, fun _ _ e => e, h⟩
theorem Qw.up {Q : QD} {d : D} {S : Sto} {p : Addr} {c : Cell} (hp : S p = none) (h : Q d S) : Qw Q d (sup S p c) := ⟨S, fun a c e => by rw [sup_ne (sto_ne hp e).symm]; exact e, h⟩
theorem dJoin_of {to te : TDE} {ρ : Rho} {S : Sto} {Q : QD} (z : Str) (d : D) (ys : List Str) (h0 : ∀ R : QD, R (.str z) S → to ρ S R) (h1 : ∀ R : QD, R d S → te ρ S R) (hx : seqOf S d = some (ys.map D.str)) (hl : (ys.map (·.length)).sum + ys.length * z.length ≤ 16777216) (q : Q (.str (Txt.join z ys)) S) : dJoin to te ρ S Q := by
  refine h0 _ ?_
  show te ρ S _
  refine h1 _ ?_
  show withO (seqOf S d) _
  rw [hx]
  exact ⟨ys, rfl, hl, q⟩
theorem splice_map {α : Type} {g : Nat → α} {v : α} {a b C : Nat} (h1 : a ≤ b) (h2 : b ≤ C) : ((List.range C).map g).take a ++ List.replicate (b - a) v ++ ((List.range C).map g).drop b = (List.range C).map fun c => if a ≤ c ∧ c < b then v else g c := by
  apply List.ext_getElem?
  intro i
  rw [List.getElem?_append, List.getElem?_append]
  simp only [List.length_append, List.length_take, List.length_map, List.length_range, List.length_replicate, List.getElem?_take, List.getElem?_map, List.getElem?_replicate, List.getElem?_drop]
  by_cases c1 : i < a
  · have c2 : ¬ (a ≤ i ∧ i < b) := by omega
    have c3 : i < C := by omega
    rw [if_pos (by omega), if_pos (by omega), if_pos c1, List.getElem?_range c3]
    simp [c2]
  · by_cases c2 : i < b
    · have c3 : i < C := by omega
      rw [if_pos (by omega), if_neg (by omega), if_pos (by omega), List.getElem?_range c3]
      simp [show a ≤ i ∧ i < b by omega]
    · rw [if_neg (by omega)]
      have e1 : b + (i - (min a C + (b - a))) = i := by omega
      rw [e1]
      by_cases c3 : i < C
      · rw [List.getElem?_range c3]
        simp [c2]
      · rw [List.getElem?_eq_none (by simpa using c3)]
        rfl
theorem rdMulC_lst {xs : List D} {k : Int} {S : Sto} {Q : QD} (h1 : -(2 ^ 63) ≤ k) (h2 : k < 2 ^ 63) (h3 : xs.length * k.toNat ≤ sizeLine) (h : ∀ q, S q = none → Q (.ref q) (sup S q (.lst (List.replicate k.toNat xs).flatten))) : rdMulC (.lst xs) (.int k) S Q := ⟨xs, rfl, h1, h2, h3, h⟩
theorem rdMul_lst {xs : List D} {k : Int} {S : Sto} {Q : QD} (h1 : -(2 ^ 63) ≤ k) (h2 : k < 2 ^ 63) (h3 : xs.length * k.toNat ≤ sizeLine) (h : Q (.lst (List.replicate k.toNat xs).flatten) S) : rdMul (.lst xs) (.int k) S Q := ⟨xs, rfl, h1, h2, h3, h⟩
theorem flat_one {α : Type} (n : Nat) (a : α) : (List.replicate n [a]).flatten = List.replicate n a := by
  induction n with
  | zero => rfl
  | succ n ih => rw [List.replicate_succ, List.flatten_cons, ih]; rfl
theorem gSetSl_of {to : TDE} {tl th : TDO} {v : D} {ρ : Rho} {S : Sto} {Q : Rho → Sto → Prop} (q : Addr) (xs ys : List D) (i j : Int) (h0 : ∀ R : QD, R (.ref q) S → to ρ S R) (hl : ∀ R : Option Int → Sto → Prop, R (some i) S → tl ρ S R) (hh : ∀ R : Option Int → Sto → Prop, R (some j) S → th ρ S R)
    (hv : lstOf S v = some ys) (hq : S q = some (.lst xs)) (hne : v ≠ .ref q) (c0 : 0 ≤ i) (c1 : i ≤ j) (c2 : j ≤ xs.length) (c3 : xs.length + ys.length ≤ sizeLine) (h : Q ρ (sup S q (.lst (xs.take i.toNat ++ ys ++ xs.drop j.toNat)))) : gSetSl to tl th v ρ S Q := by
  unfold gSetSl
  refine h0 _ (hl _ (hh _ ?_))
  simp only [refD_ref, withO_some, hv, lstOf_ref hq, hq]
  exact ⟨trivial, hne, c0, c1, c2, c3, h⟩
theorem rdMulS_si {z : Str} {n : Int} {S : Sto} {Q : QD} : rdMulS (.str z) (.int n) S Q = (MulOk z n ∧ Q (.str (Txt.mul z n)) S) := rfl
theorem rdInt_str {z : Str} {S : Sto} {Q : QD} : rdInt [.str z] S Q = (z.length ≤ 640 ∧ withO (PySem.intText? z) fun n => Q (.int n) S) := rfl
end DL

set_option maxHeartbeats 200000
/-! Lay14: loops and comprehensions over things of one form. -/
namespace DL
open PySem PySem.Spec PyProof.Rows L2
/-- a for over things of one form -/
theorem sFor_of {α : Type} {ti : TDI} {g : TDG} {tb : TDS} {F : DL.Fin} {ρ : Rho} {S : Sto} (as : List α) (enc : α → D) (ok : Sto → Prop) (S1 : Sto) (W : Nat → Rho → Sto → Prop)
    (hi : ∀ R : Iter → Sto → Prop, R ⟨as.map enc, ok⟩ S1 → ti ρ S R) (h0 : W 0 ρ S1) (hok : ∀ i ρ S, W i ρ S → ok S)
    (hs : ∀ i a ρ' S', as[i]? = some a → W i ρ' S' → g (enc a) ρ' S' fun ρ2 S2 => tb { F with nx := W (i + 1), ct := W (i + 1), bk := F.nx } ρ2 S2)
    (hf : ∀ ρ' S', W as.length ρ' S' → F.nx ρ' S') : sFor ti g tb F ρ S := by
  unfold sFor
  refine hi _ ⟨W, h0, hok, fun i d ρ' S' hd w => ?_, fun ρ' S' w => hf _ _ (by simpa using w)⟩
  obtain ⟨a, ha, rfl⟩ := map_get hd
  exact hs i a ρ' S' ha w
/-- a for that folds -/
theorem sFor_fold {α σ : Type} {ti : TDI} {g : TDG} {tb : TDS} {F : DL.Fin} {ρ : Rho} {S : Sto} (as : List α) (enc : α → D) (ok : Sto → Prop) (S1 : Sto) (f : σ → α → σ) (s0 : σ) (I : Nat → σ → Prop) (Sh : σ → Rho → Sto → Prop)
    (hi : ∀ R : Iter → Sto → Prop, R ⟨as.map enc, ok⟩ S1 → ti ρ S R) (hI : I 0 s0) (h0 : Sh s0 ρ S1) (hok : ∀ s ρ S, Sh s ρ S → ok S)
    (hIs : ∀ i a s, as[i]? = some a → I i s → I (i + 1) (f s a))
    (hs : ∀ i a s ρ' S' (N : Rho → Sto → Prop), as[i]? = some a → I i s → Sh s ρ' S' → (∀ ρ S, Sh (f s a) ρ S → N ρ S) → g (enc a) ρ' S' fun ρ2 S2 => tb { F with nx := N, ct := N, bk := F.nx } ρ2 S2)
    (hf : ∀ ρ' S', I as.length (as.foldl f s0) → Sh (as.foldl f s0) ρ' S' → F.nx ρ' S') : sFor ti g tb F ρ S := by
  refine sFor_of as enc ok S1 (fun i ρ S => ∃ s, s = (as.take i).foldl f s0 ∧ I i s ∧ Sh s ρ S) hi ⟨s0, rfl, hI, h0⟩ (fun i ρ S ⟨s, _, _, h⟩ => hok s ρ S h) (fun i a ρ' S' ha ⟨s, e, hi', h⟩ => ?_) fun ρ' S' ⟨s, e, hi', h⟩ => ?_
  · refine hs i a s ρ' S' _ ha hi' h fun ρ2 S2 h2 => ⟨_, ?_, hIs i a s ha hi', h2⟩
    rw [take_succ_of ha, List.foldl_append, ← e]
    rfl
  · rw [List.take_length] at e
    subst e
    exact hf _ _ hi' h
/-- a clause of a comprehension of several -/
theorem dbFor_of {α : Type} {ti : TDI} {g : TDG} {tt : TDT} {tb : TDB} {vs : List Nat} {p : Addr} {ρ : Rho} {S : Sto} {zs : List D} {Nx : Sto → Prop} (L : Nat) (as : List α) (enc : α → D) (f : α → List D) (ok : Sto → Prop)
    (hi : ∀ R : Iter → Sto → Prop, R ⟨as.map enc, ok⟩ (sup S p (.lst zs)) → ti ρ (sup S p (.lst zs)) R) (hok : ∀ ys, ok (sup S p (.lst ys)))
    (hs : ∀ a ∈ as, ∀ ys (N : Sto → Prop), ys.length + (f a).length ≤ L → N (sup S p (.lst (ys ++ f a))) → g (enc a) (dwipe ρ vs) (sup S p (.lst ys)) fun ρ2 S2 => tt ρ2 S2 fun b S3 => if b = true then tb p ρ2 S3 N else N S3)
    (hl : zs.length + (as.flatMap f).length ≤ L) (hq : Nx (sup S p (.lst (zs ++ as.flatMap f)))) : dbFor ti g tt tb vs p ρ (sup S p (.lst zs)) Nx := by
  unfold dbFor
  refine hi _ ⟨fun i S' => S' = sup S p (.lst (zs ++ (as.take i).flatMap f)), by simp, fun i S' e => by subst e; exact hok _, fun i d S' hd e => ?_, fun S' e => ?_⟩
  · subst e
    obtain ⟨a, ha, rfl⟩ := map_get hd
    refine hs a (List.mem_of_getElem? ha) _ _ ?_ ?_
    · have e1 : (as.take (i + 1)).flatMap f = (as.take i).flatMap f ++ f a := by rw [take_succ_of ha, List.flatMap_append]; simp
      have e2 : as.flatMap f = (as.take (i + 1)).flatMap f ++ (as.drop (i + 1)).flatMap f := by rw [← List.flatMap_append, List.take_append_drop]
      have e3 := congrArg List.length e2
      rw [e1] at e3
      simp only [List.length_append] at e3 ⊢
      omega
    · show sup S p (.lst (zs ++ (as.take i).flatMap f ++ f a)) = sup S p (.lst (zs ++ (as.take (i + 1)).flatMap f))
      rw [take_succ_of ha, List.flatMap_append, List.append_assoc]
      simp
  · subst e
    simpa using hq
theorem dbLast_of {te : TDE} {p : Addr} {ρ : Rho} {S : Sto} {ys : List D} {N : Sto → Prop} (y : D) (L : Nat) (hL : L ≤ sizeLine) (hl : ys.length + [y].length ≤ L) (h : ∀ R : QD, R y (sup S p (.lst ys)) → te ρ (sup S p (.lst ys)) R) (q : N (sup S p (.lst (ys ++ [y])))) :
    dbLast te p ρ (sup S p (.lst ys)) N := by
  unfold dbLast
  refine h _ ⟨ys, sup_same, by simp at hl; omega, ?_⟩
  rw [sup_sup]
  exact q
/-- a comprehension of several clauses -/
theorem dLcN_of {α : Type} {ti : TDI} {g : TDG} {tt : TDT} {tb : TDB} {vs : List Nat} {ρ : Rho} {S : Sto} {Q : QD} (L : Nat) (as : List α) (enc : α → D) (f : α → List D) (ok : Sto → Prop)
    (hi : ∀ R : Iter → Sto → Prop, R ⟨as.map enc, ok⟩ S → ti ρ S R) (hok : ∀ p ys, S p = none → ok (sup S p (.lst ys)))
    (hs : ∀ a ∈ as, ∀ p ys (N : Sto → Prop), S p = none → ys.length + (f a).length ≤ L → N (sup S p (.lst (ys ++ f a))) → g (enc a) (dwipe ρ vs) (sup S p (.lst ys)) fun ρ2 S2 => tt ρ2 S2 fun b S3 => if b = true then tb p ρ2 S3 N else N S3)
    (hl : (as.flatMap f).length ≤ L) (hq : Q (.lst (as.flatMap f)) S) : dLcN ti g tt tb vs ρ S Q := by
  unfold dLcN dLcNB
  refine hi _ fun p hp => ?_
  refine ⟨fun i S' => S' = sup S p (.lst ((as.take i).flatMap f)), by simp, fun i S' e => by subst e; exact hok _ _ hp, fun i d S' hd e => ?_, fun S' e => ?_⟩
  · subst e
    obtain ⟨a, ha, rfl⟩ := map_get hd
    refine hs a (List.mem_of_getElem? ha) p _ _ hp ?_ ?_
    · have e1 : (as.take (i + 1)).flatMap f = (as.take i).flatMap f ++ f a := by rw [take_succ_of ha, List.flatMap_append]; simp
      have e2 : as.flatMap f = (as.take (i + 1)).flatMap f ++ (as.drop (i + 1)).flatMap f := by rw [← List.flatMap_append, List.take_append_drop]
      have e3 := congrArg List.length e2
      rw [e1] at e3
      simp only [List.length_append] at e3 ⊢
      omega
    · show sup S p (.lst ((as.take i).flatMap f ++ f a)) = sup S p (.lst ((as.take (i + 1)).flatMap f))
      rw [take_succ_of ha, List.flatMap_append]
      simp
  · subst e
    refine ⟨_, sup_same, ?_⟩
    simp only [List.length_map, List.take_length, sdel_sup, sdel_none hp]
    exact hq
/-- .. over a list or tuple -/
theorem sForS_of {α : Type} {te : TDE} {g : TDG} {tb : TDS} {F : DL.Fin} {ρ : Rho} {S : Sto} (d0 : D) (as : List α) (enc : α → D) (S1 : Sto) (W : Nat → Rho → Sto → Prop)
    (hd : ∀ R : QD, R d0 S1 → te ρ S R) (hx : seqOf S1 d0 = some (as.map enc)) (h0 : W 0 ρ S1) (hok : ∀ i ρ S, W i ρ S → seqOf S d0 = some (as.map enc))
    (hs : ∀ i a ρ' S', as[i]? = some a → W i ρ' S' → g (enc a) ρ' S' fun ρ2 S2 => tb { F with nx := W (i + 1), ct := W (i + 1), bk := F.nx } ρ2 S2)
    (hf : ∀ ρ' S', W as.length ρ' S' → F.nx ρ' S') : sFor (dSeq te) g tb F ρ S :=
  sFor_of as enc (fun S => seqOf S d0 = some (as.map enc)) S1 W (fun R h => hd _ ⟨_, hx, h⟩) h0 hok hs hf
theorem sForS_fold {α σ : Type} {te : TDE} {g : TDG} {tb : TDS} {F : DL.Fin} {ρ : Rho} {S : Sto} (d0 : D) (as : List α) (enc : α → D) (S1 : Sto) (f : σ → α → σ) (s0 : σ) (I : Nat → σ → Prop) (Sh : σ → Rho → Sto → Prop)
    (hd : ∀ R : QD, R d0 S1 → te ρ S R) (hx : seqOf S1 d0 = some (as.map enc)) (hI : I 0 s0) (h0 : Sh s0 ρ S1) (hok : ∀ s ρ S, Sh s ρ S → seqOf S d0 = some (as.map enc))
    (hIs : ∀ i a s, as[i]? = some a → I i s → I (i + 1) (f s a))
    (hs : ∀ i a s ρ' S' (N : Rho → Sto → Prop), as[i]? = some a → I i s → Sh s ρ' S' → (∀ ρ S, Sh (f s a) ρ S → N ρ S) → g (enc a) ρ' S' fun ρ2 S2 => tb { F with nx := N, ct := N, bk := F.nx } ρ2 S2)
    (hf : ∀ ρ' S', I as.length (as.foldl f s0) → Sh (as.foldl f s0) ρ' S' → F.nx ρ' S') : sFor (dSeq te) g tb F ρ S :=
  sFor_fold as enc (fun S => seqOf S d0 = some (as.map enc)) S1 f s0 I Sh (fun R h => hd _ ⟨_, hx, h⟩) hI h0 hok hIs hs hf
theorem dbForS_of {α : Type} {te : TDE} {g : TDG} {tt : TDT} {tb : TDB} {vs : List Nat} {p : Addr} {ρ : Rho} {S : Sto} {zs : List D} {Nx : Sto → Prop} (L : Nat) (d0 : D) (as : List α) (enc : α → D) (f : α → List D)
    (hd : ∀ R : QD, R d0 (sup S p (.lst zs)) → te ρ (sup S p (.lst zs)) R) (hx : ∀ ys, seqOf (sup S p (.lst ys)) d0 = some (as.map enc))
    (hs : ∀ a ∈ as, ∀ ys (N : Sto → Prop), ys.length + (f a).length ≤ L → N (sup S p (.lst (ys ++ f a))) → g (enc a) (dwipe ρ vs) (sup S p (.lst ys)) fun ρ2 S2 => tt ρ2 S2 fun b S3 => if b = true then tb p ρ2 S3 N else N S3)
    (hl : zs.length + (as.flatMap f).length ≤ L) (hq : Nx (sup S p (.lst (zs ++ as.flatMap f)))) : dbFor (dSeq te) g tt tb vs p ρ (sup S p (.lst zs)) Nx :=
  dbFor_of L as enc f (fun S => seqOf S d0 = some (as.map enc)) (fun R h => hd _ ⟨_, hx zs, h⟩) hx hs hl hq
theorem dLcNS_of {α : Type} {te : TDE} {g : TDG} {tt : TDT} {tb : TDB} {vs : List Nat} {ρ : Rho} {S : Sto} {Q : QD} (L : Nat) (d0 : D) (as : List α) (enc : α → D) (f : α → List D)
    (hd : ∀ R : QD, R d0 S → te ρ S R) (hx : seqOf S d0 = some (as.map enc))
    (hs : ∀ a ∈ as, ∀ p ys (N : Sto → Prop), S p = none → ys.length + (f a).length ≤ L → N (sup S p (.lst (ys ++ f a))) → g (enc a) (dwipe ρ vs) (sup S p (.lst ys)) fun ρ2 S2 => tt ρ2 S2 fun b S3 => if b = true then tb p ρ2 S3 N else N S3)
    (hl : (as.flatMap f).length ≤ L) (hq : Q (.lst (as.flatMap f)) S) : dLcN (dSeq te) g tt tb vs ρ S Q :=
  dLcN_of L as enc f (fun S => seqOf S d0 = some (as.map enc)) (fun R h => hd _ ⟨_, hx, h⟩) (fun p ys hp => seqOf_sup hp hx) hs hl hq
/-- .. over a range -/
theorem sForR_of {te : TDI} {g : TDG} {tb : TDS} {F : DL.Fin} {ρ : Rho} {S : Sto} (lo : Int) (n : Nat) (S1 : Sto) (W : Nat → Rho → Sto → Prop)
    (hi : ∀ R : Iter → Sto → Prop, R ⟨upI lo n, fun _ => True⟩ S1 → te ρ S R) (h0 : W 0 ρ S1)
    (hs : ∀ i ρ' S', i < n → W i ρ' S' → g (.int (lo + (i : Int))) ρ' S' fun ρ2 S2 => tb { F with nx := W (i + 1), ct := W (i + 1), bk := F.nx } ρ2 S2)
    (hf : ∀ ρ' S', W n ρ' S' → F.nx ρ' S') : sFor te g tb F ρ S :=
  sFor_of (List.range n) (fun i : Nat => D.int (lo + (i : Int))) (fun _ => True) S1 W hi h0 (fun _ _ _ _ => trivial) (fun i a ρ' S' ha w => by
    have hi : i < n := by
      have := (List.getElem?_eq_some_iff.mp ha).1
      simpa using this
    have : a = i := by
      rw [List.getElem?_range hi] at ha
      cases ha
      rfl
    subst this
    exact hs _ ρ' S' hi w) (fun ρ' S' w => hf _ _ (by simpa using w))
end DL

set_option maxHeartbeats 200000
/-! Lay15: sorted over pairs and over a dict's items; sizes of ints; == of truths and texts. -/
namespace DL
open PySem PySem.Spec PyProof.Rows L2
/-! ### sizes -/
def Sz (k : Nat) (x : Int) : Prop := x.natAbs < 2 ^ k
theorem top_log {k : Nat} {x : Int} (hk : 0 < k) (h : Sz k x) : x.natAbs.log2 < k := log2_lt hk h
theorem top_mul {a b : Nat} {x y : Int} (h : Sz a x) (h' : Sz b y) (ha : 0 < a) (hb : 0 < b) (hab : a + b ≤ 1000000) : CMulW x y := wide_mul h h' ha hb hab
theorem cdiv_w {k : Nat} {i j : Int} (hj : 0 < j) (h : Sz k j) (hk : 0 < k) (hk2 : k ≤ 9000) : CDivN i j ∨ CDivW i j := .inr ⟨hj, Nat.lt_of_lt_of_le (top_log hk h) hk2⟩
theorem top_small {k : Nat} {x : Int} (h : -1048576 < x) (h2 : x < 1048576) (hk : 20 ≤ k) : Sz k x := Nat.lt_of_lt_of_le (show x.natAbs < 2 ^ 20 by omega) (Nat.pow_le_pow_right (by omega) hk)
theorem top_mono {k l : Nat} {x : Int} (h : Sz k x) (hk : k ≤ l) : Sz l x := Nat.lt_of_lt_of_le h (Nat.pow_le_pow_right (by omega) hk)
theorem top_prod {a b : Nat} {x y : Int} (h : Sz a x) (h' : Sz b y) : Sz (a + b) (x * y) := by
  unfold Sz at *
  rw [Int.natAbs_mul, Nat.pow_add]
  exact Nat.mul_lt_mul'' h h'
theorem top_add {a b c : Nat} {x y : Int} (h : Sz a x) (h' : Sz b y) (ha : a < c) (hb : b < c) : Sz c (x + y) := by
  obtain ⟨c, rfl⟩ : ∃ d, c = d + 1 := ⟨c - 1, by omega⟩
  have h1 := top_mono h (show a ≤ c by omega)
  have h2 := top_mono h' (show b ≤ c by omega)
  unfold Sz at *
  rw [Nat.pow_succ]
  omega
theorem top_neg {a : Nat} {x : Int} (h : Sz a x) : Sz a (-x) := by unfold Sz at *; rw [Int.natAbs_neg]; exact h
theorem top_sub {a b c : Nat} {x y : Int} (h : Sz a x) (h' : Sz b y) (ha : a < c) (hb : b < c) : Sz c (x - y) := by
  rw [Int.sub_eq_add_neg]
  exact top_add h (top_neg h') ha hb
/-! ### truths and texts -/
theorem rdNev_bb {i j : Bool} {S : Sto} {Q : QD} : rdNev (.bl i) (.bl j) S Q = Q (.bl (!decide (i = j))) S := by
  have e : PyData.eqv (.bool i) (.bool j) = decide (i = j) := by cases i <;> cases j <;> rfl
  simp only [rdNev, der_bl, fit, D.pd, e, true_and]
theorem rdEqv_bb {i j : Bool} {S : Sto} {Q : QD} : rdEqv (.bl i) (.bl j) S Q = Q (.bl (decide (i = j))) S := by
  have e : PyData.eqv (.bool i) (.bool j) = decide (i = j) := by cases i <;> cases j <;> rfl
  simp only [rdEqv, der_bl, fit, D.pd, e, true_and]
theorem rdEqv_ss {i j : Str} {S : Sto} {Q : QD} (h1 : PyData.strOk i = true) (h2 : PyData.strOk j = true) : rdEqv (.str i) (.str j) S Q = Q (.bl (decide (i = j))) S := by
  simp only [rdEqv, der_str, fit, h1, h2, D.pd, ev_str, true_and]
theorem rdNev_ss {i j : Str} {S : Sto} {Q : QD} (h1 : PyData.strOk i = true) (h2 : PyData.strOk j = true) : rdNev (.str i) (.str j) S Q = Q (.bl (!decide (i = j))) S := by
  simp only [rdNev, der_str, fit, h1, h2, D.pd, ev_str, true_and]
/-! ### sorted -/
theorem sort_eq {α : Type} {le : α → α → Bool} {xs ys : List α} (p : ys.Perm xs) (hs : ys.Pairwise fun a b => le a b = true)
    (tr : ∀ a b c, le a b = true → le b c = true → le a c = true) (tot : ∀ a b, (le a b || le b a) = true) (anti : ∀ a b, a ∈ xs → b ∈ xs → le a b = true → le b a = true → a = b) : xs.mergeSort le = ys := by
  have p1 := List.mergeSort_perm xs le
  have s1 := List.pairwise_mergeSort tr tot xs
  refine List.Perm.eq_of_pairwise (le := fun a b => le a b = true) (fun a b ha hb h1 h2 => anti a b (p1.mem_iff.mp ha) (p.mem_iff.mp hb) h1 h2) s1 hs (p1.trans p.symm)
def leP (a b : Int × Int) : Bool := decide (a.1 < b.1 ∨ a.1 = b.1 ∧ a.2 ≤ b.2)
def insP (x : Int × Int) : List (Int × Int) → List (Int × Int)
  | [] => [x]
  | y :: ys => if leP x y then x :: y :: ys else y :: insP x ys
def sortP (xs : List (Int × Int)) : List (Int × Int) := xs.foldr insP []
theorem insP_perm (x : Int × Int) : ∀ ys, (insP x ys).Perm (x :: ys)
  | [] => .refl _
  | y :: ys => by
    unfold insP
    split
    · exact .refl _
    · exact (List.Perm.cons y (insP_perm x ys)).trans (.swap x y ys)
theorem sortP_perm : ∀ xs, (sortP xs).Perm xs
  | [] => .refl _
  | x :: xs => (insP_perm x _).trans (List.Perm.cons x (sortP_perm xs))
theorem leP_tot (a b : Int × Int) : (leP a b || leP b a) = true := by simp only [leP, Bool.or_eq_true, decide_eq_true_eq]; omega
theorem leP_tr (a b c : Int × Int) (h : leP a b = true) (k : leP b c = true) : leP a c = true := by simp only [leP, decide_eq_true_eq] at *; omega
theorem leP_anti (a b : Int × Int) (h : leP a b = true) (k : leP b a = true) : a = b := by
  simp only [leP, decide_eq_true_eq] at *
  exact Prod.ext (by omega) (by omega)
theorem insP_sorted (x : Int × Int) : ∀ ys, ys.Pairwise (fun a b => leP a b = true) → (insP x ys).Pairwise fun a b => leP a b = true
  | [], _ => by simp [insP]
  | y :: ys, h => by
    obtain ⟨h1, h2⟩ := List.pairwise_cons.mp h
    unfold insP
    split
    · rename_i c
      refine List.pairwise_cons.mpr ⟨fun z hz => ?_, h⟩
      rcases List.mem_cons.mp hz with rfl | hz
      · exact c
      · exact leP_tr _ _ _ c (h1 z hz)
    · rename_i c
      refine List.pairwise_cons.mpr ⟨fun z hz => ?_, insP_sorted x ys h2⟩
      rcases List.mem_cons.mp ((insP_perm x ys).mem_iff.mp hz) with rfl | hz
      · have := leP_tot z y
        simp only [Bool.or_eq_true] at this
        exact this.resolve_left c
      · exact h1 z hz
theorem sortP_sorted : ∀ xs, (sortP xs).Pairwise fun a b => leP a b = true
  | [] => by simp [sortP]
  | x :: xs => insP_sorted x _ (sortP_sorted xs)
theorem sortP_eq (xs : List (Int × Int)) : xs.mergeSort leP = sortP xs :=
  sort_eq (sortP_perm xs) (sortP_sorted xs) leP_tr leP_tot fun a b _ _ => leP_anti a b
theorem sortP_id {xs : List (Int × Int)} (h : xs.Pairwise fun a b => leP a b = true) : sortP xs = xs := by
  rw [← sortP_eq]
  exact List.mergeSort_of_pairwise h
theorem fits_pairs (n : Nat) (xs : List (Int × Int)) : fits (n + 1) (xs.map pairD) = true := fits_map (fun a => by simp [fit, fits]) xs
theorem rdSorted_pairs {cs : List (Int × Int)} {S : Sto} {Q : QD} (q : Q (.lst ((sortP cs).map pairD)) S) : rdSorted [.lst (cs.map pairD)] S Q := by
  refine ⟨rfl, ?_⟩
  show withO (some (cs.map pairD)) _
  simp only [withO_some]
  refine ⟨fits_pairs 59 cs, ?_, ?_, ?_⟩
  · intro d hd d' hd'
    simp only [List.map_map, List.mem_map] at hd hd'
    obtain ⟨a, _, rfl⟩ := hd
    obtain ⟨b, _, rfl⟩ := hd'
    simp [D.pd, pds, PySem.W.alike, PySem.W.alikeAll]
  · refine .inl fun d hd => ?_
    simp only [List.map_map, List.mem_map] at hd
    obtain ⟨a, _, rfl⟩ := hd
    exact ⟨_, _, by simp only [Function.comp, D.pd, pds]; rfl⟩
  · have e : (cs.map pairD).mergeSort (PySem.W.dataLe false D.pd) = (sortP cs).map pairD := by
      rw [← sortP_eq, List.map_mergeSort]
      intro a _ b _
      have := congrFun (congrFun (PySem.W.dataLe_ii (fun p : Int × Int => p.1) (fun p => p.2)) a) b
      unfold leP
      rw [← this]
      rfl
    rw [e]
    exact q
end DL

set_option maxHeartbeats 200000
/-! Lay16: dicts from ints, as rows of typed pairs; their items sorted. -/
namespace DL
open PySem PySem.Spec PyProof.Rows L2
section
variable {β : Type} (enc : β → D)
def getI (P : List (Int × β)) (h : Int) : Option β := (P.find? fun kv => decide (kv.1 = h)).map (·.2)
def putI (P : List (Int × β)) (h : Int) (v : β) : List (Int × β) :=
  if (P.any fun kv => decide (kv.1 = h)) = true then P.map (fun kv => if kv.1 = h then (kv.1, v) else kv) else P ++ [(h, v)]
def rowI (P : List (Int × β)) : List (Key × D) := P.map fun kv => (Sum.inl kv.1, enc kv.2)
theorem valD_rowI (P : List (Int × β)) (h : Int) : valD (rowI enc P) (Sum.inl h) = (getI P h).map enc := by
  unfold valD getI rowI
  induction P with
  | nil => rfl
  | cons kv P ih =>
    simp only [List.map_cons, List.find?_cons]
    by_cases c : kv.1 = h
    · simp [c]
    · simp only [Sum.inl.injEq, c, decide_false]
      exact ih
theorem putD_rowI (P : List (Int × β)) (h : Int) (v : β) : putD (rowI enc P) (Sum.inl h) (enc v) = rowI enc (putI P h v) := by
  unfold putD putI rowI
  have e : ((P.map fun kv => ((Sum.inl kv.1 : Key), enc kv.2)).any fun kv => decide (kv.1 = Sum.inl h)) = P.any fun kv => decide (kv.1 = h) := by
    rw [List.any_map]
    congr 1
    funext kv
    simp
  rw [e]
  split
  · rw [List.map_map, List.map_map]
    refine List.map_congr_left fun kv _ => ?_
    simp only [Function.comp, Sum.inl.injEq]
    by_cases c : kv.1 = h <;> simp [c]
  · rw [List.map_append]
    rfl
theorem putI_len (P : List (Int × β)) (h : Int) (v : β) : (putI P h v).length ≤ P.length + 1 := by
  unfold putI
  split <;> simp
theorem putI_keys (P : List (Int × β)) (h : Int) (v : β) (nd : (P.map (·.1)).Nodup) : ((putI P h v).map (·.1)).Nodup ∧ ∀ k, k ∈ (putI P h v).map (·.1) ↔ k = h ∨ k ∈ P.map (·.1) := by
  unfold putI
  split
  · rename_i c
    have e : (P.map fun kv => if kv.1 = h then (kv.1, v) else kv).map (·.1) = P.map (·.1) := by
      rw [List.map_map]
      refine List.map_congr_left fun kv _ => ?_
      simp only [Function.comp]
      split <;> rfl
    rw [e]
    refine ⟨nd, fun k => ⟨.inr, ?_⟩⟩
    rintro (rfl | h1)
    · rw [List.any_eq_true] at c
      obtain ⟨kv, h1, h2⟩ := c
      rw [decide_eq_true_eq] at h2
      exact h2 ▸ List.mem_map_of_mem (f := (·.1)) h1
    · exact h1
  · rename_i c
    rw [List.map_append]
    refine ⟨?_, fun k => by simp [or_comm]⟩
    rw [List.nodup_append]
    refine ⟨nd, by simp, fun a ha b hb => ?_⟩
    simp only [List.map_cons, List.map_nil, List.mem_cons, List.not_mem_nil, or_false] at hb
    subst hb
    rintro rfl
    refine c ?_
    rw [List.any_eq_true]
    obtain ⟨kv, h1, h2⟩ := List.mem_map.mp ha
    exact ⟨kv, h1, by simpa using h2⟩
theorem getI_putI (P : List (Int × β)) (h : Int) (v : β) (k : Int) : getI (putI P h v) k = if k = h then some v else getI P k := by
  unfold putI
  split
  · rename_i c
    have e : ∀ Q : List (Int × β), (Q.any fun kv => decide (kv.1 = h)) = true ∨ k ≠ h → getI (Q.map fun kv => if kv.1 = h then (kv.1, v) else kv) k = if k = h then some v else getI Q k := by
      intro Q
      induction Q with
      | nil =>
        intro c
        rcases c with c | c
        · simp at c
        · rw [if_neg c]; rfl
      | cons kv Q ih =>
        intro c
        unfold getI at ih ⊢
        simp only [List.map_cons, List.find?_cons]
        by_cases c1 : kv.1 = h
        · rw [if_pos c1]
          by_cases c2 : k = h
          · subst c2; simp [c1]
          · have : ¬ kv.1 = k := fun e => c2 (e ▸ c1)
            simp only [this, decide_false, c2, if_false]
            have := ih (.inr c2)
            rw [if_neg c2] at this
            exact this
        · rw [if_neg c1]
          by_cases c2 : kv.1 = k
          · have c3 : ¬ k = h := fun e => c1 (c2.trans e)
            simp [c2, c3]
          · simp only [c2, decide_false]
            refine ih ?_
            rcases c with c | c
            · simp only [List.any_cons, c1, decide_false, Bool.false_or] at c
              exact .inl c
            · exact .inr c
    exact e P (.inl c)
  · rename_i c
    unfold getI
    rw [List.find?_append]
    by_cases c2 : k = h
    · subst c2
      have : (P.find? fun kv => decide (kv.1 = k)) = none := by
        rw [List.find?_eq_none]
        intro x hx
        rw [decide_eq_true_eq]
        intro e
        exact c (List.any_eq_true.mpr ⟨x, hx, by simpa using e⟩)
      simp [this]
    · have : ¬ h = k := fun e => c2 e.symm
      simp [this, c2]
theorem getI_mem {P : List (Int × β)} (nd : (P.map (·.1)).Nodup) {h : Int} {v : β} : (h, v) ∈ P ↔ getI P h = some v := by
  unfold getI
  induction P with
  | nil => simp
  | cons kv P ih =>
    rw [List.map_cons] at nd
    obtain ⟨h1, h2⟩ := List.nodup_cons.mp nd
    simp only [List.find?_cons, List.mem_cons]
    by_cases c : kv.1 = h
    · subst c
      simp only [decide_true, Option.map_some, Option.some.injEq]
      constructor
      · rintro (e | e)
        · rw [← e]
        · exact absurd (List.mem_map_of_mem (f := (·.1)) e) h1
      · intro e
        left
        rw [← e]
    · simp only [c, decide_false]
      rw [← ih h2]
      constructor
      · rintro (e | e)
        · exact absurd (congrArg (·.1) e).symm c
        · exact e
      · exact .inr
end
/-- the items of a dict from ints to pairs of ints, sorted -/
def itemP (kv : Int × Int × Int) : D := .tup [.int kv.1, pairD kv.2]
def leI (a b : Int × Int × Int) : Bool := decide (a.1 < b.1 ∨ a.1 = b.1 ∧ (a.2.1 < b.2.1 ∨ a.2.1 = b.2.1 ∧ a.2.2 ≤ b.2.2))
theorem dataLe_item (a b : Int × Int × Int) : PySem.W.dataLe false D.pd (itemP a) (itemP b) = leI a b := by
  rw [PySem.W.dataLe_eq]
  show (!PySem.W.dataLt (itemP b).pd (itemP a).pd) = _
  have al : PySem.W.alike (.int b.1) (.int a.1) = true := by simp [PySem.W.alike]
  have al2 : PySem.W.alike (.tuple [.int b.2.1, .int b.2.2]) (.tuple [.int a.2.1, .int a.2.2]) = true := by simp [PySem.W.alike, PySem.W.alikeAll]
  have e : PyData.eqv (.tuple [.int b.2.1, .int b.2.2]) (.tuple [.int a.2.1, .int a.2.2]) = (decide (b.2.1 = a.2.1) && decide (b.2.2 = a.2.2)) := by
    simp only [PyData.eqv, PyData.eqvAll, Bool.and_true]
    by_cases h1 : b.2.1 = a.2.1 <;> by_cases h2 : b.2.2 = a.2.2 <;> simp [h1, h2]
  show (!PySem.W.dataLt (.tuple [.int b.1, .tuple [.int b.2.1, .int b.2.2]]) (.tuple [.int a.1, .tuple [.int a.2.1, .int a.2.2]])) = _
  rw [PySem.W.dataLt_pair al al2, PySem.W.dataLt_ii, PySem.W.dataLt_int, ev_int, e]
  unfold leI
  by_cases h1 : b.1 = a.1
  · simp only [h1, decide_true, if_true]
    by_cases h2 : b.2.1 = a.2.1
    · by_cases h3 : b.2.2 = a.2.2
      · simp [h2, h3]
      · simp only [h2, h3, decide_true, decide_false, Bool.true_and, Bool.false_eq_true, if_false]
        by_cases h4 : b.2.2 < a.2.2
        · have : ¬ (a.2.2 ≤ b.2.2) := by omega
          simp [h4, this]
        · have : a.2.2 ≤ b.2.2 := by omega
          simp [h4, this]
    · simp only [h2, decide_false, Bool.false_and, Bool.false_eq_true, if_false]
      by_cases h4 : b.2.1 < a.2.1
      · have h5 : ¬ (a.2.1 < b.2.1) := by omega
        have h6 : ¬ (a.2.1 = b.2.1) := by omega
        simp [h4, h5, h6]
      · have h5 : a.2.1 < b.2.1 := by omega
        simp [h4, h5]
  · simp only [h1, decide_false, Bool.false_eq_true, if_false]
    by_cases h4 : b.1 < a.1
    · have h5 : ¬ (a.1 < b.1) := by omega
      have h6 : ¬ (a.1 = b.1) := by omega
      simp [h4, h5, h6]
    · have h5 : a.1 < b.1 := by omega
      simp [h4, h5]
theorem sort_items {P L : List (Int × Int × Int)} (nd : (P.map (·.1)).Nodup) (p : L.Perm P) (hs : L.Pairwise fun a b => a.1 < b.1) : ((rowI pairD P).map itemD).mergeSort (PySem.W.dataLe false D.pd) = L.map itemP := by
  have e : (rowI pairD P).map itemD = P.map itemP := by
    unfold rowI
    rw [List.map_map]
    rfl
  rw [e]
  have h1 : P.mergeSort leI = L := by
    refine sort_eq p (hs.imp fun {a b} h => ?_) (fun a b c h k => ?_) (fun a b => ?_) fun a b ha hb h k => ?_
    · simp only [leI, decide_eq_true_eq]; omega
    · simp only [leI, decide_eq_true_eq] at *; omega
    · simp only [leI, Bool.or_eq_true, decide_eq_true_eq]; omega
    · simp only [leI, decide_eq_true_eq] at *
      exact Prod.ext (by omega) (Prod.ext (by omega) (by omega))
  rw [← h1, List.map_mergeSort]
  intro a _ b _
  exact (dataLe_item a b).symm
end DL

set_option maxHeartbeats 200000
/-! Lay17: range(i, j) of ints of any size. -/
namespace DL
open PySem PySem.Spec PyProof.Rows L2
theorem turn_long {P : Program} {w : World} {K : PySem.W.Frag} {tg : Expr} (it : Addr) (lo : Int) (n : Nat) : Turn P w K tg (Itr lo n) [it] it (fun i h => IsLongIter h it (lo + (i : Nat) * 1) ((n : Int) - (i : Nat)) 1) where
  mem := by simp
  obj := fun i h st b hb => by
    have e : b = it := by simpa using hb
    subst e
    exact ⟨_, st, fun v z => by
      have z' : Data.fields _ = Data.cell v := z
      cases z'⟩
  keep := fun i h h' st k => k it (by simp) _ st
  item := by
    intro X hP hw hK hc i pins s σ H E I hf st hg
    subst hP hw hK
    obtain ⟨f0, f1, f2, f3, f4, f5⟩ := hf it (by simp)
    have W := Walks.longrange (prog := X.prog) (w := X.w) (I.ok.hd hc) it lo 1 n
    refine W.item i s _ _ hg st fun v h' tk hv st' kk => ?_
    obtain ⟨t, rfl⟩ := hv
    have I1 : Inv X pins σ H { s with heap := h', toks := tk } := I.turned (fun b o hb e => kk b o (by simpa using hb) e) f0 f1 f3 f4 f5
    refine ⟨_, rfl, go_of (s := { s with heap := h', toks := tk }) (n := "longrange_iterator") st' rfl rfl (by decide) ⟨.int (lo + i), H, I1, ⟨t, ?_⟩, ⟨rfl, rfl⟩, st', fun b hb => (hf b hb).1⟩⟩
    rw [Int.mul_one]
  done := by
    intro X hP hw hK hc i pins s σ H E I hf st hg
    subst hP hw hK
    obtain ⟨f0, f1, f2, f3, f4, f5⟩ := hf it (by simp)
    exact wpAny_pyNext_long_end (I.ok.hd hc) st (by have : n ≤ i := hg; omega) fun h' eb => ⟨rfl, I.turned (t' := s.toks) (fun b o hb e => eb b o hb e) f0 f1 f3 f4 f5⟩
  self := fun _ _ _ _ _ st h => wpAny_pyIter_longiter st h
theorem range_itB {X : Cx} {tg : Expr} {pins : List (Addr × Obj)} {σ : L2.St} {H : Hp} {s : Shared} {R : It → Hp → Prop} {E : Value → Shared → Prop} {lo hi : Int} {t u v : Tok} {tk : Nat} (I : Inv X pins σ H s)
    (q : R (Itr lo (hi - lo).toNat) H) : wpAny (model X.prog X.w) X.A (pyIter (.ref s.heap.objs.size)) (PIE X pins σ tg R) E { s with heap := s.heap.push { cls := .type "range", data := .fields #[.int lo t, .int hi u, .int 1 v] }, toks := tk } := by
  have I1 : Inv X pins σ H { s with heap := s.heap.push { cls := .type "range", data := .fields #[.int lo t, .int hi u, .int 1 v] }, toks := tk } := I.kept fun b o e => Heap.get?_push_of_some _ e
  have e1 : lo + ((0 : Nat) : Int) * 1 = lo := by simp
  have e2 : (((hi - lo).toNat : Nat) : Int) - ((0 : Nat) : Int) = Builtin.Range.rangeSize lo hi 1 := by rw [rangeSize_one]; split <;> omega
  cases hs : Builtin.Range.small lo hi 1 with
  | true =>
    refine wpAny_pyIter_range (IsRange.new ..) hs ?_
    refine ⟨(s.heap.push { cls := .type "range", data := .fields #[.int lo t, .int hi u, .int 1 v] }).objs.size, [(s.heap.push { cls := .type "range", data := .fields #[.int lo t, .int hi u, .int 1 v] }).objs.size], _, _, H, rfl,
      I1.kept (t' := tk) fun b o e => Heap.get?_push_of_some _ e, turn_range _ lo (hi - lo).toNat, ?_, fun b hb => ?_, q⟩
    · show IsRangeIter _ _ (lo + ((0 : Nat) : Int) * 1) ((((hi - lo).toNat : Nat) : Int) - ((0 : Nat) : Int)) 1
      rw [e1, e2]
      exact Heap.get?_push_size _ rfl
    · have e : b = (s.heap.push { cls := .type "range", data := .fields #[.int lo t, .int hi u, .int 1 v] }).objs.size := by simpa using hb
      subst e
      exact I1.fpOk (Nat.le_refl _) (I1.hok.fresh (Nat.le_refl _))
  | false =>
    refine wpAny_pyIter_longrange (IsRange.new ..) hs ?_
    refine ⟨(s.heap.push { cls := .type "range", data := .fields #[.int lo t, .int hi u, .int 1 v] }).objs.size, [(s.heap.push { cls := .type "range", data := .fields #[.int lo t, .int hi u, .int 1 v] }).objs.size], _, _, H, rfl,
      I1.kept (t' := tk) fun b o e => Heap.get?_push_of_some _ e, turn_long _ lo (hi - lo).toNat, ?_, fun b hb => ?_, q⟩
    · show IsLongIter _ _ (lo + ((0 : Nat) : Int) * 1) ((((hi - lo).toNat : Nat) : Int) - ((0 : Nat) : Int)) 1
      rw [e1, e2]
      exact Heap.get?_push_size _ rfl
    · have e : b = (s.heap.push { cls := .type "range", data := .fields #[.int lo t, .int hi u, .int 1 v] }).objs.size := by simpa using hb
      subst e
      exact I1.fpOk (Nat.le_refl _) (I1.hok.fresh (Nat.le_refl _))
section
variable {X : Cx} {tg a b : Expr} {ta : TA} {tda : TDA}
def iRng2B (ta : TA) : TI := fun σ H R => ta σ H fun vs H1 => ∃ i j : Int, vs = [.int i, .int j] ∧ R (Itr i (j - i).toNat) H1
theorem pi_range2B {p pos : Pos} (hg : Gl X "range") (hm : X.mg "range" = none) (ha : PA X [a, b] ta) (hs : starEach [a, b] X.env = [(false, eval a X.env), (false, eval b X.env)] := by rfl) (hs2 : starEach [b] X.env = [(false, eval b X.env)] := by rfl) :
    PI X tg (.Call (.Name "range" p) [a, b] [] pos) (iRng2B ta) := by
  refine ⟨fun pins s σ H R I h => ?_⟩
  refine Call_ (ld_blt I hg hm boot_range (PyProof.Rows.callWith_type1 (thn (ha.run pos pins s σ H _ I h) fun us s1 ⟨vs, H1, I1, r1, q1⟩ => ?_) (by rw [hs, hs2]) (by rw [hs2]; rfl)))
  obtain ⟨i, j, e, q⟩ := q1
  subst e
  cases r1 with
  | cons r rr =>
    cases rr with
    | cons r' rr =>
      cases rr
      obtain ⟨t, rfl⟩ := r
      obtain ⟨t', rfl⟩ := r'
      exact call_range_2 (range_itB I1 q)
def dRng2B (ta : TDA) : TDI := fun ρ S Q => ta ρ S fun ds S1 => as2 ds fun d e => asI d fun i => asI e fun j => Q ⟨upI i (j - i).toNat, fun _ => True⟩ S1
theorem pdi_range2B {p pos : Pos} (hg : Gl X "range") (hm : X.mg "range" = none) (ha : PDA X [a, b] tda) (hs : starEach [a, b] X.env = [(false, eval a X.env), (false, eval b X.env)] := by rfl) (hs2 : starEach [b] X.env = [(false, eval b X.env)] := by rfl) :
    PDI X tg (.Call (.Name "range" p) [a, b] [] pos) (dRng2B tda) :=
  PI.imp (pi_range2B hg hm ha hs hs2) fun σ H R ⟨ρ, S, Hb, Q, rs, ab, q, k⟩ => by
    refine ⟨ρ, S, Hb, _, rs, ab, q, fun vs H1 ds S1 Hb1 s1 ab1 r1 q1 => ?_⟩
    replace q1 := as2_iff.mp q1
    obtain ⟨d, d2, rfl, q1⟩ := q1
    replace q1 := asI_iff.mp q1
    obtain ⟨i, rfl, q1⟩ := q1
    replace q1 := asI_iff.mp q1
    obtain ⟨j, rfl, q1⟩ := q1
    simp only [RepAll, Rep] at r1
    obtain ⟨v, r, rfl, rfl, v2, r2, rfl, rfl, rfl⟩ := r1
    exact ⟨i, j, rfl, k _ _ _ _ _ s1 ab1 itOk_r q1⟩
end
end DL

set_option maxHeartbeats 200000
/-! Lay18: sum(xs, start=[]) of a list of lists. -/
namespace DL
open PySem PySem.Spec PyProof.Rows L2
abbrev lo (vs : List Value) (c : Nat) : Obj := { cls := .type "list", dict := none, data := .seq vs.toArray c, slots := #[] }
section
variable {prog : Program} {w : World} {A : Around} {I : Addr} {fp wr : List Addr} {n : Nat} {P : Nat → Value → Prop} {St : Nat → Heap → Prop}
theorem sum_lists_loop {R : PySem.Result → Shared → Prop} (W : Walks prog w A.in1 I fp wr n P St) (h₀ : Heap) (seg : Nat → List Value) (S : Addr) (hSf : S ∉ fp) (hfS : ∀ b ∈ fp, b < S)
    (hval : ∀ i v, i < n → P i v → ∃ a c, v = .ref a ∧ a ∉ wr ∧ a ≠ S ∧ h₀.get? a = some (lo (seg i) c)) (hz : ∀ i, i ≤ n → (((List.range i).map seg).flatten).length ≤ sizeLine) :
    ∀ (k i : Nat) (s : Shared) (q : Addr) (c cq : Nat), n - i = k → i ≤ n → St i s.heap → s.heap.get? S = some { cls := .type "list", dict := none, data := .seq #[.ref q] c, slots := #[] } →
    q ∉ wr → q ≠ S → s.heap.get? q = some (lo ((List.range i).map seg).flatten cq) → (∀ b o, b ∉ wr → b ≠ S → h₀.get? b = some o → s.heap.get? b = some o) →
    (i = 0 ∨ S < q) → (∀ h' tk q cq, (n = 0 ∨ S < q) → h'.get? q = some (lo ((List.range n).map seg).flatten cq) → (∀ b o, b ∉ wr → b ≠ S → s.heap.get? b = some o → h'.get? b = some o) → R (.ok (.ret (.ref q))) { s with heap := h', toks := tk }) →
    codeAny (model prog w) A (.builtin "sum.loop" ⟨[.ref I, .ref S, rawInt 2, rawInt 0], []⟩) R s := by
  have hSw : S ∉ wr := fun h => hSf (W.sub _ h)
  intro k
  induction k with
  | zero =>
    intro i s q c cq hk hi hst hS hqw hqS hq hold hqq hR
    have hin : i = n := by omega
    subst hin
    refine codeAny_builtin F.entry_sum_loop ?_
    rw [Around.under_plainId F.plain_sum_loop _]
    show wpAny _ A.in1 (seqItems? (.ref S) >>= _) _ _ s
    refine wpAny_bind (wpAny_seqItems hS rfl ?_)
    show wpAny _ A.in1 (tryCatch (pyNext (.ref I)) _ >>= _) _ _ s
    refine wpAny_bind (wpAny_tryCatch (W.done s _ _ hst fun h' tk hk' => ?_))
    exact wpAny_pure (hR h' tk q cq hqq (hk' q _ hqw hq) fun b o hbw _ e => hk' b o hbw e)
  | succ k ih =>
    intro i s q c cq hk hi hst hS hqw hqS hq hold hqq hR
    have hlt : i < n := by omega
    refine codeAny_builtin F.entry_sum_loop ?_
    rw [Around.under_plainId F.plain_sum_loop _]
    show wpAny _ A.in1 (seqItems? (.ref S) >>= _) _ _ s
    refine wpAny_bind (wpAny_seqItems hS rfl ?_)
    show wpAny _ A.in1 (tryCatch (pyNext (.ref I)) _ >>= _) _ _ s
    refine wpAny_bind (wpAny_tryCatch (W.item i s _ _ hlt hst fun v h' tk hP hst' hk' => ?_))
    obtain ⟨a, ca, rfl, haw, haS, ha⟩ := hval i v hlt hP
    have hS' := hk' S _ hSw hS
    have hq' := hk' q _ hqw hq
    have ha' := hk' a _ haw (hold a _ haw haS ha)
    have hz' := hz (i + 1) hlt
    have ef : ((List.range (i + 1)).map seg).flatten = ((List.range i).map seg).flatten ++ seg i := by rw [List.range_succ, List.map_append, List.flatten_append]; simp
    rw [ef] at hz'
    show wpAny _ A.in1 ((holding [Value.ref a] (binaryOp .Add (.ref q) (.ref a))).attempt >>= _) _ _ _
    refine wpAny_bind (wpAny_attempt (wpAny_holding (PySem.P.add_list hq' ha' ?_ (by simpa using hz'))))
    show wpAny _ A.in1 (updateSeq S (fun _ => #[.ref h'.objs.size]) >>= _) _ _ _
    have hSne : S ≠ h'.objs.size := Nat.ne_of_lt (Heap.lt_size hS')
    have hS1 : (h'.push { cls := .type "list", data := .seq (((List.range i).map seg).flatten.toArray ++ (seg i).toArray) }).get? S = some { cls := .type "list", dict := none, data := .seq #[.ref q] c, slots := #[] } := Heap.get?_push_of_some _ hS'
    refine wpAny_bind (wpAny_updateSeq hS1 rfl ?_)
    have hS2 := Heap.get?_update_self (Obj.mapSeq fun _ => #[Value.ref h'.objs.size]) hS1 rfl
    refine wpAny_bind (wpAny_letGo ?_)
    refine wpAny_bind (wpAny_updateSeq hS2 rfl (wpAny_pure ⟨plainId_quiet F.plain_sum_loop _, ?_⟩))
    have keep : ∀ b o, b ≠ S → h'.get? b = some o → (((h'.push { cls := .type "list", data := .seq (((List.range i).map seg).flatten.toArray ++ (seg i).toArray) }).update S (Obj.mapSeq fun _ => #[Value.ref h'.objs.size])).update S (Obj.mapSeq fun _ => #[Value.ref h'.objs.size])).get? b = some o := fun b o hb e => by
      rw [Heap.get?_update_other _ _ (Ne.symm hb), Heap.get?_update_other _ _ (Ne.symm hb)]
      exact Heap.get?_push_of_some _ e
    have hSlt : S < h'.objs.size := Heap.lt_size hS'
    refine ih (i + 1) _ h'.objs.size _ 0 (by omega) hlt (W.frame _ _ _ hst' fun b hb o e => keep b o (fun z => hSf (z ▸ hb)) e) (Heap.get?_update_self _ hS2 rfl) ?_ (Ne.symm hSne) ?_ (fun b o hbw hbS e => keep b o hbS (hk' b o hbw (hold b o hbw hbS e))) (.inr hSlt) fun h'' tk'' q'' cq'' hge hq'' hk'' => ?_
    · exact fun z => Nat.lt_irrefl _ (Nat.lt_trans hSlt (hfS _ (W.sub _ z)))
    · rw [Heap.get?_update_other _ _ hSne, Heap.get?_update_other _ _ hSne, ef]
      have e1 : ((List.range i).map seg).flatten.toArray ++ (seg i).toArray = (((List.range i).map seg).flatten ++ seg i).toArray := by simp
      rw [e1]
      exact Heap.get?_push_size _ rfl
    · exact hR h'' tk'' q'' cq'' hge hq'' fun b o hbw hbS e => hk'' b o hbw hbS (keep b o hbS (hk' b o hbw e))
end
section
variable {prog : Program} {w : World} {A : Around} {E : Value → Shared → Prop} {s : Shared}
theorem call_tree_kw {id : String} {b : Builtin} {args : List Value} {kw : List (Str × Value)} {Q : Value → Shared → Prop} (hk : builtinKind id = none) (hp : plainId id = true) (hb : entryFor table id = some b) (ha : argsOk id ⟨args, kw⟩)
    (hc : wpAny (model prog w) A.in1 (b ⟨args, kw⟩) (fun fin s' => match fin with
      | .done f => (match (Except.ok f : PySem.Result) with | .ok (.ret v) => Q v s' | .ok _ => False | .error e => E e s')
      | .again c' => c'.quiet = true ∧ codeAny (model prog w) A c' (fun r s' => match r with | .ok (.ret v) => Q v s' | .ok _ => False | .error e => E e s') s') E s) : wpAny (model prog w) A (call (.builtin id) args kw) Q E s := by
  refine wpAny_call (codeAny_call_builtin hp hb ?_)
  simp only [checkBuiltinCall, hk]
  cases hsig : Manifest.signature? id with
  | none => exact wpAny_pure hc
  | some sig =>
    have ha' : Bind.checkArgs id sig ⟨args, kw⟩ = pure () := by simpa only [argsOk, hsig] using ha
    simp only [ha']
    exact wpAny_pure hc
theorem args_sum_start (a b : Value) : argsOk "sum" ⟨[a], [(Str.ofString "start", b)]⟩ := by unfold argsOk; kernel_rfl
theorem call_sum_lists {l b : Addr} {its : List Value} {seg : Nat → List Value} {cb : Nat} {Q : Value → Shared → Prop} (hh : A.handled = none) (hl : s.heap.IsList l its.toArray) (hb : s.heap.get? b = some (lo [] cb))
    (hval : ∀ i v, its[i]? = some v → ∃ a c, v = .ref a ∧ s.heap.get? a = some (lo (seg i) c)) (hne : 0 < its.length) (hz : ∀ i, i ≤ its.length → (((List.range i).map seg).flatten).length ≤ sizeLine)
    (h : ∀ h' tk q cq, s.heap.objs.size ≤ q → h'.get? q = some (lo ((List.range its.length).map seg).flatten cq) → (∀ b o, s.heap.get? b = some o → h'.get? b = some o) → Q (.ref q) { s with heap := h', toks := tk }) :
    wpAny (model prog w) A (call (.builtin "sum") [.ref l] [(Str.ofString "start", .ref b)]) Q E s := by
  refine call_tree_kw F.kind_sum F.plain_sum F.entry_sum (args_sum_start _ _) ?_
  unfold Builtin.«sum»
  simp only [List.length_cons, List.length_nil]
  rw [if_neg (by decide)]
  refine wpAny_bind (wpAny_of_eq (show Builtin.Builtins.bindParams "sum" ["start"] 0 ⟨[], [(Str.ofString "start", .ref b)]⟩ = pure [some (.ref b)] from by kernel_rfl) ?_)
  refine wpAny_bind (wpAny_pyIter_list hl ?_)
  have hIlt : ∀ a o, s.heap.get? a = some o → a < s.heap.objs.size := fun a o e => Heap.lt_size e
  have hl1 : (s.heap.push { cls := .type "list_iterator", data := .fields #[.ref l, .int 0 0] }).IsList l its.toArray := hl.at fun o e => Heap.get?_push_of_some _ e
  have hb1 : (s.heap.push { cls := .type "list_iterator", data := .fields #[.ref l, .int 0 0] }).get? b = some (lo [] cb) := Heap.get?_push_of_some _ hb
  have hll : l < s.heap.objs.size := by obtain ⟨o, e, _⟩ := hl; exact hIlt l o e
  have hIi : (s.heap.push { cls := .type "list_iterator", data := .fields #[.ref l, .int 0 0] }).IsListIter s.heap.objs.size l 0 := ⟨_, Heap.get?_push_size _ rfl, rfl, rfl⟩
  have hps : (s.heap.push { cls := .type "list_iterator", data := .fields #[.ref l, .int 0 0] }).objs.size = s.heap.objs.size + 1 := by simp [Heap.push]
  refine wpAny_bind (wpAny_pure ?_)
  simp only [List.forIn_cons, List.forIn_nil]
  refine wpAny_bind (wpAny_bind (wpAny_bind (wpAny_isInstance (T := "list") (b := false) ⟨_, hb1, rfl⟩ F.sub_list_str ?_)))
  simp only [Bool.false_eq_true, if_false]
  refine wpAny_pure (wpAny_bind (wpAny_bind (wpAny_isInstance (T := "list") (b := false) ⟨_, hb1, rfl⟩ F.sub_list_bytes ?_)))
  simp only [Bool.false_eq_true, if_false]
  refine wpAny_pure (wpAny_bind (wpAny_bind (wpAny_isInstance (T := "list") (b := false) ⟨_, hb1, rfl⟩ F.sub_list_bytearray ?_)))
  simp only [Bool.false_eq_true, if_false]
  refine wpAny_pure (wpAny_pure ?_)
  refine wpAny_bind (wpAny_newObj_type ?_)
  have W := Walks.list (prog := prog) (w := w) (A := A.in1) hh s.heap.objs.size l (Nat.ne_of_lt hll) its.toArray
  have hS0 : (s.heap.push { cls := .type "list_iterator", data := .fields #[.ref l, .int 0 0] }).objs.size ∉ [s.heap.objs.size, l] := by
    rw [hps]
    simp only [List.mem_cons, List.not_mem_nil, or_false, not_or]
    exact ⟨Nat.succ_ne_self _, Nat.ne_of_gt (Nat.lt_succ_of_lt hll)⟩
  refine wpAny_pure ⟨plainId_quiet F.plain_sum_loop _, sum_lists_loop W (s.heap.push { cls := .type "list_iterator", data := .fields #[.ref l, .int 0 0] }) seg _ hS0 ?_ ?_ (by simpa using hz) its.toArray.size 0 _ b _ cb rfl (Nat.zero_le _)
    (W.frame _ _ _ ⟨hIi, hl1⟩ fun b _ o e => Heap.get?_push_of_some _ e) (Heap.get?_push_size _ rfl) ?_ ?_ (Heap.get?_push_of_some _ hb1) (fun b o _ _ e => Heap.get?_push_of_some _ e) (.inl rfl) fun h' tk q cq hq hq2 hk => ?_⟩
  · intro b hb
    simp only [List.mem_cons, List.not_mem_nil, or_false] at hb
    rw [hps]
    rcases hb with rfl | rfl
    · exact Nat.lt_succ_self _
    · exact Nat.lt_succ_of_lt hll
  · intro i v _ hv
    obtain ⟨a, c, rfl, e⟩ := hval i v (by simpa using hv)
    have := hIlt _ _ e
    refine ⟨a, c, rfl, ?_, ?_, Heap.get?_push_of_some _ e⟩
    · simp only [List.mem_cons, List.not_mem_nil, or_false]
      exact Nat.ne_of_lt this
    · rw [hps]
      exact Nat.ne_of_lt (Nat.lt_succ_of_lt this)
  · simp only [List.mem_cons, List.not_mem_nil, or_false]
    exact Nat.ne_of_lt (hIlt _ _ hb)
  · show b ≠ (s.heap.push { cls := .type "list_iterator", data := .fields #[.ref l, .int 0 0] }).objs.size
    rw [hps]
    exact Nat.ne_of_lt (Nat.lt_succ_of_lt (hIlt _ _ hb))
  · have hq' : s.heap.objs.size + 1 < q := by
      rcases hq with hq | hq
      · have : its.length = 0 := by simpa using hq
        exact absurd hne (by rw [this]; exact Nat.lt_irrefl _)
      · rw [← hps]
        exact hq
    refine h h' tk q cq (Nat.le_of_lt (Nat.lt_of_succ_lt hq')) (by simpa using hq2) fun b o e => ?_
    have := hIlt _ _ e
    refine hk b o ?_ ?_ (Heap.get?_push_of_some _ (Heap.get?_push_of_some _ e))
    · simp only [List.mem_cons, List.not_mem_nil, or_false]
      exact Nat.ne_of_lt this
    · show b ≠ (s.heap.push { cls := .type "list_iterator", data := .fields #[.ref l, .int 0 0] }).objs.size
      rw [hps]
      exact Nat.ne_of_lt (Nat.lt_succ_of_lt this)
end
/-! ### the rule -/
section
variable {X : Cx}
def rSumS (K : PySem.W.Frag) : List V → List V → Hp → VK → Prop := fun vs zs H Q => ∃ (a b : Addr) (as : List Addr) (segs : List (List V)), vs = [V.ref a] ∧ zs = [V.ref b] ∧ SqL K H a (as.map V.ref) ∧ H b = some (.lst []) ∧
  as.length = segs.length ∧ (∀ (i : Nat) (c : Addr) (xs : List V), as[i]? = some c → segs[i]? = some xs → H c = some (.lst xs)) ∧ 0 < as.length ∧ segs.flatten.length ≤ sizeLine ∧ ∀ p, H p = none → Q (.ref p) (upd H p (.lst segs.flatten))
theorem flat_take_le {α : Type} (xs : List (List α)) (i : Nat) : (xs.take i).flatten.length ≤ xs.flatten.length := by
  have : xs.flatten = (xs.take i).flatten ++ (xs.drop i).flatten := by rw [← List.flatten_append, List.take_append_drop]
  rw [this, List.length_append]
  omega
theorem vals_ref_inv : ∀ {as : List Addr} {us : List Value}, Vals (as.map V.ref) us → us = as.map Value.ref
  | [], us, h => by cases h; rfl
  | a :: as, us, h => by
    cases h with
    | cons r rr =>
      cases r
      rw [vals_ref_inv rr]
      rfl
theorem vals_flat : ∀ {xs : List (List V)} {us : List (List Value)}, xs.length = us.length → (∀ (i : Nat) x u, xs[i]? = some x → us[i]? = some u → Vals x u) → Vals xs.flatten us.flatten
  | [], [], _, _ => .nil
  | [], _ :: _, h, _ => by simp at h
  | _ :: _, [], h, _ => by simp at h
  | x :: xs, u :: us, h, k => by
    simp only [List.flatten_cons]
    exact (k 0 x u rfl rfl).append (vals_flat (by simpa using h) fun i x u e1 e2 => k (i + 1) x u (by simpa using e1) (by simpa using e2))
theorem cr_sumS (hc : X.calm = true) : CallRK X (.builtin "sum") [Str.ofString "start"] (rSumS X.K) := by
  intro pins s σ H vs zs us ws Q I r rz ⟨a, b, as, segs, e1, e2, hs, hb, hlen, hseg, hne, hz, q⟩
  subst e1 e2
  obtain rfl := Vals.ref1 r
  obtain rfl := Vals.ref1 rz
  obtain ⟨its, rv, hl, _⟩ := I.list hs
  obtain ⟨_, itb, cb, rb, _, eb⟩ := I.lstM hb
  have hitb : itb = [] := by cases rb; rfl
  subst hitb
  have hits := vals_ref_inv rv
  have each : ∀ i : Nat, i < as.length → ∃ (vs : List Value) (n : Nat), Vals (segs.getD i []) vs ∧ s.heap.get? (as.getD i 0) = some (lo vs n) := by
    intro i hi
    have h1 : i < segs.length := by rw [← hlen]; exact hi
    obtain ⟨_, its2, n2, r2, _, e2⟩ := I.lstM (hseg i _ _ (List.getElem?_eq_getElem hi) (List.getElem?_eq_getElem h1))
    refine ⟨its2, n2, ?_, ?_⟩
    · rw [List.getD_eq_getElem?_getD, List.getElem?_eq_getElem h1]
      exact r2
    · rw [List.getD_eq_getElem?_getD, List.getElem?_eq_getElem hi]
      exact e2
  let seg : Nat → List Value := fun i => if h : i < as.length then Classical.choose (each i h) else []
  have hseg2 : ∀ i, i < as.length → ∃ n, Vals (segs.getD i []) (seg i) ∧ s.heap.get? (as.getD i 0) = some (lo (seg i) n) := fun i hi => by
    have : seg i = Classical.choose (each i hi) := dif_pos hi
    rw [this]
    exact Classical.choose_spec (each i hi)
  have hil : its.length = as.length := by rw [hits, List.length_map]
  have hfl : ∀ i, i ≤ as.length → Vals ((segs.take i).flatten) (((List.range i).map seg).flatten) := by
    intro i hi
    refine vals_flat (by rw [List.length_take, List.length_map, List.length_range]; omega) fun j x u e1 e2 => ?_
    have hj : j < i := by
      have := (List.getElem?_eq_some_iff.mp e2).1
      simpa using this
    obtain ⟨n, h1, _⟩ := hseg2 j (by omega)
    rw [List.getElem?_map, List.getElem?_range hj] at e2
    cases e2
    rw [List.getElem?_take_of_lt hj] at e1
    rw [List.getD_eq_getElem?_getD, e1] at h1
    exact h1
  refine call_sum_lists (seg := seg) (I.ok.hd hc) hl.isList eb (fun i v hv => ?_) (by rw [hil]; exact hne) (fun i hi => ?_) fun h' tk p cq hp hq2 hk => ?_
  · rw [hits, List.getElem?_map] at hv
    cases e : as[i]? with
    | none => rw [e] at hv; cases hv
    | some c =>
      rw [e] at hv
      cases hv
      have hi := (List.getElem?_eq_some_iff.mp e).1
      obtain ⟨n, _, h2⟩ := hseg2 i hi
      rw [List.getD_eq_getElem?_getD, e] at h2
      exact ⟨c, n, rfl, h2⟩
  · rw [hil] at hi
    have h1 := (hfl i hi).length
    have h2 := flat_take_le segs i
    omega
  · rw [hil] at hq2
    have h3 := hfl as.length (Nat.le_refl _)
    rw [hlen, List.take_length, ← hlen] at h3
    exact ⟨.ref p, upd H p (.lst segs.flatten), I.laid (t' := tk) hk hp ⟨hz, _, _, h3, hq2⟩, rfl, q p (I.hok.fresh hp)⟩
end
/-! ### over data -/
section
variable {X : Cx} {e : Expr} {ta : TDE} {p pos : Pos} {k0 : Nat}
def dSumS (ta : TDE) : TDE := fun ρ S Q => ta ρ S fun d S1 => withO (lstOf S1 d) fun xs => ∃ segs : List (List D), xs = segs.map D.lst ∧ 0 < segs.length ∧ segs.flatten.length ≤ sizeLine ∧ Q (.lst segs.flatten) S1
theorem reps_lists {K : PySem.W.Frag} {Hb : Hp} : ∀ {segs : List (List D)} {vs : List V}, RepAll K Hb (segs.map D.lst) vs → ∃ (as : List Addr) (vss : List (List V)), vs = as.map V.ref ∧ as.length = vss.length ∧ as.length = segs.length ∧
    (∀ (i : Nat) (c : Addr) (xs : List V), as[i]? = some c → vss[i]? = some xs → Hb c = some (.lst xs)) ∧ RepAll K Hb segs.flatten vss.flatten
  | [], vs, h => by
    simp only [List.map_nil, RepAll] at h
    subst h
    exact ⟨[], [], rfl, rfl, rfl, fun i c xs e => by simp at e, .nil⟩
  | g :: segs, vs, h => by
    simp only [List.map_cons, RepAll, Rep] at h
    obtain ⟨v, r, rfl, ⟨a, us, rfl, e, ru⟩, h2⟩ := h
    obtain ⟨as, vss, rfl, l1, l2, hk, hr⟩ := reps_lists h2
    refine ⟨a :: as, us :: vss, rfl, by simp [l1], by simp [l2], fun i c xs e1 e2 => ?_, ?_⟩
    · cases i with
      | zero =>
        simp only [List.getElem?_cons_zero, Option.some.injEq] at e1 e2
        subst e1 e2
        exact e
      | succ i => exact hk i c xs (by simpa using e1) (by simpa using e2)
    · simp only [List.flatten_cons]
      exact ru.append hr
theorem pd_sumS {kp lp : Pos} (hc : X.calm = true) (hg : Gl X "sum") (hm : X.mg "sum" = none) (ha : PD X e ta) (hs : starEach [e] X.env = (false, eval e X.env) :: starEach [] X.env := by rfl)
    (he : backTo pos (starEach [e] X.env) = (false, eval e X.env) :: backTo pos (starEach [] X.env) := by rfl) (hpl : (backTo pos (starEach [e] X.env)).any (·.1) = false := by rfl)
    (hall : (backToKw pos (keywordEach [⟨some "start", .List [] lp, kp⟩] X.env)).all (·.1.isSome) = true := by rfl) (hnone : (backToKw pos (keywordEach [⟨some "start", .List [] lp, kp⟩] X.env)).any (·.1.isNone) = false := by rfl) (hks : (backToKw pos (keywordEach [⟨some "start", .List [] lp, kp⟩] X.env)).filterMap (·.1) = [Str.ofString "start"] := by rfl) :
    PD X (.Call (.Name "sum" p) [e] [⟨some "start", .List [] lp, kp⟩] pos) (dSumS ta) :=
  PE.imp (pe_callBK (cr_sumS hc) hg hm (by decide +kernel) (pa_cons ha pa_nil hs) (pk_cons (pe_lst pa_nil) pk_nil) (by decide) (by decide) he hpl hall hnone hks) fun σ H QV ⟨ρ, S, Hb, Q, rs, ab, q, k⟩ => by
    refine ⟨ρ, S, Hb, _, rs, ab, q, fun v H1 d S1 Hb1 s1 ab1 r1 q1 => ?_⟩
    obtain ⟨xs, ex, segs, rfl, hne, hz, q2⟩ := withO_iff.mp q1
    obtain ⟨a, vs, rfl, hr, ha⟩ := r1.list ab1 ex
    obtain ⟨as, vss, rfl, l1, l2, hk, hf⟩ := reps_lists hr
    refine ⟨by simp, fun b hb => ?_⟩
    refine ⟨a, b, as, vss, rfl, rfl, .inl (.inl ?_), upd_same, l1, fun i c ys e1 e2 => ?_, by omega, by rw [hf.length]; exact hz, fun p hp => ?_⟩
    · rw [upd_ne (ne_of_none ha hb)]
      exact ha
    · have := ab1.sub _ _ (hk i c ys e1 e2)
      rw [upd_ne (ne_of_none this hb)]
      exact this
    · have ab2 := ab1.junk (o := .lst []) hb
      obtain ⟨ab3, s3⟩ := ab2.froz (o := .lst vss.flatten) hp
      exact k _ _ _ _ _ (s1.trans s3) ab3 (.lstI upd_same (hf.sub s3)) q2
end
end DL

set_option maxHeartbeats 200000
/-! SC: plain forms and promises of the defs under cells. -/
namespace KC
open PySem PySem.Spec PyProof.Rows L2 DL
inductive Num where
  | i (n : Int)
  | q (t b : Int)
  deriving DecidableEq
def numD : Num → D
  | .i n => .int n
  | .q t b => .tup [.int t, .int b]
def Num.ok : Num → Prop
  | .i _ => True
  | .q t b => 1 < b ∧ Int.gcd t b = 1
def Num.top : Num → Int
  | .i n => n
  | .q t _ => t
def Num.base : Num → Int
  | .i _ => 1
  | .q _ b => b
abbrev Plc := Num × Num
def plcD (p : Plc) : D := .tup [numD p.1, numD p.2]
def mkD : Bool → List D → D
  | true, xs => .lst xs
  | false, xs => .tup xs
def partD (i : Bool) (p : List Plc) : D := mkD i (p.map plcD)
def partsD (o i : Bool) (ps : List (List Plc)) : D := mkD o (ps.map (partD i))
theorem seqOf_mk {S : Sto} {l : Bool} {xs : List D} : seqOf S (mkD l xs) = some xs := by cases l <;> rfl
def nums (ps : List (List Plc)) : List Num := ps.flatMap fun p => p.flatMap fun x => [x.1, x.2]
def PartsOk (ps : List (List Plc)) : Prop := 1 ≤ ps.length ∧ ps.length ≤ 4 ∧ ∀ p ∈ ps, 1 ≤ p.length ∧ p.length ≤ 100 ∧ ∀ x ∈ p, x.1.ok ∧ x.2.ok
def lcmS (m b : Int) : Int := (m * b).fdiv (Int.gcd m b)
def scaleM (ps : List (List Plc)) : Int := ((nums ps).map Num.base).foldl lcmS 1
def wholeM (many : Int) : Num → Int
  | .i n => n * many
  | .q t b => t * many.fdiv b
def ScaleOk (ps : List (List Plc)) : Prop := ∃ B : Int, 0 < B ∧ B < 1048576 ∧ ∀ n ∈ nums ps, n.base ∣ B
abbrev Pt := Int × Int
def wholesM (many : Int) (ps : List (List Plc)) : List (List Pt) := ps.map fun p => p.map fun x => (wholeM many x.1, wholeM many x.2)
def wsD (ws : List (List Pt)) : D := .lst (ws.map fun w => .lst (w.map pairD))
def WsOk (ws : List (List Pt)) : Prop := 1 ≤ ws.length ∧ ws.length ≤ 4 ∧ ∀ w ∈ ws, 1 ≤ w.length ∧ w.length ≤ 100 ∧ ∀ x ∈ w, Sz 450 x.1 ∧ Sz 450 x.2
def firstMid (top base : Int) : Int := 0 - (32 * base - top).fdiv (64 * base)
def ysOf (ws : List (List Pt)) : List Int := ws.flatMap fun w => w.map (·.2)
def minL (xs : List Int) : Int := xs.foldl min (xs.headD 0)
def maxL (xs : List Int) : Int := xs.foldl max (xs.headD 0)
def firstRow (ws : List (List Pt)) (many : Int) : Int := firstMid (minL (ysOf ws)) many
def cntRows (ws : List (List Pt)) (many : Int) : Int := firstMid (maxL (ysOf ws)) many - firstRow ws many
/-! ### crossings of a row's line -/
def prevs (w : List Pt) : List Pt := w.getLast?.toList ++ w.dropLast
def edgesB (w : List Pt) : List (Pt × Pt) := (prevs w).zip w
def crossAt (line many : Int) (e : Pt × Pt) : Option Spn :=
  if (decide (line < e.1.2)) = (decide (line < e.2.2)) then none else
    let step := e.2.2 - e.1.2
    let way : Int := if 0 < step then 1 else -1
    some ((e.1.1 * step + (line - e.1.2) * (e.2.1 - e.1.1)) * way, step * way * many, way)
def lineM (many row : Int) : Int := (64 * row + 32) * many
def crossM (ws : List (List Pt)) (many row : Int) : List Spn := ws.flatMap fun w => (edgesB w).filterMap (crossAt (lineM many row) many)
/-! ### crossings by their x -/
def wholeR (rs : List Spn) : Int := (rs.map (·.2.1)).foldl lcmS 1
def hereM (W : Int) (r : Spn) : Int := r.1 * W.fdiv r.2.1
def insU (x : Int) : List Int → List Int
  | [] => [x]
  | y :: ys => if x < y then x :: y :: ys else if x = y then y :: ys else y :: insU x ys
def uniqS (xs : List Int) : List Int := xs.foldr insU []
abbrev Qd := Int × Int × Int × Int
def quadD (q : Qd) : D := .tup [.int q.1, .int q.2.1, .int q.2.2.1, .int q.2.2.2]
def inOrderM (rs : List Spn) : List Qd :=
  let W := wholeR rs
  (uniqS (rs.map (hereM W))).map fun h => (h, W, ((rs.filter fun r => decide (hereM W r = h)).map (·.2.2)).sum, ((rs.filter fun r => decide (hereM W r = h)).length : Int))
/-! ### stretches -/
structure StSt where
  found : List Spn
  begin : Option Int
  ups : Int
  count : Int
def withinM (odd : Bool) (ups count : Int) : Bool := if odd then decide (count.fmod 2 = 1) else !decide (ups = 0)
def stStep (odd : Bool) (s : StSt) (q : Qd) : StSt :=
  let ups := s.ups + q.2.2.1
  let count := s.count + q.2.2.2
  match s.begin, withinM odd ups count with
  | none, true => ⟨s.found, some q.1, ups, count⟩
  | some b, false => ⟨s.found ++ [(b, q.1, q.2.1)], none, ups, count⟩
  | _, _ => ⟨s.found, s.begin, ups, count⟩
def stretchQ (odd : Bool) (qs : List Qd) : List Spn := (qs.foldl (stStep odd) ⟨[], none, 0, 0⟩).found
def stretchM (ws : List (List Pt)) (many row : Int) (odd : Bool) : List Spn := stretchQ odd (inOrderM (crossM ws many row))
def filledM (drops : Bool) (s : Spn) : Pt :=
  let b := firstMid s.1 s.2.2
  let e := firstMid s.2.1 s.2.2
  if b = e ∧ drops = true then
    let b' := 0 - (0 - s.1 - s.2.1).fdiv (2 * 64 * s.2.2) - 1
    (b', b' + 1)
  else (b, e)
def putStep (row : Int) (acc : List Spn) (c : Pt) : List Spn :=
  if c.1 = c.2 then acc else
  match acc.getLast? with
  | some l => if c.1 ≤ l.2.2 then acc.dropLast ++ [(row, l.2.1, max l.2.2 c.2)] else acc ++ [(row, c.1, c.2)]
  | none => acc ++ [(row, c.1, c.2)]
def putM (row : Int) (cols : List Pt) : List Spn := (sortP cols).foldl (putStep row) []
def rowM (ws : List (List Pt)) (many : Int) (odd drops : Bool) (row : Int) : List Spn := putM row ((stretchM ws many row odd).map (filledM drops))
def cellsW (ws : List (List Pt)) (many : Int) (odd drops : Bool) : List Spn :=
  (List.range (cntRows ws many).toNat).flatMap fun k : Nat => rowM ws many odd drops (firstRow ws many + (k : Int))
def cellsM (ps : List (List Plc)) (odd drops : Bool) : List Spn := cellsW (wholesM (scaleM ps) ps) (scaleM ps) odd drops
def RowOk (ws : List (List Pt)) (many row : Int) : Prop := Sz 450 row ∧ Sz 8800 (wholeR (crossM ws many row))
structure CellsOk (ps : List (List Plc)) : Prop where
  ok : PartsOk ps
  sc : ScaleOk ps
  top : ∀ n ∈ nums ps, Sz 400 n.top
structure RowsOk (ps : List (List Plc)) : Prop where
  cnt : cntRows (wholesM (scaleM ps) ps) (scaleM ps) ≤ 400
  rows : ∀ row, firstRow (wholesM (scaleM ps) ps) (scaleM ps) ≤ row → row < firstRow (wholesM (scaleM ps) ps) (scaleM ps) + cntRows (wholesM (scaleM ps) ps) (scaleM ps) → RowOk (wholesM (scaleM ps) ps) (scaleM ps) row
def ruleS : Bool → Str
  | true => "odd"
  | false => "round"
/-! ### the promises -/
def sp_is_plain : Dsp := fun ds S Q => as1 ds fun d => match d with
  | .int _ => Q (.bl true) S
  | .tup _ => Q (.bl false) S
  | _ => False
theorem plain_int {i : Int} {S : Sto} {Q : QD} : sp_is_plain [.int i] S Q = Q (.bl true) S := rfl
theorem plain_tup {xs : List D} {S : Sto} {Q : QD} : sp_is_plain [.tup xs] S Q = Q (.bl false) S := rfl
def sp_common_part : Dsp := fun ds S Q => as2 ds fun d e => asI d fun i => asI e fun j => Q (.int (Int.gcd i j)) S
theorem common_ii {i j : Int} {S : Sto} {Q : QD} : sp_common_part [.int i, .int j] S Q = Q (.int (Int.gcd i j)) S := rfl
def sp_is_part : Dsp := fun ds S Q => ∃ t b : Int, ds = [.tup [.int t, .int b]] ∧ 1 < b ∧ Int.gcd t b = 1 ∧ Q (.bl true) S
def sp_is_number : Dsp := fun ds S Q => ∃ n : Num, ds = [numD n] ∧ n.ok ∧ Q (.bl true) S
def sp_is_list : Dsp := fun ds S Q => ∃ (l : Bool) (xs : List D) (lo hi : Int), ds = [mkD l xs, .int lo, .int hi] ∧ Q (.bl (decide (lo ≤ xs.length) && decide ((xs.length : Int) ≤ hi))) S
def sp_need_parts : Dsp := fun ds S Q => ∃ (o i : Bool) (ps : List (List Plc)), ds = [partsD o i ps] ∧ PartsOk ps ∧ Q .non S
def sp_base_of : Dsp := fun ds S Q => ∃ n : Num, ds = [numD n] ∧ Q (.int n.base) S
def sp_scale_of : Dsp := fun ds S Q => ∃ (o i : Bool) (ps : List (List Plc)), ds = [partsD o i ps] ∧ PartsOk ps ∧ ScaleOk ps ∧ Q (.int (scaleM ps)) S
def sp_whole_of : Dsp := fun ds S Q => ∃ (n : Num) (m : Int), ds = [numD n, .int m] ∧ n.ok ∧ 0 < m ∧ m < 1048576 ∧ n.base < 1048576 ∧ Sz 400 n.top ∧ Q (.int (wholeM m n)) S
def sp_in_wholes : Dsp := fun ds S Q => ∃ (o i : Bool) (ps : List (List Plc)), ds = [partsD o i ps] ∧ CellsOk ps ∧ Q (wsD (wholesM (scaleM ps) ps)) S
def sp_need_rule : Dsp := fun ds S Q => ∃ odd : Bool, ds = [.str (ruleS odd)] ∧ Q .non S
def sp_first_middle : Dsp := fun ds S Q => ∃ t b : Int, ds = [.int t, .int b] ∧ 0 < b ∧ Sz 8900 b ∧ Q (.int (firstMid t b)) S
def sp_crossings : Dsp := fun ds S Q => ∃ (ws : List (List Pt)) (many row : Int), ds = [wsD ws, .int many, .int row] ∧ WsOk ws ∧ 0 < many ∧ many < 1048576 ∧ Sz 450 row ∧ Q (.lst ((crossM ws many row).map spanD)) S
structure CrossOk (rs : List Spn) : Prop where
  len : rs.length ≤ 400
  pos : ∀ r ∈ rs, 0 < r.2.1
  base : ∀ r ∈ rs, Sz 500 r.2.1
  top : ∀ r ∈ rs, Sz 1000 r.1
  whole : Sz 8800 (wholeR rs)
def sp_in_order : Dsp := fun ds S Q => ∃ rs : List Spn, ds = [.lst (rs.map spanD)] ∧ CrossOk rs ∧ Q (.lst ((inOrderM rs).map quadD)) S
def sp_stretches : Dsp := fun ds S Q => ∃ (ws : List (List Pt)) (many row : Int) (odd : Bool), ds = [wsD ws, .int many, .int row, .str (ruleS odd)] ∧ WsOk ws ∧ 0 < many ∧ many < 1048576 ∧ RowOk ws many row ∧ Q (.lst ((stretchM ws many row odd).map spanD)) S
def sp_filled_by : Dsp := fun ds S Q => ∃ (s : Spn) (drops : Bool), ds = [spanD s, .bl drops] ∧ 0 < s.2.2 ∧ Sz 8800 s.2.2 ∧ Q (pairD (filledM drops s)) S
def sp_put_together : Dsp := fun ds S Q => ∃ (row : Int) (cs : List Pt), ds = [.int row, .lst (cs.map pairD)] ∧ cs.length ≤ 1000 ∧ Q (.lst ((putM row cs).map spanD)) S
def sp_rows_of : Dsp := fun ds S Q => ∃ (ws : List (List Pt)) (many : Int), ds = [wsD ws, .int many] ∧ WsOk ws ∧ 0 < many ∧ many < 1048576 ∧ Q (.tup [.int (firstRow ws many), .int (cntRows ws many)]) S
def sp_cells : Dsp := fun ds S Q => ∃ (o i : Bool) (ps : List (List Plc)) (odd drops : Bool), ds = [partsD o i ps, .str (ruleS odd), .bl drops] ∧ CellsOk ps ∧ RowsOk ps ∧ ∀ p, S p = none → Q (.ref p) (sup S p (.lst ((cellsM ps odd drops).map spanD)))
/-! ### numbers as they are told -/
def redM (t b : Int) : Num :=
  let g : Int := if b < 0 then 0 - (Int.gcd t b : Int) else Int.gcd t b
  if b.fdiv g = 1 then .i (t.fdiv g) else .q (t.fdiv g) (b.fdiv g)
def sp_reckoned : Dsp := fun ds S Q => ∃ t b : Int, ds = [.int t, .int b] ∧ 0 < b ∧ Sz 8900 b ∧ Q (numD (redM t b)) S
def sp_fraction : Dsp := fun ds S Q => ∃ t b : Int, ds = [.int t, .int b] ∧ 0 < b ∧ Sz 8900 b ∧ Q (numD (redM t b)) S
/-! ### how one cell is filled -/
def holds (c : Int) (drops : Bool) (s : Spn) : Bool := decide ((filledM drops s).1 ≤ c) && decide (c < (filledM drops s).2)
def tellD (w : Str) (s : Spn) : D := .tup [.str w, numD (redM s.1 s.2.2), numD (redM s.2.1 s.2.2)]
def cellOfM (ss : List Spn) (c : Int) (drops : Bool) : D := match ss.find? (holds c false) with
  | some s => tellD "in" s
  | none => match ss.find? (holds c drops) with
    | some s => tellD "drop" s
    | none => .tup [.str "out"]
def sp_cell_of : Dsp := fun ds S Q => ∃ (o i : Bool) (ps : List (List Plc)) (c row : Int) (odd drops : Bool), ds = [partsD o i ps, .int c, .int row, .str (ruleS odd), .bl drops] ∧ CellsOk ps ∧ RowOk (wholesM (scaleM ps) ps) (scaleM ps) row ∧
  Q (cellOfM (stretchM (wholesM (scaleM ps) ps) (scaleM ps) row odd) c drops) S
end KC

set_option maxHeartbeats 0
/-! what the defs do, as readings. -/
namespace KC
open PySem PySem.Spec PyProof.Rows L2 DL
def r_is_plain : TDS := sRet (dAndV (dCB rdIsi (dCons (dV 0) (dCons (dC (.ty "int")) (dNil)))) (dNotV (dCB rdIsi (dCons (dV 0) (dCons (dC (.ty "bool")) (dNil))))))
def r_common_part : TDS := sSeq (sPar 0 1 (dCons (dCB rdAbs (dCons (dV 0) (dNil))) (dCons (dCB rdAbs (dCons (dV 1) (dNil))) (dNil))))
  (sSeq (sWhile (dB (dOp rdNev (dV 1) (dC (.int 0)))) (sPar 0 1 (dCons (dV 1) (dCons (dOp rdMod (dV 0) (dV 1)) (dNil)))))
  (sRet (dV 0)))
def r_is_part : TDS := sSeq (sIf (dOr (dNot (dB (dCB rdIsi (dCons (dV 0) (dCons (dC (.ty "tuple")) (dNil)))))) (dB (dOp rdNev (dCB rdLen (dCons (dV 0) (dNil))) (dC (.int 2))))) (sRet (dC (.bl false))) (sNext))
  (sSeq (sAsg (dV 0) (gT 2 (gsCons (gN 1) (gsCons (gN 2) (gsNil)))))
  (sRet (dAndV (dCall sp_is_plain [] (dCons (dV 1) (dNil))) (dAndV (dCall sp_is_plain [] (dCons (dV 2) (dNil))) (dAndV (dOp rdGt (dV 2) (dC (.int 1))) (dOp rdEqv (dCall sp_common_part [] (dCons (dV 1) (dCons (dV 2) (dNil)))) (dC (.int 1))))))))
def r_is_number : TDS := sRet (dOrV (dCall sp_is_plain [] (dCons (dV 0) (dNil))) (dCall sp_is_part [] (dCons (dV 0) (dNil))))
def r_reckoned : TDS := sSeq (sAsg (dCall sp_common_part [] (dCons (dV 0) (dCons (dV 1) (dNil)))) (gN 2))
  (sSeq (sIf (dB (dOp rdLt (dV 1) (dC (.int 0)))) (sAsg (dOp rdSub (dC (.int 0)) (dV 2)) (gN 2)) (sNext))
  (sSeq (sPar 0 1 (dCons (dOp rdDiv (dV 0) (dV 2)) (dCons (dOp rdDiv (dV 1) (dV 2)) (dNil))))
  (sRet (dIf (dB (dOp rdEqv (dV 1) (dC (.int 1)))) (dV 0) (dTup (dCons (dV 0) (dCons (dV 1) (dNil))))))))
def r_fraction : TDS := sSeq (sFor (dSeq (dTup (dCons (dV 0) (dCons (dV 1) (dNil))))) (gN 2) (sIf (dNot (dB (dCall sp_is_plain [] (dCons (dV 2) (dNil))))) (sNever) (sNext)))
  (sSeq (sIf (dB (dOp rdEqv (dV 1) (dC (.int 0)))) (sNever) (sNext))
  (sRet (dCall sp_reckoned [] (dCons (dV 0) (dCons (dV 1) (dNil))))))
def r_is_list : TDS := sRet (dAndV (dCB rdIsi (dCons (dV 0) (dCons (dTup (dCons (dC (.ty "list")) (dCons (dC (.ty "tuple")) (dNil)))) (dNil)))) (dChain rdLe rdLe (dV 1) (dCB rdLen (dCons (dV 0) (dNil))) (dV 2)))
def r_need_parts : TDS := sSeq (sIf (dNot (dB (dCall sp_is_list [] (dCons (dV 0) (dCons (dC (.int 1)) (dCons (dC (.int 4)) (dNil))))))) (sNever) (sNext))
  (sFor (dSeq (dV 0)) (gN 1) (sSeq (sIf (dNot (dB (dCall sp_is_list [] (dCons (dV 1) (dCons (dC (.int 1)) (dCons (dC (.int 100)) (dNil))))))) (sNever) (sNext))
  (sFor (dSeq (dV 1)) (gN 2) (sIf (dOr (dNot (dB (dCB rdIsi (dCons (dV 2) (dCons (dC (.ty "tuple")) (dNil)))))) (dOr (dB (dOp rdNev (dCB rdLen (dCons (dV 2) (dNil))) (dC (.int 2)))) (dNot (dB (dCB rdAll (dCons (dLc (dSeq (dV 2)) (gN 3) (dYes) (dCall sp_is_number [] (dCons (dV 3) (dNil))) [3]) (dNil))))))) (sNever) (sNext)))))
def r_base_of : TDS := sRet (dIf (dB (dCB rdIsi (dCons (dV 0) (dCons (dC (.ty "tuple")) (dNil))))) (dOp rdIx (dV 0) (dC (.int 1))) (dC (.int 1)))
def r_scale_of : TDS := sSeq (sAsg (dC (.int 1)) (gN 1))
  (sSeq (sFor (dSeq (dLcN (dSeq (dV 0)) (gN 3) (dYes) (dbFor (dSeq (dV 3)) (gN 4) (dYes) (dbFor (dSeq (dV 4)) (gN 5) (dYes) (dbLast (dCall sp_base_of [] (dCons (dV 5) (dNil)))) [5]) [4, 5]) [3, 4, 5])) (gN 2) (sAsg (dOp rdDiv (dOp rdMul (dV 1) (dV 2)) (dCall sp_common_part [] (dCons (dV 1) (dCons (dV 2) (dNil))))) (gN 1)))
  (sRet (dV 1)))
def r_in_wholes : TDS := sSeq (sAsg (dCall sp_scale_of [] (dCons (dV 0) (dNil))) (gN 1))
  (sSeq (sAsg (dCell (dNil)) (gN 2))
  (sSeq (sFor (dSeq (dV 0)) (gN 3) (sDrop (dAppend (dV 2) (dLc (dSeq (dV 3)) (gN 4) (dYes) (dCB rdTuple (dCons (dLc (dSeq (dV 4)) (gN 5) (dYes) (dCall sp_whole_of [] (dCons (dV 5) (dCons (dV 1) (dNil)))) [5]) (dNil))) [4]))))
  (sRet (dFrz (dV 2)))))
def r_whole_of : TDS := sSeq (sIf (dB (dCB rdIsi (dCons (dV 0) (dCons (dC (.ty "tuple")) (dNil))))) (sRet (dOp rdMul (dOp rdIx (dV 0) (dC (.int 0))) (dOp rdDiv (dV 1) (dOp rdIx (dV 0) (dC (.int 1)))))) (sNext))
  (sRet (dOp rdMul (dV 0) (dV 1)))
def r_need_rule : TDS := sIf (dOr (dNot (dB (dCB rdIsi (dCons (dV 0) (dCons (dC (.ty "str")) (dNil)))))) (dB (dOp (rdIn' true) (dV 0) (dC (.rot [.str "round", .str "odd"]))))) (sNever) (sNext)
def r_first_middle : TDS := sRet (dOp rdSub (dC (.int 0)) (dOp rdDiv (dOp rdSub (dOp rdMul (dC (.int 32)) (dV 1)) (dV 0)) (dOp rdMul (dC (.int 64)) (dV 1))))
def r_crossings : TDS := sSeq (sAsg (dOp rdMul (dOp rdAdd (dOp rdMul (dC (.int 64)) (dV 2)) (dC (.int 32))) (dV 1)) (gN 3))
  (sSeq (sAsg (dCell (dNil)) (gN 4))
  (sSeq (sFor (dSeq (dV 0)) (gN 5) (sFor (dEnum (dCons (dV 5) (dNil))) (gT 2 (gsCons (gN 6) (gsCons (gT 2 (gsCons (gN 7) (gsCons (gN 8) (gsNil)))) (gsNil)))) (sSeq (sAsg (dOp rdIx (dV 5) (dOp rdSub (dV 6) (dC (.int 1)))) (gT 2 (gsCons (gN 9) (gsCons (gN 10) (gsNil)))))
  (sIf (dB (dOp rdNev (dOp rdGt (dV 10) (dV 3)) (dOp rdGt (dV 8) (dV 3)))) (sSeq (sAsg (dOp rdSub (dV 8) (dV 10)) (gN 11))
  (sSeq (sAsg (dOp rdAdd (dOp rdMul (dV 9) (dV 11)) (dOp rdMul (dOp rdSub (dV 3) (dV 10)) (dOp rdSub (dV 7) (dV 9)))) (gN 12))
  (sSeq (sAsg (dIf (dB (dOp rdGt (dV 11) (dC (.int 0)))) (dC (.int 1)) (dNeg (dC (.int 1)))) (gN 13))
  (sDrop (dAppend (dV 4) (dTup (dCons (dOp rdMul (dV 12) (dV 13)) (dCons (dOp rdMul (dOp rdMul (dV 11) (dV 13)) (dV 1)) (dCons (dV 13) (dNil)))))))))) (sNext)))))
  (sRet (dFrz (dV 4)))))
def r_in_order : TDS := sSeq (sAsg (dC (.int 1)) (gN 1))
  (sSeq (sFor (dSeq (dV 0)) (gT 3 (gsCons (gN 2) (gsCons (gN 3) (gsCons (gN 4) (gsNil))))) (sAsg (dOp rdDiv (dOp rdMul (dV 1) (dV 3)) (dCall sp_common_part [] (dCons (dV 1) (dCons (dV 3) (dNil))))) (gN 1)))
  (sSeq (sAsg (dDct) (gN 5))
  (sSeq (sFor (dSeq (dV 0)) (gT 3 (gsCons (gN 2) (gsCons (gN 3) (gsCons (gN 4) (gsNil))))) (sSeq (sAsg (dOp rdMul (dV 2) (dOp rdDiv (dV 1) (dV 3))) (gN 6))
  (sSeq (sAsg (dGet2 (dV 5) (dV 6) (dTup (dCons (dC (.int 0)) (dCons (dC (.int 0)) (dNil))))) (gT 2 (gsCons (gN 7) (gsCons (gN 8) (gsNil)))))
  (sPut (dV 5) (dV 6) (dTup (dCons (dOp rdAdd (dV 7) (dV 4)) (dCons (dOp rdAdd (dV 8) (dC (.int 1))) (dNil))))))))
  (sRet (dLc (dSeq (dSortI (dV 5))) (gT 2 (gsCons (gN 6) (gsCons (gT 2 (gsCons (gN 7) (gsCons (gN 8) (gsNil)))) (gsNil)))) (dYes) (dTup (dCons (dV 6) (dCons (dV 1) (dCons (dV 7) (dCons (dV 8) (dNil)))))) [6, 7, 8])))))
def r_stretches : TDS := sSeq (sAsg (dCell (dNil)) (gN 4))
  (sSeq (sAsg (dTup (dCons (dC .non) (dCons (dC (.int 0)) (dCons (dC (.int 0)) (dNil))))) (gT 3 (gsCons (gN 5) (gsCons (gN 6) (gsCons (gN 7) (gsNil))))))
  (sSeq (sFor (dSeq (dCall sp_in_order [] (dCons (dCall sp_crossings [] (dCons (dV 0) (dCons (dV 1) (dCons (dV 2) (dNil))))) (dNil)))) (gT 4 (gsCons (gN 8) (gsCons (gN 9) (gsCons (gN 10) (gsCons (gN 11) (gsNil)))))) (sSeq (sAug 6 (dV 10) (rdI0 fun i j => .int (i + j)))
  (sSeq (sAug 7 (dV 11) (rdI0 fun i j => .int (i + j)))
  (sSeq (sAsg (dIf (dB (dOp rdEqv (dV 3) (dC (.str "round")))) (dOp rdNev (dV 6) (dC (.int 0))) (dOp rdEqv (dOp rdMod (dV 7) (dC (.int 2))) (dC (.int 1)))) (gN 12))
  (sIf (dAnd (dB (dV 12)) (dB (dIsN (dV 5)))) (sAsg (dV 8) (gN 5)) (sIf (dAnd (dNot (dB (dV 12))) (dB (dNotN (dV 5)))) (sSeq (sDrop (dAppend (dV 4) (dTup (dCons (dV 5) (dCons (dV 8) (dCons (dV 9) (dNil)))))))
  (sAsg (dC .non) (gN 5))) (sNext)))))))
  (sRet (dFrz (dV 4)))))
def r_filled_by : TDS := sSeq (sAsg (dV 0) (gT 3 (gsCons (gN 2) (gsCons (gN 3) (gsCons (gN 4) (gsNil))))))
  (sSeq (sPar 5 6 (dCons (dCall sp_first_middle [] (dCons (dV 2) (dCons (dV 4) (dNil)))) (dCons (dCall sp_first_middle [] (dCons (dV 3) (dCons (dV 4) (dNil)))) (dNil))))
  (sSeq (sIf (dAnd (dB (dOp rdEqv (dV 5) (dV 6))) (dB (dV 1))) (sSeq (sAsg (dOp rdSub (dOp rdSub (dC (.int 0)) (dOp rdDiv (dOp rdSub (dOp rdSub (dC (.int 0)) (dV 2)) (dV 3)) (dOp rdMul (dOp rdMul (dC (.int 2)) (dC (.int 64))) (dV 4)))) (dC (.int 1))) (gN 5))
  (sAsg (dOp rdAdd (dV 5) (dC (.int 1))) (gN 6))) (sNext))
  (sRet (dTup (dCons (dV 5) (dCons (dV 6) (dNil)))))))
def r_put_together : TDS := sSeq (sAsg (dCell (dNil)) (gN 2))
  (sSeq (sFor (dSeq (dCB rdSorted (dCons (dV 1) (dNil)))) (gT 2 (gsCons (gN 3) (gsCons (gN 4) (gsNil)))) (sSeq (sIf (dB (dOp rdEqv (dV 3) (dV 4))) (sCont) (sNext))
  (sIf (dAnd (dB (dOp rdNev (dV 2) (dLst (dNil)))) (dB (dOp rdLe (dV 3) (dOp rdIx (dOp rdIx (dV 2) (dNeg (dC (.int 1)))) (dC (.int 2)))))) (sAsg (dTup (dCons (dV 0) (dCons (dOp rdIx (dOp rdIx (dV 2) (dNeg (dC (.int 1)))) (dC (.int 1))) (dCons (dCB rdMax2 (dCons (dOp rdIx (dOp rdIx (dV 2) (dNeg (dC (.int 1)))) (dC (.int 2))) (dCons (dV 4) (dNil)))) (dNil))))) (gSet (dV 2) (dNeg (dC (.int 1))))) (sDrop (dAppend (dV 2) (dTup (dCons (dV 0) (dCons (dV 3) (dCons (dV 4) (dNil))))))))))
  (sRet (dFrz (dV 2))))
def r_rows_of : TDS := sSeq (sAsg (dLcN (dSeq (dV 0)) (gN 4) (dYes) (dbFor (dSeq (dV 4)) (gT 2 (gsCons (gN 5) (gsCons (gN 6) (gsNil)))) (dYes) (dbLast (dV 6)) [5, 6]) [4, 5, 6]) (gN 2))
  (sSeq (sAsg (dCall sp_first_middle [] (dCons (dCB rdMinL (dCons (dV 2) (dNil))) (dCons (dV 1) (dNil)))) (gN 3))
  (sRet (dTup (dCons (dV 3) (dCons (dOp rdSub (dCall sp_first_middle [] (dCons (dCB rdMaxL (dCons (dV 2) (dNil))) (dCons (dV 1) (dNil)))) (dV 3)) (dNil))))))
def r_cells : TDS := sSeq (sDrop (dCall sp_need_parts [] (dCons (dV 0) (dNil))))
  (sSeq (sDrop (dCall sp_need_rule [] (dCons (dV 1) (dNil))))
  (sSeq (sAsg (dCall sp_scale_of [] (dCons (dV 0) (dNil))) (gN 3))
  (sSeq (sAsg (dCall sp_in_wholes [] (dCons (dV 0) (dNil))) (gN 4))
  (sSeq (sAsg (dCall sp_rows_of [] (dCons (dV 4) (dCons (dV 3) (dNil)))) (gT 2 (gsCons (gN 5) (gsCons (gN 6) (gsNil)))))
  (sSeq (sIf (dB (dOp rdGt (dV 6) (dC (.int 400)))) (sNever) (sNext))
  (sSeq (sAsg (dCell (dNil)) (gN 7))
  (sSeq (sFor (dRng2B (dCons (dV 5) (dCons (dOp rdAdd (dV 5) (dV 6)) (dNil)))) (gN 8) (sSeq (sAsg (dLc (dSeq (dCall sp_stretches [] (dCons (dV 4) (dCons (dV 3) (dCons (dV 8) (dCons (dV 1) (dNil))))))) (gN 10) (dYes) (dCall sp_filled_by [] (dCons (dV 10) (dCons (dV 2) (dNil)))) [10]) (gN 9))
  (sDrop (dExtend (dV 7) (dCall sp_put_together [] (dCons (dV 8) (dCons (dV 9) (dNil))))))))
  (sRet (dV 7)))))))))
def r_cell_of : TDS := sSeq (sDrop (dCall sp_need_parts [] (dCons (dV 0) (dNil))))
  (sSeq (sFor (dSeq (dTup (dCons (dV 1) (dCons (dV 2) (dNil))))) (gN 5) (sIf (dNot (dB (dCall sp_is_plain [] (dCons (dV 5) (dNil))))) (sNever) (sNext)))
  (sSeq (sDrop (dCall sp_need_rule [] (dCons (dV 3) (dNil))))
  (sSeq (sAsg (dCall sp_stretches [] (dCons (dCall sp_in_wholes [] (dCons (dV 0) (dNil))) (dCons (dCall sp_scale_of [] (dCons (dV 0) (dNil))) (dCons (dV 2) (dCons (dV 3) (dNil)))))) (gN 6))
  (sSeq (sFor (dSeq (dTup (dCons (dTup (dCons (dC (.str "in")) (dCons (dC (.bl false)) (dNil)))) (dCons (dTup (dCons (dC (.str "drop")) (dCons (dV 4) (dNil)))) (dNil))))) (gT 2 (gsCons (gN 7) (gsCons (gN 8) (gsNil)))) (sFor (dSeq (dV 6)) (gT 3 (gsCons (gN 9) (gsCons (gN 10) (gsCons (gN 11) (gsNil))))) (sSeq (sAsg (dCall sp_filled_by [] (dCons (dTup (dCons (dV 9) (dCons (dV 10) (dCons (dV 11) (dNil))))) (dCons (dV 8) (dNil)))) (gT 2 (gsCons (gN 12) (gsCons (gN 13) (gsNil)))))
  (sIf (dB (dChain rdLe rdLt (dV 12) (dV 1) (dV 13))) (sRet (dTup (dCons (dV 7) (dCons (dCall sp_fraction [] (dCons (dV 9) (dCons (dV 11) (dNil)))) (dCons (dCall sp_fraction [] (dCons (dV 10) (dCons (dV 11) (dNil)))) (dNil)))))) (sNext)))))
  (sRet (dTup (dCons (dC (.str "out")) (dNil))))))))
end KC

set_option maxHeartbeats 1000000
namespace KC
open PySem PySem.Spec PyProof.Rows L2 DL 
local macro_rules | `(tactic| walk_at "vc") => `(tactic| simp only [dV, dC, dOp, dB, dAnd, dOr, dNot, dAndV, dOrV, dNotV, dIf, dNil, dCons, dTup, dLst, dCell, dFrz, sNext, sSeq, sBreak, sCont, sDrop, sRet, sRetN, sIf, sNever, gN, gsNil, gsCons, gT, sAsg, sPar, sPar3, sAug, withV, withO_some,
  asB_bl, asI_int, asS_str, asT_tup, asC_cons, asN_nil, as1_one, as2_two, as3_three, refD_ref, startD, dCall, dCallK, dCB, rdI0, rdAdd_ii, rdAdd_ss, rdAdd_ll, rdSub_ii, rdMul_ii, rdDiv_ii, rdMod_ii, rdPow_ii, dNeg, dChain, rdLt_ii, rdGt_ii, rdLe_ii, rdGe_ii, rdEqv_ii, rdNev_ii, dIsN, dNotN, isNon_non, isNon_int, rdIsi,
  tyD_non, tyD_bl, tyD_int, tyD_str, tyD_lst, tyD_rol, tyD_tup, tyD_rot, clsOf_ty, clsOf_tup, tysOf_nil, tysOf_cons, rdLen_str, rdLen_lst, rdLen_rol, rdLen_tup, seqOf_lst, seqOf_rol, seqOf_tup, seqOf_rot, rdIx_tup, rdIx_lst, rdIx_rol, rdIx_str, atI,
  k_int_int, k_int_bool, k_int_str, k_int_tuple, k_bool_int, k_bool_bool, k_str_str, k_str_int, k_str_tuple, k_tup_int, k_tup_str, k_tup_tup, k_lst_tup, k_lst_seq, k_tup_seq, rdAbs, sWhile, rdMax2_ii, rdMin2_ii, decide_true, decide_false, decide_eq_true_eq, rdInt_int, rdInt_bl, rdInt_str, rdMulS_si, rdList, rdListC, rdTuple, tupOf_lst, tupOf_tup, tupOf_ref, dRng1, dRng2, dRng2B, dRngD, dSeq, dRevR2, dZip, dSlA, rdSlA,
  isRot_tup, isRot_lst, isRot_ref, isTup_tup, isTup_lst, isTup_rol, isTup_ref, oSo, oNo, gSet, dYes, rdGe_pp,
  List.map_cons, List.map_nil, List.cons_append, List.nil_append, List.append_nil, List.length_cons, List.length_nil, List.replicate_succ, List.replicate_zero, Nat.reduceSub, Nat.reduceAdd, List.getElem?_cons_zero, List.getElem?_cons_succ, List.set_cons_zero, List.set_cons_succ, Option.map_some, Option.map_none,
  plain_int, plain_tup, common_ii, seqOf_mk, rdNev_bb, rdEqv_bb, if_true, if_false, Bool.not_true, Bool.not_false, reduceIte, Bool.false_eq_true, dwipe, spanD, true_and, and_true, ix30, ix31, ix32, ix20, ix21, ix40, ix41, ix42, ix43, Option.bind_some, Option.bind_none, sl0, sl1, sl2, sl3, sl4, sl5, sl6, sl7, sl8, sl9, Nat.zero_add])
theorem vc_is_plain (ds : List D) (S : Sto) (Q : QD) (h : sp_is_plain ds S Q) : r_is_plain { nx := fun _ S' => Q .non S', rt := Q } (startD 1 ds) S := by
  obtain ⟨d, rfl, h⟩ := as1_iff.mp h
  unfold r_is_plain
  cases d <;> first | exact h.elim | (walk_at "vc"; exact h)
theorem gcd_step {a b : Int} (ha : 0 ≤ a) (hb : 0 ≤ b) : Int.gcd b (a.fmod b) = Int.gcd a b := by
  obtain ⟨m, rfl⟩ := Int.eq_ofNat_of_zero_le ha
  obtain ⟨n, rfl⟩ := Int.eq_ofNat_of_zero_le hb
  rw [Int.fmod_eq_emod_of_nonneg _ hb]
  have : (m : Int) % (n : Int) = ((m % n : Nat) : Int) := by simp
  rw [this]
  show Nat.gcd n (m % n) = Nat.gcd m n
  rw [Nat.gcd_comm m n, Nat.gcd_rec n m, Nat.gcd_comm]
theorem vc_common_part (ds : List D) (S : Sto) (Q : QD) (h : sp_common_part ds S Q) : r_common_part { nx := fun _ S' => Q .non S', rt := Q } (startD 2 ds) S := by
  obtain ⟨d, e, rfl, i, rfl, j, rfl, h⟩ := by simpa only [sp_common_part, as2_iff, asI_iff] using h
  unfold r_common_part
  walk_at "vc"
  refine ⟨fun m ρ S' => ∃ a b : Int, S' = S ∧ ρ = [some (.int a), some (.int b)] ∧ 0 ≤ a ∧ 0 ≤ b ∧ m = b.toNat ∧ Int.gcd a b = Int.gcd i j, ⟨_, _, _, rfl, rfl, ?_, ?_, rfl, ?_⟩, ?_⟩
  · split <;> omega
  · split <;> omega
  · have h1 : ∀ x : Int, (if x < 0 then -x else x) = x.natAbs := fun x => by split <;> omega
    rw [h1, h1]
    simp [Int.gcd]
  · rintro m ρ S' ⟨a, b, rfl, rfl, ha, hb, rfl, hg⟩
    walk_at "vc"
    by_cases e : b = 0
    · subst e
      simp only [decide_true, Bool.not_true, Bool.false_eq_true, if_false]
      have : (Int.gcd i j : Int) = a := by rw [← hg]; simp [Int.gcd]; omega
      rw [← this]
      exact h
    · simp only [e, decide_false, Bool.not_false, if_true]
      have hm := Int.fmod_nonneg ha hb
      have hl : a.fmod b < b := by
        rw [Int.fmod_eq_emod_of_nonneg _ hb]
        exact Int.emod_lt_of_pos _ (by omega)
      exact ⟨by simpa using e, _, by omega, b, a.fmod b, rfl, hb, hm, rfl, by rw [gcd_step ha hb, hg]⟩
theorem vc_is_part (ds : List D) (S : Sto) (Q : QD) (h : sp_is_part ds S Q) : r_is_part { nx := fun _ S' => Q .non S', rt := Q } (startD 3 ds) S := by
  obtain ⟨t, b, rfl, h1, h2, h⟩ := h
  unfold r_is_part
  walk_at "vc"
  simp [h1, h2]
  exact h
theorem vc_is_number (ds : List D) (S : Sto) (Q : QD) (h : sp_is_number ds S Q) : r_is_number { nx := fun _ S' => Q .non S', rt := Q } (startD 1 ds) S := by
  obtain ⟨n, rfl, h1, h⟩ := h
  unfold r_is_number
  cases n with
  | i n =>
    walk_at "vc"
    simp only [numD]
    walk_at "vc"
    exact h
  | q t b =>
    walk_at "vc"
    simp only [numD]
    walk_at "vc"
    exact ⟨t, b, rfl, h1.1, h1.2, h⟩
theorem vc_is_list (ds : List D) (S : Sto) (Q : QD) (h : sp_is_list ds S Q) : r_is_list { nx := fun _ S' => Q .non S', rt := Q } (startD 3 ds) S := by
  obtain ⟨l, xs, lo, hi, rfl, h⟩ := h
  unfold r_is_list
  cases l <;> simp only [mkD] <;> walk_at "vc" <;> (by_cases c : lo ≤ (xs.length : Int)) <;> simp only [c, if_true, if_false, decide_true, decide_false, Bool.true_and, Bool.false_and] at h ⊢ <;> exact h
theorem vc_base_of (ds : List D) (S : Sto) (Q : QD) (h : sp_base_of ds S Q) : r_base_of { nx := fun _ S' => Q .non S', rt := Q } (startD 1 ds) S := by
  obtain ⟨n, rfl, h⟩ := h
  unfold r_base_of
  cases n <;> simp only [numD, Num.base] at h ⊢ <;> walk_at "vc" <;> exact h
theorem vc_whole_of (ds : List D) (S : Sto) (Q : QD) (h : sp_whole_of ds S Q) : r_whole_of { nx := fun _ S' => Q .non S', rt := Q } (startD 2 ds) S := by
  obtain ⟨n, m, rfl, h1, h2, h3, h4, h5, h⟩ := h
  unfold r_whole_of
  cases n with
  | i n =>
    simp only [numD, wholeM, Num.top, Num.base] at *
    walk_at "vc"
    exact ⟨top_mul h5 (top_small (k := 20) (by omega) h3 (by omega)) (by omega) (by omega) (by omega), h⟩
  | q t b =>
    simp only [numD, wholeM, Num.top, Num.base, Num.ok] at *
    walk_at "vc"
    refine ⟨cdiv_30 (by omega) (by omega), top_mul h5 (b := 20) ?_ (by omega) (by omega) (by omega), h⟩
    have q1 : 0 ≤ m.fdiv b := Int.fdiv_nonneg (by omega) (by omega)
    have q2 : m.fdiv b ≤ m := by
      rw [Int.fdiv_eq_ediv_of_nonneg _ (by omega)]
      exact Int.ediv_le_self _ (by omega)
    exact top_small (by omega) (by omega) (by omega)
theorem rdInR {z : Str} {zs : List Str} {S : Sto} {Q : QD} (h1 : PyData.strOk z = true) (h2 : ∀ y ∈ zs, PyData.strOk y = true) (q : Q (.bl (!decide (z ∈ zs))) S) : rdIn' true (.str z) (.rot (zs.map D.str)) S Q := by
  refine ⟨by simp [fit, h1], rfl, ?_⟩
  show withO (some (zs.map D.str)) _
  simp only [withO_some]
  refine ⟨?_, ?_⟩
  · rw [fits_iff]
    intro x hx
    obtain ⟨y, hy, rfl⟩ := List.mem_map.mp hx
    simp [fit, h2 y hy]
  · simp only [if_true]
    have : ((zs.map D.str).any fun y => PyData.eqv y.pd (der S (.str z)).pd) = decide (z ∈ zs) := by
      rw [Bool.eq_iff_iff, List.any_eq_true, decide_eq_true_eq]
      simp only [List.mem_map, der_str, D.pd]
      constructor
      · rintro ⟨x, ⟨y, hy, rfl⟩, e⟩
        simp only [D.pd, ev_str, decide_eq_true_eq] at e
        exact e ▸ hy
      · intro hz
        exact ⟨_, ⟨z, hz, rfl⟩, by simp only [D.pd, ev_str, decide_true]⟩
    rw [this]
    exact q
theorem vc_need_rule (ds : List D) (S : Sto) (Q : QD) (h : sp_need_rule ds S Q) : r_need_rule { nx := fun _ S' => Q .non S', rt := Q } (startD 1 ds) S := by
  obtain ⟨odd, rfl, h⟩ := h
  unfold r_need_rule
  cases odd <;> simp only [ruleS] <;> walk_at "vc" <;> refine rdInR (zs := ["round", "odd"]) (by decide +kernel) (by decide +kernel) ?_ <;> walk_at "vc" <;> simp <;> exact h
theorem vc_first_middle (ds : List D) (S : Sto) (Q : QD) (h : sp_first_middle ds S Q) : r_first_middle { nx := fun _ S' => Q .non S', rt := Q } (startD 2 ds) S := by
  obtain ⟨t, b, rfl, h1, h2, h⟩ := h
  unfold r_first_middle
  walk_at "vc"
  refine ⟨top_mul (a := 20) (top_small (by omega) (by omega) (by omega)) h2 (by omega) (by omega) (by omega), top_mul (a := 20) (top_small (by omega) (by omega) (by omega)) h2 (by omega) (by omega) (by omega), ?_, h⟩
  refine cdiv_w (k := 8910) (by omega) ?_ (by omega) (by omega)
  unfold Sz at *
  rw [Int.natAbs_mul]
  have e : (2 : Nat) ^ 8910 = 1024 * 2 ^ 8900 := by rw [show (8910 : Nat) = 10 + 8900 by rfl, Nat.pow_add]
  rw [e]
  generalize (2 : Nat) ^ 8900 = z at *
  have : (64 : Int).natAbs = 64 := rfl
  rw [this]
  omega
theorem vc_need_parts (ds : List D) (S : Sto) (Q : QD) (h : sp_need_parts ds S Q) : r_need_parts { nx := fun _ S' => Q .non S', rt := Q } (startD 4 ds) S := by
  obtain ⟨o, i, ps, rfl, ⟨h1, h2, h3⟩, h⟩ := h
  unfold r_need_parts
  walk_at "vc"
  refine ⟨o, _, 1, 4, rfl, ?_⟩
  have e1 : (decide ((1 : Int) ≤ (ps.map (partD i)).length) && decide (((ps.map (partD i)).length : Int) ≤ 4)) = true := by simp; omega
  rw [e1]
  walk_at "vc"
  refine sForS_of (partsD o i ps) ps (partD i) S (fun _ ρ S' => S' = S ∧ ∃ a b c, ρ = [some (partsD o i ps), a, b, c]) (fun R h => ?_) seqOf_mk ⟨rfl, _, _, _, rfl⟩ (fun _ _ _ _ => seqOf_mk) ?_ ?_
  · walk_at "vc"
    exact h
  · rintro k p ρ S' hp ⟨rfl, a, b, c, rfl⟩
    obtain ⟨g1, g2, g3⟩ := h3 p (List.mem_of_getElem? hp)
    walk_at "vc"
    refine ⟨i, _, 1, 100, rfl, ?_⟩
    have e1 : (decide ((1 : Int) ≤ (p.map plcD).length) && decide (((p.map plcD).length : Int) ≤ 100)) = true := by simp; omega
    rw [e1]
    walk_at "vc"
    refine sForS_of (partD i p) p plcD S' (fun _ ρ S'' => S'' = S' ∧ ∃ b c, ρ = [some (partsD o i ps), some (partD i p), b, c]) (fun R h => ?_) seqOf_mk ⟨rfl, _, _, rfl⟩ (fun _ _ _ _ => seqOf_mk) ?_ ?_
    · walk_at "vc"
      exact h
    · rintro k x ρ S' hx ⟨rfl, b, c, rfl⟩
      obtain ⟨u1, u2⟩ := g3 x (List.mem_of_getElem? hx)
      walk_at "vc"
      simp only [plcD]
      walk_at "vc"
      refine dLc_of (.tup [numD x.1, numD x.2]) [x.1, x.2] numD (fun _ => some (.bl true)) (fun R h => by exact h) rfl (le_line (by simp)) (fun n hn p zs Y N hp hy => ?_) ?_
      · walk_at "vc"
        refine ⟨n, rfl, ?_, hy⟩
        simp only [List.mem_cons, List.not_mem_nil, or_false] at hn
        rcases hn with rfl | rfl <;> assumption
      · refine rdAll_of (bs := [true, true]) rfl ?_
        walk_at "vc"
        exact ⟨_, _, rfl⟩
    · rintro ρ S'' ⟨rfl, b, c, rfl⟩
      exact ⟨rfl, _, _, _, rfl⟩
  · rintro ρ S' ⟨rfl, a, b, c, rfl⟩
    exact h
theorem gcd_top {k : Nat} {t b : Int} (hb : 0 < b) (h : Sz k b) : 0 < (Int.gcd t b : Int) ∧ Sz k (Int.gcd t b : Int) := by
  have h1 : 0 < Int.gcd t b := Int.gcd_pos_of_ne_zero_right _ (by omega)
  have h2 : Int.gcd t b ≤ b.natAbs := Nat.le_of_dvd (by omega) (Int.gcd_dvd_natAbs_right ..)
  exact ⟨by omega, by unfold Sz at *; omega⟩
theorem vc_reckoned (ds : List D) (S : Sto) (Q : QD) (h : sp_reckoned ds S Q) : r_reckoned { nx := fun _ S' => Q .non S', rt := Q } (startD 3 ds) S := by
  obtain ⟨t, b, rfl, hb, ht, h⟩ := h
  unfold r_reckoned
  walk_at "vc"
  obtain ⟨g1, g2⟩ := gcd_top (t := t) hb ht
  have c1 := fun x => cdiv_w (i := x) g1 g2 (by omega) (by omega)
  rw [if_neg (by omega)]
  refine ⟨c1 _, c1 _, ?_⟩
  unfold redM at h
  rw [if_neg (show ¬ b < 0 by omega)] at h
  dsimp only at h
  split at h <;> rename_i c
  · rw [if_pos c]
    exact h
  · rw [if_neg c]
    exact h
theorem vc_fraction (ds : List D) (S : Sto) (Q : QD) (h : sp_fraction ds S Q) : r_fraction { nx := fun _ S' => Q .non S', rt := Q } (startD 3 ds) S := by
  obtain ⟨t, b, rfl, hb, ht, h⟩ := h
  unfold r_fraction
  walk_at "vc"
  refine sForS_of (.tup [.int t, .int b]) [t, b] D.int S (fun _ ρ S' => S' = S ∧ ∃ a, ρ = [some (.int t), some (.int b), a]) (fun R h => ?_) rfl ⟨rfl, _, rfl⟩ (fun _ _ _ _ => rfl) ?_ ?_
  · walk_at "vc"
    exact h
  · rintro k x ρ S' hx ⟨rfl, a, rfl⟩
    walk_at "vc"
    exact ⟨_, rfl⟩
  · rintro ρ S' ⟨rfl, a, rfl⟩
    walk_at "vc"
    rw [if_neg (by omega)]
    exact ⟨t, b, rfl, hb, ht, h⟩

end KC

set_option maxHeartbeats 1000000
namespace KC
open PySem PySem.Spec PyProof.Rows L2 DL 
local macro_rules | `(tactic| walk_at "vc") => `(tactic| simp only [dV, dC, dOp, dB, dAnd, dOr, dNot, dAndV, dOrV, dNotV, dIf, dNil, dCons, dTup, dLst, dCell, dFrz, sNext, sSeq, sBreak, sCont, sDrop, sRet, sRetN, sIf, sNever, gN, gsNil, gsCons, gT, sAsg, sPar, sPar3, sAug, withV, withO_some,
  asB_bl, asI_int, asS_str, asT_tup, asC_cons, asN_nil, as1_one, as2_two, as3_three, refD_ref, startD, dCall, dCallK, dCB, rdI0, rdAdd_ii, rdAdd_ss, rdAdd_ll, rdSub_ii, rdMul_ii, rdDiv_ii, rdMod_ii, rdPow_ii, dNeg, dChain, rdLt_ii, rdGt_ii, rdLe_ii, rdGe_ii, rdEqv_ii, rdNev_ii, dIsN, dNotN, isNon_non, isNon_int, rdIsi,
  tyD_non, tyD_bl, tyD_int, tyD_str, tyD_lst, tyD_rol, tyD_tup, tyD_rot, clsOf_ty, clsOf_tup, tysOf_nil, tysOf_cons, rdLen_str, rdLen_lst, rdLen_rol, rdLen_tup, seqOf_lst, seqOf_rol, seqOf_tup, seqOf_rot, rdIx_tup, rdIx_lst, rdIx_rol, rdIx_str, atI,
  k_int_int, k_int_bool, k_int_str, k_int_tuple, k_bool_int, k_bool_bool, k_str_str, k_str_int, k_str_tuple, k_tup_int, k_tup_str, k_tup_tup, k_lst_tup, k_lst_seq, k_tup_seq, rdAbs, sWhile, rdMax2_ii, rdMin2_ii, decide_true, decide_false, decide_eq_true_eq, rdInt_int, rdInt_bl, rdInt_str, rdMulS_si, rdList, rdListC, rdTuple, tupOf_lst, tupOf_tup, tupOf_ref, dRng1, dRng2, dRng2B, dRngD, dSeq, dRevR2, dZip, dSlA, rdSlA,
  isRot_tup, isRot_lst, isRot_ref, isTup_tup, isTup_lst, isTup_rol, isTup_ref, oSo, oNo, gSet, dYes, rdGe_pp,
  List.map_cons, List.map_nil, List.cons_append, List.nil_append, List.append_nil, List.length_cons, List.length_nil, List.replicate_succ, List.replicate_zero, Nat.reduceSub, Nat.reduceAdd, List.getElem?_cons_zero, List.getElem?_cons_succ, List.set_cons_zero, List.set_cons_succ, Option.map_some, Option.map_none,
  plain_int, plain_tup, common_ii, seqOf_mk, rdNev_bb, rdEqv_bb, if_true, if_false, Bool.not_true, Bool.not_false, reduceIte, Bool.false_eq_true, dwipe, spanD, true_and, and_true, ix30, ix31, ix32, ix20, ix21, ix40, ix41, ix42, ix43, Option.bind_some, Option.bind_none, sl0, sl1, sl2, sl3, sl4, sl5, sl6, sl7, sl8, sl9, Nat.zero_add])
theorem lcmS_dvd {m b B : Int} (hm : 0 < m) (hb : 0 < b) (h1 : m ∣ B) (h2 : b ∣ B) : 0 < lcmS m b ∧ lcmS m b ∣ B := by
  have hg : 0 < (Int.gcd m b : Int) := by have := Int.gcd_pos_of_ne_zero_right m (show b ≠ 0 by omega); omega
  have e : lcmS m b = (Int.lcm m b : Int) := by
    unfold lcmS
    rw [Int.fdiv_eq_ediv_of_nonneg _ (by omega)]
    have := Int.gcd_mul_lcm m b
    have e2 : m * b = (Int.gcd m b : Int) * (Int.lcm m b : Int) := by
      rw [← Int.natCast_mul, this]
      push_cast
      rw [Int.natAbs_of_nonneg (by omega), Int.natAbs_of_nonneg (by omega)]
    rw [e2, Int.mul_ediv_cancel_left _ (by omega)]
  rw [e]
  refine ⟨?_, Int.coe_lcm_dvd h1 h2⟩
  have := Int.lcm_pos (show m ≠ 0 by omega) (show b ≠ 0 by omega)
  omega
theorem nums_ok {ps : List (List Plc)} (h : PartsOk ps) {n : Num} (hn : n ∈ nums ps) : n.ok := by
  obtain ⟨p, hp, hn⟩ := List.mem_flatMap.mp hn
  obtain ⟨x, hx, hn⟩ := List.mem_flatMap.mp hn
  have := (h.2.2 p hp).2.2 x hx
  simp only [List.mem_cons, List.not_mem_nil, or_false] at hn
  rcases hn with rfl | rfl
  · exact this.1
  · exact this.2
theorem base_pos {n : Num} (h : n.ok) : 0 < n.base := by
  cases n with
  | i n => exact (by decide : (0 : Int) < 1)
  | q t b => exact (show (0 : Int) < b by have := h.1; omega)
theorem nums_len {ps : List (List Plc)} (h : PartsOk ps) : (nums ps).length ≤ 800 := by
  obtain ⟨_, h2, h3⟩ := h
  have h4 : ∀ qs : List (List Plc), (∀ p ∈ qs, p.length ≤ 100) → (nums qs).length ≤ 200 * qs.length := by
    intro qs
    induction qs with
    | nil => intro _; simp [nums]
    | cons q qs ih =>
      intro hq
      have h1 := ih fun p hp => hq p (List.mem_cons_of_mem _ hp)
      have h2 := hq q List.mem_cons_self
      have h3 : (q.flatMap fun x => [x.1, x.2]).length = 2 * q.length := by
        clear h1 h2 hq ih
        induction q with
        | nil => rfl
        | cons x q ih => simp [ih]; omega
      simp only [nums, List.flatMap_cons, List.length_append, List.length_cons] at h1 ⊢
      omega
  have := h4 ps fun p hp => (h3 p hp).2.1
  omega
theorem scale_fold {B : Int} (hB : 0 < B) : ∀ (bs : List Int) (m : Int), 0 < m → m ∣ B → (∀ b ∈ bs, 0 < b ∧ b ∣ B) → 0 < bs.foldl lcmS m ∧ bs.foldl lcmS m ∣ B
  | [], m, h1, h2, _ => ⟨h1, h2⟩
  | b :: bs, m, h1, h2, h3 => by
    have hb := h3 b List.mem_cons_self
    have := lcmS_dvd h1 hb.1 h2 hb.2
    exact scale_fold hB bs _ this.1 this.2 fun c hc => h3 c (List.mem_cons_of_mem _ hc)
theorem scale_ok {ps : List (List Plc)} (h : PartsOk ps) (h2 : ScaleOk ps) : 0 < scaleM ps ∧ scaleM ps < 1048576 := by
  obtain ⟨B, hB, hB2, hd⟩ := h2
  have := scale_fold hB ((nums ps).map Num.base) 1 (by omega) (Int.one_dvd _) fun b hb => by
    obtain ⟨n, hn, rfl⟩ := List.mem_map.mp hb
    exact ⟨base_pos (nums_ok h hn), hd n hn⟩
  have h3 := Int.le_of_dvd hB this.2
  unfold scaleM
  omega
theorem vc_scale_of (ds : List D) (S : Sto) (Q : QD) (h : sp_scale_of ds S Q) : r_scale_of { nx := fun _ S' => Q .non S', rt := Q } (startD 6 ds) S := by
  obtain ⟨o, i, ps, rfl, hp, ⟨B, hB, hB2, hd⟩, h⟩ := h
  unfold r_scale_of
  walk_at "vc"
  refine sForS_fold (.lst (((nums ps).map Num.base).map D.int)) ((nums ps).map Num.base) D.int S lcmS 1 (fun _ m => 0 < m ∧ m ∣ B) (fun m ρ S' => S' = S ∧ ∃ a, ρ = [some (partsD o i ps), some (.int m), a, none, none, none]) (fun R h => ?_) rfl ⟨by omega, Int.one_dvd _⟩ ⟨rfl, _, rfl⟩ (fun _ _ _ _ => rfl) ?_ ?_ ?_
  · refine dLcNS_of 800 (partsD o i ps) ps (partD i) (fun p => (p.flatMap fun x => [x.1, x.2]).map fun n => D.int n.base) (fun R h => by walk_at "vc"; exact h) seqOf_mk (fun p hp2 q ys N hq hl hN => ?_) ?_ ?_
    · walk_at "vc"
      refine dbForS_of 800 (partD i p) p plcD (fun x => [D.int x.1.base, D.int x.2.base]) (fun R h => by walk_at "vc"; exact h) (fun _ => seqOf_mk) (fun x hx ys N hl hN => ?_) ?_ ?_
      · walk_at "vc"
        refine dbForS_of 800 (plcD x) [x.1, x.2] numD (fun n => [D.int n.base]) (fun R h => by walk_at "vc"; exact h) (fun _ => rfl) (fun n hn ys N hl hN => ?_) (by simpa using hl) (by simpa using hN)
        walk_at "vc"
        refine dbLast_of (.int n.base) 800 (le_line (by omega)) hl (fun R h => ?_) hN
        walk_at "vc"
        exact ⟨n, rfl, h⟩
      · simpa [List.map_flatMap] using hl
      · simpa [List.map_flatMap] using hN
    · have := nums_len hp
      simpa [nums, List.map_flatMap] using this
    · simpa [nums, List.map_flatMap] using h
  · rintro k b m hb ⟨h1, h2⟩
    obtain ⟨n, hn, rfl⟩ := List.mem_map.mp (List.mem_of_getElem? hb)
    exact lcmS_dvd h1 (base_pos (nums_ok hp hn)) h2 (hd n hn)
  · rintro k b m ρ S' N hb ⟨h1, h2⟩ ⟨rfl, a, rfl⟩ hN
    obtain ⟨n, hn, rfl⟩ := List.mem_map.mp (List.mem_of_getElem? hb)
    have hb0 := base_pos (nums_ok hp hn)
    have hbB := Int.le_of_dvd hB (hd n hn)
    have hmB := Int.le_of_dvd hB h2
    walk_at "vc"
    obtain ⟨g1, g2⟩ := gcd_top (t := m) hb0 (top_small (k := 20) (by omega) (by omega) (by omega))
    refine ⟨top_mul (a := 20) (b := 20) (top_small (by omega) (by omega) (by omega)) (top_small (by omega) (by omega) (by omega)) (by omega) (by omega) (by omega), cdiv_w g1 g2 (by omega) (by omega), ?_⟩
    exact hN _ _ ⟨rfl, _, rfl⟩
  · rintro ρ S' _ ⟨rfl, a, rfl⟩
    walk_at "vc"
    exact h
theorem base_small {ps : List (List Plc)} (h : ScaleOk ps) {n : Num} (hn : n ∈ nums ps) : n.base < 1048576 := by
  obtain ⟨B, hB, hB2, hd⟩ := h
  have := Int.le_of_dvd hB (hd n hn)
  omega
theorem mem_nums {ps : List (List Plc)} {p : List Plc} {x : Plc} (hp : p ∈ ps) (hx : x ∈ p) : x.1 ∈ nums ps ∧ x.2 ∈ nums ps :=
  ⟨List.mem_flatMap.mpr ⟨p, hp, List.mem_flatMap.mpr ⟨x, hx, by simp⟩⟩, List.mem_flatMap.mpr ⟨p, hp, List.mem_flatMap.mpr ⟨x, hx, by simp⟩⟩⟩
theorem vc_in_wholes (ds : List D) (S : Sto) (Q : QD) (h : sp_in_wholes ds S Q) : r_in_wholes { nx := fun _ S' => Q .non S', rt := Q } (startD 6 ds) S := by
  obtain ⟨o, i, ps, rfl, hc, h⟩ := h
  obtain ⟨m1, m2⟩ := scale_ok hc.ok hc.sc
  unfold r_in_wholes
  walk_at "vc"
  refine ⟨o, i, ps, rfl, hc.ok, hc.sc, ?_⟩
  walk_at "vc"
  intro q hq
  generalize hm : scaleM ps = m at *
  refine sForS_of (partsD o i ps) ps (partD i) _ (fun k ρ S' => S' = sup S q (.lst ((wholesM m (ps.take k)).map fun w => .lst (w.map pairD))) ∧ ∃ a, ρ = [some (partsD o i ps), some (.int m), some (.ref q), a, none, none]) (fun R h => ?_) seqOf_mk ⟨rfl, _, rfl⟩ (fun _ _ _ _ => seqOf_mk) ?_ ?_
  · walk_at "vc"
    exact h
  · rintro k p ρ S' hp ⟨rfl, a, rfl⟩
    have hpm := List.mem_of_getElem? hp
    obtain ⟨g1, g2, g3⟩ := hc.ok.2.2 p hpm
    walk_at "vc"
    refine dAppend_of q _ (fun R h => by exact h) sup_same ?_
    refine dLc_of (partD i p) p plcD (fun x => some (pairD (wholeM m x.1, wholeM m x.2))) (fun R h => by exact h) seqOf_mk (le_line (by omega)) (fun x hx r zs Y N hr hy => ?_) ?_
    · walk_at "vc"
      refine dLc_of (plcD x) [x.1, x.2] numD (fun n => some (.int (wholeM m n))) (fun R h => by exact h) rfl (le_line (by simp)) (fun n hn r zs Y N hr hy => ?_) ?_
      · walk_at "vc"
        have hnm : n ∈ nums ps ∧ n.ok := by
          obtain ⟨z1, z2⟩ := mem_nums hpm hx
          obtain ⟨z3, z4⟩ := g3 x hx
          simp only [List.mem_cons, List.not_mem_nil, or_false] at hn
          rcases hn with rfl | rfl
          · exact ⟨z1, z3⟩
          · exact ⟨z2, z4⟩
        exact ⟨n, m, rfl, hnm.2, m1, m2, base_small hc.sc hnm.1, hc.top n hnm.1, hy⟩
      · simp only [List.filterMap_cons, List.filterMap_nil]
        exact hy
    · rw [filterMap_all]
      have hk : k < ps.length := (List.getElem?_eq_some_iff.mp hp).1
      refine ⟨_, sup_same, ?_, ?_, _, rfl⟩
      · have := hc.ok.2.1
        simp only [wholesM, List.length_map, List.length_take, sizeLine_eq]
        omega
      · rw [sup_sup, take_succ_of hp]
        simp only [wholesM, List.map_append, List.map_cons, List.map_nil, List.map_map]
        rfl
  · rintro ρ S' ⟨rfl, a, rfl⟩
    walk_at "vc"
    refine ⟨q, _, rfl, sup_same, ?_⟩
    rw [sdel_sup, sdel_none hq, List.take_length]
    exact h
theorem min_cands {xs : List Int} {m : Int} (h1 : m ∈ xs) (h2 : ∀ y ∈ xs, m ≤ y) : m = minL xs := by
  have key : ∀ (ys : List Int) (a : Int), ys.foldl min a ≤ a ∧ (∀ y ∈ ys, ys.foldl min a ≤ y) ∧ (ys.foldl min a = a ∨ ys.foldl min a ∈ ys) := by
    intro ys
    induction ys with
    | nil => intro a; simp
    | cons y ys ih =>
      intro a
      obtain ⟨i1, i2, i3⟩ := ih (min a y)
      refine ⟨by rw [List.foldl_cons]; omega, fun z hz => ?_, ?_⟩
      · rcases List.mem_cons.mp hz with rfl | hz
        · rw [List.foldl_cons]; omega
        · exact i2 z hz
      · rw [List.foldl_cons]
        rcases i3 with i3 | i3
        · by_cases c : a ≤ y
          · left; omega
          · right; rw [i3, Int.min_eq_right (by omega)]; exact List.mem_cons_self
        · right; exact List.mem_cons_of_mem _ i3
  cases xs with
  | nil => cases h1
  | cons x xs =>
    obtain ⟨k1, k2, k3⟩ := key (x :: xs) x
    have : minL (x :: xs) = (x :: xs).foldl min x := rfl
    rw [this]
    have a1 := k2 m h1
    have a2 : (x :: xs).foldl min x ∈ x :: xs := by
      rcases k3 with k3 | k3
      · rw [k3]; exact List.mem_cons_self
      · exact k3
    have a3 := h2 _ a2
    omega
theorem max_cands {xs : List Int} {m : Int} (h1 : m ∈ xs) (h2 : ∀ y ∈ xs, y ≤ m) : m = maxL xs := by
  have key : ∀ (ys : List Int) (a : Int), a ≤ ys.foldl max a ∧ (∀ y ∈ ys, y ≤ ys.foldl max a) ∧ (ys.foldl max a = a ∨ ys.foldl max a ∈ ys) := by
    intro ys
    induction ys with
    | nil => intro a; simp
    | cons y ys ih =>
      intro a
      obtain ⟨i1, i2, i3⟩ := ih (max a y)
      refine ⟨by rw [List.foldl_cons]; omega, fun z hz => ?_, ?_⟩
      · rcases List.mem_cons.mp hz with rfl | hz
        · rw [List.foldl_cons]; omega
        · exact i2 z hz
      · rw [List.foldl_cons]
        rcases i3 with i3 | i3
        · by_cases c : y ≤ a
          · left; omega
          · right; rw [i3, Int.max_eq_right (by omega)]; exact List.mem_cons_self
        · right; exact List.mem_cons_of_mem _ i3
  cases xs with
  | nil => cases h1
  | cons x xs =>
    obtain ⟨k1, k2, k3⟩ := key (x :: xs) x
    have : maxL (x :: xs) = (x :: xs).foldl max x := rfl
    rw [this]
    have a1 := k2 m h1
    have a2 : (x :: xs).foldl max x ∈ x :: xs := by
      rcases k3 with k3 | k3
      · rw [k3]; exact List.mem_cons_self
      · exact k3
    have a3 := h2 _ a2
    omega
theorem ys_len {ws : List (List Pt)} (h : WsOk ws) : (ysOf ws).length ≤ 400 ∧ 0 < (ysOf ws).length := by
  obtain ⟨h0, h2, h3⟩ := h
  have h4 : ∀ qs : List (List Pt), (∀ p ∈ qs, p.length ≤ 100) → (ysOf qs).length ≤ 100 * qs.length := by
    intro qs
    induction qs with
    | nil => intro _; simp [ysOf]
    | cons q qs ih =>
      intro hq
      have h1 := ih fun p hp => hq p (List.mem_cons_of_mem _ hp)
      have h2 := hq q List.mem_cons_self
      simp only [ysOf, List.flatMap_cons, List.length_append, List.length_map, List.length_cons] at h1 ⊢
      omega
  refine ⟨by have := h4 ws fun p hp => (h3 p hp).2.1; omega, ?_⟩
  cases ws with
  | nil => simp at h0
  | cons w ws =>
    have := (h3 w List.mem_cons_self).1
    simp only [ysOf, List.flatMap_cons, List.length_append, List.length_map]
    omega
theorem vc_rows_of (ds : List D) (S : Sto) (Q : QD) (h : sp_rows_of ds S Q) : r_rows_of { nx := fun _ S' => Q .non S', rt := Q } (startD 7 ds) S := by
  obtain ⟨ws, m, rfl, hw, m1, m2, h⟩ := h
  unfold r_rows_of
  obtain ⟨l1, l2⟩ := ys_len hw
  have hm : Sz 8900 m := top_small (by omega) (by omega) (by omega)
  walk_at "vc"
  refine dLcNS_of 400 (wsD ws) ws (fun w => .lst (w.map pairD)) (fun w => w.map fun x => D.int x.2) (fun R h => by walk_at "vc"; exact h) rfl (fun w hw2 q ys N hq hl hN => ?_) ?_ ?_
  · walk_at "vc"
    refine dbForS_of 400 (.lst (w.map pairD)) w pairD (fun x => [D.int x.2]) (fun R h => by walk_at "vc"; exact h) (fun _ => rfl) (fun x hx ys N hl hN => ?_) ?_ ?_
    · walk_at "vc"
      exact dbLast_of (.int x.2) 400 (le_line (by omega)) hl (fun R h => by walk_at "vc"; exact h) hN
    · simpa [← List.map_eq_flatMap] using hl
    · simpa [← List.map_eq_flatMap] using hN
  · simpa [ysOf, List.length_flatMap] using l1
  · have e : (ws.flatMap fun w => w.map fun x => D.int x.2) = (ysOf ws).map D.int := by simp [ysOf, List.map_flatMap]; rfl
    rw [e]
    refine ⟨ysOf ws, rfl, l2, fun lo hl1 hl2 => ⟨lo, m, rfl, m1, hm, ?_⟩⟩
    walk_at "vc"
    refine ⟨ysOf ws, rfl, l2, fun hi hh1 hh2 => ⟨hi, m, rfl, m1, hm, ?_⟩⟩
    rw [min_cands hl1 hl2, max_cands hh1 hh2]
    walk_at "vc"
    exact h

end KC

set_option maxHeartbeats 1000000
namespace KC
open PySem PySem.Spec PyProof.Rows L2 DL 
local macro_rules | `(tactic| walk_at "vc") => `(tactic| simp only [dV, dC, dOp, dB, dAnd, dOr, dNot, dAndV, dOrV, dNotV, dIf, dNil, dCons, dTup, dLst, dCell, dFrz, sNext, sSeq, sBreak, sCont, sDrop, sRet, sRetN, sIf, sNever, gN, gsNil, gsCons, gT, sAsg, sPar, sPar3, sAug, withV, withO_some,
  asB_bl, asI_int, asS_str, asT_tup, asC_cons, asN_nil, as1_one, as2_two, as3_three, refD_ref, startD, dCall, dCallK, dCB, rdI0, rdAdd_ii, rdAdd_ss, rdAdd_ll, rdSub_ii, rdMul_ii, rdDiv_ii, rdMod_ii, rdPow_ii, dNeg, dChain, rdLt_ii, rdGt_ii, rdLe_ii, rdGe_ii, rdEqv_ii, rdNev_ii, dIsN, dNotN, isNon_non, isNon_int, rdIsi,
  tyD_non, tyD_bl, tyD_int, tyD_str, tyD_lst, tyD_rol, tyD_tup, tyD_rot, clsOf_ty, clsOf_tup, tysOf_nil, tysOf_cons, rdLen_str, rdLen_lst, rdLen_rol, rdLen_tup, seqOf_lst, seqOf_rol, seqOf_tup, seqOf_rot, rdIx_tup, rdIx_lst, rdIx_rol, rdIx_str, atI,
  k_int_int, k_int_bool, k_int_str, k_int_tuple, k_bool_int, k_bool_bool, k_str_str, k_str_int, k_str_tuple, k_tup_int, k_tup_str, k_tup_tup, k_lst_tup, k_lst_seq, k_tup_seq, rdAbs, sWhile, rdMax2_ii, rdMin2_ii, decide_true, decide_false, decide_eq_true_eq, rdInt_int, rdInt_bl, rdInt_str, rdMulS_si, rdList, rdListC, rdTuple, tupOf_lst, tupOf_tup, tupOf_ref, dRng1, dRng2, dRng2B, dRngD, dSeq, dRevR2, dZip, dSlA, rdSlA,
  isRot_tup, isRot_lst, isRot_ref, isTup_tup, isTup_lst, isTup_rol, isTup_ref, oSo, oNo, gSet, dYes, rdGe_pp,
  List.map_cons, List.map_nil, List.cons_append, List.nil_append, List.append_nil, List.length_cons, List.length_nil, List.replicate_succ, List.replicate_zero, Nat.reduceSub, Nat.reduceAdd, List.getElem?_cons_zero, List.getElem?_cons_succ, List.set_cons_zero, List.set_cons_succ, Option.map_some, Option.map_none,
  plain_int, plain_tup, common_ii, seqOf_mk, rdNev_bb, rdEqv_bb, if_true, if_false, Bool.not_true, Bool.not_false, reduceIte, Bool.false_eq_true, dwipe, spanD, true_and, and_true, ix30, ix31, ix32, ix20, ix21, ix40, ix41, ix42, ix43, Option.bind_some, Option.bind_none, sl0, sl1, sl2, sl3, sl4, sl5, sl6, sl7, sl8, sl9, Nat.zero_add])
theorem prevs_at {w : List Pt} {k : Nat} {x : Pt} (h : w[k]? = some x) : ∃ b, (edgesB w)[k]? = some (b, x) ∧ b ∈ w ∧ atI (w.map DL.pairD) ((k : Int) - 1) = some (DL.pairD b) := by
  have hk : k < w.length := (List.getElem?_eq_some_iff.mp h).1
  have hne : w ≠ [] := by intro e; subst e; simp at hk
  obtain ⟨init, l, el⟩ := (List.eq_nil_or_concat w).resolve_left hne
  rw [List.concat_eq_append] at el
  have hp : prevs w = l :: init := by unfold prevs; rw [el]; simp
  cases k with
  | zero =>
    refine ⟨l, ?_, by rw [el]; simp, ?_⟩
    · unfold edgesB
      rw [List.getElem?_zip_eq_some, hp]
      exact ⟨rfl, h⟩
    · rw [el]
      exact at_last
  | succ k =>
    have hk2 : k < init.length := by rw [el] at hk; simp at hk; exact hk
    have e1 : w[k]? = some init[k] := by rw [el, List.getElem?_append_left hk2]; exact List.getElem?_eq_getElem hk2
    refine ⟨init[k], ?_, List.mem_of_getElem? e1, ?_⟩
    · unfold edgesB
      rw [List.getElem?_zip_eq_some, hp]
      exact ⟨by simp, h⟩
    · unfold atI ixN
      rw [show ((k + 1 : Nat) : Int) - 1 = (k : Int) by omega, if_pos (by omega), if_pos (by rw [List.length_map]; omega)]
      simp [e1]
theorem zip_mem_len {w : List Pt} : (edgesB w).length ≤ w.length := by unfold edgesB; rw [List.length_zip]; omega
theorem cross_len (line m : Int) : ∀ ws : List (List Pt), (∀ w ∈ ws, w.length ≤ 100) → (ws.flatMap fun w => (edgesB w).filterMap (crossAt line m)).length ≤ 100 * ws.length
  | [], _ => by simp
  | w :: ws, h => by
    have h1 := cross_len line m ws fun p hp => h p (List.mem_cons_of_mem _ hp)
    have h2 := h w List.mem_cons_self
    have h3 := List.length_filterMap_le (crossAt line m) (edgesB w)
    have h4 := zip_mem_len (w := w)
    simp only [List.flatMap_cons, List.length_append, List.length_cons]
    omega
theorem line_top {m row : Int} (m1 : 0 < m) (m2 : m < 1048576) (hr : Sz 450 row) : Sz 491 (lineM m row) := by
  have h64 : Sz 20 64 := top_small (by omega) (by omega) (by omega)
  have h32 : Sz 20 32 := top_small (by omega) (by omega) (by omega)
  have hm : Sz 20 m := top_small (by omega) (by omega) (Nat.le_refl _)
  have h1 : Sz 471 (64 * row + 32) := top_add (top_prod h64 hr) h32 (by omega) (by omega)
  have h2 := top_prod h1 hm
  exact h2
theorem vc_crossings (ds : List D) (S : Sto) (Q : QD) (h : sp_crossings ds S Q) : r_crossings { nx := fun _ S' => Q .non S', rt := Q } (startD 14 ds) S := by
  obtain ⟨ws, m, row, rfl, hw, m1, m2, hr, h⟩ := h
  unfold r_crossings
  have h64 : Sz 20 64 := top_small (by omega) (by omega) (by omega)
  have h32 : Sz 20 32 := top_small (by omega) (by omega) (by omega)
  have hm : Sz 20 m := top_small (by omega) (by omega) (by omega)
  have hline := line_top m1 m2 hr
  walk_at "vc"
  refine ⟨top_mul h64 hr (by omega) (by omega) (by omega), top_mul (top_add (c := 471) (top_prod h64 hr) h32 (by omega) (by omega)) hm (by omega) (by omega) (by omega), fun p hp => ?_⟩
  have el : (64 * row + 32) * m = lineM m row := rfl
  rw [el]
  unfold crossM at h
  generalize lineM m row = line at *
  refine sForS_of (wsD ws) ws (fun w => .lst (w.map DL.pairD)) _ (fun k ρ S' => S' = sup S p (.lst (((ws.take k).flatMap fun w => (edgesB w).filterMap (crossAt line m)).map spanD)) ∧ ∃ a b c d e f g h i, ρ = [some (wsD ws), some (.int m), some (.int row), some (.int line), some (.ref p), a, b, c, d, e, f, g, h, i])
    (fun R h => by walk_at "vc"; exact h) rfl ⟨rfl, _, _, _, _, _, _, _, _, _, rfl⟩ (fun _ _ _ _ => rfl) ?_ ?_
  · rintro j w ρ S' hj ⟨rfl, a, b, c, d, e, f, g, i, l, rfl⟩
    have hjl := (List.getElem?_eq_some_iff.mp hj).1
    obtain ⟨w1, w2, w3⟩ := hw.2.2 w (List.mem_of_getElem? hj)
    have hcl := cross_len line m (ws.take j) fun p hp => (hw.2.2 p (List.mem_of_mem_take hp)).2.1
    have htl : (ws.take j).length ≤ 4 := Nat.le_trans (List.length_take_le ..) (by have := hw.2.1; omega)
    rw [take_succ_of hj]
    generalize hdone : (ws.take j).flatMap (fun w => (edgesB w).filterMap (crossAt line m)) = done at hcl
    walk_at "vc"
    refine sFor_of (List.range w.length) (fun i : Nat => .tup [.int i, DL.pairD (w.getD i (0, 0))]) (fun S => seqOf S (.lst (w.map DL.pairD)) = some (w.map DL.pairD)) (sup S p (.lst (done.map spanD))) (fun k ρ S' => S' = sup S p (.lst ((done ++ ((edgesB w).take k).filterMap (crossAt line m)).map spanD)) ∧ ∃ b c d e f g h i, ρ = [some (wsD ws), some (.int m), some (.int row), some (.int line), some (.ref p), some (.lst (w.map DL.pairD)), b, c, d, e, f, g, h, i])
      (fun R h => ?_) ⟨by simp, _, _, _, _, _, _, _, _, rfl⟩ (fun _ _ _ _ => rfl) ?_ ?_
    · refine ⟨_, rfl, rfl, ?_⟩
      have e : enumD (w.map DL.pairD) = (List.range w.length).map fun i : Nat => .tup [.int i, DL.pairD (w.getD i (0, 0))] := by
        unfold enumD
        rw [List.length_map]
        refine List.map_congr_left fun i hi => ?_
        have := List.mem_range.mp hi
        simp [List.getD_eq_getElem?_getD, List.getElem?_eq_getElem this]
      rw [e]
      exact h
    · rintro k k' ρ S' hk ⟨rfl, b, c, d, e, f, g, i, l, rfl⟩
      obtain ⟨hkl, rfl⟩ : k < w.length ∧ k' = k := by
        have h1 := (List.getElem?_eq_some_iff.mp hk).1
        rw [List.length_range] at h1
        rw [List.getElem?_range h1] at hk
        exact ⟨h1, by cases hk; rfl⟩
      have hx : w[k']? = some (w.getD k' (0, 0)) := by rw [List.getD_eq_getElem?_getD, List.getElem?_eq_getElem hkl]; rfl
      generalize w.getD k' (0, 0) = x at hx
      obtain ⟨pb, e1, e2, e3⟩ := prevs_at hx
      rw [take_succ_of e1]
      obtain ⟨tx, ty⟩ := w3 x (List.mem_of_getElem? hx)
      obtain ⟨bx, by'⟩ := w3 pb e2
      walk_at "vc"
      simp only [atI] at e3
      rw [e3]
      walk_at "vc"
      by_cases c0 : decide (line < pb.2) = decide (line < x.2)
      · simp only [c0, decide_true, Bool.not_true, Bool.false_eq_true, if_false]
        refine ⟨?_, _, _, _, _, _, _, _, _, rfl⟩
        have : crossAt line m (pb, x) = none := if_pos c0
        rw [List.filterMap_append, List.filterMap_cons, this]
        simp
      · simp only [c0, decide_false, Bool.not_false, if_true]
        have t1 : Sz 451 (x.2 - pb.2) := top_sub ty by' (by omega) (by omega)
        have t2 : Sz 492 (line - pb.2) := top_sub hline by' (by omega) (by omega)
        have t3 : Sz 451 (x.1 - pb.1) := top_sub tx bx (by omega) (by omega)
        refine ⟨top_mul bx t1 (by omega) (by omega) (by omega), top_mul t2 t3 (by omega) (by omega) (by omega), ?_⟩
        have t4 : Sz 944 (pb.1 * (x.2 - pb.2) + (line - pb.2) * (x.1 - pb.1)) := top_add (top_prod bx t1) (top_prod t2 t3) (by omega) (by omega)
        have hcr : ∀ way : Int, (if 0 < x.2 - pb.2 then 1 else -1) = way → crossAt line m (pb, x) = some ((pb.1 * (x.2 - pb.2) + (line - pb.2) * (x.1 - pb.1)) * way, (x.2 - pb.2) * way * m, way) := by
          intro way e
          subst e
          exact if_neg c0
        have app : ∀ (way : Int) (ρ : Rho), Sz 20 way → (if 0 < x.2 - pb.2 then 1 else -1) = way → ρ = [some (wsD ws), some (D.int m), some (D.int row), some (D.int line), some (D.ref p), some (D.lst (List.map DL.pairD w)), some (D.int k'), some (D.int x.1), some (D.int x.2), some (D.int pb.1), some (D.int pb.2), some (.int (x.2 - pb.2)), some (.int (pb.1 * (x.2 - pb.2) + (line - pb.2) * (x.1 - pb.1))), some (D.int way)] →
            dAppend (dV 4) (dTup (dCons (dOp rdMul (dV 12) (dV 13)) (dCons (dOp rdMul (dOp rdMul (dV 11) (dV 13)) (dV 1)) (dCons (dV 13) dNil)))) ρ (sup S p (Cell.lst (List.map spanD (done ++ List.filterMap (crossAt line m) (List.take k' (edgesB w))))))
              (fun _ S1 => S1 = sup S p (Cell.lst (List.map spanD (done ++ List.filterMap (crossAt line m) (List.take k' (edgesB w) ++ [(pb, x)])))) ∧ ∃ b c d e f g h i, ρ = [some (wsD ws), some (D.int m), some (D.int row), some (D.int line), some (D.ref p), some (D.lst (List.map DL.pairD w)), b, c, d, e, f, g, h, i]) := by
          rintro way ρ hway e rfl
          have hc := hcr way e
          generalize (pb.1 * (x.2 - pb.2) + (line - pb.2) * (x.1 - pb.1)) = tp at *
          generalize x.2 - pb.2 = st at *
          refine dAppend_of p _ (fun R h => by exact h) sup_same ?_
          walk_at "vc"
          refine ⟨top_mul t4 hway (by omega) (by omega) (by omega), top_mul t1 hway (by omega) (by omega) (by omega), top_mul (top_prod t1 hway) hm (by omega) (by omega) (by omega), _, sup_same, ?_, ?_, _, _, _, _, _, _, _, _, rfl⟩
          · have h3 := List.length_filterMap_le (crossAt line m) (List.take k' (edgesB w))
            have h4 : (List.take k' (edgesB w)).length ≤ k' := List.length_take_le ..
            rw [List.length_map, List.length_append, sizeLine_eq]
            omega
          · rw [sup_sup, List.filterMap_append, List.filterMap_cons, hc]
            simp [spanD]
        by_cases c1 : 0 < x.2 - pb.2
        · rw [if_pos c1]
          exact app 1 _ (top_small (by omega) (by omega) (by omega)) (if_pos c1) rfl
        · rw [if_neg c1]
          exact app (-1) _ (top_small (by omega) (by omega) (by omega)) (if_neg c1) rfl
    · rintro ρ S' ⟨rfl, b, c, d, e, f, g, i, l, rfl⟩
      refine ⟨?_, _, _, _, _, _, _, _, _, _, rfl⟩
      rw [List.take_of_length_le (by rw [List.length_range]; exact zip_mem_len)]
      rw [List.flatMap_append, hdone]
      simp
  · rintro ρ S' ⟨rfl, a, b, c, d, e, f, g, i, l, rfl⟩
    walk_at "vc"
    refine ⟨p, _, rfl, sup_same, ?_⟩
    rw [sdel_sup, sdel_none hp, List.take_length]
    exact h

end KC

set_option maxHeartbeats 1000000
namespace KC
open PySem PySem.Spec PyProof.Rows L2 DL 
local macro_rules | `(tactic| walk_at "vc") => `(tactic| simp only [dV, dC, dOp, dB, dAnd, dOr, dNot, dAndV, dOrV, dNotV, dIf, dNil, dCons, dTup, dLst, dCell, dFrz, sNext, sSeq, sBreak, sCont, sDrop, sRet, sRetN, sIf, sNever, gN, gsNil, gsCons, gT, sAsg, sPar, sPar3, sAug, withV, withO_some,
  asB_bl, asI_int, asS_str, asT_tup, asC_cons, asN_nil, as1_one, as2_two, as3_three, refD_ref, startD, dCall, dCallK, dCB, rdI0, rdAdd_ii, rdAdd_ss, rdAdd_ll, rdSub_ii, rdMul_ii, rdDiv_ii, rdMod_ii, rdPow_ii, dNeg, dChain, rdLt_ii, rdGt_ii, rdLe_ii, rdGe_ii, rdEqv_ii, rdNev_ii, dIsN, dNotN, isNon_non, isNon_int, rdIsi,
  tyD_non, tyD_bl, tyD_int, tyD_str, tyD_lst, tyD_rol, tyD_tup, tyD_rot, clsOf_ty, clsOf_tup, tysOf_nil, tysOf_cons, rdLen_str, rdLen_lst, rdLen_rol, rdLen_tup, seqOf_lst, seqOf_rol, seqOf_tup, seqOf_rot, rdIx_tup, rdIx_lst, rdIx_rol, rdIx_str, atI,
  k_int_int, k_int_bool, k_int_str, k_int_tuple, k_bool_int, k_bool_bool, k_str_str, k_str_int, k_str_tuple, k_tup_int, k_tup_str, k_tup_tup, k_lst_tup, k_lst_seq, k_tup_seq, rdAbs, sWhile, rdMax2_ii, rdMin2_ii, decide_true, decide_false, decide_eq_true_eq, rdInt_int, rdInt_bl, rdInt_str, rdMulS_si, rdList, rdListC, rdTuple, tupOf_lst, tupOf_tup, tupOf_ref, dRng1, dRng2, dRng2B, dRngD, dSeq, dRevR2, dZip, dSlA, rdSlA,
  isRot_tup, isRot_lst, isRot_ref, isTup_tup, isTup_lst, isTup_rol, isTup_ref, oSo, oNo, gSet, dYes, rdGe_pp,
  List.map_cons, List.map_nil, List.cons_append, List.nil_append, List.append_nil, List.length_cons, List.length_nil, List.replicate_succ, List.replicate_zero, Nat.reduceSub, Nat.reduceAdd, List.getElem?_cons_zero, List.getElem?_cons_succ, List.set_cons_zero, List.set_cons_succ, Option.map_some, Option.map_none,
  plain_int, plain_tup, common_ii, seqOf_mk, rdNev_bb, rdEqv_bb, if_true, if_false, Bool.not_true, Bool.not_false, reduceIte, Bool.false_eq_true, dwipe, spanD, true_and, and_true, ix30, ix31, ix32, ix20, ix21, ix40, ix41, ix42, ix43, Option.bind_some, Option.bind_none, sl0, sl1, sl2, sl3, sl4, sl5, sl6, sl7, sl8, sl9, Nat.zero_add])
theorem top_64 {k : Nat} {b : Int} (h : Sz k b) : Sz (k + 7) (64 * b) := by
  have := top_prod (a := 7) (x := 64) (show Sz 7 64 by unfold Sz; decide) h
  exact top_mono this (by omega)
theorem vc_filled_by (ds : List D) (S : Sto) (Q : QD) (h : sp_filled_by ds S Q) : r_filled_by { nx := fun _ S' => Q .non S', rt := Q } (startD 7 ds) S := by
  obtain ⟨s, drops, rfl, h1, h2, h⟩ := h
  unfold r_filled_by
  walk_at "vc"
  have h3 : Sz 8900 s.2.2 := top_mono h2 (by omega)
  refine ⟨_, _, rfl, h1, h3, _, _, rfl, h1, h3, ?_⟩
  unfold filledM at h
  dsimp only at h
  walk_at "vc"
  by_cases c : firstMid s.1 s.2.2 = firstMid s.2.1 s.2.2
  · simp only [c, true_and, if_true] at h ⊢
    cases drops with
    | true =>
      simp only [if_true] at h ⊢
      refine ⟨top_mul (a := 20) (b := 20) (top_small (by omega) (by omega) (by omega)) (top_small (by omega) (by omega) (by omega)) (by omega) (by omega) (by omega), top_mul (a := 20) (top_small (by omega) (by omega) (by omega)) h2 (by omega) (by omega) (by omega), ?_, h⟩
      refine cdiv_w (k := 8820) (by omega) ?_ (by omega) (by omega)
      exact top_prod (a := 20) (top_small (by omega) (by omega) (by omega)) h2
    | false =>
      simp only [Bool.false_eq_true, if_false] at h ⊢
      exact h
  · simp only [c, false_and, if_false] at h ⊢
    exact h
theorem insU_mem {x y : Int} : ∀ {ys : List Int}, y ∈ insU x ys ↔ y = x ∨ y ∈ ys
  | [] => by simp [insU]
  | z :: ys => by
    unfold insU
    split
    · simp
    · split
      · rename_i h; subst h; simp
      · simp only [List.mem_cons, insU_mem (ys := ys)]
        constructor
        · rintro (h | h | h) <;> simp [h]
        · rintro (h | h | h) <;> simp [h]
theorem uniqS_mem {y : Int} : ∀ {xs : List Int}, y ∈ uniqS xs ↔ y ∈ xs
  | [] => by simp [uniqS]
  | x :: xs => by
    show y ∈ insU x (uniqS xs) ↔ _
    rw [insU_mem, uniqS_mem, List.mem_cons]
theorem insU_sorted {x : Int} : ∀ {ys : List Int}, ys.Pairwise (· < ·) → (insU x ys).Pairwise (· < ·)
  | [], _ => by simp [insU]
  | z :: ys, h => by
    obtain ⟨h1, h2⟩ := List.pairwise_cons.mp h
    unfold insU
    split
    · rename_i c
      refine List.pairwise_cons.mpr ⟨fun y hy => ?_, h⟩
      rcases List.mem_cons.mp hy with rfl | hy
      · exact c
      · exact Int.lt_trans c (h1 y hy)
    · split
      · exact h
      · rename_i c1 c2
        refine List.pairwise_cons.mpr ⟨fun y hy => ?_, insU_sorted h2⟩
        rcases insU_mem.mp hy with rfl | hy
        · omega
        · exact h1 y hy
theorem uniqS_sorted : ∀ xs : List Int, (uniqS xs).Pairwise (· < ·)
  | [] => by simp [uniqS]
  | x :: xs => insU_sorted (uniqS_sorted xs)
theorem insU_len {x : Int} : ∀ {ys : List Int}, (insU x ys).length ≤ ys.length + 1
  | [] => by simp [insU]
  | z :: ys => by
    unfold insU
    split
    · simp
    · split
      · simp
      · have := insU_len (x := x) (ys := ys)
        simp only [List.length_cons]
        omega
theorem uniqS_len : ∀ xs : List Int, (uniqS xs).length ≤ xs.length
  | [] => by simp [uniqS]
  | x :: xs => by
    have := uniqS_len xs
    have h2 := insU_len (x := x) (ys := uniqS xs)
    show (insU x (uniqS xs)).length ≤ _
    simp only [List.length_cons]
    omega
theorem cross_mem {line m : Int} {ws : List (List Pt)} {r : Spn} (h : r ∈ ws.flatMap fun w => (edgesB w).filterMap (crossAt line m)) : ∃ w ∈ ws, ∃ a ∈ w, ∃ b ∈ w, crossAt line m (a, b) = some r := by
  obtain ⟨w, hw, h⟩ := List.mem_flatMap.mp h
  obtain ⟨e, he, h⟩ := List.mem_filterMap.mp h
  obtain ⟨k, hk⟩ := List.mem_iff_getElem?.mp he
  have h2 := hk
  unfold edgesB at h2
  rw [List.getElem?_zip_eq_some] at h2
  obtain ⟨b, e1, e2, e3⟩ := prevs_at h2.2
  rw [hk] at e1
  injection e1 with e1
  exact ⟨w, hw, b, e2, e.2, List.mem_of_getElem? h2.2, by rw [← e1]; exact h⟩
theorem cross_one {line m : Int} {a b : Pt} {r : Spn} (h : crossAt line m (a, b) = some r) : ∃ way : Int, (way = 1 ∨ way = -1) ∧ 0 < (b.2 - a.2) * way ∧ r = ((a.1 * (b.2 - a.2) + (line - a.2) * (b.1 - a.1)) * way, (b.2 - a.2) * way * m, way) ∧ ¬ (decide (line < a.2) = decide (line < b.2)) := by
  unfold crossAt at h
  split at h
  · cases h
  · rename_i c
    dsimp only at h c
    injection h with h
    by_cases c1 : 0 < b.2 - a.2
    · rw [if_pos c1] at h
      exact ⟨1, .inl rfl, by omega, h.symm, c⟩
    · rw [if_neg c1] at h
      refine ⟨-1, .inr rfl, ?_, h.symm, c⟩
      have : b.2 ≠ a.2 := fun e => c (by rw [e])
      omega
theorem cross_ok {ws : List (List Pt)} {m row : Int} (hw : WsOk ws) (m1 : 0 < m) (m2 : m < 1048576) (hr : RowOk ws m row) : CrossOk (crossM ws m row) := by
  have hline := line_top m1 m2 hr.1
  have hm : Sz 20 m := top_small (by omega) (by omega) (Nat.le_refl _)
  have one : ∀ r ∈ crossM ws m row, 0 < r.2.1 ∧ Sz 500 r.2.1 ∧ Sz 1000 r.1 := by
    intro r hr
    obtain ⟨w, hw1, a, ha, b, hb, h⟩ := cross_mem hr
    obtain ⟨way, h1, h2, rfl, _⟩ := cross_one h
    obtain ⟨ax, ay⟩ := (hw.2.2 w hw1).2.2 a ha
    obtain ⟨bx, by'⟩ := (hw.2.2 w hw1).2.2 b hb
    have hway : Sz 20 way := top_small (by omega) (by omega) (Nat.le_refl _)
    have t1 : Sz 451 (b.2 - a.2) := top_sub by' ay (by omega) (by omega)
    have t2 : Sz 492 (lineM m row - a.2) := top_sub hline ay (by omega) (by omega)
    have t3 : Sz 451 (b.1 - a.1) := top_sub bx ax (by omega) (by omega)
    have t4 : Sz 944 (a.1 * (b.2 - a.2) + (lineM m row - a.2) * (b.1 - a.1)) := top_add (top_prod ax t1) (top_prod t2 t3) (by omega) (by omega)
    exact ⟨Int.mul_pos h2 m1, top_mono (top_prod (top_prod t1 hway) hm) (by omega), top_mono (top_prod t4 hway) (by omega)⟩
  have hlen := cross_len (lineM m row) m ws fun w hw1 => (hw.2.2 w hw1).2.1
  have := hw.2.1
  exact ⟨Nat.le_trans hlen (by omega), fun r h => (one r h).1, fun r h => (one r h).2.1, fun r h => (one r h).2.2, hr.2⟩
theorem inOrder_len (rs : List Spn) : (inOrderM rs).length ≤ rs.length := by
  unfold inOrderM
  have := uniqS_len (rs.map (hereM (wholeR rs)))
  simpa using this
def optD : Option Int → D
  | none => .non
  | some i => .int i
theorem vc_stretches (ds : List D) (S : Sto) (Q : QD) (h : sp_stretches ds S Q) : r_stretches { nx := fun _ S' => Q .non S', rt := Q } (startD 13 ds) S := by
  obtain ⟨ws, m, row, odd, rfl, hw, m1, m2, hr, h⟩ := h
  unfold r_stretches
  walk_at "vc"
  intro p hp
  have hco := cross_ok hw m1 m2 hr
  have hql := inOrder_len (crossM ws m row)
  unfold stretchM stretchQ at h
  refine sForS_fold (.lst ((inOrderM (crossM ws m row)).map quadD)) (inOrderM (crossM ws m row)) quadD (sup S p (.lst [])) (stStep odd) ⟨[], none, 0, 0⟩ (fun i s => s.found.length ≤ i)
    (fun s ρ S' => S' = sup S p (.lst (s.found.map spanD)) ∧ ∃ a b c d e, ρ = [some (wsD ws), some (.int m), some (.int row), some (.str (ruleS odd)), some (.ref p), some (optD s.begin), some (.int s.ups), some (.int s.count), a, b, c, d, e])
    (fun R h => ?_) rfl (Nat.le_refl _) ⟨rfl, _, _, _, _, _, rfl⟩ (fun _ _ _ _ => rfl) ?_ ?_ ?_
  · walk_at "vc"
    refine ⟨ws, m, row, rfl, hw, m1, m2, hr.1, ?_⟩
    exact ⟨_, rfl, hco, h⟩
  · rintro i q s hq hs
    unfold stStep
    dsimp only
    split <;> simp <;> omega
  · rintro i q s ρ S' N hq hi ⟨rfl, a, b, c, d, e, rfl⟩ hN
    have hil := (List.getElem?_eq_some_iff.mp hq).1
    have hlen := hco.len
    have fl : (s.found.map spanD).length < sizeLine := by rw [List.length_map, sizeLine_eq]; omega
    obtain ⟨found, begin, ups, count⟩ := s
    unfold stStep at hN
    dsimp only at hN fl
    simp only [quadD]
    walk_at "vc"
    have key : ∀ (S1 : Sto) (Q : QD), rdEqv (.str (ruleS odd)) (.str "round") S1 Q = Q (.bl (!odd)) S1 := fun S1 Q => by
      cases odd with
      | true =>
        show rdEqv (.str "odd") (.str "round") S1 Q = _
        rw [rdEqv_ss (by decide +kernel) (by decide +kernel), show decide ((("odd" : Str)) = "round") = false by decide +kernel]
        rfl
      | false =>
        show rdEqv (.str "round") (.str "round") S1 Q = _
        rw [rdEqv_ss (by decide +kernel) (by decide +kernel), show decide ((("round" : Str)) = "round") = true from decide_eq_true rfl]
        rfl
    rw [key, asB_bl]
    clear key
    generalize q.2.2.1 = q2 at *
    generalize q.2.2.2 = q3 at *
    have app : ∀ (b1 : Int) (ρ : Rho) (k : Sto → Prop), begin = some b1 → ρ[4]? = some (some (.ref p)) → ρ[5]? = some (some (.int b1)) → ρ[8]? = some (some (.int q.1)) → ρ[9]? = some (some (.int q.2.1)) → k (sup S p (.lst ((found ++ [(b1, q.1, q.2.1)]).map spanD))) →
        dAppend (dV 4) (dTup (dCons (dV 5) (dCons (dV 8) (dCons (dV 9) dNil)))) ρ (sup S p (Cell.lst (List.map spanD found))) fun _ S1 => k S1 := by
      intro b1 ρ k e e4 e5 e8 e9 hk
      have v4 : ∀ R : QD, R (.ref p) (sup S p (Cell.lst (List.map spanD found))) → dV 4 ρ (sup S p (Cell.lst (List.map spanD found))) R := fun R h => by simp only [dV, withV, e4]; exact h
      refine dAppend_of p _ v4 sup_same ?_
      simp only [dTup, dCons, dV, withV, e5, e8, e9, dNil]
      refine ⟨le_line (by simp), _, sup_same, fl, ?_⟩
      rw [sup_sup]
      simpa [spanD] using hk
    cases odd with
    | false =>
      simp only [Bool.not_false, if_true, withinM, Bool.false_eq_true, if_false] at hN ⊢
      by_cases u : ups + q2 = 0
      · cases begin with
        | none =>
          simp only [u, decide_true, Bool.not_true, Bool.not_false, Bool.false_eq_true, if_false, if_true, optD, isNon_non] at hN ⊢
          exact hN _ _ ⟨rfl, _, _, _, _, _, rfl⟩
        | some b1 =>
          simp only [u, decide_true, Bool.not_true, Bool.not_false, Bool.false_eq_true, if_false, if_true, optD, isNon_int] at hN ⊢
          refine app b1 _ _ rfl ?_ ?_ ?_ ?_ ?_ <;> first | rfl | exact hN _ _ ⟨rfl, _, _, _, _, _, rfl⟩
      · cases begin with
        | none =>
          simp only [u, decide_false, Bool.not_true, Bool.not_false, Bool.false_eq_true, if_false, if_true, optD, isNon_non] at hN ⊢
          exact hN _ _ ⟨rfl, _, _, _, _, _, rfl⟩
        | some b1 =>
          simp only [u, decide_false, Bool.not_true, Bool.not_false, Bool.false_eq_true, if_false, if_true, optD, isNon_int] at hN ⊢
          exact hN _ _ ⟨rfl, _, _, _, _, _, rfl⟩
    | true =>
      simp only [Bool.not_true, if_true, withinM, Bool.false_eq_true, if_false] at hN ⊢
      refine ⟨by decide, ?_⟩
      by_cases u : (count + q3).fmod 2 = 1
      · cases begin with
        | none =>
          simp only [u, decide_true, Bool.not_true, Bool.not_false, Bool.false_eq_true, if_false, if_true, optD, isNon_non] at hN ⊢
          exact hN _ _ ⟨rfl, _, _, _, _, _, rfl⟩
        | some b1 =>
          simp only [u, decide_true, Bool.not_true, Bool.not_false, Bool.false_eq_true, if_false, if_true, optD, isNon_int] at hN ⊢
          exact hN _ _ ⟨rfl, _, _, _, _, _, rfl⟩
      · cases begin with
        | none =>
          simp only [u, decide_false, Bool.not_true, Bool.not_false, Bool.false_eq_true, if_false, if_true, optD, isNon_non] at hN ⊢
          exact hN _ _ ⟨rfl, _, _, _, _, _, rfl⟩
        | some b1 =>
          simp only [u, decide_false, Bool.not_true, Bool.not_false, Bool.false_eq_true, if_false, if_true, optD, isNon_int] at hN ⊢
          refine app b1 _ _ rfl ?_ ?_ ?_ ?_ ?_ <;> first | rfl | exact hN _ _ ⟨rfl, _, _, _, _, _, rfl⟩
  · rintro ρ S' _ ⟨rfl, a, b, c, d, e, rfl⟩
    walk_at "vc"
    refine ⟨p, _, rfl, sup_same, ?_⟩
    rw [sdel_sup, sdel_none hp]
    exact h
theorem put_len (row : Int) (acc : List Spn) (c : Pt) : (putStep row acc c).length ≤ acc.length + 1 := by
  unfold putStep
  split
  · omega
  · split
    · split
      · simp
      · simp
    · simp
theorem vc_put_together (ds : List D) (S : Sto) (Q : QD) (h : sp_put_together ds S Q) : r_put_together { nx := fun _ S' => Q .non S', rt := Q } (startD 5 ds) S := by
  obtain ⟨row, cs, rfl, hl, h⟩ := h
  unfold r_put_together
  walk_at "vc"
  intro p hp
  have hsl := (sortP_perm cs).length_eq
  refine sForS_fold (.lst ((sortP cs).map DL.pairD)) (sortP cs) DL.pairD (sup S p (.lst [])) (putStep row) [] (fun i s => s.length ≤ i)
    (fun s ρ S' => S' = sup S p (.lst (s.map spanD)) ∧ ∃ a b, ρ = [some (.int row), some (.lst (cs.map DL.pairD)), some (.ref p), a, b])
    (fun R h => ?_) rfl (Nat.le_refl _) ⟨rfl, _, _, rfl⟩ (fun _ _ _ _ => rfl) ?_ ?_ ?_
  · walk_at "vc"
    exact rdSorted_pairs h
  · rintro i q s hq hs
    have := put_len row s q
    omega
  · rintro i q acc ρ S' N hq hi ⟨rfl, a, b, rfl⟩ hN
    have hil := (List.getElem?_eq_some_iff.mp hq).1
    have fl : (acc.map spanD).length < sizeLine := by rw [List.length_map, sizeLine_eq]; omega
    unfold putStep at hN
    walk_at "vc"
    by_cases c0 : q.1 = q.2
    · rw [if_pos c0] at hN ⊢
      exact hN _ _ ⟨rfl, _, _, rfl⟩
    rw [if_neg c0] at hN ⊢
    have app : ∀ ρ : Rho, ρ = [some (D.int row), some (D.lst (List.map DL.pairD cs)), some (D.ref p), some (D.int q.1), some (D.int q.2)] → N ρ (sup S p (.lst ((acc ++ [(row, q.1, q.2)]).map spanD))) →
        dAppend (dV 2) (dTup (dCons (dV 0) (dCons (dV 3) (dCons (dV 4) dNil)))) ρ (sup S p (Cell.lst (List.map spanD acc))) fun _ S1 => N ρ S1 := by
      rintro ρ rfl hk
      refine dAppend_of p _ (fun R h => by exact h) sup_same ?_
      walk_at "vc"
      refine ⟨_, sup_same, fl, ?_⟩
      rw [sup_sup]
      simpa [spanD] using hk
    refine rdNev_nil same_span (fun a => fit_mono (n := 2) (by omega) (fit_span a)) sup_same ?_
    rcases List.eq_nil_or_concat acc with rfl | ⟨init, l, rfl⟩
    · walk_at "vc"
      exact app _ rfl (hN _ _ ⟨rfl, _, _, rfl⟩)
    · have hne : ¬ (init.concat l = []) := by simp
      have gl : (init ++ [l]).getLast? = some l := by simp
      simp only [List.concat_eq_append, List.dropLast_concat] at hne app hN ⊢
      rw [gl] at hN
      dsimp only at hN
      walk_at "vc"
      simp only [hne, decide_false, Bool.not_false, if_true, rdIx_up]
      walk_at "vc"
      simp only [at_last, withO_some]
      walk_at "vc"
      by_cases c1 : q.1 ≤ l.2.2
      · rw [if_pos c1] at hN ⊢
        simp only [rdIx_up]
        walk_at "vc"
        simp only [at_last, withO_some]
        walk_at "vc"
        simp only [rdIx_up]
        walk_at "vc"
        simp only [at_last, withO_some]
        walk_at "vc"
        refine ⟨p, _, _, rfl, sup_same, ix_last, ?_⟩
        rw [sup_sup]
        refine hN _ _ ⟨?_, _, _, rfl⟩
        simp [spanD]
      · rw [if_neg c1] at hN ⊢
        exact app _ rfl (hN _ _ ⟨rfl, _, _, rfl⟩)
  · rintro ρ S' _ ⟨rfl, a, b, rfl⟩
    walk_at "vc"
    refine ⟨p, _, rfl, sup_same, ?_⟩
    rw [sdel_sup, sdel_none hp]
    exact h

end KC

set_option maxHeartbeats 1000000
namespace KC
open PySem PySem.Spec PyProof.Rows L2 DL 
local macro_rules | `(tactic| walk_at "vc") => `(tactic| simp only [dV, dC, dOp, dB, dAnd, dOr, dNot, dAndV, dOrV, dNotV, dIf, dNil, dCons, dTup, dLst, dCell, dFrz, sNext, sSeq, sBreak, sCont, sDrop, sRet, sRetN, sIf, sNever, gN, gsNil, gsCons, gT, sAsg, sPar, sPar3, sAug, withV, withO_some,
  asB_bl, asI_int, asS_str, asT_tup, asC_cons, asN_nil, as1_one, as2_two, as3_three, refD_ref, startD, dCall, dCallK, dCB, rdI0, rdAdd_ii, rdAdd_ss, rdAdd_ll, rdSub_ii, rdMul_ii, rdDiv_ii, rdMod_ii, rdPow_ii, dNeg, dChain, rdLt_ii, rdGt_ii, rdLe_ii, rdGe_ii, rdEqv_ii, rdNev_ii, dIsN, dNotN, isNon_non, isNon_int, rdIsi,
  tyD_non, tyD_bl, tyD_int, tyD_str, tyD_lst, tyD_rol, tyD_tup, tyD_rot, clsOf_ty, clsOf_tup, tysOf_nil, tysOf_cons, rdLen_str, rdLen_lst, rdLen_rol, rdLen_tup, seqOf_lst, seqOf_rol, seqOf_tup, seqOf_rot, rdIx_tup, rdIx_lst, rdIx_rol, rdIx_str, atI,
  k_int_int, k_int_bool, k_int_str, k_int_tuple, k_bool_int, k_bool_bool, k_str_str, k_str_int, k_str_tuple, k_tup_int, k_tup_str, k_tup_tup, k_lst_tup, k_lst_seq, k_tup_seq, rdAbs, sWhile, rdMax2_ii, rdMin2_ii, decide_true, decide_false, decide_eq_true_eq, rdInt_int, rdInt_bl, rdInt_str, rdMulS_si, rdList, rdListC, rdTuple, tupOf_lst, tupOf_tup, tupOf_ref, dRng1, dRng2, dRng2B, dRngD, dSeq, dRevR2, dZip, dSlA, rdSlA,
  isRot_tup, isRot_lst, isRot_ref, isTup_tup, isTup_lst, isTup_rol, isTup_ref, oSo, oNo, gSet, dYes, rdGe_pp,
  List.map_cons, List.map_nil, List.cons_append, List.nil_append, List.append_nil, List.length_cons, List.length_nil, List.replicate_succ, List.replicate_zero, Nat.reduceSub, Nat.reduceAdd, List.getElem?_cons_zero, List.getElem?_cons_succ, List.set_cons_zero, List.set_cons_succ, Option.map_some, Option.map_none,
  plain_int, plain_tup, common_ii, seqOf_mk, rdNev_bb, rdEqv_bb, if_true, if_false, Bool.not_true, Bool.not_false, reduceIte, Bool.false_eq_true, dwipe, spanD, true_and, and_true, ix30, ix31, ix32, ix20, ix21, ix40, ix41, ix42, ix43, Option.bind_some, Option.bind_none, sl0, sl1, sl2, sl3, sl4, sl5, sl6, sl7, sl8, sl9, Nat.zero_add])
theorem lcm_mult {m b : Int} (hm : 0 < m) (hb : 0 < b) : m ∣ lcmS m b := by
  have hg : 0 < (Int.gcd m b : Int) := by have := Int.gcd_pos_of_ne_zero_right m (show b ≠ 0 by omega); omega
  unfold lcmS
  rw [Int.fdiv_eq_ediv_of_nonneg _ (by omega), Int.mul_ediv_assoc _ (Int.gcd_dvd_right ..)]
  exact Int.dvd_mul_right ..
theorem lcm_mult2 {m b : Int} (hm : 0 < m) (hb : 0 < b) : b ∣ lcmS m b := by
  have hg : 0 < (Int.gcd m b : Int) := by have := Int.gcd_pos_of_ne_zero_right m (show b ≠ 0 by omega); omega
  unfold lcmS
  rw [Int.fdiv_eq_ediv_of_nonneg _ (by omega), Int.mul_comm m b, Int.mul_ediv_assoc _ (Int.gcd_dvd_left ..)]
  exact Int.dvd_mul_right ..
theorem lcm_pos {m b : Int} (hm : 0 < m) (hb : 0 < b) : 0 < lcmS m b := (lcmS_dvd (B := m * b) hm hb (Int.dvd_mul_right ..) (Int.dvd_mul_left ..)).1
theorem fold_mult : ∀ (bs : List Int) (m : Int), 0 < m → (∀ b ∈ bs, 0 < b) → m ∣ bs.foldl lcmS m ∧ 0 < bs.foldl lcmS m ∧ ∀ b ∈ bs, b ∣ bs.foldl lcmS m
  | [], m, h, _ => ⟨Int.dvd_refl _, h, by simp⟩
  | b :: bs, m, h, hb => by
    have hb0 := hb b List.mem_cons_self
    obtain ⟨i1, i2, i3⟩ := fold_mult bs (lcmS m b) (lcm_pos h hb0) fun c hc => hb c (List.mem_cons_of_mem _ hc)
    refine ⟨Int.dvd_trans (lcm_mult h hb0) i1, i2, fun c hc => ?_⟩
    rcases List.mem_cons.mp hc with rfl | hc
    · exact Int.dvd_trans (lcm_mult2 h hb0) i1
    · exact i3 c hc
def placeStep (W : Int) (P : List (Int × Int × Int)) (r : Spn) : List (Int × Int × Int) :=
  let o := (getI P (hereM W r)).getD (0, 0)
  putI P (hereM W r) (o.1 + r.2.2, o.2 + 1)
structure PlaceOk (W : Int) (rs : List Spn) (P : List (Int × Int × Int)) : Prop where
  nd : (P.map (·.1)).Nodup
  keys : ∀ k, k ∈ P.map (·.1) ↔ k ∈ rs.map (hereM W)
  val : ∀ k, k ∈ rs.map (hereM W) → getI P k = some (((rs.filter fun r => decide (hereM W r = k)).map (·.2.2)).sum, ((rs.filter fun r => decide (hereM W r = k)).length : Int))
  non : ∀ k, k ∉ rs.map (hereM W) → getI P k = none
theorem place_step {W : Int} {rs : List Spn} {P : List (Int × Int × Int)} (h : PlaceOk W rs P) (r : Spn) : PlaceOk W (rs ++ [r]) (placeStep W P r) := by
  obtain ⟨nd, keys, val, non⟩ := h
  unfold placeStep
  dsimp only
  obtain ⟨k1, k2⟩ := putI_keys P (hereM W r) (((getI P (hereM W r)).getD (0, 0)).1 + r.2.2, ((getI P (hereM W r)).getD (0, 0)).2 + 1) nd
  refine ⟨k1, fun k => ?_, fun k hk => ?_, fun k hk => ?_⟩
  · rw [k2, keys, List.map_append, List.mem_append]
    simp [or_comm]
  · rw [getI_putI]
    by_cases c : k = hereM W r
    · subst c
      rw [if_pos rfl, List.filter_append]
      by_cases c2 : hereM W r ∈ rs.map (hereM W)
      · rw [val _ c2]
        simp
      · rw [non _ c2]
        have : (rs.filter fun r1 => decide (hereM W r1 = hereM W r)) = [] := by
          rw [List.filter_eq_nil_iff]
          intro x hx
          rw [decide_eq_true_eq]
          intro e
          exact c2 (List.mem_map.mpr ⟨x, hx, e⟩)
        rw [this]
        simp
    · rw [if_neg c, List.filter_append]
      have e : ([r].filter fun r1 => decide (hereM W r1 = k)) = [] := by
        simp only [List.filter_cons, List.filter_nil]
        rw [if_neg]
        rw [decide_eq_true_eq]
        exact fun e => c e.symm
      rw [e, List.append_nil]
      refine val k ?_
      rw [List.map_append, List.mem_append] at hk
      rcases hk with hk | hk
      · exact hk
      · simp at hk
        exact absurd hk c
  · rw [List.map_append, List.mem_append, not_or] at hk
    rw [getI_putI, if_neg (by intro e; exact hk.2 (by simp [e]))]
    exact non k hk.1
theorem place_all (W : Int) (rs : List Spn) : PlaceOk W rs (rs.foldl (placeStep W) []) := by
  have : ∀ (ys xs : List Spn) (P : List (Int × Int × Int)), PlaceOk W xs P → PlaceOk W (xs ++ ys) (ys.foldl (placeStep W) P) := by
    intro ys
    induction ys with
    | nil => intro xs P h; simpa using h
    | cons y ys ih =>
      intro xs P h
      have := ih (xs ++ [y]) _ (place_step h y)
      simpa using this
  have := this rs [] [] ⟨by simp, by simp, by simp, by simp [getI]⟩
  simpa using this
theorem place_sorted (W : Int) (rs : List Spn) (P : List (Int × Int × Int)) (h : PlaceOk W rs P) :
    ((rowI DL.pairD P).map itemD).mergeSort (PySem.W.dataLe false D.pd) = ((uniqS (rs.map (hereM W))).map fun h => (h, ((rs.filter fun r => decide (hereM W r = h)).map (·.2.2)).sum, ((rs.filter fun r => decide (hereM W r = h)).length : Int))).map itemP := by
  have hs := uniqS_sorted (rs.map (hereM W))
  refine sort_items h.nd ?_ ?_
  · refine (List.perm_ext_iff_of_nodup ?_ ?_).mpr fun a => ?_
    · refine (List.Pairwise.map _ (fun a b hab => ?_) hs)
      intro e
      have := congrArg (·.1) e
      simp only at this
      omega
    · exact (List.pairwise_map.mp h.nd).imp fun {a b} hab e => hab (by rw [e])
    · rw [List.mem_map]
      constructor
      · rintro ⟨x, hx, rfl⟩
        rw [getI_mem h.nd]
        exact h.val x (uniqS_mem.mp hx)
      · intro ha
        have hk : a.1 ∈ rs.map (hereM W) := (h.keys _).mp (List.mem_map_of_mem (f := (·.1)) ha)
        have h1 := h.val _ hk
        have h2 := (getI_mem h.nd (h := a.1) (v := a.2)).mp ha
        rw [h1] at h2
        refine ⟨a.1, uniqS_mem.mpr hk, ?_⟩
        injection h2 with h2
        rw [h2]
  · exact List.Pairwise.map _ (fun a b hab => hab) hs
theorem vc_in_order (ds : List D) (S : Sto) (Q : QD) (h : sp_in_order ds S Q) : r_in_order { nx := fun _ S' => Qw Q .non S', rt := Qw Q } (startD 9 ds) S := by
  obtain ⟨rs, rfl, hc, h⟩ := h
  unfold r_in_order
  have hlen := hc.len
  obtain ⟨_, W0, Wd⟩ := fold_mult (rs.map (·.2.1)) 1 (by omega) fun b hb => by
    obtain ⟨r, hr, rfl⟩ := List.mem_map.mp hb
    exact hc.pos r hr
  have hWs := hc.whole
  unfold inOrderM at h
  dsimp only at h
  have hWe : wholeR rs = (rs.map (·.2.1)).foldl lcmS 1 := rfl
  walk_at "vc"
  refine sForS_fold (.lst (rs.map spanD)) rs spanD S (fun m r => lcmS m r.2.1) 1 (fun i m => 0 < m ∧ ((rs.drop i).map (·.2.1)).foldl lcmS m = wholeR rs)
    (fun m ρ S' => S' = S ∧ ∃ a b c, ρ = [some (.lst (rs.map spanD)), some (.int m), a, b, c, none, none, none, none]) (fun R h => by walk_at "vc"; exact h) rfl ⟨by omega, rfl⟩ ⟨rfl, _, _, _, rfl⟩ (fun _ _ _ _ => rfl) ?_ ?_ ?_
  · rintro i r m hr ⟨h1, h2⟩
    have hi := (List.getElem?_eq_some_iff.mp hr).1
    have hp := hc.pos r (List.mem_of_getElem? hr)
    refine ⟨lcm_pos h1 hp, ?_⟩
    rw [List.drop_eq_getElem_cons hi] at h2
    have : rs[i] = r := (List.getElem?_eq_some_iff.mp hr).2
    rw [this] at h2
    exact h2
  · rintro i r m ρ S' N hr ⟨h1, h2⟩ ⟨rfl, a, b, c, rfl⟩ hN
    have hmem := List.mem_of_getElem? hr
    have hp := hc.pos r hmem
    have hb := hc.base r hmem
    have hm : Sz 8800 m := by
      obtain ⟨d1, d2, _⟩ := fold_mult ((rs.drop i).map (·.2.1)) m h1 fun b hb => by
        obtain ⟨r, hr, rfl⟩ := List.mem_map.mp hb
        exact hc.pos r (List.mem_of_mem_drop hr)
      rw [h2] at d1 d2
      have := Int.le_of_dvd d2 d1
      unfold Sz at *
      omega
    walk_at "vc"
    obtain ⟨g1, g2⟩ := gcd_top (t := m) hp hb
    exact ⟨top_mul hm hb (by omega) (by omega) (by omega), cdiv_w g1 g2 (by omega) (by omega), hN _ _ ⟨rfl, _, _, _, rfl⟩⟩
  · have e1 : rs.foldl (fun m r => lcmS m r.2.1) 1 = wholeR rs := by rw [hWe, List.foldl_map]
    rw [e1]
    rintro ρ S' _ ⟨rfl, a, b, c, rfl⟩
    rw [← hWe] at W0 Wd
    generalize wholeR rs = W at *
    walk_at "vc"
    intro q hq
    refine sForS_fold (.lst (rs.map spanD)) rs spanD (sup S' q (.dK [])) (placeStep W) [] (fun i P => P.length ≤ i)
      (fun P ρ S'' => S'' = sup S' q (.dK (rowI DL.pairD P)) ∧ ∃ a b c d e f, ρ = [some (.lst (rs.map spanD)), some (.int W), a, b, c, some (.ref q), d, e, f]) (fun R h => by walk_at "vc"; exact h) rfl (Nat.le_refl _) ⟨rfl, _, _, _, _, _, _, rfl⟩ (fun _ _ _ _ => rfl) ?_ ?_ ?_
    · rintro i r P hr h1
      have := putI_len P (hereM W r) (((getI P (hereM W r)).getD (0, 0)).1 + r.2.2, ((getI P (hereM W r)).getD (0, 0)).2 + 1)
      exact Nat.le_trans this (by omega)
    · rintro i r P ρ S'' N hr h1 ⟨rfl, a, b, c, d, e, f, rfl⟩ hN
      have hmem := List.mem_of_getElem? hr
      have hi := (List.getElem?_eq_some_iff.mp hr).1
      have hp := hc.pos r hmem
      have ht := hc.top r hmem
      have hb := hc.base r hmem
      have hq1 : Sz 8800 (W.fdiv r.2.1) := by
        rw [Int.fdiv_eq_ediv_of_nonneg _ (by omega)]
        have q1 : 0 ≤ W / r.2.1 := Int.ediv_nonneg (by omega) (by omega)
        have q2 : W / r.2.1 ≤ W := Int.ediv_le_self _ (by omega)
        unfold Sz at *
        omega
      walk_at "vc"
      refine ⟨cdiv_w hp hb (by omega) (by omega), top_mul ht hq1 (by omega) (by omega) (by omega), ?_⟩
      have ea : ∀ P : List (Int × Int × Int), atD (sup S' q (.dK (rowI DL.pairD P))) q (.int (r.1 * W.fdiv r.2.1)) = some ((getI P (hereM W r)).map DL.pairD) := fun P => by
        unfold atD
        rw [sup_same]
        show some (valD (rowI DL.pairD P) (Sum.inl (hereM W r))) = _
        rw [valD_rowI]
      have isd : ∀ P : List (Key × D), isDct (sup S' q (.dK P)) q = true := fun P => by simp only [isDct, sup_same]
      have eg : ((getI P (hereM W r)).map DL.pairD).getD (.tup [.int 0, .int 0]) = DL.pairD ((getI P (hereM W r)).getD (0, 0)) := by cases getI P (hereM W r) <;> rfl
      have epc : ∀ v : Int × Int, putC (.dK (rowI DL.pairD P)) (.int (r.1 * W.fdiv r.2.1)) (DL.pairD v) = some (.dK (rowI DL.pairD (putI P (hereM W r) v))) := fun v => by
        unfold putC
        show (some (Sum.inl (hereM W r) : Key)).bind _ = _
        simp only [Option.bind_some]
        rw [if_pos (by simp only [rowI, List.length_map, sizeLine_eq]; omega), putD_rowI]
      have hst : placeStep W P r = putI P (hereM W r) (((getI P (hereM W r)).getD (0, 0)).1 + r.2.2, ((getI P (hereM W r)).getD (0, 0)).2 + 1) := rfl
      rw [hst] at hN
      generalize (getI P (hereM W r)).getD (0, 0) = o at *
      simp only [dGet2]
      walk_at "vc"
      rw [ea]
      simp only [isd, true_and, withO_some, eg]
      walk_at "vc"
      simp only [sPut]
      walk_at "vc"
      simp only [sup_same, withO_some]
      have e2 := epc (o.1 + r.2.2, o.2 + 1)
      rw [e2]
      simp only [withO_some]
      rw [sup_sup]
      exact hN _ _ ⟨rfl, _, _, _, _, _, _, rfl⟩
    · rintro ρ S'' hPl ⟨rfl, a, b, c, d, e, f, rfl⟩
      have hpo := place_all W rs
      generalize rs.foldl (placeStep W) [] = P at *
      have hso := place_sorted W rs P hpo
      have hul := uniqS_len (rs.map (hereM W))
      walk_at "vc"
      rw [List.map_map] at h
      generalize hL : ((uniqS (rs.map (hereM W))).map fun h => (h, ((rs.filter fun r => decide (hereM W r = h)).map (·.2.2)).sum, ((rs.filter fun r => decide (hereM W r = h)).length : Int))) = L at *
      have hLl : L.length ≤ 400 := by
        rw [← hL, List.length_map]
        rw [List.length_map] at hul
        omega
      refine dLc_of (.lst (L.map itemP)) L itemP (fun kv => some (quadD (kv.1, W, kv.2.1, kv.2.2))) (fun R hR => ?_) rfl (le_line (by omega)) (fun kv hkv p zs Y N hp hy => ?_) ?_
      · simp only [dSortI]
        walk_at "vc"
        refine ⟨_, sup_same, ?_, ?_, ?_⟩
        · simp only [rowI, List.map_map]
          exact fits_map (fun a => by simp [fit, fits]) P
        · intro x hx y hy
          simp only [rowI, List.map_map, List.mem_map] at hx hy
          obtain ⟨u, _, rfl⟩ := hx
          obtain ⟨v, _, rfl⟩ := hy
          simp [DL.encD, keyP, D.pd, pds, PySem.W.alike, PySem.W.alikeAll]
        · rw [hso]
          exact hR
      · simp only [itemP]
        walk_at "vc"
        exact hy
      · rw [filterMap_all]
        refine .up hq ?_
        have : L.map (fun kv => quadD (kv.1, W, kv.2.1, kv.2.2)) = List.map (quadD ∘ fun h => (h, W, (List.map (fun x => x.2.2) (List.filter (fun r => decide (hereM W r = h)) rs)).sum, ((List.filter (fun r => decide (hereM W r = h)) rs).length : Int))) (uniqS (List.map (hereM W) rs)) := by
          rw [← hL, List.map_map]
          rfl
        rw [this]
        exact h

end KC

set_option maxHeartbeats 1000000
namespace KC
open PySem PySem.Spec PyProof.Rows L2 DL 
local macro_rules | `(tactic| walk_at "vc") => `(tactic| simp only [dV, dC, dOp, dB, dAnd, dOr, dNot, dAndV, dOrV, dNotV, dIf, dNil, dCons, dTup, dLst, dCell, dFrz, sNext, sSeq, sBreak, sCont, sDrop, sRet, sRetN, sIf, sNever, gN, gsNil, gsCons, gT, sAsg, sPar, sPar3, sAug, withV, withO_some,
  asB_bl, asI_int, asS_str, asT_tup, asC_cons, asN_nil, as1_one, as2_two, as3_three, refD_ref, startD, dCall, dCallK, dCB, rdI0, rdAdd_ii, rdAdd_ss, rdAdd_ll, rdSub_ii, rdMul_ii, rdDiv_ii, rdMod_ii, rdPow_ii, dNeg, dChain, rdLt_ii, rdGt_ii, rdLe_ii, rdGe_ii, rdEqv_ii, rdNev_ii, dIsN, dNotN, isNon_non, isNon_int, rdIsi,
  tyD_non, tyD_bl, tyD_int, tyD_str, tyD_lst, tyD_rol, tyD_tup, tyD_rot, clsOf_ty, clsOf_tup, tysOf_nil, tysOf_cons, rdLen_str, rdLen_lst, rdLen_rol, rdLen_tup, seqOf_lst, seqOf_rol, seqOf_tup, seqOf_rot, rdIx_tup, rdIx_lst, rdIx_rol, rdIx_str, atI,
  k_int_int, k_int_bool, k_int_str, k_int_tuple, k_bool_int, k_bool_bool, k_str_str, k_str_int, k_str_tuple, k_tup_int, k_tup_str, k_tup_tup, k_lst_tup, k_lst_seq, k_tup_seq, rdAbs, sWhile, rdMax2_ii, rdMin2_ii, decide_true, decide_false, decide_eq_true_eq, rdInt_int, rdInt_bl, rdInt_str, rdMulS_si, rdList, rdListC, rdTuple, tupOf_lst, tupOf_tup, tupOf_ref, dRng1, dRng2, dRng2B, dRngD, dSeq, dRevR2, dZip, dSlA, rdSlA,
  isRot_tup, isRot_lst, isRot_ref, isTup_tup, isTup_lst, isTup_rol, isTup_ref, oSo, oNo, gSet, dYes, rdGe_pp,
  List.map_cons, List.map_nil, List.cons_append, List.nil_append, List.append_nil, List.length_cons, List.length_nil, List.replicate_succ, List.replicate_zero, Nat.reduceSub, Nat.reduceAdd, List.getElem?_cons_zero, List.getElem?_cons_succ, List.set_cons_zero, List.set_cons_succ, Option.map_some, Option.map_none,
  plain_int, plain_tup, common_ii, seqOf_mk, rdNev_bb, rdEqv_bb, if_true, if_false, Bool.not_true, Bool.not_false, reduceIte, Bool.false_eq_true, dwipe, spanD, true_and, and_true, ix30, ix31, ix32, ix20, ix21, ix40, ix41, ix42, ix43, Option.bind_some, Option.bind_none, sl0, sl1, sl2, sl3, sl4, sl5, sl6, sl7, sl8, sl9, Nat.zero_add])
theorem wh_bound {m : Int} {n : Num} (hn : n.ok) (m1 : 0 < m) (m2 : m < 1048576) (hb : n.base < 1048576) (ht : Sz 400 n.top) : Sz 450 (wholeM m n) := by
  have hm : Sz 20 m := top_small (by omega) (by omega) (Nat.le_refl _)
  cases n with
  | i n => exact top_mono (top_prod ht hm) (by omega)
  | q t b =>
    have h1 := hn.1
    have q1 : 0 ≤ m.fdiv b := Int.fdiv_nonneg (by omega) (by omega)
    have q2 : m.fdiv b ≤ m := by
      rw [Int.fdiv_eq_ediv_of_nonneg _ (by omega)]
      exact Int.ediv_le_self _ (by omega)
    exact top_mono (top_prod ht (show Sz 20 (m.fdiv b) from top_small (by omega) (by omega) (Nat.le_refl _))) (by omega)
theorem wholes_ok {ps : List (List Plc)} (h : CellsOk ps) : WsOk (wholesM (scaleM ps) ps) := by
  obtain ⟨m1, m2⟩ := scale_ok h.ok h.sc
  refine ⟨by simpa [wholesM] using h.ok.1, by simpa [wholesM] using h.ok.2.1, fun w hw => ?_⟩
  obtain ⟨p, hp, rfl⟩ := List.mem_map.mp hw
  obtain ⟨g1, g2, g3⟩ := h.ok.2.2 p hp
  refine ⟨by simpa using g1, by simpa using g2, fun x hx => ?_⟩
  obtain ⟨y, hy, rfl⟩ := List.mem_map.mp hx
  obtain ⟨u1, u2⟩ := mem_nums hp hy
  exact ⟨wh_bound (g3 y hy).1 m1 m2 (base_small h.sc u1) (h.top _ u1), wh_bound (g3 y hy).2 m1 m2 (base_small h.sc u2) (h.top _ u2)⟩
theorem inOrder_base {rs : List Spn} {q : Qd} (h : q ∈ inOrderM rs) : q.2.1 = wholeR rs := by
  unfold inOrderM at h
  obtain ⟨x, _, rfl⟩ := List.mem_map.mp h
  rfl
theorem st_base {odd : Bool} {W : Int} : ∀ (qs : List Qd) (s : StSt), (∀ q ∈ qs, q.2.1 = W) → (∀ x ∈ s.found, x.2.2 = W) → ∀ x ∈ (qs.foldl (stStep odd) s).found, x.2.2 = W
  | [], s, _, h => h
  | q :: qs, s, h1, h2 => by
    refine st_base qs _ (fun q hq => h1 q (List.mem_cons_of_mem _ hq)) ?_
    have h3 := h1 q List.mem_cons_self
    unfold stStep
    dsimp only
    split
    · exact h2
    · intro x hx
      simp only [List.mem_append, List.mem_cons, List.not_mem_nil, or_false] at hx
      rcases hx with hx | rfl
      · exact h2 x hx
      · exact h3
    · exact h2
theorem stretch_base {ws : List (List Pt)} {m row : Int} {odd : Bool} {x : Spn} (h : x ∈ stretchM ws m row odd) : x.2.2 = wholeR (crossM ws m row) :=
  st_base _ _ (fun _ hq => inOrder_base hq) (by simp) x h
theorem st_len {odd : Bool} : ∀ (qs : List Qd) (s : StSt), (qs.foldl (stStep odd) s).found.length ≤ s.found.length + qs.length
  | [], s => by simp
  | q :: qs, s => by
    have h1 := st_len (odd := odd) qs (stStep odd s q)
    have h2 : (stStep odd s q).found.length ≤ s.found.length + 1 := by
      unfold stStep
      dsimp only
      split <;> simp
    simp only [List.foldl_cons, List.length_cons]
    omega
theorem stretch_len {ws : List (List Pt)} {m row : Int} {odd : Bool} (hw : WsOk ws) (m1 : 0 < m) (m2 : m < 1048576) (hr : RowOk ws m row) : (stretchM ws m row odd).length ≤ 400 := by
  have h1 := (cross_ok hw m1 m2 hr).len
  have h2 := inOrder_len (crossM ws m row)
  have h3 := st_len (odd := odd) (inOrderM (crossM ws m row)) ⟨[], none, 0, 0⟩
  simp only [List.length_nil, Nat.zero_add] at h3
  unfold stretchM stretchQ
  omega
theorem fold_pos : ∀ (bs : List Int) (m : Int), 0 < m → (∀ b ∈ bs, 0 < b) → 0 < bs.foldl lcmS m
  | [], _, h, _ => h
  | b :: bs, m, h, hb => fold_pos bs _ (lcmS_dvd (B := m * b) h (hb b List.mem_cons_self) (Int.dvd_mul_right ..) (Int.dvd_mul_left ..)).1 fun c hc => hb c (List.mem_cons_of_mem _ hc)
theorem whole_pos {rs : List Spn} (h : CrossOk rs) : 0 < wholeR rs := fold_pos _ _ (by omega) fun b hb => by
  obtain ⟨r, hr, rfl⟩ := List.mem_map.mp hb
  exact h.pos r hr
theorem stretch_ok {ws : List (List Pt)} {m row : Int} {odd : Bool} (hw : WsOk ws) (m1 : 0 < m) (m2 : m < 1048576) (hr : RowOk ws m row) {x : Spn} (hx : x ∈ stretchM ws m row odd) : 0 < x.2.2 ∧ Sz 8800 x.2.2 := by
  rw [stretch_base hx]
  exact ⟨whole_pos (cross_ok hw m1 m2 hr), hr.2⟩
theorem putFold_len (row : Int) : ∀ (cs : List Pt) (acc : List Spn), (cs.foldl (putStep row) acc).length ≤ acc.length + cs.length
  | [], acc => by simp
  | c :: cs, acc => by
    have h1 := putFold_len row cs (putStep row acc c)
    have h2 := put_len row acc c
    simp only [List.foldl_cons, List.length_cons]
    omega
theorem putM_len (row : Int) (cs : List Pt) : (putM row cs).length ≤ cs.length := by
  have := putFold_len row (sortP cs) []
  have h2 := (sortP_perm cs).length_eq
  unfold putM
  simp at this
  omega
theorem vc_cells (ds : List D) (S : Sto) (Q : QD) (h : sp_cells ds S Q) : r_cells { nx := fun _ S' => Q .non S', rt := Q } (startD 11 ds) S := by
  obtain ⟨o, i, ps, odd, drops, rfl, hc, hrow, h⟩ := h
  obtain ⟨m1, m2⟩ := scale_ok hc.ok hc.sc
  have hw := wholes_ok hc
  unfold r_cells
  walk_at "vc"
  refine ⟨o, i, ps, rfl, hc.ok, odd, rfl, ?_⟩
  walk_at "vc"
  refine ⟨o, i, ps, rfl, hc.ok, hc.sc, ?_⟩
  walk_at "vc"
  refine ⟨o, i, ps, rfl, hc, ?_⟩
  walk_at "vc"
  obtain ⟨hcnt, hrows⟩ := hrow
  unfold cellsM cellsW at h
  generalize wholesM (scaleM ps) ps = ws at *
  generalize scaleM ps = m at *
  refine ⟨ws, m, rfl, hw, m1, m2, ?_⟩
  walk_at "vc"
  generalize firstRow ws m = f at *
  generalize cntRows ws m = n at *
  rw [if_neg (by omega)]
  intro p hp
  refine sForR_of f n.toNat (sup S p (.lst [])) (fun k ρ S' => S' = sup S p (.lst (((List.range k).flatMap fun k : Nat => rowM ws m odd drops (f + (k : Int))).map spanD)) ∧ ((List.range k).flatMap fun k : Nat => rowM ws m odd drops (f + (k : Int))).length ≤ 400 * k ∧ ∃ a b c, ρ = [some (partsD o i ps), some (D.str (ruleS odd)), some (D.bl drops), some (D.int m), some (wsD ws), some (D.int f), some (D.int n), some (D.ref p), a, b, c])
    (fun R hR => ?_) ⟨rfl, by simp, _, _, _, rfl⟩ ?_ ?_
  · walk_at "vc"
    rw [show f + n - f = n by omega]
    exact hR
  · rintro k ρ S' hk ⟨rfl, hlen, a, b, c, rfl⟩
    have hro := hrows (f + (k : Int)) (by omega) (by omega)
    have hsl := stretch_len (odd := odd) hw m1 m2 hro
    walk_at "vc"
    refine dLc_of (.lst ((stretchM ws m (f + (k : Int)) odd).map spanD)) (stretchM ws m (f + (k : Int)) odd) spanD (fun s => some (DL.pairD (filledM drops s))) (fun R h => ?_) rfl (le_line (by omega)) (fun s hs r zs Y N hr hy => ?_) ?_
    · walk_at "vc"
      exact ⟨ws, m, _, odd, rfl, hw, m1, m2, hro, h⟩
    · obtain ⟨b1, b2⟩ := stretch_ok hw m1 m2 hro hs
      walk_at "vc"
      exact ⟨s, drops, rfl, b1, b2, hy⟩
    · rw [filterMap_all]
      refine dExtend_of p _ (fun R h => by exact h) sup_same ?_
      walk_at "vc"
      refine ⟨f + (k : Int), (stretchM ws m (f + (k : Int)) odd).map (filledM drops), by rw [List.map_map]; rfl, by rw [List.length_map]; omega, ?_⟩
      have hpl := putM_len (f + (k : Int)) ((stretchM ws m (f + (k : Int)) odd).map (filledM drops))
      rw [List.length_map] at hpl
      refine ⟨_, _, sup_same, rfl, ?_, ?_⟩
      · simp only [List.length_map, sizeLine_eq]
        omega
      · rw [sup_sup, List.range_succ, List.flatMap_append, List.map_append]
        refine ⟨by simp [rowM], ?_, _, _, _, rfl⟩
        simp only [List.length_append, List.flatMap_cons, List.flatMap_nil, List.append_nil]
        unfold rowM at hlen ⊢
        omega
  · rintro ρ S' ⟨rfl, hlen, a, b, c, rfl⟩
    walk_at "vc"
    exact h p hp

end KC

set_option maxHeartbeats 200000
/-! S78: what the defs of law_k78_spans_and_pictures promise. -/
namespace K78
open PySem PySem.Spec PyProof.Rows L2 DL KC
/-! ### the plain forms -/
/-- rising: the next one begins behind this one's end -/
def Rises : List Spn → Prop
  | [] => True
  | [_] => True
  | s :: t :: r => (s.1 < t.1 ∨ s.1 = t.1 ∧ s.2.2 < t.2.1) ∧ Rises (t :: r)
def Good (ss : List Spn) : Prop := (∀ s ∈ ss, s.2.1 < s.2.2) ∧ Rises ss
def meet (s o : Spn) : Option Spn := if o.1 = s.1 ∧ max s.2.1 o.2.1 < min s.2.2 o.2.2 then some (s.1, max s.2.1 o.2.1, min s.2.2 o.2.2) else none
def both (ss os : List Spn) : List Spn := ss.flatMap fun s => os.filterMap fun o => meet s o
/-- the box: what is left of the cell, two remainders, a count -/
def BoxC (n : Nat) (c : Cell) : Prop := ∃ x0 x1 x2 x3 : Int, c = .lst [.int x0, .int x1, .int x2, .int x3] ∧ 0 ≤ x0 ∧ 0 ≤ x1 ∧ x1 < 2147483648 ∧ 0 ≤ x2 ∧ x2 < 2147483648 ∧ 0 ≤ x3 ∧ x3 + n ≤ 10000
def isSeqD : D → Bool
  | .lst _ => true
  | .tup _ => true
  | .ref _ => true
  | _ => false
/-! ### the promises -/
def sp_is_span : Dsp := fun ds S Q => ∃ s : Spn, ds = [spanD s] ∧ Q (.bl (decide (s.2.1 < s.2.2))) S
def sp_need_spans : Dsp := fun ds S Q => ∃ (d : D) (ss : List Spn), ds = [d] ∧ isSeqD d = true ∧ seqOf S d = some (ss.map spanD) ∧ Good ss ∧ ss.length ≤ sizeLine ∧ Q .non S
def sp_in_both : Dsp := fun ds S Q => ∃ (d e : D) (ss os : List Spn), ds = [d, e] ∧ isSeqD d = true ∧ isSeqD e = true ∧ seqOf S d = some (ss.map spanD) ∧ seqOf S e = some (os.map spanD) ∧ Good ss ∧ Good os ∧ ss.length * os.length ≤ 1000000 ∧ ss.length ≤ sizeLine ∧ os.length ≤ sizeLine ∧
  ∀ p, S p = none → Q (.ref p) (sup S p (.lst ((both ss os).map spanD)))
def sp__law_cell : Dsp := fun ds S Q => ∃ (ns : List Int) (k : Nat), ds = [.rol (ns.map D.int), .int k] ∧ k < 100 ∧ ∀ x : Int, Q (.int x) S
def sp__law_box : Dsp := fun ds S Q => ∃ x : Int, ds = [.int x] ∧ ∀ p c, S p = none → BoxC 10000 c → Q (.ref p) (sup S p c)
def sp__law_take : Dsp := fun ds S Q => ∃ (b : Addr) (n : Nat) (c : Cell) (m : Int), ds = [.ref b, .int m] ∧ 0 < m ∧ m < 1073741824 ∧ S b = some c ∧ BoxC (n + 1) c ∧ ∀ (x : Int) (c' : Cell), 0 ≤ x → x < m → BoxC n c' → Q (.int x) (sup S b c')
def SmallM (m : Nat) (k : Int) (ss : List Spn) : Prop := Good ss ∧ ss.length ≤ m ∧ ∃ r0 c0 R C : Int, -1000 - k ≤ r0 ∧ r0 ≤ 1000 + k ∧ -50 - k ≤ c0 ∧ c0 ≤ 50 + k ∧ 0 ≤ R ∧ R ≤ 250 ∧ 0 ≤ C ∧ C ≤ 250 ∧ R * C ≤ 8000 ∧ ∀ s ∈ ss, r0 ≤ s.1 ∧ s.1 < r0 + R ∧ c0 ≤ s.2.1 ∧ s.2.2 ≤ c0 + C
abbrev SmallK (k : Int) (ss : List Spn) : Prop := SmallM 500 k ss
def sp__law_spans_drawn : Dsp := fun ds S Q => ∃ (b : Addr) (n : Nat) (c : Cell), ds = [.ref b] ∧ S b = some c ∧ BoxC (n + 400) c ∧ ∀ (ss : List Spn) (c' : Cell), SmallK 0 ss → BoxC n c' → Q (.lst (ss.map spanD)) (sup S b c')
def sp__law_some_out : Dsp := fun ds S Q => ∃ (b : Addr) (n : Nat) (c : Cell) (ss : List Spn), ds = [.ref b, .lst (ss.map spanD)] ∧ S b = some c ∧ BoxC (n + 410) c ∧ SmallK 0 ss ∧ ∀ (os : List Spn) (c' : Cell), SmallK 10 os → BoxC n c' → Q (.lst (os.map spanD)) (sup S b c')
def cellsOf (ss : List Spn) : List (Int × Int) := ss.flatMap fun s => (List.range (s.2.2 - s.2.1).toNat).map fun i : Nat => (s.1, s.2.1 + (i : Int))
def step (acc : List Spn) (p : Int × Int) : List Spn := match acc.getLast? with
  | some l => if l.1 = p.1 ∧ l.2.2 = p.2 then acc.dropLast ++ [(p.1, l.2.1, p.2 + 1)] else acc ++ [(p.1, p.2, p.2 + 1)]
  | none => acc ++ [(p.1, p.2, p.2 + 1)]
def runs (ps : List (Int × Int)) : List Spn := ps.foldl step []
def due (ss os : List Spn) : List Spn := runs ((cellsOf ss).filter fun p => decide (p ∈ cellsOf os))
def sp__law_cells_of : Dsp := fun ds S Q => ∃ ss : List Spn, ds = [.lst (ss.map spanD)] ∧ SmallK 10 ss ∧ Q (.lst ((cellsOf ss).map pairD)) S
def sp__law_both_due : Dsp := fun ds S Q => ∃ ss os : List Spn, ds = [.lst (ss.map spanD), .lst (os.map spanD)] ∧ SmallK 10 ss ∧ SmallK 10 os ∧ Q (.lst ((due ss os).map spanD)) S
def manyR (r : Nat) : List Spn := [((r : Int), (r : Int) % 3, 1 + (r : Int) % 3 + (r : Int) % 2), ((r : Int), 5 + (r : Int) % 3, 6 + (r : Int) % 3 + (r : Int) % 2)]
def many : List Spn := (List.range 200).flatMap manyR
def sp__law_many : Dsp := fun ds S Q => ds = [] ∧ Q (.lst (many.map spanD)) S
def Sign (z : Str) : Prop := z.length = 1 ∧ PyData.strOk z = true
def sp__law_signs : Dsp := fun ds S Q => ∃ (b : Addr) (n : Nat) (c : Cell), ds = [.ref b] ∧ S b = some c ∧ BoxC (n + 2) c ∧ ∀ (x y : Str) (c' : Cell), Sign x → Sign y → BoxC n c' → Q (.tup [.str x, .str y]) (sup S b c')
/-! ### pictures -/
def heldB (ss : List Spn) (r c : Int) : Bool := ss.any fun s => decide (s.1 = r) && (decide (s.2.1 ≤ c) && decide (c < s.2.2))
def catS (ys : List Str) : Str := ys.foldl (fun a b => a ++ b) ⟨#[]⟩
def lineL (ss : List Spn) (x y : Str) (r low : Int) (n : Nat) : List Str := (List.range n).map fun k : Nat => if heldB ss r (low + (k : Int)) then x else y
def picS (ss : List Spn) (x y : Str) (low high first last : Int) : Str := Txt.join "\n" ((List.range (last + 1 - first).toNat).map fun i : Nat => catS (lineL ss x y (last - (i : Int)) low (high - low).toNat))
def IsLow (ss : List Spn) (m : Int) : Prop := m ∈ ss.map (·.2.1) ∧ ∀ k ∈ ss.map (·.2.1), m ≤ k
def IsHigh (ss : List Spn) (m : Int) : Prop := m ∈ ss.map (·.2.2) ∧ ∀ k ∈ ss.map (·.2.2), k ≤ m
def PicIs (ss : List Spn) (x y : Str) (k : Str → Prop) : Prop := (ss = [] → k "") ∧ ∀ (f l : Spn) (low high : Int), ss.head? = some f → ss.getLast? = some l → IsLow ss low → IsHigh ss high → k (picS ss x y low high f.1 l.1)
def sp_picture : Dsp := fun ds S Q => ∃ (d : D) (ss : List Spn) (x y : Str), ds = [d, .str x, .str y] ∧ isSeqD d = true ∧ seqOf S d = some (ss.map spanD) ∧ SmallM 300000 10 ss ∧ Sign x ∧ Sign y ∧ PicIs ss x y fun z => Q (.str z) S
def sp__law_picture_due : Dsp := fun ds S Q => ∃ (ss : List Spn) (x y : Str), ds = [.lst (ss.map spanD), .str x, .str y] ∧ SmallM 300000 10 ss ∧ Sign x ∧ Sign y ∧ PicIs ss x y fun z => Q (.str z) S
def sp__law_wide_right : Dsp := fun ds S Q => ∃ (b : Addr) (n : Nat) (c : Cell), ds = [.ref b] ∧ S b = some c ∧ BoxC (n + 3) c ∧ ∀ c', BoxC n c' → Q (.bl true) (sup S b c')
def sp__law_told_right : Dsp := fun ds S Q => ds = [] ∧ Q (.bl true) S
def sp_law : Dsp := fun ds S Q => ∃ ns : List Int, ds = [.rol (ns.map D.int)] ∧ ns.length ≤ 63 ∧ ∀ S', Q (.bl true) S'
end K78

set_option maxHeartbeats 200000
/-! M78: the plain law of spans. -/
namespace K78
open PySem DL
/-- before, with a gap -/
def Bef (s t : Spn) : Prop := s.1 < t.1 ∨ s.1 = t.1 ∧ s.2.2 < t.2.1
theorem good_pw : ∀ {ss : List Spn}, Good ss → ss.Pairwise Bef
  | [], _ => .nil
  | [s], _ => List.pairwise_singleton _ _
  | s :: t :: r, h => by
    have ih := good_pw (ss := t :: r) ⟨fun x hx => h.1 x (List.mem_cons_of_mem _ hx), h.2.2⟩
    refine List.Pairwise.cons (fun x hx => ?_) ih
    have h1 : Bef s t := h.2.1
    rcases List.mem_cons.mp hx with rfl | hx
    · exact h1
    · have h2 : Bef t x := (List.pairwise_cons.mp ih).1 x hx
      have ht := h.1 t (by simp)
      unfold Bef at *
      omega
theorem pw_rises : ∀ {ss : List Spn}, ss.Pairwise Bef → Rises ss
  | [], _ => trivial
  | [s], _ => trivial
  | s :: t :: r, h => ⟨(List.pairwise_cons.mp h).1 t (by simp), pw_rises (ss := t :: r) (List.pairwise_cons.mp h).2⟩
theorem pw_good {ss : List Spn} (h1 : ∀ s ∈ ss, s.2.1 < s.2.2) (h2 : ss.Pairwise Bef) : Good ss := ⟨h1, pw_rises h2⟩
theorem good_fm {ss : List Spn} (f : Spn → Option Spn) (h : Good ss) (h1 : ∀ s t, s.2.1 < s.2.2 → f s = some t → t.2.1 < t.2.2) (h2 : ∀ s t s' t', f s = some s' → f t = some t' → Bef s t → Bef s' t') : Good (ss.filterMap f) := by
  refine pw_good (fun t ht => ?_) ?_
  · obtain ⟨s, hs, e⟩ := List.mem_filterMap.mp ht
    exact h1 s t (h.1 s hs) e
  · refine List.Pairwise.filterMap f (fun s t hst s' hs' t' ht' => h2 s t s' t' hs' ht' hst) (good_pw h)
theorem small_fm {ss : List Spn} (f : Spn → Option Spn) (dr dc : Int) (h : SmallK 0 ss) (e1 : -10 ≤ dr) (e2 : dr ≤ 10) (e3 : -10 ≤ dc) (e4 : dc ≤ 10) (h1 : ∀ s t, s.2.1 < s.2.2 → f s = some t → t.2.1 < t.2.2) (h2 : ∀ s t s' t', f s = some s' → f t = some t' → Bef s t → Bef s' t')
    (h3 : ∀ s t, f s = some t → t.1 = s.1 + dr ∧ s.2.1 + dc ≤ t.2.1 ∧ t.2.2 ≤ s.2.2 + dc) : SmallK 10 (ss.filterMap f) := by
  obtain ⟨g, l, r0, c0, R, C, a1, a2, a3, a4, a5, a6, a7, a8, a9, hr⟩ := h
  refine ⟨good_fm f g h1 h2, Nat.le_trans (List.length_filterMap_le _ _) l, r0 + dr, c0 + dc, R, C, by omega, by omega, by omega, by omega, a5, a6, a7, a8, a9, fun t ht => ?_⟩
  obtain ⟨s, hs, e⟩ := List.mem_filterMap.mp ht
  obtain ⟨b1, b2, b3, b4⟩ := hr s hs
  obtain ⟨c1, c2, c3⟩ := h3 s t e
  omega
theorem small_up {ss : List Spn} (h : SmallK 0 ss) : SmallK 10 ss := by
  obtain ⟨g, l, r0, c0, R, C, a1, a2, a3, a4, a⟩ := h
  exact ⟨g, l, r0, c0, R, C, by omega, by omega, by omega, by omega, a⟩
end K78

set_option maxHeartbeats 200000
/-! M78b: the runs of the cells that both have are the meets. -/
namespace K78
open PySem DL
def LtP (p q : Int × Int) : Prop := p.1 < q.1 ∨ p.1 = q.1 ∧ p.2 < q.2
theorem sorted_uniq : ∀ {l m : List (Int × Int)}, l.Pairwise LtP → m.Pairwise LtP → (∀ x, x ∈ l ↔ x ∈ m) → l = m
  | [], [], _, _, _ => rfl
  | [], b :: m, _, _, h => absurd ((h b).mpr List.mem_cons_self) (by simp)
  | a :: l, [], _, _, h => absurd ((h a).mp List.mem_cons_self) (by simp)
  | a :: l, b :: m, h1, h2, h => by
    obtain ⟨p1, p2⟩ := List.pairwise_cons.mp h1
    obtain ⟨q1, q2⟩ := List.pairwise_cons.mp h2
    have e : a = b := by
      rcases List.mem_cons.mp ((h a).mp List.mem_cons_self) with e | ha
      · exact e
      · rcases List.mem_cons.mp ((h b).mpr List.mem_cons_self) with e | hb
        · exact e.symm
        · have x := q1 a ha
          have y := p1 b hb
          unfold LtP at x y
          omega
    subst e
    rw [sorted_uniq p2 q2 fun x => ?_]
    have irr : ∀ y, LtP y y → False := fun y h => by unfold LtP at h; omega
    constructor
    · intro hx
      rcases List.mem_cons.mp ((h x).mp (List.mem_cons_of_mem _ hx)) with rfl | hx2
      · exact (irr _ (p1 _ hx)).elim
      · exact hx2
    · intro hx
      rcases List.mem_cons.mp ((h x).mpr (List.mem_cons_of_mem _ hx)) with rfl | hx2
      · exact (irr _ (q1 _ hx)).elim
      · exact hx2
theorem mem_cells {ss : List Spn} {p : Int × Int} : p ∈ cellsOf ss ↔ ∃ s ∈ ss, p.1 = s.1 ∧ s.2.1 ≤ p.2 ∧ p.2 < s.2.2 := by
  unfold cellsOf
  rw [List.mem_flatMap]
  constructor
  · rintro ⟨s, hs, h⟩
    obtain ⟨i, hi, rfl⟩ := List.mem_map.mp h
    have hi := List.mem_range.mp hi
    exact ⟨s, hs, rfl, by show s.2.1 ≤ s.2.1 + (i : Int); omega, by show s.2.1 + (i : Int) < s.2.2; omega⟩
  · rintro ⟨s, hs, h1, h2, h3⟩
    refine ⟨s, hs, List.mem_map.mpr ⟨(p.2 - s.2.1).toNat, List.mem_range.mpr (by omega), ?_⟩⟩
    refine Prod.ext h1.symm ?_
    show s.2.1 + ((p.2 - s.2.1).toNat : Int) = p.2
    omega
theorem cells_sorted : ∀ {ss : List Spn}, ss.Pairwise Bef → (cellsOf ss).Pairwise LtP
  | [], _ => by simp [cellsOf]
  | s :: ss, h => by
    obtain ⟨h1, h2⟩ := List.pairwise_cons.mp h
    show (((List.range (s.2.2 - s.2.1).toNat).map fun i : Nat => (s.1, s.2.1 + (i : Int))) ++ cellsOf ss).Pairwise LtP
    rw [List.pairwise_append]
    refine ⟨?_, cells_sorted h2, fun p hp q hq => ?_⟩
    · rw [List.pairwise_map]
      refine List.Pairwise.imp (fun {a b} hab => ?_) List.pairwise_lt_range
      right
      exact ⟨rfl, by show s.2.1 + (a : Int) < s.2.1 + (b : Int); omega⟩
    · obtain ⟨i, hi, rfl⟩ := List.mem_map.mp hp
      have hi := List.mem_range.mp hi
      obtain ⟨t, ht, e1, e2, e3⟩ := mem_cells.mp hq
      have := h1 t ht
      unfold Bef at this
      unfold LtP
      simp only
      omega
theorem meet_ok {s o t : Spn} (h : meet s o = some t) : o.1 = s.1 ∧ max s.2.1 o.2.1 < min s.2.2 o.2.2 ∧ t = (s.1, max s.2.1 o.2.1, min s.2.2 o.2.2) := by
  unfold meet at h
  split at h
  · rename_i c
    injection h with h
    exact ⟨c.1, c.2, h.symm⟩
  · cases h
theorem good_both {ss os : List Spn} (g1 : Good ss) (g2 : Good os) : Good (both ss os) := by
  refine pw_good (fun t ht => ?_) ?_
  · obtain ⟨s, hs, h⟩ := List.mem_flatMap.mp ht
    obtain ⟨o, ho, e⟩ := List.mem_filterMap.mp h
    obtain ⟨a, b, rfl⟩ := meet_ok e
    exact b
  · have pw1 := good_pw g1
    have pw2 := good_pw g2
    have g1' := g1.1
    clear g1
    unfold both
    induction ss with
    | nil => exact .nil
    | cons s ss ih =>
      obtain ⟨h1, h2⟩ := List.pairwise_cons.mp pw1
      rw [List.flatMap_cons, List.pairwise_append]
      refine ⟨?_, ih h2 fun x hx => g1' x (List.mem_cons_of_mem _ hx), fun p hp q hq => ?_⟩
      · refine List.Pairwise.filterMap _ (fun a b hab p hp q hq => ?_) pw2
        obtain ⟨a1, a2, rfl⟩ := meet_ok hp
        obtain ⟨b1, b2, rfl⟩ := meet_ok hq
        refine .inr ⟨rfl, ?_⟩
        show min s.2.2 a.2.2 < max s.2.1 b.2.1
        unfold Bef at hab
        omega
      · obtain ⟨o, ho, e⟩ := List.mem_filterMap.mp hp
        obtain ⟨t, ht, h⟩ := List.mem_flatMap.mp hq
        obtain ⟨o2, ho2, e2⟩ := List.mem_filterMap.mp h
        obtain ⟨a1, a2, rfl⟩ := meet_ok e
        obtain ⟨b1, b2, rfl⟩ := meet_ok e2
        have := h1 t ht
        unfold Bef at *
        simp only
        omega
theorem filter_cells {ss os : List Spn} (g1 : Good ss) (g2 : Good os) : ((cellsOf ss).filter fun p => decide (p ∈ cellsOf os)) = cellsOf (both ss os) := by
  refine sorted_uniq ((cells_sorted (good_pw g1)).filter _) (cells_sorted (good_pw (good_both g1 g2))) fun x => ?_
  rw [List.mem_filter, decide_eq_true_eq]
  constructor
  · rintro ⟨h1, h2⟩
    obtain ⟨s, hs, a1, a2, a3⟩ := mem_cells.mp h1
    obtain ⟨o, ho, b1, b2, b3⟩ := mem_cells.mp h2
    refine mem_cells.mpr ⟨(s.1, max s.2.1 o.2.1, min s.2.2 o.2.2), List.mem_flatMap.mpr ⟨s, hs, List.mem_filterMap.mpr ⟨o, ho, if_pos ⟨by omega, by omega⟩⟩⟩, a1, ?_, ?_⟩
    · show max s.2.1 o.2.1 ≤ x.2
      omega
    · show x.2 < min s.2.2 o.2.2
      omega
  · intro h
    obtain ⟨t, ht, a1, a2, a3⟩ := mem_cells.mp h
    obtain ⟨s, hs, h⟩ := List.mem_flatMap.mp ht
    obtain ⟨o, ho, e⟩ := List.mem_filterMap.mp h
    obtain ⟨b1, b2, rfl⟩ := meet_ok e
    simp only at a1 a2 a3
    exact ⟨mem_cells.mpr ⟨s, hs, a1, by omega, by omega⟩, mem_cells.mpr ⟨o, ho, by omega, by omega, by omega⟩⟩
theorem step_new {acc : List Spn} {p : Int × Int} (h : ∀ l, acc.getLast? = some l → ¬ (l.1 = p.1 ∧ l.2.2 = p.2)) : step acc p = acc ++ [(p.1, p.2, p.2 + 1)] := by
  unfold step
  split
  · rename_i l e
    rw [if_neg (h l e)]
  · rfl
theorem step_more {acc : List Spn} {r b e : Int} : step (acc ++ [(r, b, e)]) (r, e) = acc ++ [(r, b, e + 1)] := by
  unfold step
  simp
/-- the cells of one span, behind what does not touch it -/
theorem run_one {acc : List Spn} {r b : Int} (h : ∀ l, acc.getLast? = some l → ¬ (l.1 = r ∧ l.2.2 = b)) : ∀ n : Nat, ((List.range (n + 1)).map fun i : Nat => (r, b + (i : Int))).foldl step acc = acc ++ [(r, b, b + ((n + 1 : Nat) : Int))]
  | 0 => by
    show step acc (r, b + ((0 : Nat) : Int)) = _
    rw [show b + ((0 : Nat) : Int) = b by omega, step_new h]
    rfl
  | n + 1 => by
    rw [List.range_succ, List.map_append, List.foldl_append, run_one h n]
    show step (acc ++ [(r, b, b + ((n + 1 : Nat) : Int))]) (r, b + ((n + 1 : Nat) : Int)) = _
    rw [step_more]
    rw [show b + ((n + 1 : Nat) : Int) + 1 = b + ((n + 1 + 1 : Nat) : Int) by omega]
theorem runs_cells : ∀ (zs acc : List Spn), (∀ s ∈ zs, s.2.1 < s.2.2) → (acc ++ zs).Pairwise Bef → (cellsOf zs).foldl step acc = acc ++ zs
  | [], acc, _, _ => by simp [cellsOf]
  | s :: zs, acc, h, pw => by
    have hs := h s List.mem_cons_self
    show ((((List.range (s.2.2 - s.2.1).toNat).map fun i : Nat => (s.1, s.2.1 + (i : Int))) ++ cellsOf zs).foldl step acc) = _
    rw [List.foldl_append]
    obtain ⟨n, hn⟩ : ∃ n : Nat, (s.2.2 - s.2.1).toNat = n + 1 := ⟨(s.2.2 - s.2.1).toNat - 1, by omega⟩
    rw [hn, run_one (fun l hl c => ?_) n, show s.2.1 + ((n + 1 : Nat) : Int) = s.2.2 by omega]
    · rw [runs_cells zs (acc ++ [(s.1, s.2.1, s.2.2)]) (fun t ht => h t (List.mem_cons_of_mem _ ht)) (by rw [List.append_assoc]; exact pw)]
      simp
    · have hl := List.mem_of_getLast? hl
      have := (List.pairwise_append.mp pw).2.2 l hl s List.mem_cons_self
      unfold Bef at this
      omega
/-- THE PLAIN LAW of cells -/
theorem due_both {ss os : List Spn} (g1 : Good ss) (g2 : Good os) : due ss os = both ss os := by
  unfold due runs
  rw [filter_cells g1 g2]
  have g := good_both g1 g2
  have := runs_cells (both ss os) [] g.1 (by simpa using good_pw g)
  simpa using this
theorem both_size (ss os : List Spn) : (both ss os).length ≤ ss.length * os.length := by
  unfold both
  induction ss with
  | nil => simp
  | cons s ss ih =>
    rw [List.flatMap_cons, List.length_append, List.length_cons, Nat.succ_mul]
    have := List.length_filterMap_le (fun o => meet s o) os
    omega
theorem small_both {ss os : List Spn} (h1 : SmallK 10 ss) (h2 : SmallK 10 os) : SmallM 300000 10 (both ss os) := by
  have hb := both_size ss os
  obtain ⟨g1, l1, r0, c0, R, C, a1, a2, a3, a4, a5, a6, a7, a8, a9, hr⟩ := h1
  obtain ⟨g2, l2, _⟩ := h2
  have hm : ss.length * os.length ≤ 500 * 500 := Nat.mul_le_mul l1 l2
  refine ⟨good_both g1 g2, by omega, r0, c0, R, C, a1, a2, a3, a4, a5, a6, a7, a8, a9, fun t ht => ?_⟩
  obtain ⟨s, hs, h⟩ := List.mem_flatMap.mp ht
  obtain ⟨o, ho, e⟩ := List.mem_filterMap.mp h
  obtain ⟨b1, b2, rfl⟩ := meet_ok e
  obtain ⟨d1, d2, d3, d4⟩ := hr s hs
  refine ⟨d1, d2, ?_, ?_⟩
  · show c0 ≤ max s.2.1 o.2.1
    omega
  · show min s.2.2 o.2.2 ≤ c0 + C
    omega
theorem small_more {m : Nat} {k : Int} {ss : List Spn} (h : SmallK k ss) (l : 500 ≤ m) : SmallM m k ss := ⟨h.1, Nat.le_trans h.2.1 l, h.2.2⟩
def risesB : List Spn → Bool
  | [] => true
  | [_] => true
  | s :: t :: r => (decide (s.1 < t.1) || (decide (s.1 = t.1) && decide (s.2.2 < t.2.1))) && risesB (t :: r)
theorem risesB_ok : ∀ {ss : List Spn}, risesB ss = true → Rises ss
  | [], _ => trivial
  | [_], _ => trivial
  | s :: t :: r, h => by
    simp only [risesB, Bool.and_eq_true, Bool.or_eq_true, decide_eq_true_eq] at h
    exact ⟨h.1, risesB_ok h.2⟩
def smallB (r0 c0 R C : Int) (ss : List Spn) : Bool := risesB ss && ss.all fun s => decide (s.2.1 < s.2.2) && (decide (r0 ≤ s.1) && (decide (s.1 < r0 + R) && (decide (c0 ≤ s.2.1) && decide (s.2.2 ≤ c0 + C))))
theorem smallB_ok {m : Nat} {k r0 c0 R C : Int} {ss : List Spn} (h : smallB r0 c0 R C ss = true) (hl : ss.length ≤ m) (a1 : -1000 - k ≤ r0) (a2 : r0 ≤ 1000 + k) (a3 : -50 - k ≤ c0) (a4 : c0 ≤ 50 + k) (a5 : 0 ≤ R) (a6 : R ≤ 250) (a7 : 0 ≤ C) (a8 : C ≤ 250) (a9 : R * C ≤ 8000) : SmallM m k ss := by
  simp only [smallB, Bool.and_eq_true, List.all_eq_true, decide_eq_true_eq] at h
  exact ⟨⟨fun s hs => (h.2 s hs).1, risesB_ok h.1⟩, hl, r0, c0, R, C, a1, a2, a3, a4, a5, a6, a7, a8, a9, fun s hs => (h.2 s hs).2⟩
theorem small_many : SmallK 0 many := smallB_ok (r0 := 0) (c0 := 0) (R := 200) (C := 10) (by decide +kernel) (by decide +kernel) (by omega) (by omega) (by omega) (by omega) (by omega) (by omega) (by omega) (by omega) (by omega)
theorem low_uniq {ss : List Spn} {a b : Int} (h1 : IsLow ss a) (h2 : IsLow ss b) : a = b := by
  have x := h1.2 b h2.1
  have y := h2.2 a h1.1
  omega
theorem high_uniq {ss : List Spn} {a b : Int} (h1 : IsHigh ss a) (h2 : IsHigh ss b) : a = b := by
  have x := h1.2 b h2.1
  have y := h2.2 a h1.1
  omega
end K78

set_option maxHeartbeats 200000
namespace K78
open PySem PySem.Spec PyProof.Rows L2 DL KC
theorem short_int {i : Int} (h : i.natAbs < 10 ^ 7) : PyData.leavesShort 8 (.int i) = true := by
  have := int_text_length_le10 (k := 7) (by omega) h
  have e : (PyData.shown (.int i)).length = (toString i).length := by
    show (Str.ofString (toString i)).length = _
    rw [PySem.ofString_length]
  simp only [PyData.leavesShort, decide_eq_true_eq, e]
  omega
theorem showable_int {i : Int} (h : i.natAbs < 10 ^ 7) : PyData.showable (.int i) = true := by
  simp only [PyData.showable, decide_eq_true_eq]
  by_cases h0 : i.natAbs = 0
  · rw [h0]; decide
  · rw [Nat.log2_lt h0]
    refine Nat.lt_of_lt_of_le h ?_
    generalize hn : (1920 : Nat) = n
    exact Nat.le_trans (show 10 ^ 7 ≤ 2 ^ 24 by decide) (Nat.pow_le_pow_right (by omega) (by omega))
theorem spans_show : ∀ {ss : List Spn}, (∀ s ∈ ss, s.1.natAbs < 10 ^ 7 ∧ s.2.1.natAbs < 10 ^ 7 ∧ s.2.2.natAbs < 10 ^ 7) →
    PyData.leavesShortAll 8 (pds (ss.map spanD)) = true ∧ PyData.showableAll (pds (ss.map spanD)) = true ∧ PyData.bulkAll (pds (ss.map spanD)) = 4 * ss.length
  | [], _ => ⟨rfl, rfl, rfl⟩
  | s :: ss, h => by
    obtain ⟨a, b, c⟩ := spans_show (ss := ss) fun t ht => h t (List.mem_cons_of_mem _ ht)
    obtain ⟨h1, h2, h3⟩ := h s List.mem_cons_self
    have k1 := short_int h1
    have k2 := short_int h2
    have k3 := short_int h3
    have l1 := showable_int h1
    have l2 := showable_int h2
    have l3 := showable_int h3
    refine ⟨?_, ?_, ?_⟩
    · simp only [List.map_cons, spanD, pds, D.pd, PyData.leavesShortAll, Bool.and_eq_true, PyData.leavesShort] at k1 k2 k3 ⊢
      exact ⟨⟨k1, k2, k3, trivial⟩, a⟩
    · simp only [List.map_cons, spanD, pds, D.pd, PyData.showableAll, Bool.and_eq_true, PyData.showable] at l1 l2 l3 ⊢
      exact ⟨⟨l1, l2, l3, trivial⟩, b⟩
    · simp only [List.map_cons, spanD, pds, D.pd, PyData.bulkAll, PyData.bulk, List.length_cons]
      omega
theorem repr_ok {ss : List Spn} {m : Nat} (h : SmallM m 10 ss) (hl : ss.length ≤ 250000) :
    (D.lst (ss.map spanD)).pd.showable = true ∧ (D.lst (ss.map spanD)).pd.shown.length ≤ sizeLine := by
  obtain ⟨g1, l1, r0, c0, R, C, a1, a2, a3, a4, a5, a6, a7, a8, a9, hr⟩ := h
  obtain ⟨x, y, z⟩ := spans_show (ss := ss) fun s hs => by
    have := hr s hs
    have := g1.1 s hs
    omega
  refine ⟨by simpa only [D.pd, PyData.showable] using y, PyData.shown_fits_bulk (B := 8) (by omega) (by omega) (by simpa only [D.pd, PyData.leavesShort] using x) ?_⟩
  simp only [D.pd, PyData.bulk, z]
  omega
end K78

set_option maxHeartbeats 200000
namespace K78
open PySem PySem.Spec PyProof.Rows L2 DL KC
theorem ok_app (a b : Str) : PyData.strOk (a ++ b) = (PyData.strOk a && PyData.strOk b) := by
  show (a.cps ++ b.cps).all _ = _
  rw [Array.all_append]
  rfl
theorem ok_of (s : String) : PyData.strOk (Str.ofString s) = true := by
  rw [Str.ofString_eq_toList]
  simp only [PyData.strOk, List.all_toArray, List.all_map, List.all_eq_true, Function.comp, decide_eq_true_eq]
  intro c _
  have := c.valid
  rcases this with h | h
  · have : c.toNat < 0xd800 := h
    omega
  · have : c.toNat < 0x110000 := h.2
    omega
theorem ok_join (x : Str) (hx : PyData.strOk x = true) : ∀ (ts : List Str) (t : Str), PyData.strOk t = true → (∀ t ∈ ts, PyData.strOk t = true) → PyData.strOk (Str.join x (t :: ts)) = true
  | [], t, h, _ => h
  | u :: ts, t, h, hs => by
    rw [show Str.join x (t :: u :: ts) = Str.join x ((t ++ x ++ u) :: ts) from (StrLaws.join_shift ..).symm]
    refine ok_join x hx ts _ ?_ fun v hv => hs v (List.mem_cons_of_mem _ hv)
    rw [ok_app, ok_app, h, hx, hs u List.mem_cons_self]
    rfl
theorem ok_list (ts : List Str) (h : ∀ t ∈ ts, PyData.strOk t = true) : PyData.strOk (listText ts) = true := by
  rw [listText_eq_join, ok_app, ok_app, ok_of, ok_of]
  cases ts with
  | nil => decide +kernel
  | cons t ts => rw [ok_join _ (ok_of _) ts t (h t List.mem_cons_self) fun v hv => h v (List.mem_cons_of_mem _ hv)]; rfl
theorem ok_int (i : Int) : PyData.strOk (PyData.shown (.int i)) = true := by
  rw [PyData.shown_int]
  exact ok_of _
theorem ok_span (s : Spn) : PyData.strOk (PyData.shown (spanD s).pd) = true := by
  have h1 := ok_int s.1
  have h2 := ok_int s.2.1
  have h3 := ok_int s.2.2
  simp only [spanD, D.pd, pds, PyData.shown, PyData.shownAll, tupleText] at h1 h2 h3 ⊢
  rw [ok_app, ok_app, ok_of, ok_join _ (ok_of _) _ _ h1 (by intro t ht; simp only [List.mem_cons, List.not_mem_nil, or_false] at ht; rcases ht with rfl | rfl <;> assumption), ok_of]
  rfl
theorem ok_spans (ss : List Spn) : PyData.strOk (D.lst (ss.map spanD)).pd.shown = true := by
  simp only [D.pd, PyData.shown]
  refine ok_list _ fun t ht => ?_
  induction ss with
  | nil => simp [pds, PyData.shownAll] at ht
  | cons s ss ih =>
    simp only [List.map_cons, pds, PyData.shownAll, List.mem_cons] at ht
    rcases ht with rfl | ht
    · exact ok_span s
    · exact ih ht
end K78
namespace K78
open PySem PySem.Spec PyProof.Rows L2 DL KC
theorem both_comm {ss os : List Spn} (g1 : Good ss) (g2 : Good os) : both os ss = both ss os := by
  rw [← due_both g1 g2, ← due_both g2 g1]
  unfold due
  congr 1
  refine sorted_uniq ((cells_sorted (good_pw g2)).filter _) ((cells_sorted (good_pw g1)).filter _) fun x => ?_
  simp only [List.mem_filter, decide_eq_true_eq]
  exact and_comm
end K78

set_option maxHeartbeats 200000
/-! SL: what the shared defs of the laws on cells promise (k76, k77). -/
namespace KL
open PySem PySem.Spec PyProof.Rows L2 DL KC
open K78 (BoxC runs step Good cellsOf)
def sp__law_cell : Dsp := fun ds S Q => ∃ (ns : List Int) (k : Nat), ds = [.rol (ns.map D.int), .int k] ∧ k < 100 ∧ ∀ x : Int, Q (.int x) S
def sp__law_box : Dsp := fun ds S Q => ∃ x : Int, ds = [.int x] ∧ ∀ p c, S p = none → BoxC 10000 c → Q (.ref p) (sup S p c)
def sp__law_take : Dsp := fun ds S Q => ∃ (b : Addr) (n : Nat) (c : Cell) (m : Int), ds = [.ref b, .int m] ∧ 0 < m ∧ m < 1073741824 ∧ S b = some c ∧ BoxC (n + 1) c ∧ ∀ (x : Int) (c' : Cell), 0 ≤ x → x < m → BoxC n c' → Q (.int x) (sup S b c')
def sp__law_number : Dsp := fun ds S Q => ∃ t b : Int, ds = [.int t, .int b] ∧ 0 < b ∧ b < 1073741824 ∧ Q (numD (redM t b)) S
def told (base : Int) (w : List Pt) : List Plc := w.map fun x => (redM x.1 base, redM x.2 base)
def ptsD (w : List Pt) : D := .lst (w.map DL.pairD)
def rowsD (rows : List (List Pt)) : D := .lst (rows.map ptsD)
def sp__law_told : Dsp := fun ds S Q => ∃ (w : List Pt) (base : Int), ds = [ptsD w, .int base] ∧ 0 < base ∧ base < 1073741824 ∧ w.length ≤ 1000 ∧ Q (partD true (told base w)) S
/-- a polygon as drawn, over a base -/
def PolyOk (base : Int) (w : List Pt) : Prop := 1 ≤ w.length ∧ w.length ≤ 8 ∧ ∀ x ∈ w, -250 * base ≤ x.1 ∧ x.1 < 549 * base ∧ -250 * base ≤ x.2 ∧ x.2 < 549 * base
def sp__law_polygon : Dsp := fun ds S Q => ∃ (b : Addr) (n : Nat) (c : Cell) (base : Int), ds = [.ref b, .int base] ∧ 0 < base ∧ base ≤ 12 ∧ S b = some c ∧ BoxC (n + 60) c ∧ ∀ (w : List Pt) (c' : Cell), PolyOk base w → BoxC n c' → Q (ptsD w) (sup S b c')
def longM (w : List Pt) : List Pt := w.flatMap fun x => List.replicate (100 / w.length) x
def sp__law_longer : Dsp := fun ds S Q => ∃ w : List Pt, ds = [ptsD w] ∧ 1 ≤ w.length ∧ w.length ≤ 100 ∧ Q (ptsD (longM w)) S
/-- a scene, at most so many times as high -/
def SceneOk (t base : Int) (rows : List (List Pt)) : Prop := 1 ≤ rows.length ∧ rows.length ≤ 4 ∧ ∀ w ∈ rows, 1 ≤ w.length ∧ w.length ≤ 100 ∧ ∀ x ∈ w, -250 * base ≤ x.1 ∧ x.1 < 549 * base ∧ -250 * base * t ≤ x.2 ∧ x.2 < 549 * base * t
def sp__law_spans : Dsp := fun ds S Q => ∃ (d : D) (ps : List Pt), ds = [d] ∧ seqOf S d = some (ps.map DL.pairD) ∧ (∀ q, S q = none → ∀ c, seqOf (sup S q c) d = some (ps.map DL.pairD)) ∧ ps.length ≤ 1000000 ∧ Q (.lst ((runs ps).map spanD)) S
/-- what of a comprehension comes behind its iterable -/
def lcBody (g : TDG) (tt : TDT) (te : TDE) (vs : List Nat) (ρ : Rho) (Q : QD) (it : Iter) (S1 : Sto) : Prop := ∀ p, S1 p = none → ∃ W : Nat → Sto → Prop, W 0 (sup S1 p (.lst [])) ∧ (∀ i S, W i S → it.ok S) ∧
  (∀ i d S, it.items[i]? = some d → W i S → g d (dwipe ρ vs) S fun ρ2 S2 => tt ρ2 S2 fun b S3 => if b = true then te ρ2 S3 fun y S4 => ∃ acc, S4 p = some (.lst acc) ∧ acc.length < sizeLine ∧ W (i + 1) (sup S4 p (.lst (acc ++ [y]))) else W (i + 1) S3) ∧
  ∀ S, W it.items.length S → ∃ acc, S p = some (.lst acc) ∧ Q (.lst acc) (sdel S p)
theorem dLc_body {ti : TDI} {g : TDG} {tt : TDT} {te : TDE} {vs : List Nat} {ρ : Rho} {S : Sto} {Q : QD} (h : ti ρ S (lcBody g tt te vs ρ Q)) : dLc ti g tt te vs ρ S Q := h
/-- a comprehension whose elements take from the box -/
theorem lc_box {α β : Type} {g : TDG} {te : TDE} {vs : List Nat} {ρ : Rho} {S : Sto} {Q : QD} (b : Addr) (c0 : Cell) (as : List α) (enc : α → D) (encB : β → D) (k N : Nat) (P : α → β → Prop) (ok : Sto → Prop)
    (hok : ∀ S', ok S') (hb : S b = some c0) (hc : BoxC (N + k * as.length) c0) (hl : as.length ≤ sizeLine)
    (hs : ∀ a ∈ as, ∀ (c : Cell) (m : Nat) (S' : Sto), S' b = some c → BoxC (m + k) c → ∀ Y : QD, (∀ y c', P a y → BoxC m c' → Y (encB y) (sup S' b c')) → g (enc a) (dwipe ρ vs) S' fun ρ2 S2 => te ρ2 S2 Y)
    (hq : ∀ (ys : List β) (c' : Cell), ys.length = as.length → (∀ y ∈ ys, ∃ a ∈ as, P a y) → BoxC N c' → Q (.lst (ys.map encB)) (sup S b c')) : lcBody g dYes te vs ρ Q ⟨as.map enc, ok⟩ S := by
  intro p hp
  have hpb : p ≠ b := sto_ne hp hb
  refine ⟨fun i S' => ∃ (ys : List β) (c : Cell), ys.length = i ∧ i ≤ as.length ∧ (∀ y ∈ ys, ∃ a ∈ as, P a y) ∧ BoxC (N + k * (as.length - i)) c ∧ S' = sup (sup S b c) p (.lst (ys.map encB)), ⟨[], c0, rfl, Nat.zero_le _, by simp, by simpa using hc, ?_⟩, fun _ S' _ => hok S', fun i d S' hd ⟨ys, c, e1, e2, e3, e4, e5⟩ => ?_, fun S' ⟨ys, c, e1, e2, e3, e4, e5⟩ => ?_⟩
  · congr 1
    funext a
    unfold sup
    split
    · rename_i h; subst h; exact hb
    · rfl
  · obtain ⟨a, ha, rfl⟩ := map_get hd
    have hi' : i < as.length := (List.getElem?_eq_some_iff.mp ha).1
    subst e5
    have hbox : BoxC (N + k * (as.length - (i + 1)) + k) c := by
      have : N + k * (as.length - (i + 1)) + k = N + k * (as.length - i) := by
        have : as.length - i = as.length - (i + 1) + 1 := by omega
        rw [this, Nat.mul_succ]
        omega
      rw [this]
      exact e4
    refine hs a (List.mem_of_getElem? ha) c _ _ (by rw [sup_ne (Ne.symm hpb), sup_same]) hbox _ fun y c' hy hc' => ?_
    rw [sup_comm hpb, sup_sup]
    refine ⟨_, sup_same, by rw [List.length_map]; omega, ys ++ [y], c', by simp [e1], hi', fun z hz => ?_, hc', ?_⟩
    · rcases List.mem_append.mp hz with hz | hz
      · exact e3 z hz
      · simp only [List.mem_cons, List.not_mem_nil, or_false] at hz
        subst hz
        exact ⟨a, List.mem_of_getElem? ha, hy⟩
    · rw [sup_sup, List.map_append]
      rfl
  · subst e5
    refine ⟨_, sup_same, ?_⟩
    rw [sdel_sup, sdel_none (by rw [sup_ne hpb]; exact hp)]
    simp only [List.length_map] at e1 e4
    exact hq ys c e1 e3 (by simpa using e4)
theorem dLc_box {α β : Type} {ti : TDI} {g : TDG} {te : TDE} {vs : List Nat} {ρ : Rho} {S : Sto} {Q : QD} (b : Addr) (c0 : Cell) (as : List α) (enc : α → D) (encB : β → D) (k N : Nat) (P : α → β → Prop) (ok : Sto → Prop)
    (hi : ∀ R : Iter → Sto → Prop, R ⟨as.map enc, ok⟩ S → ti ρ S R) (hok : ∀ S', ok S') (hb : S b = some c0) (hc : BoxC (N + k * as.length) c0) (hl : as.length ≤ sizeLine)
    (hs : ∀ a ∈ as, ∀ (c : Cell) (m : Nat) (S' : Sto), S' b = some c → BoxC (m + k) c → ∀ Y : QD, (∀ y c', P a y → BoxC m c' → Y (encB y) (sup S' b c')) → g (enc a) (dwipe ρ vs) S' fun ρ2 S2 => te ρ2 S2 Y)
    (hq : ∀ (ys : List β) (c' : Cell), ys.length = as.length → (∀ y ∈ ys, ∃ a ∈ as, P a y) → BoxC N c' → Q (.lst (ys.map encB)) (sup S b c')) : dLc ti g dYes te vs ρ S Q :=
  dLc_body (hi _ (lc_box b c0 as enc encB k N P ok hok hb hc hl hs hq))
theorem BoxC_less {n m : Nat} {c : Cell} (h : BoxC n c) (hm : m ≤ n) : BoxC m c := by
  obtain ⟨x0, x1, x2, x3, e, a1, a2, a3, a4, a5, a6, a7⟩ := h
  exact ⟨x0, x1, x2, x3, e, a1, a2, a3, a4, a5, a6, by omega⟩
theorem dLc_boxS {α β : Type} {t0 : TDE} {g : TDG} {te : TDE} {vs : List Nat} {ρ : Rho} {S : Sto} {Q : QD} (b : Addr) (c0 : Cell) (as : List α) (enc : α → D) (encB : β → D) (k N : Nat) (P : α → β → Prop)
    (hd : ∀ R : QD, R (.lst (as.map enc)) S → t0 ρ S R) (hb : S b = some c0) (hc : BoxC (N + k * as.length) c0) (hl : as.length ≤ sizeLine)
    (hs : ∀ a ∈ as, ∀ (c : Cell) (m : Nat) (S' : Sto), S' b = some c → BoxC (m + k) c → ∀ Y : QD, (∀ y c', P a y → BoxC m c' → Y (encB y) (sup S' b c')) → g (enc a) (dwipe ρ vs) S' fun ρ2 S2 => te ρ2 S2 Y)
    (hq : ∀ (ys : List β) (c' : Cell), ys.length = as.length → (∀ y ∈ ys, ∃ a ∈ as, P a y) → BoxC N c' → Q (.lst (ys.map encB)) (sup S b c')) : dLc (dSeq t0) g dYes te vs ρ S Q :=
  dLc_box b c0 as enc encB k N P (fun S' => seqOf S' (.lst (as.map enc)) = some (as.map enc)) (fun R h => hd _ ⟨_, rfl, h⟩) (fun _ => rfl) hb hc hl hs hq
end KL

set_option maxHeartbeats 200000
/-! S76: what the defs of law_k76_middles_within promise. -/
namespace K76
open PySem PySem.Spec PyProof.Rows L2 DL KC KL
open K78 (BoxC runs step Good cellsOf)
def sp__law_scene : Dsp := fun ds S Q => ∃ (b : Addr) (n : Nat) (c : Cell) (base : Int), ds = [.ref b, .int base] ∧ 0 < base ∧ base ≤ 12 ∧ S b = some c ∧ BoxC (n + 400) c ∧ ∀ (rows : List (List Pt)) (c' : Cell), SceneOk 26 base rows → BoxC n c' → Q (rowsD rows) (sup S b c')
def nexts (w : List Pt) : List Pt := w.drop 1 ++ w.take 1
def edgesN (w : List Pt) : List (Pt × Pt) := w.zip (nexts w)
/-- an edge that passes west of a place or through it: up 1, down -1 -/
def westT (x y : Int) (e : Pt × Pt) : Option Int :=
  if decide (y < e.1.2) = decide (y < e.2.2) then none else
    let step := e.2.2 - e.1.2
    let turn := (y - e.1.2) * (e.2.1 - e.1.1) - (x - e.1.1) * step
    if turn = 0 ∨ decide (turn < 0) = decide (0 < step) then some (if step < 0 then -1 else 1) else none
def westL (w : List Pt) (x y : Int) : List Int := (edgesN w).filterMap (westT x y)
def Small (w : List Pt) : Prop := 1 ≤ w.length ∧ w.length ≤ 100 ∧ ∀ p ∈ w, Sz 40 p.1 ∧ Sz 40 p.2
def sp__law_west : Dsp := fun ds S Q => ∃ (w : List Pt) (x y : Int), ds = [ptsD w, .int x, .int y] ∧ Small w ∧ Sz 40 x ∧ Sz 40 y ∧ Q (.tup [.int (westL w x y).sum, .int ((westL w x y).length : Int)]) S
def withinL (rows : List (List Pt)) (x y : Int) (odd : Bool) : Bool :=
  if odd then decide (((rows.map fun w => ((westL w x y).length : Int)).sum).fmod 2 = 1) else !decide ((rows.map fun w => (westL w x y).sum).sum = 0)
def RowsSmall (rows : List (List Pt)) : Prop := 1 ≤ rows.length ∧ rows.length ≤ 4 ∧ ∀ w ∈ rows, Small w
def sp__law_within : Dsp := fun ds S Q => ∃ (rows : List (List Pt)) (x y : Int) (odd : Bool), ds = [rowsD rows, .int x, .int y, .bl odd] ∧ RowsSmall rows ∧ Sz 40 x ∧ Sz 40 y ∧ Q (.bl (withinL rows x y odd)) S
def xsL (rows : List (List Pt)) : List Int := rows.flatten.map (·.1)
def ysL (rows : List (List Pt)) : List Int := rows.flatten.map (·.2)
def colsL (rows : List (List Pt)) (base : Int) : List Int :=
  let lo := (minL (xsL rows)).fdiv (64 * base) - 1
  let hi := (maxL (xsL rows)).fdiv (64 * base) + 2
  (List.range (hi - lo).toNat).map fun k : Nat => lo + (k : Int)
def linesL (rows : List (List Pt)) (base : Int) : List Int :=
  let lo := (minL (ysL rows)).fdiv (64 * base) - 1
  let hi := (maxL (ysL rows)).fdiv (64 * base) + 2
  (List.range (hi - lo).toNat).map fun k : Nat => lo + (k : Int)
def dueCells (rows : List (List Pt)) (base : Int) (odd : Bool) : List Pt :=
  (linesL rows base).flatMap fun r => ((colsL rows base).filter fun c => withinL rows ((64 * c + 32) * base) ((64 * r + 32) * base) odd).map fun c => (r, c)
def dueM (rows : List (List Pt)) (base : Int) (odd : Bool) : List Spn := runs (dueCells rows base odd)
def sp__law_due : Dsp := fun ds S Q => ∃ (rows : List (List Pt)) (base : Int) (odd : Bool), ds = [rowsD rows, .int base, .bl odd] ∧ SceneOk 26 base rows ∧ 0 < base ∧ base ≤ 12 ∧ Q (.lst ((dueM rows base odd).map spanD)) S
def sp_law : Dsp := fun ds S Q => ∃ ns : List Int, ds = [.rol (ns.map D.int)] ∧ ns.length ≤ 63 ∧ ∀ S', Q (.bl true) S'
end K76

set_option maxHeartbeats 0
/-! what the defs do, as readings. -/
namespace K76
open PySem PySem.Spec PyProof.Rows L2 DL KC KL
def gg_cells_0_drops_rule_parts {α : Type} (us mv ws : List α) : List α := us ++ (ws.drop 2).take 1 ++ (ws.drop 1).take 1 ++ (ws.drop 0).take 1
def gD_cells_0_drops_rule_parts (us ws : List D) : List D := gg_cells_0_drops_rule_parts us [] ws
def gg_cells_1_drops {α : Type} (us mv ws : List α) : List α := us ++ (mv.drop 0).take 1 ++ (ws.drop 0).take 1
def gD_cells_1_drops (us ws : List D) : List D := gg_cells_1_drops us [.str "round"] ws
def gg_cells_1_rule_drops {α : Type} (us mv ws : List α) : List α := us ++ (ws.drop 0).take 1 ++ (ws.drop 1).take 1
def gD_cells_1_rule_drops (us ws : List D) : List D := gg_cells_1_rule_drops us [] ws
def r__law_cell : TDS := sSeq (sIf (dB (dOp rdLt (dV 1) (dCB rdLen (dCons (dV 0) (dNil))))) (sRet (dOp rdIx (dV 0) (dV 1))) (sNext))
  (sRet (dOp rdAdd (dOp rdMul (dC (.int 7919)) (dV 1)) (dC (.int 76))))
def r__law_box : TDS := sRet (dCell (dCons (dCB rdMax2 (dCons (dC (.int 0)) (dCons (dOp rdSub (dV 0) (dOp rdPow (dC (.int 10)) (dC (.int 18)))) (dNil)))) (dCons (dOp rdMod (dV 0) (dC (.int 2147483629))) (dCons (dOp rdMod (dV 0) (dC (.int 2147483587))) (dCons (dC (.int 0)) (dNil))))))
def r__law_take : TDS := sSeq (sIf (dB (dOp rdGt (dOp rdIx (dV 0) (dC (.int 0))) (dC (.int 0)))) (sSeq (sAsg (dOp rdMod (dOp rdIx (dV 0) (dC (.int 0))) (dV 1)) (gN 2))
  (sSeq (sAsg (dOp rdDiv (dOp rdIx (dV 0) (dC (.int 0))) (dV 1)) (gSet (dV 0) (dC (.int 0))))
  (sRet (dV 2)))) (sNext))
  (sSeq (sAsg (dOp rdAdd (dOp rdIx (dV 0) (dC (.int 3))) (dC (.int 1))) (gSet (dV 0) (dC (.int 3))))
  (sSeq (sAsg (dOp rdIx (dV 0) (dC (.int 3))) (gN 3))
  (sSeq (sAsg (dOp rdMod (dOp rdPow (dOp rdAdd (dOp rdAdd (dOp rdMul (dOp rdIx (dV 0) (dC (.int 1))) (dOp rdAdd (dOp rdMul (dC (.int 2)) (dV 3)) (dC (.int 3)))) (dOp rdMul (dOp rdMul (dC (.int 6047)) (dV 3)) (dV 3))) (dC (.int 76))) (dC (.int 5))) (dC (.int 2147483647))) (gN 4))
  (sRet (dOp rdMod (dOp rdDiv (dOp rdMod (dOp rdPow (dOp rdAdd (dOp rdAdd (dV 4) (dOp rdMul (dOp rdIx (dV 0) (dC (.int 2))) (dV 3))) (dC (.int 31))) (dC (.int 3))) (dC (.int 2147483579))) (dC (.int 16))) (dV 1))))))
def r__law_number : TDS := sSeq (sPar 2 3 (dCons (dCB rdAbs (dCons (dV 0) (dNil))) (dCons (dV 1) (dNil))))
  (sSeq (sWhile (dB (dOp rdGt (dV 3) (dC (.int 0)))) (sPar 2 3 (dCons (dV 3) (dCons (dOp rdMod (dV 2) (dV 3)) (dNil)))))
  (sRet (dIf (dB (dOp rdEqv (dV 1) (dV 2))) (dOp rdDiv (dV 0) (dV 2)) (dTup (dCons (dOp rdDiv (dV 0) (dV 2)) (dCons (dOp rdDiv (dV 1) (dV 2)) (dNil)))))))
def r__law_told : TDS := sRet (dLc (dSeq (dV 0)) (gT 2 (gsCons (gN 2) (gsCons (gN 3) (gsNil)))) (dYes) (dTup (dCons (dCall sp__law_number [] (dCons (dV 2) (dCons (dV 1) (dNil)))) (dCons (dCall sp__law_number [] (dCons (dV 3) (dCons (dV 1) (dNil)))) (dNil)))) [2, 3])
def r__law_polygon_t0 : TDS := sAsg (dLst (dCons (dTup (dCons (dV 3) (dCons (dV 4) (dNil)))) (dCons (dTup (dCons (dOp rdAdd (dV 3) (dV 5)) (dCons (dV 4) (dNil)))) (dCons (dTup (dCons (dOp rdAdd (dV 3) (dV 5)) (dCons (dOp rdAdd (dV 4) (dV 6)) (dNil)))) (dCons (dTup (dCons (dV 3) (dCons (dOp rdAdd (dV 4) (dV 6)) (dNil)))) (dNil)))))) (gN 7)
def r__law_polygon_t1 : TDS := sSeq (sAsg (dOp rdIx (dLst (dCons (dCall sp__law_take [] (dCons (dV 0) (dCons (dC (.int 300)) (dNil)))) (dCons (dOp rdMul (dC (.int 64)) (dOp rdAdd (dC (.int 1)) (dCall sp__law_take [] (dCons (dV 0) (dCons (dC (.int 4)) (dNil)))))) (dCons (dC (.int 1)) (dNil))))) (dCall sp__law_take [] (dCons (dV 0) (dCons (dC (.int 3)) (dNil))))) (gN 6))
  (r__law_polygon_t0)
def r__law_polygon_t2 : TDS := sSeq (sAsg (dOp rdIx (dLst (dCons (dCall sp__law_take [] (dCons (dV 0) (dCons (dC (.int 300)) (dNil)))) (dCons (dOp rdMul (dC (.int 64)) (dOp rdAdd (dC (.int 1)) (dCall sp__law_take [] (dCons (dV 0) (dCons (dC (.int 4)) (dNil)))))) (dCons (dC (.int 1)) (dNil))))) (dCall sp__law_take [] (dCons (dV 0) (dCons (dC (.int 3)) (dNil))))) (gN 5))
  (r__law_polygon_t1)
def r__law_polygon_t3 : TDS := sRet (dIf (dB (dOp rdEqv (dCall sp__law_take [] (dCons (dV 0) (dCons (dC (.int 2)) (dNil)))) (dC (.int 0)))) (dRevL (dV 7)) (dV 7))
def r__law_polygon_t4 : TDS := sSeq (sAsg (dLc (dSeq (dV 7)) (gT 2 (gsCons (gN 3) (gsCons (gN 4) (gsNil)))) (dYes) (dTup (dCons (dOp rdAdd (dOp rdMul (dV 3) (dV 1)) (dCall sp__law_take [] (dCons (dV 0) (dCons (dV 1) (dNil))))) (dCons (dOp rdAdd (dOp rdMul (dV 4) (dV 1)) (dCall sp__law_take [] (dCons (dV 0) (dCons (dV 1) (dNil))))) (dNil)))) [3, 4]) (gN 7))
  (r__law_polygon_t3)
def r__law_polygon_t5 : TDS := sSeq (sIf (dB (dOp rdLt (dV 2) (dC (.int 2)))) (sSeq (sPar 3 4 (dCons (dOp rdIx (dLst (dCons (dV 3) (dCons (dOp rdAdd (dC (.int 32)) (dOp rdMul (dC (.int 64)) (dOp rdDiv (dV 3) (dC (.int 64))))) (dNil)))) (dV 2)) (dCons (dOp rdIx (dLst (dCons (dV 4) (dCons (dOp rdAdd (dC (.int 32)) (dOp rdMul (dC (.int 64)) (dOp rdDiv (dV 4) (dC (.int 64))))) (dNil)))) (dCall sp__law_take [] (dCons (dV 0) (dCons (dC (.int 2)) (dNil))))) (dNil))))
  (r__law_polygon_t2)) (sIf (dB (dOp rdEqv (dV 2) (dC (.int 2)))) (sSeq (sAsg (dOp rdAdd (dC (.int 1)) (dCall sp__law_take [] (dCons (dV 0) (dCons (dC (.int 40)) (dNil))))) (gN 8))
  (sAsg (dLst (dCons (dTup (dCons (dV 3) (dCons (dV 4) (dNil)))) (dCons (dTup (dCons (dOp rdAdd (dV 3) (dCall sp__law_take [] (dCons (dV 0) (dCons (dC (.int 300)) (dNil))))) (dCons (dOp rdAdd (dV 4) (dC (.int 200))) (dNil)))) (dCons (dTup (dCons (dOp rdAdd (dV 3) (dV 8)) (dCons (dV 4) (dNil)))) (dNil))))) (gN 7))) (sSeq (sAsg (dOp rdAdd (dC (.int 3)) (dCall sp__law_take [] (dCons (dV 0) (dCons (dC (.int 6)) (dNil))))) (gN 9))
  (sAsg (dLc (dRng1 (dCons (dV 9) (dNil))) (gN 10) (dYes) (dTup (dCons (dOp rdSub (dCall sp__law_take [] (dCons (dV 0) (dCons (dC (.int 500)) (dNil)))) (dC (.int 250))) (dCons (dOp rdSub (dCall sp__law_take [] (dCons (dV 0) (dCons (dC (.int 500)) (dNil)))) (dC (.int 250))) (dNil)))) [10]) (gN 7)))))
  (r__law_polygon_t4)
def r__law_polygon_t6 : TDS := sSeq (sPar 3 4 (dCons (dOp rdSub (dCall sp__law_take [] (dCons (dV 0) (dCons (dC (.int 500)) (dNil)))) (dC (.int 250))) (dCons (dOp rdSub (dCall sp__law_take [] (dCons (dV 0) (dCons (dC (.int 500)) (dNil)))) (dC (.int 250))) (dNil))))
  (r__law_polygon_t5)
def r__law_polygon : TDS := sSeq (sAsg (dCall sp__law_take [] (dCons (dV 0) (dCons (dC (.int 6)) (dNil)))) (gN 2))
  (r__law_polygon_t6)
def r__law_longer : TDS := sSeq (sAsg (dCell (dNil)) (gN 1))
  (sSeq (sFor (dSeq (dV 0)) (gN 2) (sDrop (dExtend (dV 1) (dOp rdMul (dLst (dCons (dV 2) (dNil))) (dOp rdDiv (dC (.int 100)) (dCB rdLen (dCons (dV 0) (dNil))))))))
  (sRet (dFrz (dV 1))))
def r__law_scene_t0 : TDS := sRet (dV 2)
def r__law_scene_t1 : TDS := sSeq (sIf (dB (dOp rdEqv (dCall sp__law_take [] (dCons (dV 0) (dCons (dC (.int 6)) (dNil)))) (dC (.int 0)))) (sAsg (dLc (dSeq (dV 2)) (gN 4) (dYes) (dLc (dSeq (dV 4)) (gT 2 (gsCons (gN 5) (gsCons (gN 6) (gsNil)))) (dYes) (dTup (dCons (dV 5) (dCons (dOp rdMul (dC (.int 26)) (dV 6)) (dNil)))) [5, 6]) [4]) (gN 2)) (sNext))
  (r__law_scene_t0)
def r__law_scene_t2 : TDS := sSeq (sIf (dB (dOp rdEqv (dCall sp__law_take [] (dCons (dV 0) (dCons (dC (.int 6)) (dNil)))) (dC (.int 0)))) (sAsg (dOp rdAdd (dLst (dCons (dCall sp__law_longer [] (dCons (dOp rdIx (dV 2) (dC (.int 0))) (dNil))) (dNil))) (dSlA (dV 2) (oSo (dC (.int 1))) (oNo))) (gN 2)) (sNext))
  (r__law_scene_t1)
def r__law_scene_t3 : TDS := sSeq (sIf (dB (dOp rdEqv (dCall sp__law_take [] (dCons (dV 0) (dCons (dC (.int 8)) (dNil)))) (dC (.int 0)))) (sAsg (dSlA (dOp rdAdd (dV 2) (dLst (dCons (dSlA (dOp rdIx (dV 2) (dC (.int 0))) (oNo) (oSo (dOp rdAdd (dC (.int 1)) (dCall sp__law_take [] (dCons (dV 0) (dCons (dC (.int 2)) (dNil))))))) (dNil)))) (oSo (dNeg (dC (.int 4)))) (oNo)) (gN 2)) (sNext))
  (r__law_scene_t2)
def r__law_scene_t4 : TDS := sSeq (sIf (dB (dOp rdEqv (dCall sp__law_take [] (dCons (dV 0) (dCons (dC (.int 8)) (dNil)))) (dC (.int 0)))) (sAsg (dSlA (dOp rdAdd (dV 2) (dLst (dCons (dRevL (dOp rdIx (dV 2) (dC (.int 0)))) (dNil)))) (oSo (dNeg (dC (.int 4)))) (oNo)) (gN 2)) (sNext))
  (r__law_scene_t3)
def r__law_scene_t5 : TDS := sSeq (sIf (dB (dOp rdEqv (dCall sp__law_take [] (dCons (dV 0) (dCons (dC (.int 8)) (dNil)))) (dC (.int 0)))) (sAsg (dSlA (dOp rdAdd (dV 2) (dLst (dCons (dCB rdList (dCons (dOp rdIx (dV 2) (dC (.int 0))) (dNil))) (dNil)))) (oSo (dNeg (dC (.int 4)))) (oNo)) (gN 2)) (sNext))
  (r__law_scene_t4)
def r__law_scene : TDS := sSeq (sAsg (dLc (dRng1 (dCons (dOp rdIx (dLst (dCons (dC (.int 1)) (dCons (dOp rdAdd (dC (.int 1)) (dCall sp__law_take [] (dCons (dV 0) (dCons (dC (.int 4)) (dNil))))) (dNil)))) (dCall sp__law_take [] (dCons (dV 0) (dCons (dC (.int 2)) (dNil))))) (dNil))) (gN 3) (dYes) (dCall sp__law_polygon [] (dCons (dV 0) (dCons (dV 1) (dNil)))) [3]) (gN 2))
  (r__law_scene_t5)
def r__law_spans : TDS := sSeq (sAsg (dCell (dNil)) (gN 1))
  (sSeq (sFor (dSeq (dV 0)) (gT 2 (gsCons (gN 2) (gsCons (gN 3) (gsNil)))) (sIf (dAnd (dB (dOp rdNev (dV 1) (dLst (dNil)))) (dAnd (dB (dOp rdEqv (dOp rdIx (dOp rdIx (dV 1) (dNeg (dC (.int 1)))) (dC (.int 0))) (dV 2))) (dB (dOp rdEqv (dOp rdIx (dOp rdIx (dV 1) (dNeg (dC (.int 1)))) (dC (.int 2))) (dV 3))))) (sAsg (dTup (dCons (dV 2) (dCons (dOp rdIx (dOp rdIx (dV 1) (dNeg (dC (.int 1)))) (dC (.int 1))) (dCons (dOp rdAdd (dV 3) (dC (.int 1))) (dNil))))) (gSet (dV 1) (dNeg (dC (.int 1))))) (sDrop (dAppend (dV 1) (dTup (dCons (dV 2) (dCons (dV 3) (dCons (dOp rdAdd (dV 3) (dC (.int 1))) (dNil)))))))))
  (sRet (dFrz (dV 1))))
def r__law_west : TDS := sSeq (sAsg (dTup (dCons (dC (.int 0)) (dCons (dC (.int 0)) (dNil)))) (gT 2 (gsCons (gN 3) (gsCons (gN 4) (gsNil)))))
  (sSeq (sFor (dEnum (dCons (dV 0) (dNil))) (gT 2 (gsCons (gN 5) (gsCons (gN 6) (gsNil)))) (sSeq (sAsg (dOp rdIx (dV 0) (dOp rdMod (dOp rdAdd (dV 5) (dC (.int 1))) (dCB rdLen (dCons (dV 0) (dNil))))) (gN 7))
  (sIf (dB (dOp rdNev (dOp rdGt (dOp rdIx (dV 6) (dC (.int 1))) (dV 2)) (dOp rdGt (dOp rdIx (dV 7) (dC (.int 1))) (dV 2)))) (sSeq (sAsg (dOp rdSub (dOp rdIx (dV 7) (dC (.int 1))) (dOp rdIx (dV 6) (dC (.int 1)))) (gN 8))
  (sSeq (sAsg (dOp rdSub (dOp rdMul (dOp rdSub (dV 2) (dOp rdIx (dV 6) (dC (.int 1)))) (dOp rdSub (dOp rdIx (dV 7) (dC (.int 0))) (dOp rdIx (dV 6) (dC (.int 0))))) (dOp rdMul (dOp rdSub (dV 1) (dOp rdIx (dV 6) (dC (.int 0)))) (dV 8))) (gN 9))
  (sIf (dOr (dB (dOp rdEqv (dV 9) (dC (.int 0)))) (dB (dOp rdEqv (dOp rdLt (dV 9) (dC (.int 0))) (dOp rdGt (dV 8) (dC (.int 0)))))) (sPar 3 4 (dCons (dOp rdAdd (dV 3) (dOp rdIx (dLst (dCons (dC (.int 1)) (dCons (dNeg (dC (.int 1))) (dNil)))) (dCB rdInt (dCons (dOp rdLt (dV 8) (dC (.int 0))) (dNil))))) (dCons (dOp rdAdd (dV 4) (dC (.int 1))) (dNil)))) (sNext)))) (sNext))))
  (sRet (dTup (dCons (dV 3) (dCons (dV 4) (dNil))))))
def r__law_within : TDS := sSeq (sAsg (dLc (dSeq (dV 0)) (gN 5) (dYes) (dCall sp__law_west [] (dCons (dV 5) (dCons (dV 1) (dCons (dV 2) (dNil))))) [5]) (gN 4))
  (sSeq (sIf (dB (dV 3)) (sRet (dOp rdEqv (dOp rdMod (dCB rdSum (dCons (dLc (dSeq (dV 4)) (gT 2 (gsCons (gN 6) (gsCons (gN 7) (gsNil)))) (dYes) (dV 7) [6, 7]) (dNil))) (dC (.int 2))) (dC (.int 1)))) (sNext))
  (sRet (dOp rdNev (dCB rdSum (dCons (dLc (dSeq (dV 4)) (gT 2 (gsCons (gN 6) (gsCons (gN 7) (gsNil)))) (dYes) (dV 6) [6, 7]) (dNil))) (dC (.int 0)))))
def r__law_due : TDS := sSeq (sAsg (dCell (dNil)) (gN 3))
  (sSeq (sAsg (dSumS (dV 0)) (gN 4))
  (sSeq (sPar 5 6 (dCons (dOp rdSub (dOp rdDiv (dCB rdMinL (dCons (dLc (dSeq (dV 4)) (gT 2 (gsCons (gN 11) (gsCons (gN 12) (gsNil)))) (dYes) (dV 11) [11, 12]) (dNil))) (dOp rdMul (dC (.int 64)) (dV 1))) (dC (.int 1))) (dCons (dOp rdAdd (dOp rdDiv (dCB rdMaxL (dCons (dLc (dSeq (dV 4)) (gT 2 (gsCons (gN 11) (gsCons (gN 12) (gsNil)))) (dYes) (dV 11) [11, 12]) (dNil))) (dOp rdMul (dC (.int 64)) (dV 1))) (dC (.int 2))) (dNil))))
  (sSeq (sPar 7 8 (dCons (dOp rdSub (dOp rdDiv (dCB rdMinL (dCons (dLc (dSeq (dV 4)) (gT 2 (gsCons (gN 11) (gsCons (gN 12) (gsNil)))) (dYes) (dV 12) [11, 12]) (dNil))) (dOp rdMul (dC (.int 64)) (dV 1))) (dC (.int 1))) (dCons (dOp rdAdd (dOp rdDiv (dCB rdMaxL (dCons (dLc (dSeq (dV 4)) (gT 2 (gsCons (gN 11) (gsCons (gN 12) (gsNil)))) (dYes) (dV 12) [11, 12]) (dNil))) (dOp rdMul (dC (.int 64)) (dV 1))) (dC (.int 2))) (dNil))))
  (sSeq (sFor (dRng2 (dCons (dV 7) (dCons (dV 8) (dNil)))) (gN 9) (sFor (dRng2 (dCons (dV 5) (dCons (dV 6) (dNil)))) (gN 10) (sIf (dB (dCall sp__law_within [] (dCons (dV 0) (dCons (dOp rdMul (dOp rdAdd (dOp rdMul (dC (.int 64)) (dV 10)) (dC (.int 32))) (dV 1)) (dCons (dOp rdMul (dOp rdAdd (dOp rdMul (dC (.int 64)) (dV 9)) (dC (.int 32))) (dV 1)) (dCons (dV 2) (dNil))))))) (sDrop (dAppend (dV 3) (dTup (dCons (dV 9) (dCons (dV 10) (dNil)))))) (sNext))))
  (sRet (dCall sp__law_spans [] (dCons (dV 3) (dNil))))))))
def r_law_t0 : TDS := sDrop (dAppend (dV 10) (dC (.str "more")))
def r_law_t1 : TDS := sSeq (sIf (dOr (dB (dOp rdNev (dCB rdRepr (dCons (dV 10) (dNil))) (dCB rdRepr (dCons (dOp rdIx (dV 8) (dC (.int 1))) (dNil))))) (dB (dOp rdNev (dCB rdRepr (dCons (dFrz (dCallK sp_cells 1 2 gD_cells_1_rule_drops (dCons (dRevL (dV 7)) (dNil)) (dCons (dC (.str "round")) (dCons (dC (.bl false)) (dNil))))) (dNil))) (dCB rdRepr (dCons (dOp rdIx (dV 8) (dC (.int 0))) (dNil)))))) (sRet (dC (.bl false))) (sNext))
  (r_law_t0)
def r_law_t2 : TDS := sSeq (sAsg (dCallK sp_cells 0 3 gD_cells_0_drops_rule_parts (dNil) (dCons (dC (.bl false)) (dCons (dC (.str "odd")) (dCons (dV 7) (dNil))))) (gN 10))
  (r_law_t1)
def r_law_t3 : TDS := sSeq (sIf (dOr (dB (dOp rdNev (dCB rdRepr (dCons (dFrz (dCallK sp_cells 1 1 gD_cells_1_drops (dCons (dV 7) (dNil)) (dCons (dC (.bl false)) (dNil)))) (dNil))) (dCB rdRepr (dCons (dOp rdIx (dV 8) (dC (.int 0))) (dNil))))) (dB (dOp rdNev (dCB rdRepr (dCons (dV 7) (dNil))) (dV 9)))) (sRet (dC (.bl false))) (sNext))
  (r_law_t2)
def r_law_t4 : TDS := sIf (dB (dOp rdNev (dFrz (dCallK sp_cells 1 1 gD_cells_1_drops (dCons (dLst (dCons (dV 17) (dNil))) (dNil)) (dCons (dC (.bl false)) (dNil)))) (dLst (dCons (dTup (dCons (dV 16) (dCons (dC (.int 0)) (dCons (dOp rdDiv (dV 15) (dC (.int 64))) (dNil))))) (dNil))))) (sRet (dC (.bl false))) (sNext)
def r_law_t5 : TDS := sSeq (sAsg (dLst (dCons (dTup (dCons (dC (.int 0)) (dCons (dOp rdMul (dC (.int 64)) (dV 16)) (dNil)))) (dCons (dTup (dCons (dV 15) (dCons (dOp rdMul (dC (.int 64)) (dV 16)) (dNil)))) (dCons (dTup (dCons (dV 15) (dCons (dOp rdAdd (dOp rdMul (dC (.int 64)) (dV 16)) (dC (.int 64))) (dNil)))) (dCons (dTup (dCons (dC (.int 0)) (dCons (dOp rdAdd (dOp rdMul (dC (.int 64)) (dV 16)) (dC (.int 64))) (dNil)))) (dNil)))))) (gN 17))
  (r_law_t4)
def r_law_t6 : TDS := sSeq (sPar 15 16 (dCons (dCB rdInt (dCons (dOp rdAdd (dC (.str "1000000")) (dOp rdMulS (dC (.str "0")) (dCall sp__law_take [] (dCons (dV 3) (dCons (dC (.int 44)) (dNil)))))) (dNil))) (dCons (dOp rdSub (dCall sp__law_take [] (dCons (dV 3) (dCons (dC (.int 9)) (dNil)))) (dC (.int 4))) (dNil))))
  (r_law_t5)
def r_law_t7 : TDS := sSeq (sIf (dB (dOp rdNev (dCB rdRepr (dCons (dFrz (dCallK sp_cells 1 1 gD_cells_1_drops (dCons (dCB rdTuple (dCons (dLc (dSeq (dV 14)) (gN 24) (dYes) (dCB rdTuple (dCons (dV 24) (dNil))) [24]) (dNil))) (dNil)) (dCons (dC (.bl false)) (dNil)))) (dNil))) (dCB rdRepr (dCons (dV 8) (dNil))))) (sRet (dC (.bl false))) (sNext))
  (r_law_t6)
def r_law_t8 : TDS := sSeq (sAsg (dLc (dSeq (dOp rdIx (dOp rdIx (dOp rdIx (dV 1) (dNeg (dC (.int 1)))) (dC (.int 1))) (dC (.int 0)))) (gT 3 (gsCons (gN 16) (gsCons (gN 19) (gsCons (gN 20) (gsNil))))) (dYes) (dTup (dCons (dOp rdAdd (dV 16) (dV 13)) (dCons (dOp rdAdd (dV 19) (dV 12)) (dCons (dOp rdAdd (dV 20) (dV 12)) (dNil))))) [16, 19, 20]) (gN 8))
  (r_law_t7)
def r_law_t9 : TDS := sSeq (sAsg (dLc (dSeq (dV 5)) (gN 18) (dYes) (dCall sp__law_told [] (dCons (dLc (dSeq (dV 18)) (gT 2 (gsCons (gN 21) (gsCons (gN 22) (gsNil)))) (dYes) (dTup (dCons (dOp rdAdd (dV 21) (dOp rdMul (dOp rdMul (dC (.int 64)) (dV 12)) (dV 4))) (dCons (dOp rdAdd (dV 22) (dOp rdMul (dOp rdMul (dC (.int 64)) (dV 13)) (dV 4))) (dNil)))) [21, 22]) (dCons (dV 4) (dNil)))) [18]) (gN 14))
  (r_law_t8)
def r_law_t10 : TDS := sSeq (sAsg (dTup (dCons (dOp rdMul (dOp rdSub (dCall sp__law_take [] (dCons (dV 3) (dCons (dC (.int 9)) (dNil)))) (dC (.int 4))) (dV 11)) (dCons (dOp rdMul (dOp rdSub (dCall sp__law_take [] (dCons (dV 3) (dCons (dC (.int 9)) (dNil)))) (dC (.int 4))) (dV 11)) (dNil)))) (gT 2 (gsCons (gN 12) (gsCons (gN 13) (gsNil)))))
  (r_law_t9)
def r_law_t11 : TDS := sSeq (sAsg (dOp rdIx (dLst (dCons (dC (.int 1)) (dCons (dC (.int 1)) (dCons (dOp rdPow (dC (.int 10)) (dC (.int 20))) (dNil))))) (dCall sp__law_take [] (dCons (dV 3) (dCons (dC (.int 3)) (dNil))))) (gN 11))
  (r_law_t10)
def r_law_t12 : TDS := sSeq (sFor (dSeq (dV 1)) (gT 2 (gsCons (gN 7) (gsCons (gN 8) (gsNil)))) (sSeq (sAsg (dCB rdRepr (dCons (dV 7) (dNil))) (gN 9))
  (r_law_t3)))
  (r_law_t11)
def r_law_t13 : TDS := sSeq (sAsg (dSlA (dOp rdAdd (dV 1) (dLst (dCons (dTup (dCons (dV 6) (dCons (dLc (dSeq (dLst (dCons (dC (.bl false)) (dCons (dC (.bl true)) (dNil))))) (gN 23) (dYes) (dCall sp__law_due [] (dCons (dV 5) (dCons (dV 4) (dCons (dV 23) (dNil))))) [23]) (dNil)))) (dNil)))) (oSo (dNeg (dC (.int 2)))) (oNo)) (gN 1))
  (r_law_t12)
def r_law_t14 : TDS := sSeq (sAsg (dLc (dSeq (dV 5)) (gN 18) (dYes) (dCall sp__law_told [] (dCons (dV 18) (dCons (dV 4) (dNil)))) [18]) (gN 6))
  (r_law_t13)
def r_law_t15 : TDS := sSeq (sAsg (dCall sp__law_scene [] (dCons (dV 3) (dCons (dV 4) (dNil)))) (gN 5))
  (r_law_t14)
def r_law_t16 : TDS := sSeq (sAsg (dOp rdIx (dLst (dCons (dC (.int 1)) (dCons (dC (.int 1)) (dCons (dC (.int 3)) (dCons (dOp rdAdd (dC (.int 1)) (dCall sp__law_take [] (dCons (dV 3) (dCons (dC (.int 12)) (dNil))))) (dNil)))))) (dCall sp__law_take [] (dCons (dV 3) (dCons (dC (.int 4)) (dNil))))) (gN 4))
  (r_law_t15)
def r_law : TDS := sSeq (sAsg (dLst (dNil)) (gN 1))
  (sSeq (sFor (dRng1 (dCons (dCB rdMax2 (dCons (dC (.int 2)) (dCons (dCB rdMin2 (dCons (dC (.int 4)) (dCons (dCB rdLen (dCons (dV 0) (dNil))) (dNil)))) (dNil)))) (dNil))) (gN 2) (sSeq (sAsg (dCall sp__law_box [] (dCons (dCall sp__law_cell [] (dCons (dV 0) (dCons (dV 2) (dNil)))) (dNil))) (gN 3))
  (r_law_t16)))
  (sRet (dC (.bl true))))
end K76

set_option maxHeartbeats 1000000
namespace K76
open PySem PySem.Spec PyProof.Rows L2 DL KC KL
local macro_rules | `(tactic| walk_at "vc") => `(tactic| simp only [dV, dC, dOp, dB, dAnd, dOr, dNot, dAndV, dOrV, dNotV, dIf, dNil, dCons, dTup, dLst, dCell, dFrz, sNext, sSeq, sBreak, sCont, sDrop, sRet, sRetN, sIf, sNever, gN, gsNil, gsCons, gT, sAsg, sPar, sPar3, sAug, withV, withO_some,
  asB_bl, asI_int, asS_str, asT_tup, asC_cons, asN_nil, as1_one, as2_two, as3_three, refD_ref, startD, dCall, dCallK, dCB, rdI0, rdAdd_ii, rdAdd_ss, rdAdd_ll, rdSub_ii, rdMul_ii, rdDiv_ii, rdMod_ii, rdPow_ii, dNeg, dChain, rdLt_ii, rdGt_ii, rdLe_ii, rdGe_ii, rdEqv_ii, rdNev_ii, dIsN, dNotN, isNon_non, isNon_int, rdIsi,
  tyD_non, tyD_bl, tyD_int, tyD_str, tyD_lst, tyD_rol, tyD_tup, tyD_rot, clsOf_ty, clsOf_tup, tysOf_nil, tysOf_cons, rdLen_str, rdLen_lst, rdLen_rol, rdLen_tup, seqOf_lst, seqOf_rol, seqOf_tup, seqOf_rot, rdIx_tup, rdIx_lst, rdIx_rol, rdIx_str, atI,
  k_int_int, k_int_bool, k_int_str, k_int_tuple, k_bool_int, k_bool_bool, k_str_str, k_str_int, k_str_tuple, k_tup_int, k_tup_str, k_tup_tup, k_lst_tup, k_lst_seq, k_tup_seq, rdAbs, sWhile, rdMax2_ii, rdMin2_ii, decide_true, decide_false, decide_eq_true_eq, rdInt_int, rdInt_bl, rdInt_str, rdMulS_si, rdList, rdListC, rdTuple, tupOf_lst, tupOf_tup, tupOf_ref, dRng1, dRng2, dRng2B, dRngD, dSeq, dRevR2, dZip, dSlA, rdSlA,
  isRot_tup, isRot_lst, isRot_ref, isTup_tup, isTup_lst, isTup_rol, isTup_ref, oSo, oNo, gSet, dYes, rdGe_pp,
  List.map_cons, List.map_nil, List.cons_append, List.nil_append, List.append_nil, List.length_cons, List.length_nil, List.replicate_succ, List.replicate_zero, Nat.reduceSub, Nat.reduceAdd, List.getElem?_cons_zero, List.getElem?_cons_succ, List.set_cons_zero, List.set_cons_succ, Option.map_some, Option.map_none,
  plain_int, plain_tup, common_ii, seqOf_mk, rdNev_bb, rdEqv_bb, if_true, if_false, Bool.not_true, Bool.not_false, reduceIte, Bool.false_eq_true, dwipe, spanD, true_and, and_true, ix30, ix31, ix32, ix20, ix21, ix40, ix41, ix42, ix43, Option.bind_some, Option.bind_none, sl0, sl1, sl2, sl3, sl4, sl5, sl6, sl7, sl8, sl9, Nat.zero_add])
open K78 (BoxC runs step Good cellsOf)
theorem atI_nat {α : Type} {xs : List α} {k : Nat} (h : k < xs.length) : (ixN xs.length (k : Int)).bind (fun j => xs[j]?) = some xs[k] := by
  have : ixN xs.length (k : Int) = some k := by
    unfold ixN
    rw [if_pos (by omega), if_pos (by omega)]
    rfl
  rw [this]
  exact List.getElem?_eq_getElem h
theorem vc__law_cell (ds : List D) (S : Sto) (Q : QD) (h : sp__law_cell ds S Q) : r__law_cell { nx := fun _ S' => Q .non S', rt := Q } (startD 2 ds) S := by
  obtain ⟨ns, k, rfl, hk, h⟩ := h
  unfold r__law_cell
  walk_at "vc"
  split
  · rename_i c
    have hk2 : k < (ns.map D.int).length := by omega
    rw [atI_nat hk2]
    simp only [List.getElem_map, withO_some]
    exact h _
  · exact ⟨cmul_64 (by omega) (by omega) (by omega) (by omega), h _⟩
theorem vc__law_box (ds : List D) (S : Sto) (Q : QD) (h : sp__law_box ds S Q) : r__law_box { nx := fun _ S' => Q .non S', rt := Q } (startD 1 ds) S := by
  obtain ⟨x, rfl, h⟩ := h
  unfold r__law_box
  walk_at "vc"
  refine ⟨cpow_64 (by omega) (by omega) (by omega) (by omega), by omega, by omega, fun p hp => h p _ hp ⟨_, _, _, _, rfl, ?_, (fmod_bnd (by omega)).1, ?_, (fmod_bnd (by omega)).1, ?_, by omega, by omega⟩⟩
  · omega
  · have := (fmod_bnd (i := x) (j := 2147483629) (by omega)).2
    omega
  · have := (fmod_bnd (i := x) (j := 2147483587) (by omega)).2
    omega
theorem vc__law_take (ds : List D) (S : Sto) (Q : QD) (h : sp__law_take ds S Q) : r__law_take { nx := fun _ S' => Q .non S', rt := Q } (startD 5 ds) S := by
  obtain ⟨b, n, c, m, rfl, hm, hm2, hb, ⟨x0, x1, x2, x3, rfl, h0, h1, h1', h2, h2', h3, h3'⟩, h⟩ := h
  unfold r__law_take
  walk_at "vc"
  simp only [rdIx_at hb]
  walk_at "vc"
  simp only [rdIx_at hb, rdIx_up]
  walk_at "vc"
  split
  · simp only [rdIx_at hb]
    walk_at "vc"
    obtain ⟨k1, k2⟩ := fmod_bnd (i := x0) hm
    exact ⟨by omega, cdiv_30 hm hm2, b, _, 0, rfl, hb, rfl, h _ _ k1 k2 ⟨_, _, _, _, rfl, Int.fdiv_nonneg h0 (by omega), h1, h1', h2, h2', h3, by omega⟩⟩
  · refine ⟨b, _, 3, rfl, hb, rfl, ?_⟩
    simp only [rdIx_up]
    walk_at "vc"
    simp only [rdIx_up]
    walk_at "vc"
    have hc : BoxC n (.lst [.int x0, .int x1, .int x2, .int (x3 + 1)]) := ⟨_, _, _, _, rfl, h0, h1, h1', h2, h2', by omega, by omega⟩
    have ht : 0 ≤ x3 + 1 ∧ x3 + 1 ≤ 10000 := by omega
    generalize x3 + 1 = t at hc ht ⊢
    obtain ⟨t0, t1⟩ := ht
    have a0 : 0 ≤ x1 * (2 * t + 3) := Int.mul_nonneg h1 (by omega)
    have a1 : x1 * (2 * t + 3) ≤ 2147483648 * 20003 := Int.mul_le_mul (by omega) (by omega) (by omega) (by omega)
    have b0 : 0 ≤ 6047 * t * t := Int.mul_nonneg (by omega) t0
    have b1 : 6047 * t * t ≤ 60470000 * 10000 := Int.mul_le_mul (by omega) t1 t0 (by omega)
    have c0 : 0 ≤ x2 * t := Int.mul_nonneg h2 t0
    have c1 : x2 * t ≤ 2147483648 * 10000 := Int.mul_le_mul (by omega) t1 t0 (by omega)
    obtain ⟨k1, k2⟩ := fmod_bnd (i := (x1 * (2 * t + 3) + 6047 * t * t + 76) ^ Int.toNat 5) (j := 2147483647) (by omega)
    refine ⟨cmul_64 (by omega) (by omega) (by omega) (by omega), cmul_64 (by omega) (by omega) (by omega) (by omega), cmul_64 (by omega) (by omega) (by omega) (by omega), cmul_64 (by omega) (by omega) (by omega) (by omega), cpow_64 (by omega) (by omega) (by omega) (by omega), by omega, cmul_64 (by omega) (by omega) (by omega) (by omega), cpow_64 (by omega) (by omega) (by omega) (by omega), by omega, cdiv_30 (by omega) (by omega), by omega, ?_⟩
    exact h _ _ (fmod_bnd hm).1 (fmod_bnd hm).2 hc

end K76

set_option maxHeartbeats 1000000
namespace K76
open PySem PySem.Spec PyProof.Rows L2 DL KC KL
local macro_rules | `(tactic| walk_at "vc") => `(tactic| simp only [dV, dC, dOp, dB, dAnd, dOr, dNot, dAndV, dOrV, dNotV, dIf, dNil, dCons, dTup, dLst, dCell, dFrz, sNext, sSeq, sBreak, sCont, sDrop, sRet, sRetN, sIf, sNever, gN, gsNil, gsCons, gT, sAsg, sPar, sPar3, sAug, withV, withO_some,
  asB_bl, asI_int, asS_str, asT_tup, asC_cons, asN_nil, as1_one, as2_two, as3_three, refD_ref, startD, dCall, dCallK, dCB, rdI0, rdAdd_ii, rdAdd_ss, rdAdd_ll, rdSub_ii, rdMul_ii, rdDiv_ii, rdMod_ii, rdPow_ii, dNeg, dChain, rdLt_ii, rdGt_ii, rdLe_ii, rdGe_ii, rdEqv_ii, rdNev_ii, dIsN, dNotN, isNon_non, isNon_int, rdIsi,
  tyD_non, tyD_bl, tyD_int, tyD_str, tyD_lst, tyD_rol, tyD_tup, tyD_rot, clsOf_ty, clsOf_tup, tysOf_nil, tysOf_cons, rdLen_str, rdLen_lst, rdLen_rol, rdLen_tup, seqOf_lst, seqOf_rol, seqOf_tup, seqOf_rot, rdIx_tup, rdIx_lst, rdIx_rol, rdIx_str, atI,
  k_int_int, k_int_bool, k_int_str, k_int_tuple, k_bool_int, k_bool_bool, k_str_str, k_str_int, k_str_tuple, k_tup_int, k_tup_str, k_tup_tup, k_lst_tup, k_lst_seq, k_tup_seq, rdAbs, sWhile, rdMax2_ii, rdMin2_ii, decide_true, decide_false, decide_eq_true_eq, rdInt_int, rdInt_bl, rdInt_str, rdMulS_si, rdList, rdListC, rdTuple, tupOf_lst, tupOf_tup, tupOf_ref, dRng1, dRng2, dRng2B, dRngD, dSeq, dRevR2, dZip, dSlA, rdSlA,
  isRot_tup, isRot_lst, isRot_ref, isTup_tup, isTup_lst, isTup_rol, isTup_ref, oSo, oNo, gSet, dYes, rdGe_pp,
  List.map_cons, List.map_nil, List.cons_append, List.nil_append, List.append_nil, List.length_cons, List.length_nil, List.replicate_succ, List.replicate_zero, Nat.reduceSub, Nat.reduceAdd, List.getElem?_cons_zero, List.getElem?_cons_succ, List.set_cons_zero, List.set_cons_succ, Option.map_some, Option.map_none,
  plain_int, plain_tup, common_ii, seqOf_mk, rdNev_bb, rdEqv_bb, if_true, if_false, Bool.not_true, Bool.not_false, reduceIte, Bool.false_eq_true, dwipe, spanD, true_and, and_true, ix30, ix31, ix32, ix20, ix21, ix40, ix41, ix42, ix43, Option.bind_some, Option.bind_none, sl0, sl1, sl2, sl3, sl4, sl5, sl6, sl7, sl8, sl9, Nat.zero_add])
open K78 (BoxC runs step Good cellsOf)
theorem vc__law_number (ds : List D) (S : Sto) (Q : QD) (h : sp__law_number ds S Q) : r__law_number { nx := fun _ S' => Q .non S', rt := Q } (startD 4 ds) S := by
  obtain ⟨t, b, rfl, hb, hb2, h⟩ := h
  unfold r__law_number
  walk_at "vc"
  refine ⟨fun m ρ S' => ∃ x y : Int, S' = S ∧ ρ = [some (.int t), some (.int b), some (.int x), some (.int y)] ∧ 0 ≤ x ∧ 0 ≤ y ∧ m = y.toNat ∧ Int.gcd x y = Int.gcd t b, ⟨_, _, _, rfl, rfl, ?_, ?_, rfl, ?_⟩, ?_⟩
  · split <;> omega
  · omega
  · have h1 : ∀ x : Int, (if x < 0 then -x else x) = x.natAbs := fun x => by split <;> omega
    rw [h1]
    simp [Int.gcd]
  · rintro m ρ S' ⟨x, y, rfl, rfl, hx, hy, rfl, hg⟩
    walk_at "vc"
    by_cases e : 0 < y
    · rw [if_pos e]
      have hm := Int.fmod_nonneg hx (by omega : 0 ≤ y)
      have hl : x.fmod y < y := by
        rw [Int.fmod_eq_emod_of_nonneg _ (by omega)]
        exact Int.emod_lt_of_pos _ (by omega)
      exact ⟨by omega, _, by omega, y, x.fmod y, rfl, by omega, hm, rfl, by rw [gcd_step hx (by omega), hg]⟩
    · rw [if_neg e]
      have hy0 : y = 0 := by omega
      subst hy0
      have hx1 : (Int.gcd t b : Int) = x := by rw [← hg]; simp [Int.gcd]; omega
      obtain ⟨g1, g2⟩ := gcd_top (t := t) hb (k := 30) (by unfold Sz; omega)
      have hgb : (Int.gcd t b : Int) ≤ b := by
        have : Int.gcd t b ≤ b.natAbs := Nat.le_of_dvd (by omega) (Int.gcd_dvd_natAbs_right ..)
        omega
      unfold redM at h
      rw [if_neg (show ¬ b < 0 by omega)] at h
      dsimp only at h
      rw [hx1] at h
      rw [hx1] at g1 hgb
      have hd : x ∣ b := by rw [← hx1]; exact Int.gcd_dvd_right ..
      have hc1 : ∀ i, CDivN i x ∨ CDivW i x := fun i => cdiv_30 (by omega) (by omega)
      have key : b.fdiv x = 1 ↔ b = x := by
        rw [Int.fdiv_eq_ediv_of_nonneg _ (by omega)]
        obtain ⟨k, rfl⟩ := hd
        rw [Int.mul_ediv_cancel_left _ (by omega)]
        constructor
        · intro e; rw [e, Int.mul_one]
        · intro e
          have : x * k = x * 1 := by rw [e, Int.mul_one]
          exact Int.eq_of_mul_eq_mul_left (by omega) this
      by_cases c : b = x
      · rw [if_pos (key.mpr c)] at h
        rw [if_pos c]
        exact ⟨hc1 _, h⟩
      · rw [if_neg fun z => c (key.mp z)] at h
        rw [if_neg c]
        exact ⟨hc1 _, hc1 _, h⟩
theorem vc__law_told (ds : List D) (S : Sto) (Q : QD) (h : sp__law_told ds S Q) : r__law_told { nx := fun _ S' => Q .non S', rt := Q } (startD 4 ds) S := by
  obtain ⟨w, base, rfl, h1, h2, hl, h⟩ := h
  unfold r__law_told
  walk_at "vc"
  refine dLc_of (ptsD w) w DL.pairD (fun x => some (plcD (redM x.1 base, redM x.2 base))) (fun R h => by exact h) rfl (le_line (by omega)) (fun x hx p zs Y N hp hy => ?_) ?_
  · walk_at "vc"
    refine ⟨_, _, rfl, h1, h2, _, _, rfl, h1, h2, ?_⟩
    walk_at "vc"
    exact hy
  · rw [filterMap_all]
    have e : w.map (fun x => plcD (redM x.1 base, redM x.2 base)) = (told base w).map plcD := by simp [told]
    rw [e]
    exact h
theorem vc__law_longer (ds : List D) (S : Sto) (Q : QD) (h : sp__law_longer ds S Q) : r__law_longer { nx := fun _ S' => Q .non S', rt := Q } (startD 3 ds) S := by
  obtain ⟨w, rfl, h1, h2, h⟩ := h
  unfold r__law_longer
  walk_at "vc"
  intro p hp
  have hk : (100 : Int).fdiv (w.length : Int) = ((100 / w.length : Nat) : Int) := by
    rw [Int.fdiv_eq_ediv_of_nonneg _ (by omega)]
    simp
  refine sForS_of (ptsD w) w DL.pairD _ (fun k ρ S' => S' = sup S p (.lst (((w.take k).flatMap fun x => List.replicate (100 / w.length) x).map DL.pairD)) ∧ ∃ a, ρ = [some (ptsD w), some (.ref p), a]) (fun R h => by walk_at "vc"; exact h) rfl ⟨rfl, _, rfl⟩ (fun _ _ _ _ => rfl) ?_ ?_
  · rintro k x ρ S' hx ⟨rfl, a, rfl⟩
    have hkl := (List.getElem?_eq_some_iff.mp hx).1
    walk_at "vc"
    refine dExtend_of p _ (fun R h => by exact h) sup_same ?_
    walk_at "vc"
    simp only [ptsD]
    walk_at "vc"
    rw [List.length_map, hk]
    have hq : 100 / w.length ≤ 100 := Nat.div_le_self ..
    generalize 100 / w.length = q at *
    refine ⟨cdiv_30 (by omega) (by omega), rdMul_lst (by omega) (by omega) (by simp only [List.length_cons, List.length_nil, sizeLine_eq]; omega) ?_⟩
    rw [Int.toNat_natCast, flat_one]
    have hlen : ((w.take k).flatMap fun x => List.replicate q x).length ≤ 100 * k := by
      rw [List.length_flatMap]
      have : ((w.take k).map fun x => (List.replicate q x).length) = List.replicate (w.take k).length q := by
        rw [List.eq_replicate_iff]
        refine ⟨by simp, fun z hz => ?_⟩
        obtain ⟨y, _, rfl⟩ := List.mem_map.mp hz
        simp
      rw [this, List.sum_replicate_nat]
      have h3 : (w.take k).length ≤ k := List.length_take_le ..
      calc (w.take k).length * q ≤ k * 100 := Nat.mul_le_mul h3 hq
        _ = 100 * k := Nat.mul_comm ..
    refine ⟨_, _, sup_same, rfl, ?_, ?_, _, rfl⟩
    · rw [List.length_map, List.length_replicate, sizeLine_eq]
      omega
    · rw [sup_sup, take_succ_of hx, List.flatMap_append, List.map_append]
      simp
  · rintro ρ S' ⟨rfl, a, rfl⟩
    walk_at "vc"
    refine ⟨p, _, rfl, sup_same, ?_⟩
    rw [sdel_sup, sdel_none hp, List.take_length]
    exact h
theorem runs_len (ps : List (Int × Int)) : (runs ps).length ≤ ps.length := by
  have key : ∀ (ps : List (Int × Int)) (acc : List Spn), (ps.foldl step acc).length ≤ acc.length + ps.length := by
    intro ps
    induction ps with
    | nil => intro acc; simp
    | cons p ps ih =>
      intro acc
      have h1 := ih (step acc p)
      have h2 : (step acc p).length ≤ acc.length + 1 := by
        unfold K78.step
        split
        · split
          · simp
          · simp
        · simp
      simp only [List.foldl_cons, List.length_cons]
      omega
  have := key ps []
  simp only [List.length_nil, Nat.zero_add] at this
  exact this
theorem vc__law_spans (ds : List D) (S : Sto) (Q : QD) (h : sp__law_spans ds S Q) : r__law_spans { nx := fun _ S' => Q .non S', rt := Q } (startD 4 ds) S := by
  obtain ⟨d, ps, rfl, hx, hx2, hl, h⟩ := h
  unfold r__law_spans
  walk_at "vc"
  intro p hp
  refine sForS_of d ps DL.pairD _ (fun k ρ S' => S' = sup S p (.lst ((runs (ps.take k)).map spanD)) ∧ ∃ a b, ρ = [some d, some (.ref p), a, b]) (fun R h => by walk_at "vc"; exact h) (hx2 p hp _) ⟨rfl, _, _, rfl⟩ (fun i ρ S' ⟨e, _⟩ => by rw [e]; exact hx2 p hp _) ?_ ?_
  · rintro k pt ρ S' hpt ⟨rfl, a, b, rfl⟩
    have hkl := (List.getElem?_eq_some_iff.mp hpt).1
    have hstep : runs (ps.take (k + 1)) = step (runs (ps.take k)) pt := by
      rw [take_succ_of hpt]
      simp [K78.runs, List.foldl_append]
    have hrl : (runs (ps.take k)).length ≤ k := by
      have := runs_len (ps.take k)
      have h2 : (ps.take k).length ≤ k := List.length_take_le _ _
      omega
    simp only [hstep]
    generalize runs (ps.take k) = acc at hrl ⊢
    have app : ∀ ρ : Rho, ρ = [some d, some (.ref p), some (.int pt.1), some (.int pt.2)] → step acc pt = acc ++ [(pt.1, pt.2, pt.2 + 1)] →
        dAppend (dV 1) (dTup (dCons (dV 2) (dCons (dV 3) (dCons (dOp rdAdd (dV 3) (dC (.int 1))) dNil)))) ρ (sup S p (.lst (acc.map spanD)))
          (fun _ S1 => S1 = sup S p (.lst ((step acc pt).map spanD)) ∧ ∃ a b, ρ = [some d, some (.ref p), a, b]) := by
      rintro ρ rfl e
      refine dAppend_of p _ (fun R h => by exact h) sup_same ?_
      walk_at "vc"
      refine ⟨_, sup_same, by rw [List.length_map, sizeLine_eq]; omega, ?_, _, _, rfl⟩
      rw [sup_sup, e]
      simp [spanD]
    walk_at "vc"
    refine rdNev_nil same_span (fun a => fit_mono (n := 2) (by omega) (fit_span a)) sup_same ?_
    rcases List.eq_nil_or_concat acc with rfl | ⟨init, l, rfl⟩
    · walk_at "vc"
      exact app _ rfl rfl
    · have hne : ¬ (init.concat l = []) := by simp
      simp only [List.concat_eq_append] at hne app hrl ⊢
      walk_at "vc"
      simp only [hne, decide_false, Bool.not_false, if_true, rdIx_up]
      walk_at "vc"
      simp only [at_last, withO_some]
      walk_at "vc"
      have hst : step (init ++ [l]) pt = if l.1 = pt.1 ∧ l.2.2 = pt.2 then init ++ [(pt.1, l.2.1, pt.2 + 1)] else init ++ [l] ++ [(pt.1, pt.2, pt.2 + 1)] := by
        unfold K78.step
        simp
      by_cases c1 : l.1 = pt.1
      · rw [if_pos c1]
        simp only [rdIx_up]
        walk_at "vc"
        simp only [at_last, withO_some]
        walk_at "vc"
        by_cases c2 : l.2.2 = pt.2
        · rw [if_pos c2]
          simp only [rdIx_up]
          walk_at "vc"
          simp only [at_last, withO_some]
          walk_at "vc"
          refine ⟨p, _, _, rfl, sup_same, ix_last, ?_, _, _, rfl⟩
          rw [sup_sup, hst, if_pos ⟨c1, c2⟩]
          simp [spanD]
        · rw [if_neg c2]
          exact app _ rfl (by rw [hst, if_neg fun h => c2 h.2])
      · rw [if_neg c1]
        exact app _ rfl (by rw [hst, if_neg fun h => c1 h.1])
  · rintro ρ S' ⟨rfl, a, b, rfl⟩
    walk_at "vc"
    refine ⟨p, _, rfl, sup_same, ?_⟩
    rw [sdel_sup, sdel_none hp, List.take_length]
    exact h

end K76

set_option maxHeartbeats 1000000
namespace K76
open PySem PySem.Spec PyProof.Rows L2 DL KC KL
local macro_rules | `(tactic| walk_at "vc") => `(tactic| simp only [dV, dC, dOp, dB, dAnd, dOr, dNot, dAndV, dOrV, dNotV, dIf, dNil, dCons, dTup, dLst, dCell, dFrz, sNext, sSeq, sBreak, sCont, sDrop, sRet, sRetN, sIf, sNever, gN, gsNil, gsCons, gT, sAsg, sPar, sPar3, sAug, withV, withO_some,
  asB_bl, asI_int, asS_str, asT_tup, asC_cons, asN_nil, as1_one, as2_two, as3_three, refD_ref, startD, dCall, dCallK, dCB, rdI0, rdAdd_ii, rdAdd_ss, rdAdd_ll, rdSub_ii, rdMul_ii, rdDiv_ii, rdMod_ii, rdPow_ii, dNeg, dChain, rdLt_ii, rdGt_ii, rdLe_ii, rdGe_ii, rdEqv_ii, rdNev_ii, dIsN, dNotN, isNon_non, isNon_int, rdIsi,
  tyD_non, tyD_bl, tyD_int, tyD_str, tyD_lst, tyD_rol, tyD_tup, tyD_rot, clsOf_ty, clsOf_tup, tysOf_nil, tysOf_cons, rdLen_str, rdLen_lst, rdLen_rol, rdLen_tup, seqOf_lst, seqOf_rol, seqOf_tup, seqOf_rot, rdIx_tup, rdIx_lst, rdIx_rol, rdIx_str, atI,
  k_int_int, k_int_bool, k_int_str, k_int_tuple, k_bool_int, k_bool_bool, k_str_str, k_str_int, k_str_tuple, k_tup_int, k_tup_str, k_tup_tup, k_lst_tup, k_lst_seq, k_tup_seq, rdAbs, sWhile, rdMax2_ii, rdMin2_ii, decide_true, decide_false, decide_eq_true_eq, rdInt_int, rdInt_bl, rdInt_str, rdMulS_si, rdList, rdListC, rdTuple, tupOf_lst, tupOf_tup, tupOf_ref, dRng1, dRng2, dRng2B, dRngD, dSeq, dRevR2, dZip, dSlA, rdSlA,
  isRot_tup, isRot_lst, isRot_ref, isTup_tup, isTup_lst, isTup_rol, isTup_ref, oSo, oNo, gSet, dYes, rdGe_pp,
  List.map_cons, List.map_nil, List.cons_append, List.nil_append, List.append_nil, List.length_cons, List.length_nil, List.replicate_succ, List.replicate_zero, Nat.reduceSub, Nat.reduceAdd, List.getElem?_cons_zero, List.getElem?_cons_succ, List.set_cons_zero, List.set_cons_succ, Option.map_some, Option.map_none,
  plain_int, plain_tup, common_ii, seqOf_mk, rdNev_bb, rdEqv_bb, if_true, if_false, Bool.not_true, Bool.not_false, reduceIte, Bool.false_eq_true, dwipe, spanD, true_and, and_true, ix30, ix31, ix32, ix20, ix21, ix40, ix41, ix42, ix43, Option.bind_some, Option.bind_none, sl0, sl1, sl2, sl3, sl4, sl5, sl6, sl7, sl8, sl9, Nat.zero_add])
open K78 (BoxC runs step Good cellsOf)
theorem nexts_at {w : List Pt} {k : Nat} {x : Pt} (h : w[k]? = some x) : ∃ b, (edgesN w)[k]? = some (x, b) ∧ b ∈ w ∧ atI (w.map DL.pairD) (((k : Int) + 1).fmod (w.length : Int)) = some (DL.pairD b) := by
  have hk : k < w.length := (List.getElem?_eq_some_iff.mp h).1
  have hf : ((k : Int) + 1).fmod (w.length : Int) = (((k + 1) % w.length : Nat) : Int) := by
    rw [Int.fmod_eq_emod_of_nonneg _ (by omega)]
    simp
  have hat : ∀ j : Nat, j < w.length → atI (w.map DL.pairD) (j : Int) = some (DL.pairD (w.getD j (0, 0))) := by
    intro j hj
    unfold atI ixN
    rw [if_pos (by omega), if_pos (by rw [List.length_map]; omega)]
    simp [List.getElem?_eq_getElem hj, List.getD_eq_getElem?_getD]
  rw [hf, hat _ (Nat.mod_lt _ (by omega))]
  refine ⟨w.getD ((k + 1) % w.length) (0, 0), ?_, ?_, rfl⟩
  · unfold edgesN
    rw [List.getElem?_zip_eq_some]
    refine ⟨h, ?_⟩
    unfold nexts
    by_cases c : k + 1 < w.length
    · rw [Nat.mod_eq_of_lt c, List.getElem?_append_left (by rw [List.length_drop]; omega), List.getElem?_drop, List.getD_eq_getElem?_getD, Nat.add_comm 1 k, List.getElem?_eq_getElem c]
      rfl
    · have e : k + 1 = w.length := by omega
      rw [e, Nat.mod_self, List.getElem?_append_right (by rw [List.length_drop]; omega), List.length_drop]
      have : k - (w.length - 1) = 0 := by omega
      rw [this, List.getD_eq_getElem?_getD]
      have h0 : 0 < w.length := by omega
      rw [List.getElem?_take_of_lt (by omega), List.getElem?_eq_getElem h0]
      rfl
  · have hj := Nat.mod_lt (k + 1) (show 0 < w.length by omega)
    rw [List.getD_eq_getElem?_getD, List.getElem?_eq_getElem hj]
    exact List.getElem_mem hj
theorem edgesN_len (w : List Pt) : (edgesN w).length ≤ w.length := by unfold edgesN; rw [List.length_zip]; omega
theorem vc__law_west (ds : List D) (S : Sto) (Q : QD) (h : sp__law_west ds S Q) : r__law_west { nx := fun _ S' => Q .non S', rt := Q } (startD 10 ds) S := by
  obtain ⟨w, x, y, rfl, ⟨w1, w2, w3⟩, hx, hy, h⟩ := h
  unfold r__law_west
  walk_at "vc"
  unfold westL at h
  refine sFor_of (List.range w.length) (fun i : Nat => .tup [.int i, DL.pairD (w.getD i (0, 0))]) (fun S => seqOf S (.lst (w.map DL.pairD)) = some (w.map DL.pairD)) S
    (fun k ρ S' => S' = S ∧ ∃ b c d e f, ρ = [some (ptsD w), some (.int x), some (.int y), some (.int (((edgesN w).take k).filterMap (westT x y)).sum), some (.int ((((edgesN w).take k).filterMap (westT x y)).length : Int)), b, c, d, e, f])
    (fun R hR => ?_) ⟨rfl, _, _, _, _, _, rfl⟩ (fun _ _ _ _ => rfl) ?_ ?_
  · refine ⟨_, rfl, rfl, ?_⟩
    have e : enumD (w.map DL.pairD) = (List.range w.length).map fun i : Nat => .tup [.int i, DL.pairD (w.getD i (0, 0))] := by
      unfold enumD
      rw [List.length_map]
      refine List.map_congr_left fun i hi => ?_
      have := List.mem_range.mp hi
      simp [List.getD_eq_getElem?_getD, List.getElem?_eq_getElem this]
    rw [e]
    exact hR
  · rintro k k' ρ S' hk ⟨rfl, b, c, d, e, f, rfl⟩
    obtain ⟨hkl, rfl⟩ : k < w.length ∧ k' = k := by
      have h1 := (List.getElem?_eq_some_iff.mp hk).1
      rw [List.length_range] at h1
      rw [List.getElem?_range h1] at hk
      exact ⟨h1, by cases hk; rfl⟩
    have hp : w[k']? = some (w.getD k' (0, 0)) := by rw [List.getD_eq_getElem?_getD, List.getElem?_eq_getElem hkl]; rfl
    generalize w.getD k' (0, 0) = one at hp
    obtain ⟨oth, e1, e2, e3⟩ := nexts_at hp
    rw [take_succ_of e1]
    obtain ⟨ox, oy⟩ := w3 one (List.mem_of_getElem? hp)
    obtain ⟨tx, ty⟩ := w3 oth e2
    simp only [atI] at e3
    simp only [ptsD]
    walk_at "vc"
    rw [List.length_map] at *
    refine ⟨by omega, ?_⟩
    rw [e3]
    walk_at "vc"
    have t1 : Sz 41 (y - one.2) := top_sub hy oy (by omega) (by omega)
    have t2 : Sz 41 (oth.1 - one.1) := top_sub tx ox (by omega) (by omega)
    have t3 : Sz 41 (x - one.1) := top_sub hx ox (by omega) (by omega)
    have t4 : Sz 41 (oth.2 - one.2) := top_sub ty oy (by omega) (by omega)
    have hfm : ∀ z, westT x y (one, oth) = some z → (List.filterMap (westT x y) (List.take k' (edgesN w) ++ [(one, oth)])) = (List.filterMap (westT x y) (List.take k' (edgesN w))) ++ [z] := fun z hz => by
      rw [List.filterMap_append, List.filterMap_cons, hz]; rfl
    have hfn : westT x y (one, oth) = none → (List.filterMap (westT x y) (List.take k' (edgesN w) ++ [(one, oth)])) = (List.filterMap (westT x y) (List.take k' (edgesN w))) := fun hz => by
      rw [List.filterMap_append, List.filterMap_cons, hz]; simp
    generalize (List.filterMap (westT x y) (List.take k' (edgesN w))) = L at *
    generalize (List.filterMap (westT x y) (List.take k' (edgesN w) ++ [(one, oth)])) = L2 at *
    unfold westT at hfm hfn
    dsimp only at hfm hfn
    by_cases c0 : decide (y < one.2) = decide (y < oth.2)
    · rw [if_pos c0] at hfn
      simp only [c0, decide_true, Bool.not_true, Bool.false_eq_true, if_false]
      rw [hfn rfl]
      exact ⟨_, _, _, _, _, rfl⟩
    · simp only [if_neg c0] at hfn hfm
      simp only [c0, decide_false, Bool.not_false, if_true]
      refine ⟨top_mul t1 t2 (by omega) (by omega) (by omega), top_mul t3 t4 (by omega) (by omega) (by omega), ?_⟩
      generalize (y - one.2) * (oth.1 - one.1) - (x - one.1) * (oth.2 - one.2) = tn at *
      generalize oth.2 - one.2 = st at *
      have fin : ∀ z : Int, (if st < 0 then (-1 : Int) else 1) = z → (∀ z, some (if st < 0 then (-1 : Int) else 1) = some z → L2 = L ++ [z]) → L2.sum = L.sum + z ∧ ((L2.length : Int)) = (L.length : Int) + 1 := fun z e hh => by
        rw [hh _ rfl, e]
        simp
      by_cases c1 : tn = 0 ∨ decide (tn < 0) = decide (0 < st)
      · simp only [if_pos c1] at hfm
        by_cases c3 : st < 0
        · obtain ⟨f1, f2⟩ := fin (-1) (if_pos c3) hfm
          by_cases c2 : tn = 0
          · simp only [c2, c3, if_true, decide_true]
            walk_at "vc"
            rw [f1, f2]
            exact ⟨_, _, _, _, _, rfl⟩
          · have c4 := c1.resolve_left c2
            simp only [c2, c4, c3, if_true, if_false, decide_true]
            walk_at "vc"
            rw [f1, f2]
            exact ⟨_, _, _, _, _, rfl⟩
        · obtain ⟨f1, f2⟩ := fin 1 (if_neg c3) hfm
          by_cases c2 : tn = 0
          · simp only [c2, c3, if_true, decide_true, decide_false]
            walk_at "vc"
            rw [f1, f2]
            exact ⟨_, _, _, _, _, rfl⟩
          · have c4 := c1.resolve_left c2
            simp only [c2, c4, c3, if_true, if_false, decide_true, decide_false]
            walk_at "vc"
            rw [f1, f2]
            exact ⟨_, _, _, _, _, rfl⟩
      · simp only [if_neg c1] at hfn
        have c2 : ¬ tn = 0 := fun e => c1 (.inl e)
        have c4 : ¬ decide (tn < 0) = decide (0 < st) := fun e => c1 (.inr e)
        simp only [c2, c4, if_false, decide_false]
        try walk_at "vc"
        rw [hfn trivial]
        exact ⟨_, _, _, _, _, rfl⟩
  · rintro ρ S' ⟨rfl, b, c, d, e, f, rfl⟩
    walk_at "vc"
    rw [List.take_of_length_le (by rw [List.length_range]; exact edgesN_len w)]
    exact h

end K76

set_option maxHeartbeats 1000000
namespace K76
open PySem PySem.Spec PyProof.Rows L2 DL KC KL
local macro_rules | `(tactic| walk_at "vc") => `(tactic| simp only [dV, dC, dOp, dB, dAnd, dOr, dNot, dAndV, dOrV, dNotV, dIf, dNil, dCons, dTup, dLst, dCell, dFrz, sNext, sSeq, sBreak, sCont, sDrop, sRet, sRetN, sIf, sNever, gN, gsNil, gsCons, gT, sAsg, sPar, sPar3, sAug, withV, withO_some,
  asB_bl, asI_int, asS_str, asT_tup, asC_cons, asN_nil, as1_one, as2_two, as3_three, refD_ref, startD, dCall, dCallK, dCB, rdI0, rdAdd_ii, rdAdd_ss, rdAdd_ll, rdSub_ii, rdMul_ii, rdDiv_ii, rdMod_ii, rdPow_ii, dNeg, dChain, rdLt_ii, rdGt_ii, rdLe_ii, rdGe_ii, rdEqv_ii, rdNev_ii, dIsN, dNotN, isNon_non, isNon_int, rdIsi,
  tyD_non, tyD_bl, tyD_int, tyD_str, tyD_lst, tyD_rol, tyD_tup, tyD_rot, clsOf_ty, clsOf_tup, tysOf_nil, tysOf_cons, rdLen_str, rdLen_lst, rdLen_rol, rdLen_tup, seqOf_lst, seqOf_rol, seqOf_tup, seqOf_rot, rdIx_tup, rdIx_lst, rdIx_rol, rdIx_str, atI,
  k_int_int, k_int_bool, k_int_str, k_int_tuple, k_bool_int, k_bool_bool, k_str_str, k_str_int, k_str_tuple, k_tup_int, k_tup_str, k_tup_tup, k_lst_tup, k_lst_seq, k_tup_seq, rdAbs, sWhile, rdMax2_ii, rdMin2_ii, decide_true, decide_false, decide_eq_true_eq, rdInt_int, rdInt_bl, rdInt_str, rdMulS_si, rdList, rdListC, rdTuple, tupOf_lst, tupOf_tup, tupOf_ref, dRng1, dRng2, dRng2B, dRngD, dSeq, dRevR2, dZip, dSlA, rdSlA,
  isRot_tup, isRot_lst, isRot_ref, isTup_tup, isTup_lst, isTup_rol, isTup_ref, oSo, oNo, gSet, dYes, rdGe_pp,
  List.map_cons, List.map_nil, List.cons_append, List.nil_append, List.append_nil, List.length_cons, List.length_nil, List.replicate_succ, List.replicate_zero, Nat.reduceSub, Nat.reduceAdd, List.getElem?_cons_zero, List.getElem?_cons_succ, List.set_cons_zero, List.set_cons_succ, Option.map_some, Option.map_none,
  plain_int, plain_tup, common_ii, seqOf_mk, rdNev_bb, rdEqv_bb, if_true, if_false, Bool.not_true, Bool.not_false, reduceIte, Bool.false_eq_true, dwipe, spanD, true_and, and_true, ix30, ix31, ix32, ix20, ix21, ix40, ix41, ix42, ix43, Option.bind_some, Option.bind_none, sl0, sl1, sl2, sl3, sl4, sl5, sl6, sl7, sl8, sl9, Nat.zero_add])
open K78 (BoxC runs step Good cellsOf)
theorem vc__law_within (ds : List D) (S : Sto) (Q : QD) (h : sp__law_within ds S Q) : r__law_within { nx := fun _ S' => Q .non S', rt := Q } (startD 8 ds) S := by
  obtain ⟨rows, x, y, odd, rfl, ⟨r1, r2, r3⟩, hx, hy, h⟩ := h
  unfold r__law_within
  walk_at "vc"
  refine dLc_of (rowsD rows) rows ptsD (fun w => some (.tup [.int (westL w x y).sum, .int ((westL w x y).length : Int)])) (fun R h => by exact h) rfl (le_line (by omega)) (fun w hw p zs Y N hp hy2 => ?_) ?_
  · walk_at "vc"
    exact ⟨w, x, y, rfl, r3 w hw, hx, hy, hy2⟩
  · rw [filterMap_all]
    unfold withinL at h
    have e : rows.map (fun w => D.tup [.int (westL w x y).sum, .int ((westL w x y).length : Int)]) = (rows.map fun w => ((westL w x y).sum, ((westL w x y).length : Int))).map DL.pairD := by rw [List.map_map]; rfl
    rw [e]
    cases odd with
    | true =>
      simp only [if_true] at h ⊢
      refine dLc_of (.lst ((rows.map fun w => ((westL w x y).sum, ((westL w x y).length : Int))).map DL.pairD)) _ DL.pairD (fun p => some (.int p.2)) (fun R h => by exact h) rfl (le_line (by rw [List.length_map]; omega)) (fun w hw p zs Y N hp hy2 => ?_) ?_
      · walk_at "vc"
        exact hy2
      · rw [filterMap_all]
        refine ⟨rows.map fun w => ((westL w x y).length : Int), by rw [List.map_map, List.map_map]; rfl, ?_⟩
        walk_at "vc"
        exact ⟨by omega, h⟩
    | false =>
      simp only [Bool.false_eq_true, if_false] at h ⊢
      refine dLc_of (.lst ((rows.map fun w => ((westL w x y).sum, ((westL w x y).length : Int))).map DL.pairD)) _ DL.pairD (fun p => some (.int p.1)) (fun R h => by exact h) rfl (le_line (by rw [List.length_map]; omega)) (fun w hw p zs Y N hp hy2 => ?_) ?_
      · walk_at "vc"
        exact hy2
      · rw [filterMap_all]
        refine ⟨rows.map fun w => (westL w x y).sum, by rw [List.map_map, List.map_map]; rfl, ?_⟩
        walk_at "vc"
        exact h
theorem flat_len : ∀ {rows : List (List Pt)}, (∀ w ∈ rows, w.length ≤ 100) → rows.flatten.length ≤ 100 * rows.length
  | [], _ => by simp
  | w :: rows, h => by
    have h1 := flat_len (rows := rows) fun w hw => h w (List.mem_cons_of_mem _ hw)
    have h2 := h w List.mem_cons_self
    simp only [List.flatten_cons, List.length_append, List.length_cons]
    omega
theorem scene_flat {t base : Int} {rows : List (List Pt)} (h : SceneOk t base rows) : 0 < rows.flatten.length ∧ rows.flatten.length ≤ 400 ∧ ∀ x ∈ rows.flatten, -250 * base ≤ x.1 ∧ x.1 < 549 * base ∧ -250 * base * t ≤ x.2 ∧ x.2 < 549 * base * t := by
  obtain ⟨h1, h2, h3⟩ := h
  have h4 := flat_len fun w hw => (h3 w hw).2.1
  refine ⟨?_, by omega, fun x hx => ?_⟩
  · cases rows with
    | nil => simp at h1
    | cons w rows =>
      have := (h3 w List.mem_cons_self).1
      simp only [List.flatten_cons, List.length_append]
      omega
  · obtain ⟨w, hw, hx⟩ := List.mem_flatten.mp hx
    exact (h3 w hw).2.2 x hx
theorem minL_mem {xs : List Int} (h : 0 < xs.length) : minL xs ∈ xs ∧ ∀ y ∈ xs, minL xs ≤ y := by
  obtain ⟨m, hm, h1⟩ : ∃ m ∈ xs, ∀ y ∈ xs, m ≤ y := by
    induction xs with
    | nil => simp at h
    | cons x xs ih =>
      by_cases c : xs = []
      · subst c
        exact ⟨x, by simp, by simp⟩
      · obtain ⟨m, hm, h1⟩ := ih (List.length_pos_iff.mpr c)
        by_cases c2 : x ≤ m
        · refine ⟨x, by simp, fun y hy => ?_⟩
          rcases List.mem_cons.mp hy with rfl | hy
          · omega
          · have := h1 y hy; omega
        · refine ⟨m, by simp [hm], fun y hy => ?_⟩
          rcases List.mem_cons.mp hy with rfl | hy
          · omega
          · exact h1 y hy
  rw [← min_cands hm h1]
  exact ⟨hm, h1⟩
theorem maxL_mem {xs : List Int} (h : 0 < xs.length) : maxL xs ∈ xs ∧ ∀ y ∈ xs, y ≤ maxL xs := by
  obtain ⟨m, hm, h1⟩ : ∃ m ∈ xs, ∀ y ∈ xs, y ≤ m := by
    induction xs with
    | nil => simp at h
    | cons x xs ih =>
      by_cases c : xs = []
      · subst c
        exact ⟨x, by simp, by simp⟩
      · obtain ⟨m, hm, h1⟩ := ih (List.length_pos_iff.mpr c)
        by_cases c2 : m ≤ x
        · refine ⟨x, by simp, fun y hy => ?_⟩
          rcases List.mem_cons.mp hy with rfl | hy
          · omega
          · have := h1 y hy; omega
        · refine ⟨m, by simp [hm], fun y hy => ?_⟩
          rcases List.mem_cons.mp hy with rfl | hy
          · omega
          · exact h1 y hy
  rw [← max_cands hm h1]
  exact ⟨hm, h1⟩
theorem scene_small {base : Int} {rows : List (List Pt)} (h : SceneOk 26 base rows) (b0 : 0 < base) (b1 : base ≤ 12) : RowsSmall rows := by
  obtain ⟨h1, h2, h3⟩ := h
  refine ⟨h1, h2, fun w hw => ?_⟩
  obtain ⟨g1, g2, g3⟩ := h3 w hw
  refine ⟨g1, g2, fun x hx => ?_⟩
  have := g3 x hx
  exact ⟨top_small (by omega) (by omega) (by omega), top_small (by omega) (by omega) (by omega)⟩
theorem fdiv64 {x base : Int} (b0 : 0 < base) : (64 * base) * x.fdiv (64 * base) ≤ x ∧ x < (64 * base) * (x.fdiv (64 * base) + 1) := by
  rw [Int.fdiv_eq_ediv_of_nonneg _ (by omega)]
  have h1 := Int.mul_ediv_self_le (x := x) (k := 64 * base) (by omega)
  have h2 := Int.lt_mul_ediv_self_add (x := x) (k := 64 * base) (by omega)
  refine ⟨h1, ?_⟩
  rw [Int.mul_add, Int.mul_one]
  exact h2
theorem due_ext {base : Int} {rows : List (List Pt)} (h : SceneOk 26 base rows) (b0 : 0 < base) (b1 : base ≤ 12) :
    -6 ≤ (minL (xsL rows)).fdiv (64 * base) ∧ (maxL (xsL rows)).fdiv (64 * base) ≤ 9 ∧ -120 ≤ (minL (ysL rows)).fdiv (64 * base) ∧ (maxL (ysL rows)).fdiv (64 * base) ≤ 240 ∧ (minL (xsL rows)).fdiv (64 * base) ≤ (maxL (xsL rows)).fdiv (64 * base) ∧ (minL (ysL rows)).fdiv (64 * base) ≤ (maxL (ysL rows)).fdiv (64 * base) := by
  obtain ⟨f1, f2, f3⟩ := scene_flat h
  have l1 : 0 < (xsL rows).length := by unfold xsL; rw [List.length_map]; exact f1
  have l2 : 0 < (ysL rows).length := by unfold ysL; rw [List.length_map]; exact f1
  have a1 := minL_mem l1
  have a2 := maxL_mem l1
  have a3 := minL_mem l2
  have a4 := maxL_mem l2
  have q1 := a1.2 _ a2.1
  have q2 := a3.2 _ a4.1
  obtain ⟨x1, m1, e1⟩ := List.mem_map.mp a1.1
  obtain ⟨x2, m2, e2⟩ := List.mem_map.mp a2.1
  obtain ⟨x3, m3, e3⟩ := List.mem_map.mp a3.1
  obtain ⟨x4, m4, e4⟩ := List.mem_map.mp a4.1
  have g1 := f3 x1 m1
  have g2 := f3 x2 m2
  have g3 := f3 x3 m3
  have g4 := f3 x4 m4
  have key : ∀ (x lo hi : Int), lo * base ≤ x → x < hi * base → ∀ a c : Int, 64 * a ≤ lo → hi ≤ 64 * (c + 1) → a ≤ x.fdiv (64 * base) ∧ x.fdiv (64 * base) ≤ c := by
    intro x lo hi h1 h2 a c h3 h4
    obtain ⟨d1, d2⟩ := fdiv64 (x := x) b0
    generalize x.fdiv (64 * base) = q at *
    constructor
    · apply Int.le_of_lt_add_one
      apply Int.lt_of_mul_lt_mul_left (a := 64 * base) ?_ (by omega)
      have : 64 * base * a = base * (64 * a) := by rw [Int.mul_comm 64 base, Int.mul_assoc]
      have h5 : base * (64 * a) ≤ base * lo := Int.mul_le_mul_of_nonneg_left h3 (by omega)
      have h6 : base * lo = lo * base := Int.mul_comm ..
      omega
    · apply Int.le_of_lt_add_one
      apply Int.lt_of_mul_lt_mul_left (a := 64 * base) ?_ (by omega)
      have : 64 * base * (c + 1) = base * (64 * (c + 1)) := by rw [Int.mul_comm 64 base, Int.mul_assoc]
      have h5 : base * hi ≤ base * (64 * (c + 1)) := Int.mul_le_mul_of_nonneg_left h4 (by omega)
      have h6 : base * hi = hi * base := Int.mul_comm ..
      omega
  have mono : ∀ x y : Int, x ≤ y → x.fdiv (64 * base) ≤ y.fdiv (64 * base) := fun x y h => by
    rw [Int.fdiv_eq_ediv_of_nonneg _ (by omega), Int.fdiv_eq_ediv_of_nonneg _ (by omega)]
    exact Int.ediv_le_ediv (by omega) h
  exact ⟨(key _ (-250) 549 (by omega) (by omega) (-6) 9 (by omega) (by omega)).1, (key _ (-250) 549 (by omega) (by omega) (-6) 9 (by omega) (by omega)).2,
    (key _ (-6500) 14274 (by omega) (by omega) (-120) 240 (by omega) (by omega)).1, (key _ (-6500) 14274 (by omega) (by omega) (-120) 240 (by omega) (by omega)).2, mono _ _ q1, mono _ _ q2⟩
theorem vc__law_due (ds : List D) (S : Sto) (Q : QD) (h : sp__law_due ds S Q) : r__law_due { nx := fun _ S' => Qw Q .non S', rt := Qw Q } (startD 13 ds) S := by
  obtain ⟨rows, base, odd, rfl, hs, b0, b1, h⟩ := h
  obtain ⟨f1, f2, f3⟩ := scene_flat hs
  obtain ⟨e1, e2, e3, e4, e5, e6⟩ := due_ext hs b0 b1
  unfold r__law_due
  walk_at "vc"
  intro p hp
  simp only [dSumS]
  walk_at "vc"
  have hfl : (rows.map fun w => w.map DL.pairD).flatten = rows.flatten.map DL.pairD := by rw [List.map_flatten]
  refine withO_iff.mpr ⟨rows.map ptsD, rfl, rows.map fun w => w.map DL.pairD, by rw [List.map_map]; rfl, by rw [List.length_map]; have := hs.1; omega, by rw [hfl, List.length_map]; exact le_line (by omega), ?_⟩
  rw [hfl]
  have hm64 : CMulW 64 base := cmul_64 (by omega) (by omega) (by omega) (by omega)
  have hd64 : ∀ x, CDivN x (64 * base) ∨ CDivW x (64 * base) := fun x => cdiv_30 (by omega) (by omega)
  have lx : 0 < (xsL rows).length := by unfold xsL; rw [List.length_map]; exact f1
  have ly : 0 < (ysL rows).length := by unfold ysL; rw [List.length_map]; exact f1
  refine dLc_of (.lst (rows.flatten.map DL.pairD)) rows.flatten DL.pairD (fun x => some (.int x.1)) (fun R h => by exact h) rfl (le_line (by omega)) (fun x hx p zs Y N hp hy => by walk_at "vc"; exact hy) ?_
  rw [filterMap_all]
  refine ⟨xsL rows, by unfold xsL; rw [List.map_map]; rfl, lx, fun m1 h1 h1' => ⟨hm64, hd64 _, ?_⟩⟩
  rw [min_cands h1 h1']
  walk_at "vc"
  refine dLc_of (.lst (rows.flatten.map DL.pairD)) rows.flatten DL.pairD (fun x => some (.int x.1)) (fun R h => by exact h) rfl (le_line (by omega)) (fun x hx p zs Y N hp hy => by walk_at "vc"; exact hy) ?_
  rw [filterMap_all]
  refine ⟨xsL rows, by unfold xsL; rw [List.map_map]; rfl, lx, fun m2 h2 h2' => ⟨hm64, hd64 _, ?_⟩⟩
  rw [max_cands h2 h2']
  walk_at "vc"
  refine dLc_of (.lst (rows.flatten.map DL.pairD)) rows.flatten DL.pairD (fun x => some (.int x.2)) (fun R h => by exact h) rfl (le_line (by omega)) (fun x hx p zs Y N hp hy => by walk_at "vc"; exact hy) ?_
  rw [filterMap_all]
  refine ⟨ysL rows, by unfold ysL; rw [List.map_map]; rfl, ly, fun m3 h3 h3' => ⟨hm64, hd64 _, ?_⟩⟩
  rw [min_cands h3 h3']
  walk_at "vc"
  refine dLc_of (.lst (rows.flatten.map DL.pairD)) rows.flatten DL.pairD (fun x => some (.int x.2)) (fun R h => by exact h) rfl (le_line (by omega)) (fun x hx p zs Y N hp hy => by walk_at "vc"; exact hy) ?_
  rw [filterMap_all]
  refine ⟨ysL rows, by unfold ysL; rw [List.map_map]; rfl, ly, fun m4 h4 h4' => ⟨hm64, hd64 _, ?_⟩⟩
  rw [max_cands h4 h4']
  walk_at "vc"
  unfold dueM dueCells linesL colsL at h
  dsimp only at h
  rw [List.flatMap_map] at h
  generalize (minL (xsL rows)).fdiv (64 * base) = a1 at *
  generalize (maxL (xsL rows)).fdiv (64 * base) = a2 at *
  generalize (minL (ysL rows)).fdiv (64 * base) = a3 at *
  generalize (maxL (ysL rows)).fdiv (64 * base) = a4 at *
  generalize hN : (a4 + 2 - (a3 - 1)).toNat = N1 at *
  generalize hM : (a2 + 2 - (a1 - 1)).toNat = M1 at *
  have hN1 : N1 ≤ 400 := by omega
  have hM1 : M1 ≤ 20 := by omega
  generalize hlc : (fun r : Int => (((List.range M1).map fun k : Nat => a1 - 1 + (k : Int)).filter fun c => withinL rows ((64 * c + 32) * base) ((64 * r + 32) * base) odd).map fun c => (r, c)) = lc at *
  have h' : Q (.lst ((runs ((List.range N1).flatMap fun k : Nat => lc (a3 - 1 + (k : Int)))).map spanD)) S := by
    rw [← hlc]
    exact h
  clear h
  have hlcl : ∀ r, (lc r).length ≤ M1 := fun r => by
    rw [← hlc, List.length_map]
    refine Nat.le_trans (List.length_filter_le _ _) ?_
    simp
  have hall : ∀ n, ((List.range n).flatMap fun k : Nat => lc (a3 - 1 + (k : Int))).length ≤ 20 * n := by
    intro n
    induction n with
    | zero => simp
    | succ n ih =>
      rw [List.range_succ, List.flatMap_append, List.length_append]
      have := hlcl (a3 - 1 + (n : Int))
      simp only [List.flatMap_cons, List.flatMap_nil, List.append_nil]
      omega
  refine sForR_of (a3 - 1) N1 _ (fun k ρ S' => S' = sup S p (.lst (((List.range k).flatMap fun k : Nat => lc (a3 - 1 + (k : Int))).map DL.pairD)) ∧ ∃ o9 o10, ρ = [some (rowsD rows), some (D.int base), some (D.bl odd), some (D.ref p), some (.lst (rows.flatten.map DL.pairD)), some (.int (a1 - 1)), some (.int (a2 + 2)), some (.int (a3 - 1)), some (.int (a4 + 2)), o9, o10, none, none])
    (fun R hR => ?_) ⟨rfl, _, _, rfl⟩ ?_ ?_
  · walk_at "vc"
    rw [hN]
    exact ⟨by omega, hR⟩
  · rintro k ρ S' hk ⟨rfl, o9, o10, rfl⟩
    walk_at "vc"
    have hdl := hall k
    generalize hdone : (List.range k).flatMap (fun k : Nat => lc (a3 - 1 + (k : Int))) = done at *
    generalize hr : a3 - 1 + (k : Int) = r at *
    refine sForR_of (a1 - 1) M1 (sup S p (.lst (done.map DL.pairD))) (fun j ρ S' => S' = sup S p (.lst ((done ++ (((List.range j).map fun k : Nat => a1 - 1 + (k : Int)).filter fun c => withinL rows ((64 * c + 32) * base) ((64 * r + 32) * base) odd).map fun c => (r, c)).map DL.pairD)) ∧ ∃ o10, ρ = [some (rowsD rows), some (D.int base), some (D.bl odd), some (D.ref p), some (.lst (rows.flatten.map DL.pairD)), some (.int (a1 - 1)), some (.int (a2 + 2)), some (.int (a3 - 1)), some (.int (a4 + 2)), some (.int r), o10, none, none])
      (fun R hR => ?_) ⟨by simp, _, rfl⟩ ?_ ?_
    · walk_at "vc"
      rw [hM]
      exact ⟨by omega, hR⟩
    · rintro j ρ S' hj ⟨rfl, o10, rfl⟩
      walk_at "vc"
      have hjl : ((((List.range j).map fun k : Nat => a1 - 1 + (k : Int)).filter fun c => withinL rows ((64 * c + 32) * base) ((64 * r + 32) * base) odd).map fun c => (r, c)).length ≤ j := by
        rw [List.length_map]
        refine Nat.le_trans (List.length_filter_le _ _) ?_
        simp
      have hsm : ∀ c : Int, -8 ≤ c → c ≤ 260 ∨ True → True := fun _ _ _ => trivial
      have hb1 : ∀ c : Int, -200 ≤ c → c ≤ 400 → Sz 40 ((64 * c + 32) * base) := fun c h1 h2 => top_mono (top_prod (a := 20) (b := 20) (top_small (by omega) (by omega) (by omega)) (top_small (by omega) (by omega) (by omega))) (by omega)
      have hlast : ((((List.range (j + 1)).map fun k : Nat => a1 - 1 + (k : Int)).filter fun c => withinL rows ((64 * c + 32) * base) ((64 * r + 32) * base) odd).map fun c => (r, c)) = ((((List.range j).map fun k : Nat => a1 - 1 + (k : Int)).filter fun c => withinL rows ((64 * c + 32) * base) ((64 * r + 32) * base) odd).map fun c => (r, c)) ++ (if withinL rows ((64 * (a1 - 1 + (j : Int)) + 32) * base) ((64 * r + 32) * base) odd = true then [(r, a1 - 1 + (j : Int))] else []) := by
        rw [List.range_succ, List.map_append, List.filter_append, List.map_append]
        congr 1
        simp only [List.map_cons, List.map_nil, List.filter_cons, List.filter_nil]
        split <;> rfl
      rw [hlast]
      generalize ((((List.range j).map fun k : Nat => a1 - 1 + (k : Int)).filter fun c => withinL rows ((64 * c + 32) * base) ((64 * r + 32) * base) odd).map fun c => (r, c)) = some' at *
      generalize hc : a1 - 1 + (j : Int) = c at *
      refine ⟨cmul_64 (by omega) (by omega) (by omega) (by omega), cmul_64 (by omega) (by omega) (by omega) (by omega), cmul_64 (by omega) (by omega) (by omega) (by omega), cmul_64 (by omega) (by omega) (by omega) (by omega), ?_⟩
      refine ⟨rows, _, _, odd, rfl, scene_small hs b0 b1, hb1 c (by omega) (by omega), hb1 r (by omega) (by omega), ?_⟩
      walk_at "vc"
      by_cases hw : withinL rows ((64 * c + 32) * base) ((64 * r + 32) * base) odd = true
      · simp only [hw, if_true]
        refine dAppend_of p _ (fun R h => by exact h) sup_same ?_
        walk_at "vc"
        refine ⟨_, sup_same, by rw [List.length_map, List.length_append, sizeLine_eq]; omega, ?_, _, rfl⟩
        rw [sup_sup]
        simp
      · simp only [hw, Bool.false_eq_true, if_false, List.append_nil]
        exact ⟨trivial, _, rfl⟩
    · rintro ρ S' ⟨rfl, o10, rfl⟩
      refine ⟨?_, _, _, rfl⟩
      rw [List.range_succ, List.flatMap_append, hdone, ← hlc]
      simp only [List.flatMap_cons, List.flatMap_nil, List.append_nil, hr]
  · rintro ρ S' ⟨rfl, o9, o10, rfl⟩
    walk_at "vc"
    have hx : seqOf (sup S p (.lst (((List.range N1).flatMap fun k : Nat => lc (a3 - 1 + (k : Int))).map DL.pairD))) (.ref p) = some (((List.range N1).flatMap fun k : Nat => lc (a3 - 1 + (k : Int))).map DL.pairD) := seqOf_ref sup_same
    refine ⟨.ref p, _, rfl, hx, fun q hq c => seqOf_sup hq hx, by have := hall N1; omega, ?_⟩
    exact .up hp h'

end K76

set_option maxHeartbeats 1000000
namespace K76
open PySem PySem.Spec PyProof.Rows L2 DL KC KL
local macro_rules | `(tactic| walk_at "vc") => `(tactic| simp only [dV, dC, dOp, dB, dAnd, dOr, dNot, dAndV, dOrV, dNotV, dIf, dNil, dCons, dTup, dLst, dCell, dFrz, sNext, sSeq, sBreak, sCont, sDrop, sRet, sRetN, sIf, sNever, gN, gsNil, gsCons, gT, sAsg, sPar, sPar3, sAug, withV, withO_some,
  asB_bl, asI_int, asS_str, asT_tup, asC_cons, asN_nil, as1_one, as2_two, as3_three, refD_ref, startD, dCall, dCallK, dCB, rdI0, rdAdd_ii, rdAdd_ss, rdAdd_ll, rdSub_ii, rdMul_ii, rdDiv_ii, rdMod_ii, rdPow_ii, dNeg, dChain, rdLt_ii, rdGt_ii, rdLe_ii, rdGe_ii, rdEqv_ii, rdNev_ii, dIsN, dNotN, isNon_non, isNon_int, rdIsi,
  tyD_non, tyD_bl, tyD_int, tyD_str, tyD_lst, tyD_rol, tyD_tup, tyD_rot, clsOf_ty, clsOf_tup, tysOf_nil, tysOf_cons, rdLen_str, rdLen_lst, rdLen_rol, rdLen_tup, seqOf_lst, seqOf_rol, seqOf_tup, seqOf_rot, rdIx_tup, rdIx_lst, rdIx_rol, rdIx_str, atI,
  k_int_int, k_int_bool, k_int_str, k_int_tuple, k_bool_int, k_bool_bool, k_str_str, k_str_int, k_str_tuple, k_tup_int, k_tup_str, k_tup_tup, k_lst_tup, k_lst_seq, k_tup_seq, rdAbs, sWhile, rdMax2_ii, rdMin2_ii, decide_true, decide_false, decide_eq_true_eq, rdInt_int, rdInt_bl, rdInt_str, rdMulS_si, rdList, rdListC, rdTuple, tupOf_lst, tupOf_tup, tupOf_ref, dRng1, dRng2, dRng2B, dRngD, dSeq, dRevR2, dZip, dSlA, rdSlA,
  isRot_tup, isRot_lst, isRot_ref, isTup_tup, isTup_lst, isTup_rol, isTup_ref, oSo, oNo, gSet, dYes, rdGe_pp,
  List.map_cons, List.map_nil, List.cons_append, List.nil_append, List.append_nil, List.length_cons, List.length_nil, List.replicate_succ, List.replicate_zero, Nat.reduceSub, Nat.reduceAdd, List.getElem?_cons_zero, List.getElem?_cons_succ, List.set_cons_zero, List.set_cons_succ, Option.map_some, Option.map_none,
  plain_int, plain_tup, common_ii, seqOf_mk, rdNev_bb, rdEqv_bb, if_true, if_false, Bool.not_true, Bool.not_false, reduceIte, Bool.false_eq_true, dwipe, spanD, true_and, and_true, ix30, ix31, ix32, ix20, ix21, ix40, ix41, ix42, ix43, Option.bind_some, Option.bind_none, sl0, sl1, sl2, sl3, sl4, sl5, sl6, sl7, sl8, sl9, Nat.zero_add])
open K78 (BoxC runs step Good cellsOf)
theorem pick2 {a b i : Int} {k : D → Prop} (h0 : 0 ≤ i) (h1 : i < 2) (h : ∀ z, (z = a ∨ z = b) → k (.int z)) : withO ((ixN 2 i).bind fun j => [D.int a, D.int b][j]?) k := by
  have : i = 0 ∨ i = 1 := by omega
  rcases this with rfl | rfl
  · rw [ix20]; exact h a (.inl rfl)
  · rw [ix21]; exact h b (.inr rfl)
theorem pick3 {a b c i : Int} {k : D → Prop} (h0 : 0 ≤ i) (h1 : i < 3) (h : ∀ z, (z = a ∨ z = b ∨ z = c) → k (.int z)) : withO ((ixN 3 i).bind fun j => [D.int a, D.int b, D.int c][j]?) k := by
  have : i = 0 ∨ i = 1 ∨ i = 2 := by omega
  rcases this with rfl | rfl | rfl
  · rw [ix30]; exact h a (.inl rfl)
  · rw [ix31]; exact h b (.inr (.inl rfl))
  · rw [ix32]; exact h c (.inr (.inr rfl))
theorem f64 (x : Int) : 64 * x.fdiv 64 ≤ x ∧ x < 64 * x.fdiv 64 + 64 := by
  rw [Int.fdiv_eq_ediv_of_nonneg _ (by omega)]
  omega
def Raw (w : List Pt) : Prop := 1 ≤ w.length ∧ w.length ≤ 8 ∧ ∀ x ∈ w, -250 ≤ x.1 ∧ x.1 ≤ 548 ∧ -250 ≤ x.2 ∧ x.2 ≤ 548
theorem poly_tail {F : DL.Fin} {ρ : Rho} {S : Sto} {b : Addr} {n : Nat} {c : Cell} {base : Int} (w : List Pt) (hw : Raw w) (b0 : 0 < base) (b1 : base ≤ 12) (hb : S b = some c) (hc : BoxC (n + 20) c)
    (o2 o3 o4 o5 o6 o8 o9 o10 : Option D) (e : ρ = [some (.ref b), some (.int base), o2, o3, o4, o5, o6, some (ptsD w), o8, o9, o10])
    (h : ∀ (w : List Pt) (c' : Cell), PolyOk base w → BoxC n c' → F.rt (ptsD w) (sup S b c')) : r__law_polygon_t4 F ρ S := by
  subst e
  obtain ⟨w1, w2, w3⟩ := hw
  unfold r__law_polygon_t4
  walk_at "vc"
  refine dLc_boxS b c w DL.pairD DL.pairD 2 (n + 1) (fun a y => a.1 * base ≤ y.1 ∧ y.1 < a.1 * base + base ∧ a.2 * base ≤ y.2 ∧ y.2 < a.2 * base + base) (fun R h => by exact h) hb (BoxC_less hc (by omega)) (le_line (by omega)) (fun a ha c' m S' hb' hc' Y hY => ?_) fun ys c1 hl hp hc1 => ?_
  · have ha3 := w3 a ha
    walk_at "vc"
    refine ⟨cmul_64 (by omega) (by omega) (by omega) (by omega), b, m + 1, c', base, rfl, b0, by omega, hb', hc', fun t1 c2 p1 q1 hc2 => ?_⟩
    walk_at "vc"
    refine ⟨cmul_64 (by omega) (by omega) (by omega) (by omega), b, m, c2, base, rfl, b0, by omega, sup_same, hc2, fun t2 c3 p2 q2 hc3 => ?_⟩
    walk_at "vc"
    rw [sup_sup]
    exact hY (a.1 * base + t1, a.2 * base + t2) c3 ⟨by dsimp only; omega, by dsimp only; omega, by dsimp only; omega, by dsimp only; omega⟩ hc3
  · have hok : PolyOk base ys := by
      refine ⟨by omega, by omega, fun y hy => ?_⟩
      obtain ⟨a, ha, p1, p2, p3, p4⟩ := hp y hy
      obtain ⟨g1, g2, g3, g4⟩ := w3 a ha
      have q1 : -250 * base ≤ a.1 * base := Int.mul_le_mul_of_nonneg_right g1 (by omega)
      have q2 : a.1 * base ≤ 548 * base := Int.mul_le_mul_of_nonneg_right g2 (by omega)
      have q3 : -250 * base ≤ a.2 * base := Int.mul_le_mul_of_nonneg_right g3 (by omega)
      have q4 : a.2 * base ≤ 548 * base := Int.mul_le_mul_of_nonneg_right g4 (by omega)
      omega
    unfold r__law_polygon_t3
    walk_at "vc"
    refine ⟨b, n, c1, 2, rfl, by omega, by omega, sup_same, hc1, fun t c2 p q hc2 => ?_⟩
    walk_at "vc"
    rw [sup_sup]
    by_cases e : t = 0
    · rw [if_pos e]
      have : PolyOk base ys.reverse := ⟨by simpa using hok.1, by simpa using hok.2.1, fun y hy => hok.2.2 y (List.mem_reverse.mp hy)⟩
      have hr := h ys.reverse c2 this hc2
      unfold ptsD at hr
      rw [List.map_reverse] at hr
      exact ⟨rfl, hr⟩
    · rw [if_neg e]
      exact h ys c2 hok hc2
def Tail (F : DL.Fin) (b : Addr) (base : Int) (n : Nat) (S : Sto) : Prop := ∀ (w : List Pt) (c : Cell) (o2 o3 o4 o5 o6 o8 o9 o10 : Option D), Raw w → BoxC (n + 20) c → F.nx [some (.ref b), some (.int base), o2, o3, o4, o5, o6, some (ptsD w), o8, o9, o10] (sup S b c)
theorem Tail.sup {F : DL.Fin} {b : Addr} {base : Int} {n : Nat} {S : Sto} {c0 : Cell} (h : Tail F b base n S) : Tail F b base n (DL.sup S b c0) := fun w c o2 o3 o4 o5 o6 o8 o9 o10 hw hc => by
  rw [sup_sup]
  exact h w c o2 o3 o4 o5 o6 o8 o9 o10 hw hc
theorem poly_t1 {F : DL.Fin} {S : Sto} {b : Addr} {n : Nat} {c : Cell} {base x y wide : Int} {o2 o6 o7 o8 o9 o10 : Option D} (hb : S b = some c) (hc : BoxC (n + 23) c) (x0 : -250 ≤ x) (x1 : x ≤ 249) (y0 : -250 ≤ y) (y1 : y ≤ 249) (w0 : 0 ≤ wide) (w1 : wide ≤ 299) (hF : Tail F b base n S) :
    r__law_polygon_t1 F [some (.ref b), some (.int base), o2, some (.int x), some (.int y), some (.int wide), o6, o7, o8, o9, o10] S := by
  unfold r__law_polygon_t1
  walk_at "vc"
  refine ⟨b, n + 22, c, 300, rfl, by omega, by omega, hb, hc, fun v1 c8 p8 q8 hc8 => ?_⟩
  walk_at "vc"
  refine ⟨b, n + 21, c8, 4, rfl, by omega, by omega, sup_same, hc8, fun v2 c9 p9 q9 hc9 => ?_⟩
  walk_at "vc"
  refine ⟨cmul_64 (by omega) (by omega) (by omega) (by omega), b, n + 20, c9, 3, rfl, by omega, by omega, sup_same, hc9, fun v3 c10 p10 q10 hc10 => ?_⟩
  walk_at "vc"
  refine pick3 p10 q10 fun high hhigh => ?_
  rw [sup_sup, sup_sup]
  unfold r__law_polygon_t0
  walk_at "vc"
  refine hF [(x, y), (x + wide, y), (x + wide, y + high), (x, y + high)] c10 _ _ _ _ _ _ _ _ ⟨by simp, by simp, fun z hz => ?_⟩ hc10
  simp only [List.mem_cons, List.not_mem_nil, or_false] at hz
  rcases hz with rfl | rfl | rfl | rfl <;> dsimp only <;> omega
theorem poly_t2 {F : DL.Fin} {S : Sto} {b : Addr} {n : Nat} {c : Cell} {base x y : Int} {o2 o5 o6 o7 o8 o9 o10 : Option D} (hb : S b = some c) (hc : BoxC (n + 26) c) (x0 : -250 ≤ x) (x1 : x ≤ 249) (y0 : -250 ≤ y) (y1 : y ≤ 249) (hF : Tail F b base n S) :
    r__law_polygon_t2 F [some (.ref b), some (.int base), o2, some (.int x), some (.int y), o5, o6, o7, o8, o9, o10] S := by
  unfold r__law_polygon_t2
  walk_at "vc"
  refine ⟨b, n + 25, c, 300, rfl, by omega, by omega, hb, hc, fun w1 c5 p5 q5 hc5 => ?_⟩
  walk_at "vc"
  refine ⟨b, n + 24, c5, 4, rfl, by omega, by omega, sup_same, hc5, fun w2 c6 p6 q6 hc6 => ?_⟩
  walk_at "vc"
  refine ⟨cmul_64 (by omega) (by omega) (by omega) (by omega), b, n + 23, c6, 3, rfl, by omega, by omega, sup_same, hc6, fun w3 c7 p7 q7 hc7 => ?_⟩
  walk_at "vc"
  refine pick3 p7 q7 fun wide hwide => ?_
  rw [sup_sup, sup_sup]
  exact poly_t1 sup_same hc7 x0 x1 y0 y1 (by omega) (by omega) hF.sup
theorem poly_six {T5 : TDS} {F : DL.Fin} {S : Sto} {b : Addr} {n : Nat} {c : Cell} {base way : Int} (hb : S b = some c) (hc : BoxC (n + 2) c)
    (h : ∀ (x y : Int) (c : Cell), -250 ≤ x → x ≤ 249 → -250 ≤ y → y ≤ 249 → BoxC n c → T5 F [some (.ref b), some (.int base), some (.int way), some (.int x), some (.int y), none, none, none, none, none, none] (sup S b c)) :
    (sSeq (sPar 3 4 (dCons (dOp rdSub (dCall sp__law_take [] (dCons (dV 0) (dCons (dC (.int 500)) (dNil)))) (dC (.int 250))) (dCons (dOp rdSub (dCall sp__law_take [] (dCons (dV 0) (dCons (dC (.int 500)) (dNil)))) (dC (.int 250))) (dNil))))
  (T5)) F [some (.ref b), some (.int base), some (.int way), none, none, none, none, none, none, none, none] S := by
  walk_at "vc"
  refine ⟨b, n + 1, c, 500, rfl, by omega, by omega, hb, hc, fun x c2 p2 q2 hc2 => ?_⟩
  walk_at "vc"
  refine ⟨b, n, c2, 500, rfl, by omega, by omega, sup_same, hc2, fun y c3 p3 q3 hc3 => ?_⟩
  walk_at "vc"
  rw [sup_sup]
  exact h (x - 250) (y - 250) c3 (by omega) (by omega) (by omega) (by omega) hc3
theorem poly_five {T2 T4 : TDS} {F : DL.Fin} {S : Sto} {b : Addr} {n : Nat} {c : Cell} {base way x y : Int} (hb : S b = some c) (hc : BoxC (n + 57) c) (p1 : 0 ≤ way) (q1 : way < 6) (x0 : -250 ≤ x) (x1 : x ≤ 249) (y0 : -250 ≤ y) (y1 : y ≤ 249) (b0 : 0 < base) (b1 : base ≤ 12)
    (h2 : ∀ (F : DL.Fin) (x y : Int) (c : Cell) (S : Sto) (o2 o5 o6 o7 o8 o9 o10 : Option D), S b = some c → BoxC (n + 26) c → -250 ≤ x → x ≤ 249 → -250 ≤ y → y ≤ 249 → Tail F b base n S → T2 F [some (.ref b), some (.int base), o2, some (.int x), some (.int y), o5, o6, o7, o8, o9, o10] S)
    (h4 : Tail { nx := T4 F, rt := F.rt, bk := F.bk, ct := F.ct } b base n S) :
    (sSeq (sIf (dB (dOp rdLt (dV 2) (dC (.int 2)))) (sSeq (sPar 3 4 (dCons (dOp rdIx (dLst (dCons (dV 3) (dCons (dOp rdAdd (dC (.int 32)) (dOp rdMul (dC (.int 64)) (dOp rdDiv (dV 3) (dC (.int 64))))) (dNil)))) (dV 2)) (dCons (dOp rdIx (dLst (dCons (dV 4) (dCons (dOp rdAdd (dC (.int 32)) (dOp rdMul (dC (.int 64)) (dOp rdDiv (dV 4) (dC (.int 64))))) (dNil)))) (dCall sp__law_take [] (dCons (dV 0) (dCons (dC (.int 2)) (dNil))))) (dNil))))
  (T2)) (sIf (dB (dOp rdEqv (dV 2) (dC (.int 2)))) (sSeq (sAsg (dOp rdAdd (dC (.int 1)) (dCall sp__law_take [] (dCons (dV 0) (dCons (dC (.int 40)) (dNil))))) (gN 8))
  (sAsg (dLst (dCons (dTup (dCons (dV 3) (dCons (dV 4) (dNil)))) (dCons (dTup (dCons (dOp rdAdd (dV 3) (dCall sp__law_take [] (dCons (dV 0) (dCons (dC (.int 300)) (dNil))))) (dCons (dOp rdAdd (dV 4) (dC (.int 200))) (dNil)))) (dCons (dTup (dCons (dOp rdAdd (dV 3) (dV 8)) (dCons (dV 4) (dNil)))) (dNil))))) (gN 7))) (sSeq (sAsg (dOp rdAdd (dC (.int 3)) (dCall sp__law_take [] (dCons (dV 0) (dCons (dC (.int 6)) (dNil))))) (gN 9))
  (sAsg (dLc (dRng1 (dCons (dV 9) (dNil))) (gN 10) (dYes) (dTup (dCons (dOp rdSub (dCall sp__law_take [] (dCons (dV 0) (dCons (dC (.int 500)) (dNil)))) (dC (.int 250))) (dCons (dOp rdSub (dCall sp__law_take [] (dCons (dV 0) (dCons (dC (.int 500)) (dNil)))) (dC (.int 250))) (dNil)))) [10]) (gN 7)))))
  (T4)) F [some (.ref b), some (.int base), some (.int way), some (.int x), some (.int y), none, none, none, none, none, none] S := by
  have f1 := f64 x
  have f2 := f64 y
  have m1 := cmul_64 (i := 64) (j := x.fdiv 64) (by omega) (by omega) (by omega) (by omega)
  have m2 := cmul_64 (i := 64) (j := y.fdiv 64) (by omega) (by omega) (by omega) (by omega)
  walk_at "vc"
  by_cases e1 : way < 2
  · rw [if_pos e1]
    refine ⟨cdiv_30 (by omega) (by omega), m1, ?_⟩
    refine pick2 p1 e1 fun x' hx' => ?_
    refine ⟨cdiv_30 (by omega) (by omega), m2, b, n + 56, c, 2, rfl, by omega, by omega, hb, hc, fun t c4 p4 q4 hc4 => ?_⟩
    walk_at "vc"
    refine pick2 p4 q4 fun y' hy' => ?_
    exact h2 _ _ _ _ _ _ _ _ _ _ _ _ sup_same (BoxC_less hc4 (by omega)) (by omega) (by omega) (by omega) (by omega) h4.sup
  · rw [if_neg e1]
    by_cases e2 : way = 2
    · simp only [e2, decide_true, if_true]
      refine ⟨b, n + 56, c, 40, rfl, by omega, by omega, hb, hc, fun t c4 p4 q4 hc4 => ?_⟩
      walk_at "vc"
      refine ⟨b, n + 55, c4, 300, rfl, by omega, by omega, sup_same, hc4, fun u c5 p5 q5 hc5 => ?_⟩
      rw [sup_sup]
      walk_at "vc"
      refine h4 [(x, y), (x + u, y + 200), (x + (1 + t), y)] c5 _ _ _ _ _ _ _ _ ⟨by simp, by simp, fun z hz => ?_⟩ (BoxC_less hc5 (by omega))
      simp only [List.mem_cons, List.not_mem_nil, or_false] at hz
      rcases hz with rfl | rfl | rfl <;> dsimp only <;> omega
    · simp only [e2, decide_false, Bool.false_eq_true, if_false]
      refine ⟨b, n + 56, c, 6, rfl, by omega, by omega, hb, hc, fun t c4 p4 q4 hc4 => ?_⟩
      walk_at "vc"
      refine dLc_box b c4 (List.range (3 + t).toNat) (fun i : Nat => D.int (0 + (i : Int))) DL.pairD 2 (n + 20) (fun _ y => -250 ≤ y.1 ∧ y.1 ≤ 249 ∧ -250 ≤ y.2 ∧ y.2 ≤ 249) (fun _ => True) (fun R h => ?_) (fun _ => trivial) sup_same (BoxC_less hc4 (by rw [List.length_range]; omega)) (le_line (by rw [List.length_range]; omega)) (fun a ha c' m S' hb' hc' Y hY => ?_) fun ys c5 hl hp hc5 => ?_
      · walk_at "vc"
        exact ⟨by omega, by omega, h⟩
      · walk_at "vc"
        refine ⟨b, m + 1, c', 500, rfl, by omega, by omega, hb', hc', fun t1 c2 p1 q1 hc2 => ?_⟩
        walk_at "vc"
        refine ⟨b, m, c2, 500, rfl, by omega, by omega, sup_same, hc2, fun t2 c3 p2 q2 hc3 => ?_⟩
        walk_at "vc"
        rw [sup_sup]
        exact hY (t1 - 250, t2 - 250) c3 ⟨by dsimp only; omega, by dsimp only; omega, by dsimp only; omega, by dsimp only; omega⟩ hc3
      · rw [sup_sup]
        rw [List.length_range] at hl
        refine h4 ys c5 _ _ _ _ _ _ _ _ ⟨by omega, by omega, fun z hz => ?_⟩ hc5
        obtain ⟨_, _, g1, g2, g3, g4⟩ := hp z hz
        omega
theorem vc__law_polygon (ds : List D) (S : Sto) (Q : QD) (h : sp__law_polygon ds S Q) : r__law_polygon { nx := fun _ S' => Q .non S', rt := Q } (startD 11 ds) S := by
  obtain ⟨b, n, c, base, rfl, b0, b1, hb, hc, h⟩ := h
  unfold r__law_polygon
  walk_at "vc"
  refine ⟨b, n + 59, c, 6, rfl, by omega, by omega, hb, hc, fun way c1 p1 q1 hc1 => ?_⟩
  refine poly_six (n := n + 57) sup_same hc1 fun x y c2 x0 x1 y0 y1 hc2 => ?_
  refine poly_five (n := n) sup_same hc2 p1 q1 x0 x1 y0 y1 b0 b1 (fun F x y c S o2 o5 o6 o7 o8 o9 o10 hb hc x0 x1 y0 y1 hF => poly_t2 hb hc x0 x1 y0 y1 hF) fun w c o2 o3 o4 o5 o6 o8 o9 o10 hw hc => ?_
  rw [sup_sup, sup_sup]
  exact poly_tail w hw b0 b1 sup_same hc _ _ _ _ _ _ _ _ rfl fun w c' h1 h2 => by
    rw [sup_sup]
    exact h w c' h1 h2

end K76

set_option maxHeartbeats 1000000
namespace K76
open PySem PySem.Spec PyProof.Rows L2 DL KC KL
local macro_rules | `(tactic| walk_at "vc") => `(tactic| simp only [dV, dC, dOp, dB, dAnd, dOr, dNot, dAndV, dOrV, dNotV, dIf, dNil, dCons, dTup, dLst, dCell, dFrz, sNext, sSeq, sBreak, sCont, sDrop, sRet, sRetN, sIf, sNever, gN, gsNil, gsCons, gT, sAsg, sPar, sPar3, sAug, withV, withO_some,
  asB_bl, asI_int, asS_str, asT_tup, asC_cons, asN_nil, as1_one, as2_two, as3_three, refD_ref, startD, dCall, dCallK, dCB, rdI0, rdAdd_ii, rdAdd_ss, rdAdd_ll, rdSub_ii, rdMul_ii, rdDiv_ii, rdMod_ii, rdPow_ii, dNeg, dChain, rdLt_ii, rdGt_ii, rdLe_ii, rdGe_ii, rdEqv_ii, rdNev_ii, dIsN, dNotN, isNon_non, isNon_int, rdIsi,
  tyD_non, tyD_bl, tyD_int, tyD_str, tyD_lst, tyD_rol, tyD_tup, tyD_rot, clsOf_ty, clsOf_tup, tysOf_nil, tysOf_cons, rdLen_str, rdLen_lst, rdLen_rol, rdLen_tup, seqOf_lst, seqOf_rol, seqOf_tup, seqOf_rot, rdIx_tup, rdIx_lst, rdIx_rol, rdIx_str, atI,
  k_int_int, k_int_bool, k_int_str, k_int_tuple, k_bool_int, k_bool_bool, k_str_str, k_str_int, k_str_tuple, k_tup_int, k_tup_str, k_tup_tup, k_lst_tup, k_lst_seq, k_tup_seq, rdAbs, sWhile, rdMax2_ii, rdMin2_ii, decide_true, decide_false, decide_eq_true_eq, rdInt_int, rdInt_bl, rdInt_str, rdMulS_si, rdList, rdListC, rdTuple, tupOf_lst, tupOf_tup, tupOf_ref, dRng1, dRng2, dRng2B, dRngD, dSeq, dRevR2, dZip, dSlA, rdSlA,
  isRot_tup, isRot_lst, isRot_ref, isTup_tup, isTup_lst, isTup_rol, isTup_ref, oSo, oNo, gSet, dYes, rdGe_pp,
  List.map_cons, List.map_nil, List.cons_append, List.nil_append, List.append_nil, List.length_cons, List.length_nil, List.replicate_succ, List.replicate_zero, Nat.reduceSub, Nat.reduceAdd, List.getElem?_cons_zero, List.getElem?_cons_succ, List.set_cons_zero, List.set_cons_succ, Option.map_some, Option.map_none,
  plain_int, plain_tup, common_ii, seqOf_mk, rdNev_bb, rdEqv_bb, if_true, if_false, Bool.not_true, Bool.not_false, reduceIte, Bool.false_eq_true, dwipe, spanD, true_and, and_true, ix30, ix31, ix32, ix20, ix21, ix40, ix41, ix42, ix43, Option.bind_some, Option.bind_none, sl0, sl1, sl2, sl3, sl4, sl5, sl6, sl7, sl8, sl9, Nat.zero_add])
open K78 (BoxC runs step Good cellsOf)
theorem cut4 (xs : List D) : DL.cutD xs (some (-4)) none = xs.drop (xs.length - 4) := by
  unfold DL.cutD
  have e : HT.sIx xs.length 0 (some (-4)) = xs.length - 4 := by
    show (if (-4 : Int) < 0 then ((-4 : Int) + (xs.length : Int)).toNat else min (-4 : Int).toNat xs.length) = _
    rw [if_pos (by omega)]
    omega
  rw [HT.sIx_none, e]
  exact List.take_of_length_le (by rw [List.length_drop]; exact Nat.le_refl _)
theorem cutTo (xs : List D) (k : Nat) : DL.cutD xs none (some (k : Int)) = xs.take k := by
  unfold DL.cutD
  rw [HT.sIx_none, HT.sIx_nat]
  simp only [List.drop_zero, Nat.sub_zero]
  by_cases c : k ≤ xs.length
  · rw [Nat.min_eq_left c]
  · rw [Nat.min_eq_right (by omega), List.take_of_length_le (Nat.le_refl _), List.take_of_length_le (by omega)]
theorem first0 {rows : List (List Pt)} (h : 1 ≤ rows.length) : ∃ r0 ∈ rows, ((ixN (rows.map ptsD).length 0).bind fun j => (rows.map ptsD)[j]?) = some (ptsD r0) := by
  cases rows with
  | nil => simp at h
  | cons r rows =>
    refine ⟨r, List.mem_cons_self, ?_⟩
    have : ixN ((r :: rows).map ptsD).length 0 = some 0 := by
      unfold ixN
      rw [if_pos (by omega), if_pos (by simp)]
      rfl
    rw [this]
    rfl
theorem scene_add {base : Int} {rows : List (List Pt)} {w : List Pt} (h : SceneOk 1 base rows) (w1 : 1 ≤ w.length) (w2 : w.length ≤ 100) (w3 : ∀ x ∈ w, -250 * base ≤ x.1 ∧ x.1 < 549 * base ∧ -250 * base * 1 ≤ x.2 ∧ x.2 < 549 * base * 1) :
    SceneOk 1 base ((rows ++ [w]).drop ((rows ++ [w]).length - 4)) := by
  obtain ⟨h1, h2, h3⟩ := h
  refine ⟨by rw [List.length_drop, List.length_append]; simp; omega, by rw [List.length_drop, List.length_append]; simp; omega, fun u hu => ?_⟩
  rcases List.mem_append.mp (List.mem_of_mem_drop hu) with hu | hu
  · exact h3 u hu
  · simp only [List.mem_cons, List.not_mem_nil, or_false] at hu
    subst hu
    exact ⟨w1, w2, w3⟩
theorem add_drop {rows : List (List Pt)} {w : List Pt} : (rows.map ptsD ++ [ptsD w]).drop ((rows.map ptsD ++ [ptsD w]).length - 4) = ((rows ++ [w]).drop ((rows ++ [w]).length - 4)).map ptsD := by
  have e : rows.map ptsD ++ [ptsD w] = (rows ++ [w]).map ptsD := by simp
  rw [e, List.length_map, List.map_drop]
section
variable {T : TDS} {F : DL.Fin} {S : Sto} {b : Addr} {n : Nat} {c : Cell} {base : Int} {rows : List (List Pt)} {o3 o4 o5 o6 : Option D}
abbrev Pass (T : TDS) (F : DL.Fin) (S : Sto) (b : Addr) (n : Nat) (t base : Int) (o3 o4 o5 o6 : Option D) : Prop := ∀ (rows : List (List Pt)) (c : Cell), SceneOk t base rows → BoxC n c → T F [some (.ref b), some (.int base), some (rowsD rows), o3, o4, o5, o6] (sup S b c)
theorem scene_5 (hb : S b = some c) (hc : BoxC (n + 1) c) (hs : SceneOk 1 base rows) (hT : Pass T F S b n 1 base o3 o4 o5 o6) :
    (sSeq (sIf (dB (dOp rdEqv (dCall sp__law_take [] (dCons (dV 0) (dCons (dC (.int 8)) (dNil)))) (dC (.int 0)))) (sAsg (dSlA (dOp rdAdd (dV 2) (dLst (dCons (dCB rdList (dCons (dOp rdIx (dV 2) (dC (.int 0))) (dNil))) (dNil)))) (oSo (dNeg (dC (.int 4)))) (oNo)) (gN 2)) (sNext))
  (T)) F [some (.ref b), some (.int base), some (rowsD rows), o3, o4, o5, o6] S := by
  obtain ⟨r0, hr0, e0⟩ := first0 hs.1
  obtain ⟨g1, g2, g3⟩ := hs.2.2 r0 hr0
  simp only [rowsD]
  walk_at "vc"
  refine ⟨b, n + 0, c, 8, rfl, by omega, by omega, hb, hc, fun x c1 p1 q1 hc1 => ?_⟩
  walk_at "vc"
  by_cases ex : x = 0
  · rw [if_pos ex]
    rw [e0]
    simp only [ptsD]
    walk_at "vc"
    have hd := add_drop (rows := rows) (w := r0)
    simp only [ptsD] at hd
    refine ⟨?_, ?_⟩
    · simp only [List.length_map, sizeLine_eq]; have := hs.2.1; omega
    · rw [cut4, hd]
      exact hT _ c1 (scene_add hs g1 g2 g3) hc1
  · rw [if_neg ex]
    exact hT rows c1 hs hc1
theorem scene_4 (hb : S b = some c) (hc : BoxC (n + 1) c) (hs : SceneOk 1 base rows) (hT : Pass T F S b n 1 base o3 o4 o5 o6) :
    (sSeq (sIf (dB (dOp rdEqv (dCall sp__law_take [] (dCons (dV 0) (dCons (dC (.int 8)) (dNil)))) (dC (.int 0)))) (sAsg (dSlA (dOp rdAdd (dV 2) (dLst (dCons (dRevL (dOp rdIx (dV 2) (dC (.int 0)))) (dNil)))) (oSo (dNeg (dC (.int 4)))) (oNo)) (gN 2)) (sNext))
  (T)) F [some (.ref b), some (.int base), some (rowsD rows), o3, o4, o5, o6] S := by
  obtain ⟨r0, hr0, e0⟩ := first0 hs.1
  obtain ⟨g1, g2, g3⟩ := hs.2.2 r0 hr0
  simp only [rowsD]
  walk_at "vc"
  refine ⟨b, n + 0, c, 8, rfl, by omega, by omega, hb, hc, fun x c1 p1 q1 hc1 => ?_⟩
  walk_at "vc"
  by_cases ex : x = 0
  · rw [if_pos ex]
    simp only [dRevL]
    walk_at "vc"
    rw [e0]
    simp only [ptsD]
    walk_at "vc"
    have hd := add_drop (rows := rows) (w := r0.reverse)
    simp only [ptsD, List.map_reverse] at hd
    refine ⟨?_, ?_⟩
    · simp only [List.length_map, sizeLine_eq]; have := hs.2.1; omega
    · rw [cut4, hd]
      exact hT _ c1 (scene_add hs (by simpa using g1) (by simpa using g2) fun y hy => g3 y (List.mem_reverse.mp hy)) hc1
  · rw [if_neg ex]
    exact hT rows c1 hs hc1
theorem scene_3 (hb : S b = some c) (hc : BoxC (n + 2) c) (hs : SceneOk 1 base rows) (hT : Pass T F S b n 1 base o3 o4 o5 o6) :
    (sSeq (sIf (dB (dOp rdEqv (dCall sp__law_take [] (dCons (dV 0) (dCons (dC (.int 8)) (dNil)))) (dC (.int 0)))) (sAsg (dSlA (dOp rdAdd (dV 2) (dLst (dCons (dSlA (dOp rdIx (dV 2) (dC (.int 0))) (oNo) (oSo (dOp rdAdd (dC (.int 1)) (dCall sp__law_take [] (dCons (dV 0) (dCons (dC (.int 2)) (dNil))))))) (dNil)))) (oSo (dNeg (dC (.int 4)))) (oNo)) (gN 2)) (sNext))
  (T)) F [some (.ref b), some (.int base), some (rowsD rows), o3, o4, o5, o6] S := by
  obtain ⟨r0, hr0, e0⟩ := first0 hs.1
  obtain ⟨g1, g2, g3⟩ := hs.2.2 r0 hr0
  simp only [rowsD]
  walk_at "vc"
  refine ⟨b, n + 1, c, 8, rfl, by omega, by omega, hb, hc, fun x c1 p1 q1 hc1 => ?_⟩
  walk_at "vc"
  by_cases ex : x = 0
  · rw [if_pos ex]
    rw [e0]
    simp only [ptsD]
    walk_at "vc"
    refine ⟨b, n, c1, 2, rfl, by omega, by omega, sup_same, hc1, fun y c2 p2 q2 hc2 => ?_⟩
    rw [sup_sup]
    walk_at "vc"
    obtain ⟨k, hk⟩ := Int.eq_ofNat_of_zero_le (show 0 ≤ 1 + y by omega)
    have hk1 : 1 ≤ k := by omega
    rw [hk]
    have hct : DL.cutD (r0.map DL.pairD) none (some ((k : Nat) : Int)) = (r0.take k).map DL.pairD := by rw [cutTo, List.map_take]
    rw [hct]
    simp only [likeOf]
    have hd := add_drop (rows := rows) (w := r0.take k)
    simp only [ptsD] at hd
    refine ⟨?_, ?_⟩
    · simp only [List.length_map, sizeLine_eq]; have := hs.2.1; omega
    · rw [cut4, hd]
      exact hT _ c2 (scene_add hs (by rw [List.length_take]; omega) (by rw [List.length_take]; omega) fun y hy => g3 y (List.mem_of_mem_take hy)) hc2
  · rw [if_neg ex]
    exact hT rows c1 hs (BoxC_less hc1 (by omega))
theorem long_ok {w : List Pt} (h1 : 1 ≤ w.length) (h2 : w.length ≤ 100) : 1 ≤ (longM w).length ∧ (longM w).length ≤ 100 ∧ ∀ x ∈ longM w, x ∈ w := by
  have hl : (longM w).length = w.length * (100 / w.length) := by
    unfold longM
    rw [List.length_flatMap]
    have : (w.map fun x => (List.replicate (100 / w.length) x).length) = List.replicate w.length (100 / w.length) := by
      rw [List.eq_replicate_iff]
      refine ⟨by simp, fun z hz => ?_⟩
      obtain ⟨y, _, rfl⟩ := List.mem_map.mp hz
      simp
    rw [this, List.sum_replicate_nat]
  have hq : 1 ≤ 100 / w.length := (Nat.one_le_div_iff (by omega)).mpr h2
  refine ⟨?_, ?_, fun x hx => ?_⟩
  · rw [hl]
    exact Nat.mul_le_mul h1 hq
  · rw [hl]
    exact Nat.mul_div_le 100 w.length
  · obtain ⟨y, hy, hx⟩ := List.mem_flatMap.mp hx
    rw [List.eq_of_mem_replicate hx]
    exact hy
theorem scene_2 (hb : S b = some c) (hc : BoxC (n + 1) c) (hs : SceneOk 1 base rows) (hT : Pass T F S b n 1 base o3 o4 o5 o6) :
    (sSeq (sIf (dB (dOp rdEqv (dCall sp__law_take [] (dCons (dV 0) (dCons (dC (.int 6)) (dNil)))) (dC (.int 0)))) (sAsg (dOp rdAdd (dLst (dCons (dCall sp__law_longer [] (dCons (dOp rdIx (dV 2) (dC (.int 0))) (dNil))) (dNil))) (dSlA (dV 2) (oSo (dC (.int 1))) (oNo))) (gN 2)) (sNext))
  (T)) F [some (.ref b), some (.int base), some (rowsD rows), o3, o4, o5, o6] S := by
  obtain ⟨r0, hr0, e0⟩ := first0 hs.1
  obtain ⟨g1, g2, g3⟩ := hs.2.2 r0 hr0
  simp only [rowsD]
  walk_at "vc"
  refine ⟨b, n + 0, c, 6, rfl, by omega, by omega, hb, hc, fun x c1 p1 q1 hc1 => ?_⟩
  walk_at "vc"
  by_cases ex : x = 0
  · rw [if_pos ex]
    rw [e0]
    walk_at "vc"
    refine ⟨r0, rfl, g1, g2, ?_⟩
    obtain ⟨l1, l2, l3⟩ := long_ok g1 g2
    simp only [likeOf]
    rw [cut1, ← List.map_drop]
    walk_at "vc"
    refine ⟨?_, ?_⟩
    · simp only [List.length_map, List.length_drop, sizeLine_eq]; have := hs.2.1; omega
    · refine hT (longM r0 :: rows.drop 1) c1 ⟨by simp, by simp only [List.length_cons, List.length_drop]; have := hs.2.1; omega, fun u hu => ?_⟩ hc1
      rcases List.mem_cons.mp hu with rfl | hu
      · exact ⟨l1, l2, fun y hy => g3 y (l3 y hy)⟩
      · exact hs.2.2 u (List.mem_of_mem_drop hu)
  · rw [if_neg ex]
    exact hT rows c1 hs hc1
theorem scene_1 (hb : S b = some c) (hc : BoxC (n + 1) c) (hs : SceneOk 1 base rows) (b0 : 0 < base) (b1 : base ≤ 12) (hT : Pass T F S b n 26 base o3 o4 o5 o6) :
    (sSeq (sIf (dB (dOp rdEqv (dCall sp__law_take [] (dCons (dV 0) (dCons (dC (.int 6)) (dNil)))) (dC (.int 0)))) (sAsg (dLc (dSeq (dV 2)) (gN 4) (dYes) (dLc (dSeq (dV 4)) (gT 2 (gsCons (gN 5) (gsCons (gN 6) (gsNil)))) (dYes) (dTup (dCons (dV 5) (dCons (dOp rdMul (dC (.int 26)) (dV 6)) (dNil)))) [5, 6]) [4]) (gN 2)) (sNext))
  (T)) F [some (.ref b), some (.int base), some (rowsD rows), o3, o4, o5, o6] S := by
  obtain ⟨r0, hr0, e0⟩ := first0 hs.1
  obtain ⟨g1, g2, g3⟩ := hs.2.2 r0 hr0
  simp only [rowsD]
  walk_at "vc"
  refine ⟨b, n + 0, c, 6, rfl, by omega, by omega, hb, hc, fun x c1 p1 q1 hc1 => ?_⟩
  walk_at "vc"
  by_cases ex : x = 0
  · rw [if_pos ex]
    refine dLc_of (.lst (rows.map ptsD)) rows ptsD (fun w => some (ptsD (w.map fun x => (x.1, 26 * x.2)))) (fun R h => by exact h) rfl (le_line (by have := hs.2.1; omega)) (fun w hw p zs Y N hp hy => ?_) ?_
    · obtain ⟨u1, u2, u3⟩ := hs.2.2 w hw
      walk_at "vc"
      refine dLc_of (ptsD w) w DL.pairD (fun x => some (DL.pairD (x.1, 26 * x.2))) (fun R h => by exact h) rfl (le_line (by omega)) (fun x hx p zs Y N hp hy => ?_) ?_
      · have := u3 x hx
        walk_at "vc"
        exact ⟨cmul_64 (by omega) (by omega) (by omega) (by omega), hy⟩
      · rw [filterMap_all]
        have e : w.map (fun x => DL.pairD (x.1, 26 * x.2)) = (w.map fun x => (x.1, 26 * x.2)).map DL.pairD := by rw [List.map_map]; rfl
        rw [e]
        exact hy
    · rw [filterMap_all]
      have e : rows.map (fun w => ptsD (w.map fun x => (x.1, 26 * x.2))) = (rows.map fun w => w.map fun x => (x.1, 26 * x.2)).map ptsD := by rw [List.map_map]; rfl
      rw [e]
      refine hT _ c1 ⟨by simpa using hs.1, by simpa using hs.2.1, fun u hu => ?_⟩ hc1
      obtain ⟨w, hw, rfl⟩ := List.mem_map.mp hu
      obtain ⟨u1, u2, u3⟩ := hs.2.2 w hw
      refine ⟨by simpa using u1, by simpa using u2, fun y hy => ?_⟩
      obtain ⟨x, hx, rfl⟩ := List.mem_map.mp hy
      have := u3 x hx
      dsimp only
      omega
  · rw [if_neg ex]
    refine hT rows c1 ⟨hs.1, hs.2.1, fun w hw => ?_⟩ hc1
    obtain ⟨u1, u2, u3⟩ := hs.2.2 w hw
    refine ⟨u1, u2, fun x hx => ?_⟩
    have := u3 x hx
    omega
end

end K76

set_option maxHeartbeats 1000000
namespace K76
open PySem PySem.Spec PyProof.Rows L2 DL KC KL
local macro_rules | `(tactic| walk_at "vc") => `(tactic| simp only [dV, dC, dOp, dB, dAnd, dOr, dNot, dAndV, dOrV, dNotV, dIf, dNil, dCons, dTup, dLst, dCell, dFrz, sNext, sSeq, sBreak, sCont, sDrop, sRet, sRetN, sIf, sNever, gN, gsNil, gsCons, gT, sAsg, sPar, sPar3, sAug, withV, withO_some,
  asB_bl, asI_int, asS_str, asT_tup, asC_cons, asN_nil, as1_one, as2_two, as3_three, refD_ref, startD, dCall, dCallK, dCB, rdI0, rdAdd_ii, rdAdd_ss, rdAdd_ll, rdSub_ii, rdMul_ii, rdDiv_ii, rdMod_ii, rdPow_ii, dNeg, dChain, rdLt_ii, rdGt_ii, rdLe_ii, rdGe_ii, rdEqv_ii, rdNev_ii, dIsN, dNotN, isNon_non, isNon_int, rdIsi,
  tyD_non, tyD_bl, tyD_int, tyD_str, tyD_lst, tyD_rol, tyD_tup, tyD_rot, clsOf_ty, clsOf_tup, tysOf_nil, tysOf_cons, rdLen_str, rdLen_lst, rdLen_rol, rdLen_tup, seqOf_lst, seqOf_rol, seqOf_tup, seqOf_rot, rdIx_tup, rdIx_lst, rdIx_rol, rdIx_str, atI,
  k_int_int, k_int_bool, k_int_str, k_int_tuple, k_bool_int, k_bool_bool, k_str_str, k_str_int, k_str_tuple, k_tup_int, k_tup_str, k_tup_tup, k_lst_tup, k_lst_seq, k_tup_seq, rdAbs, sWhile, rdMax2_ii, rdMin2_ii, decide_true, decide_false, decide_eq_true_eq, rdInt_int, rdInt_bl, rdInt_str, rdMulS_si, rdList, rdListC, rdTuple, tupOf_lst, tupOf_tup, tupOf_ref, dRng1, dRng2, dRng2B, dRngD, dSeq, dRevR2, dZip, dSlA, rdSlA,
  isRot_tup, isRot_lst, isRot_ref, isTup_tup, isTup_lst, isTup_rol, isTup_ref, oSo, oNo, gSet, dYes, rdGe_pp,
  List.map_cons, List.map_nil, List.cons_append, List.nil_append, List.append_nil, List.length_cons, List.length_nil, List.replicate_succ, List.replicate_zero, Nat.reduceSub, Nat.reduceAdd, List.getElem?_cons_zero, List.getElem?_cons_succ, List.set_cons_zero, List.set_cons_succ, Option.map_some, Option.map_none,
  plain_int, plain_tup, common_ii, seqOf_mk, rdNev_bb, rdEqv_bb, if_true, if_false, Bool.not_true, Bool.not_false, reduceIte, Bool.false_eq_true, dwipe, spanD, true_and, and_true, ix30, ix31, ix32, ix20, ix21, ix40, ix41, ix42, ix43, Option.bind_some, Option.bind_none, sl0, sl1, sl2, sl3, sl4, sl5, sl6, sl7, sl8, sl9, Nat.zero_add])
open K78 (BoxC runs step Good cellsOf)
theorem scene_0 {T : TDS} {F : DL.Fin} {S : Sto} {b : Addr} {n : Nat} {c : Cell} {base : Int} (hb : S b = some c) (hc : BoxC (n + 300) c) (b0 : 0 < base) (b1 : base ≤ 12) (hT : Pass T F S b n 1 base none none none none) :
    (sSeq (sAsg (dLc (dRng1 (dCons (dOp rdIx (dLst (dCons (dC (.int 1)) (dCons (dOp rdAdd (dC (.int 1)) (dCall sp__law_take [] (dCons (dV 0) (dCons (dC (.int 4)) (dNil))))) (dNil)))) (dCall sp__law_take [] (dCons (dV 0) (dCons (dC (.int 2)) (dNil))))) (dNil))) (gN 3) (dYes) (dCall sp__law_polygon [] (dCons (dV 0) (dCons (dV 1) (dNil)))) [3]) (gN 2))
  (T)) F [some (.ref b), some (.int base), none, none, none, none, none] S := by
  simp only [sSeq, sAsg]
  refine dLc_body ?_
  have fin : ∀ (j : Int) (c : Cell) , 1 ≤ j → j ≤ 4 → BoxC (n + 240) c → lcBody (gN 3) dYes (dCall sp__law_polygon [] (dCons (dV 0) (dCons (dV 1) dNil))) [3] [some (.ref b), some (.int base), none, none, none, none, none] (fun d S1 => gN 2 d [some (.ref b), some (.int base), none, none, none, none, none] S1 (T F)) ⟨upI 0 j.toNat, fun _ => True⟩ (sup S b c) := by
    intro j c j1 j2 hc
    refine lc_box b c (List.range j.toNat) (fun i : Nat => D.int (0 + (i : Int))) ptsD 60 n (fun _ w => PolyOk base w) (fun _ => True) (fun _ => trivial) sup_same (BoxC_less hc (by rw [List.length_range]; omega)) (le_line (by rw [List.length_range]; omega)) (fun a ha c' m S' hb' hc' Y hY => ?_) fun ys c1 hl hp hc1 => ?_
    · walk_at "vc"
      exact ⟨b, m, c', base, rfl, b0, b1, hb', hc', fun w c2 h1 h2 => hY w c2 h1 h2⟩
    · rw [sup_sup]
      rw [List.length_range] at hl
      refine hT ys c1 ⟨by omega, by omega, fun w hw => ?_⟩ hc1
      obtain ⟨_, _, p1, p2, p3⟩ := hp w hw
      refine ⟨p1, by omega, fun x hx => ?_⟩
      have := p3 x hx
      omega
  generalize lcBody (gN 3) dYes (dCall sp__law_polygon [] (dCons (dV 0) (dCons (dV 1) dNil))) [3] [some (.ref b), some (.int base), none, none, none, none, none] (fun d S1 => gN 2 d [some (.ref b), some (.int base), none, none, none, none, none] S1 (T F)) = L at *
  walk_at "vc"
  refine ⟨b, n + 299, c, 4, rfl, by omega, by omega, hb, hc, fun x c1 p1 q1 hc1 => ?_⟩
  walk_at "vc"
  refine ⟨b, n + 298, c1, 2, rfl, by omega, by omega, sup_same, hc1, fun y c2 p2 q2 hc2 => ?_⟩
  walk_at "vc"
  refine pick2 p2 q2 fun z hz => ?_
  rw [sup_sup]
  walk_at "vc"
  exact ⟨by omega, by omega, fin z c2 (by omega) (by omega) (BoxC_less hc2 (by omega))⟩
theorem Pass.sup {T : TDS} {F : DL.Fin} {S : Sto} {b : Addr} {n : Nat} {t base : Int} {o3 o4 o5 o6 : Option D} {c0 : Cell} (h : Pass T F S b n t base o3 o4 o5 o6) : Pass T F (DL.sup S b c0) b n t base o3 o4 o5 o6 := fun rows c hs hc => by
  rw [sup_sup]
  exact h rows c hs hc
theorem vc__law_scene (ds : List D) (S : Sto) (Q : QD) (h : sp__law_scene ds S Q) : r__law_scene { nx := fun _ S' => Q .non S', rt := Q } (startD 7 ds) S := by
  obtain ⟨b, n, c, base, rfl, b0, b1, hb, hc, h⟩ := h
  refine scene_0 (n := n + 100) hb hc b0 b1 fun rows c hs hc => ?_
  refine scene_5 (n := n + 99) sup_same hc hs fun rows c hs hc => ?_
  refine scene_4 (n := n + 98) sup_same hc hs fun rows c hs hc => ?_
  refine scene_3 (n := n + 96) sup_same hc hs fun rows c hs hc => ?_
  refine scene_2 (n := n + 95) sup_same hc hs fun rows c hs hc => ?_
  refine scene_1 (n := n + 94) sup_same hc hs b0 b1 fun rows c hs hc => ?_
  simp only [sup_sup]
  show Q (rowsD rows) (sup S b c)
  exact h rows c hs (BoxC_less hc (by omega))

end K76

set_option maxHeartbeats 200000
/-! P1: the plain law of cells: stretches and columns. -/
namespace KC
open PySem PySem.Spec PyProof.Rows L2 DL
/-! ### the first column -/
theorem firstMid_le {t W c : Int} (hW : 0 < W) : firstMid t W ≤ c ↔ t ≤ (64 * c + 32) * W := by
  unfold firstMid
  rw [Int.fdiv_eq_ediv_of_nonneg _ (by omega)]
  have h := Int.le_ediv_iff_mul_le (a := -c) (b := 32 * W - t) (c := 64 * W) (by omega)
  have e : -c * (64 * W) = -(64 * c * W) := by rw [Int.neg_mul, Int.mul_comm 64 W, ← Int.mul_assoc, Int.mul_comm (c * W) 64, Int.mul_assoc]
  have e2 : (64 * c + 32) * W = 64 * c * W + 32 * W := by rw [Int.add_mul]
  rw [e] at h
  rw [e2]
  constructor
  · intro h1
    have := h.mp (by omega)
    omega
  · intro h1
    have := h.mpr (by omega)
    omega
theorem firstMid_mono {s t W : Int} (hW : 0 < W) (h : s ≤ t) : firstMid s W ≤ firstMid t W := by
  rw [firstMid_le hW]
  exact Int.le_trans h ((firstMid_le hW).mp (Int.le_refl _))
/-! ### sums over sorted positions -/
def upTo (qs : List Qd) (M : Int) : Int := ((qs.filter fun q => decide (q.1 ≤ M)).map fun q => q.2.2.1).sum
def ctTo (qs : List Qd) (M : Int) : Int := ((qs.filter fun q => decide (q.1 ≤ M)).map fun q => q.2.2.2).sum
theorem upTo_snoc (qs : List Qd) (q : Qd) (M : Int) : upTo (qs ++ [q]) M = upTo qs M + if q.1 ≤ M then q.2.2.1 else 0 := by
  unfold upTo
  rw [List.filter_append, List.map_append, List.sum_append]
  by_cases c : q.1 ≤ M <;> simp [c]
theorem ctTo_snoc (qs : List Qd) (q : Qd) (M : Int) : ctTo (qs ++ [q]) M = ctTo qs M + if q.1 ≤ M then q.2.2.2 else 0 := by
  unfold ctTo
  rw [List.filter_append, List.map_append, List.sum_append]
  by_cases c : q.1 ≤ M <;> simp [c]
/-! ### stretches hold just the places within -/
def Cov (s : StSt) (M : Int) : Prop := (∃ x ∈ s.found, x.1 ≤ M ∧ M < x.2.1) ∨ ∃ b, s.begin = some b ∧ b ≤ M
structure StInv (odd : Bool) (qs : List Qd) (s : StSt) : Prop where
  ups : s.ups = (qs.map fun q => q.2.2.1).sum
  cnt : s.count = (qs.map fun q => q.2.2.2).sum
  cov : ∀ M, Cov s M ↔ withinM odd (upTo qs M) (ctTo qs M) = true
  fnd : ∀ x ∈ s.found, x.1 < x.2.1 ∧ ∀ h, (∀ q ∈ qs, q.1 < h) → x.2.1 < h
  pw : s.found.Pairwise fun x y => x.2.1 < y.1
  beg : ∀ b, s.begin = some b → (∀ h, (∀ q ∈ qs, q.1 < h) → b < h) ∧ ∀ x ∈ s.found, x.2.1 < b
  now : s.begin.isSome = withinM odd s.ups s.count
theorem upTo_all {qs : List Qd} {M : Int} (h : ∀ q ∈ qs, q.1 ≤ M) : upTo qs M = (qs.map fun q => q.2.2.1).sum ∧ ctTo qs M = (qs.map fun q => q.2.2.2).sum := by
  have e : (qs.filter fun q => decide (q.1 ≤ M)) = qs := List.filter_eq_self.mpr fun q hq => by simpa using h q hq
  unfold upTo ctTo
  rw [e]
  exact ⟨rfl, rfl⟩
theorem within_zero (odd : Bool) : withinM odd 0 0 = false := by cases odd <;> rfl
theorem st_inv {odd : Bool} {qs : List Qd} {s : StSt} {q : Qd} (I : StInv odd qs s) (hq : ∀ p ∈ qs, p.1 < q.1) : StInv odd (qs ++ [q]) (stStep odd s q) := by
  obtain ⟨i1, i2, i3, i4, i5, i6, i7⟩ := I
  have hup : s.ups + q.2.2.1 = ((qs ++ [q]).map fun q => q.2.2.1).sum := by rw [i1]; simp
  have hct : s.count + q.2.2.2 = ((qs ++ [q]).map fun q => q.2.2.2).sum := by rw [i2]; simp
  -- ahead of q nothing changes; from q on all is counted
  have far : ∀ M, q.1 ≤ M → upTo (qs ++ [q]) M = s.ups + q.2.2.1 ∧ ctTo (qs ++ [q]) M = s.count + q.2.2.2 := fun M hM => by
    have := upTo_all (qs := qs ++ [q]) (M := M) fun p hp => by
      rcases List.mem_append.mp hp with hp | hp
      · have := hq p hp; omega
      · simp only [List.mem_cons, List.not_mem_nil, or_false] at hp; subst hp; exact hM
    rw [hup, hct]
    exact this
  have near : ∀ M, M < q.1 → upTo (qs ++ [q]) M = upTo qs M ∧ ctTo (qs ++ [q]) M = ctTo qs M := fun M hM => by
    rw [upTo_snoc, ctTo_snoc, if_neg (by omega), if_neg (by omega)]
    exact ⟨by omega, by omega⟩
  have up1 : ∀ h, (∀ p ∈ qs ++ [q], p.1 < h) → q.1 < h := fun h hh => hh q (by simp)
  have up2 : ∀ h, (∀ p ∈ qs ++ [q], p.1 < h) → ∀ p ∈ qs, p.1 < h := fun h hh p hp => hh p (by simp [hp])
  have covM : ∀ M, M < q.1 → (Cov s M ↔ withinM odd (upTo (qs ++ [q]) M) (ctTo (qs ++ [q]) M) = true) := fun M hM => by
    obtain ⟨e1, e2⟩ := near M hM
    rw [e1, e2]
    exact i3 M
  have nofar : ∀ M, q.1 ≤ M → ¬ ∃ x ∈ s.found, x.1 ≤ M ∧ M < x.2.1 := fun M hM ⟨x, hx, _, h2⟩ => by
    have := (i4 x hx).2 q.1 hq
    omega
  generalize hU : s.ups + q.2.2.1 = U at *
  generalize hC : s.count + q.2.2.2 = C at *
  cases hb : s.begin with
  | none =>
    cases hw : withinM odd U C with
    | true =>
      have e : stStep odd s q = ⟨s.found, some q.1, U, C⟩ := by unfold stStep; simp only [hU, hC, hb, hw]
      rw [e]
      refine ⟨hup, hct, fun M => ?_, fun x hx => ⟨(i4 x hx).1, fun h hh => (i4 x hx).2 h (up2 h hh)⟩, i5, fun b hb' => ?_, by simp [hw]⟩
      · by_cases c : M < q.1
        · rw [← covM M c]
          unfold Cov
          simp only [hb]
          constructor
          · rintro (h | ⟨b, h, h2⟩)
            · exact .inl h
            · cases h; omega
          · rintro (h | ⟨b, h, _⟩)
            · exact .inl h
            · cases h
        · obtain ⟨e1, e2⟩ := far M (by omega)
          rw [e1, e2, hw]
          exact ⟨fun _ => rfl, fun _ => .inr ⟨q.1, rfl, by omega⟩⟩
      · cases hb'
        exact ⟨up1, fun x hx => (i4 x hx).2 q.1 hq⟩
    | false =>
      have e : stStep odd s q = ⟨s.found, none, U, C⟩ := by unfold stStep; simp only [hU, hC, hb, hw]
      rw [e]
      refine ⟨hup, hct, fun M => ?_, fun x hx => ⟨(i4 x hx).1, fun h hh => (i4 x hx).2 h (up2 h hh)⟩, i5, (fun b hb' => by cases hb'), by simp [hw]⟩
      by_cases c : M < q.1
      · rw [← covM M c]
        unfold Cov
        simp only [hb]
      · obtain ⟨e1, e2⟩ := far M (by omega)
        rw [e1, e2, hw]
        constructor
        · rintro (h | ⟨b, h, _⟩)
          · exact (nofar M (by omega) h).elim
          · cases h
        · intro h; cases h
  | some b =>
    obtain ⟨b1, b2⟩ := i6 b hb
    have hbq := b1 q.1 hq
    cases hw : withinM odd U C with
    | true =>
      have e : stStep odd s q = ⟨s.found, some b, U, C⟩ := by unfold stStep; simp only [hU, hC, hb, hw]
      rw [e]
      refine ⟨hup, hct, fun M => ?_, fun x hx => ⟨(i4 x hx).1, fun h hh => (i4 x hx).2 h (up2 h hh)⟩, i5, fun b' hb' => ?_, by simp [hw]⟩
      · by_cases c : M < q.1
        · rw [← covM M c]
          unfold Cov
          simp only [hb]
        · obtain ⟨e1, e2⟩ := far M (by omega)
          rw [e1, e2, hw]
          exact ⟨fun _ => rfl, fun _ => .inr ⟨b, rfl, by omega⟩⟩
      · cases hb'
        exact ⟨fun h hh => b1 h (up2 h hh), b2⟩
    | false =>
      have e : stStep odd s q = ⟨s.found ++ [(b, q.1, q.2.1)], none, U, C⟩ := by unfold stStep; simp only [hU, hC, hb, hw]
      rw [e]
      refine ⟨hup, hct, fun M => ?_, fun x hx => ?_, ?_, (fun b hb' => by cases hb'), by simp [hw]⟩
      · by_cases c : M < q.1
        · rw [← covM M c]
          unfold Cov
          simp only [hb]
          constructor
          · rintro (⟨x, hx, h1, h2⟩ | ⟨b', h, _⟩)
            · rcases List.mem_append.mp hx with hx | hx
              · exact .inl ⟨x, hx, h1, h2⟩
              · simp only [List.mem_cons, List.not_mem_nil, or_false] at hx
                subst hx
                exact .inr ⟨b, rfl, h1⟩
            · cases h
          · rintro (⟨x, hx, h1, h2⟩ | ⟨b', h, h1⟩)
            · exact .inl ⟨x, List.mem_append.mpr (.inl hx), h1, h2⟩
            · cases h
              exact .inl ⟨_, List.mem_append.mpr (.inr List.mem_cons_self), h1, c⟩
        · obtain ⟨e1, e2⟩ := far M (by omega)
          rw [e1, e2, hw]
          constructor
          · rintro (⟨x, hx, h1, h2⟩ | ⟨b', h, _⟩)
            · rcases List.mem_append.mp hx with hx | hx
              · exact (nofar M (by omega) ⟨x, hx, h1, h2⟩).elim
              · simp only [List.mem_cons, List.not_mem_nil, or_false] at hx
                subst hx
                exact absurd h2 (by show ¬ M < q.1; exact c)
            · cases h
          · intro h; cases h
      · rcases List.mem_append.mp hx with hx | hx
        · exact ⟨(i4 x hx).1, fun h hh => (i4 x hx).2 h (up2 h hh)⟩
        · simp only [List.mem_cons, List.not_mem_nil, or_false] at hx
          subst hx
          exact ⟨hbq, fun h hh => up1 h hh⟩
      · rw [List.pairwise_append]
        refine ⟨i5, by simp, fun x hx y hy => ?_⟩
        simp only [List.mem_cons, List.not_mem_nil, or_false] at hy
        subst hy
        exact b2 x hx
theorem st_all {odd : Bool} : ∀ (qs done : List Qd) (s : StSt), StInv odd done s → (done ++ qs).Pairwise (fun a b => a.1 < b.1) → StInv odd (done ++ qs) (qs.foldl (stStep odd) s)
  | [], done, s, I, _ => by simpa using I
  | q :: qs, done, s, I, pw => by
    have h1 := (List.pairwise_append.mp pw).2.2
    have := st_all qs (done ++ [q]) (stStep odd s q) (st_inv I fun p hp => h1 p hp q List.mem_cons_self) (by simpa using pw)
    simpa using this
theorem stretch_inv {odd : Bool} {qs : List Qd} (pw : qs.Pairwise fun a b => a.1 < b.1) : StInv odd qs (qs.foldl (stStep odd) ⟨[], none, 0, 0⟩) := by
  have := st_all (odd := odd) qs [] ⟨[], none, 0, 0⟩ ⟨rfl, rfl, fun M => by
    unfold Cov upTo ctTo
    simp [within_zero], by simp, by simp, by simp, by simp [within_zero]⟩ (by simpa using pw)
  simpa using this
/-- THE STRETCHES of sorted crossings whose sums come to nothing -/
theorem stretch_cov {odd : Bool} {qs : List Qd} (pw : qs.Pairwise fun a b => a.1 < b.1) (h0 : withinM odd (qs.map fun q => q.2.2.1).sum (qs.map fun q => q.2.2.2).sum = false) :
    (∀ M, (∃ x ∈ stretchQ odd qs, x.1 ≤ M ∧ M < x.2.1) ↔ withinM odd (upTo qs M) (ctTo qs M) = true) ∧ (∀ x ∈ stretchQ odd qs, x.1 < x.2.1) ∧ (stretchQ odd qs).Pairwise fun x y => x.2.1 < y.1 := by
  have I := stretch_inv (odd := odd) pw
  unfold stretchQ
  have hb : (qs.foldl (stStep odd) ⟨[], none, 0, 0⟩).begin = none := by
    have := I.now
    rw [I.ups, I.cnt, h0] at this
    simpa using this
  refine ⟨fun M => ?_, fun x hx => (I.fnd x hx).1, I.pw⟩
  rw [← I.cov M]
  unfold Cov
  rw [hb]
  simp
/-! ### columns put together -/
def Rise (zs : List Spn) : Prop := zs.Pairwise fun x y => x.2.2 < y.2.1
theorem put_inv {row : Int} {acc : List Spn} {c : Pt} (hc : c.1 ≤ c.2) (h1 : ∀ s ∈ acc, s.1 = row ∧ s.2.1 < s.2.2 ∧ s.2.1 ≤ c.1) (h2 : Rise acc) :
    (∀ s ∈ putStep row acc c, s.1 = row ∧ s.2.1 < s.2.2 ∧ s.2.1 ≤ c.1) ∧ Rise (putStep row acc c) ∧ ∀ x, (∃ s ∈ putStep row acc c, s.2.1 ≤ x ∧ x < s.2.2) ↔ (∃ s ∈ acc, s.2.1 ≤ x ∧ x < s.2.2) ∨ c.1 ≤ x ∧ x < c.2 := by
  unfold putStep
  by_cases e : c.1 = c.2
  · rw [if_pos e]
    refine ⟨h1, h2, fun x => ⟨.inl, ?_⟩⟩
    rintro (h | h)
    · exact h
    · omega
  rw [if_neg e]
  rcases List.eq_nil_or_concat acc with rfl | ⟨init, l, rfl⟩
  · simp only [List.getLast?_nil, List.nil_append]
    refine ⟨fun s hs => ?_, by simp [Rise], fun x => by simp⟩
    simp only [List.mem_cons, List.not_mem_nil, or_false] at hs
    subst hs
    exact ⟨rfl, by show c.1 < c.2; omega, Int.le_refl _⟩
  · rw [List.concat_eq_append] at *
    have gl : (init ++ [l]).getLast? = some l := by simp
    rw [gl]
    dsimp only
    obtain ⟨l1, l2, l3⟩ := h1 l (by simp)
    have pw := List.pairwise_append.mp h2
    by_cases c1 : c.1 ≤ l.2.2
    · rw [if_pos c1, List.dropLast_concat]
      refine ⟨fun s hs => ?_, ?_, fun x => ?_⟩
      · rcases List.mem_append.mp hs with hs | hs
        · exact h1 s (by simp [hs])
        · simp only [List.mem_cons, List.not_mem_nil, or_false] at hs
          subst hs
          exact ⟨rfl, by show l.2.1 < max l.2.2 c.2; omega, l3⟩
      · unfold Rise
        rw [List.pairwise_append]
        refine ⟨pw.1, by simp, fun x hx y hy => ?_⟩
        simp only [List.mem_cons, List.not_mem_nil, or_false] at hy
        subst hy
        exact pw.2.2 x hx l (by simp)
      · constructor
        · rintro ⟨s, hs, a1, a2⟩
          rcases List.mem_append.mp hs with hs | hs
          · exact .inl ⟨s, by simp [hs], a1, a2⟩
          · simp only [List.mem_cons, List.not_mem_nil, or_false] at hs
            subst hs
            simp only at a1 a2
            by_cases z : x < l.2.2
            · exact .inl ⟨l, by simp, a1, z⟩
            · exact .inr ⟨by omega, by omega⟩
        · rintro (⟨s, hs, a1, a2⟩ | ⟨a1, a2⟩)
          · rcases List.mem_append.mp hs with hs | hs
            · exact ⟨s, by simp [hs], a1, a2⟩
            · simp only [List.mem_cons, List.not_mem_nil, or_false] at hs
              subst hs
              exact ⟨_, List.mem_append.mpr (.inr List.mem_cons_self), a1, by simp only; omega⟩
          · exact ⟨_, List.mem_append.mpr (.inr List.mem_cons_self), by simp only; omega, by simp only; omega⟩
    · rw [if_neg c1]
      refine ⟨fun s hs => ?_, ?_, fun x => ?_⟩
      · rcases List.mem_append.mp hs with hs | hs
        · exact h1 s hs
        · simp only [List.mem_cons, List.not_mem_nil, or_false] at hs
          subst hs
          exact ⟨rfl, by show c.1 < c.2; omega, Int.le_refl _⟩
      · unfold Rise
        rw [List.pairwise_append]
        refine ⟨h2, by simp, fun x hx y hy => ?_⟩
        simp only [List.mem_cons, List.not_mem_nil, or_false] at hy
        subst hy
        show x.2.2 < c.1
        rcases List.mem_append.mp hx with hx | hx
        · have := pw.2.2 x hx l (by simp)
          omega
        · simp only [List.mem_cons, List.not_mem_nil, or_false] at hx
          subst hx
          omega
      · constructor
        · rintro ⟨s, hs, a1, a2⟩
          rcases List.mem_append.mp hs with hs | hs
          · exact .inl ⟨s, hs, a1, a2⟩
          · simp only [List.mem_cons, List.not_mem_nil, or_false] at hs
            subst hs
            exact .inr ⟨a1, a2⟩
        · rintro (⟨s, hs, a1, a2⟩ | ⟨a1, a2⟩)
          · exact ⟨s, List.mem_append.mpr (.inl hs), a1, a2⟩
          · exact ⟨(row, c.1, c.2), List.mem_append.mpr (.inr List.mem_cons_self), a1, a2⟩
theorem put_all {row : Int} : ∀ (cs : List Pt) (acc : List Spn), (∀ c ∈ cs, c.1 ≤ c.2) → cs.Pairwise (fun a b => leP a b = true) → (∀ s ∈ acc, s.1 = row ∧ s.2.1 < s.2.2 ∧ ∀ c ∈ cs, s.2.1 ≤ c.1) → Rise acc →
    (∀ s ∈ cs.foldl (putStep row) acc, s.1 = row ∧ s.2.1 < s.2.2) ∧ Rise (cs.foldl (putStep row) acc) ∧ ∀ x, (∃ s ∈ cs.foldl (putStep row) acc, s.2.1 ≤ x ∧ x < s.2.2) ↔ (∃ s ∈ acc, s.2.1 ≤ x ∧ x < s.2.2) ∨ ∃ c ∈ cs, c.1 ≤ x ∧ x < c.2
  | [], acc, _, _, h, r => ⟨fun s hs => ⟨(h s hs).1, (h s hs).2.1⟩, r, fun x => by simp⟩
  | c :: cs, acc, hc, pw, h, r => by
    obtain ⟨p1, p2⟩ := List.pairwise_cons.mp pw
    obtain ⟨i1, i2, i3⟩ := put_inv (row := row) (hc c List.mem_cons_self) (fun s hs => ⟨(h s hs).1, (h s hs).2.1, (h s hs).2.2 c List.mem_cons_self⟩) r
    obtain ⟨j1, j2, j3⟩ := put_all cs (putStep row acc c) (fun d hd => hc d (List.mem_cons_of_mem _ hd)) p2 (fun s hs => ⟨(i1 s hs).1, (i1 s hs).2.1, fun d hd => by
      have := p1 d hd
      simp only [leP, decide_eq_true_eq] at this
      have := (i1 s hs).2.2
      omega⟩) i2
    refine ⟨j1, j2, fun x => ?_⟩
    rw [List.foldl_cons, j3, i3]
    constructor
    · rintro ((h | h) | ⟨d, hd, h⟩)
      · exact .inl h
      · exact .inr ⟨c, List.mem_cons_self, h⟩
      · exact .inr ⟨d, List.mem_cons_of_mem _ hd, h⟩
    · rintro (g | ⟨d, hd, g⟩)
      · exact .inl (.inl g)
      · rcases List.mem_cons.mp hd with rfl | hd
        · exact .inl (.inr g)
        · exact .inr ⟨d, hd, g⟩
/-- THE SPANS of a row's columns -/
theorem put_cov {row : Int} {cs : List Pt} (hc : ∀ c ∈ cs, c.1 ≤ c.2) :
    (∀ s ∈ putM row cs, s.1 = row ∧ s.2.1 < s.2.2) ∧ Rise (putM row cs) ∧ ∀ x, (∃ s ∈ putM row cs, s.2.1 ≤ x ∧ x < s.2.2) ↔ ∃ c ∈ cs, c.1 ≤ x ∧ x < c.2 := by
  have hp := sortP_perm cs
  obtain ⟨h1, h2, h3⟩ := put_all (row := row) (sortP cs) [] (fun c h => hc c (hp.mem_iff.mp h)) (sortP_sorted cs) (by simp) (by simp [Rise])
  refine ⟨h1, h2, fun x => ?_⟩
  unfold putM
  rw [h3 x]
  constructor
  · rintro (⟨s, hs, _⟩ | ⟨c, hc, h⟩)
    · cases hs
    · exact ⟨c, hp.mem_iff.mp hc, h⟩
  · rintro ⟨c, hc, h⟩
    exact .inr ⟨c, hp.mem_iff.mpr hc, h⟩
/-! ### sums by places -/
theorem sum_ind {L : List Int} (nd : L.Nodup) (h : Int) (v : Int) : (L.map fun x => if x = h then v else 0).sum = if h ∈ L then v else 0 := by
  induction L with
  | nil => simp
  | cons x L ih =>
    obtain ⟨n1, n2⟩ := List.nodup_cons.mp nd
    rw [List.map_cons, List.sum_cons, ih n2]
    by_cases c : x = h
    · subst c
      simp [n1]
    · have : ¬ h = x := fun e => c e.symm
      simp [c, this]
theorem sum_add (L : List Int) (f g : Int → Int) : (L.map fun x => f x + g x).sum = (L.map f).sum + (L.map g).sum := by
  induction L with
  | nil => rfl
  | cons x L ih => simp only [List.map_cons, List.sum_cons, ih]; omega
/-- grouped sums -/
theorem group_sum {α : Type} (key : α → Int) (val : α → Int) (L : List Int) (nd : L.Nodup) : ∀ (rs : List α), (∀ r ∈ rs, key r ∈ L) → ∀ M,
    ((L.filter fun h => decide (h ≤ M)).map fun h => ((rs.filter fun r => decide (key r = h)).map val).sum).sum = ((rs.filter fun r => decide (key r ≤ M)).map val).sum
  | [], _, M => by
    generalize (L.filter fun h => decide (h ≤ M)) = L'
    simp only [List.filter_nil, List.map_nil, List.sum_nil]
    induction L' with
    | nil => rfl
    | cons x L' ih => simpa using ih
  | r :: rs, hk, M => by
    have ih := group_sum key val L nd rs (fun x hx => hk x (List.mem_cons_of_mem _ hx)) M
    have e : ∀ h, (((r :: rs).filter fun r => decide (key r = h)).map val).sum = ((rs.filter fun r => decide (key r = h)).map val).sum + if h = key r then val r else 0 := fun h => by
      by_cases c : key r = h
      · have : h = key r := c.symm
        simp only [List.filter_cons, c, decide_true, if_true, List.map_cons, List.sum_cons]
        omega
      · have : ¬ h = key r := fun z => c z.symm
        simp [List.filter_cons, c, this]
    have e2 : ((L.filter fun h => decide (h ≤ M)).map fun h => (((r :: rs).filter fun r => decide (key r = h)).map val).sum) = (L.filter fun h => decide (h ≤ M)).map fun h => ((rs.filter fun r => decide (key r = h)).map val).sum + if h = key r then val r else 0 := List.map_congr_left fun h _ => e h
    rw [e2, sum_add, ih, sum_ind (nd.filter _)]
    by_cases c : key r ≤ M
    · have hm : key r ∈ L.filter fun h => decide (h ≤ M) := List.mem_filter.mpr ⟨hk r List.mem_cons_self, by simpa using c⟩
      rw [if_pos hm]
      simp only [List.filter_cons, c, decide_true, if_true, List.map_cons, List.sum_cons]
      omega
    · have hm : key r ∉ L.filter fun h => decide (h ≤ M) := fun z => c (by simpa using (List.mem_filter.mp z).2)
      rw [if_neg hm]
      simp [List.filter_cons, c]
theorem nodup_lt {L : List Int} (h : L.Pairwise (· < ·)) : L.Nodup := h.imp fun {a b} hab e => by omega
theorem len_sum {α : Type} (xs : List α) : (xs.length : Int) = (xs.map fun _ => (1 : Int)).sum := by
  induction xs with
  | nil => rfl
  | cons x xs ih => simp only [List.length_cons, List.map_cons, List.sum_cons]; omega
theorem inOrder_sorted (rs : List Spn) : (inOrderM rs).Pairwise fun a b => a.1 < b.1 := by
  unfold inOrderM
  rw [List.pairwise_map]
  exact uniqS_sorted _
theorem inOrder_sums (rs : List Spn) (M : Int) : upTo (inOrderM rs) M = ((rs.filter fun r => decide (hereM (wholeR rs) r ≤ M)).map (·.2.2)).sum ∧ ctTo (inOrderM rs) M = ((rs.filter fun r => decide (hereM (wholeR rs) r ≤ M)).length : Int) := by
  have nd := nodup_lt (uniqS_sorted (rs.map (hereM (wholeR rs))))
  have hk : ∀ r ∈ rs, hereM (wholeR rs) r ∈ uniqS (rs.map (hereM (wholeR rs))) := fun r hr => uniqS_mem.mpr (List.mem_map_of_mem hr)
  constructor
  · rw [← group_sum (hereM (wholeR rs)) (·.2.2) _ nd rs hk M]
    unfold upTo inOrderM
    dsimp only
    rw [List.filter_map, List.map_map]
    rfl
  · rw [len_sum, ← group_sum (hereM (wholeR rs)) (fun _ => 1) _ nd rs hk M]
    unfold ctTo inOrderM
    dsimp only
    rw [List.filter_map, List.map_map]
    congr 1
    refine List.map_congr_left fun h _ => ?_
    exact len_sum _
theorem inOrder_total (rs : List Spn) : ((inOrderM rs).map fun q => q.2.2.1).sum = (rs.map (·.2.2)).sum ∧ ((inOrderM rs).map fun q => q.2.2.2).sum = (rs.length : Int) := by
  obtain ⟨M, hM⟩ : ∃ M : Int, (∀ q ∈ inOrderM rs, q.1 ≤ M) ∧ ∀ r ∈ rs, hereM (wholeR rs) r ≤ M := by
    have key : ∀ xs : List Int, ∃ M : Int, ∀ x ∈ xs, x ≤ M := by
      intro xs
      induction xs with
      | nil => exact ⟨0, by simp⟩
      | cons x xs ih =>
        obtain ⟨M, h⟩ := ih
        refine ⟨max x M, fun y hy => ?_⟩
        rcases List.mem_cons.mp hy with rfl | hy
        · omega
        · have := h y hy; omega
    obtain ⟨A, hA⟩ := key ((inOrderM rs).map (·.1))
    obtain ⟨B, hB⟩ := key (rs.map (hereM (wholeR rs)))
    refine ⟨max A B, fun q hq => ?_, fun r hr => ?_⟩
    · have := hA q.1 (List.mem_map_of_mem hq); omega
    · have := hB _ (List.mem_map_of_mem (f := hereM (wholeR rs)) hr); omega
  obtain ⟨h1, h2⟩ := inOrder_sums rs M
  obtain ⟨h3, h4⟩ := upTo_all hM.1
  have e : (rs.filter fun r => decide (hereM (wholeR rs) r ≤ M)) = rs := List.filter_eq_self.mpr fun r hr => by simpa using hM.2 r hr
  rw [e] at h1 h2
  exact ⟨by rw [← h3, h1], by rw [← h4, h2]⟩
end KC

set_option maxHeartbeats 200000
/-! P2: the plain law of cells: a row's spans hold just the columns whose middles lie within. -/
namespace K76
open PySem PySem.Spec PyProof.Rows L2 DL KC KL
open K78 (BoxC runs step Good cellsOf)
/-! ### edges either way round -/
theorem edges_perm (w : List Pt) : (edgesB w).Perm (edgesN w) := by
  rcases List.eq_nil_or_concat w with rfl | ⟨i, l, rfl⟩
  · exact List.Perm.refl _
  rw [List.concat_eq_append]
  unfold edgesB edgesN prevs nexts
  cases i with
  | nil => exact List.Perm.refl _
  | cons a t =>
    have e1 : ((a :: t) ++ [l]).getLast?.toList = [l] := by rw [List.getLast?_concat]; rfl
    have e2 : ((a :: t) ++ [l]).dropLast = a :: t := by rw [List.dropLast_concat]
    rw [e1, e2]
    have e3 : (((a :: t) ++ [l]).drop 1 ++ ((a :: t) ++ [l]).take 1) = (t ++ [l]) ++ [a] := by simp
    rw [e3]
    have e4 : ((a :: t) ++ [l]).zip ((t ++ [l]) ++ [a]) = (a :: t).zip (t ++ [l]) ++ [l].zip [a] := List.zip_append (by simp)
    rw [e4]
    have e5 : ([l] ++ (a :: t)).zip ((a :: t) ++ [l]) = (l, a) :: (a :: t).zip (t ++ [l]) := rfl
    rw [e5]
    exact (List.perm_append_comm (l₁ := [(l, a)]) (l₂ := (a :: t).zip (t ++ [l])))
theorem sum_perm {xs ys : List Int} (h : xs.Perm ys) : xs.sum = ys.sum := by
  induction h with
  | nil => rfl
  | cons x _ ih => simp only [List.sum_cons, ih]
  | swap x y l => simp only [List.sum_cons]; omega
  | trans _ _ ih1 ih2 => rw [ih1, ih2]
/-! ### one edge -/
theorem sign_way {t s : Int} (hs : s ≠ 0) : (t = 0 ∨ decide (t < 0) = decide (0 < s)) ↔ t * (if 0 < s then 1 else -1) ≤ 0 := by
  by_cases c : 0 < s
  · rw [if_pos c]
    simp only [c, decide_true, decide_eq_true_eq]
    omega
  · rw [if_neg c]
    simp only [c, decide_false, decide_eq_false_iff_not]
    omega
theorem here_le {W X N b : Int} (hW : 0 < W) (hb : 0 < b) (hd : b ∣ W) : N * W.fdiv b ≤ X * W ↔ N ≤ X * b := by
  obtain ⟨q, rfl⟩ := hd
  have hq : 0 < q := by
    by_cases c : 0 < q
    · exact c
    · have : b * q ≤ 0 := Int.mul_nonpos_of_nonneg_of_nonpos (by omega) (by omega)
      omega
  rw [Int.fdiv_eq_ediv_of_nonneg _ (by omega), Int.mul_ediv_cancel_left _ (by omega), ← Int.mul_assoc]
  exact ⟨fun h => Int.le_of_mul_le_mul_right h hq, fun h => Int.mul_le_mul_of_nonneg_right h (by omega)⟩
/-- an edge's crossing lies west of a middle just where the edge passes west of it -/
theorem west_one {W m c Y : Int} {e : Pt × Pt} (hW : 0 < W) (hm : 0 < m) (hd : ∀ r, crossAt Y m e = some r → 0 < r.2.1 ∧ r.2.1 ∣ W) :
    ((crossAt Y m e).filter fun r => decide (hereM W r ≤ (64 * c + 32) * W)).map (·.2.2) = westT ((64 * c + 32) * m) Y e := by
  unfold westT
  by_cases h0 : decide (Y < e.1.2) = decide (Y < e.2.2)
  · rw [if_pos h0]
    unfold crossAt
    rw [if_pos h0]
    rfl
  rw [if_neg h0]
  have hs : e.2.2 - e.1.2 ≠ 0 := fun z => h0 (by have : e.1.2 = e.2.2 := by omega
                                                 rw [this])
  unfold crossAt at hd ⊢
  rw [if_neg h0] at hd ⊢
  obtain ⟨d1, d2⟩ := hd _ rfl
  dsimp only at d1 d2 ⊢
  generalize hst : e.2.2 - e.1.2 = s at *
  have key := here_le (X := 64 * c + 32) (N := (e.1.1 * s + (Y - e.1.2) * (e.2.1 - e.1.1)) * (if 0 < s then 1 else -1)) hW d1 d2
  have sw := sign_way (t := (Y - e.1.2) * (e.2.1 - e.1.1) - ((64 * c + 32) * m - e.1.1) * s) hs
  have eq : (e.1.1 * s + (Y - e.1.2) * (e.2.1 - e.1.1)) * (if 0 < s then (1 : Int) else -1) ≤ (64 * c + 32) * (s * (if 0 < s then 1 else -1) * m) ↔ ((Y - e.1.2) * (e.2.1 - e.1.1) - ((64 * c + 32) * m - e.1.1) * s) * (if 0 < s then 1 else -1) ≤ 0 := by
    generalize (if 0 < s then (1 : Int) else -1) = wy
    have : (64 * c + 32) * (s * wy * m) = (64 * c + 32) * m * s * wy := by
      rw [Int.mul_comm (s * wy) m, ← Int.mul_assoc, ← Int.mul_assoc]
    have e2 : ((Y - e.1.2) * (e.2.1 - e.1.1) - ((64 * c + 32) * m - e.1.1) * s) * wy = (e.1.1 * s + (Y - e.1.2) * (e.2.1 - e.1.1)) * wy - (64 * c + 32) * m * s * wy := by
      generalize (64 * c + 32) * m = X
      generalize (Y - e.1.2) * (e.2.1 - e.1.1) = A
      rw [Int.sub_mul X, Int.sub_mul, Int.sub_mul, Int.add_mul]
      omega
    rw [this, e2]
    omega
  have fin : (hereM W ((e.1.1 * s + (Y - e.1.2) * (e.2.1 - e.1.1)) * (if 0 < s then 1 else -1), s * (if 0 < s then 1 else -1) * m, if 0 < s then 1 else -1) ≤ (64 * c + 32) * W) ↔ ((Y - e.1.2) * (e.2.1 - e.1.1) - ((64 * c + 32) * m - e.1.1) * s = 0 ∨ decide ((Y - e.1.2) * (e.2.1 - e.1.1) - ((64 * c + 32) * m - e.1.1) * s < 0) = decide (0 < s)) := by
    unfold hereM
    dsimp only
    rw [key, eq, sw]
  have ew : (if s < 0 then (-1 : Int) else 1) = if 0 < s then 1 else -1 := by
    by_cases c1 : 0 < s
    · rw [if_pos c1, if_neg (by omega)]
    · rw [if_neg c1, if_pos (by omega)]
  rw [ew]
  by_cases g : hereM W ((e.1.1 * s + (Y - e.1.2) * (e.2.1 - e.1.1)) * (if 0 < s then 1 else -1), s * (if 0 < s then 1 else -1) * m, if 0 < s then 1 else -1) ≤ (64 * c + 32) * W
  · rw [if_pos (fin.mp g)]
    simp only [Option.filter, g, decide_true, if_true, Option.map_some]
  · rw [if_neg fun z => g (fin.mpr z)]
    simp only [Option.filter, g, decide_false, Bool.false_eq_true, if_false, Option.map_none]
theorem fm_fm {α β γ : Type} (f : α → Option β) (p : β → Bool) (g : β → γ) : ∀ xs : List α, (((xs.filterMap f).filter p).map g) = xs.filterMap fun x => ((f x).filter p).map g
  | [] => rfl
  | x :: xs => by
    have ih := fm_fm f p g xs
    cases h : f x with
    | none => simp [List.filterMap_cons, h, ih]
    | some y =>
      by_cases c : p y = true
      · simp [List.filterMap_cons, h, ih, Option.filter, c]
      · simp [List.filterMap_cons, h, ih, Option.filter, c]
theorem fm_congr {α β : Type} {f g : α → Option β} : ∀ {xs : List α}, (∀ x ∈ xs, f x = g x) → xs.filterMap f = xs.filterMap g
  | [], _ => rfl
  | x :: xs, h => by
    rw [List.filterMap_cons, List.filterMap_cons, h x List.mem_cons_self, fm_congr fun y hy => h y (List.mem_cons_of_mem _ hy)]
theorem west_poly {W m c Y : Int} {w : List Pt} (hW : 0 < W) (hm : 0 < m) (hd : ∀ r ∈ (edgesB w).filterMap (crossAt Y m), 0 < r.2.1 ∧ r.2.1 ∣ W) :
    ((((edgesB w).filterMap (crossAt Y m)).filter fun r => decide (hereM W r ≤ (64 * c + 32) * W)).map (·.2.2)).Perm (westL w ((64 * c + 32) * m) Y) := by
  rw [fm_fm]
  have e : ((edgesB w).filterMap fun x => ((crossAt Y m x).filter fun r => decide (hereM W r ≤ (64 * c + 32) * W)).map (·.2.2)) = (edgesB w).filterMap (westT ((64 * c + 32) * m) Y) := by
    refine fm_congr fun e he => ?_
    exact west_one hW hm fun r hr => hd r (List.mem_filterMap.mpr ⟨e, he, hr⟩)
  rw [e]
  exact (edges_perm w).filterMap _
theorem sum_flat (f : List Pt → List Int) : ∀ ws : List (List Pt), (ws.flatMap f).sum = (ws.map fun w => (f w).sum).sum
  | [] => rfl
  | w :: ws => by
    rw [List.flatMap_cons, List.sum_append, sum_flat f ws, List.map_cons, List.sum_cons]
theorem len_flat (f : List Pt → List Int) : ∀ ws : List (List Pt), ((ws.flatMap f).length : Int) = (ws.map fun w => ((f w).length : Int)).sum
  | [] => rfl
  | w :: ws => by
    rw [List.flatMap_cons, List.length_append, List.map_cons, List.sum_cons, ← len_flat f ws]
    omega
theorem west_all {W m c Y : Int} {ws : List (List Pt)} (hW : 0 < W) (hm : 0 < m) (hd : ∀ r ∈ ws.flatMap fun w => (edgesB w).filterMap (crossAt Y m), 0 < r.2.1 ∧ r.2.1 ∣ W) :
    let zs := ((ws.flatMap fun w => (edgesB w).filterMap (crossAt Y m)).filter fun r => decide (hereM W r ≤ (64 * c + 32) * W)).map (·.2.2)
    zs.sum = (ws.map fun w => (westL w ((64 * c + 32) * m) Y).sum).sum ∧ (zs.length : Int) = (ws.map fun w => ((westL w ((64 * c + 32) * m) Y).length : Int)).sum := by
  have e : ((ws.flatMap fun w => (edgesB w).filterMap (crossAt Y m)).filter fun r => decide (hereM W r ≤ (64 * c + 32) * W)).map (·.2.2) = ws.flatMap fun w => (((edgesB w).filterMap (crossAt Y m)).filter fun r => decide (hereM W r ≤ (64 * c + 32) * W)).map (·.2.2) := by
    rw [List.filter_flatMap, List.map_flatMap]
  have hp : ∀ w ∈ ws, ((((edgesB w).filterMap (crossAt Y m)).filter fun r => decide (hereM W r ≤ (64 * c + 32) * W)).map (·.2.2)).Perm (westL w ((64 * c + 32) * m) Y) := fun w hw => west_poly hW hm fun r hr => hd r (List.mem_flatMap.mpr ⟨w, hw, hr⟩)
  dsimp only
  rw [e, sum_flat, len_flat]
  constructor
  · congr 1
    exact List.map_congr_left fun w hw => sum_perm (hp w hw)
  · congr 1
    exact List.map_congr_left fun w hw => by rw [(hp w hw).length_eq]
/-! ### a closed polygon's edges come to nothing -/
def abv (Y : Int) (p : Pt) : Int := if Y < p.2 then 1 else 0
theorem way_abv {Y m : Int} {e : Pt × Pt} : ((crossAt Y m e).map (·.2.2)).getD 0 = abv Y e.2 - abv Y e.1 := by
  unfold crossAt abv
  by_cases h0 : decide (Y < e.1.2) = decide (Y < e.2.2)
  · rw [if_pos h0]
    simp only [decide_eq_decide] at h0
    simp only [Option.map_none, Option.getD_none, h0]
    omega
  · rw [if_neg h0]
    dsimp only
    simp only [Option.map_some, Option.getD_some]
    simp only [decide_eq_decide] at h0
    by_cases c1 : Y < e.1.2 <;> by_cases c2 : Y < e.2.2 <;> simp [c1, c2] at h0 ⊢ <;> omega
theorem ways_sum {Y m : Int} : ∀ es : List (Pt × Pt), ((es.filterMap (crossAt Y m)).map (·.2.2)).sum = (es.map fun e => abv Y e.2 - abv Y e.1).sum
  | [] => rfl
  | e :: es => by
    have h := way_abv (Y := Y) (m := m) (e := e)
    have ih := ways_sum (Y := Y) (m := m) es
    rw [List.map_cons, List.sum_cons, ← h, ← ih]
    cases c : crossAt Y m e with
    | none => simp [List.filterMap_cons, c]
    | some r => simp [List.filterMap_cons, c]
theorem zip_diff (f : Pt → Int) : ∀ (ps ws : List Pt), ps.length = ws.length → ((ps.zip ws).map fun e => f e.2 - f e.1).sum = (ws.map f).sum - (ps.map f).sum
  | [], [], _ => rfl
  | p :: ps, w :: ws, h => by
    have ih := zip_diff f ps ws (by simpa using h)
    simp only [List.zip_cons_cons, List.map_cons, List.sum_cons, ih]
    omega
  | [], _ :: _, h => by simp at h
  | _ :: _, [], h => by simp at h
theorem closed {Y m : Int} (w : List Pt) : (((edgesB w).filterMap (crossAt Y m)).map (·.2.2)).sum = 0 := by
  rw [ways_sum]
  unfold edgesB
  rcases List.eq_nil_or_concat w with rfl | ⟨i, l, rfl⟩
  · rfl
  rw [List.concat_eq_append]
  have e : prevs (i ++ [l]) = [l] ++ i := by unfold prevs; simp
  rw [e, zip_diff _ _ _ (by simp)]
  simp
  omega
theorem par_len : ∀ zs : List Int, (∀ z ∈ zs, z = 1 ∨ z = -1) → ∃ k : Int, zs.sum = (zs.length : Int) - 2 * k
  | [], _ => ⟨0, rfl⟩
  | z :: zs, h => by
    obtain ⟨k, hk⟩ := par_len zs fun y hy => h y (List.mem_cons_of_mem _ hy)
    rcases h z List.mem_cons_self with rfl | rfl
    · exact ⟨k, by simp only [List.sum_cons, List.length_cons, hk]; omega⟩
    · exact ⟨k + 1, by simp only [List.sum_cons, List.length_cons, hk]; omega⟩
theorem all_zero {ws : List (List Pt)} {m row : Int} (odd : Bool) : withinM odd ((inOrderM (crossM ws m row)).map fun q => q.2.2.1).sum ((inOrderM (crossM ws m row)).map fun q => q.2.2.2).sum = false := by
  obtain ⟨h1, h2⟩ := inOrder_total (crossM ws m row)
  rw [h1, h2]
  have e : ((crossM ws m row).map (·.2.2)) = ws.flatMap fun w => ((edgesB w).filterMap (crossAt (lineM m row) m)).map (·.2.2) := by
    unfold crossM
    rw [List.map_flatMap]
  have z : ((crossM ws m row).map (·.2.2)).sum = 0 := by
    rw [e, sum_flat]
    have : (ws.map fun w => (((edgesB w).filterMap (crossAt (lineM m row) m)).map (·.2.2)).sum) = ws.map fun _ => (0 : Int) := List.map_congr_left fun w _ => closed w
    rw [this]
    induction ws with
    | nil => rfl
    | cons w ws ih => simp only [List.map_cons, List.sum_cons]; simpa using (by
        clear e h1 h2 this ih
        induction ws with
        | nil => rfl
        | cons x ws ih => simpa using ih : (ws.map fun _ => (0 : Int)).sum = 0)
  obtain ⟨k, hk⟩ := par_len ((crossM ws m row).map (·.2.2)) fun z hz => by
    obtain ⟨r, hr, rfl⟩ := List.mem_map.mp hz
    obtain ⟨w, _, a, _, b, _, he⟩ := cross_mem hr
    obtain ⟨way, hw, _, rfl, _⟩ := cross_one he
    exact hw
  rw [z, List.length_map] at hk
  rw [z]
  unfold withinM
  cases odd with
  | true =>
    simp only [if_true, decide_eq_false_iff_not]
    rw [Int.fmod_eq_emod_of_nonneg _ (by omega)]
    omega
  | false => simp
/-- THE SPANS OF A ROW hold just the columns whose middles lie within -/
theorem row_cov {ws : List (List Pt)} {m row : Int} {odd : Bool} (hw : WsOk ws) (m1 : 0 < m) (m2 : m < 1048576) (hr : RowOk ws m row) :
    (∀ s ∈ rowM ws m odd false row, s.1 = row ∧ s.2.1 < s.2.2) ∧ Rise (rowM ws m odd false row) ∧ ∀ c, (∃ s ∈ rowM ws m odd false row, s.2.1 ≤ c ∧ c < s.2.2) ↔ withinL ws ((64 * c + 32) * m) ((64 * row + 32) * m) odd = true := by
  have ok := cross_ok hw m1 m2 hr
  have wp := whole_pos ok
  obtain ⟨v1, v2, v3⟩ := stretch_cov (odd := odd) (inOrder_sorted (crossM ws m row)) (all_zero odd)
  have hb : ∀ x ∈ stretchM ws m row odd, x.2.2 = wholeR (crossM ws m row) := fun x hx => stretch_base hx
  unfold rowM
  have hcols : ∀ x ∈ stretchM ws m row odd, filledM false x = (firstMid x.1 (wholeR (crossM ws m row)), firstMid x.2.1 (wholeR (crossM ws m row))) := fun x hx => by
    unfold filledM
    rw [hb x hx]
    simp
  obtain ⟨p1, p2, p3⟩ := put_cov (row := row) (cs := (stretchM ws m row odd).map (filledM false)) fun c hc => by
    obtain ⟨x, hx, rfl⟩ := List.mem_map.mp hc
    rw [hcols x hx]
    exact firstMid_mono wp (by have := v2 x hx; omega)
  refine ⟨p1, p2, fun c => ?_⟩
  rw [p3]
  have s1 : (∃ d ∈ (stretchM ws m row odd).map (filledM false), d.1 ≤ c ∧ c < d.2) ↔ ∃ x ∈ stretchM ws m row odd, x.1 ≤ (64 * c + 32) * wholeR (crossM ws m row) ∧ (64 * c + 32) * wholeR (crossM ws m row) < x.2.1 := by
    constructor
    · rintro ⟨d, hd, a1, a2⟩
      obtain ⟨x, hx, rfl⟩ := List.mem_map.mp hd
      rw [hcols x hx] at a1 a2
      refine ⟨x, hx, (firstMid_le wp).mp a1, ?_⟩
      have := (firstMid_le (t := x.2.1) (c := c) wp).mpr
      dsimp only at a2
      omega
    · rintro ⟨x, hx, a1, a2⟩
      refine ⟨_, List.mem_map_of_mem hx, ?_⟩
      rw [hcols x hx]
      refine ⟨(firstMid_le wp).mpr a1, ?_⟩
      have := (firstMid_le (t := x.2.1) (c := c) wp).mp
      show c < firstMid x.2.1 _
      omega
  rw [s1]
  have s2 := v1 ((64 * c + 32) * wholeR (crossM ws m row))
  show (∃ x ∈ stretchQ odd (inOrderM (crossM ws m row)), _) ↔ _
  rw [s2]
  obtain ⟨i1, i2⟩ := inOrder_sums (crossM ws m row) ((64 * c + 32) * wholeR (crossM ws m row))
  have hd : ∀ r ∈ ws.flatMap fun w => (edgesB w).filterMap (crossAt (lineM m row) m), 0 < r.2.1 ∧ r.2.1 ∣ wholeR (crossM ws m row) := fun r hr => ⟨ok.pos r hr, (fold_mult ((crossM ws m row).map (·.2.1)) 1 (by omega) fun b hb => by
    obtain ⟨r', hr', rfl⟩ := List.mem_map.mp hb
    exact ok.pos r' hr').2.2 _ (List.mem_map_of_mem (f := fun r : Spn => r.2.1) hr)⟩
  obtain ⟨j1, j2⟩ := west_all (c := c) (Y := lineM m row) wp m1 hd
  rw [i1, i2]
  rw [List.length_map] at j2
  have k1 : (((crossM ws m row).filter fun r => decide (hereM (wholeR (crossM ws m row)) r ≤ (64 * c + 32) * wholeR (crossM ws m row))).map (·.2.2)).sum = (ws.map fun w => (westL w ((64 * c + 32) * m) ((64 * row + 32) * m)).sum).sum := j1
  have k2 : (((crossM ws m row).filter fun r => decide (hereM (wholeR (crossM ws m row)) r ≤ (64 * c + 32) * wholeR (crossM ws m row))).length : Int) = (ws.map fun w => ((westL w ((64 * c + 32) * m) ((64 * row + 32) * m)).length : Int)).sum := j2
  rw [k1, k2]
  unfold withinL withinM
  exact Iff.rfl
end K76

set_option maxHeartbeats 200000
/-! P3: the plain law of cells: numbers as told, scale, all rows. -/
namespace K76
open PySem PySem.Spec PyProof.Rows L2 DL KC KL
open K78 (BoxC runs step Good cellsOf Bef mem_cells pw_good)
/-! ### numbers as told -/
theorem red_facts {x base : Int} (hb : 0 < base) : (redM x base).ok ∧ (redM x base).base ∣ base ∧ (redM x base).top * base = x * (redM x base).base ∧ (redM x base).top.natAbs ≤ x.natAbs := by
  have hg : 0 < (Int.gcd x base : Int) := by
    have := Int.gcd_pos_of_ne_zero_right x (show base ≠ 0 by omega)
    omega
  obtain ⟨a, ha⟩ : (Int.gcd x base : Int) ∣ x := Int.gcd_dvd_left ..
  obtain ⟨b, hb2⟩ : (Int.gcd x base : Int) ∣ base := Int.gcd_dvd_right ..
  have hgab : Int.gcd x base = Int.gcd x base * Int.gcd a b := by
    have h := Int.gcd_mul_left (Int.gcd x base : Int) a b
    rw [← ha, ← hb2] at h
    simpa using h
  generalize hG : Int.gcd x base = g at *
  have hb0 : 0 < b := by
    by_cases c : 0 < b
    · exact c
    · have : (g : Int) * b ≤ 0 := Int.mul_nonpos_of_nonneg_of_nonpos (by omega) (by omega)
      omega
  have ea : x.fdiv (g : Int) = a := by rw [Int.fdiv_eq_ediv_of_nonneg _ (by omega), ha, Int.mul_ediv_cancel_left _ (by omega)]
  have eb : base.fdiv (g : Int) = b := by rw [Int.fdiv_eq_ediv_of_nonneg _ (by omega), hb2, Int.mul_ediv_cancel_left _ (by omega)]
  have et : a.natAbs ≤ x.natAbs := by
    rw [ha, Int.natAbs_mul]
    exact Nat.le_mul_of_pos_left _ (by omega)
  unfold redM
  rw [hG, if_neg (show ¬ base < 0 by omega)]
  dsimp only
  rw [ea, eb]
  by_cases c : b = 1
  · rw [if_pos c]
    subst c
    refine ⟨trivial, Int.one_dvd _, ?_, et⟩
    show a * base = x * 1
    rw [hb2, ha, Int.mul_one, Int.mul_one, Int.mul_comm]
  · rw [if_neg c]
    refine ⟨⟨by omega, ?_⟩, ⟨g, by show base = b * g; rw [Int.mul_comm]; exact hb2⟩, ?_, et⟩
    · have : g * 1 = g * Int.gcd a b := by omega
      exact (Nat.eq_of_mul_eq_mul_left (by omega) this).symm
    · show a * base = x * b
      rw [hb2]
      conv => rhs; rw [ha]
      rw [← Int.mul_assoc, Int.mul_comm a]
theorem whole_red {x base m k : Int} (hb : 0 < base) (hk : 0 < k) (hm : 0 < m) (hmk : m * k = base) (hd : (redM x base).base ∣ m) : wholeM m (redM x base) * k = x := by
  obtain ⟨h1, h2, h3, h4⟩ := red_facts (x := x) hb
  generalize redM x base = n at *
  cases n with
  | i t =>
    show t * m * k = x
    have h3 : t * base = x * 1 := h3
    rw [Int.mul_assoc, hmk, h3, Int.mul_one]
  | q t b =>
    have h3 : t * base = x * b := h3
    have hb1 : 1 < b := h1.1
    obtain ⟨c, hc⟩ := hd
    have hc : m = b * c := hc
    show t * m.fdiv b * k = x
    rw [Int.fdiv_eq_ediv_of_nonneg _ (by omega), hc, Int.mul_ediv_cancel_left _ (by omega)]
    apply Int.eq_of_mul_eq_mul_right (show b ≠ 0 by omega)
    rw [← h3, ← hmk, hc, Int.mul_assoc t, Int.mul_assoc t, Int.mul_assoc b, Int.mul_comm b]
/-! ### scale and shift -/
def sc (k : Int) (p : Pt) : Pt := (p.1 * k, p.2 * k)
def sh (dx dy : Int) (p : Pt) : Pt := (p.1 + dx, p.2 + dy)
theorem edgesN_map (f : Pt → Pt) (w : List Pt) : edgesN (w.map f) = (edgesN w).map fun e => (f e.1, f e.2) := by
  unfold edgesN nexts
  rw [← List.map_drop, ← List.map_take, ← List.map_append, List.zip_map]
  rfl
theorem westT_sc {k x y : Int} (hk : 0 < k) (e : Pt × Pt) : westT (x * k) (y * k) (sc k e.1, sc k e.2) = westT x y e := by
  unfold westT sc
  dsimp only
  have l1 : (y * k < e.1.2 * k) ↔ y < e.1.2 := ⟨fun h => Int.lt_of_mul_lt_mul_right h (by omega), fun h => Int.mul_lt_mul_of_pos_right h hk⟩
  have l2 : (y * k < e.2.2 * k) ↔ y < e.2.2 := ⟨fun h => Int.lt_of_mul_lt_mul_right h (by omega), fun h => Int.mul_lt_mul_of_pos_right h hk⟩
  have e1 : e.2.2 * k - e.1.2 * k = (e.2.2 - e.1.2) * k := by rw [Int.sub_mul]
  have e2 : (y * k - e.1.2 * k) * (e.2.1 * k - e.1.1 * k) - (x * k - e.1.1 * k) * ((e.2.2 - e.1.2) * k) = ((y - e.1.2) * (e.2.1 - e.1.1) - (x - e.1.1) * (e.2.2 - e.1.2)) * (k * k) := by
    have g1 : y * k - e.1.2 * k = (y - e.1.2) * k := by rw [Int.sub_mul]
    have g2 : e.2.1 * k - e.1.1 * k = (e.2.1 - e.1.1) * k := by rw [Int.sub_mul]
    have g3 : x * k - e.1.1 * k = (x - e.1.1) * k := by rw [Int.sub_mul]
    rw [g1, g2, g3]
    generalize y - e.1.2 = a
    generalize e.2.1 - e.1.1 = b
    generalize x - e.1.1 = c
    generalize e.2.2 - e.1.2 = d
    have f : ∀ u v : Int, u * k * (v * k) = u * v * (k * k) := fun u v => by rw [Int.mul_assoc, Int.mul_left_comm k, Int.mul_assoc]
    rw [f, f, Int.sub_mul]
  have kk : 0 < k * k := Int.mul_pos hk hk
  rw [e1, e2]
  generalize (y - e.1.2) * (e.2.1 - e.1.1) - (x - e.1.1) * (e.2.2 - e.1.2) = t
  generalize e.2.2 - e.1.2 = s
  have f1 : (s * k < 0) ↔ s < 0 := ⟨fun h => Int.lt_of_mul_lt_mul_right (by simpa using h) (Int.le_of_lt hk), fun h => by have := Int.mul_lt_mul_of_pos_right h hk; simpa using this⟩
  have f2 : (0 < s * k) ↔ 0 < s := ⟨fun h => Int.lt_of_mul_lt_mul_right (by simpa using h) (Int.le_of_lt hk), fun h => Int.mul_pos h hk⟩
  have f3 : (t * (k * k) < 0) ↔ t < 0 := ⟨fun h => Int.lt_of_mul_lt_mul_right (by simpa using h) (Int.le_of_lt kk), fun h => by have := Int.mul_lt_mul_of_pos_right h kk; simpa using this⟩
  have f4 : (t * (k * k) = 0) ↔ t = 0 := ⟨fun h => by rcases Int.mul_eq_zero.mp h with h | h <;> omega, fun h => by rw [h, Int.zero_mul]⟩
  simp only [l1, l2, f1, f2, f3, f4]
theorem westT_sh {dx dy x y : Int} (e : Pt × Pt) : westT (x + dx) (y + dy) (sh dx dy e.1, sh dx dy e.2) = westT x y e := by
  unfold westT sh
  dsimp only
  have l1 : (y + dy < e.1.2 + dy) ↔ y < e.1.2 := by omega
  have l2 : (y + dy < e.2.2 + dy) ↔ y < e.2.2 := by omega
  have e1 : e.2.2 + dy - (e.1.2 + dy) = e.2.2 - e.1.2 := by omega
  have e2 : y + dy - (e.1.2 + dy) = y - e.1.2 := by omega
  have e3 : e.2.1 + dx - (e.1.1 + dx) = e.2.1 - e.1.1 := by omega
  have e4 : x + dx - (e.1.1 + dx) = x - e.1.1 := by omega
  simp only [l1, l2, e1, e2, e3, e4]
theorem westL_map {f : Pt → Pt} {x y x' y' : Int} (h : ∀ e : Pt × Pt, westT x' y' (f e.1, f e.2) = westT x y e) (w : List Pt) : westL (w.map f) x' y' = westL w x y := by
  unfold westL
  rw [edgesN_map, List.filterMap_map]
  exact fm_congr fun e _ => h e
theorem within_map {f : Pt → Pt} {x y x' y' : Int} (h : ∀ e : Pt × Pt, westT x' y' (f e.1, f e.2) = westT x y e) (rows : List (List Pt)) (odd : Bool) : withinL (rows.map (·.map f)) x' y' odd = withinL rows x y odd := by
  unfold withinL
  rw [List.map_map, List.map_map]
  have e1 : ((fun w => ((westL w x' y').length : Int)) ∘ fun w => List.map f w) = fun w => ((westL w x y).length : Int) := funext fun w => by
    show ((westL (w.map f) x' y').length : Int) = _
    rw [westL_map h]
  have e2 : ((fun w => (westL w x' y').sum) ∘ fun w => List.map f w) = fun w => (westL w x y).sum := funext fun w => by
    show (westL (w.map f) x' y').sum = _
    rw [westL_map h]
  rw [e1, e2]
theorem edgesN_mem {w : List Pt} {e : Pt × Pt} (h : e ∈ edgesN w) : e.1 ∈ w ∧ e.2 ∈ w := by
  obtain ⟨a, b⟩ := e
  have h2 := List.of_mem_zip h
  refine ⟨h2.1, ?_⟩
  rcases List.mem_append.mp h2.2 with h | h
  · exact List.mem_of_mem_drop h
  · exact List.mem_of_mem_take h
theorem within_out {ws : List (List Pt)} {x y : Int} (odd : Bool) (h : (∀ w ∈ ws, ∀ p ∈ w, y < p.2) ∨ ∀ w ∈ ws, ∀ p ∈ w, ¬ y < p.2) : withinL ws x y odd = false := by
  have e : ∀ w ∈ ws, westL w x y = [] := fun w hw => by
    unfold westL
    rw [List.filterMap_eq_nil_iff]
    intro e he
    obtain ⟨a, b⟩ := edgesN_mem he
    unfold westT
    rw [if_pos]
    rcases h with h | h
    · simp [h w hw _ a, h w hw _ b]
    · have h1 := h w hw _ a
      have h2 := h w hw _ b
      simp only [h1, h2]
  have z : ∀ (f : List Pt → Int), (∀ w ∈ ws, f w = 0) → (ws.map f).sum = 0 := fun f hf => by
    clear e h
    induction ws with
    | nil => rfl
    | cons w ws ih => rw [List.map_cons, List.sum_cons, hf w List.mem_cons_self, ih fun v hv => hf v (List.mem_cons_of_mem _ hv)]; rfl
  unfold withinL
  rw [z (fun w => ((westL w x y).length : Int)) fun w hw => by rw [e w hw]; rfl, z (fun w => (westL w x y).sum) fun w hw => by rw [e w hw]; rfl]
  cases odd <;> rfl
/-! ### all rows -/
structure GenOk (base : Int) (rows : List (List Pt)) : Prop where
  b0 : 0 < base
  b1 : base ≤ 12
  len : 1 ≤ rows.length ∧ rows.length ≤ 4
  each : ∀ w ∈ rows, 1 ≤ w.length ∧ w.length ≤ 100
  top : ∀ w ∈ rows, ∀ x ∈ w, Sz 380 x.1 ∧ Sz 380 x.2
  low : ∃ lo : Int, ∀ w ∈ rows, ∀ x ∈ w, lo ≤ x.2 ∧ x.2 ≤ lo + 20774 * base
theorem nums_told {rows : List (List Pt)} {base : Int} {n : Num} (h : n ∈ nums (rows.map (told base))) : ∃ w ∈ rows, ∃ x ∈ w, n = redM x.1 base ∨ n = redM x.2 base := by
  unfold nums at h
  obtain ⟨p, hp, h⟩ := List.mem_flatMap.mp h
  obtain ⟨w, hw, rfl⟩ := List.mem_map.mp hp
  obtain ⟨y, hy, h⟩ := List.mem_flatMap.mp h
  obtain ⟨x, hx, rfl⟩ := List.mem_map.mp hy
  refine ⟨w, hw, x, hx, ?_⟩
  simpa using h
theorem gen_cells {base : Int} {rows : List (List Pt)} (h : GenOk base rows) : CellsOk (rows.map (told base)) := by
  have b0 := h.b0
  have b1 := h.b1
  refine ⟨⟨by rw [List.length_map]; exact h.len.1, by rw [List.length_map]; exact h.len.2, fun p hp => ?_⟩, ⟨base, h.b0, by omega, fun n hn => ?_⟩, fun n hn => ?_⟩
  · obtain ⟨w, hw, rfl⟩ := List.mem_map.mp hp
    have := h.each w hw
    refine ⟨by unfold told; rw [List.length_map]; exact this.1, by unfold told; rw [List.length_map]; exact this.2, fun x hx => ?_⟩
    obtain ⟨y, hy, rfl⟩ := List.mem_map.mp hx
    exact ⟨(red_facts h.b0).1, (red_facts h.b0).1⟩
  · obtain ⟨w, hw, x, hx, e | e⟩ := nums_told hn <;> subst e <;> exact (red_facts h.b0).2.1
  · obtain ⟨w, hw, x, hx, e | e⟩ := nums_told hn <;> subst e
    · exact top_mono (k := 380) (Nat.lt_of_le_of_lt (red_facts h.b0).2.2.2 (h.top w hw x hx).1) (by omega)
    · exact top_mono (k := 380) (Nat.lt_of_le_of_lt (red_facts h.b0).2.2.2 (h.top w hw x hx).2) (by omega)
/-- the scale, and what it leaves of the base -/
theorem gen_scale {base : Int} {rows : List (List Pt)} (h : GenOk base rows) : ∃ k : Int, 0 < k ∧ 0 < scaleM (rows.map (told base)) ∧ scaleM (rows.map (told base)) * k = base ∧
    rows = (wholesM (scaleM (rows.map (told base))) (rows.map (told base))).map (·.map (sc k)) := by
  have hc := gen_cells h
  have hb0 := h.b0
  have hpos : ∀ b ∈ (nums (rows.map (told base))).map Num.base, 0 < b ∧ b ∣ base := fun b hb => by
    obtain ⟨n, hn, rfl⟩ := List.mem_map.mp hb
    refine ⟨base_pos (nums_ok hc.ok hn), ?_⟩
    obtain ⟨w, hw, x, hx, e | e⟩ := nums_told hn <;> subst e <;> exact (red_facts h.b0).2.1
  obtain ⟨m0, k, hk⟩ := scale_fold h.b0 _ 1 (by omega) (Int.one_dvd _) hpos
  have hm := fold_mult ((nums (rows.map (told base))).map Num.base) 1 (by omega) fun b hb => (hpos b hb).1
  have m0 : 0 < scaleM (rows.map (told base)) := m0
  have hk : base = scaleM (rows.map (told base)) * k := hk
  have hm : ∀ b ∈ (nums (rows.map (told base))).map Num.base, b ∣ scaleM (rows.map (told base)) := hm.2.2
  have k0 : 0 < k := by
    by_cases c : 0 < k
    · exact c
    · have : scaleM (rows.map (told base)) * k ≤ 0 := Int.mul_nonpos_of_nonneg_of_nonpos (by omega) (by omega)
      omega
  refine ⟨k, k0, m0, hk.symm, ?_⟩
  have hdv : ∀ w ∈ rows, ∀ x ∈ w, (redM x.1 base).base ∣ scaleM (rows.map (told base)) ∧ (redM x.2 base).base ∣ scaleM (rows.map (told base)) := fun w hw x hx => by
    obtain ⟨n1, n2⟩ := mem_nums (List.mem_map_of_mem (f := told base) hw) (List.mem_map_of_mem (f := fun x : Pt => (redM x.1 base, redM x.2 base)) hx)
    exact ⟨hm _ (List.mem_map_of_mem n1), hm _ (List.mem_map_of_mem n2)⟩
  generalize scaleM (rows.map (told base)) = m at *
  unfold wholesM
  rw [List.map_map, List.map_map]
  conv => lhs; rw [← List.map_id rows]
  refine List.map_congr_left fun w hw => ?_
  show w = List.map (sc k) (List.map (fun x => (wholeM m x.1, wholeM m x.2)) (told base w))
  unfold told
  rw [List.map_map, List.map_map]
  conv => lhs; rw [← List.map_id w]
  refine List.map_congr_left fun x hx => ?_
  show x = (wholeM m (redM x.1 base) * k, wholeM m (redM x.2 base) * k)
  rw [whole_red hb0 k0 m0 hk.symm (hdv w hw x hx).1, whole_red hb0 k0 m0 hk.symm (hdv w hw x hx).2]
theorem fold_top {K : Int} (hK : 0 < K) : ∀ (bs : List Int) (m : Int), 0 < m → (∀ b ∈ bs, 0 < b ∧ b ≤ K) → bs.foldl lcmS m ≤ m * K ^ bs.length
  | [], m, _, _ => by simp
  | b :: bs, m, hm, h => by
    obtain ⟨h1, h2⟩ := h b List.mem_cons_self
    have p := lcm_pos hm h1
    have ih := fold_top hK bs (lcmS m b) p fun c hc => h c (List.mem_cons_of_mem _ hc)
    have d : lcmS m b ≤ m * b := Int.le_of_dvd (Int.mul_pos hm h1) (lcmS_dvd (B := m * b) hm h1 (Int.dvd_mul_right ..) (Int.dvd_mul_left ..)).2
    have d2 : lcmS m b ≤ m * K := Int.le_trans d (Int.mul_le_mul_of_nonneg_left h2 (by omega))
    rw [List.foldl_cons, List.length_cons, Int.pow_succ, Int.mul_comm (K ^ bs.length), ← Int.mul_assoc]
    exact Int.le_trans ih (Int.mul_le_mul_of_nonneg_right d2 (Int.le_of_lt (Int.pow_pos hK)))
theorem ysOf_mem {ws : List (List Pt)} {w : List Pt} {p : Pt} (hw : w ∈ ws) (hp : p ∈ w) : p.2 ∈ ysOf ws := List.mem_flatMap.mpr ⟨w, hw, List.mem_map_of_mem hp⟩
theorem mem_ysOf {ws : List (List Pt)} {y : Int} (h : y ∈ ysOf ws) : ∃ w ∈ ws, ∃ p ∈ w, p.2 = y := by
  obtain ⟨w, hw, h⟩ := List.mem_flatMap.mp h
  obtain ⟨p, hp, e⟩ := List.mem_map.mp h
  exact ⟨w, hw, p, hp, e⟩
end K76

set_option maxHeartbeats 200000
/-! P4: the plain law of cells: all rows. -/
namespace K76
open PySem PySem.Spec PyProof.Rows L2 DL KC KL
open K78 (BoxC runs step Good cellsOf Bef mem_cells pw_good)
theorem gen_rows {base k m : Int} {rows ws : List (List Pt)} (h : GenOk base rows) (hk : 0 < k) (hm : 0 < m) (hmk : m * k = base) (hr : rows = ws.map (·.map (sc k))) (hw : WsOk ws) :
    minL (ysOf ws) ∈ ysOf ws ∧ maxL (ysOf ws) ∈ ysOf ws ∧ (∀ y ∈ ysOf ws, minL (ysOf ws) ≤ y ∧ y ≤ maxL (ysOf ws)) ∧ maxL (ysOf ws) - minL (ysOf ws) ≤ 20774 * m ∧ cntRows ws m ≤ 400 ∧ m ≤ 12 := by
  have l0 : 0 < (ysOf ws).length := (ys_len hw).2
  obtain ⟨a1, a2⟩ := minL_mem l0
  obtain ⟨b1, b2⟩ := maxL_mem l0
  have hd : maxL (ysOf ws) - minL (ysOf ws) ≤ 20774 * m := by
    obtain ⟨lo, hlo⟩ := h.low
    have key : ∀ y ∈ ysOf ws, lo ≤ y * k ∧ y * k ≤ lo + 20774 * base := fun y hy => by
      obtain ⟨w, hw, p, hp, rfl⟩ := mem_ysOf hy
      exact hlo (w.map (sc k)) (hr ▸ List.mem_map_of_mem (f := (·.map (sc k))) hw) (sc k p) (List.mem_map_of_mem hp)
    have k1 := key _ a1
    have k2 := key _ b1
    apply Int.le_of_mul_le_mul_right (a := k) ?_ hk
    rw [Int.sub_mul, Int.mul_assoc, hmk]
    omega
  have hm12 : m ≤ 12 := by
    have : m * 1 ≤ m * k := Int.mul_le_mul_of_nonneg_left (by omega) (by omega)
    have := h.b1
    omega
  refine ⟨a1, b1, fun y hy => ⟨a2 y hy, b2 y hy⟩, hd, ?_, hm12⟩
  unfold cntRows firstRow
  generalize minL (ysOf ws) = A at *
  generalize maxL (ysOf ws) = B at *
  have f1 := (firstMid_le (t := A) (c := firstMid A m) hm).mp (Int.le_refl _)
  have f2 := (firstMid_le (t := B) (c := firstMid A m + 400) hm).mpr (by
    have : (64 * (firstMid A m + 400) + 32) * m = (64 * firstMid A m + 32) * m + 25600 * m := by rw [← Int.add_mul]; congr 1; omega
    omega)
  omega
theorem gen_row {m row : Int} {ws : List (List Pt)} (hm : 0 < m) (m12 : m ≤ 12) (hw : WsOk ws) (a1 : minL (ysOf ws) ∈ ysOf ws) (b1 : maxL (ysOf ws) ∈ ysOf ws) (hb : ∀ y ∈ ysOf ws, minL (ysOf ws) ≤ y ∧ y ≤ maxL (ysOf ws)) (hd : maxL (ysOf ws) - minL (ysOf ws) ≤ 20774 * m)
    (h1 : firstRow ws m ≤ row) (h2 : row < firstRow ws m + cntRows ws m) : RowOk ws m row := by
  have szy : ∀ y ∈ ysOf ws, Sz 450 y := fun y hy => by
    obtain ⟨w, hw', p, hp, rfl⟩ := mem_ysOf hy
    exact ((hw.2.2 w hw').2.2 p hp).2
  refine ⟨?_, ?_⟩
  · have s1 := szy _ a1
    have s2 := szy _ b1
    have e1 := (firstMid_le (t := minL (ysOf ws)) (c := row) hm).mp h1
    have e2 : ¬ maxL (ysOf ws) ≤ (64 * row + 32) * m := fun z => by
      have := (firstMid_le hm).mpr z
      unfold cntRows at h2
      omega
    generalize minL (ysOf ws) = A at *
    generalize maxL (ysOf ws) = B at *
    unfold Sz at *
    have h3 : ((64 * row + 32) * m).natAbs < 2 ^ 450 := by
      generalize (2 : Nat) ^ 450 = N at *
      generalize (64 * row + 32) * m = X at *
      omega
    rw [Int.natAbs_mul] at h3
    have h4 : (64 * row + 32).natAbs * 1 ≤ (64 * row + 32).natAbs * m.natAbs := Nat.mul_le_mul_left _ (by omega)
    generalize (2 : Nat) ^ 450 = N at *
    generalize (64 * row + 32).natAbs * m.natAbs = Z at *
    omega
  · have hbase : ∀ b ∈ (crossM ws m row).map (·.2.1), 0 < b ∧ b ≤ 4194303 := fun b hb' => by
      obtain ⟨r, hr, rfl⟩ := List.mem_map.mp hb'
      obtain ⟨w, hw', a, ha, c, hc, he⟩ := cross_mem hr
      obtain ⟨way, hway, hpos, rfl, _⟩ := cross_one he
      have y1 := hb _ (ysOf_mem hw' ha)
      have y2 := hb _ (ysOf_mem hw' hc)
      have le : (c.2 - a.2) * way ≤ 20774 * m := by rcases hway with rfl | rfl <;> omega
      dsimp only
      refine ⟨Int.mul_pos hpos hm, ?_⟩
      have := Int.mul_le_mul_of_nonneg_right le (show 0 ≤ m by omega)
      have m2 : 20774 * m * m ≤ 20774 * 12 * 12 := by
        have := Int.mul_le_mul_of_nonneg_left m12 (show 0 ≤ 20774 * m by omega)
        omega
      omega
    have hlen : ((crossM ws m row).map (·.2.1)).length ≤ 400 := by
      rw [List.length_map]
      have := cross_len (lineM m row) m ws fun w hw' => (hw.2.2 w hw').2.1
      have h4 := hw.2.1
      unfold crossM
      omega
    have ft := fold_top (K := 4194303) (by omega) ((crossM ws m row).map (·.2.1)) 1 (by omega) hbase
    have fp := fold_pos ((crossM ws m row).map (·.2.1)) 1 (by omega) fun b hb' => (hbase b hb').1
    show Sz 8800 (((crossM ws m row).map (·.2.1)).foldl lcmS 1)
    generalize ((crossM ws m row).map (·.2.1)).foldl lcmS 1 = W at *
    generalize ((crossM ws m row).map (·.2.1)).length = n at *
    unfold Sz
    rw [Int.one_mul] at ft
    have e : ((4194303 : Int) ^ n) = ((4194303 ^ n : Nat) : Int) := (Int.natCast_pow 4194303 n).symm
    rw [e] at ft
    have h1 : 4194303 ^ n ≤ 4194303 ^ 400 := Nat.pow_le_pow_right (by omega) hlen
    have h2 : 4194303 ^ 400 < 2 ^ 8800 := by
      have : (2 : Nat) ^ 8800 = (2 ^ 22) ^ 400 := by rw [← Nat.pow_mul]
      rw [this]
      exact Nat.pow_lt_pow_left (by omega) (by omega)
    generalize (4194303 : Nat) ^ 400 = M at *
    generalize (4194303 : Nat) ^ n = L at *
    generalize (2 : Nat) ^ 8800 = N at *
    omega
/-- THE CELLS of a scene hold just the places whose middles lie within -/
theorem gen_cov {base : Int} {rows : List (List Pt)} (h : GenOk base rows) (odd : Bool) : CellsOk (rows.map (told base)) ∧ RowsOk (rows.map (told base)) ∧ Good (cellsM (rows.map (told base)) odd false) ∧
    ∀ p, p ∈ cellsOf (cellsM (rows.map (told base)) odd false) ↔ withinL rows ((64 * p.2 + 32) * base) ((64 * p.1 + 32) * base) odd = true := by
  have hc := gen_cells h
  obtain ⟨k, hk, hm, hmk, hr⟩ := gen_scale h
  have hw := wholes_ok hc
  obtain ⟨a1, b1, hb, hd, hcnt, m12⟩ := gen_rows h hk hm hmk hr hw
  have hrow := fun row h1 h2 => gen_row (row := row) hm m12 hw a1 b1 hb hd h1 h2
  refine ⟨hc, ⟨hcnt, hrow⟩, ?_⟩
  unfold cellsM
  have hwi : ∀ c r : Int, withinL rows ((64 * c + 32) * base) ((64 * r + 32) * base) odd = withinL (wholesM (scaleM (rows.map (told base))) (rows.map (told base))) ((64 * c + 32) * scaleM (rows.map (told base))) ((64 * r + 32) * scaleM (rows.map (told base))) odd := fun c r => by
    have q := within_map (fun e => westT_sc (x := (64 * c + 32) * scaleM (rows.map (told base))) (y := (64 * r + 32) * scaleM (rows.map (told base))) hk e) (wholesM (scaleM (rows.map (told base))) (rows.map (told base))) odd
    rw [← hr, Int.mul_assoc, Int.mul_assoc, hmk] at q
    exact q
  simp only [hwi]
  clear hwi hr hmk h hc
  generalize scaleM (rows.map (told base)) = m at *
  generalize wholesM m (rows.map (told base)) = ws at *
  have hcov : ∀ i : Nat, i < (cntRows ws m).toNat → _ := fun i hi => row_cov (odd := odd) hw hm (by omega) (hrow (firstRow ws m + (i : Int)) (by omega) (by omega))
  refine ⟨pw_good (fun s hs => ?_) ?_, fun p => ?_⟩
  · obtain ⟨i, hi, hs⟩ := List.mem_flatMap.mp hs
    exact ((hcov i (List.mem_range.mp hi)).1 s hs).2
  · unfold cellsW
    rw [List.pairwise_flatMap]
    refine ⟨fun i hi => ?_, ?_⟩
    · obtain ⟨c1, c2, _⟩ := hcov i (List.mem_range.mp hi)
      unfold Rise at c2
      refine List.Pairwise.imp_of_mem (fun {x y} hx hy hxy => ?_) c2
      exact .inr ⟨by rw [(c1 x hx).1, (c1 y hy).1], hxy⟩
    · refine List.Pairwise.imp_of_mem (fun {i j} hi hj hij x hx y hy => ?_) List.pairwise_lt_range
      left
      rw [((hcov i (List.mem_range.mp hi)).1 x hx).1, ((hcov j (List.mem_range.mp hj)).1 y hy).1]
      omega
  · rw [mem_cells]
    constructor
    · rintro ⟨s, hs, e1, e2, e3⟩
      obtain ⟨i, hi, hs⟩ := List.mem_flatMap.mp hs
      obtain ⟨c1, _, c3⟩ := hcov i (List.mem_range.mp hi)
      rw [e1, (c1 s hs).1]
      exact (c3 p.2).mp ⟨s, hs, e2, e3⟩
    · intro hp
      by_cases lo : firstRow ws m ≤ p.1
      · by_cases hi : p.1 < firstRow ws m + cntRows ws m
        · have hi' : (p.1 - firstRow ws m).toNat < (cntRows ws m).toNat := by omega
          obtain ⟨c1, _, c3⟩ := hcov (p.1 - firstRow ws m).toNat hi'
          have e : firstRow ws m + ((p.1 - firstRow ws m).toNat : Int) = p.1 := by omega
          rw [e] at c1 c3
          obtain ⟨s, hs, e2, e3⟩ := (c3 p.2).mpr hp
          exact ⟨s, List.mem_flatMap.mpr ⟨_, List.mem_range.mpr hi', by rw [e]; exact hs⟩, (c1 s hs).1.symm, e2, e3⟩
        · exfalso
          rw [within_out odd (.inr fun w hw' q hq z => ?_)] at hp
          · cases hp
          · have g : firstMid (maxL (ysOf ws)) m ≤ p.1 := by unfold cntRows at hi; omega
            have := (firstMid_le hm).mp g
            have := hb _ (ysOf_mem hw' hq)
            omega
      · exfalso
        rw [within_out odd (.inl fun w hw' q hq => ?_)] at hp
        · cases hp
        · have g : ¬ minL (ysOf ws) ≤ (64 * p.1 + 32) * m := fun z => lo ((firstMid_le hm).mpr z)
          have := hb _ (ysOf_mem hw' hq)
          omega
end K76

set_option maxHeartbeats 200000
/-! P5: the plain law of cells: what the law asks. -/
namespace K76
open PySem PySem.Spec PyProof.Rows L2 DL KC KL
open K78 (BoxC runs step Good cellsOf Bef LtP mem_cells pw_good good_pw cells_sorted sorted_uniq runs_cells)
theorem runs_good {ss : List Spn} (h : Good ss) : runs (cellsOf ss) = ss := by
  have := runs_cells ss [] h.1 (by simpa using good_pw h)
  unfold runs
  simpa using this
theorem good_uniq {a b : List Spn} (ha : Good a) (hb : Good b) (h : ∀ p, p ∈ cellsOf a ↔ p ∈ cellsOf b) : a = b := by
  rw [← runs_good ha, ← runs_good hb, sorted_uniq (cells_sorted (good_pw ha)) (cells_sorted (good_pw hb)) h]
/-! ### a scene as drawn -/
theorem scene_gen {base : Int} {rows : List (List Pt)} (h : SceneOk 26 base rows) (b0 : 0 < base) (b1 : base ≤ 12) : GenOk base rows := by
  obtain ⟨h1, h2, h3⟩ := h
  refine ⟨b0, b1, ⟨h1, h2⟩, fun w hw => ⟨(h3 w hw).1, (h3 w hw).2.1⟩, fun w hw x hx => ?_, ⟨-250 * base * 26, fun w hw x hx => ?_⟩⟩
  · have := (h3 w hw).2.2 x hx
    exact ⟨top_small (by omega) (by omega) (by omega), top_small (by omega) (by omega) (by omega)⟩
  · have := (h3 w hw).2.2 x hx
    omega
theorem turn_eq (Y X ax ay bx bY : Int) : (Y - ay) * (bx - ax) - (X - ax) * (bY - ay) = (Y - ay) * (bx - X) + (ax - X) * (bY - Y) := by
  have e1 : bx - ax = (bx - X) - (ax - X) := by omega
  have e2 : X - ax = -(ax - X) := by omega
  have e3 : bY - ay = (Y - ay) + (bY - Y) := by omega
  rw [e1, e2, e3]
  generalize Y - ay = u
  generalize bx - X = p
  generalize ax - X = q
  generalize bY - Y = v
  rw [Int.mul_sub, Int.neg_mul, Int.mul_add, Int.mul_comm u q]
  omega
theorem west_none {X Y : Int} {e : Pt × Pt} (h1 : X < e.1.1) (h2 : X < e.2.1) : westT X Y e = none := by
  unfold westT
  by_cases h0 : decide (Y < e.1.2) = decide (Y < e.2.2)
  · rw [if_pos h0]
  rw [if_neg h0]
  dsimp only
  rw [turn_eq]
  have p1 : 0 < e.2.1 - X := by omega
  have p2 : 0 < e.1.1 - X := by omega
  generalize e.2.1 - X = p at *
  generalize e.1.1 - X = q at *
  simp only [decide_eq_decide] at h0
  rw [if_neg]
  by_cases c : Y < e.1.2
  · have u : Y - e.1.2 < 0 := by omega
    have v : e.2.2 - Y ≤ 0 := by omega
    have t1 := Int.mul_neg_of_neg_of_pos u p1
    have t2 := Int.mul_nonpos_of_nonneg_of_nonpos (show 0 ≤ q by omega) v
    have s : ¬ 0 < e.2.2 - e.1.2 := by omega
    have t3 : (Y - e.1.2) * p + q * (e.2.2 - Y) < 0 := by omega
    rintro (z | z)
    · omega
    · simp only [decide_eq_decide, t3, s] at z
      exact absurd z (by simp)
  · have u : 0 ≤ Y - e.1.2 := by omega
    have v : 0 < e.2.2 - Y := by omega
    have t1 := Int.mul_nonneg u (show 0 ≤ p by omega)
    have t2 := Int.mul_pos p2 v
    have s : 0 < e.2.2 - e.1.2 := by omega
    have t3 : ¬ (Y - e.1.2) * p + q * (e.2.2 - Y) < 0 := by omega
    rintro (z | z)
    · omega
    · simp only [decide_eq_decide, t3, s] at z
      exact absurd z (by simp)
theorem west_some {X Y : Int} {e : Pt × Pt} (h1 : e.1.1 < X) (h2 : e.2.1 < X) : westT X Y e = (crossAt Y 1 e).map (·.2.2) := by
  unfold westT crossAt
  by_cases h0 : decide (Y < e.1.2) = decide (Y < e.2.2)
  · rw [if_pos h0, if_pos h0]
    rfl
  rw [if_neg h0, if_neg h0]
  dsimp only
  rw [turn_eq]
  have p1 : e.2.1 - X < 0 := by omega
  have p2 : e.1.1 - X < 0 := by omega
  generalize e.2.1 - X = p at *
  generalize e.1.1 - X = q at *
  simp only [decide_eq_decide] at h0
  simp only [Option.map_some]
  by_cases c : Y < e.1.2
  · have u : Y - e.1.2 < 0 := by omega
    have v : e.2.2 - Y ≤ 0 := by omega
    have t1 := Int.mul_pos_of_neg_of_neg u p1
    have t2 := Int.mul_nonneg_of_nonpos_of_nonpos (show q ≤ 0 by omega) v
    have s : ¬ 0 < e.2.2 - e.1.2 := by omega
    have t3 : ¬ (Y - e.1.2) * p + q * (e.2.2 - Y) < 0 := by omega
    rw [if_pos (.inr (by simp only [t3, s])), if_neg s, if_pos (by omega)]
  · have u : 0 ≤ Y - e.1.2 := by omega
    have v : 0 < e.2.2 - Y := by omega
    have t1 := Int.mul_nonpos_of_nonneg_of_nonpos u (show p ≤ 0 by omega)
    have t2 := Int.mul_neg_of_neg_of_pos p2 v
    have s : 0 < e.2.2 - e.1.2 := by omega
    have t3 : (Y - e.1.2) * p + q * (e.2.2 - Y) < 0 := by omega
    rw [if_pos (.inr (by simp only [t3, s])), if_pos s, if_neg (by omega)]
theorem within_none {ws : List (List Pt)} {x y : Int} (odd : Bool) (e : ∀ w ∈ ws, westL w x y = []) : withinL ws x y odd = false := by
  have z : ∀ (f : List Pt → Int), (∀ w ∈ ws, f w = 0) → (ws.map f).sum = 0 := fun f hf => by
    clear e
    induction ws with
    | nil => rfl
    | cons w ws ih => rw [List.map_cons, List.sum_cons, hf w List.mem_cons_self, ih fun v hv => hf v (List.mem_cons_of_mem _ hv)]; rfl
  unfold withinL
  rw [z (fun w => ((westL w x y).length : Int)) fun w hw => by rw [e w hw]; rfl, z (fun w => (westL w x y).sum) fun w hw => by rw [e w hw]; rfl]
  cases odd <;> rfl
theorem within_west {ws : List (List Pt)} {x y : Int} (odd : Bool) (h : ∀ w ∈ ws, ∀ p ∈ w, x < p.1) : withinL ws x y odd = false :=
  within_none odd fun w hw => by
    unfold westL
    rw [List.filterMap_eq_nil_iff]
    intro e he
    obtain ⟨a, b⟩ := edgesN_mem he
    exact west_none (h w hw _ a) (h w hw _ b)
theorem within_east {ws : List (List Pt)} {x y : Int} (odd : Bool) (h : ∀ w ∈ ws, ∀ p ∈ w, p.1 < x) : withinL ws x y odd = false := by
  have e : ∀ w ∈ ws, (westL w x y).Perm (((edgesB w).filterMap (crossAt y 1)).map (·.2.2)) := fun w hw => by
    have q : westL w x y = (edgesN w).filterMap fun e => (crossAt y 1 e).map (·.2.2) := by
      unfold westL
      refine fm_congr fun e he => ?_
      obtain ⟨a, b⟩ := edgesN_mem he
      exact west_some (h w hw _ a) (h w hw _ b)
    rw [q, List.map_filterMap]
    exact (edges_perm w).symm.filterMap _
  have s0 : ∀ w ∈ ws, (westL w x y).sum = 0 := fun w hw => by rw [sum_perm (e w hw), closed]
  have s1 : ∀ w ∈ ws, ∃ k : Int, ((westL w x y).length : Int) = 2 * k := fun w hw => by
    obtain ⟨k, hk⟩ := par_len (westL w x y) fun z hz => by
      obtain ⟨r, hr, rfl⟩ := List.mem_map.mp ((e w hw).mem_iff.mp hz)
      obtain ⟨ed, _, he⟩ := List.mem_filterMap.mp hr
      obtain ⟨way, hw', _, rfl, _⟩ := cross_one (a := ed.1) (b := ed.2) he
      exact hw'
    rw [s0 w hw] at hk
    exact ⟨k, by omega⟩
  have z0 : (ws.map fun w => (westL w x y).sum).sum = 0 := by
    clear e s1 h
    induction ws with
    | nil => rfl
    | cons w ws ih => rw [List.map_cons, List.sum_cons, s0 w List.mem_cons_self, ih fun v hv => s0 v (List.mem_cons_of_mem _ hv)]; rfl
  obtain ⟨k, z1⟩ : ∃ k : Int, (ws.map fun w => ((westL w x y).length : Int)).sum = 2 * k := by
    clear e s0 h z0
    induction ws with
    | nil => exact ⟨0, rfl⟩
    | cons w ws ih =>
      obtain ⟨k, hk⟩ := ih fun v hv => s1 v (List.mem_cons_of_mem _ hv)
      obtain ⟨j, hj⟩ := s1 w List.mem_cons_self
      exact ⟨j + k, by rw [List.map_cons, List.sum_cons, hk, hj]; omega⟩
  unfold withinL
  rw [z0, z1]
  cases odd with
  | true =>
    simp only [if_true, decide_eq_false_iff_not]
    rw [Int.fmod_eq_emod_of_nonneg _ (by omega)]
    omega
  | false => simp
theorem range_mem {lo hi x : Int} : x ∈ ((List.range (hi - lo).toNat).map fun k : Nat => lo + (k : Int)) ↔ lo ≤ x ∧ x < hi := by
  rw [List.mem_map]
  constructor
  · rintro ⟨k, hk, rfl⟩
    have := List.mem_range.mp hk
    omega
  · intro ⟨h1, h2⟩
    exact ⟨(x - lo).toNat, List.mem_range.mpr (by omega), by omega⟩
theorem range_sorted {lo hi : Int} : ((List.range (hi - lo).toNat).map fun k : Nat => lo + (k : Int)).Pairwise (· < ·) := by
  rw [List.pairwise_map]
  exact List.Pairwise.imp (fun {a b} h => by omega) List.pairwise_lt_range
theorem due_sorted (rows : List (List Pt)) (base : Int) (odd : Bool) : (dueCells rows base odd).Pairwise LtP := by
  unfold dueCells
  rw [List.pairwise_flatMap]
  refine ⟨fun r hr => ?_, ?_⟩
  · rw [List.pairwise_map]
    refine List.Pairwise.imp (fun {a b} h => .inr ⟨rfl, h⟩) (List.Pairwise.filter _ range_sorted)
  · refine List.Pairwise.imp (fun {a b} h x hx y hy => ?_) range_sorted
    obtain ⟨c, _, rfl⟩ := List.mem_map.mp hx
    obtain ⟨d, _, rfl⟩ := List.mem_map.mp hy
    exact .inl h
theorem due_mem {base : Int} {rows : List (List Pt)} (h : SceneOk 26 base rows) (b0 : 0 < base) (b1 : base ≤ 12) (odd : Bool) (p : Pt) : p ∈ dueCells rows base odd ↔ withinL rows ((64 * p.2 + 32) * base) ((64 * p.1 + 32) * base) odd = true := by
  obtain ⟨f1, f2, f3⟩ := scene_flat h
  have l1 : 0 < (xsL rows).length := by unfold xsL; rw [List.length_map]; exact f1
  have l2 : 0 < (ysL rows).length := by unfold ysL; rw [List.length_map]; exact f1
  have a1 := (minL_mem l1).2
  have a2 := (maxL_mem l1).2
  have a3 := (minL_mem l2).2
  have a4 := (maxL_mem l2).2
  have hx : ∀ w ∈ rows, ∀ q ∈ w, q.1 ∈ xsL rows := fun w hw q hq => List.mem_map_of_mem (List.mem_flatten.mpr ⟨w, hw, hq⟩)
  have hy : ∀ w ∈ rows, ∀ q ∈ w, q.2 ∈ ysL rows := fun w hw q hq => List.mem_map_of_mem (f := fun p : Pt => p.2) (List.mem_flatten.mpr ⟨w, hw, hq⟩)
  have d1 := fdiv64 (x := minL (xsL rows)) b0
  have d2 := fdiv64 (x := maxL (xsL rows)) b0
  have d3 := fdiv64 (x := minL (ysL rows)) b0
  have d4 := fdiv64 (x := maxL (ysL rows)) b0
  have lowp : ∀ (f c : Int), c < f - 1 → (64 * c + 32) * base < 64 * base * f := fun f c hc => by
    have e : 64 * base * f = 64 * f * base := by rw [Int.mul_right_comm]
    rw [e]
    exact Int.mul_lt_mul_of_pos_right (by omega) b0
  have highp : ∀ (f c : Int), f + 2 ≤ c → 64 * base * (f + 1) < (64 * c + 32) * base := fun f c hc => by
    have e : 64 * base * (f + 1) = 64 * (f + 1) * base := by rw [Int.mul_right_comm]
    rw [e]
    exact Int.mul_lt_mul_of_pos_right (by omega) b0
  unfold dueCells
  rw [List.mem_flatMap]
  constructor
  · rintro ⟨r, hr, hp⟩
    obtain ⟨c, hc, rfl⟩ := List.mem_map.mp hp
    exact (List.mem_filter.mp hc).2
  · intro hw
    refine ⟨p.1, range_mem.mpr ?_, List.mem_map.mpr ⟨p.2, List.mem_filter.mpr ⟨range_mem.mpr ?_, hw⟩, rfl⟩⟩
    · constructor
      · apply Classical.byContradiction
        intro z
        rw [within_out odd (.inl fun w hw' q hq => ?_)] at hw
        · cases hw
        · have t1 := lowp ((minL (ysL rows)).fdiv (64 * base)) p.1 (by omega)
          have t2 := a3 _ (hy w hw' q hq)
          omega
      · apply Classical.byContradiction
        intro z
        rw [within_out odd (.inr fun w hw' q hq => ?_)] at hw
        · cases hw
        · have t1 := highp ((maxL (ysL rows)).fdiv (64 * base)) p.1 (by omega)
          have t2 := a4 _ (hy w hw' q hq)
          omega
    · constructor
      · apply Classical.byContradiction
        intro z
        rw [within_west odd fun w hw' q hq => ?_] at hw
        · cases hw
        · have t1 := lowp ((minL (xsL rows)).fdiv (64 * base)) p.2 (by omega)
          have t2 := a1 _ (hx w hw' q hq)
          omega
      · apply Classical.byContradiction
        intro z
        rw [within_east odd fun w hw' q hq => ?_] at hw
        · cases hw
        · have t1 := highp ((maxL (xsL rows)).fdiv (64 * base)) p.2 (by omega)
          have t2 := a2 _ (hx w hw' q hq)
          omega
/-- WHAT IS DUE are the cells -/
theorem due_eq {base : Int} {rows : List (List Pt)} (h : SceneOk 26 base rows) (b0 : 0 < base) (b1 : base ≤ 12) (odd : Bool) : cellsM (rows.map (told base)) odd false = dueM rows base odd := by
  obtain ⟨_, _, g, m⟩ := gen_cov (scene_gen h b0 b1) odd
  unfold dueM
  rw [sorted_uniq (due_sorted rows base odd) (cells_sorted (good_pw g)) fun p => by rw [due_mem h b0 b1, m], runs_good g]
/-! ### the rows turned about -/
theorem gen_rev {base : Int} {rows : List (List Pt)} (h : GenOk base rows) : GenOk base rows.reverse := by
  refine ⟨h.b0, h.b1, by rw [List.length_reverse]; exact h.len, fun w hw => h.each w (List.mem_reverse.mp hw), fun w hw => h.top w (List.mem_reverse.mp hw), ?_⟩
  obtain ⟨lo, hl⟩ := h.low
  exact ⟨lo, fun w hw => hl w (List.mem_reverse.mp hw)⟩
theorem rev_eq {base : Int} {rows : List (List Pt)} (h : GenOk base rows) (odd : Bool) : cellsM (rows.reverse.map (told base)) odd false = cellsM (rows.map (told base)) odd false := by
  obtain ⟨_, _, g1, m1⟩ := gen_cov h odd
  obtain ⟨_, _, g2, m2⟩ := gen_cov (gen_rev h) odd
  refine good_uniq g2 g1 fun p => ?_
  rw [m1, m2]
  unfold withinL
  rw [sum_perm ((List.reverse_perm rows).map fun w => ((westL w _ _).length : Int)), sum_perm ((List.reverse_perm rows).map fun w => (westL w _ _).sum)]
/-! ### moved by whole cells -/
def moved (base a b : Int) (rows : List (List Pt)) : List (List Pt) := rows.map (·.map (sh (64 * a * base) (64 * b * base)))
def mv (a b : Int) (s : Spn) : Spn := (s.1 + b, s.2.1 + a, s.2.2 + a)
theorem gen_mv {base a b : Int} {rows : List (List Pt)} (h : GenOk base rows) (hs : ∀ w ∈ rows, ∀ x ∈ w, Sz 100 x.1 ∧ Sz 100 x.2) (ha : Sz 100 a) (hb : Sz 100 b) : GenOk base (moved base a b rows) := by
  have hb12 := h.b1
  have hb0 := h.b0
  have szb : Sz 20 base := top_small (by omega) (by omega) (by omega)
  have sz64 : Sz 20 64 := top_small (by omega) (by omega) (by omega)
  refine ⟨h.b0, h.b1, by unfold moved; rw [List.length_map]; exact h.len, fun w hw => ?_, fun w hw => ?_, ?_⟩
  · obtain ⟨v, hv, rfl⟩ := List.mem_map.mp hw
    rw [List.length_map]
    exact h.each v hv
  · obtain ⟨v, hv, rfl⟩ := List.mem_map.mp hw
    intro x hx
    obtain ⟨y, hy, rfl⟩ := List.mem_map.mp hx
    exact ⟨top_add (hs v hv y hy).1 (top_prod (top_prod sz64 ha) szb) (by omega) (by omega), top_add (hs v hv y hy).2 (top_prod (top_prod sz64 hb) szb) (by omega) (by omega)⟩
  · obtain ⟨lo, hl⟩ := h.low
    refine ⟨lo + 64 * b * base, fun w hw x hx => ?_⟩
    obtain ⟨v, hv, rfl⟩ := List.mem_map.mp hw
    obtain ⟨y, hy, rfl⟩ := List.mem_map.mp hx
    have := hl v hv y hy
    unfold sh
    dsimp only
    omega
theorem mv_good {a b : Int} {ss : List Spn} (h : Good ss) : Good (ss.map (mv a b)) := by
  refine pw_good (fun s hs => ?_) ?_
  · obtain ⟨t, ht, rfl⟩ := List.mem_map.mp hs
    have := h.1 t ht
    show t.2.1 + a < t.2.2 + a
    omega
  · rw [List.pairwise_map]
    refine List.Pairwise.imp (fun {s t} hst => ?_) (good_pw h)
    unfold Bef mv at *
    dsimp only
    omega
theorem mv_eq {base a b : Int} {rows : List (List Pt)} (h : GenOk base rows) (hs : ∀ w ∈ rows, ∀ x ∈ w, Sz 100 x.1 ∧ Sz 100 x.2) (ha : Sz 100 a) (hb : Sz 100 b) (odd : Bool) : cellsM ((moved base a b rows).map (told base)) odd false = (cellsM (rows.map (told base)) odd false).map (mv a b) := by
  obtain ⟨_, _, g1, m1⟩ := gen_cov h odd
  obtain ⟨_, _, g2, m2⟩ := gen_cov (gen_mv h hs ha hb) odd
  refine good_uniq g2 (mv_good g1) fun p => ?_
  rw [m2]
  have e1 : (64 * p.2 + 32) * base = (64 * (p.2 - a) + 32) * base + 64 * a * base := by rw [← Int.add_mul]; congr 1; omega
  have e2 : (64 * p.1 + 32) * base = (64 * (p.1 - b) + 32) * base + 64 * b * base := by rw [← Int.add_mul]; congr 1; omega
  have e3 : withinL (moved base a b rows) ((64 * p.2 + 32) * base) ((64 * p.1 + 32) * base) odd = withinL rows ((64 * (p.2 - a) + 32) * base) ((64 * (p.1 - b) + 32) * base) odd := by
    rw [e1, e2]
    exact within_map (fun e => westT_sh e) rows odd
  rw [e3, ← m1 (p.1 - b, p.2 - a), mem_cells, mem_cells]
  constructor
  · rintro ⟨s, hs, h1, h2, h3⟩
    dsimp only at h1 h2 h3
    exact ⟨mv a b s, List.mem_map_of_mem hs, by show p.1 = s.1 + b; omega, by show s.2.1 + a ≤ p.2; omega, by show p.2 < s.2.2 + a; omega⟩
  · rintro ⟨s, hs, h1, h2, h3⟩
    obtain ⟨t, ht, rfl⟩ := List.mem_map.mp hs
    have h1 : p.1 = t.1 + b := h1
    have h2 : t.2.1 + a ≤ p.2 := h2
    have h3 : p.2 < t.2.2 + a := h3
    exact ⟨t, ht, by show p.1 - b = t.1; omega, by show t.2.1 ≤ p.2 - a; omega, by show p.2 - a < t.2.2; omega⟩
/-! ### the strip -/
def stripM (w r : Int) : List Pt := [(0, 64 * r), (w, 64 * r), (w, 64 * r + 64), (0, 64 * r + 64)]
theorem gen_strip {w r : Int} (hw : Sz 370 w) (hr : -100 ≤ r) (hr2 : r ≤ 100) : GenOk 1 [stripM w r] := by
  refine ⟨by omega, by omega, ⟨by simp, by simp⟩, fun v hv => ?_, fun v hv x hx => ?_, ⟨64 * r, fun v hv x hx => ?_⟩⟩
  · simp only [List.mem_cons, List.not_mem_nil, or_false] at hv
    subst hv
    exact ⟨by simp [stripM], by simp [stripM]⟩
  · simp only [List.mem_cons, List.not_mem_nil, or_false] at hv
    subst hv
    have z1 : Sz 380 (0 : Int) := top_small (by omega) (by omega) (by omega)
    have z2 : Sz 380 (64 * r) := top_small (by omega) (by omega) (by omega)
    have z3 : Sz 380 (64 * r + 64) := top_small (by omega) (by omega) (by omega)
    have z4 : Sz 380 w := top_mono hw (by omega)
    simp only [stripM, List.mem_cons, List.not_mem_nil, or_false] at hx
    rcases hx with rfl | rfl | rfl | rfl
    · exact ⟨z1, z2⟩
    · exact ⟨z4, z2⟩
    · exact ⟨z4, z3⟩
    · exact ⟨z1, z3⟩
  · simp only [List.mem_cons, List.not_mem_nil, or_false] at hv
    subst hv
    simp only [stripM, List.mem_cons, List.not_mem_nil, or_false] at hx
    rcases hx with rfl | rfl | rfl | rfl <;> dsimp only <;> omega
theorem strip_within {q r c z : Int} (hq : 0 < q) : withinL [stripM (64 * q) r] (64 * c + 32) (64 * z + 32) false = true ↔ z = r ∧ 0 ≤ c ∧ c < q := by
  have e : edgesN (stripM (64 * q) r) = [((0, 64 * r), (64 * q, 64 * r)), ((64 * q, 64 * r), (64 * q, 64 * r + 64)), ((64 * q, 64 * r + 64), (0, 64 * r + 64)), ((0, 64 * r + 64), (0, 64 * r))] := rfl
  unfold withinL
  simp only [Bool.false_eq_true, if_false, List.map_cons, List.map_nil, List.sum_cons, List.sum_nil]
  unfold westL
  rw [e]
  have w1 : westT (64 * c + 32) (64 * z + 32) ((0, 64 * r), (64 * q, 64 * r)) = none := by unfold westT; rw [if_pos rfl]
  have w3 : westT (64 * c + 32) (64 * z + 32) ((64 * q, 64 * r + 64), (0, 64 * r + 64)) = none := by unfold westT; rw [if_pos rfl]
  by_cases hz : z = r
  · subst hz
    have w2 : westT (64 * c + 32) (64 * z + 32) ((64 * q, 64 * z), (64 * q, 64 * z + 64)) = if q ≤ c then some 1 else none := by
      unfold westT
      dsimp only
      rw [if_neg (by simp only [decide_eq_decide]; omega)]
      have h1 : 64 * z + 64 - 64 * z = 64 := by omega
      have h2 : (64 * z + 32 - 64 * z) * (64 * q - 64 * q) - (64 * c + 32 - 64 * q) * (64 * z + 64 - 64 * z) = -(64 * c + 32 - 64 * q) * 64 := by
        rw [h1, Int.sub_self, Int.mul_zero]
        omega
      rw [h2, h1]
      by_cases hc : q ≤ c
      · rw [if_pos hc, if_pos (.inr (by simp; omega))]
        rfl
      · rw [if_neg hc, if_neg]
        simp
        omega
    have w4 : westT (64 * c + 32) (64 * z + 32) ((0, 64 * z + 64), (0, 64 * z)) = if 0 ≤ c then some (-1) else none := by
      unfold westT
      dsimp only
      rw [if_neg (by simp only [decide_eq_decide]; omega)]
      have h1 : 64 * z - (64 * z + 64) = -64 := by omega
      have h2 : (64 * z + 32 - (64 * z + 64)) * (0 - 0) - (64 * c + 32 - 0) * (64 * z - (64 * z + 64)) = (64 * c + 32) * 64 := by
        rw [h1, Int.sub_self, Int.mul_zero]
        omega
      rw [h2, h1]
      by_cases hc : 0 ≤ c
      · rw [if_pos hc, if_pos (.inr (by simp; omega))]
        rfl
      · rw [if_neg hc, if_neg]
        simp
        omega
    rw [List.filterMap_cons, w1, List.filterMap_cons, w2, List.filterMap_cons, w3, List.filterMap_cons, w4]
    by_cases h1 : q ≤ c <;> by_cases h2 : 0 ≤ c <;> simp [h1, h2] <;> omega
  · have w2 : westT (64 * c + 32) (64 * z + 32) ((64 * q, 64 * r), (64 * q, 64 * r + 64)) = none := by
      unfold westT
      dsimp only
      rw [if_pos (by simp only [decide_eq_decide]; omega)]
    have w4 : westT (64 * c + 32) (64 * z + 32) ((0, 64 * r + 64), (0, 64 * r)) = none := by
      unfold westT
      dsimp only
      rw [if_pos (by simp only [decide_eq_decide]; omega)]
    rw [List.filterMap_cons, w1, List.filterMap_cons, w2, List.filterMap_cons, w3, List.filterMap_cons, w4]
    simp [hz]
theorem strip_eq {q r : Int} (hq : 0 < q) (hw : Sz 370 (64 * q)) (hr : -100 ≤ r) (hr2 : r ≤ 100) : cellsM [told 1 (stripM (64 * q) r)] false false = [(r, 0, q)] := by
  obtain ⟨_, _, g1, m1⟩ := gen_cov (gen_strip hw hr hr2) false
  have g2 : Good [((r, 0, q) : Spn)] := ⟨fun s hs => by simp only [List.mem_cons, List.not_mem_nil, or_false] at hs; subst hs; exact hq, trivial⟩
  refine good_uniq g1 g2 fun p => ?_
  rw [show p ∈ cellsOf (cellsM [told 1 (stripM (64 * q) r)] false false) ↔ _ from m1 p, Int.mul_one, Int.mul_one, strip_within hq, mem_cells]
  simp
end K76

set_option maxHeartbeats 200000
/-! P6: texts of nested data; small things for the law. -/
namespace K76
open PySem PySem.Spec PyProof.Rows L2 DL KC KL
open K78 (BoxC runs step Good cellsOf ok_app ok_of ok_join ok_list ok_int)
structure Prt (n : Nat) (d : D) : Prop where
  short : PyData.leavesShort 30 d.pd = true
  show_ : PyData.showable d.pd = true
  bulk : PyData.bulk d.pd ≤ n
  ok : PyData.strOk (PyData.shown d.pd) = true
theorem prt_int {i : Int} (h : i.natAbs < 10 ^ 25) : Prt 0 (.int i) := by
  refine ⟨?_, ?_, ?_, ok_int i⟩
  · have := int_text_length_le10 (k := 25) (by omega) h
    have e : (PyData.shown (.int i)).length = (toString i).length := by
      show (Str.ofString (toString i)).length = _
      rw [PySem.ofString_length]
    simp only [D.pd, PyData.leavesShort, decide_eq_true_eq, e]
    omega
  · simp only [D.pd, PyData.showable, decide_eq_true_eq]
    by_cases h0 : i.natAbs = 0
    · rw [h0]; decide
    · rw [Nat.log2_lt h0]
      refine Nat.lt_of_lt_of_le h ?_
      generalize hn : (1920 : Nat) = n
      exact Nat.le_trans (show 10 ^ 25 ≤ 2 ^ 100 by decide) (Nat.pow_le_pow_right (by omega) (by omega))
  · simp only [D.pd, PyData.bulk]
    omega
theorem prt_all {n : Nat} : ∀ {ds : List D}, (∀ d ∈ ds, Prt n d) → PyData.leavesShortAll 30 (pds ds) = true ∧ PyData.showableAll (pds ds) = true ∧ PyData.bulkAll (pds ds) ≤ (n + 1) * ds.length ∧ ∀ t ∈ PyData.shownAll (pds ds), PyData.strOk t = true
  | [], _ => ⟨rfl, rfl, by simp [pds, PyData.bulkAll], by simp [pds, PyData.shownAll]⟩
  | d :: ds, h => by
    obtain ⟨a, b, c, e⟩ := prt_all (ds := ds) fun t ht => h t (List.mem_cons_of_mem _ ht)
    obtain ⟨h1, h2, h3, h4⟩ := h d List.mem_cons_self
    refine ⟨?_, ?_, ?_, ?_⟩
    · simp only [pds, PyData.leavesShortAll, Bool.and_eq_true]
      exact ⟨h1, a⟩
    · simp only [pds, PyData.showableAll, Bool.and_eq_true]
      exact ⟨h2, b⟩
    · simp only [pds, PyData.bulkAll, List.length_cons, Nat.mul_succ]
      omega
    · intro t ht
      simp only [pds, PyData.shownAll, List.mem_cons] at ht
      rcases ht with rfl | ht
      · exact h4
      · exact e t ht
theorem prt_lst {n m : Nat} {ds : List D} (h : ∀ d ∈ ds, Prt n d) (hm : (n + 1) * ds.length ≤ m) : Prt m (.lst ds) := by
  obtain ⟨a, b, c, e⟩ := prt_all h
  refine ⟨by simpa only [D.pd, PyData.leavesShort] using a, by simpa only [D.pd, PyData.showable] using b, ?_, ?_⟩
  · simp only [D.pd, PyData.bulk]
    omega
  · simp only [D.pd, PyData.shown]
    exact ok_list _ e
theorem prt_tup {n m : Nat} {ds : List D} (h : ∀ d ∈ ds, Prt n d) (hm : (n + 1) * ds.length ≤ m) : Prt m (.tup ds) := by
  obtain ⟨a, b, c, e⟩ := prt_all h
  refine ⟨by simpa only [D.pd, PyData.leavesShort] using a, by simpa only [D.pd, PyData.showable] using b, ?_, ?_⟩
  · simp only [D.pd, PyData.bulk]
    omega
  · simp only [D.pd, PyData.shown, tupleText]
    rw [ok_app, ok_app, ok_of]
    have q : ∀ ts : List Str, (∀ t ∈ ts, PyData.strOk t = true) → PyData.strOk (Str.join ", " ts) = true := fun ts hts => by
      cases ts with
      | nil => decide +kernel
      | cons t ts => exact ok_join _ (ok_of _) ts t (hts t List.mem_cons_self) fun v hv => hts v (List.mem_cons_of_mem _ hv)
    rw [q _ e]
    split <;> rw [ok_of] <;> rfl
theorem prt_len {n : Nat} {d : D} (h : Prt n d) (hn : n ≤ 500000) : d.pd.shown.length ≤ sizeLine := by
  have := PyData.shown_le_bulk 30 (by omega) d.pd h.short
  have h2 := h.bulk
  rw [sizeLine_eq]
  omega
theorem repr_of {n : Nat} {d e : D} {xs : List D} {S : Sto} {Q : QD} (hs : seqOf S d = some xs) (he : der S d = e) (hf : fit 60 e = true) (h : Prt n e) (hn : n ≤ 500000) (q : Q (.str e.pd.shown) S) : rdRepr [d] S Q := by
  unfold rdRepr
  refine as1_iff.mpr ⟨d, rfl, withO_iff.mpr ⟨xs, hs, ?_⟩⟩
  rw [he]
  exact ⟨hf, h.show_, prt_len h hn, q⟩
theorem prt_span {s : Spn} (h : s.1.natAbs < 10 ^ 25 ∧ s.2.1.natAbs < 10 ^ 25 ∧ s.2.2.natAbs < 10 ^ 25) : Prt 3 (spanD s) := by
  refine prt_tup (n := 0) (fun d hd => ?_) (by simp)
  simp only [List.mem_cons, List.not_mem_nil, or_false] at hd
  rcases hd with rfl | rfl | rfl
  · exact prt_int h.1
  · exact prt_int h.2.1
  · exact prt_int h.2.2
theorem prt_spans {ss : List Spn} (h : ∀ s ∈ ss, s.1.natAbs < 10 ^ 25 ∧ s.2.1.natAbs < 10 ^ 25 ∧ s.2.2.natAbs < 10 ^ 25) : Prt (4 * ss.length) (.lst (ss.map spanD)) := by
  refine prt_lst (n := 3) (fun d hd => ?_) (by rw [List.length_map]; omega)
  obtain ⟨s, hs, rfl⟩ := List.mem_map.mp hd
  exact prt_span (h s hs)
theorem prt_num {x base : Int} (b0 : 0 < base) (b1 : base ≤ 12) (h : x.natAbs < 10 ^ 25) : Prt 2 (numD (redM x base)) := by
  obtain ⟨h1, h2, h3, h4⟩ := red_facts (x := x) b0
  have hb := Int.le_of_dvd b0 h2
  generalize redM x base = n at *
  cases n with
  | i t =>
    have := prt_int (i := t) (Nat.lt_of_le_of_lt h4 h)
    exact ⟨this.short, this.show_, Nat.le_trans this.bulk (by omega), this.ok⟩
  | q t b =>
    have hb : b ≤ base := hb
    have hb1 : 1 < b := h1.1
    refine prt_tup (n := 0) (fun d hd => ?_) (by simp)
    simp only [List.mem_cons, List.not_mem_nil, or_false] at hd
    rcases hd with rfl | rfl
    · exact prt_int (Nat.lt_of_le_of_lt h4 h)
    · exact prt_int (by omega)
theorem prt_parts {rows : List (List Pt)} {base : Int} (b0 : 0 < base) (b1 : base ≤ 12) (h1 : rows.length ≤ 4) (h2 : ∀ w ∈ rows, w.length ≤ 100 ∧ ∀ x ∈ w, x.1.natAbs < 10 ^ 25 ∧ x.2.natAbs < 10 ^ 25) : Prt 10000 (partsD true true (rows.map (told base))) := by
  refine prt_lst (n := 1000) (fun d hd => ?_) (by simp only [List.length_map]; omega)
  obtain ⟨p, hp, rfl⟩ := List.mem_map.mp hd
  obtain ⟨w, hw, rfl⟩ := List.mem_map.mp hp
  obtain ⟨l1, l2⟩ := h2 w hw
  refine prt_lst (n := 6) (fun d hd => ?_) (by simp only [told, List.length_map]; omega)
  obtain ⟨x, hx, rfl⟩ := List.mem_map.mp hd
  obtain ⟨y, hy, rfl⟩ := List.mem_map.mp hx
  refine prt_tup (n := 2) (fun d hd => ?_) (by simp)
  simp only [List.mem_cons, List.not_mem_nil, or_false] at hd
  rcases hd with rfl | rfl
  · exact prt_num b0 b1 (l2 y hy).1
  · exact prt_num b0 b1 (l2 y hy).2
theorem fit_num (n : Num) : fit 2 (numD n) = true := by cases n <;> simp [numD, fit, fits]
theorem fit_parts (ps : List (List Plc)) : fit 60 (partsD true true ps) = true := by
  refine fit_mono (n := 5) (by omega) ?_
  simp only [partsD, mkD, fit]
  refine fits_map (fun p => ?_) ps
  simp only [partD, mkD, fit]
  refine fits_map (fun x => ?_) p
  simp only [plcD, fit, fits, Bool.and_true, Bool.and_eq_true]
  exact ⟨fit_num _, fit_num _⟩
/-- the strip's width -/
theorem wide_text {k : Int} (h0 : 0 ≤ k) (h1 : k < 44) : ∃ q : Int, 0 < q ∧ Sz 370 (64 * q) ∧ (64 * q).fdiv 64 = q ∧ (("1000000" : Str) ++ Txt.mul "0" k).length ≤ 640 ∧ PySem.intText? (("1000000" : Str) ++ Txt.mul "0" k) = some (64 * q) := by
  obtain ⟨n, rfl⟩ := Int.eq_ofNat_of_zero_le h0
  have hn : n < 44 := by omega
  have key : ∀ j ∈ List.range 44, (("1000000" : Str) ++ Txt.mul "0" (j : Int)).length ≤ 640 ∧ PySem.intText? (("1000000" : Str) ++ Txt.mul "0" (j : Int)) = some (64 * (15625 * 10 ^ j)) := by decide +kernel
  obtain ⟨k1, k2⟩ := key n (List.mem_range.mpr hn)
  have p : 0 < (10 : Int) ^ n := Int.pow_pos (by omega)
  refine ⟨15625 * 10 ^ n, by omega, ?_, ?_, k1, k2⟩
  · unfold Sz
    have e : (64 * (15625 * (10 : Int) ^ n)) = ((64 * (15625 * 10 ^ n) : Nat) : Int) := by push_cast; rfl
    rw [e, Int.natAbs_natCast]
    have h2 : 10 ^ n ≤ 10 ^ 44 := Nat.pow_le_pow_right (by omega) (by omega)
    have h3 : 64 * (15625 * 10 ^ 44) < 2 ^ 200 := by decide
    have h4 : 2 ^ 200 ≤ 2 ^ 370 := Nat.pow_le_pow_right (by omega) (by omega)
    generalize (2 : Nat) ^ 370 = B at *
    generalize (2 : Nat) ^ 200 = A at *
    omega
  · rw [Int.fdiv_eq_ediv_of_nonneg _ (by omega)]
    omega
theorem mul_ok {k : Int} (h0 : 0 ≤ k) (h1 : k < 44) : MulOk "0" k ∧ (("1000000" : Str)).length + (Txt.mul "0" k).length ≤ sizeLine := by
  obtain ⟨n, rfl⟩ := Int.eq_ofNat_of_zero_le h0
  have key : ∀ j ∈ List.range 44, MulOk "0" (j : Int) ∧ (("1000000" : Str)).length + (Txt.mul "0" (j : Int)).length ≤ 16000000 := by
    unfold MulOk
    decide +kernel
  obtain ⟨k1, k2⟩ := key n (List.mem_range.mpr (by omega))
  exact ⟨k1, by rw [sizeLine_eq]; omega⟩
theorem pick4 {a b c e i : Int} {k : D → Prop} (h0 : 0 ≤ i) (h1 : i < 4) (h : ∀ z, (z = a ∨ z = b ∨ z = c ∨ z = e) → k (.int z)) : withO ((ixN 4 i).bind fun j => [D.int a, D.int b, D.int c, D.int e][j]?) k := by
  have : i = 0 ∨ i = 1 ∨ i = 2 ∨ i = 3 := by omega
  rcases this with rfl | rfl | rfl | rfl <;> exact h _ (by simp)
theorem cells_len {ss : List Spn} (h : ∀ s ∈ ss, s.2.1 < s.2.2) : ss.length ≤ (cellsOf ss).length := by
  induction ss with
  | nil => simp
  | cons s ss ih =>
    have h1 := h s List.mem_cons_self
    have h2 := ih fun t ht => h t (List.mem_cons_of_mem _ ht)
    unfold cellsOf at *
    simp only [List.flatMap_cons, List.length_append, List.length_map, List.length_range, List.length_cons]
    omega
theorem mem_runs_cells {ss : List Spn} {s : Spn} (hs : s ∈ ss) (h : s.2.1 < s.2.2) : (s.1, s.2.1) ∈ cellsOf ss ∧ (s.1, s.2.2 - 1) ∈ cellsOf ss :=
  ⟨K78.mem_cells.mpr ⟨s, hs, rfl, by show s.2.1 ≤ s.2.1; omega, h⟩, K78.mem_cells.mpr ⟨s, hs, rfl, by show s.2.1 ≤ s.2.2 - 1; omega, by show s.2.2 - 1 < s.2.2; omega⟩⟩
/-- what is due is small -/
theorem due_small {base : Int} {rows : List (List Pt)} (h : SceneOk 26 base rows) (b0 : 0 < base) (b1 : base ≤ 12) (odd : Bool) : Good (dueM rows base odd) ∧ (dueM rows base odd).length ≤ 10000 ∧ ∀ s ∈ dueM rows base odd, -1000 ≤ s.1 ∧ s.1 ≤ 1000 ∧ -1000 ≤ s.2.1 ∧ s.2.1 ≤ 1000 ∧ -1000 ≤ s.2.2 ∧ s.2.2 ≤ 1000 := by
  have e := due_eq h b0 b1 odd
  obtain ⟨_, _, g, m⟩ := gen_cov (scene_gen h b0 b1) odd
  rw [e] at g m
  obtain ⟨e1, e2, e3, e4, e5, e6⟩ := due_ext h b0 b1
  have hm : ∀ p, p ∈ cellsOf (dueM rows base odd) → -122 ≤ p.1 ∧ p.1 ≤ 243 ∧ -8 ≤ p.2 ∧ p.2 ≤ 12 := fun p hp => by
    have hp := (due_mem h b0 b1 odd p).mpr ((m p).mp hp)
    unfold dueCells at hp
    obtain ⟨r, hr, hp⟩ := List.mem_flatMap.mp hp
    obtain ⟨c, hc, rfl⟩ := List.mem_map.mp hp
    have h1 := range_mem.mp hr
    have h2 := range_mem.mp (List.mem_filter.mp hc).1
    dsimp only
    omega
  refine ⟨g, ?_, fun s hs => ?_⟩
  · have h1 := cells_len g.1
    have h2 : cellsOf (dueM rows base odd) = dueCells rows base odd := K78.sorted_uniq (K78.cells_sorted (K78.good_pw g)) (due_sorted rows base odd) fun p => by rw [m, due_mem h b0 b1]
    rw [h2] at h1
    refine Nat.le_trans h1 ?_
    unfold dueCells
    have hl : (linesL rows base).length ≤ 365 := by
      unfold linesL
      rw [List.length_map, List.length_range]
      omega
    have hc : (colsL rows base).length ≤ 20 := by
      unfold colsL
      rw [List.length_map, List.length_range]
      omega
    have key : ∀ ls : List Int, (ls.flatMap fun r => ((colsL rows base).filter fun c => withinL rows ((64 * c + 32) * base) ((64 * r + 32) * base) odd).map fun c => (r, c)).length ≤ 20 * ls.length := by
      intro ls
      induction ls with
      | nil => simp
      | cons r ls ih =>
        simp only [List.flatMap_cons, List.length_append, List.length_map, List.length_cons]
        have := List.length_filter_le (fun c => withinL rows ((64 * c + 32) * base) ((64 * r + 32) * base) odd) (colsL rows base)
        omega
    have := key (linesL rows base)
    omega
  · obtain ⟨c1, c2⟩ := mem_runs_cells hs (g.1 s hs)
    have h1 := hm _ c1
    have h2 := hm _ c2
    dsimp only at h1 h2
    omega
end K76

set_option maxHeartbeats 1000000
namespace K76
open PySem PySem.Spec PyProof.Rows L2 DL KC KL
local macro_rules | `(tactic| walk_at "vc") => `(tactic| simp only [dV, dC, dOp, dB, dAnd, dOr, dNot, dAndV, dOrV, dNotV, dIf, dNil, dCons, dTup, dLst, dCell, dFrz, sNext, sSeq, sBreak, sCont, sDrop, sRet, sRetN, sIf, sNever, gN, gsNil, gsCons, gT, sAsg, sPar, sPar3, sAug, withV, withO_some,
  asB_bl, asI_int, asS_str, asT_tup, asC_cons, asN_nil, as1_one, as2_two, as3_three, refD_ref, startD, dCall, dCallK, dCB, rdI0, rdAdd_ii, rdAdd_ss, rdAdd_ll, rdSub_ii, rdMul_ii, rdDiv_ii, rdMod_ii, rdPow_ii, dNeg, dChain, rdLt_ii, rdGt_ii, rdLe_ii, rdGe_ii, rdEqv_ii, rdNev_ii, dIsN, dNotN, isNon_non, isNon_int, rdIsi,
  tyD_non, tyD_bl, tyD_int, tyD_str, tyD_lst, tyD_rol, tyD_tup, tyD_rot, clsOf_ty, clsOf_tup, tysOf_nil, tysOf_cons, rdLen_str, rdLen_lst, rdLen_rol, rdLen_tup, seqOf_lst, seqOf_rol, seqOf_tup, seqOf_rot, rdIx_tup, rdIx_lst, rdIx_rol, rdIx_str, atI,
  k_int_int, k_int_bool, k_int_str, k_int_tuple, k_bool_int, k_bool_bool, k_str_str, k_str_int, k_str_tuple, k_tup_int, k_tup_str, k_tup_tup, k_lst_tup, k_lst_seq, k_tup_seq, rdAbs, sWhile, rdMax2_ii, rdMin2_ii, decide_true, decide_false, decide_eq_true_eq, rdInt_int, rdInt_bl, rdInt_str, rdMulS_si, rdList, rdListC, rdTuple, tupOf_lst, tupOf_tup, tupOf_ref, dRng1, dRng2, dRng2B, dRngD, dSeq, dRevR2, dZip, dSlA, rdSlA,
  isRot_tup, isRot_lst, isRot_ref, isTup_tup, isTup_lst, isTup_rol, isTup_ref, oSo, oNo, gSet, dYes, rdGe_pp,
  List.map_cons, List.map_nil, List.cons_append, List.nil_append, List.append_nil, List.length_cons, List.length_nil, List.replicate_succ, List.replicate_zero, Nat.reduceSub, Nat.reduceAdd, List.getElem?_cons_zero, List.getElem?_cons_succ, List.set_cons_zero, List.set_cons_succ, Option.map_some, Option.map_none,
  plain_int, plain_tup, common_ii, seqOf_mk, rdNev_bb, rdEqv_bb, if_true, if_false, Bool.not_true, Bool.not_false, reduceIte, Bool.false_eq_true, dwipe, spanD, true_and, and_true, ix30, ix31, ix32, ix20, ix21, ix40, ix41, ix42, ix43, Option.bind_some, Option.bind_none, sl0, sl1, sl2, sl3, sl4, sl5, sl6, sl7, sl8, sl9, Nat.zero_add])
open K78 (BoxC runs step Good cellsOf)
theorem nev_same {z : Str} {S : Sto} {Q : QD} (hz : PyData.strOk z = true) (q : Q (.bl false) S) : rdNev (.str z) (.str z) S Q := by
  refine ⟨by simp [fit, hz], by simp [fit, hz], ?_⟩
  have e : PyData.eqv (der S (.str z)).pd (der S (.str z)).pd = true := by simp [D.pd, PyData.eqv]
  rw [e]
  exact q
theorem hand_eq (ps : List (List Plc)) : D.lst (ps.map (partD true)) = partsD true true ps := rfl
theorem prt_due {base : Int} {rows : List (List Pt)} (h : SceneOk 26 base rows) (b0 : 0 < base) (b1 : base ≤ 12) (odd : Bool) : Prt 40000 (.lst ((dueM rows base odd).map spanD)) := by
  obtain ⟨g, l, s⟩ := due_small h b0 b1 odd
  have p := prt_spans (ss := dueM rows base odd) fun x hx => by have := s x hx; omega
  exact ⟨p.short, p.show_, Nat.le_trans p.bulk (by omega), p.ok⟩
theorem prt_hand {base : Int} {rows : List (List Pt)} (h : SceneOk 26 base rows) (b0 : 0 < base) (b1 : base ≤ 12) : Prt 10000 (.lst ((rows.map (told base)).map (partD true))) := by
  refine prt_parts b0 b1 h.2.1 fun w hw => ⟨(h.2.2 w hw).2.1, fun x hx => ?_⟩
  have := (h.2.2 w hw).2.2 x hx
  omega
theorem fit_hand (ps : List (List Plc)) : fit 60 (D.lst (ps.map (partD true))) = true := fit_parts ps
theorem repr_due {base : Int} {rows : List (List Pt)} {odd : Bool} {S : Sto} {Q : QD} (h : SceneOk 26 base rows) (b0 : 0 < base) (b1 : base ≤ 12) (q : Q (.str (D.lst ((dueM rows base odd).map spanD)).pd.shown) S) : rdRepr [.lst ((dueM rows base odd).map spanD)] S Q :=
  repr_of rfl rfl (fit_spans _) (prt_due h b0 b1 odd) (by omega) q
theorem repr_dueR {base : Int} {rows : List (List Pt)} {odd : Bool} {S : Sto} {Q : QD} {p : Addr} (h : SceneOk 26 base rows) (b0 : 0 < base) (b1 : base ≤ 12) (hp : S p = some (.lst ((dueM rows base odd).map spanD))) (q : Q (.str (D.lst ((dueM rows base odd).map spanD)).pd.shown) S) : rdRepr [.ref p] S Q :=
  repr_of (xs := (dueM rows base odd).map spanD) (by simp only [seqOf, hp]) (der_ref hp) (fit_spans _) (prt_due h b0 b1 odd) (by omega) q
theorem repr_hand {base : Int} {rows : List (List Pt)} {S : Sto} {Q : QD} (h : SceneOk 26 base rows) (b0 : 0 < base) (b1 : base ≤ 12) (q : Q (.str (D.lst ((rows.map (told base)).map (partD true))).pd.shown) S) : rdRepr [.lst ((rows.map (told base)).map (partD true))] S Q :=
  repr_of rfl rfl (fit_hand _) (prt_hand h b0 b1) (by omega) q
theorem cells_due {base : Int} {rows : List (List Pt)} {odd : Bool} {S : Sto} {Q : QD} (h : SceneOk 26 base rows) (b0 : 0 < base) (b1 : base ≤ 12) (q : ∀ p, S p = none → Q (.ref p) (sup S p (.lst ((dueM rows base odd).map spanD)))) : sp_cells [.lst ((rows.map (told base)).map (partD true)), .str (ruleS odd), .bl false] S Q := by
  obtain ⟨k1, k2, _, _⟩ := gen_cov (scene_gen h b0 b1) odd
  refine ⟨true, true, rows.map (told base), odd, false, rfl, k1, k2, fun p hp => ?_⟩
  rw [due_eq h b0 b1]
  exact q p hp
theorem cells_rev {base : Int} {rows : List (List Pt)} {odd : Bool} {S : Sto} {Q : QD} (h : SceneOk 26 base rows) (b0 : 0 < base) (b1 : base ≤ 12) (q : ∀ p, S p = none → Q (.ref p) (sup S p (.lst ((dueM rows base odd).map spanD)))) : sp_cells [.lst ((rows.map (told base)).map (partD true)).reverse, .str (ruleS odd), .bl false] S Q := by
  obtain ⟨k1, k2, _, _⟩ := gen_cov (gen_rev (scene_gen h b0 b1)) odd
  refine ⟨true, true, rows.reverse.map (told base), odd, false, ?_, k1, k2, fun p hp => ?_⟩
  · rw [List.map_reverse, ← hand_eq, List.map_reverse]
  rw [rev_eq (scene_gen h b0 b1), due_eq h b0 b1]
  exact q p hp
section
variable {T : TDS} {F : DL.Fin} {S : Sto} {b : Addr} {n : Nat} {c : Cell} {base : Int} {rows : List (List Pt)} {o0 o1 o2 o3 o4 o5 o6 o7 o8 o9 o10 o11 o12 o13 o14 o15 o16 o17 o18 o19 o20 o21 o22 o23 o24 : Option D}

theorem law_3 (h : SceneOk 26 base rows) (b0 : 0 < base) (b1 : base ≤ 12) (hT : T F [o0, o1, o2, o3, o4, o5, o6, some (D.lst ((rows.map (told base)).map (partD true))), some (D.lst [(D.lst ((dueM rows base false).map spanD)), (D.lst ((dueM rows base true).map spanD))]), some (D.str (D.lst ((rows.map (told base)).map (partD true))).pd.shown), o10, o11, o12, o13, o14, o15, o16, o17, o18, o19, o20, o21, o22, o23, o24] S) :
    (sSeq (sIf (dOr (dB (dOp rdNev (dCB rdRepr (dCons (dFrz (dCallK sp_cells 1 1 gD_cells_1_drops (dCons (dV 7) (dNil)) (dCons (dC (.bl false)) (dNil)))) (dNil))) (dCB rdRepr (dCons (dOp rdIx (dV 8) (dC (.int 0))) (dNil))))) (dB (dOp rdNev (dCB rdRepr (dCons (dV 7) (dNil))) (dV 9)))) (sRet (dC (.bl false))) (sNext))
  (T)) F [o0, o1, o2, o3, o4, o5, o6, some (D.lst ((rows.map (told base)).map (partD true))), some (D.lst [(D.lst ((dueM rows base false).map spanD)), (D.lst ((dueM rows base true).map spanD))]), some (D.str (D.lst ((rows.map (told base)).map (partD true))).pd.shown), o10, o11, o12, o13, o14, o15, o16, o17, o18, o19, o20, o21, o22, o23, o24] S := by
  try walk_at "vc"
  refine cells_due (odd := false) h b0 b1 fun p hp => ⟨p, _, rfl, sup_same, ?_⟩
  rw [sdel_sup, sdel_none hp]
  refine repr_due h b0 b1 ?_
  try walk_at "vc"
  refine repr_due h b0 b1 ?_
  refine nev_same (prt_due h b0 b1 _).ok ?_
  try walk_at "vc"
  refine repr_hand h b0 b1 ?_
  try walk_at "vc"
  refine nev_same (prt_hand h b0 b1).ok ?_
  try walk_at "vc"
  exact hT
theorem law_2 (h : SceneOk 26 base rows) (b0 : 0 < base) (b1 : base ≤ 12) (hT : ∀ p, S p = none → T F [o0, o1, o2, o3, o4, o5, o6, some (D.lst ((rows.map (told base)).map (partD true))), some (D.lst [(D.lst ((dueM rows base false).map spanD)), (D.lst ((dueM rows base true).map spanD))]), o9, some (.ref p), o11, o12, o13, o14, o15, o16, o17, o18, o19, o20, o21, o22, o23, o24] (sup S p (.lst ((dueM rows base true).map spanD)))) :
    (sSeq (sAsg (dCallK sp_cells 0 3 gD_cells_0_drops_rule_parts (dNil) (dCons (dC (.bl false)) (dCons (dC (.str "odd")) (dCons (dV 7) (dNil))))) (gN 10))
  (T)) F [o0, o1, o2, o3, o4, o5, o6, some (D.lst ((rows.map (told base)).map (partD true))), some (D.lst [(D.lst ((dueM rows base false).map spanD)), (D.lst ((dueM rows base true).map spanD))]), o9, o10, o11, o12, o13, o14, o15, o16, o17, o18, o19, o20, o21, o22, o23, o24] S := by
  try walk_at "vc"
  exact cells_due (odd := true) h b0 b1 fun p hp => hT p hp
theorem law_1 {p : Addr} (h : SceneOk 26 base rows) (b0 : 0 < base) (b1 : base ≤ 12) (hp : S p = some (.lst ((dueM rows base true).map spanD))) (hT : T F [o0, o1, o2, o3, o4, o5, o6, some (D.lst ((rows.map (told base)).map (partD true))), some (D.lst [(D.lst ((dueM rows base false).map spanD)), (D.lst ((dueM rows base true).map spanD))]), o9, some (.ref p), o11, o12, o13, o14, o15, o16, o17, o18, o19, o20, o21, o22, o23, o24] S) :
    (sSeq (sIf (dOr (dB (dOp rdNev (dCB rdRepr (dCons (dV 10) (dNil))) (dCB rdRepr (dCons (dOp rdIx (dV 8) (dC (.int 1))) (dNil))))) (dB (dOp rdNev (dCB rdRepr (dCons (dFrz (dCallK sp_cells 1 2 gD_cells_1_rule_drops (dCons (dRevL (dV 7)) (dNil)) (dCons (dC (.str "round")) (dCons (dC (.bl false)) (dNil))))) (dNil))) (dCB rdRepr (dCons (dOp rdIx (dV 8) (dC (.int 0))) (dNil)))))) (sRet (dC (.bl false))) (sNext))
  (T)) F [o0, o1, o2, o3, o4, o5, o6, some (D.lst ((rows.map (told base)).map (partD true))), some (D.lst [(D.lst ((dueM rows base false).map spanD)), (D.lst ((dueM rows base true).map spanD))]), o9, some (.ref p), o11, o12, o13, o14, o15, o16, o17, o18, o19, o20, o21, o22, o23, o24] S := by
  try walk_at "vc"
  refine repr_dueR h b0 b1 hp ?_
  refine repr_due h b0 b1 ?_
  refine nev_same (prt_due h b0 b1 _).ok ?_
  try walk_at "vc"
  simp only [dRevL]
  try walk_at "vc"
  refine cells_rev (odd := false) h b0 b1 fun q hq => ⟨q, _, rfl, sup_same, ?_⟩
  rw [sdel_sup, sdel_none hq]
  refine repr_due h b0 b1 ?_
  try walk_at "vc"
  refine repr_due h b0 b1 ?_
  refine nev_same (prt_due h b0 b1 _).ok ?_
  try walk_at "vc"
  exact hT
end

end K76

set_option maxHeartbeats 1000000
namespace K76
open PySem PySem.Spec PyProof.Rows L2 DL KC KL
local macro_rules | `(tactic| walk_at "vc") => `(tactic| simp only [dV, dC, dOp, dB, dAnd, dOr, dNot, dAndV, dOrV, dNotV, dIf, dNil, dCons, dTup, dLst, dCell, dFrz, sNext, sSeq, sBreak, sCont, sDrop, sRet, sRetN, sIf, sNever, gN, gsNil, gsCons, gT, sAsg, sPar, sPar3, sAug, withV, withO_some,
  asB_bl, asI_int, asS_str, asT_tup, asC_cons, asN_nil, as1_one, as2_two, as3_three, refD_ref, startD, dCall, dCallK, dCB, rdI0, rdAdd_ii, rdAdd_ss, rdAdd_ll, rdSub_ii, rdMul_ii, rdDiv_ii, rdMod_ii, rdPow_ii, dNeg, dChain, rdLt_ii, rdGt_ii, rdLe_ii, rdGe_ii, rdEqv_ii, rdNev_ii, dIsN, dNotN, isNon_non, isNon_int, rdIsi,
  tyD_non, tyD_bl, tyD_int, tyD_str, tyD_lst, tyD_rol, tyD_tup, tyD_rot, clsOf_ty, clsOf_tup, tysOf_nil, tysOf_cons, rdLen_str, rdLen_lst, rdLen_rol, rdLen_tup, seqOf_lst, seqOf_rol, seqOf_tup, seqOf_rot, rdIx_tup, rdIx_lst, rdIx_rol, rdIx_str, atI,
  k_int_int, k_int_bool, k_int_str, k_int_tuple, k_bool_int, k_bool_bool, k_str_str, k_str_int, k_str_tuple, k_tup_int, k_tup_str, k_tup_tup, k_lst_tup, k_lst_seq, k_tup_seq, rdAbs, sWhile, rdMax2_ii, rdMin2_ii, decide_true, decide_false, decide_eq_true_eq, rdInt_int, rdInt_bl, rdInt_str, rdMulS_si, rdList, rdListC, rdTuple, tupOf_lst, tupOf_tup, tupOf_ref, dRng1, dRng2, dRng2B, dRngD, dSeq, dRevR2, dZip, dSlA, rdSlA,
  isRot_tup, isRot_lst, isRot_ref, isTup_tup, isTup_lst, isTup_rol, isTup_ref, oSo, oNo, gSet, dYes, rdGe_pp,
  List.map_cons, List.map_nil, List.cons_append, List.nil_append, List.append_nil, List.length_cons, List.length_nil, List.replicate_succ, List.replicate_zero, Nat.reduceSub, Nat.reduceAdd, List.getElem?_cons_zero, List.getElem?_cons_succ, List.set_cons_zero, List.set_cons_succ, Option.map_some, Option.map_none,
  plain_int, plain_tup, common_ii, seqOf_mk, rdNev_bb, rdEqv_bb, if_true, if_false, Bool.not_true, Bool.not_false, reduceIte, Bool.false_eq_true, dwipe, spanD, true_and, and_true, ix30, ix31, ix32, ix20, ix21, ix40, ix41, ix42, ix43, Option.bind_some, Option.bind_none, sl0, sl1, sl2, sl3, sl4, sl5, sl6, sl7, sl8, sl9, Nat.zero_add])
open K78 (BoxC runs step Good cellsOf)
abbrev Ent := List (List Pt) × Int
def entD (e : Ent) : D := let rows := e.1; let base := e.2; D.tup [(D.lst ((rows.map (told base)).map (partD true))), (D.lst [(D.lst ((dueM rows base false).map spanD)), (D.lst ((dueM rows base true).map spanD))])]
def EntOk (e : Ent) : Prop := SceneOk 26 e.2 e.1 ∧ 0 < e.2 ∧ e.2 ≤ 12
theorem cut2 (xs : List D) : DL.cutD xs (some (-2)) none = xs.drop (xs.length - 2) := by
  unfold DL.cutD
  have e : HT.sIx xs.length 0 (some (-2)) = xs.length - 2 := by
    show (if (-2 : Int) < 0 then ((-2 : Int) + (xs.length : Int)).toNat else min (-2 : Int).toNat xs.length) = _
    rw [if_pos (by omega)]
    omega
  rw [HT.sIx_none, e]
  exact List.take_of_length_le (by rw [List.length_drop]; exact Nat.le_refl _)
theorem add2 {as : List Ent} {e : Ent} : (as.map entD ++ [entD e]).drop ((as.map entD ++ [entD e]).length - 2) = ((as.drop (as.length - 1)) ++ [e]).map entD := by
  have h : as.map entD ++ [entD e] = (as ++ [e]).map entD := by simp
  rw [h, ← List.map_drop, List.length_map]
  congr 1
  rw [List.length_append, List.drop_append_of_le_length (by simp only [List.length_cons, List.length_nil]; omega)]
  congr 2
theorem last_ent {as : List Ent} {e : Ent} : ((ixN ((as ++ [e]).map entD).length (-1)).bind fun j => ((as ++ [e]).map entD)[j]?) = some (entD e) := by
  have h : ixN ((as ++ [e]).map entD).length (-1) = some as.length := by
    unfold ixN
    rw [List.length_map, List.length_append]
    simp only [List.length_cons, List.length_nil]
    rw [if_neg (by omega), if_pos (by omega)]
    congr 1
    omega
  rw [h]
  simp
theorem red_one (x : Int) : redM x 1 = .i x := by
  unfold redM
  simp
theorem strip_hand (w r : Int) : D.lst [.lst [.tup [.int 0, .int (64 * r)], .tup [.int w, .int (64 * r)], .tup [.int w, .int (64 * r + 64)], .tup [.int 0, .int (64 * r + 64)]]] = partsD true true [told 1 (stripM w r)] := by
  simp only [told, stripM, List.map_cons, List.map_nil, red_one]
  rfl
theorem mv_map {as : List Spn} {a b : Int} : as.map (fun s => spanD (s.1 + b, s.2.1 + a, s.2.2 + a)) = (as.map (mv a b)).map spanD := by
  rw [List.map_map]
  rfl
section
variable {T : TDS} {F : DL.Fin} {S : Sto} {b : Addr} {n : Nat} {c : Cell} {base : Int} {rows : List (List Pt)} {o0 o1 o2 o3 o4 o5 o6 o7 o8 o9 o10 o11 o12 o13 o14 o15 o16 o17 o18 o19 o20 o21 o22 o23 o24 : Option D}

theorem law_16 (hb : S b = some c) (hc : BoxC (n + 2) c) (hT : ∀ base c', 0 < base → base ≤ 12 → BoxC n c' → T F [o0, o1, o2, some (.ref b), some (.int base), o5, o6, o7, o8, o9, o10, o11, o12, o13, o14, o15, o16, o17, o18, o19, o20, o21, o22, o23, o24] (sup S b c')) :
    (sSeq (sAsg (dOp rdIx (dLst (dCons (dC (.int 1)) (dCons (dC (.int 1)) (dCons (dC (.int 3)) (dCons (dOp rdAdd (dC (.int 1)) (dCall sp__law_take [] (dCons (dV 3) (dCons (dC (.int 12)) (dNil))))) (dNil)))))) (dCall sp__law_take [] (dCons (dV 3) (dCons (dC (.int 4)) (dNil))))) (gN 4))
  (T)) F [o0, o1, o2, some (.ref b), o4, o5, o6, o7, o8, o9, o10, o11, o12, o13, o14, o15, o16, o17, o18, o19, o20, o21, o22, o23, o24] S := by
  walk_at "vc"
  refine ⟨b, n + 1, c, 12, rfl, by omega, by omega, hb, hc, fun x c1 p1 q1 hc1 => ?_⟩
  try walk_at "vc"
  refine ⟨b, n, c1, 4, rfl, by omega, by omega, sup_same, hc1, fun y c2 p2 q2 hc2 => ?_⟩
  try walk_at "vc"
  refine pick4 p2 q2 fun z hz => ?_
  rw [sup_sup]
  exact hT z c2 (by omega) (by omega) hc2
theorem law_15 (hb : S b = some c) (hc : BoxC (n + 400) c) (b0 : 0 < base) (b1 : base ≤ 12) (hT : ∀ rows c', SceneOk 26 base rows → BoxC n c' → T F [o0, o1, o2, some (.ref b), some (.int base), some (rowsD rows), o6, o7, o8, o9, o10, o11, o12, o13, o14, o15, o16, o17, o18, o19, o20, o21, o22, o23, o24] (sup S b c')) :
    (sSeq (sAsg (dCall sp__law_scene [] (dCons (dV 3) (dCons (dV 4) (dNil)))) (gN 5))
  (T)) F [o0, o1, o2, some (.ref b), some (.int base), o5, o6, o7, o8, o9, o10, o11, o12, o13, o14, o15, o16, o17, o18, o19, o20, o21, o22, o23, o24] S := by
  walk_at "vc"
  exact ⟨b, n, c, base, rfl, b0, b1, hb, hc, fun rows c' h1 h2 => hT rows c' h1 h2⟩
theorem law_14 (h : SceneOk 26 base rows) (b0 : 0 < base) (b1 : base ≤ 12) (hT : T F [o0, o1, o2, some (.ref b), some (.int base), some (rowsD rows), some (D.lst ((rows.map (told base)).map (partD true))), o7, o8, o9, o10, o11, o12, o13, o14, o15, o16, o17, o18, o19, o20, o21, o22, o23, o24] S) :
    (sSeq (sAsg (dLc (dSeq (dV 5)) (gN 18) (dYes) (dCall sp__law_told [] (dCons (dV 18) (dCons (dV 4) (dNil)))) [18]) (gN 6))
  (T)) F [o0, o1, o2, some (.ref b), some (.int base), some (rowsD rows), o6, o7, o8, o9, o10, o11, o12, o13, o14, o15, o16, o17, o18, o19, o20, o21, o22, o23, o24] S := by
  walk_at "vc"
  refine dLc_of (rowsD rows) rows ptsD (fun w => some (partD true (told base w))) (fun R h => by exact h) rfl (le_line (by have := h.2.1; omega)) (fun w hw p zs Y N hp hy => ?_) ?_
  · walk_at "vc"
    exact ⟨w, base, rfl, b0, by omega, by have := (h.2.2 w hw).2.1; omega, hy⟩
  · rw [filterMap_all]
    have e : rows.map (fun w => partD true (told base w)) = (rows.map (told base)).map (partD true) := by rw [List.map_map]; rfl
    rw [e]
    exact hT
theorem law_13 {as : List Ent} (hl : as.length ≤ 2) (h : SceneOk 26 base rows) (b0 : 0 < base) (b1 : base ≤ 12) (hT : T F [o0, some (.lst (((as.drop (as.length - 1)) ++ [((rows, base) : Ent)]).map entD)), o2, some (.ref b), some (.int base), some (rowsD rows), some (D.lst ((rows.map (told base)).map (partD true))), o7, o8, o9, o10, o11, o12, o13, o14, o15, o16, o17, o18, o19, o20, o21, o22, o23, o24] S) :
    (sSeq (sAsg (dSlA (dOp rdAdd (dV 1) (dLst (dCons (dTup (dCons (dV 6) (dCons (dLc (dSeq (dLst (dCons (dC (.bl false)) (dCons (dC (.bl true)) (dNil))))) (gN 23) (dYes) (dCall sp__law_due [] (dCons (dV 5) (dCons (dV 4) (dCons (dV 23) (dNil))))) [23]) (dNil)))) (dNil)))) (oSo (dNeg (dC (.int 2)))) (oNo)) (gN 1))
  (T)) F [o0, some (.lst (as.map entD)), o2, some (.ref b), some (.int base), some (rowsD rows), some (D.lst ((rows.map (told base)).map (partD true))), o7, o8, o9, o10, o11, o12, o13, o14, o15, o16, o17, o18, o19, o20, o21, o22, o23, o24] S := by
  walk_at "vc"
  refine dLc_of (.lst [.bl false, .bl true]) [false, true] D.bl (fun odd => some (.lst ((dueM rows base odd).map spanD))) (fun R h => by walk_at "vc"; exact h) rfl (le_line (by simp)) (fun w hw p zs Y N hp hy => ?_) ?_
  · walk_at "vc"
    exact ⟨rows, base, w, rfl, h, b0, b1, hy⟩
  · rw [filterMap_all]
    simp only [List.map_cons, List.map_nil]
    try walk_at "vc"
    refine ⟨?_, ?_⟩
    · simp only [List.length_map, sizeLine_eq]; omega
    · have q := add2 (as := as) (e := ((rows, base) : Ent))
      rw [cut2]
      have q2 : (as.map entD ++ [D.tup [(D.lst ((rows.map (told base)).map (partD true))), (D.lst [(D.lst ((dueM rows base false).map spanD)), (D.lst ((dueM rows base true).map spanD))])]]).drop ((as.map entD ++ [D.tup [(D.lst ((rows.map (told base)).map (partD true))), (D.lst [(D.lst ((dueM rows base false).map spanD)), (D.lst ((dueM rows base true).map spanD))])]]).length - 2) = ((as.drop (as.length - 1)) ++ [((rows, base) : Ent)]).map entD := q
      rw [q2]
      exact hT
theorem inner (h : SceneOk 26 base rows) (b0 : 0 < base) (b1 : base ≤ 12) (hb : S b = some c) (hF : ∀ p S', S' b = some c → F.nx [o0, o1, o2, o3, o4, o5, o6, some (D.lst ((rows.map (told base)).map (partD true))), some (D.lst [(D.lst ((dueM rows base false).map spanD)), (D.lst ((dueM rows base true).map spanD))]), some (D.str (D.lst ((rows.map (told base)).map (partD true))).pd.shown), some (.ref p), o11, o12, o13, o14, o15, o16, o17, o18, o19, o20, o21, o22, o23, o24] S') :
    (sSeq (sAsg (dCB rdRepr (dCons (dV 7) (dNil))) (gN 9))
  (r_law_t3)) F [o0, o1, o2, o3, o4, o5, o6, some (D.lst ((rows.map (told base)).map (partD true))), some (D.lst [(D.lst ((dueM rows base false).map spanD)), (D.lst ((dueM rows base true).map spanD))]), o9, o10, o11, o12, o13, o14, o15, o16, o17, o18, o19, o20, o21, o22, o23, o24] S := by
  have key : ∀ T : TDS, T F [o0, o1, o2, o3, o4, o5, o6, some (D.lst ((rows.map (told base)).map (partD true))), some (D.lst [(D.lst ((dueM rows base false).map spanD)), (D.lst ((dueM rows base true).map spanD))]), some (D.str (D.lst ((rows.map (told base)).map (partD true))).pd.shown), o10, o11, o12, o13, o14, o15, o16, o17, o18, o19, o20, o21, o22, o23, o24] S → (sSeq (sAsg (dCB rdRepr (dCons (dV 7) (dNil))) (gN 9)) T) F [o0, o1, o2, o3, o4, o5, o6, some (D.lst ((rows.map (told base)).map (partD true))), some (D.lst [(D.lst ((dueM rows base false).map spanD)), (D.lst ((dueM rows base true).map spanD))]), o9, o10, o11, o12, o13, o14, o15, o16, o17, o18, o19, o20, o21, o22, o23, o24] S := by
    intro T hT
    walk_at "vc"
    refine repr_hand h b0 b1 ?_
    try walk_at "vc"
    exact hT
  refine key _ ?_
  unfold r_law_t3
  refine law_3 h b0 b1 ?_
  unfold r_law_t2
  refine law_2 h b0 b1 fun p hp => ?_
  unfold r_law_t1
  refine law_1 h b0 b1 sup_same ?_
  unfold r_law_t0
  walk_at "vc"
  refine dAppend_of p _ (fun R h => h) sup_same ?_
  walk_at "vc"
  refine ⟨_, sup_same, ?_, ?_⟩
  · have := (due_small h b0 b1 true).2.1
    simp only [List.length_map, sizeLine_eq]
    omega
  · refine hF p _ ?_
    rw [sup_sup, sup_ne (sto_ne hp hb).symm]
    exact hb
theorem law_12 {as : List Ent} (ha : ∀ e ∈ as, EntOk e) (hb : S b = some c) (hT : ∀ o7 o8 o9 o10 S', S' b = some c → T F [o0, some (.lst (as.map entD)), o2, some (.ref b), o4, o5, o6, o7, o8, o9, o10, o11, o12, o13, o14, o15, o16, o17, o18, o19, o20, o21, o22, o23, o24] S') :
    (sSeq (sFor (dSeq (dV 1)) (gT 2 (gsCons (gN 7) (gsCons (gN 8) (gsNil)))) (sSeq (sAsg (dCB rdRepr (dCons (dV 7) (dNil))) (gN 9))
  (r_law_t3)))
  (T)) F [o0, some (.lst (as.map entD)), o2, some (.ref b), o4, o5, o6, o7, o8, o9, o10, o11, o12, o13, o14, o15, o16, o17, o18, o19, o20, o21, o22, o23, o24] S := by
  simp only [sSeq]
  refine sForS_of (.lst (as.map entD)) as entD S (fun _ ρ S' => S' b = some c ∧ ∃ o7 o8 o9 o10, ρ = [o0, some (.lst (as.map entD)), o2, some (.ref b), o4, o5, o6, o7, o8, o9, o10, o11, o12, o13, o14, o15, o16, o17, o18, o19, o20, o21, o22, o23, o24]) (fun R h => by walk_at "vc"; exact h) rfl ⟨hb, _, _, _, _, rfl⟩ (fun _ _ _ _ => rfl) ?_ ?_
  · rintro k e ρ S' hk ⟨hb', o7, o8, o9, o10, rfl⟩
    obtain ⟨k1, k2, k3⟩ := ha e (List.mem_of_getElem? hk)
    simp only [entD]
    walk_at "vc"
    refine inner (o9 := o9) k1 k2 k3 hb' fun p S2 h2 => ⟨h2, _, _, _, _, rfl⟩
  · rintro ρ S' ⟨hb', o7, o8, o9, o10, rfl⟩
    exact hT _ _ _ _ _ hb'
theorem law_11 (hb : S b = some c) (hc : BoxC (n + 1) c) (hT : ∀ far c', (far = 1 ∨ far = 100000000000000000000) → BoxC n c' → T F [o0, o1, o2, some (.ref b), o4, o5, o6, o7, o8, o9, o10, some (.int far), o12, o13, o14, o15, o16, o17, o18, o19, o20, o21, o22, o23, o24] (sup S b c')) :
    (sSeq (sAsg (dOp rdIx (dLst (dCons (dC (.int 1)) (dCons (dC (.int 1)) (dCons (dOp rdPow (dC (.int 10)) (dC (.int 20))) (dNil))))) (dCall sp__law_take [] (dCons (dV 3) (dCons (dC (.int 3)) (dNil))))) (gN 11))
  (T)) F [o0, o1, o2, some (.ref b), o4, o5, o6, o7, o8, o9, o10, o11, o12, o13, o14, o15, o16, o17, o18, o19, o20, o21, o22, o23, o24] S := by
  walk_at "vc"
  refine ⟨cpow_64 (by omega) (by omega) (by omega) (by omega), b, n, c, 3, rfl, by omega, by omega, hb, hc, fun y c2 p2 q2 hc2 => ?_⟩
  try walk_at "vc"
  refine pick3 p2 q2 fun z hz => ?_
  have e : (10 : Int) ^ (20 : Int).toNat = 100000000000000000000 := by decide
  rw [e] at hz
  exact hT z c2 (by omega) hc2
theorem law_10 {far : Int} (hf : far = 1 ∨ far = 100000000000000000000) (hb : S b = some c) (hc : BoxC (n + 2) c) (hT : ∀ x y c', -400000000000000000000 ≤ x → x ≤ 400000000000000000000 → -400000000000000000000 ≤ y → y ≤ 400000000000000000000 → BoxC n c' → T F [o0, o1, o2, some (.ref b), o4, o5, o6, o7, o8, o9, o10, some (.int far), some (.int x), some (.int y), o14, o15, o16, o17, o18, o19, o20, o21, o22, o23, o24] (sup S b c')) :
    (sSeq (sAsg (dTup (dCons (dOp rdMul (dOp rdSub (dCall sp__law_take [] (dCons (dV 3) (dCons (dC (.int 9)) (dNil)))) (dC (.int 4))) (dV 11)) (dCons (dOp rdMul (dOp rdSub (dCall sp__law_take [] (dCons (dV 3) (dCons (dC (.int 9)) (dNil)))) (dC (.int 4))) (dV 11)) (dNil)))) (gT 2 (gsCons (gN 12) (gsCons (gN 13) (gsNil)))))
  (T)) F [o0, o1, o2, some (.ref b), o4, o5, o6, o7, o8, o9, o10, some (.int far), o12, o13, o14, o15, o16, o17, o18, o19, o20, o21, o22, o23, o24] S := by
  have sf : Sz 80 far := by unfold Sz; rcases hf with rfl | rfl <;> decide
  walk_at "vc"
  refine ⟨b, n + 1, c, 9, rfl, by omega, by omega, hb, hc, fun x c1 p1 q1 hc1 => ?_⟩
  try walk_at "vc"
  refine ⟨top_mul (a := 20) (top_small (by omega) (by omega) (by omega)) sf (by omega) (by omega) (by omega), b, n, c1, 9, rfl, by omega, by omega, sup_same, hc1, fun y c2 p2 q2 hc2 => ?_⟩
  try walk_at "vc"
  refine ⟨top_mul (a := 20) (top_small (by omega) (by omega) (by omega)) sf (by omega) (by omega) (by omega), ?_⟩
  rw [sup_sup]
  have k1 : -400000000000000000000 ≤ (x - 4) * far ∧ (x - 4) * far ≤ 400000000000000000000 := by rcases hf with rfl | rfl <;> omega
  have k2 : -400000000000000000000 ≤ (y - 4) * far ∧ (y - 4) * far ≤ 400000000000000000000 := by rcases hf with rfl | rfl <;> omega
  exact hT _ _ c2 k1.1 k1.2 k2.1 k2.2 hc2
theorem far_sz {x : Int} (h1 : -400000000000000000000 ≤ x) (h2 : x ≤ 400000000000000000000) : Sz 90 x := by
  unfold Sz
  have : (400000000000000000000 : Nat) < 2 ^ 90 := by decide
  generalize (2 : Nat) ^ 90 = N at *
  omega
theorem law_9 {x y : Int} (h : SceneOk 26 base rows) (b0 : 0 < base) (b1 : base ≤ 12) (x1 : Sz 90 x) (y1 : Sz 90 y) (hT : T F [o0, o1, o2, o3, some (.int base), some (rowsD rows), o6, o7, o8, o9, o10, o11, some (.int x), some (.int y), some (D.lst (((moved base x y rows).map (told base)).map (partD true))), o15, o16, o17, o18, o19, o20, o21, o22, o23, o24] S) :
    (sSeq (sAsg (dLc (dSeq (dV 5)) (gN 18) (dYes) (dCall sp__law_told [] (dCons (dLc (dSeq (dV 18)) (gT 2 (gsCons (gN 21) (gsCons (gN 22) (gsNil)))) (dYes) (dTup (dCons (dOp rdAdd (dV 21) (dOp rdMul (dOp rdMul (dC (.int 64)) (dV 12)) (dV 4))) (dCons (dOp rdAdd (dV 22) (dOp rdMul (dOp rdMul (dC (.int 64)) (dV 13)) (dV 4))) (dNil)))) [21, 22]) (dCons (dV 4) (dNil)))) [18]) (gN 14))
  (T)) F [o0, o1, o2, o3, some (.int base), some (rowsD rows), o6, o7, o8, o9, o10, o11, some (.int x), some (.int y), o14, o15, o16, o17, o18, o19, o20, o21, o22, o23, o24] S := by
  have sb : Sz 20 base := top_small (by omega) (by omega) (by omega)
  have s64 : Sz 20 64 := top_small (by omega) (by omega) (by omega)
  walk_at "vc"
  refine dLc_of (rowsD rows) rows ptsD (fun w => some (partD true (told base (w.map (sh (64 * x * base) (64 * y * base)))))) (fun R h => by exact h) rfl (le_line (by have := h.2.1; omega)) (fun w hw p zs Y N hp hy => ?_) ?_
  · have hwl := (h.2.2 w hw).2.1
    walk_at "vc"
    refine dLc_of (ptsD w) w DL.pairD (fun q => some (DL.pairD (sh (64 * x * base) (64 * y * base) q))) (fun R h => by exact h) rfl (le_line (by omega)) (fun q hq p2 zs2 Y2 N2 hp2 hy2 => ?_) ?_
    · walk_at "vc"
      exact ⟨top_mul s64 x1 (by omega) (by omega) (by omega), top_mul (top_prod s64 x1) sb (by omega) (by omega) (by omega), top_mul s64 y1 (by omega) (by omega) (by omega), top_mul (top_prod s64 y1) sb (by omega) (by omega) (by omega), hy2⟩
    · rw [filterMap_all]
      have e : w.map (fun q => DL.pairD (sh (64 * x * base) (64 * y * base) q)) = (w.map (sh (64 * x * base) (64 * y * base))).map DL.pairD := by rw [List.map_map]; rfl
      rw [e]
      try walk_at "vc"
      exact ⟨w.map (sh (64 * x * base) (64 * y * base)), base, rfl, b0, by omega, by rw [List.length_map]; omega, hy⟩
  · rw [filterMap_all]
    have e : rows.map (fun w => partD true (told base (w.map (sh (64 * x * base) (64 * y * base))))) = ((moved base x y rows).map (told base)).map (partD true) := by unfold moved; rw [List.map_map, List.map_map]; rfl
    rw [e]
    exact hT
theorem law_8 {x y : Int} {L : List D} (h : SceneOk 26 base rows) (b0 : 0 < base) (b1 : base ≤ 12) (hL : ((ixN L.length (-1)).bind fun j => L[j]?) = some (entD (rows, base))) (hT : T F [o0, some (.lst L), o2, o3, o4, o5, o6, o7, some (D.lst (((dueM rows base false).map (mv x y)).map spanD)), o9, o10, o11, some (.int x), some (.int y), o14, o15, o16, o17, o18, o19, o20, o21, o22, o23, o24] S) :
    (sSeq (sAsg (dLc (dSeq (dOp rdIx (dOp rdIx (dOp rdIx (dV 1) (dNeg (dC (.int 1)))) (dC (.int 1))) (dC (.int 0)))) (gT 3 (gsCons (gN 16) (gsCons (gN 19) (gsCons (gN 20) (gsNil))))) (dYes) (dTup (dCons (dOp rdAdd (dV 16) (dV 13)) (dCons (dOp rdAdd (dV 19) (dV 12)) (dCons (dOp rdAdd (dV 20) (dV 12)) (dNil))))) [16, 19, 20]) (gN 8))
  (T)) F [o0, some (.lst L), o2, o3, o4, o5, o6, o7, o8, o9, o10, o11, some (.int x), some (.int y), o14, o15, o16, o17, o18, o19, o20, o21, o22, o23, o24] S := by
  walk_at "vc"
  refine dLc_of (D.lst ((dueM rows base false).map spanD)) (dueM rows base false) spanD (fun s => some (spanD (s.1 + y, s.2.1 + x, s.2.2 + x))) (fun R h => ?_) rfl (le_line (by have := (due_small h b0 b1 false).2.1; omega)) (fun s hs p zs Y N hp hy => ?_) ?_
  · walk_at "vc"
    rw [hL]
    simp only [entD]
    walk_at "vc"
    exact h
  · walk_at "vc"
    exact hy
  · rw [filterMap_all, mv_map]
    exact hT
theorem law_7 {x y : Int} (h : SceneOk 26 base rows) (b0 : 0 < base) (b1 : base ≤ 12) (x1 : -400000000000000000000 ≤ x) (x2 : x ≤ 400000000000000000000) (y1 : -400000000000000000000 ≤ y) (y2 : y ≤ 400000000000000000000) (hT : T F [o0, o1, o2, o3, o4, o5, o6, o7, some (D.lst (((dueM rows base false).map (mv x y)).map spanD)), o9, o10, o11, o12, o13, some (D.lst (((moved base x y rows).map (told base)).map (partD true))), o15, o16, o17, o18, o19, o20, o21, o22, o23, o24] S) :
    (sSeq (sIf (dB (dOp rdNev (dCB rdRepr (dCons (dFrz (dCallK sp_cells 1 1 gD_cells_1_drops (dCons (dCB rdTuple (dCons (dLc (dSeq (dV 14)) (gN 24) (dYes) (dCB rdTuple (dCons (dV 24) (dNil))) [24]) (dNil))) (dNil)) (dCons (dC (.bl false)) (dNil)))) (dNil))) (dCB rdRepr (dCons (dV 8) (dNil))))) (sRet (dC (.bl false))) (sNext))
  (T)) F [o0, o1, o2, o3, o4, o5, o6, o7, some (D.lst (((dueM rows base false).map (mv x y)).map spanD)), o9, o10, o11, o12, o13, some (D.lst (((moved base x y rows).map (told base)).map (partD true))), o15, o16, o17, o18, o19, o20, o21, o22, o23, o24] S := by
  have hg := scene_gen h b0 b1
  have hs : ∀ w ∈ rows, ∀ q ∈ w, Sz 100 q.1 ∧ Sz 100 q.2 := fun w hw q hq => by
    have := (h.2.2 w hw).2.2 q hq
    exact ⟨top_small (by omega) (by omega) (by omega), top_small (by omega) (by omega) (by omega)⟩
  have sx : Sz 100 x := top_mono (far_sz x1 x2) (by omega)
  have sy : Sz 100 y := top_mono (far_sz y1 y2) (by omega)
  have hm := gen_mv hg hs sx sy
  obtain ⟨k1, k2, _, _⟩ := gen_cov hm false
  obtain ⟨dg, dl, dd⟩ := due_small h b0 b1 false
  have pr : Prt 40000 (D.lst (((dueM rows base false).map (mv x y)).map spanD)) := by
    have p := prt_spans (ss := (dueM rows base false).map (mv x y)) fun s hs => by
      obtain ⟨t, ht, rfl⟩ := List.mem_map.mp hs
      have := dd t ht
      unfold mv
      dsimp only
      omega
    exact ⟨p.short, p.show_, Nat.le_trans p.bulk (by rw [List.length_map]; omega), p.ok⟩
  walk_at "vc"
  refine dLc_of (D.lst (((moved base x y rows).map (told base)).map (partD true))) ((moved base x y rows).map (told base)) (partD true) (fun p => some (partD false p)) (fun R h => by exact h) rfl (le_line (by have := hm.len.2; rw [List.length_map]; omega)) (fun w hw p zs Y N hp hy => ?_) ?_
  · simp only [partD, mkD] at hy ⊢
    walk_at "vc"
    exact hy
  · rw [filterMap_all]
    try walk_at "vc"
    refine ⟨false, false, (moved base x y rows).map (told base), false, false, rfl, k1, k2, fun p hp => ⟨p, _, rfl, sup_same, ?_⟩⟩
    rw [sdel_sup, sdel_none hp, mv_eq hg hs sx sy, due_eq h b0 b1]
    refine repr_of rfl rfl (fit_spans _) pr (by omega) ?_
    try walk_at "vc"
    refine repr_of rfl rfl (fit_spans _) pr (by omega) ?_
    refine nev_same pr.ok ?_
    try walk_at "vc"
    exact hT
theorem law_6 (hb : S b = some c) (hc : BoxC (n + 2) c) (hT : ∀ q r c', 0 < q → Sz 370 (64 * q) → (64 * q).fdiv 64 = q → -4 ≤ r → r ≤ 4 → BoxC n c' → T F [o0, o1, o2, some (.ref b), o4, o5, o6, o7, o8, o9, o10, o11, o12, o13, o14, some (.int (64 * q)), some (.int r), o17, o18, o19, o20, o21, o22, o23, o24] (sup S b c')) :
    (sSeq (sPar 15 16 (dCons (dCB rdInt (dCons (dOp rdAdd (dC (.str "1000000")) (dOp rdMulS (dC (.str "0")) (dCall sp__law_take [] (dCons (dV 3) (dCons (dC (.int 44)) (dNil)))))) (dNil))) (dCons (dOp rdSub (dCall sp__law_take [] (dCons (dV 3) (dCons (dC (.int 9)) (dNil)))) (dC (.int 4))) (dNil))))
  (T)) F [o0, o1, o2, some (.ref b), o4, o5, o6, o7, o8, o9, o10, o11, o12, o13, o14, o15, o16, o17, o18, o19, o20, o21, o22, o23, o24] S := by
  walk_at "vc"
  refine ⟨b, n + 1, c, 44, rfl, by omega, by omega, hb, hc, fun x c1 p1 q1 hc1 => ?_⟩
  obtain ⟨m1, m2⟩ := mul_ok p1 q1
  obtain ⟨q, w1, w2, w3, w4, w5⟩ := wide_text p1 q1
  try walk_at "vc"
  refine ⟨m1, ?_⟩
  try walk_at "vc"
  refine ⟨m2, w4, ?_⟩
  rw [w5]
  try walk_at "vc"
  refine ⟨b, n, c1, 9, rfl, by omega, by omega, sup_same, hc1, fun y c2 p2 q2 hc2 => ?_⟩
  try walk_at "vc"
  rw [sup_sup]
  exact hT q (y - 4) c2 w1 w2 w3 (by omega) (by omega) hc2
theorem law_5 {w r : Int} (r1 : -4 ≤ r) (r2 : r ≤ 4) (hT : T F [o0, o1, o2, o3, o4, o5, o6, o7, o8, o9, o10, o11, o12, o13, o14, some (.int w), some (.int r), some (D.lst [.tup [.int 0, .int (64 * r)], .tup [.int w, .int (64 * r)], .tup [.int w, .int (64 * r + 64)], .tup [.int 0, .int (64 * r + 64)]]), o18, o19, o20, o21, o22, o23, o24] S) :
    (sSeq (sAsg (dLst (dCons (dTup (dCons (dC (.int 0)) (dCons (dOp rdMul (dC (.int 64)) (dV 16)) (dNil)))) (dCons (dTup (dCons (dV 15) (dCons (dOp rdMul (dC (.int 64)) (dV 16)) (dNil)))) (dCons (dTup (dCons (dV 15) (dCons (dOp rdAdd (dOp rdMul (dC (.int 64)) (dV 16)) (dC (.int 64))) (dNil)))) (dCons (dTup (dCons (dC (.int 0)) (dCons (dOp rdAdd (dOp rdMul (dC (.int 64)) (dV 16)) (dC (.int 64))) (dNil)))) (dNil)))))) (gN 17))
  (T)) F [o0, o1, o2, o3, o4, o5, o6, o7, o8, o9, o10, o11, o12, o13, o14, some (.int w), some (.int r), o17, o18, o19, o20, o21, o22, o23, o24] S := by
  have m := cmul_64 (i := 64) (j := r) (by omega) (by omega) (by omega) (by omega)
  walk_at "vc"
  exact ⟨m, m, m, m, hT⟩
theorem law_4 {q r : Int} (r1 : -4 ≤ r) (r2 : r ≤ 4) (w1 : 0 < q) (w2 : Sz 370 (64 * q)) (w3 : (64 * q).fdiv 64 = q) (hT : F.nx [o0, o1, o2, o3, o4, o5, o6, o7, o8, o9, o10, o11, o12, o13, o14, some (.int (64 * q)), some (.int r), some (D.lst [.tup [.int 0, .int (64 * r)], .tup [.int (64 * q), .int (64 * r)], .tup [.int (64 * q), .int (64 * r + 64)], .tup [.int 0, .int (64 * r + 64)]]), o18, o19, o20, o21, o22, o23, o24] S) :
    r_law_t4 F [o0, o1, o2, o3, o4, o5, o6, o7, o8, o9, o10, o11, o12, o13, o14, some (.int (64 * q)), some (.int r), some (D.lst [.tup [.int 0, .int (64 * r)], .tup [.int (64 * q), .int (64 * r)], .tup [.int (64 * q), .int (64 * r + 64)], .tup [.int 0, .int (64 * r + 64)]]), o18, o19, o20, o21, o22, o23, o24] S := by
  obtain ⟨k1, k2, _, _⟩ := gen_cov (gen_strip (r := r) w2 (by omega) (by omega)) false
  unfold r_law_t4
  walk_at "vc"
  refine ⟨true, true, [told 1 (stripM (64 * q) r)], false, false, ?_, k1, k2, fun p hp => ⟨p, _, rfl, sup_same, ?_⟩⟩
  · rw [← strip_hand]
    rfl
  rw [sdel_sup, sdel_none hp, strip_eq w1 w2 (by omega) (by omega)]
  try walk_at "vc"
  refine ⟨cdiv_30 (by omega) (by omega), ?_⟩
  rw [w3]
  refine rdNev_of (f := fun zs : List Spn => .lst (zs.map spanD)) (a := [(r, 0, q)]) (b := [(r, 0, q)]) (same_lst same_span) (fun zs => fit_spans zs) (fun _ _ => rfl) ?_
  simp only [decide_true]
  try walk_at "vc"
  exact hT
end

end K76

set_option maxHeartbeats 1000000
namespace K76
open PySem PySem.Spec PyProof.Rows L2 DL KC KL
local macro_rules | `(tactic| walk_at "vc") => `(tactic| simp only [dV, dC, dOp, dB, dAnd, dOr, dNot, dAndV, dOrV, dNotV, dIf, dNil, dCons, dTup, dLst, dCell, dFrz, sNext, sSeq, sBreak, sCont, sDrop, sRet, sRetN, sIf, sNever, gN, gsNil, gsCons, gT, sAsg, sPar, sPar3, sAug, withV, withO_some,
  asB_bl, asI_int, asS_str, asT_tup, asC_cons, asN_nil, as1_one, as2_two, as3_three, refD_ref, startD, dCall, dCallK, dCB, rdI0, rdAdd_ii, rdAdd_ss, rdAdd_ll, rdSub_ii, rdMul_ii, rdDiv_ii, rdMod_ii, rdPow_ii, dNeg, dChain, rdLt_ii, rdGt_ii, rdLe_ii, rdGe_ii, rdEqv_ii, rdNev_ii, dIsN, dNotN, isNon_non, isNon_int, rdIsi,
  tyD_non, tyD_bl, tyD_int, tyD_str, tyD_lst, tyD_rol, tyD_tup, tyD_rot, clsOf_ty, clsOf_tup, tysOf_nil, tysOf_cons, rdLen_str, rdLen_lst, rdLen_rol, rdLen_tup, seqOf_lst, seqOf_rol, seqOf_tup, seqOf_rot, rdIx_tup, rdIx_lst, rdIx_rol, rdIx_str, atI,
  k_int_int, k_int_bool, k_int_str, k_int_tuple, k_bool_int, k_bool_bool, k_str_str, k_str_int, k_str_tuple, k_tup_int, k_tup_str, k_tup_tup, k_lst_tup, k_lst_seq, k_tup_seq, rdAbs, sWhile, rdMax2_ii, rdMin2_ii, decide_true, decide_false, decide_eq_true_eq, rdInt_int, rdInt_bl, rdInt_str, rdMulS_si, rdList, rdListC, rdTuple, tupOf_lst, tupOf_tup, tupOf_ref, dRng1, dRng2, dRng2B, dRngD, dSeq, dRevR2, dZip, dSlA, rdSlA,
  isRot_tup, isRot_lst, isRot_ref, isTup_tup, isTup_lst, isTup_rol, isTup_ref, oSo, oNo, gSet, dYes, rdGe_pp,
  List.map_cons, List.map_nil, List.cons_append, List.nil_append, List.append_nil, List.length_cons, List.length_nil, List.replicate_succ, List.replicate_zero, Nat.reduceSub, Nat.reduceAdd, List.getElem?_cons_zero, List.getElem?_cons_succ, List.set_cons_zero, List.set_cons_succ, Option.map_some, Option.map_none,
  plain_int, plain_tup, common_ii, seqOf_mk, rdNev_bb, rdEqv_bb, if_true, if_false, Bool.not_true, Bool.not_false, reduceIte, Bool.false_eq_true, dwipe, spanD, true_and, and_true, ix30, ix31, ix32, ix20, ix21, ix40, ix41, ix42, ix43, Option.bind_some, Option.bind_none, sl0, sl1, sl2, sl3, sl4, sl5, sl6, sl7, sl8, sl9, Nat.zero_add])
open K78 (BoxC runs step Good cellsOf)
def Inv (ns : List Int) (_ : Nat) (ρ : Rho) (_ : Sto) : Prop := ∃ as : List Ent, (∀ e ∈ as, EntOk e) ∧ as.length ≤ 2 ∧ ∃ o2 o3 o4 o5 o6 o7 o8 o9 o10 o11 o12 o13 o14 o15 o16 o17 o18 o19 o20 o21 o22 o23 o24 : Option D, ρ = [some (.rol (ns.map D.int)), some (.lst (as.map entD)), o2, o3, o4, o5, o6, o7, o8, o9, o10, o11, o12, o13, o14, o15, o16, o17, o18, o19, o20, o21, o22, o23, o24]
section
variable {F : DL.Fin} {S : Sto} {b : Addr} {c : Cell} {ns : List Int} {as : List Ent} {o2 o3 o4 o5 o6 o7 o8 o9 o10 o11 o12 o13 o14 o15 o16 o17 o18 o19 o20 o21 o22 o23 o24 : Option D}
theorem law_all (ha : ∀ e ∈ as, EntOk e) (hl : as.length ≤ 2) (hc : BoxC 10000 c) (k : Nat) (hn : ∀ ρ S', Inv ns k ρ S' → F.nx ρ S') : r_law_t16 F [some (.rol (ns.map D.int)), some (.lst (as.map entD)), o2, some (.ref b), o4, o5, o6, o7, o8, o9, o10, o11, o12, o13, o14, o15, o16, o17, o18, o19, o20, o21, o22, o23, o24] (sup S b c) := by
  unfold r_law_t16
  refine law_16 (n := 9998) sup_same hc fun base c1 b0 b1 hc1 => ?_
  rw [sup_sup]
  unfold r_law_t15
  refine law_15 (n := 9500) sup_same (BoxC_less hc1 (by omega)) b0 b1 fun rows c2 hs hc2 => ?_
  rw [sup_sup]
  unfold r_law_t14
  refine law_14 hs b0 b1 ?_
  unfold r_law_t13
  refine law_13 hl hs b0 b1 ?_
  have ha2 : ∀ e ∈ as.drop (as.length - 1) ++ [((rows, base) : Ent)], EntOk e := fun e he => by
    rcases List.mem_append.mp he with he | he
    · exact ha e (List.mem_of_mem_drop he)
    · simp only [List.mem_cons, List.not_mem_nil, or_false] at he
      subst he
      exact ⟨hs, b0, b1⟩
  unfold r_law_t12
  refine law_12 ha2 sup_same fun o7 o8 o9 o10 S2 hb2 => ?_
  unfold r_law_t11
  refine law_11 (n := 9499) hb2 hc2 fun far c3 hf hc3 => ?_
  unfold r_law_t10
  refine law_10 (n := 9497) hf sup_same hc3 fun x y c4 x1 x2 y1 y2 hc4 => ?_
  rw [sup_sup]
  unfold r_law_t9
  refine law_9 hs b0 b1 (far_sz x1 x2) (far_sz y1 y2) ?_
  unfold r_law_t8
  refine law_8 hs b0 b1 last_ent ?_
  unfold r_law_t7
  refine law_7 hs b0 b1 x1 x2 y1 y2 ?_
  unfold r_law_t6
  refine law_6 (n := 9495) sup_same hc4 fun q r c5 w1 w2 w3 r1 r2 hc5 => ?_
  rw [sup_sup]
  unfold r_law_t5
  refine law_5 r1 r2 ?_
  refine law_4 r1 r2 w1 w2 w3 ?_
  refine hn _ _ ⟨_, ha2, ?_, _, _, _, _, _, _, _, _, _, _, _, _, _, _, _, _, _, _, _, _, _, _, _, rfl⟩
  rw [List.length_append, List.length_drop]
  simp only [List.length_cons, List.length_nil]
  omega
end
theorem law_box {T : TDS} {F : DL.Fin} {S : Sto} {ns : List Int} {as : List Ent} {k : Nat} {o2 o3 o4 o5 o6 o7 o8 o9 o10 o11 o12 o13 o14 o15 o16 o17 o18 o19 o20 o21 o22 o23 o24 : Option D} (hk : k < 100) (hT : ∀ b c, BoxC 10000 c → T F [some (.rol (ns.map D.int)), some (.lst (as.map entD)), some (.int (k : Int)), some (.ref b), o4, o5, o6, o7, o8, o9, o10, o11, o12, o13, o14, o15, o16, o17, o18, o19, o20, o21, o22, o23, o24] (sup S b c)) :
    (sSeq (sAsg (dCall sp__law_box [] (dCons (dCall sp__law_cell [] (dCons (dV 0) (dCons (dV 2) (dNil)))) (dNil))) (gN 3)) (T)) F [some (.rol (ns.map D.int)), some (.lst (as.map entD)), some (.int (k : Int)), o3, o4, o5, o6, o7, o8, o9, o10, o11, o12, o13, o14, o15, o16, o17, o18, o19, o20, o21, o22, o23, o24] S := by
  walk_at "vc"
  refine ⟨ns, k, rfl, by omega, fun x => ⟨x, rfl, fun b c hb hc => ?_⟩⟩
  try walk_at "vc"
  exact hT b c hc
theorem law_top {T : TDS} {F : DL.Fin} {S : Sto} {ns : List Int} (hl : ns.length ≤ 63) (hT : ∀ (k : Nat) (F2 : DL.Fin) ρ S', k < 100 → Inv ns k ρ S' → (∀ ρ S', Inv ns (k + 1) ρ S' → F2.nx ρ S') → T F2 (ρ.set 2 (some (.int (k : Int)))) S') (hq : ∀ S', F.rt (.bl true) S') :
    (sSeq (sAsg (dLst (dNil)) (gN 1))
  (sSeq (sFor (dRng1 (dCons (dCB rdMax2 (dCons (dC (.int 2)) (dCons (dCB rdMin2 (dCons (dC (.int 4)) (dCons (dCB rdLen (dCons (dV 0) (dNil))) (dNil)))) (dNil)))) (dNil))) (gN 2) T)
  (sRet (dC (.bl true))))) F (startD 25 [.rol (ns.map D.int)]) S := by
  walk_at "vc"
  have hn : (max 2 (min 4 ((ns.map D.int).length : Int))).toNat ≤ 4 := by omega
  refine sForR_of 0 (max 2 (min 4 ((ns.map D.int).length : Int))).toNat S (Inv ns) (fun R h => ?_) ⟨[], by simp, by simp, _, _, _, _, _, _, _, _, _, _, _, _, _, _, _, _, _, _, _, _, _, _, _, rfl⟩ ?_ ?_
  · walk_at "vc"
    exact ⟨by omega, by omega, h⟩
  · rintro k ρ S' hk hi
    rw [show (0 : Int) + (k : Int) = (k : Int) by omega]
    exact hT k _ ρ S' (by omega) hi fun _ _ h => h
  · rintro ρ S' hi
    walk_at "vc"
    exact hq S'
theorem vc_law (ds : List D) (S : Sto) (Q : QD) (h : sp_law ds S Q) : r_law { nx := fun _ S' => Q .non S', rt := Q } (startD 25 ds) S := by
  obtain ⟨ns, rfl, hl, h⟩ := h
  unfold r_law
  refine law_top hl (fun k F2 ρ S' hk hi hn => ?_) fun S' => h S'
  obtain ⟨as, ha, hl2, o2, o3, o4, o5, o6, o7, o8, o9, o10, o11, o12, o13, o14, o15, o16, o17, o18, o19, o20, o21, o22, o23, o24, rfl⟩ := hi
  refine law_box (o2 := none) hk fun b c hc => ?_
  exact law_all (o2 := some (.int (k : Int))) ha hl2 hc (k + 1) hn

end K76

set_option maxHeartbeats 0
/-! that the texts of the defs of law_k76_middles_within do what their readings say. -/
namespace K76
open PySem PySem.Spec PyProof.Rows L2 DL KC KL
def top (i : Nat) : Stmt := PySem.Challenge.pw_hintedpoints_k76_middles_within.main.body.getD i (.Pass ⟨0, 0, 0, 0⟩)
structure Zs (K : PySem.W.Frag) (mg : Str → Option Value) : Prop where
  fr_abs : mg "abs" = none
  fr_all : mg "all" = none
  fr_bool : mg "bool" = none
  fr_enumerate : mg "enumerate" = none
  fr_int : mg "int" = none
  fr_isinstance : mg "isinstance" = none
  fr_len : mg "len" = none
  fr_list : mg "list" = none
  fr_max : mg "max" = none
  fr_min : mg "min" = none
  fr_range : mg "range" = none
  fr_repr : mg "repr" = none
  fr_sorted : mg "sorted" = none
  fr_str : mg "str" = none
  fr_sum : mg "sum" = none
  fr_tuple : mg "tuple" = none
  c_CELL : ∃ t, mg "CELL" = some (.int 64 t)
  c_HALF : ∃ t, mg "HALF" = some (.int 32 t)
  c_MOST_PLACES : ∃ t, mg "MOST_PLACES" = some (.int 100 t)
  c_MOST_POLYGONS : ∃ t, mg "MOST_POLYGONS" = some (.int 4 t)
  c_MOST_ROWS : ∃ t, mg "MOST_ROWS" = some (.int 400 t)
  c_RULES : ∃ a, mg "RULES" = some (.ref a) ∧ ∀ H, SqT K H a [.str "round", .str "odd"]
theorem sc_is_plain : FnScope ["thing"] ["thing"] (defScope (top 7)) := ⟨rfl, rfl, rfl, by decide +kernel, rfl, by decide +kernel, by decide +kernel⟩
theorem sc_common_part : FnScope ["one", "other"] ["one", "other"] (defScope (top 8)) := ⟨rfl, rfl, rfl, by decide +kernel, rfl, by decide +kernel, by decide +kernel⟩
theorem sc_is_part : FnScope ["thing", "top", "base"] ["thing"] (defScope (top 9)) := ⟨rfl, rfl, rfl, by decide +kernel, rfl, by decide +kernel, by decide +kernel⟩
theorem sc_is_number : FnScope ["thing"] ["thing"] (defScope (top 10)) := ⟨rfl, rfl, rfl, by decide +kernel, rfl, by decide +kernel, by decide +kernel⟩
theorem sc_is_list : FnScope ["thing", "low", "high"] ["thing", "low", "high"] (defScope (top 12)) := ⟨rfl, rfl, rfl, by decide +kernel, rfl, by decide +kernel, by decide +kernel⟩
theorem sc_need_parts : FnScope ["parts", "part", "place", "one"] ["parts"] (defScope (top 16)) := ⟨rfl, rfl, rfl, by decide +kernel, rfl, by decide +kernel, by decide +kernel⟩
theorem sc_base_of : FnScope ["number"] ["number"] (defScope (top 17)) := ⟨rfl, rfl, rfl, by decide +kernel, rfl, by decide +kernel, by decide +kernel⟩
theorem sc_scale_of : FnScope ["parts", "many", "base", "part", "place", "number"] ["parts"] (defScope (top 18)) := ⟨rfl, rfl, rfl, by decide +kernel, rfl, by decide +kernel, by decide +kernel⟩
theorem sc_in_wholes : FnScope ["parts", "many", "found", "part", "place", "number"] ["parts"] (defScope (top 19)) := ⟨rfl, rfl, rfl, by decide +kernel, rfl, by decide +kernel, by decide +kernel⟩
theorem sc_whole_of : FnScope ["number", "many"] ["number", "many"] (defScope (top 20)) := ⟨rfl, rfl, rfl, by decide +kernel, rfl, by decide +kernel, by decide +kernel⟩
theorem sc_need_rule : FnScope ["rule"] ["rule"] (defScope (top 26)) := ⟨rfl, rfl, rfl, by decide +kernel, rfl, by decide +kernel, by decide +kernel⟩
theorem sc_first_middle : FnScope ["top", "base"] ["top", "base"] (defScope (top 27)) := ⟨rfl, rfl, rfl, by decide +kernel, rfl, by decide +kernel, by decide +kernel⟩
theorem sc_crossings : FnScope ["parts", "many", "row", "line", "found", "part", "at", "x", "y", "before_x", "before_y", "step", "top", "way"] ["parts", "many", "row"] (defScope (top 28)) := ⟨rfl, rfl, rfl, by decide +kernel, rfl, by decide +kernel, by decide +kernel⟩
theorem sc_in_order : FnScope ["rows", "whole", "top", "base", "way", "places", "here", "up", "many"] ["rows"] (defScope (top 29)) := ⟨rfl, rfl, rfl, by decide +kernel, rfl, by decide +kernel, by decide +kernel⟩
theorem sc_stretches : FnScope ["parts", "many", "row", "rule", "found", "begin", "ups", "count", "here", "base", "up", "number", "within"] ["parts", "many", "row", "rule"] (defScope (top 30)) := ⟨rfl, rfl, rfl, by decide +kernel, rfl, by decide +kernel, by decide +kernel⟩
theorem sc_filled_by : FnScope ["stretch", "drops", "enter", "leave", "base", "begin", "end"] ["stretch", "drops"] (defScope (top 31)) := ⟨rfl, rfl, rfl, by decide +kernel, rfl, by decide +kernel, by decide +kernel⟩
theorem sc_put_together : FnScope ["row", "columns", "found", "begin", "end"] ["row", "columns"] (defScope (top 32)) := ⟨rfl, rfl, rfl, by decide +kernel, rfl, by decide +kernel, by decide +kernel⟩
theorem sc_rows_of : FnScope ["parts", "many", "heights", "first", "part", "x", "y"] ["parts", "many"] (defScope (top 33)) := ⟨rfl, rfl, rfl, by decide +kernel, rfl, by decide +kernel, by decide +kernel⟩
theorem sc_cells : FnScope ["parts", "rule", "drops", "many", "wholes", "first", "count", "found", "row", "columns", "stretch"] ["parts", "rule", "drops"] (defScope (top 34)) := ⟨rfl, rfl, rfl, by decide +kernel, rfl, by decide +kernel, by decide +kernel⟩
theorem sc__law_cell : FnScope ["_law_script", "_law_k"] ["_law_script", "_law_k"] (defScope (top 36)) := ⟨rfl, rfl, rfl, by decide +kernel, rfl, by decide +kernel, by decide +kernel⟩
theorem sc__law_box : FnScope ["_law_cell_here"] ["_law_cell_here"] (defScope (top 37)) := ⟨rfl, rfl, rfl, by decide +kernel, rfl, by decide +kernel, by decide +kernel⟩
theorem sc__law_take : FnScope ["_law_box_here", "_law_many", "_law_digit", "_law_turn", "_law_one"] ["_law_box_here", "_law_many"] (defScope (top 38)) := ⟨rfl, rfl, rfl, by decide +kernel, rfl, by decide +kernel, by decide +kernel⟩
theorem sc__law_number : FnScope ["_law_top", "_law_base", "_law_one", "_law_other"] ["_law_top", "_law_base"] (defScope (top 39)) := ⟨rfl, rfl, rfl, by decide +kernel, rfl, by decide +kernel, by decide +kernel⟩
theorem sc__law_told : FnScope ["_law_pairs", "_law_base", "_law_x", "_law_y"] ["_law_pairs", "_law_base"] (defScope (top 40)) := ⟨rfl, rfl, rfl, by decide +kernel, rfl, by decide +kernel, by decide +kernel⟩
theorem sc__law_polygon : FnScope ["_law_box_here", "_law_base", "_law_way", "_law_x", "_law_y", "_law_wide", "_law_high", "_law_found", "_law_thin", "_law_many", "_law_k"] ["_law_box_here", "_law_base"] (defScope (top 41)) := ⟨rfl, rfl, rfl, by decide +kernel, rfl, by decide +kernel, by decide +kernel⟩
theorem sc__law_longer : FnScope ["_law_pairs", "_law_found", "_law_one"] ["_law_pairs"] (defScope (top 42)) := ⟨rfl, rfl, rfl, by decide +kernel, rfl, by decide +kernel, by decide +kernel⟩
theorem sc__law_scene : FnScope ["_law_box_here", "_law_base", "_law_rows", "_law_k", "_law_pairs", "_law_x", "_law_y"] ["_law_box_here", "_law_base"] (defScope (top 43)) := ⟨rfl, rfl, rfl, by decide +kernel, rfl, by decide +kernel, by decide +kernel⟩
theorem sc__law_spans : FnScope ["_law_cells_of", "_law_found", "_law_row", "_law_column"] ["_law_cells_of"] (defScope (top 44)) := ⟨rfl, rfl, rfl, by decide +kernel, rfl, by decide +kernel, by decide +kernel⟩
theorem sc__law_west : FnScope ["_law_pairs", "_law_x", "_law_y", "_law_ups", "_law_many", "_law_k", "_law_one", "_law_other", "_law_step", "_law_turn"] ["_law_pairs", "_law_x", "_law_y"] (defScope (top 45)) := ⟨rfl, rfl, rfl, by decide +kernel, rfl, by decide +kernel, by decide +kernel⟩
theorem sc__law_within : FnScope ["_law_rows", "_law_x", "_law_y", "_law_odd", "_law_some", "_law_pairs", "_law_ups", "_law_many"] ["_law_rows", "_law_x", "_law_y", "_law_odd"] (defScope (top 46)) := ⟨rfl, rfl, rfl, by decide +kernel, rfl, by decide +kernel, by decide +kernel⟩
theorem sc__law_due : FnScope ["_law_rows", "_law_base", "_law_odd", "_law_found", "_law_flat", "_law_west_here", "_law_east", "_law_low", "_law_high", "_law_row", "_law_column", "_law_x", "_law_y"] ["_law_rows", "_law_base", "_law_odd"] (defScope (top 47)) := ⟨rfl, rfl, rfl, by decide +kernel, rfl, by decide +kernel, by decide +kernel⟩
theorem sc_law : FnScope ["_law_script", "_law_ahead", "_law_k", "_law_box_here", "_law_base", "_law_rows", "_law_handed", "_law_some", "_law_due_here", "_law_stood", "_law_found", "_law_far", "_law_a", "_law_b", "_law_others", "_law_wide", "_law_row", "_law_strip", "_law_pairs", "_law_begin", "_law_end", "_law_x", "_law_y", "_law_odd", "_law_places"] ["_law_script"] (defScope (top 48)) := ⟨rfl, rfl, rfl, by decide +kernel, rfl, by decide +kernel, by decide +kernel⟩
theorem b_is_plain {P : Program} {w : World} {K : PySem.W.Frag} {mg : Str → Option Value} {base : Heap} (Z : Zs K mg)
    {f : Addr} (cdv : Value) (A : Around) (outer : List Env) (s : Shared) (H : Hp) (E : XK) (hr : Room 0 (A.deeper (envOfC "is_plain" (defScope (top 7)) s.heap.objs.size f cdv))) :
    PDSs (cxOf CX0 P w K mg base ["thing"] "is_plain" (defScope (top 7)) f cdv A outer s H E).nox (defBody (top 7)) r_is_plain := by
  have nd := sc_is_plain.nd
  refine pds_one ?_
  · exact pds_ret (pd_and (pd_callB callL_isi callR_isi (by rfl) Z.fr_isinstance (by decide +kernel) (pda_cons (pd_var (pv 0)) (pda_cons (pd_ty (by rfl) Z.fr_int (by first | rfl | decide +kernel)) (pda_nil)))) (pd_one (pd_not (pd_callB callL_isi callR_isi (by rfl) Z.fr_isinstance (by decide +kernel) (pda_cons (pd_var (pv 0)) (pda_cons (pd_ty (by rfl) Z.fr_bool (by first | rfl | decide +kernel)) (pda_nil)))))))
theorem b_common_part {P : Program} {w : World} {K : PySem.W.Frag} {mg : Str → Option Value} {base : Heap} (Z : Zs K mg)
    {f : Addr} (cdv : Value) (A : Around) (outer : List Env) (s : Shared) (H : Hp) (E : XK) (hr : Room 0 (A.deeper (envOfC "common_part" (defScope (top 8)) s.heap.objs.size f cdv))) :
    PDSs (cxOf CX0 P w K mg base ["one", "other"] "common_part" (defScope (top 8)) f cdv A outer s H E).nox (defBody (top 8)) r_common_part := by
  have nd := sc_common_part.nd
  refine pds_cons ?_ (pds_cons ?_ (pds_one ?_))
  · exact pds_par (i := 0) (j := 1) rfl nd rfl rfl (by decide) rfl rfl (pda_cons (pd_callB callL_abs call_abs (by rfl) Z.fr_abs (by decide +kernel) (pda_cons (pd_var (pv 0)) (pda_nil))) (pda_cons (pd_callB callL_abs call_abs (by rfl) Z.fr_abs (by decide +kernel) (pda_cons (pd_var (pv 1)) (pda_nil))) (pda_nil))) (by rfl)
  · refine pds_while PassesOwn.never (pdt_ne hr.units (pd_var (pv 1)) (pd_int)) ?_
    refine pds_one ?_
    · exact pds_par (i := 0) (j := 1) rfl nd rfl rfl (by decide) rfl rfl (pda_cons (pd_var (pv 1)) (pda_cons (pd_mod (pd_var (pv 0)) (pd_var (pv 1))) (pda_nil))) (by rfl)
  · exact pds_ret (pd_var (pv 0))
theorem b_is_part {P : Program} {w : World} {K : PySem.W.Frag} {mg : Str → Option Value} {base : Heap} (Z : Zs K mg)
    {a_is_plain : Addr} {fd_is_plain : FuncData} (D_is_plain : DefAt K mg "is_plain" (top 7) [] a_is_plain fd_is_plain) (G_is_plain : FnOk P w K mg base CX0 1 a_is_plain fd_is_plain ["thing"] (lSp K sp_is_plain))
    {a_common_part : Addr} {fd_common_part : FuncData} (D_common_part : DefAt K mg "common_part" (top 8) [] a_common_part fd_common_part) (G_common_part : FnOk P w K mg base CX0 1 a_common_part fd_common_part ["one", "other"] (lSp K sp_common_part))
    {f : Addr} (cdv : Value) (A : Around) (outer : List Env) (s : Shared) (H : Hp) (E : XK) (hr : Room 1 (A.deeper (envOfC "is_part" (defScope (top 9)) s.heap.objs.size f cdv))) :
    PDSs (cxOf CX0 P w K mg base ["thing", "top", "base"] "is_part" (defScope (top 9)) f cdv A outer s H E).nox (defBody (top 9)) r_is_part := by
  have nd := sc_is_part.nd
  have m_is_plain := D_is_plain.m
  have kp_is_plain := D_is_plain.F.kp
  have m_common_part := D_common_part.m
  have kp_common_part := D_common_part.F.kp
  have B_common_part_2 : Binds K fd_common_part ["one", "other"] [] := FunD.bindsN D_common_part.F fun _ _ _ _ _ _ us hl => match us, hl with | [_, _], _ => rfl
  have R_common_part_2 : Vals [] [] := .nil
  have dd_common_part_2 : ∀ Hb, RepAll K Hb [] [] := fun _ => by simp [RepAll, Rep]
  have B_is_plain_1 : Binds K fd_is_plain ["thing"] [] := FunD.bindsN D_is_plain.F fun _ _ _ _ _ _ us hl => match us, hl with | [_], _ => rfl
  have R_is_plain_1 : Vals [] [] := .nil
  have dd_is_plain_1 : ∀ Hb, RepAll K Hb [] [] := fun _ => by simp [RepAll, Rep]
  refine pds_cons ?_ (pds_cons ?_ (pds_one ?_))
  · refine pds_if (PW.pt (pdw_or (pdt_not (pdt_val (pd_callB callL_isi callR_isi (by rfl) Z.fr_isinstance (by decide +kernel) (pda_cons (pd_var (pv 0)) (pda_cons (pd_ty (by rfl) Z.fr_tuple (by first | rfl | decide +kernel)) (pda_nil)))))) (pdw_or1 (pdt_ne hr.units (pd_callB callL_len call_len (by rfl) Z.fr_len (by decide +kernel) (pda_cons (pd_var (pv 0)) (pda_nil))) (pd_int))))) ?_ ?_
    · refine pds_one ?_
      · exact pds_ret (pd_bl)
    · exact pds_nil
  · exact pds_asg (pd_var (pv 0)) (pdg_tup rfl (pdg_cons (pdg_name (i := 1) nd rfl (by first | exact .inl rfl | exact .inr rfl)) (pdg_cons (pdg_name (i := 2) nd rfl (by first | exact .inl rfl | exact .inr rfl)) (pdg_nil))))
  · exact pds_ret (pd_and (pd_call G_is_plain (hr.mono (by decide)) (by rfl) m_is_plain kp_is_plain B_is_plain_1 R_is_plain_1 (fun Hb => dd_is_plain_1 Hb) (pda_cons (pd_var (pv 1)) (pda_nil))) (pd_and (pd_call G_is_plain (hr.mono (by decide)) (by rfl) m_is_plain kp_is_plain B_is_plain_1 R_is_plain_1 (fun Hb => dd_is_plain_1 Hb) (pda_cons (pd_var (pv 2)) (pda_nil))) (pd_and (pd_gt hr.units (pd_var (pv 2)) (pd_int)) (pd_one (pd_eq hr.units (pd_call G_common_part (hr.mono (by decide)) (by rfl) m_common_part kp_common_part B_common_part_2 R_common_part_2 (fun Hb => dd_common_part_2 Hb) (pda_cons (pd_var (pv 1)) (pda_cons (pd_var (pv 2)) (pda_nil)))) (pd_int))))))
theorem b_is_number {P : Program} {w : World} {K : PySem.W.Frag} {mg : Str → Option Value} {base : Heap} (Z : Zs K mg)
    {a_is_plain : Addr} {fd_is_plain : FuncData} (D_is_plain : DefAt K mg "is_plain" (top 7) [] a_is_plain fd_is_plain) (G_is_plain : FnOk P w K mg base CX0 1 a_is_plain fd_is_plain ["thing"] (lSp K sp_is_plain))
    {a_is_part : Addr} {fd_is_part : FuncData} (D_is_part : DefAt K mg "is_part" (top 9) [] a_is_part fd_is_part) (G_is_part : FnOk P w K mg base CX0 2 a_is_part fd_is_part ["thing"] (lSp K sp_is_part))
    {f : Addr} (cdv : Value) (A : Around) (outer : List Env) (s : Shared) (H : Hp) (E : XK) (hr : Room 2 (A.deeper (envOfC "is_number" (defScope (top 10)) s.heap.objs.size f cdv))) :
    PDSs (cxOf CX0 P w K mg base ["thing"] "is_number" (defScope (top 10)) f cdv A outer s H E).nox (defBody (top 10)) r_is_number := by
  have nd := sc_is_number.nd
  have m_is_plain := D_is_plain.m
  have kp_is_plain := D_is_plain.F.kp
  have m_is_part := D_is_part.m
  have kp_is_part := D_is_part.F.kp
  have B_is_part_1 : Binds K fd_is_part ["thing"] [] := FunD.bindsN D_is_part.F fun _ _ _ _ _ _ us hl => match us, hl with | [_], _ => rfl
  have R_is_part_1 : Vals [] [] := .nil
  have dd_is_part_1 : ∀ Hb, RepAll K Hb [] [] := fun _ => by simp [RepAll, Rep]
  have B_is_plain_1 : Binds K fd_is_plain ["thing"] [] := FunD.bindsN D_is_plain.F fun _ _ _ _ _ _ us hl => match us, hl with | [_], _ => rfl
  have R_is_plain_1 : Vals [] [] := .nil
  have dd_is_plain_1 : ∀ Hb, RepAll K Hb [] [] := fun _ => by simp [RepAll, Rep]
  refine pds_one ?_
  · exact pds_ret (pd_or (pd_call G_is_plain (hr.mono (by decide)) (by rfl) m_is_plain kp_is_plain B_is_plain_1 R_is_plain_1 (fun Hb => dd_is_plain_1 Hb) (pda_cons (pd_var (pv 0)) (pda_nil))) (pd_one (pd_call G_is_part (hr.mono (by decide)) (by rfl) m_is_part kp_is_part B_is_part_1 R_is_part_1 (fun Hb => dd_is_part_1 Hb) (pda_cons (pd_var (pv 0)) (pda_nil)))))
theorem b_is_list {P : Program} {w : World} {K : PySem.W.Frag} {mg : Str → Option Value} {base : Heap} (Z : Zs K mg)
    {f : Addr} (cdv : Value) (A : Around) (outer : List Env) (s : Shared) (H : Hp) (E : XK) (hr : Room 0 (A.deeper (envOfC "is_list" (defScope (top 12)) s.heap.objs.size f cdv))) :
    PDSs (cxOf CX0 P w K mg base ["thing", "low", "high"] "is_list" (defScope (top 12)) f cdv A outer s H E).nox (defBody (top 12)) r_is_list := by
  have nd := sc_is_list.nd
  refine pds_one ?_
  · exact pds_ret (pd_and (pd_callB callL_isi callR_isi (by rfl) Z.fr_isinstance (by decide +kernel) (pda_cons (pd_var (pv 0)) (pda_cons (pd_tup (pda_cons (pd_ty (by rfl) Z.fr_list (by first | rfl | decide +kernel)) (pda_cons (pd_ty (by rfl) Z.fr_tuple (by first | rfl | decide +kernel)) (pda_nil)))) (pda_nil)))) (pd_one (pd_chain opL_ord opL_ord (opR_le hr.units) (opR_le hr.units) (pd_var (pv 1)) (pd_callB callL_len call_len (by rfl) Z.fr_len (by decide +kernel) (pda_cons (pd_var (pv 0)) (pda_nil))) (pd_var (pv 2)))))
theorem b_need_parts {P : Program} {w : World} {K : PySem.W.Frag} {mg : Str → Option Value} {base : Heap} (Z : Zs K mg)
    {a_is_list : Addr} {fd_is_list : FuncData} (D_is_list : DefAt K mg "is_list" (top 12) [] a_is_list fd_is_list) (G_is_list : FnOk P w K mg base CX0 1 a_is_list fd_is_list ["thing", "low", "high"] (lSp K sp_is_list))
    {a_is_number : Addr} {fd_is_number : FuncData} (D_is_number : DefAt K mg "is_number" (top 10) [] a_is_number fd_is_number) (G_is_number : FnOk P w K mg base CX0 3 a_is_number fd_is_number ["thing"] (lSp K sp_is_number))
    {f : Addr} (cdv : Value) (A : Around) (outer : List Env) (s : Shared) (H : Hp) (E : XK) (hr : Room 3 (A.deeper (envOfC "need_parts" (defScope (top 16)) s.heap.objs.size f cdv))) :
    PDSs (cxOf CX0 P w K mg base ["parts", "part", "place", "one"] "need_parts" (defScope (top 16)) f cdv A outer s H E).nox (defBody (top 16)) r_need_parts := by
  have nd := sc_need_parts.nd
  have m_is_list := D_is_list.m
  have kp_is_list := D_is_list.F.kp
  have m_is_number := D_is_number.m
  have kp_is_number := D_is_number.F.kp
  have B_is_list_3 : Binds K fd_is_list ["thing", "low", "high"] [] := FunD.bindsN D_is_list.F fun _ _ _ _ _ _ us hl => match us, hl with | [_, _, _], _ => rfl
  have R_is_list_3 : Vals [] [] := .nil
  have dd_is_list_3 : ∀ Hb, RepAll K Hb [] [] := fun _ => by simp [RepAll, Rep]
  have B_is_number_1 : Binds K fd_is_number ["thing"] [] := FunD.bindsN D_is_number.F fun _ _ _ _ _ _ us hl => match us, hl with | [_], _ => rfl
  have R_is_number_1 : Vals [] [] := .nil
  have dd_is_number_1 : ∀ Hb, RepAll K Hb [] [] := fun _ => by simp [RepAll, Rep]
  refine pds_cons ?_ (pds_one ?_)
  · refine pds_if (pdt_not (pdt_val (pd_call G_is_list (hr.mono (by decide)) (by rfl) m_is_list kp_is_list B_is_list_3 R_is_list_3 (fun Hb => dd_is_list_3 Hb) (pda_cons (pd_var (pv 0)) (pda_cons (pd_int) (pda_cons (pd_gint (by rfl) Z.c_MOST_POLYGONS) (pda_nil))))))) ?_ ?_
    · refine pds_one ?_
      · exact pds_never
    · exact pds_nil
  · refine pds_for PassesOwn.never rfl (pdi_seq (pd_var (pv 0))) (pdg_name (i := 1) nd rfl (by first | exact .inl rfl | exact .inr rfl)) ?_
    refine pds_cons ?_ (pds_one ?_)
    · refine pds_if (pdt_not (pdt_val (pd_call G_is_list (hr.mono (by decide)) (by rfl) m_is_list kp_is_list B_is_list_3 R_is_list_3 (fun Hb => dd_is_list_3 Hb) (pda_cons (pd_var (pv 1)) (pda_cons (pd_int) (pda_cons (pd_gint (by rfl) Z.c_MOST_PLACES) (pda_nil))))))) ?_ ?_
      · refine pds_one ?_
        · exact pds_never
      · exact pds_nil
    · refine pds_for PassesOwn.never rfl (pdi_seq (pd_var (pv 1))) (pdg_name (i := 2) nd rfl (by first | exact .inl rfl | exact .inr rfl)) ?_
      refine pds_one ?_
      · refine pds_if (PW.pt (pdw_or (pdt_not (pdt_val (pd_callB callL_isi callR_isi (by rfl) Z.fr_isinstance (by decide +kernel) (pda_cons (pd_var (pv 2)) (pda_cons (pd_ty (by rfl) Z.fr_tuple (by first | rfl | decide +kernel)) (pda_nil)))))) (pdw_or (pdt_ne hr.units (pd_callB callL_len call_len (by rfl) Z.fr_len (by decide +kernel) (pda_cons (pd_var (pv 2)) (pda_nil))) (pd_int)) (pdw_or1 (pdt_not (pdt_val (pd_callB callL_all (cr_all rfl) (by rfl) Z.fr_all (by decide +kernel) (pda_cons (pd_lc (own := [("one", 3)]) rfl nd (g := gName 3) (pdi_seq (pd_var (pv 2))) (blkOk_by (own := [("one", 3)]) (by rfl)) (fun _ _ _ _ _ => tg_name (i := 3) nd rfl (by first | exact .inl rfl | exact .inr rfl)) (fun _ _ _ _ _ => pdts_nil) (fun _ _ _ _ _ => pd_call G_is_number (hr.mono (by decide)) (by rfl) m_is_number kp_is_number B_is_number_1 R_is_number_1 (fun Hb => dd_is_number_1 Hb) (pda_cons (pd_var (pv 3)) (pda_nil)))) (pda_nil))))))))) ?_ ?_
        · refine pds_one ?_
          · exact pds_never
        · exact pds_nil
theorem b_base_of {P : Program} {w : World} {K : PySem.W.Frag} {mg : Str → Option Value} {base : Heap} (Z : Zs K mg)
    {f : Addr} (cdv : Value) (A : Around) (outer : List Env) (s : Shared) (H : Hp) (E : XK) (hr : Room 0 (A.deeper (envOfC "base_of" (defScope (top 17)) s.heap.objs.size f cdv))) :
    PDSs (cxOf CX0 P w K mg base ["number"] "base_of" (defScope (top 17)) f cdv A outer s H E).nox (defBody (top 17)) r_base_of := by
  have nd := sc_base_of.nd
  refine pds_one ?_
  · exact pds_ret (pd_ifExp (pdt_val (pd_callB callL_isi callR_isi (by rfl) Z.fr_isinstance (by decide +kernel) (pda_cons (pd_var (pv 0)) (pda_cons (pd_ty (by rfl) Z.fr_tuple (by first | rfl | decide +kernel)) (pda_nil))))) (pd_ix (pd_var (pv 0)) (pd_int) (fun _ _ => rfl)) (pd_int))
theorem b_scale_of {P : Program} {w : World} {K : PySem.W.Frag} {mg : Str → Option Value} {base : Heap} (Z : Zs K mg)
    {a_base_of : Addr} {fd_base_of : FuncData} (D_base_of : DefAt K mg "base_of" (top 17) [] a_base_of fd_base_of) (G_base_of : FnOk P w K mg base CX0 1 a_base_of fd_base_of ["number"] (lSp K sp_base_of))
    {a_common_part : Addr} {fd_common_part : FuncData} (D_common_part : DefAt K mg "common_part" (top 8) [] a_common_part fd_common_part) (G_common_part : FnOk P w K mg base CX0 1 a_common_part fd_common_part ["one", "other"] (lSp K sp_common_part))
    {f : Addr} (cdv : Value) (A : Around) (outer : List Env) (s : Shared) (H : Hp) (E : XK) (hr : Room 1 (A.deeper (envOfC "scale_of" (defScope (top 18)) s.heap.objs.size f cdv))) :
    PDSs (cxOf CX0 P w K mg base ["parts", "many", "base", "part", "place", "number"] "scale_of" (defScope (top 18)) f cdv A outer s H E).nox (defBody (top 18)) r_scale_of := by
  have nd := sc_scale_of.nd
  have m_base_of := D_base_of.m
  have kp_base_of := D_base_of.F.kp
  have m_common_part := D_common_part.m
  have kp_common_part := D_common_part.F.kp
  have B_base_of_1 : Binds K fd_base_of ["number"] [] := FunD.bindsN D_base_of.F fun _ _ _ _ _ _ us hl => match us, hl with | [_], _ => rfl
  have R_base_of_1 : Vals [] [] := .nil
  have dd_base_of_1 : ∀ Hb, RepAll K Hb [] [] := fun _ => by simp [RepAll, Rep]
  have B_common_part_2 : Binds K fd_common_part ["one", "other"] [] := FunD.bindsN D_common_part.F fun _ _ _ _ _ _ us hl => match us, hl with | [_, _], _ => rfl
  have R_common_part_2 : Vals [] [] := .nil
  have dd_common_part_2 : ∀ Hb, RepAll K Hb [] [] := fun _ => by simp [RepAll, Rep]
  refine pds_cons ?_ (pds_cons ?_ (pds_one ?_))
  · exact pds_set (i := 1) nd rfl (by first | exact .inl rfl | exact .inr rfl) (pd_int)
  · refine pds_for PassesOwn.never rfl (pdi_seq (pd_lcN (own := [("part", 3), ("place", 4), ("number", 5)]) rfl nd (gV := gName 3) (pdi_seq (pd_var (pv 0))) (blkOk_by (own := [("part", 3), ("place", 4), ("number", 5)]) (by rfl)) (by decide) (fun _ _ _ _ _ => tg_name (i := 3) nd rfl (by first | exact .inl rfl | exact .inr rfl)) (fun _ _ _ _ _ => pdts_nil) (fun _ _ _ _ _ => pdb_for (gV := gName 4) (vs := [4, 5]) rfl rfl (by decide) (pdi_seq (pd_var (pv 3))) (tg_name (i := 4) nd rfl (by first | exact .inl rfl | exact .inr rfl)) (pdts_nil) (pdb_for (gV := gName 5) (vs := [5]) rfl rfl (by decide) (pdi_seq (pd_var (pv 4))) (tg_name (i := 5) nd rfl (by first | exact .inl rfl | exact .inr rfl)) (pdts_nil) (pdb_last rfl rfl (pd_call G_base_of (hr.mono (by decide)) (by rfl) m_base_of kp_base_of B_base_of_1 R_base_of_1 (fun Hb => dd_base_of_1 Hb) (pda_cons (pd_var (pv 5)) (pda_nil)))))))) (pdg_name (i := 2) nd rfl (by first | exact .inl rfl | exact .inr rfl)) ?_
    refine pds_one ?_
    · exact pds_set (i := 1) nd rfl (by first | exact .inl rfl | exact .inr rfl) (pd_fdiv (pd_mul (pd_var (pv 1)) (pd_var (pv 2))) (pd_call G_common_part (hr.mono (by decide)) (by rfl) m_common_part kp_common_part B_common_part_2 R_common_part_2 (fun Hb => dd_common_part_2 Hb) (pda_cons (pd_var (pv 1)) (pda_cons (pd_var (pv 2)) (pda_nil)))))
  · exact pds_ret (pd_var (pv 1))
theorem b_in_wholes {P : Program} {w : World} {K : PySem.W.Frag} {mg : Str → Option Value} {base : Heap} (Z : Zs K mg)
    {a_scale_of : Addr} {fd_scale_of : FuncData} (D_scale_of : DefAt K mg "scale_of" (top 18) [] a_scale_of fd_scale_of) (G_scale_of : FnOk P w K mg base CX0 2 a_scale_of fd_scale_of ["parts"] (lSp K sp_scale_of))
    {a_whole_of : Addr} {fd_whole_of : FuncData} (D_whole_of : DefAt K mg "whole_of" (top 20) [] a_whole_of fd_whole_of) (G_whole_of : FnOk P w K mg base CX0 1 a_whole_of fd_whole_of ["number", "many"] (lSp K sp_whole_of))
    {f : Addr} (cdv : Value) (A : Around) (outer : List Env) (s : Shared) (H : Hp) (E : XK) (hr : Room 2 (A.deeper (envOfC "in_wholes" (defScope (top 19)) s.heap.objs.size f cdv))) :
    PDSs (cxOf CX0 P w K mg base ["parts", "many", "found", "part", "place", "number"] "in_wholes" (defScope (top 19)) f cdv A outer s H E).nox (defBody (top 19)) r_in_wholes := by
  have nd := sc_in_wholes.nd
  have m_scale_of := D_scale_of.m
  have kp_scale_of := D_scale_of.F.kp
  have m_whole_of := D_whole_of.m
  have kp_whole_of := D_whole_of.F.kp
  have B_scale_of_1 : Binds K fd_scale_of ["parts"] [] := FunD.bindsN D_scale_of.F fun _ _ _ _ _ _ us hl => match us, hl with | [_], _ => rfl
  have R_scale_of_1 : Vals [] [] := .nil
  have dd_scale_of_1 : ∀ Hb, RepAll K Hb [] [] := fun _ => by simp [RepAll, Rep]
  have B_whole_of_2 : Binds K fd_whole_of ["number", "many"] [] := FunD.bindsN D_whole_of.F fun _ _ _ _ _ _ us hl => match us, hl with | [_, _], _ => rfl
  have R_whole_of_2 : Vals [] [] := .nil
  have dd_whole_of_2 : ∀ Hb, RepAll K Hb [] [] := fun _ => by simp [RepAll, Rep]
  refine pds_cons ?_ (pds_cons ?_ (pds_cons ?_ (pds_one ?_)))
  · exact pds_set (i := 1) nd rfl (by first | exact .inl rfl | exact .inr rfl) (pd_call G_scale_of (hr.mono (by decide)) (by rfl) m_scale_of kp_scale_of B_scale_of_1 R_scale_of_1 (fun Hb => dd_scale_of_1 Hb) (pda_cons (pd_var (pv 0)) (pda_nil)))
  · exact pds_set (i := 2) nd rfl (by first | exact .inl rfl | exact .inr rfl) (pd_cell (pda_nil))
  · refine pds_for PassesOwn.never rfl (pdi_seq (pd_var (pv 0))) (pdg_name (i := 3) nd rfl (by first | exact .inl rfl | exact .inr rfl)) ?_
    refine pds_one ?_
    · exact pds_expr (pd_append (pd_var (pv 2)) (pd_lc (own := [("place", 4)]) rfl nd (g := gName 4) (pdi_seq (pd_var (pv 3))) (blkOk_by (own := [("place", 4)]) (by rfl)) (fun _ _ _ _ _ => tg_name (i := 4) nd rfl (by first | exact .inl rfl | exact .inr rfl)) (fun _ _ _ _ _ => pdts_nil) (fun _ _ _ _ _ => pd_callTy callL_tuple call_tuple_of (by rfl) Z.fr_tuple (by decide +kernel) (pda_cons (pd_lc (own := [("number", 5)]) rfl nd (g := gName 5) (pdi_seq (pd_var (pv 4))) (blkOk_by (own := [("number", 5)]) (by rfl)) (fun _ _ _ _ _ => tg_name (i := 5) nd rfl (by first | exact .inl rfl | exact .inr rfl)) (fun _ _ _ _ _ => pdts_nil) (fun _ _ _ _ _ => pd_call G_whole_of (hr.mono (by decide)) (by rfl) m_whole_of kp_whole_of B_whole_of_2 R_whole_of_2 (fun Hb => dd_whole_of_2 Hb) (pda_cons (pd_var (pv 5)) (pda_cons (pd_var (pv 1)) (pda_nil))))) (pda_nil)))))
  · exact pds_ret (pd_frz (pd_var (pv 2)))
theorem b_whole_of {P : Program} {w : World} {K : PySem.W.Frag} {mg : Str → Option Value} {base : Heap} (Z : Zs K mg)
    {f : Addr} (cdv : Value) (A : Around) (outer : List Env) (s : Shared) (H : Hp) (E : XK) (hr : Room 0 (A.deeper (envOfC "whole_of" (defScope (top 20)) s.heap.objs.size f cdv))) :
    PDSs (cxOf CX0 P w K mg base ["number", "many"] "whole_of" (defScope (top 20)) f cdv A outer s H E).nox (defBody (top 20)) r_whole_of := by
  have nd := sc_whole_of.nd
  refine pds_cons ?_ (pds_one ?_)
  · refine pds_if (pdt_val (pd_callB callL_isi callR_isi (by rfl) Z.fr_isinstance (by decide +kernel) (pda_cons (pd_var (pv 0)) (pda_cons (pd_ty (by rfl) Z.fr_tuple (by first | rfl | decide +kernel)) (pda_nil))))) ?_ ?_
    · refine pds_one ?_
      · exact pds_ret (pd_mul (pd_ix (pd_var (pv 0)) (pd_int) (fun _ _ => rfl)) (pd_fdiv (pd_var (pv 1)) (pd_ix (pd_var (pv 0)) (pd_int) (fun _ _ => rfl))))
    · exact pds_nil
  · exact pds_ret (pd_mul (pd_var (pv 0)) (pd_var (pv 1)))
theorem b_need_rule {P : Program} {w : World} {K : PySem.W.Frag} {mg : Str → Option Value} {base : Heap} (Z : Zs K mg)
    {f : Addr} (cdv : Value) (A : Around) (outer : List Env) (s : Shared) (H : Hp) (E : XK) (hr : Room 0 (A.deeper (envOfC "need_rule" (defScope (top 26)) s.heap.objs.size f cdv))) :
    PDSs (cxOf CX0 P w K mg base ["rule"] "need_rule" (defScope (top 26)) f cdv A outer s H E).nox (defBody (top 26)) r_need_rule := by
  have nd := sc_need_rule.nd
  refine pds_one ?_
  · refine pds_if (PW.pt (pdw_or (pdt_not (pdt_val (pd_callB callL_isi callR_isi (by rfl) Z.fr_isinstance (by decide +kernel) (pda_cons (pd_var (pv 0)) (pda_cons (pd_ty (by rfl) Z.fr_str (by first | rfl | decide +kernel)) (pda_nil)))))) (pdw_or1 (pdt_notIn hr.units (pd_var (pv 0)) (pd_gtup (by rfl) Z.c_RULES (fun _ => by simp [RepAll, Rep])) (by rfl))))) ?_ ?_
    · refine pds_one ?_
      · exact pds_never
    · exact pds_nil
theorem b_first_middle {P : Program} {w : World} {K : PySem.W.Frag} {mg : Str → Option Value} {base : Heap} (Z : Zs K mg)
    {f : Addr} (cdv : Value) (A : Around) (outer : List Env) (s : Shared) (H : Hp) (E : XK) (hr : Room 0 (A.deeper (envOfC "first_middle" (defScope (top 27)) s.heap.objs.size f cdv))) :
    PDSs (cxOf CX0 P w K mg base ["top", "base"] "first_middle" (defScope (top 27)) f cdv A outer s H E).nox (defBody (top 27)) r_first_middle := by
  have nd := sc_first_middle.nd
  refine pds_one ?_
  · exact pds_ret (pd_sub (pd_int) (pd_fdiv (pd_sub (pd_mul (pd_gint (by rfl) Z.c_HALF) (pd_var (pv 1))) (pd_var (pv 0))) (pd_mul (pd_gint (by rfl) Z.c_CELL) (pd_var (pv 1)))))
theorem b_crossings {P : Program} {w : World} {K : PySem.W.Frag} {mg : Str → Option Value} {base : Heap} (Z : Zs K mg)
    {f : Addr} (cdv : Value) (A : Around) (outer : List Env) (s : Shared) (H : Hp) (E : XK) (hr : Room 0 (A.deeper (envOfC "crossings" (defScope (top 28)) s.heap.objs.size f cdv))) :
    PDSs (cxOf CX0 P w K mg base ["parts", "many", "row", "line", "found", "part", "at", "x", "y", "before_x", "before_y", "step", "top", "way"] "crossings" (defScope (top 28)) f cdv A outer s H E).nox (defBody (top 28)) r_crossings := by
  have nd := sc_crossings.nd
  refine pds_cons ?_ (pds_cons ?_ (pds_cons ?_ (pds_one ?_)))
  · exact pds_set (i := 3) nd rfl (by first | exact .inl rfl | exact .inr rfl) (pd_mul (pd_add (pd_mul (pd_gint (by rfl) Z.c_CELL) (pd_var (pv 2))) (pd_gint (by rfl) Z.c_HALF)) (pd_var (pv 1)))
  · exact pds_set (i := 4) nd rfl (by first | exact .inl rfl | exact .inr rfl) (pd_cell (pda_nil))
  · refine pds_for PassesOwn.never rfl (pdi_seq (pd_var (pv 0))) (pdg_name (i := 5) nd rfl (by first | exact .inl rfl | exact .inr rfl)) ?_
    refine pds_one ?_
    · refine pds_for PassesOwn.never rfl (pdi_enum (by rfl) Z.fr_enumerate (pda_cons (pd_var (pv 5)) (pda_nil))) (pdg_tup rfl (pdg_cons (pdg_name (i := 6) nd rfl (by first | exact .inl rfl | exact .inr rfl)) (pdg_cons (pdg_tup rfl (pdg_cons (pdg_name (i := 7) nd rfl (by first | exact .inl rfl | exact .inr rfl)) (pdg_cons (pdg_name (i := 8) nd rfl (by first | exact .inl rfl | exact .inr rfl)) (pdg_nil)))) (pdg_nil)))) ?_
      refine pds_cons ?_ (pds_one ?_)
      · exact pds_asg (pd_ix (pd_var (pv 5)) (pd_sub (pd_var (pv 6)) (pd_int)) (fun _ _ => rfl)) (pdg_tup rfl (pdg_cons (pdg_name (i := 9) nd rfl (by first | exact .inl rfl | exact .inr rfl)) (pdg_cons (pdg_name (i := 10) nd rfl (by first | exact .inl rfl | exact .inr rfl)) (pdg_nil))))
      · refine pds_if (pdt_ne hr.units (pd_gt hr.units (pd_var (pv 10)) (pd_var (pv 3))) (pd_gt hr.units (pd_var (pv 8)) (pd_var (pv 3)))) ?_ ?_
        · refine pds_cons ?_ (pds_cons ?_ (pds_cons ?_ (pds_one ?_)))
          · exact pds_set (i := 11) nd rfl (by first | exact .inl rfl | exact .inr rfl) (pd_sub (pd_var (pv 8)) (pd_var (pv 10)))
          · exact pds_set (i := 12) nd rfl (by first | exact .inl rfl | exact .inr rfl) (pd_add (pd_mul (pd_var (pv 9)) (pd_var (pv 11))) (pd_mul (pd_sub (pd_var (pv 3)) (pd_var (pv 10))) (pd_sub (pd_var (pv 7)) (pd_var (pv 9)))))
          · exact pds_set (i := 13) nd rfl (by first | exact .inl rfl | exact .inr rfl) (pd_ifExp (pdt_gt hr.units (pd_var (pv 11)) (pd_int)) (pd_int) (pd_neg (pd_int)))
          · exact pds_expr (pd_append (pd_var (pv 4)) (pd_tup (pda_cons (pd_mul (pd_var (pv 12)) (pd_var (pv 13))) (pda_cons (pd_mul (pd_mul (pd_var (pv 11)) (pd_var (pv 13))) (pd_var (pv 1))) (pda_cons (pd_var (pv 13)) (pda_nil))))))
        · exact pds_nil
  · exact pds_ret (pd_frz (pd_var (pv 4)))
theorem b_in_order {P : Program} {w : World} {K : PySem.W.Frag} {mg : Str → Option Value} {base : Heap} (Z : Zs K mg)
    {a_common_part : Addr} {fd_common_part : FuncData} (D_common_part : DefAt K mg "common_part" (top 8) [] a_common_part fd_common_part) (G_common_part : FnOk P w K mg base CX0 1 a_common_part fd_common_part ["one", "other"] (lSp K sp_common_part))
    {f : Addr} (cdv : Value) (A : Around) (outer : List Env) (s : Shared) (H : Hp) (E : XK) (hr : Room 1 (A.deeper (envOfC "in_order" (defScope (top 29)) s.heap.objs.size f cdv))) :
    PDSs (cxOf CX0 P w K mg base ["rows", "whole", "top", "base", "way", "places", "here", "up", "many"] "in_order" (defScope (top 29)) f cdv A outer s H E).nox (defBody (top 29)) r_in_order := by
  have nd := sc_in_order.nd
  have m_common_part := D_common_part.m
  have kp_common_part := D_common_part.F.kp
  have B_common_part_2 : Binds K fd_common_part ["one", "other"] [] := FunD.bindsN D_common_part.F fun _ _ _ _ _ _ us hl => match us, hl with | [_, _], _ => rfl
  have R_common_part_2 : Vals [] [] := .nil
  have dd_common_part_2 : ∀ Hb, RepAll K Hb [] [] := fun _ => by simp [RepAll, Rep]
  refine pds_cons ?_ (pds_cons ?_ (pds_cons ?_ (pds_cons ?_ (pds_one ?_))))
  · exact pds_set (i := 1) nd rfl (by first | exact .inl rfl | exact .inr rfl) (pd_int)
  · refine pds_for PassesOwn.never rfl (pdi_seq (pd_var (pv 0))) (pdg_tup rfl (pdg_cons (pdg_name (i := 2) nd rfl (by first | exact .inl rfl | exact .inr rfl)) (pdg_cons (pdg_name (i := 3) nd rfl (by first | exact .inl rfl | exact .inr rfl)) (pdg_cons (pdg_name (i := 4) nd rfl (by first | exact .inl rfl | exact .inr rfl)) (pdg_nil))))) ?_
    refine pds_one ?_
    · exact pds_set (i := 1) nd rfl (by first | exact .inl rfl | exact .inr rfl) (pd_fdiv (pd_mul (pd_var (pv 1)) (pd_var (pv 3))) (pd_call G_common_part (hr.mono (by decide)) (by rfl) m_common_part kp_common_part B_common_part_2 R_common_part_2 (fun Hb => dd_common_part_2 Hb) (pda_cons (pd_var (pv 1)) (pda_cons (pd_var (pv 3)) (pda_nil)))))
  · exact pds_set (i := 5) nd rfl (by first | exact .inl rfl | exact .inr rfl) (pd_dct)
  · refine pds_for PassesOwn.never rfl (pdi_seq (pd_var (pv 0))) (pdg_tup rfl (pdg_cons (pdg_name (i := 2) nd rfl (by first | exact .inl rfl | exact .inr rfl)) (pdg_cons (pdg_name (i := 3) nd rfl (by first | exact .inl rfl | exact .inr rfl)) (pdg_cons (pdg_name (i := 4) nd rfl (by first | exact .inl rfl | exact .inr rfl)) (pdg_nil))))) ?_
    refine pds_cons ?_ (pds_cons ?_ (pds_one ?_))
    · exact pds_set (i := 6) nd rfl (by first | exact .inl rfl | exact .inr rfl) (pd_mul (pd_var (pv 2)) (pd_fdiv (pd_var (pv 1)) (pd_var (pv 3))))
    · exact pds_asg (pd_get2 (hu1 hr) (pd_var (pv 5)) (pd_var (pv 6)) (pd_tup (pda_cons (pd_int) (pda_cons (pd_int) (pda_nil))))) (pdg_tup rfl (pdg_cons (pdg_name (i := 7) nd rfl (by first | exact .inl rfl | exact .inr rfl)) (pdg_cons (pdg_name (i := 8) nd rfl (by first | exact .inl rfl | exact .inr rfl)) (pdg_nil))))
    · exact pds_put (hu1 hr) (pd_var (pv 5)) (pd_var (pv 6)) (pd_tup (pda_cons (pd_add (pd_var (pv 7)) (pd_var (pv 4))) (pda_cons (pd_add (pd_var (pv 8)) (pd_int)) (pda_nil))))
  · exact pds_ret (pd_lc (own := [("here", 6), ("up", 7), ("many", 8)]) rfl nd (g := gTup K 2 (gCons (gName 6) (gCons (gTup K 2 (gCons (gName 7) (gCons (gName 8) (gNil)))) (gNil)))) (pdi_seq (pd_sortI rfl hr.units (pd_var (pv 5)) (by rfl) Z.fr_sorted (by decide +kernel))) (blkOk_by (own := [("here", 6), ("up", 7), ("many", 8)]) (by rfl)) (fun _ _ _ _ _ => tg_tup rfl (tgs_cons (tg_name (i := 6) nd rfl (by first | exact .inl rfl | exact .inr rfl)) (tgs_cons (tg_tup rfl (tgs_cons (tg_name (i := 7) nd rfl (by first | exact .inl rfl | exact .inr rfl)) (tgs_cons (tg_name (i := 8) nd rfl (by first | exact .inl rfl | exact .inr rfl)) (tgs_nil)))) (tgs_nil)))) (fun _ _ _ _ _ => pdts_nil) (fun _ _ _ _ _ => pd_tup (pda_cons (pd_var (pv 6)) (pda_cons (pd_var (pv 1)) (pda_cons (pd_var (pv 7)) (pda_cons (pd_var (pv 8)) (pda_nil)))))))
theorem b_stretches {P : Program} {w : World} {K : PySem.W.Frag} {mg : Str → Option Value} {base : Heap} (Z : Zs K mg)
    {a_in_order : Addr} {fd_in_order : FuncData} (D_in_order : DefAt K mg "in_order" (top 29) [] a_in_order fd_in_order) (G_in_order : FnOk P w K mg base CX0 2 a_in_order fd_in_order ["rows"] (lSp K sp_in_order))
    {a_crossings : Addr} {fd_crossings : FuncData} (D_crossings : DefAt K mg "crossings" (top 28) [] a_crossings fd_crossings) (G_crossings : FnOk P w K mg base CX0 1 a_crossings fd_crossings ["parts", "many", "row"] (lSp K sp_crossings))
    {f : Addr} (cdv : Value) (A : Around) (outer : List Env) (s : Shared) (H : Hp) (E : XK) (hr : Room 2 (A.deeper (envOfC "stretches" (defScope (top 30)) s.heap.objs.size f cdv))) :
    PDSs (cxOf CX0 P w K mg base ["parts", "many", "row", "rule", "found", "begin", "ups", "count", "here", "base", "up", "number", "within"] "stretches" (defScope (top 30)) f cdv A outer s H E).nox (defBody (top 30)) r_stretches := by
  have nd := sc_stretches.nd
  have m_in_order := D_in_order.m
  have kp_in_order := D_in_order.F.kp
  have m_crossings := D_crossings.m
  have kp_crossings := D_crossings.F.kp
  have B_crossings_3 : Binds K fd_crossings ["parts", "many", "row"] [] := FunD.bindsN D_crossings.F fun _ _ _ _ _ _ us hl => match us, hl with | [_, _, _], _ => rfl
  have R_crossings_3 : Vals [] [] := .nil
  have dd_crossings_3 : ∀ Hb, RepAll K Hb [] [] := fun _ => by simp [RepAll, Rep]
  have B_in_order_1 : Binds K fd_in_order ["rows"] [] := FunD.bindsN D_in_order.F fun _ _ _ _ _ _ us hl => match us, hl with | [_], _ => rfl
  have R_in_order_1 : Vals [] [] := .nil
  have dd_in_order_1 : ∀ Hb, RepAll K Hb [] [] := fun _ => by simp [RepAll, Rep]
  refine pds_cons ?_ (pds_cons ?_ (pds_cons ?_ (pds_one ?_)))
  · exact pds_set (i := 4) nd rfl (by first | exact .inl rfl | exact .inr rfl) (pd_cell (pda_nil))
  · exact pds_asg (pd_tup (pda_cons (pd_non) (pda_cons (pd_int) (pda_cons (pd_int) (pda_nil))))) (pdg_tup rfl (pdg_cons (pdg_name (i := 5) nd rfl (by first | exact .inl rfl | exact .inr rfl)) (pdg_cons (pdg_name (i := 6) nd rfl (by first | exact .inl rfl | exact .inr rfl)) (pdg_cons (pdg_name (i := 7) nd rfl (by first | exact .inl rfl | exact .inr rfl)) (pdg_nil)))))
  · refine pds_for PassesOwn.never rfl (pdi_seq (pd_call G_in_order (hr.mono (by decide)) (by rfl) m_in_order kp_in_order B_in_order_1 R_in_order_1 (fun Hb => dd_in_order_1 Hb) (pda_cons (pd_call G_crossings (hr.mono (by decide)) (by rfl) m_crossings kp_crossings B_crossings_3 R_crossings_3 (fun Hb => dd_crossings_3 Hb) (pda_cons (pd_var (pv 0)) (pda_cons (pd_var (pv 1)) (pda_cons (pd_var (pv 2)) (pda_nil))))) (pda_nil)))) (pdg_tup rfl (pdg_cons (pdg_name (i := 8) nd rfl (by first | exact .inl rfl | exact .inr rfl)) (pdg_cons (pdg_name (i := 9) nd rfl (by first | exact .inl rfl | exact .inr rfl)) (pdg_cons (pdg_name (i := 10) nd rfl (by first | exact .inl rfl | exact .inr rfl)) (pdg_cons (pdg_name (i := 11) nd rfl (by first | exact .inl rfl | exact .inr rfl)) (pdg_nil)))))) ?_
    refine pds_cons ?_ (pds_cons ?_ (pds_cons ?_ (pds_one ?_)))
    · exact pds_augAdd (i := 6) nd rfl (by first | exact .inl rfl | exact .inr rfl) (pd_var (pv 10))
    · exact pds_augAdd (i := 7) nd rfl (by first | exact .inl rfl | exact .inr rfl) (pd_var (pv 11))
    · exact pds_set (i := 12) nd rfl (by first | exact .inl rfl | exact .inr rfl) (pd_ifExp (pdt_eq hr.units (pd_var (pv 3)) (pd_str)) (pd_ne hr.units (pd_var (pv 6)) (pd_int)) (pd_eq hr.units (pd_mod (pd_var (pv 7)) (pd_int)) (pd_int)))
    · refine pds_if (PW.pt (pdw_and (pdt_val (pd_var (pv 12))) (pdw_and1 (pdt_isN (pd_var (pv 5)))))) ?_ ?_
      · refine pds_one ?_
        · exact pds_set (i := 5) nd rfl (by first | exact .inl rfl | exact .inr rfl) (pd_var (pv 8))
      · refine pds_one ?_
        · refine pds_if (PW.pt (pdw_and (pdt_not (pdt_val (pd_var (pv 12)))) (pdw_and1 (pdt_notN (pd_var (pv 5)))))) ?_ ?_
          · refine pds_cons ?_ (pds_one ?_)
            · exact pds_expr (pd_append (pd_var (pv 4)) (pd_tup (pda_cons (pd_var (pv 5)) (pda_cons (pd_var (pv 8)) (pda_cons (pd_var (pv 9)) (pda_nil))))))
            · exact pds_set (i := 5) nd rfl (by first | exact .inl rfl | exact .inr rfl) (pd_non)
          · exact pds_nil
  · exact pds_ret (pd_frz (pd_var (pv 4)))
theorem b_filled_by {P : Program} {w : World} {K : PySem.W.Frag} {mg : Str → Option Value} {base : Heap} (Z : Zs K mg)
    {a_first_middle : Addr} {fd_first_middle : FuncData} (D_first_middle : DefAt K mg "first_middle" (top 27) [] a_first_middle fd_first_middle) (G_first_middle : FnOk P w K mg base CX0 1 a_first_middle fd_first_middle ["top", "base"] (lSp K sp_first_middle))
    {f : Addr} (cdv : Value) (A : Around) (outer : List Env) (s : Shared) (H : Hp) (E : XK) (hr : Room 1 (A.deeper (envOfC "filled_by" (defScope (top 31)) s.heap.objs.size f cdv))) :
    PDSs (cxOf CX0 P w K mg base ["stretch", "drops", "enter", "leave", "base", "begin", "end"] "filled_by" (defScope (top 31)) f cdv A outer s H E).nox (defBody (top 31)) r_filled_by := by
  have nd := sc_filled_by.nd
  have m_first_middle := D_first_middle.m
  have kp_first_middle := D_first_middle.F.kp
  have B_first_middle_2 : Binds K fd_first_middle ["top", "base"] [] := FunD.bindsN D_first_middle.F fun _ _ _ _ _ _ us hl => match us, hl with | [_, _], _ => rfl
  have R_first_middle_2 : Vals [] [] := .nil
  have dd_first_middle_2 : ∀ Hb, RepAll K Hb [] [] := fun _ => by simp [RepAll, Rep]
  refine pds_cons ?_ (pds_cons ?_ (pds_cons ?_ (pds_one ?_)))
  · exact pds_asg (pd_var (pv 0)) (pdg_tup rfl (pdg_cons (pdg_name (i := 2) nd rfl (by first | exact .inl rfl | exact .inr rfl)) (pdg_cons (pdg_name (i := 3) nd rfl (by first | exact .inl rfl | exact .inr rfl)) (pdg_cons (pdg_name (i := 4) nd rfl (by first | exact .inl rfl | exact .inr rfl)) (pdg_nil)))))
  · exact pds_par (i := 5) (j := 6) rfl nd rfl rfl (by decide) rfl rfl (pda_cons (pd_call G_first_middle (hr.mono (by decide)) (by rfl) m_first_middle kp_first_middle B_first_middle_2 R_first_middle_2 (fun Hb => dd_first_middle_2 Hb) (pda_cons (pd_var (pv 2)) (pda_cons (pd_var (pv 4)) (pda_nil)))) (pda_cons (pd_call G_first_middle (hr.mono (by decide)) (by rfl) m_first_middle kp_first_middle B_first_middle_2 R_first_middle_2 (fun Hb => dd_first_middle_2 Hb) (pda_cons (pd_var (pv 3)) (pda_cons (pd_var (pv 4)) (pda_nil)))) (pda_nil))) (by rfl)
  · refine pds_if (PW.pt (pdw_and (pdt_eq hr.units (pd_var (pv 5)) (pd_var (pv 6))) (pdw_and1 (pdt_val (pd_var (pv 1)))))) ?_ ?_
    · refine pds_cons ?_ (pds_one ?_)
      · exact pds_set (i := 5) nd rfl (by first | exact .inl rfl | exact .inr rfl) (pd_sub (pd_sub (pd_int) (pd_fdiv (pd_sub (pd_sub (pd_int) (pd_var (pv 2))) (pd_var (pv 3))) (pd_mul (pd_mul (pd_int) (pd_gint (by rfl) Z.c_CELL)) (pd_var (pv 4))))) (pd_int))
      · exact pds_set (i := 6) nd rfl (by first | exact .inl rfl | exact .inr rfl) (pd_add (pd_var (pv 5)) (pd_int))
    · exact pds_nil
  · exact pds_ret (pd_tup (pda_cons (pd_var (pv 5)) (pda_cons (pd_var (pv 6)) (pda_nil))))
theorem b_put_together {P : Program} {w : World} {K : PySem.W.Frag} {mg : Str → Option Value} {base : Heap} (Z : Zs K mg)
    {f : Addr} (cdv : Value) (A : Around) (outer : List Env) (s : Shared) (H : Hp) (E : XK) (hr : Room 0 (A.deeper (envOfC "put_together" (defScope (top 32)) s.heap.objs.size f cdv))) :
    PDSs (cxOf CX0 P w K mg base ["row", "columns", "found", "begin", "end"] "put_together" (defScope (top 32)) f cdv A outer s H E).nox (defBody (top 32)) r_put_together := by
  have nd := sc_put_together.nd
  refine pds_cons ?_ (pds_cons ?_ (pds_one ?_))
  · exact pds_set (i := 2) nd rfl (by first | exact .inl rfl | exact .inr rfl) (pd_cell (pda_nil))
  · refine pds_for PassesOwn.never rfl (pdi_seq (pd_callB callL_srt (callR_srt hr.units) (by rfl) Z.fr_sorted (by decide +kernel) (pda_cons (pd_var (pv 1)) (pda_nil)))) (pdg_tup rfl (pdg_cons (pdg_name (i := 3) nd rfl (by first | exact .inl rfl | exact .inr rfl)) (pdg_cons (pdg_name (i := 4) nd rfl (by first | exact .inl rfl | exact .inr rfl)) (pdg_nil)))) ?_
    refine pds_cons ?_ (pds_one ?_)
    · refine pds_if (pdt_eq hr.units (pd_var (pv 3)) (pd_var (pv 4))) ?_ ?_
      · refine pds_one ?_
        · exact pds_continue
      · exact pds_nil
    · refine pds_if (PW.pt (pdw_and (pdt_ne hr.units (pd_var (pv 2)) (pd_lst (pda_nil))) (pdw_and1 (pdt_le hr.units (pd_var (pv 3)) (by exact (pd_ix (pd_ix (pd_var (pv 2)) (pd_neg (pd_int)) (fun _ _ => rfl)) (pd_int) (fun _ _ => rfl))))))) ?_ ?_
      · refine pds_one ?_
        · exact pds_asg (pd_tup (pda_cons (pd_var (pv 0)) (pda_cons (by exact (pd_ix (pd_ix (pd_var (pv 2)) (pd_neg (pd_int)) (fun _ _ => rfl)) (pd_int) (fun _ _ => rfl))) (pda_cons (pd_callB callL_max2 (call_max2 rfl) (by rfl) Z.fr_max (by decide +kernel) (pda_cons (by exact (pd_ix (pd_ix (pd_var (pv 2)) (pd_neg (pd_int)) (fun _ _ => rfl)) (pd_int) (fun _ _ => rfl))) (pda_cons (pd_var (pv 4)) (pda_nil)))) (pda_nil))))) (pdg_set (pd_var (pv 2)) (pd_neg (pd_int)))
      · refine pds_one ?_
        · exact pds_expr (pd_append (pd_var (pv 2)) (pd_tup (pda_cons (pd_var (pv 0)) (pda_cons (pd_var (pv 3)) (pda_cons (pd_var (pv 4)) (pda_nil))))))
  · exact pds_ret (pd_frz (pd_var (pv 2)))
theorem b_rows_of {P : Program} {w : World} {K : PySem.W.Frag} {mg : Str → Option Value} {base : Heap} (Z : Zs K mg)
    {a_first_middle : Addr} {fd_first_middle : FuncData} (D_first_middle : DefAt K mg "first_middle" (top 27) [] a_first_middle fd_first_middle) (G_first_middle : FnOk P w K mg base CX0 1 a_first_middle fd_first_middle ["top", "base"] (lSp K sp_first_middle))
    {f : Addr} (cdv : Value) (A : Around) (outer : List Env) (s : Shared) (H : Hp) (E : XK) (hr : Room 1 (A.deeper (envOfC "rows_of" (defScope (top 33)) s.heap.objs.size f cdv))) :
    PDSs (cxOf CX0 P w K mg base ["parts", "many", "heights", "first", "part", "x", "y"] "rows_of" (defScope (top 33)) f cdv A outer s H E).nox (defBody (top 33)) r_rows_of := by
  have nd := sc_rows_of.nd
  have m_first_middle := D_first_middle.m
  have kp_first_middle := D_first_middle.F.kp
  have B_first_middle_2 : Binds K fd_first_middle ["top", "base"] [] := FunD.bindsN D_first_middle.F fun _ _ _ _ _ _ us hl => match us, hl with | [_, _], _ => rfl
  have R_first_middle_2 : Vals [] [] := .nil
  have dd_first_middle_2 : ∀ Hb, RepAll K Hb [] [] := fun _ => by simp [RepAll, Rep]
  refine pds_cons ?_ (pds_cons ?_ (pds_one ?_))
  · exact pds_setLcN (i := 2) (own := [("part", 4), ("x", 5), ("y", 6)]) rfl nd rfl rfl (sw_true rfl rfl rfl (by decide +kernel)) (gV := gName 4) (pdi_seq (pd_var (pv 0))) (blkOk_by (own := [("part", 4), ("x", 5), ("y", 6)]) (by rfl)) (by decide) (fun _ _ _ _ _ => tg_name (i := 4) nd rfl (by first | exact .inl rfl | exact .inr rfl)) (fun _ _ _ _ _ => pdts_nil) (fun _ _ _ _ _ => pdb_for (gV := gTup K 2 (gCons (gName 5) (gCons (gName 6) (gNil)))) (vs := [5, 6]) rfl rfl (by decide) (pdi_seq (pd_var (pv 4))) (tg_tup rfl (tgs_cons (tg_name (i := 5) nd rfl (by first | exact .inl rfl | exact .inr rfl)) (tgs_cons (tg_name (i := 6) nd rfl (by first | exact .inl rfl | exact .inr rfl)) (tgs_nil)))) (pdts_nil) (pdb_last rfl rfl (pd_var (pv 6))))
  · exact pds_set (i := 3) nd rfl (by first | exact .inl rfl | exact .inr rfl) (pd_call G_first_middle (hr.mono (by decide)) (by rfl) m_first_middle kp_first_middle B_first_middle_2 R_first_middle_2 (fun Hb => dd_first_middle_2 Hb) (pda_cons (pd_callB callL_minL (cr_min rfl) (by rfl) Z.fr_min (by decide +kernel) (pda_cons (pd_var (pv 2)) (pda_nil))) (pda_cons (pd_var (pv 1)) (pda_nil))))
  · exact pds_ret (pd_tup (pda_cons (pd_var (pv 3)) (pda_cons (pd_sub (pd_call G_first_middle (hr.mono (by decide)) (by rfl) m_first_middle kp_first_middle B_first_middle_2 R_first_middle_2 (fun Hb => dd_first_middle_2 Hb) (pda_cons (pd_callB callL_maxL (cr_max rfl) (by rfl) Z.fr_max (by decide +kernel) (pda_cons (pd_var (pv 2)) (pda_nil))) (pda_cons (pd_var (pv 1)) (pda_nil)))) (pd_var (pv 3))) (pda_nil))))
theorem b_cells {P : Program} {w : World} {K : PySem.W.Frag} {mg : Str → Option Value} {base : Heap} (Z : Zs K mg)
    {a_need_parts : Addr} {fd_need_parts : FuncData} (D_need_parts : DefAt K mg "need_parts" (top 16) [] a_need_parts fd_need_parts) (G_need_parts : FnOk P w K mg base CX0 4 a_need_parts fd_need_parts ["parts"] (lSp K sp_need_parts))
    {a_need_rule : Addr} {fd_need_rule : FuncData} (D_need_rule : DefAt K mg "need_rule" (top 26) [] a_need_rule fd_need_rule) (G_need_rule : FnOk P w K mg base CX0 1 a_need_rule fd_need_rule ["rule"] (lSp K sp_need_rule))
    {a_scale_of : Addr} {fd_scale_of : FuncData} (D_scale_of : DefAt K mg "scale_of" (top 18) [] a_scale_of fd_scale_of) (G_scale_of : FnOk P w K mg base CX0 2 a_scale_of fd_scale_of ["parts"] (lSp K sp_scale_of))
    {a_in_wholes : Addr} {fd_in_wholes : FuncData} (D_in_wholes : DefAt K mg "in_wholes" (top 19) [] a_in_wholes fd_in_wholes) (G_in_wholes : FnOk P w K mg base CX0 3 a_in_wholes fd_in_wholes ["parts"] (lSp K sp_in_wholes))
    {a_rows_of : Addr} {fd_rows_of : FuncData} (D_rows_of : DefAt K mg "rows_of" (top 33) [] a_rows_of fd_rows_of) (G_rows_of : FnOk P w K mg base CX0 2 a_rows_of fd_rows_of ["parts", "many"] (lSp K sp_rows_of))
    {a_stretches : Addr} {fd_stretches : FuncData} (D_stretches : DefAt K mg "stretches" (top 30) [] a_stretches fd_stretches) (G_stretches : FnOk P w K mg base CX0 3 a_stretches fd_stretches ["parts", "many", "row", "rule"] (lSp K sp_stretches))
    {a_filled_by : Addr} {fd_filled_by : FuncData} (D_filled_by : DefAt K mg "filled_by" (top 31) [] a_filled_by fd_filled_by) (G_filled_by : FnOk P w K mg base CX0 2 a_filled_by fd_filled_by ["stretch", "drops"] (lSp K sp_filled_by))
    {a_put_together : Addr} {fd_put_together : FuncData} (D_put_together : DefAt K mg "put_together" (top 32) [] a_put_together fd_put_together) (G_put_together : FnOk P w K mg base CX0 1 a_put_together fd_put_together ["row", "columns"] (lSp K sp_put_together))
    {f : Addr} (cdv : Value) (A : Around) (outer : List Env) (s : Shared) (H : Hp) (E : XK) (hr : Room 4 (A.deeper (envOfC "cells" (defScope (top 34)) s.heap.objs.size f cdv))) :
    PDSs (cxOf CX0 P w K mg base ["parts", "rule", "drops", "many", "wholes", "first", "count", "found", "row", "columns", "stretch"] "cells" (defScope (top 34)) f cdv A outer s H E).nox (defBody (top 34)) r_cells := by
  have nd := sc_cells.nd
  have m_need_parts := D_need_parts.m
  have kp_need_parts := D_need_parts.F.kp
  have m_need_rule := D_need_rule.m
  have kp_need_rule := D_need_rule.F.kp
  have m_scale_of := D_scale_of.m
  have kp_scale_of := D_scale_of.F.kp
  have m_in_wholes := D_in_wholes.m
  have kp_in_wholes := D_in_wholes.F.kp
  have m_rows_of := D_rows_of.m
  have kp_rows_of := D_rows_of.F.kp
  have m_stretches := D_stretches.m
  have kp_stretches := D_stretches.F.kp
  have m_filled_by := D_filled_by.m
  have kp_filled_by := D_filled_by.F.kp
  have m_put_together := D_put_together.m
  have kp_put_together := D_put_together.F.kp
  have B_filled_by_2 : Binds K fd_filled_by ["stretch", "drops"] [] := FunD.bindsN D_filled_by.F fun _ _ _ _ _ _ us hl => match us, hl with | [_, _], _ => rfl
  have R_filled_by_2 : Vals [] [] := .nil
  have dd_filled_by_2 : ∀ Hb, RepAll K Hb [] [] := fun _ => by simp [RepAll, Rep]
  have B_in_wholes_1 : Binds K fd_in_wholes ["parts"] [] := FunD.bindsN D_in_wholes.F fun _ _ _ _ _ _ us hl => match us, hl with | [_], _ => rfl
  have R_in_wholes_1 : Vals [] [] := .nil
  have dd_in_wholes_1 : ∀ Hb, RepAll K Hb [] [] := fun _ => by simp [RepAll, Rep]
  have B_need_parts_1 : Binds K fd_need_parts ["parts"] [] := FunD.bindsN D_need_parts.F fun _ _ _ _ _ _ us hl => match us, hl with | [_], _ => rfl
  have R_need_parts_1 : Vals [] [] := .nil
  have dd_need_parts_1 : ∀ Hb, RepAll K Hb [] [] := fun _ => by simp [RepAll, Rep]
  have B_need_rule_1 : Binds K fd_need_rule ["rule"] [] := FunD.bindsN D_need_rule.F fun _ _ _ _ _ _ us hl => match us, hl with | [_], _ => rfl
  have R_need_rule_1 : Vals [] [] := .nil
  have dd_need_rule_1 : ∀ Hb, RepAll K Hb [] [] := fun _ => by simp [RepAll, Rep]
  have B_put_together_2 : Binds K fd_put_together ["row", "columns"] [] := FunD.bindsN D_put_together.F fun _ _ _ _ _ _ us hl => match us, hl with | [_, _], _ => rfl
  have R_put_together_2 : Vals [] [] := .nil
  have dd_put_together_2 : ∀ Hb, RepAll K Hb [] [] := fun _ => by simp [RepAll, Rep]
  have B_rows_of_2 : Binds K fd_rows_of ["parts", "many"] [] := FunD.bindsN D_rows_of.F fun _ _ _ _ _ _ us hl => match us, hl with | [_, _], _ => rfl
  have R_rows_of_2 : Vals [] [] := .nil
  have dd_rows_of_2 : ∀ Hb, RepAll K Hb [] [] := fun _ => by simp [RepAll, Rep]
  have B_scale_of_1 : Binds K fd_scale_of ["parts"] [] := FunD.bindsN D_scale_of.F fun _ _ _ _ _ _ us hl => match us, hl with | [_], _ => rfl
  have R_scale_of_1 : Vals [] [] := .nil
  have dd_scale_of_1 : ∀ Hb, RepAll K Hb [] [] := fun _ => by simp [RepAll, Rep]
  have B_stretches_4 : Binds K fd_stretches ["parts", "many", "row", "rule"] [] := FunD.bindsN D_stretches.F fun _ _ _ _ _ _ us hl => match us, hl with | [_, _, _, _], _ => rfl
  have R_stretches_4 : Vals [] [] := .nil
  have dd_stretches_4 : ∀ Hb, RepAll K Hb [] [] := fun _ => by simp [RepAll, Rep]
  refine pds_cons ?_ (pds_cons ?_ (pds_cons ?_ (pds_cons ?_ (pds_cons ?_ (pds_cons ?_ (pds_cons ?_ (pds_cons ?_ (pds_one ?_))))))))
  · exact pds_expr (pd_call G_need_parts (hr.mono (by decide)) (by rfl) m_need_parts kp_need_parts B_need_parts_1 R_need_parts_1 (fun Hb => dd_need_parts_1 Hb) (pda_cons (pd_var (pv 0)) (pda_nil)))
  · exact pds_expr (pd_call G_need_rule (hr.mono (by decide)) (by rfl) m_need_rule kp_need_rule B_need_rule_1 R_need_rule_1 (fun Hb => dd_need_rule_1 Hb) (pda_cons (pd_var (pv 1)) (pda_nil)))
  · exact pds_set (i := 3) nd rfl (by first | exact .inl rfl | exact .inr rfl) (pd_call G_scale_of (hr.mono (by decide)) (by rfl) m_scale_of kp_scale_of B_scale_of_1 R_scale_of_1 (fun Hb => dd_scale_of_1 Hb) (pda_cons (pd_var (pv 0)) (pda_nil)))
  · exact pds_set (i := 4) nd rfl (by first | exact .inl rfl | exact .inr rfl) (pd_call G_in_wholes (hr.mono (by decide)) (by rfl) m_in_wholes kp_in_wholes B_in_wholes_1 R_in_wholes_1 (fun Hb => dd_in_wholes_1 Hb) (pda_cons (pd_var (pv 0)) (pda_nil)))
  · exact pds_asg (pd_call G_rows_of (hr.mono (by decide)) (by rfl) m_rows_of kp_rows_of B_rows_of_2 R_rows_of_2 (fun Hb => dd_rows_of_2 Hb) (pda_cons (pd_var (pv 4)) (pda_cons (pd_var (pv 3)) (pda_nil)))) (pdg_tup rfl (pdg_cons (pdg_name (i := 5) nd rfl (by first | exact .inl rfl | exact .inr rfl)) (pdg_cons (pdg_name (i := 6) nd rfl (by first | exact .inl rfl | exact .inr rfl)) (pdg_nil))))
  · refine pds_if (pdt_gt hr.units (pd_var (pv 6)) (pd_gint (by rfl) Z.c_MOST_ROWS)) ?_ ?_
    · refine pds_one ?_
      · exact pds_never
    · exact pds_nil
  · exact pds_set (i := 7) nd rfl (by first | exact .inl rfl | exact .inr rfl) (pd_cell (pda_nil))
  · refine pds_for PassesOwn.never rfl (pdi_range2B (by rfl) Z.fr_range (pda_cons (pd_var (pv 5)) (pda_cons (pd_add (pd_var (pv 5)) (pd_var (pv 6))) (pda_nil)))) (pdg_name (i := 8) nd rfl (by first | exact .inl rfl | exact .inr rfl)) ?_
    refine pds_cons ?_ (pds_one ?_)
    · exact pds_setLc (i := 9) rfl nd rfl rfl (sw_true rfl rfl rfl (by decide +kernel)) (g := gName 10) (pdi_seq (pd_call G_stretches (hr.mono (by decide)) (by rfl) m_stretches kp_stretches B_stretches_4 R_stretches_4 (fun Hb => dd_stretches_4 Hb) (pda_cons (pd_var (pv 4)) (pda_cons (pd_var (pv 3)) (pda_cons (pd_var (pv 8)) (pda_cons (pd_var (pv 1)) (pda_nil))))))) (blkOk_by (own := [("stretch", 10)]) (by rfl)) (fun _ _ _ _ _ => tg_name (i := 10) nd rfl (by first | exact .inl rfl | exact .inr rfl)) (fun _ _ _ _ _ => pdts_nil) (fun _ _ _ _ _ => pd_call G_filled_by (hr.mono (by decide)) (by rfl) m_filled_by kp_filled_by B_filled_by_2 R_filled_by_2 (fun Hb => dd_filled_by_2 Hb) (pda_cons (pd_var (pv 10)) (pda_cons (pd_var (pv 2)) (pda_nil))))
    · exact pds_expr (pd_extend (pd_var (pv 7)) (pd_call G_put_together (hr.mono (by decide)) (by rfl) m_put_together kp_put_together B_put_together_2 R_put_together_2 (fun Hb => dd_put_together_2 Hb) (pda_cons (pd_var (pv 8)) (pda_cons (pd_var (pv 9)) (pda_nil)))))
  · exact pds_ret (pd_var (pv 7))
theorem b__law_cell {P : Program} {w : World} {K : PySem.W.Frag} {mg : Str → Option Value} {base : Heap} (Z : Zs K mg)
    {f : Addr} (cdv : Value) (A : Around) (outer : List Env) (s : Shared) (H : Hp) (E : XK) (hr : Room 0 (A.deeper (envOfC "_law_cell" (defScope (top 36)) s.heap.objs.size f cdv))) :
    PDSs (cxOf CX0 P w K mg base ["_law_script", "_law_k"] "_law_cell" (defScope (top 36)) f cdv A outer s H E).nox (defBody (top 36)) r__law_cell := by
  have nd := sc__law_cell.nd
  refine pds_cons ?_ (pds_one ?_)
  · refine pds_if (pdt_lt hr.units (pd_var (pv 1)) (pd_callB callL_len call_len (by rfl) Z.fr_len (by decide +kernel) (pda_cons (pd_var (pv 0)) (pda_nil)))) ?_ ?_
    · refine pds_one ?_
      · exact pds_ret (pd_ix (pd_var (pv 0)) (pd_var (pv 1)) (fun _ _ => rfl))
    · exact pds_nil
  · exact pds_ret (pd_add (pd_mul (pd_int) (pd_var (pv 1))) (pd_int))
theorem b__law_box {P : Program} {w : World} {K : PySem.W.Frag} {mg : Str → Option Value} {base : Heap} (Z : Zs K mg)
    {f : Addr} (cdv : Value) (A : Around) (outer : List Env) (s : Shared) (H : Hp) (E : XK) (hr : Room 0 (A.deeper (envOfC "_law_box" (defScope (top 37)) s.heap.objs.size f cdv))) :
    PDSs (cxOf CX0 P w K mg base ["_law_cell_here"] "_law_box" (defScope (top 37)) f cdv A outer s H E).nox (defBody (top 37)) r__law_box := by
  have nd := sc__law_box.nd
  refine pds_one ?_
  · exact pds_ret (pd_cell (pda_cons (pd_callB callL_max2 (call_max2 rfl) (by rfl) Z.fr_max (by decide +kernel) (pda_cons (pd_int) (pda_cons (pd_sub (pd_var (pv 0)) (pd_pow (pd_int) (pd_int))) (pda_nil)))) (pda_cons (pd_mod (pd_var (pv 0)) (pd_int)) (pda_cons (pd_mod (pd_var (pv 0)) (pd_int)) (pda_cons (pd_int) (pda_nil))))))
theorem b__law_take {P : Program} {w : World} {K : PySem.W.Frag} {mg : Str → Option Value} {base : Heap} (Z : Zs K mg)
    {f : Addr} (cdv : Value) (A : Around) (outer : List Env) (s : Shared) (H : Hp) (E : XK) (hr : Room 0 (A.deeper (envOfC "_law_take" (defScope (top 38)) s.heap.objs.size f cdv))) :
    PDSs (cxOf CX0 P w K mg base ["_law_box_here", "_law_many", "_law_digit", "_law_turn", "_law_one"] "_law_take" (defScope (top 38)) f cdv A outer s H E).nox (defBody (top 38)) r__law_take := by
  have nd := sc__law_take.nd
  refine pds_cons ?_ (pds_cons ?_ (pds_cons ?_ (pds_cons ?_ (pds_one ?_))))
  · refine pds_if (pdt_gt hr.units (pd_ix (pd_var (pv 0)) (pd_int) (fun _ _ => rfl)) (pd_int)) ?_ ?_
    · refine pds_cons ?_ (pds_cons ?_ (pds_one ?_))
      · exact pds_set (i := 2) nd rfl (by first | exact .inl rfl | exact .inr rfl) (pd_mod (pd_ix (pd_var (pv 0)) (pd_int) (fun _ _ => rfl)) (pd_var (pv 1)))
      · exact pds_asg (pd_fdiv (pd_ix (pd_var (pv 0)) (pd_int) (fun _ _ => rfl)) (pd_var (pv 1))) (pdg_set (pd_var (pv 0)) (pd_int))
      · exact pds_ret (pd_var (pv 2))
    · exact pds_nil
  · exact pds_asg (pd_add (pd_ix (pd_var (pv 0)) (pd_int) (fun _ _ => rfl)) (pd_int)) (pdg_set (pd_var (pv 0)) (pd_int))
  · exact pds_set (i := 3) nd rfl (by first | exact .inl rfl | exact .inr rfl) (pd_ix (pd_var (pv 0)) (pd_int) (fun _ _ => rfl))
  · exact pds_set (i := 4) nd rfl (by first | exact .inl rfl | exact .inr rfl) (pd_mod (pd_pow (pd_add (pd_add (pd_mul (pd_ix (pd_var (pv 0)) (pd_int) (fun _ _ => rfl)) (pd_add (pd_mul (pd_int) (pd_var (pv 3))) (pd_int))) (pd_mul (pd_mul (pd_int) (pd_var (pv 3))) (pd_var (pv 3)))) (pd_int)) (pd_int)) (pd_int))
  · exact pds_ret (pd_mod (pd_fdiv (pd_mod (pd_pow (pd_add (pd_add (pd_var (pv 4)) (pd_mul (pd_ix (pd_var (pv 0)) (pd_int) (fun _ _ => rfl)) (pd_var (pv 3)))) (pd_int)) (pd_int)) (pd_int)) (pd_int)) (pd_var (pv 1)))
theorem b__law_number {P : Program} {w : World} {K : PySem.W.Frag} {mg : Str → Option Value} {base : Heap} (Z : Zs K mg)
    {f : Addr} (cdv : Value) (A : Around) (outer : List Env) (s : Shared) (H : Hp) (E : XK) (hr : Room 0 (A.deeper (envOfC "_law_number" (defScope (top 39)) s.heap.objs.size f cdv))) :
    PDSs (cxOf CX0 P w K mg base ["_law_top", "_law_base", "_law_one", "_law_other"] "_law_number" (defScope (top 39)) f cdv A outer s H E).nox (defBody (top 39)) r__law_number := by
  have nd := sc__law_number.nd
  refine pds_cons ?_ (pds_cons ?_ (pds_one ?_))
  · exact pds_par (i := 2) (j := 3) rfl nd rfl rfl (by decide) rfl rfl (pda_cons (pd_callB callL_abs call_abs (by rfl) Z.fr_abs (by decide +kernel) (pda_cons (pd_var (pv 0)) (pda_nil))) (pda_cons (pd_var (pv 1)) (pda_nil))) (by rfl)
  · refine pds_while PassesOwn.never (pdt_gt hr.units (pd_var (pv 3)) (pd_int)) ?_
    refine pds_one ?_
    · exact pds_par (i := 2) (j := 3) rfl nd rfl rfl (by decide) rfl rfl (pda_cons (pd_var (pv 3)) (pda_cons (pd_mod (pd_var (pv 2)) (pd_var (pv 3))) (pda_nil))) (by rfl)
  · exact pds_ret (pd_ifExp (pdt_eq hr.units (pd_var (pv 1)) (pd_var (pv 2))) (pd_fdiv (pd_var (pv 0)) (pd_var (pv 2))) (pd_tup (pda_cons (pd_fdiv (pd_var (pv 0)) (pd_var (pv 2))) (pda_cons (pd_fdiv (pd_var (pv 1)) (pd_var (pv 2))) (pda_nil)))))
theorem b__law_told {P : Program} {w : World} {K : PySem.W.Frag} {mg : Str → Option Value} {base : Heap} (Z : Zs K mg)
    {a__law_number : Addr} {fd__law_number : FuncData} (D__law_number : DefAt K mg "_law_number" (top 39) [] a__law_number fd__law_number) (G__law_number : FnOk P w K mg base CX0 1 a__law_number fd__law_number ["_law_top", "_law_base"] (lSp K sp__law_number))
    {f : Addr} (cdv : Value) (A : Around) (outer : List Env) (s : Shared) (H : Hp) (E : XK) (hr : Room 1 (A.deeper (envOfC "_law_told" (defScope (top 40)) s.heap.objs.size f cdv))) :
    PDSs (cxOf CX0 P w K mg base ["_law_pairs", "_law_base", "_law_x", "_law_y"] "_law_told" (defScope (top 40)) f cdv A outer s H E).nox (defBody (top 40)) r__law_told := by
  have nd := sc__law_told.nd
  have m__law_number := D__law_number.m
  have kp__law_number := D__law_number.F.kp
  have B__law_number_2 : Binds K fd__law_number ["_law_top", "_law_base"] [] := FunD.bindsN D__law_number.F fun _ _ _ _ _ _ us hl => match us, hl with | [_, _], _ => rfl
  have R__law_number_2 : Vals [] [] := .nil
  have dd__law_number_2 : ∀ Hb, RepAll K Hb [] [] := fun _ => by simp [RepAll, Rep]
  refine pds_one ?_
  · exact pds_ret (pd_lc (own := [("_law_x", 2), ("_law_y", 3)]) rfl nd (g := gTup K 2 (gCons (gName 2) (gCons (gName 3) (gNil)))) (pdi_seq (pd_var (pv 0))) (blkOk_by (own := [("_law_x", 2), ("_law_y", 3)]) (by rfl)) (fun _ _ _ _ _ => tg_tup rfl (tgs_cons (tg_name (i := 2) nd rfl (by first | exact .inl rfl | exact .inr rfl)) (tgs_cons (tg_name (i := 3) nd rfl (by first | exact .inl rfl | exact .inr rfl)) (tgs_nil)))) (fun _ _ _ _ _ => pdts_nil) (fun _ _ _ _ _ => pd_tup (pda_cons (pd_call G__law_number (hr.mono (by decide)) (by rfl) m__law_number kp__law_number B__law_number_2 R__law_number_2 (fun Hb => dd__law_number_2 Hb) (pda_cons (pd_var (pv 2)) (pda_cons (pd_var (pv 1)) (pda_nil)))) (pda_cons (pd_call G__law_number (hr.mono (by decide)) (by rfl) m__law_number kp__law_number B__law_number_2 R__law_number_2 (fun Hb => dd__law_number_2 Hb) (pda_cons (pd_var (pv 3)) (pda_cons (pd_var (pv 1)) (pda_nil)))) (pda_nil)))))
theorem b__law_polygon {P : Program} {w : World} {K : PySem.W.Frag} {mg : Str → Option Value} {base : Heap} (Z : Zs K mg)
    {a__law_take : Addr} {fd__law_take : FuncData} (D__law_take : DefAt K mg "_law_take" (top 38) [] a__law_take fd__law_take) (G__law_take : FnOk P w K mg base CX0 1 a__law_take fd__law_take ["_law_box_here", "_law_many"] (lSp K sp__law_take))
    {f : Addr} (cdv : Value) (A : Around) (outer : List Env) (s : Shared) (H : Hp) (E : XK) (hr : Room 1 (A.deeper (envOfC "_law_polygon" (defScope (top 41)) s.heap.objs.size f cdv))) :
    PDSs (cxOf CX0 P w K mg base ["_law_box_here", "_law_base", "_law_way", "_law_x", "_law_y", "_law_wide", "_law_high", "_law_found", "_law_thin", "_law_many", "_law_k"] "_law_polygon" (defScope (top 41)) f cdv A outer s H E).nox (defBody (top 41)) r__law_polygon := by
  have nd := sc__law_polygon.nd
  have m__law_take := D__law_take.m
  have kp__law_take := D__law_take.F.kp
  have B__law_take_2 : Binds K fd__law_take ["_law_box_here", "_law_many"] [] := FunD.bindsN D__law_take.F fun _ _ _ _ _ _ us hl => match us, hl with | [_, _], _ => rfl
  have R__law_take_2 : Vals [] [] := .nil
  have dd__law_take_2 : ∀ Hb, RepAll K Hb [] [] := fun _ => by simp [RepAll, Rep]
  refine pds_cons ?_ (pds_cons ?_ (pds_cons ?_ (pds_cons ?_ (pds_one ?_))))
  · exact pds_set (i := 2) nd rfl (by first | exact .inl rfl | exact .inr rfl) (pd_call G__law_take (hr.mono (by decide)) (by rfl) m__law_take kp__law_take B__law_take_2 R__law_take_2 (fun Hb => dd__law_take_2 Hb) (pda_cons (pd_var (pv 0)) (pda_cons (pd_int) (pda_nil))))
  · exact pds_par (i := 3) (j := 4) rfl nd rfl rfl (by decide) rfl rfl (pda_cons (pd_sub (pd_call G__law_take (hr.mono (by decide)) (by rfl) m__law_take kp__law_take B__law_take_2 R__law_take_2 (fun Hb => dd__law_take_2 Hb) (pda_cons (pd_var (pv 0)) (pda_cons (pd_int) (pda_nil)))) (pd_int)) (pda_cons (pd_sub (pd_call G__law_take (hr.mono (by decide)) (by rfl) m__law_take kp__law_take B__law_take_2 R__law_take_2 (fun Hb => dd__law_take_2 Hb) (pda_cons (pd_var (pv 0)) (pda_cons (pd_int) (pda_nil)))) (pd_int)) (pda_nil))) (by rfl)
  · refine pds_if (pdt_lt hr.units (pd_var (pv 2)) (pd_int)) ?_ ?_
    · refine pds_cons ?_ (pds_cons ?_ (pds_cons ?_ (pds_one ?_)))
      · exact pds_par (i := 3) (j := 4) rfl nd rfl rfl (by decide) rfl rfl (pda_cons (by exact (pd_ix (pd_lst (pda_cons (pd_var (pv 3)) (pda_cons (pd_add (pd_int) (pd_mul (pd_int) (pd_fdiv (pd_var (pv 3)) (pd_int)))) (pda_nil)))) (pd_var (pv 2)) (fun _ _ => rfl))) (pda_cons (by exact (pd_ix (pd_lst (pda_cons (pd_var (pv 4)) (pda_cons (pd_add (pd_int) (pd_mul (pd_int) (pd_fdiv (pd_var (pv 4)) (pd_int)))) (pda_nil)))) (pd_call G__law_take (hr.mono (by decide)) (by rfl) m__law_take kp__law_take B__law_take_2 R__law_take_2 (fun Hb => dd__law_take_2 Hb) (pda_cons (pd_var (pv 0)) (pda_cons (pd_int) (pda_nil)))) (fun _ _ => rfl))) (pda_nil))) (by rfl)
      · exact pds_set (i := 5) nd rfl (by first | exact .inl rfl | exact .inr rfl) (by exact (pd_ix (pd_lst (pda_cons (pd_call G__law_take (hr.mono (by decide)) (by rfl) m__law_take kp__law_take B__law_take_2 R__law_take_2 (fun Hb => dd__law_take_2 Hb) (pda_cons (pd_var (pv 0)) (pda_cons (pd_int) (pda_nil)))) (pda_cons (pd_mul (pd_int) (pd_add (pd_int) (pd_call G__law_take (hr.mono (by decide)) (by rfl) m__law_take kp__law_take B__law_take_2 R__law_take_2 (fun Hb => dd__law_take_2 Hb) (pda_cons (pd_var (pv 0)) (pda_cons (pd_int) (pda_nil)))))) (pda_cons (pd_int) (pda_nil))))) (pd_call G__law_take (hr.mono (by decide)) (by rfl) m__law_take kp__law_take B__law_take_2 R__law_take_2 (fun Hb => dd__law_take_2 Hb) (pda_cons (pd_var (pv 0)) (pda_cons (pd_int) (pda_nil)))) (fun _ _ => rfl)))
      · exact pds_set (i := 6) nd rfl (by first | exact .inl rfl | exact .inr rfl) (by exact (pd_ix (pd_lst (pda_cons (pd_call G__law_take (hr.mono (by decide)) (by rfl) m__law_take kp__law_take B__law_take_2 R__law_take_2 (fun Hb => dd__law_take_2 Hb) (pda_cons (pd_var (pv 0)) (pda_cons (pd_int) (pda_nil)))) (pda_cons (pd_mul (pd_int) (pd_add (pd_int) (pd_call G__law_take (hr.mono (by decide)) (by rfl) m__law_take kp__law_take B__law_take_2 R__law_take_2 (fun Hb => dd__law_take_2 Hb) (pda_cons (pd_var (pv 0)) (pda_cons (pd_int) (pda_nil)))))) (pda_cons (pd_int) (pda_nil))))) (pd_call G__law_take (hr.mono (by decide)) (by rfl) m__law_take kp__law_take B__law_take_2 R__law_take_2 (fun Hb => dd__law_take_2 Hb) (pda_cons (pd_var (pv 0)) (pda_cons (pd_int) (pda_nil)))) (fun _ _ => rfl)))
      · exact pds_set (i := 7) nd rfl (by first | exact .inl rfl | exact .inr rfl) (pd_lst (pda_cons (pd_tup (pda_cons (pd_var (pv 3)) (pda_cons (pd_var (pv 4)) (pda_nil)))) (pda_cons (pd_tup (pda_cons (pd_add (pd_var (pv 3)) (pd_var (pv 5))) (pda_cons (pd_var (pv 4)) (pda_nil)))) (pda_cons (pd_tup (pda_cons (pd_add (pd_var (pv 3)) (pd_var (pv 5))) (pda_cons (pd_add (pd_var (pv 4)) (pd_var (pv 6))) (pda_nil)))) (pda_cons (pd_tup (pda_cons (pd_var (pv 3)) (pda_cons (pd_add (pd_var (pv 4)) (pd_var (pv 6))) (pda_nil)))) (pda_nil))))))
    · refine pds_one ?_
      · refine pds_if (pdt_eq hr.units (pd_var (pv 2)) (pd_int)) ?_ ?_
        · refine pds_cons ?_ (pds_one ?_)
          · exact pds_set (i := 8) nd rfl (by first | exact .inl rfl | exact .inr rfl) (pd_add (pd_int) (pd_call G__law_take (hr.mono (by decide)) (by rfl) m__law_take kp__law_take B__law_take_2 R__law_take_2 (fun Hb => dd__law_take_2 Hb) (pda_cons (pd_var (pv 0)) (pda_cons (pd_int) (pda_nil)))))
          · exact pds_set (i := 7) nd rfl (by first | exact .inl rfl | exact .inr rfl) (pd_lst (pda_cons (pd_tup (pda_cons (pd_var (pv 3)) (pda_cons (pd_var (pv 4)) (pda_nil)))) (pda_cons (pd_tup (pda_cons (pd_add (pd_var (pv 3)) (pd_call G__law_take (hr.mono (by decide)) (by rfl) m__law_take kp__law_take B__law_take_2 R__law_take_2 (fun Hb => dd__law_take_2 Hb) (pda_cons (pd_var (pv 0)) (pda_cons (pd_int) (pda_nil))))) (pda_cons (pd_add (pd_var (pv 4)) (pd_int)) (pda_nil)))) (pda_cons (pd_tup (pda_cons (pd_add (pd_var (pv 3)) (pd_var (pv 8))) (pda_cons (pd_var (pv 4)) (pda_nil)))) (pda_nil)))))
        · refine pds_cons ?_ (pds_one ?_)
          · exact pds_set (i := 9) nd rfl (by first | exact .inl rfl | exact .inr rfl) (pd_add (pd_int) (pd_call G__law_take (hr.mono (by decide)) (by rfl) m__law_take kp__law_take B__law_take_2 R__law_take_2 (fun Hb => dd__law_take_2 Hb) (pda_cons (pd_var (pv 0)) (pda_cons (pd_int) (pda_nil)))))
          · exact pds_setLc (i := 7) rfl nd rfl rfl (sw_true rfl rfl rfl (by decide +kernel)) (g := gName 10) (pdi_range1 (by rfl) Z.fr_range (pda_cons (pd_var (pv 9)) (pda_nil))) (blkOk_by (own := [("_law_k", 10)]) (by rfl)) (fun _ _ _ _ _ => tg_name (i := 10) nd rfl (by first | exact .inl rfl | exact .inr rfl)) (fun _ _ _ _ _ => pdts_nil) (fun _ _ _ _ _ => pd_tup (pda_cons (pd_sub (pd_call G__law_take (hr.mono (by decide)) (by rfl) m__law_take kp__law_take B__law_take_2 R__law_take_2 (fun Hb => dd__law_take_2 Hb) (pda_cons (pd_var (pv 0)) (pda_cons (pd_int) (pda_nil)))) (pd_int)) (pda_cons (pd_sub (pd_call G__law_take (hr.mono (by decide)) (by rfl) m__law_take kp__law_take B__law_take_2 R__law_take_2 (fun Hb => dd__law_take_2 Hb) (pda_cons (pd_var (pv 0)) (pda_cons (pd_int) (pda_nil)))) (pd_int)) (pda_nil))))
  · exact pds_setLc (i := 7) rfl nd rfl rfl (sw_true rfl rfl rfl (by decide +kernel)) (g := gTup K 2 (gCons (gName 3) (gCons (gName 4) (gNil)))) (pdi_seq (pd_var (pv 7))) (blkOk_by (own := [("_law_x", 3), ("_law_y", 4)]) (by rfl)) (fun _ _ _ _ _ => tg_tup rfl (tgs_cons (tg_name (i := 3) nd rfl (by first | exact .inl rfl | exact .inr rfl)) (tgs_cons (tg_name (i := 4) nd rfl (by first | exact .inl rfl | exact .inr rfl)) (tgs_nil)))) (fun _ _ _ _ _ => pdts_nil) (fun _ _ _ _ _ => pd_tup (pda_cons (pd_add (pd_mul (pd_var (pv 3)) (pd_var (pv 1))) (pd_call G__law_take (hr.mono (by decide)) (by rfl) m__law_take kp__law_take B__law_take_2 R__law_take_2 (fun Hb => dd__law_take_2 Hb) (pda_cons (pd_var (pv 0)) (pda_cons (pd_var (pv 1)) (pda_nil))))) (pda_cons (pd_add (pd_mul (pd_var (pv 4)) (pd_var (pv 1))) (pd_call G__law_take (hr.mono (by decide)) (by rfl) m__law_take kp__law_take B__law_take_2 R__law_take_2 (fun Hb => dd__law_take_2 Hb) (pda_cons (pd_var (pv 0)) (pda_cons (pd_var (pv 1)) (pda_nil))))) (pda_nil))))
  · exact pds_ret (pd_ifExp (pdt_eq hr.units (pd_call G__law_take (hr.mono (by decide)) (by rfl) m__law_take kp__law_take B__law_take_2 R__law_take_2 (fun Hb => dd__law_take_2 Hb) (pda_cons (pd_var (pv 0)) (pda_cons (pd_int) (pda_nil)))) (pd_int)) (pd_revL (pd_var (pv 7))) (pd_var (pv 7)))
theorem b__law_longer {P : Program} {w : World} {K : PySem.W.Frag} {mg : Str → Option Value} {base : Heap} (Z : Zs K mg)
    {f : Addr} (cdv : Value) (A : Around) (outer : List Env) (s : Shared) (H : Hp) (E : XK) (hr : Room 0 (A.deeper (envOfC "_law_longer" (defScope (top 42)) s.heap.objs.size f cdv))) :
    PDSs (cxOf CX0 P w K mg base ["_law_pairs", "_law_found", "_law_one"] "_law_longer" (defScope (top 42)) f cdv A outer s H E).nox (defBody (top 42)) r__law_longer := by
  have nd := sc__law_longer.nd
  refine pds_cons ?_ (pds_cons ?_ (pds_one ?_))
  · exact pds_set (i := 1) nd rfl (by first | exact .inl rfl | exact .inr rfl) (pd_cell (pda_nil))
  · refine pds_for PassesOwn.never rfl (pdi_seq (pd_var (pv 0))) (pdg_name (i := 2) nd rfl (by first | exact .inl rfl | exact .inr rfl)) ?_
    refine pds_one ?_
    · exact pds_expr (pd_extend (pd_var (pv 1)) (pd_mul (pd_lst (pda_cons (pd_var (pv 2)) (pda_nil))) (pd_fdiv (pd_int) (pd_callB callL_len call_len (by rfl) Z.fr_len (by decide +kernel) (pda_cons (pd_var (pv 0)) (pda_nil))))))
  · exact pds_ret (pd_frz (pd_var (pv 1)))
theorem b__law_scene {P : Program} {w : World} {K : PySem.W.Frag} {mg : Str → Option Value} {base : Heap} (Z : Zs K mg)
    {a__law_take : Addr} {fd__law_take : FuncData} (D__law_take : DefAt K mg "_law_take" (top 38) [] a__law_take fd__law_take) (G__law_take : FnOk P w K mg base CX0 1 a__law_take fd__law_take ["_law_box_here", "_law_many"] (lSp K sp__law_take))
    {a__law_polygon : Addr} {fd__law_polygon : FuncData} (D__law_polygon : DefAt K mg "_law_polygon" (top 41) [] a__law_polygon fd__law_polygon) (G__law_polygon : FnOk P w K mg base CX0 2 a__law_polygon fd__law_polygon ["_law_box_here", "_law_base"] (lSp K sp__law_polygon))
    {a__law_longer : Addr} {fd__law_longer : FuncData} (D__law_longer : DefAt K mg "_law_longer" (top 42) [] a__law_longer fd__law_longer) (G__law_longer : FnOk P w K mg base CX0 1 a__law_longer fd__law_longer ["_law_pairs"] (lSp K sp__law_longer))
    {f : Addr} (cdv : Value) (A : Around) (outer : List Env) (s : Shared) (H : Hp) (E : XK) (hr : Room 2 (A.deeper (envOfC "_law_scene" (defScope (top 43)) s.heap.objs.size f cdv))) :
    PDSs (cxOf CX0 P w K mg base ["_law_box_here", "_law_base", "_law_rows", "_law_k", "_law_pairs", "_law_x", "_law_y"] "_law_scene" (defScope (top 43)) f cdv A outer s H E).nox (defBody (top 43)) r__law_scene := by
  have nd := sc__law_scene.nd
  have m__law_take := D__law_take.m
  have kp__law_take := D__law_take.F.kp
  have m__law_polygon := D__law_polygon.m
  have kp__law_polygon := D__law_polygon.F.kp
  have m__law_longer := D__law_longer.m
  have kp__law_longer := D__law_longer.F.kp
  have B__law_longer_1 : Binds K fd__law_longer ["_law_pairs"] [] := FunD.bindsN D__law_longer.F fun _ _ _ _ _ _ us hl => match us, hl with | [_], _ => rfl
  have R__law_longer_1 : Vals [] [] := .nil
  have dd__law_longer_1 : ∀ Hb, RepAll K Hb [] [] := fun _ => by simp [RepAll, Rep]
  have B__law_polygon_2 : Binds K fd__law_polygon ["_law_box_here", "_law_base"] [] := FunD.bindsN D__law_polygon.F fun _ _ _ _ _ _ us hl => match us, hl with | [_, _], _ => rfl
  have R__law_polygon_2 : Vals [] [] := .nil
  have dd__law_polygon_2 : ∀ Hb, RepAll K Hb [] [] := fun _ => by simp [RepAll, Rep]
  have B__law_take_2 : Binds K fd__law_take ["_law_box_here", "_law_many"] [] := FunD.bindsN D__law_take.F fun _ _ _ _ _ _ us hl => match us, hl with | [_, _], _ => rfl
  have R__law_take_2 : Vals [] [] := .nil
  have dd__law_take_2 : ∀ Hb, RepAll K Hb [] [] := fun _ => by simp [RepAll, Rep]
  refine pds_cons ?_ (pds_cons ?_ (pds_cons ?_ (pds_cons ?_ (pds_cons ?_ (pds_cons ?_ (pds_one ?_))))))
  · exact pds_setLc (i := 2) rfl nd rfl rfl (sw_true rfl rfl rfl (by decide +kernel)) (g := gName 3) (pdi_range1 (by rfl) Z.fr_range (pda_cons (by exact (pd_ix (pd_lst (pda_cons (pd_int) (pda_cons (pd_add (pd_int) (pd_call G__law_take (hr.mono (by decide)) (by rfl) m__law_take kp__law_take B__law_take_2 R__law_take_2 (fun Hb => dd__law_take_2 Hb) (pda_cons (pd_var (pv 0)) (pda_cons (pd_int) (pda_nil))))) (pda_nil)))) (pd_call G__law_take (hr.mono (by decide)) (by rfl) m__law_take kp__law_take B__law_take_2 R__law_take_2 (fun Hb => dd__law_take_2 Hb) (pda_cons (pd_var (pv 0)) (pda_cons (pd_int) (pda_nil)))) (fun _ _ => rfl))) (pda_nil))) (blkOk_by (own := [("_law_k", 3)]) (by rfl)) (fun _ _ _ _ _ => tg_name (i := 3) nd rfl (by first | exact .inl rfl | exact .inr rfl)) (fun _ _ _ _ _ => pdts_nil) (fun _ _ _ _ _ => pd_call G__law_polygon (hr.mono (by decide)) (by rfl) m__law_polygon kp__law_polygon B__law_polygon_2 R__law_polygon_2 (fun Hb => dd__law_polygon_2 Hb) (pda_cons (pd_var (pv 0)) (pda_cons (pd_var (pv 1)) (pda_nil))))
  · refine pds_if (pdt_eq hr.units (pd_call G__law_take (hr.mono (by decide)) (by rfl) m__law_take kp__law_take B__law_take_2 R__law_take_2 (fun Hb => dd__law_take_2 Hb) (pda_cons (pd_var (pv 0)) (pda_cons (pd_int) (pda_nil)))) (pd_int)) ?_ ?_
    · refine pds_one ?_
      · exact pds_set (i := 2) nd rfl (by first | exact .inl rfl | exact .inr rfl) (pd_slA (pd_add (pd_var (pv 2)) (pd_lst (pda_cons (pd_callTy callL_list call_list_of (by rfl) Z.fr_list (by decide +kernel) (pda_cons (pd_ix (pd_var (pv 2)) (pd_int) (fun _ _ => rfl)) (pda_nil))) (pda_nil)))) (pdo_some (pd_neg (pd_int))) pdo_none)
    · exact pds_nil
  · refine pds_if (pdt_eq hr.units (pd_call G__law_take (hr.mono (by decide)) (by rfl) m__law_take kp__law_take B__law_take_2 R__law_take_2 (fun Hb => dd__law_take_2 Hb) (pda_cons (pd_var (pv 0)) (pda_cons (pd_int) (pda_nil)))) (pd_int)) ?_ ?_
    · refine pds_one ?_
      · exact pds_set (i := 2) nd rfl (by first | exact .inl rfl | exact .inr rfl) (pd_slA (pd_add (pd_var (pv 2)) (pd_lst (pda_cons (pd_revL (pd_ix (pd_var (pv 2)) (pd_int) (fun _ _ => rfl))) (pda_nil)))) (pdo_some (pd_neg (pd_int))) pdo_none)
    · exact pds_nil
  · refine pds_if (pdt_eq hr.units (pd_call G__law_take (hr.mono (by decide)) (by rfl) m__law_take kp__law_take B__law_take_2 R__law_take_2 (fun Hb => dd__law_take_2 Hb) (pda_cons (pd_var (pv 0)) (pda_cons (pd_int) (pda_nil)))) (pd_int)) ?_ ?_
    · refine pds_one ?_
      · exact pds_set (i := 2) nd rfl (by first | exact .inl rfl | exact .inr rfl) (pd_slA (pd_add (pd_var (pv 2)) (pd_lst (pda_cons (pd_slA (pd_ix (pd_var (pv 2)) (pd_int) (fun _ _ => rfl)) pdo_none (pdo_some (pd_add (pd_int) (pd_call G__law_take (hr.mono (by decide)) (by rfl) m__law_take kp__law_take B__law_take_2 R__law_take_2 (fun Hb => dd__law_take_2 Hb) (pda_cons (pd_var (pv 0)) (pda_cons (pd_int) (pda_nil))))))) (pda_nil)))) (pdo_some (pd_neg (pd_int))) pdo_none)
    · exact pds_nil
  · refine pds_if (pdt_eq hr.units (pd_call G__law_take (hr.mono (by decide)) (by rfl) m__law_take kp__law_take B__law_take_2 R__law_take_2 (fun Hb => dd__law_take_2 Hb) (pda_cons (pd_var (pv 0)) (pda_cons (pd_int) (pda_nil)))) (pd_int)) ?_ ?_
    · refine pds_one ?_
      · exact pds_set (i := 2) nd rfl (by first | exact .inl rfl | exact .inr rfl) (pd_add (pd_lst (pda_cons (pd_call G__law_longer (hr.mono (by decide)) (by rfl) m__law_longer kp__law_longer B__law_longer_1 R__law_longer_1 (fun Hb => dd__law_longer_1 Hb) (pda_cons (pd_ix (pd_var (pv 2)) (pd_int) (fun _ _ => rfl)) (pda_nil))) (pda_nil))) (pd_slA (pd_var (pv 2)) (pdo_some (pd_int)) pdo_none))
    · exact pds_nil
  · refine pds_if (pdt_eq hr.units (pd_call G__law_take (hr.mono (by decide)) (by rfl) m__law_take kp__law_take B__law_take_2 R__law_take_2 (fun Hb => dd__law_take_2 Hb) (pda_cons (pd_var (pv 0)) (pda_cons (pd_int) (pda_nil)))) (pd_int)) ?_ ?_
    · refine pds_one ?_
      · exact pds_setLc (i := 2) rfl nd rfl rfl (sw_true rfl rfl rfl (by decide +kernel)) (g := gName 4) (pdi_seq (pd_var (pv 2))) (blkOk_by (own := [("_law_pairs", 4)]) (by rfl)) (fun _ _ _ _ _ => tg_name (i := 4) nd rfl (by first | exact .inl rfl | exact .inr rfl)) (fun _ _ _ _ _ => pdts_nil) (fun _ _ _ _ _ => pd_lc (own := [("_law_x", 5), ("_law_y", 6)]) rfl nd (g := gTup K 2 (gCons (gName 5) (gCons (gName 6) (gNil)))) (pdi_seq (pd_var (pv 4))) (blkOk_by (own := [("_law_x", 5), ("_law_y", 6)]) (by rfl)) (fun _ _ _ _ _ => tg_tup rfl (tgs_cons (tg_name (i := 5) nd rfl (by first | exact .inl rfl | exact .inr rfl)) (tgs_cons (tg_name (i := 6) nd rfl (by first | exact .inl rfl | exact .inr rfl)) (tgs_nil)))) (fun _ _ _ _ _ => pdts_nil) (fun _ _ _ _ _ => pd_tup (pda_cons (pd_var (pv 5)) (pda_cons (pd_mul (pd_int) (pd_var (pv 6))) (pda_nil)))))
    · exact pds_nil
  · exact pds_ret (pd_var (pv 2))
theorem b__law_spans {P : Program} {w : World} {K : PySem.W.Frag} {mg : Str → Option Value} {base : Heap} (Z : Zs K mg)
    {f : Addr} (cdv : Value) (A : Around) (outer : List Env) (s : Shared) (H : Hp) (E : XK) (hr : Room 0 (A.deeper (envOfC "_law_spans" (defScope (top 44)) s.heap.objs.size f cdv))) :
    PDSs (cxOf CX0 P w K mg base ["_law_cells_of", "_law_found", "_law_row", "_law_column"] "_law_spans" (defScope (top 44)) f cdv A outer s H E).nox (defBody (top 44)) r__law_spans := by
  have nd := sc__law_spans.nd
  refine pds_cons ?_ (pds_cons ?_ (pds_one ?_))
  · exact pds_set (i := 1) nd rfl (by first | exact .inl rfl | exact .inr rfl) (pd_cell (pda_nil))
  · refine pds_for PassesOwn.never rfl (pdi_seq (pd_var (pv 0))) (pdg_tup rfl (pdg_cons (pdg_name (i := 2) nd rfl (by first | exact .inl rfl | exact .inr rfl)) (pdg_cons (pdg_name (i := 3) nd rfl (by first | exact .inl rfl | exact .inr rfl)) (pdg_nil)))) ?_
    refine pds_one ?_
    · refine pds_if (PW.pt (pdw_and (pdt_ne hr.units (pd_var (pv 1)) (pd_lst (pda_nil))) (pdw_and (pdt_eq hr.units (by exact (pd_ix (pd_ix (pd_var (pv 1)) (pd_neg (pd_int)) (fun _ _ => rfl)) (pd_int) (fun _ _ => rfl))) (pd_var (pv 2))) (pdw_and1 (pdt_eq hr.units (by exact (pd_ix (pd_ix (pd_var (pv 1)) (pd_neg (pd_int)) (fun _ _ => rfl)) (pd_int) (fun _ _ => rfl))) (pd_var (pv 3))))))) ?_ ?_
      · refine pds_one ?_
        · exact pds_asg (pd_tup (pda_cons (pd_var (pv 2)) (pda_cons (by exact (pd_ix (pd_ix (pd_var (pv 1)) (pd_neg (pd_int)) (fun _ _ => rfl)) (pd_int) (fun _ _ => rfl))) (pda_cons (pd_add (pd_var (pv 3)) (pd_int)) (pda_nil))))) (pdg_set (pd_var (pv 1)) (pd_neg (pd_int)))
      · refine pds_one ?_
        · exact pds_expr (pd_append (pd_var (pv 1)) (pd_tup (pda_cons (pd_var (pv 2)) (pda_cons (pd_var (pv 3)) (pda_cons (pd_add (pd_var (pv 3)) (pd_int)) (pda_nil))))))
  · exact pds_ret (pd_frz (pd_var (pv 1)))
theorem b__law_west {P : Program} {w : World} {K : PySem.W.Frag} {mg : Str → Option Value} {base : Heap} (Z : Zs K mg)
    {f : Addr} (cdv : Value) (A : Around) (outer : List Env) (s : Shared) (H : Hp) (E : XK) (hr : Room 0 (A.deeper (envOfC "_law_west" (defScope (top 45)) s.heap.objs.size f cdv))) :
    PDSs (cxOf CX0 P w K mg base ["_law_pairs", "_law_x", "_law_y", "_law_ups", "_law_many", "_law_k", "_law_one", "_law_other", "_law_step", "_law_turn"] "_law_west" (defScope (top 45)) f cdv A outer s H E).nox (defBody (top 45)) r__law_west := by
  have nd := sc__law_west.nd
  refine pds_cons ?_ (pds_cons ?_ (pds_one ?_))
  · exact pds_asg (pd_tup (pda_cons (pd_int) (pda_cons (pd_int) (pda_nil)))) (pdg_tup rfl (pdg_cons (pdg_name (i := 3) nd rfl (by first | exact .inl rfl | exact .inr rfl)) (pdg_cons (pdg_name (i := 4) nd rfl (by first | exact .inl rfl | exact .inr rfl)) (pdg_nil))))
  · refine pds_for PassesOwn.never rfl (pdi_enum (by rfl) Z.fr_enumerate (pda_cons (pd_var (pv 0)) (pda_nil))) (pdg_tup rfl (pdg_cons (pdg_name (i := 5) nd rfl (by first | exact .inl rfl | exact .inr rfl)) (pdg_cons (pdg_name (i := 6) nd rfl (by first | exact .inl rfl | exact .inr rfl)) (pdg_nil)))) ?_
    refine pds_cons ?_ (pds_one ?_)
    · exact pds_set (i := 7) nd rfl (by first | exact .inl rfl | exact .inr rfl) (pd_ix (pd_var (pv 0)) (pd_mod (pd_add (pd_var (pv 5)) (pd_int)) (pd_callB callL_len call_len (by rfl) Z.fr_len (by decide +kernel) (pda_cons (pd_var (pv 0)) (pda_nil)))) (fun _ _ => rfl))
    · refine pds_if (pdt_ne hr.units (pd_gt hr.units (pd_ix (pd_var (pv 6)) (pd_int) (fun _ _ => rfl)) (pd_var (pv 2))) (pd_gt hr.units (pd_ix (pd_var (pv 7)) (pd_int) (fun _ _ => rfl)) (pd_var (pv 2)))) ?_ ?_
      · refine pds_cons ?_ (pds_cons ?_ (pds_one ?_))
        · exact pds_set (i := 8) nd rfl (by first | exact .inl rfl | exact .inr rfl) (pd_sub (pd_ix (pd_var (pv 7)) (pd_int) (fun _ _ => rfl)) (pd_ix (pd_var (pv 6)) (pd_int) (fun _ _ => rfl)))
        · exact pds_set (i := 9) nd rfl (by first | exact .inl rfl | exact .inr rfl) (pd_sub (pd_mul (pd_sub (pd_var (pv 2)) (pd_ix (pd_var (pv 6)) (pd_int) (fun _ _ => rfl))) (pd_sub (pd_ix (pd_var (pv 7)) (pd_int) (fun _ _ => rfl)) (pd_ix (pd_var (pv 6)) (pd_int) (fun _ _ => rfl)))) (pd_mul (pd_sub (pd_var (pv 1)) (pd_ix (pd_var (pv 6)) (pd_int) (fun _ _ => rfl))) (pd_var (pv 8))))
        · refine pds_if (PW.pt (pdw_or (pdt_eq hr.units (pd_var (pv 9)) (pd_int)) (pdw_or1 (pdt_eq hr.units (pd_lt hr.units (pd_var (pv 9)) (pd_int)) (pd_gt hr.units (pd_var (pv 8)) (pd_int)))))) ?_ ?_
          · refine pds_one ?_
            · exact pds_par (i := 3) (j := 4) rfl nd rfl rfl (by decide) rfl rfl (pda_cons (pd_add (pd_var (pv 3)) (by exact (pd_ix (pd_lst (pda_cons (pd_int) (pda_cons (pd_neg (pd_int)) (pda_nil)))) (pd_callTy callL_int callR_int (by rfl) Z.fr_int (by decide +kernel) (pda_cons (pd_lt hr.units (pd_var (pv 8)) (pd_int)) (pda_nil))) (fun _ _ => rfl)))) (pda_cons (pd_add (pd_var (pv 4)) (pd_int)) (pda_nil))) (by rfl)
          · exact pds_nil
      · exact pds_nil
  · exact pds_ret (pd_tup (pda_cons (pd_var (pv 3)) (pda_cons (pd_var (pv 4)) (pda_nil))))
theorem b__law_within {P : Program} {w : World} {K : PySem.W.Frag} {mg : Str → Option Value} {base : Heap} (Z : Zs K mg)
    {a__law_west : Addr} {fd__law_west : FuncData} (D__law_west : DefAt K mg "_law_west" (top 45) [] a__law_west fd__law_west) (G__law_west : FnOk P w K mg base CX0 1 a__law_west fd__law_west ["_law_pairs", "_law_x", "_law_y"] (lSp K sp__law_west))
    {f : Addr} (cdv : Value) (A : Around) (outer : List Env) (s : Shared) (H : Hp) (E : XK) (hr : Room 1 (A.deeper (envOfC "_law_within" (defScope (top 46)) s.heap.objs.size f cdv))) :
    PDSs (cxOf CX0 P w K mg base ["_law_rows", "_law_x", "_law_y", "_law_odd", "_law_some", "_law_pairs", "_law_ups", "_law_many"] "_law_within" (defScope (top 46)) f cdv A outer s H E).nox (defBody (top 46)) r__law_within := by
  have nd := sc__law_within.nd
  have m__law_west := D__law_west.m
  have kp__law_west := D__law_west.F.kp
  have B__law_west_3 : Binds K fd__law_west ["_law_pairs", "_law_x", "_law_y"] [] := FunD.bindsN D__law_west.F fun _ _ _ _ _ _ us hl => match us, hl with | [_, _, _], _ => rfl
  have R__law_west_3 : Vals [] [] := .nil
  have dd__law_west_3 : ∀ Hb, RepAll K Hb [] [] := fun _ => by simp [RepAll, Rep]
  refine pds_cons ?_ (pds_cons ?_ (pds_one ?_))
  · exact pds_setLc (i := 4) rfl nd rfl rfl (sw_true rfl rfl rfl (by decide +kernel)) (g := gName 5) (pdi_seq (pd_var (pv 0))) (blkOk_by (own := [("_law_pairs", 5)]) (by rfl)) (fun _ _ _ _ _ => tg_name (i := 5) nd rfl (by first | exact .inl rfl | exact .inr rfl)) (fun _ _ _ _ _ => pdts_nil) (fun _ _ _ _ _ => pd_call G__law_west (hr.mono (by decide)) (by rfl) m__law_west kp__law_west B__law_west_3 R__law_west_3 (fun Hb => dd__law_west_3 Hb) (pda_cons (pd_var (pv 5)) (pda_cons (pd_var (pv 1)) (pda_cons (pd_var (pv 2)) (pda_nil)))))
  · refine pds_if (pdt_val (pd_var (pv 3))) ?_ ?_
    · refine pds_one ?_
      · exact pds_ret (pd_eq hr.units (pd_mod (pd_callB callL_sum (cr_sum rfl) (by rfl) Z.fr_sum (by decide +kernel) (pda_cons (pd_lc (own := [("_law_ups", 6), ("_law_many", 7)]) rfl nd (g := gTup K 2 (gCons (gName 6) (gCons (gName 7) (gNil)))) (pdi_seq (pd_var (pv 4))) (blkOk_by (own := [("_law_ups", 6), ("_law_many", 7)]) (by rfl)) (fun _ _ _ _ _ => tg_tup rfl (tgs_cons (tg_name (i := 6) nd rfl (by first | exact .inl rfl | exact .inr rfl)) (tgs_cons (tg_name (i := 7) nd rfl (by first | exact .inl rfl | exact .inr rfl)) (tgs_nil)))) (fun _ _ _ _ _ => pdts_nil) (fun _ _ _ _ _ => pd_var (pv 7))) (pda_nil))) (pd_int)) (pd_int))
    · exact pds_nil
  · exact pds_ret (pd_ne hr.units (pd_callB callL_sum (cr_sum rfl) (by rfl) Z.fr_sum (by decide +kernel) (pda_cons (pd_lc (own := [("_law_ups", 6), ("_law_many", 7)]) rfl nd (g := gTup K 2 (gCons (gName 6) (gCons (gName 7) (gNil)))) (pdi_seq (pd_var (pv 4))) (blkOk_by (own := [("_law_ups", 6), ("_law_many", 7)]) (by rfl)) (fun _ _ _ _ _ => tg_tup rfl (tgs_cons (tg_name (i := 6) nd rfl (by first | exact .inl rfl | exact .inr rfl)) (tgs_cons (tg_name (i := 7) nd rfl (by first | exact .inl rfl | exact .inr rfl)) (tgs_nil)))) (fun _ _ _ _ _ => pdts_nil) (fun _ _ _ _ _ => pd_var (pv 6))) (pda_nil))) (pd_int))
theorem b__law_due {P : Program} {w : World} {K : PySem.W.Frag} {mg : Str → Option Value} {base : Heap} (Z : Zs K mg)
    {a__law_within : Addr} {fd__law_within : FuncData} (D__law_within : DefAt K mg "_law_within" (top 46) [] a__law_within fd__law_within) (G__law_within : FnOk P w K mg base CX0 2 a__law_within fd__law_within ["_law_rows", "_law_x", "_law_y", "_law_odd"] (lSp K sp__law_within))
    {a__law_spans : Addr} {fd__law_spans : FuncData} (D__law_spans : DefAt K mg "_law_spans" (top 44) [] a__law_spans fd__law_spans) (G__law_spans : FnOk P w K mg base CX0 1 a__law_spans fd__law_spans ["_law_cells_of"] (lSp K sp__law_spans))
    {f : Addr} (cdv : Value) (A : Around) (outer : List Env) (s : Shared) (H : Hp) (E : XK) (hr : Room 2 (A.deeper (envOfC "_law_due" (defScope (top 47)) s.heap.objs.size f cdv))) :
    PDSs (cxOf CX0 P w K mg base ["_law_rows", "_law_base", "_law_odd", "_law_found", "_law_flat", "_law_west_here", "_law_east", "_law_low", "_law_high", "_law_row", "_law_column", "_law_x", "_law_y"] "_law_due" (defScope (top 47)) f cdv A outer s H E).nox (defBody (top 47)) r__law_due := by
  have nd := sc__law_due.nd
  have m__law_within := D__law_within.m
  have kp__law_within := D__law_within.F.kp
  have m__law_spans := D__law_spans.m
  have kp__law_spans := D__law_spans.F.kp
  have B__law_spans_1 : Binds K fd__law_spans ["_law_cells_of"] [] := FunD.bindsN D__law_spans.F fun _ _ _ _ _ _ us hl => match us, hl with | [_], _ => rfl
  have R__law_spans_1 : Vals [] [] := .nil
  have dd__law_spans_1 : ∀ Hb, RepAll K Hb [] [] := fun _ => by simp [RepAll, Rep]
  have B__law_within_4 : Binds K fd__law_within ["_law_rows", "_law_x", "_law_y", "_law_odd"] [] := FunD.bindsN D__law_within.F fun _ _ _ _ _ _ us hl => match us, hl with | [_, _, _, _], _ => rfl
  have R__law_within_4 : Vals [] [] := .nil
  have dd__law_within_4 : ∀ Hb, RepAll K Hb [] [] := fun _ => by simp [RepAll, Rep]
  refine pds_cons ?_ (pds_cons ?_ (pds_cons ?_ (pds_cons ?_ (pds_cons ?_ (pds_one ?_)))))
  · exact pds_set (i := 3) nd rfl (by first | exact .inl rfl | exact .inr rfl) (pd_cell (pda_nil))
  · exact pds_set (i := 4) nd rfl (by first | exact .inl rfl | exact .inr rfl) (pd_sumS rfl (by rfl) Z.fr_sum (pd_var (pv 0)))
  · exact pds_par (i := 5) (j := 6) rfl nd rfl rfl (by decide) rfl rfl (pda_cons (pd_sub (pd_fdiv (pd_callB callL_minL (cr_min rfl) (by rfl) Z.fr_min (by decide +kernel) (pda_cons (pd_lc (own := [("_law_x", 11), ("_law_y", 12)]) rfl nd (g := gTup K 2 (gCons (gName 11) (gCons (gName 12) (gNil)))) (pdi_seq (pd_var (pv 4))) (blkOk_by (own := [("_law_x", 11), ("_law_y", 12)]) (by rfl)) (fun _ _ _ _ _ => tg_tup rfl (tgs_cons (tg_name (i := 11) nd rfl (by first | exact .inl rfl | exact .inr rfl)) (tgs_cons (tg_name (i := 12) nd rfl (by first | exact .inl rfl | exact .inr rfl)) (tgs_nil)))) (fun _ _ _ _ _ => pdts_nil) (fun _ _ _ _ _ => pd_var (pv 11))) (pda_nil))) (pd_mul (pd_int) (pd_var (pv 1)))) (pd_int)) (pda_cons (pd_add (pd_fdiv (pd_callB callL_maxL (cr_max rfl) (by rfl) Z.fr_max (by decide +kernel) (pda_cons (pd_lc (own := [("_law_x", 11), ("_law_y", 12)]) rfl nd (g := gTup K 2 (gCons (gName 11) (gCons (gName 12) (gNil)))) (pdi_seq (pd_var (pv 4))) (blkOk_by (own := [("_law_x", 11), ("_law_y", 12)]) (by rfl)) (fun _ _ _ _ _ => tg_tup rfl (tgs_cons (tg_name (i := 11) nd rfl (by first | exact .inl rfl | exact .inr rfl)) (tgs_cons (tg_name (i := 12) nd rfl (by first | exact .inl rfl | exact .inr rfl)) (tgs_nil)))) (fun _ _ _ _ _ => pdts_nil) (fun _ _ _ _ _ => pd_var (pv 11))) (pda_nil))) (pd_mul (pd_int) (pd_var (pv 1)))) (pd_int)) (pda_nil))) (by rfl)
  · exact pds_par (i := 7) (j := 8) rfl nd rfl rfl (by decide) rfl rfl (pda_cons (pd_sub (pd_fdiv (pd_callB callL_minL (cr_min rfl) (by rfl) Z.fr_min (by decide +kernel) (pda_cons (pd_lc (own := [("_law_x", 11), ("_law_y", 12)]) rfl nd (g := gTup K 2 (gCons (gName 11) (gCons (gName 12) (gNil)))) (pdi_seq (pd_var (pv 4))) (blkOk_by (own := [("_law_x", 11), ("_law_y", 12)]) (by rfl)) (fun _ _ _ _ _ => tg_tup rfl (tgs_cons (tg_name (i := 11) nd rfl (by first | exact .inl rfl | exact .inr rfl)) (tgs_cons (tg_name (i := 12) nd rfl (by first | exact .inl rfl | exact .inr rfl)) (tgs_nil)))) (fun _ _ _ _ _ => pdts_nil) (fun _ _ _ _ _ => pd_var (pv 12))) (pda_nil))) (pd_mul (pd_int) (pd_var (pv 1)))) (pd_int)) (pda_cons (pd_add (pd_fdiv (pd_callB callL_maxL (cr_max rfl) (by rfl) Z.fr_max (by decide +kernel) (pda_cons (pd_lc (own := [("_law_x", 11), ("_law_y", 12)]) rfl nd (g := gTup K 2 (gCons (gName 11) (gCons (gName 12) (gNil)))) (pdi_seq (pd_var (pv 4))) (blkOk_by (own := [("_law_x", 11), ("_law_y", 12)]) (by rfl)) (fun _ _ _ _ _ => tg_tup rfl (tgs_cons (tg_name (i := 11) nd rfl (by first | exact .inl rfl | exact .inr rfl)) (tgs_cons (tg_name (i := 12) nd rfl (by first | exact .inl rfl | exact .inr rfl)) (tgs_nil)))) (fun _ _ _ _ _ => pdts_nil) (fun _ _ _ _ _ => pd_var (pv 12))) (pda_nil))) (pd_mul (pd_int) (pd_var (pv 1)))) (pd_int)) (pda_nil))) (by rfl)
  · refine pds_for PassesOwn.never rfl (pdi_range2 (by rfl) Z.fr_range (pda_cons (pd_var (pv 7)) (pda_cons (pd_var (pv 8)) (pda_nil)))) (pdg_name (i := 9) nd rfl (by first | exact .inl rfl | exact .inr rfl)) ?_
    refine pds_one ?_
    · refine pds_for PassesOwn.never rfl (pdi_range2 (by rfl) Z.fr_range (pda_cons (pd_var (pv 5)) (pda_cons (pd_var (pv 6)) (pda_nil)))) (pdg_name (i := 10) nd rfl (by first | exact .inl rfl | exact .inr rfl)) ?_
      refine pds_one ?_
      · refine pds_if (pdt_val (pd_call G__law_within (hr.mono (by decide)) (by rfl) m__law_within kp__law_within B__law_within_4 R__law_within_4 (fun Hb => dd__law_within_4 Hb) (pda_cons (pd_var (pv 0)) (pda_cons (pd_mul (pd_add (pd_mul (pd_int) (pd_var (pv 10))) (pd_int)) (pd_var (pv 1))) (pda_cons (pd_mul (pd_add (pd_mul (pd_int) (pd_var (pv 9))) (pd_int)) (pd_var (pv 1))) (pda_cons (pd_var (pv 2)) (pda_nil))))))) ?_ ?_
        · refine pds_one ?_
          · exact pds_expr (pd_append (pd_var (pv 3)) (pd_tup (pda_cons (pd_var (pv 9)) (pda_cons (pd_var (pv 10)) (pda_nil)))))
        · exact pds_nil
  · exact pds_ret (pd_call G__law_spans (hr.mono (by decide)) (by rfl) m__law_spans kp__law_spans B__law_spans_1 R__law_spans_1 (fun Hb => dd__law_spans_1 Hb) (pda_cons (pd_var (pv 3)) (pda_nil)))
theorem b_law {P : Program} {w : World} {K : PySem.W.Frag} {mg : Str → Option Value} {base : Heap} (Z : Zs K mg)
    {a__law_box : Addr} {fd__law_box : FuncData} (D__law_box : DefAt K mg "_law_box" (top 37) [] a__law_box fd__law_box) (G__law_box : FnOk P w K mg base CX0 1 a__law_box fd__law_box ["_law_cell_here"] (lSp K sp__law_box))
    {a__law_cell : Addr} {fd__law_cell : FuncData} (D__law_cell : DefAt K mg "_law_cell" (top 36) [] a__law_cell fd__law_cell) (G__law_cell : FnOk P w K mg base CX0 1 a__law_cell fd__law_cell ["_law_script", "_law_k"] (lSp K sp__law_cell))
    {a__law_take : Addr} {fd__law_take : FuncData} (D__law_take : DefAt K mg "_law_take" (top 38) [] a__law_take fd__law_take) (G__law_take : FnOk P w K mg base CX0 1 a__law_take fd__law_take ["_law_box_here", "_law_many"] (lSp K sp__law_take))
    {a__law_scene : Addr} {fd__law_scene : FuncData} (D__law_scene : DefAt K mg "_law_scene" (top 43) [] a__law_scene fd__law_scene) (G__law_scene : FnOk P w K mg base CX0 3 a__law_scene fd__law_scene ["_law_box_here", "_law_base"] (lSp K sp__law_scene))
    {a__law_told : Addr} {fd__law_told : FuncData} (D__law_told : DefAt K mg "_law_told" (top 40) [] a__law_told fd__law_told) (G__law_told : FnOk P w K mg base CX0 2 a__law_told fd__law_told ["_law_pairs", "_law_base"] (lSp K sp__law_told))
    {a__law_due : Addr} {fd__law_due : FuncData} (D__law_due : DefAt K mg "_law_due" (top 47) [] a__law_due fd__law_due) (G__law_due : FnOk P w K mg base CX0 3 a__law_due fd__law_due ["_law_rows", "_law_base", "_law_odd"] (lSp K sp__law_due))
    {a_cells : Addr} {fd_cells : FuncData} (D_cells : DefAt K mg "cells" (top 34) [("rule", .str "round"), ("drops", .bl true)] a_cells fd_cells) (G_cells : FnOk P w K mg base CX0 5 a_cells fd_cells ["parts", "rule", "drops"] (lSp K sp_cells))
    {f : Addr} (cdv : Value) (A : Around) (outer : List Env) (s : Shared) (H : Hp) (E : XK) (hr : Room 5 (A.deeper (envOfC "law" (defScope (top 48)) s.heap.objs.size f cdv))) (hgd : (A.deeper (envOfC "law" (defScope (top 48)) s.heap.objs.size f cdv)).guards = some []) :
    PDSs (cxOf CX0 P w K mg base ["_law_script", "_law_ahead", "_law_k", "_law_box_here", "_law_base", "_law_rows", "_law_handed", "_law_some", "_law_due_here", "_law_stood", "_law_found", "_law_far", "_law_a", "_law_b", "_law_others", "_law_wide", "_law_row", "_law_strip", "_law_pairs", "_law_begin", "_law_end", "_law_x", "_law_y", "_law_odd", "_law_places"] "law" (defScope (top 48)) f cdv A outer s H E).nox (defBody (top 48)) r_law := by
  have nd := sc_law.nd
  have m__law_box := D__law_box.m
  have kp__law_box := D__law_box.F.kp
  have m__law_cell := D__law_cell.m
  have kp__law_cell := D__law_cell.F.kp
  have m__law_take := D__law_take.m
  have kp__law_take := D__law_take.F.kp
  have m__law_scene := D__law_scene.m
  have kp__law_scene := D__law_scene.F.kp
  have m__law_told := D__law_told.m
  have kp__law_told := D__law_told.F.kp
  have m__law_due := D__law_due.m
  have kp__law_due := D__law_due.F.kp
  have m_cells := D_cells.m
  have kp_cells := D_cells.F.kp
  have B__law_box_1 : Binds K fd__law_box ["_law_cell_here"] [] := FunD.bindsN D__law_box.F fun _ _ _ _ _ _ us hl => match us, hl with | [_], _ => rfl
  have R__law_box_1 : Vals [] [] := .nil
  have dd__law_box_1 : ∀ Hb, RepAll K Hb [] [] := fun _ => by simp [RepAll, Rep]
  have B__law_cell_2 : Binds K fd__law_cell ["_law_script", "_law_k"] [] := FunD.bindsN D__law_cell.F fun _ _ _ _ _ _ us hl => match us, hl with | [_, _], _ => rfl
  have R__law_cell_2 : Vals [] [] := .nil
  have dd__law_cell_2 : ∀ Hb, RepAll K Hb [] [] := fun _ => by simp [RepAll, Rep]
  have B__law_due_3 : Binds K fd__law_due ["_law_rows", "_law_base", "_law_odd"] [] := FunD.bindsN D__law_due.F fun _ _ _ _ _ _ us hl => match us, hl with | [_, _, _], _ => rfl
  have R__law_due_3 : Vals [] [] := .nil
  have dd__law_due_3 : ∀ Hb, RepAll K Hb [] [] := fun _ => by simp [RepAll, Rep]
  have B__law_scene_2 : Binds K fd__law_scene ["_law_box_here", "_law_base"] [] := FunD.bindsN D__law_scene.F fun _ _ _ _ _ _ us hl => match us, hl with | [_, _], _ => rfl
  have R__law_scene_2 : Vals [] [] := .nil
  have dd__law_scene_2 : ∀ Hb, RepAll K Hb [] [] := fun _ => by simp [RepAll, Rep]
  have B__law_take_2 : Binds K fd__law_take ["_law_box_here", "_law_many"] [] := FunD.bindsN D__law_take.F fun _ _ _ _ _ _ us hl => match us, hl with | [_, _], _ => rfl
  have R__law_take_2 : Vals [] [] := .nil
  have dd__law_take_2 : ∀ Hb, RepAll K Hb [] [] := fun _ => by simp [RepAll, Rep]
  have B__law_told_2 : Binds K fd__law_told ["_law_pairs", "_law_base"] [] := FunD.bindsN D__law_told.F fun _ _ _ _ _ _ us hl => match us, hl with | [_, _], _ => rfl
  have R__law_told_2 : Vals [] [] := .nil
  have dd__law_told_2 : ∀ Hb, RepAll K Hb [] [] := fun _ => by simp [RepAll, Rep]
  obtain ⟨mv_cells_0_drops_rule_parts, B_cells_0_drops_rule_parts⟩ := FunD.kbinds0 (ps := ["parts", "rule", "drops"]) D_cells.F 0 ["drops", "rule", "parts"] [] (fun us mv ws => gg_cells_0_drops_rule_parts us mv ws) (by decide) (by decide) (fun r1 r2 r3 => Vals.append (Vals.append (Vals.append (r1) (Vals.take 1 (Vals.drop 2 r3))) (Vals.take 1 (Vals.drop 1 r3))) (Vals.take 1 (Vals.drop 0 r3))) fun _ _ _ _ _ _ us mv ws h1 h2 h3 => match us, mv, ws, h1, h2, h3 with | [], [], [_, _, _], _, _, _ => rfl
  have r2_cells_0_drops_rule_parts : ∀ Hb, RepAll K Hb [] [] := fun _ => by simp [RepAll, Rep]
  have hD_cells_0_drops_rule_parts : ∀ {Hb : Hp} {ds es : List D} {vs zs : List V}, ds.length = 0 → es.length = ["drops", "rule", "parts"].length → RepAll K Hb ds vs → RepAll K Hb es zs → RepAll K Hb (gD_cells_0_drops_rule_parts ds es) (gg_cells_0_drops_rule_parts vs [] zs) := fun {Hb ds es vs zs} _ _ r1 r3 => by have r2 := r2_cells_0_drops_rule_parts Hb; exact RepAll.append (RepAll.append (RepAll.append (r1) (RepAll.take 1 (RepAll.drop 2 (r3)))) (RepAll.take 1 (RepAll.drop 1 (r3)))) (RepAll.take 1 (RepAll.drop 0 (r3)))
  obtain ⟨mv_cells_1_drops, B_cells_1_drops⟩ := FunD.kbinds0 (ps := ["parts", "rule", "drops"]) D_cells.F 1 ["drops"] [("rule", .str "round")] (fun us mv ws => gg_cells_1_drops us mv ws) (by decide) (by decide) (fun r1 r2 r3 => Vals.append (Vals.append (r1) (Vals.take 1 (Vals.drop 0 r2))) (Vals.take 1 (Vals.drop 0 r3))) fun _ _ _ _ _ _ us mv ws h1 h2 h3 => match us, mv, ws, h1, h2, h3 with | [_], [_], [_], _, _, _ => ⟨_, _, _, _, _, _, rfl, rfl, rfl⟩
  have r2_cells_1_drops : ∀ Hb, RepAll K Hb [.str "round"] [.str "round"] := fun _ => by simp [RepAll, Rep]
  have hD_cells_1_drops : ∀ {Hb : Hp} {ds es : List D} {vs zs : List V}, ds.length = 1 → es.length = ["drops"].length → RepAll K Hb ds vs → RepAll K Hb es zs → RepAll K Hb (gD_cells_1_drops ds es) (gg_cells_1_drops vs [.str "round"] zs) := fun {Hb ds es vs zs} _ _ r1 r3 => by have r2 := r2_cells_1_drops Hb; exact RepAll.append (RepAll.append (r1) (RepAll.take 1 (RepAll.drop 0 (r2)))) (RepAll.take 1 (RepAll.drop 0 (r3)))
  obtain ⟨mv_cells_1_rule_drops, B_cells_1_rule_drops⟩ := FunD.kbinds0 (ps := ["parts", "rule", "drops"]) D_cells.F 1 ["rule", "drops"] [] (fun us mv ws => gg_cells_1_rule_drops us mv ws) (by decide) (by decide) (fun r1 r2 r3 => Vals.append (Vals.append (r1) (Vals.take 1 (Vals.drop 0 r3))) (Vals.take 1 (Vals.drop 1 r3))) fun _ _ _ _ _ _ us mv ws h1 h2 h3 => match us, mv, ws, h1, h2, h3 with | [_], [], [_, _], _, _, _ => rfl
  have r2_cells_1_rule_drops : ∀ Hb, RepAll K Hb [] [] := fun _ => by simp [RepAll, Rep]
  have hD_cells_1_rule_drops : ∀ {Hb : Hp} {ds es : List D} {vs zs : List V}, ds.length = 1 → es.length = ["rule", "drops"].length → RepAll K Hb ds vs → RepAll K Hb es zs → RepAll K Hb (gD_cells_1_rule_drops ds es) (gg_cells_1_rule_drops vs [] zs) := fun {Hb ds es vs zs} _ _ r1 r3 => by have r2 := r2_cells_1_rule_drops Hb; exact RepAll.append (RepAll.append (r1) (RepAll.take 1 (RepAll.drop 0 (r3)))) (RepAll.take 1 (RepAll.drop 1 (r3)))
  refine pds_cons ?_ (pds_cons ?_ (pds_one ?_))
  · exact pds_set (i := 1) nd rfl (by first | exact .inl rfl | exact .inr rfl) (pd_lst (pda_nil))
  · refine pds_for PassesOwn.never rfl (pdi_range1 (by rfl) Z.fr_range (pda_cons (pd_callB callL_max2 (call_max2 rfl) (by rfl) Z.fr_max (by decide +kernel) (pda_cons (pd_int) (pda_cons (pd_callB callL_min2 (call_min2 rfl) (by rfl) Z.fr_min (by decide +kernel) (pda_cons (pd_int) (pda_cons (pd_callB callL_len call_len (by rfl) Z.fr_len (by decide +kernel) (pda_cons (pd_var (pv 0)) (pda_nil))) (pda_nil)))) (pda_nil)))) (pda_nil))) (pdg_name (i := 2) nd rfl (by first | exact .inl rfl | exact .inr rfl)) ?_
    refine pds_cons ?_ (pds_cons ?_ (pds_cons ?_ (pds_cons ?_ (pds_cons ?_ (pds_cons ?_ (pds_cons ?_ (pds_cons ?_ (pds_cons ?_ (pds_cons ?_ (pds_cons ?_ (pds_cons ?_ (pds_cons ?_ (pds_one ?_)))))))))))))
    · exact pds_set (i := 3) nd rfl (by first | exact .inl rfl | exact .inr rfl) (pd_call G__law_box (hr.mono (by decide)) (by rfl) m__law_box kp__law_box B__law_box_1 R__law_box_1 (fun Hb => dd__law_box_1 Hb) (pda_cons (pd_call G__law_cell (hr.mono (by decide)) (by rfl) m__law_cell kp__law_cell B__law_cell_2 R__law_cell_2 (fun Hb => dd__law_cell_2 Hb) (pda_cons (pd_var (pv 0)) (pda_cons (pd_var (pv 2)) (pda_nil)))) (pda_nil)))
    · exact pds_set (i := 4) nd rfl (by first | exact .inl rfl | exact .inr rfl) (by exact (pd_ix (pd_lst (pda_cons (pd_int) (pda_cons (pd_int) (pda_cons (pd_int) (pda_cons (pd_add (pd_int) (pd_call G__law_take (hr.mono (by decide)) (by rfl) m__law_take kp__law_take B__law_take_2 R__law_take_2 (fun Hb => dd__law_take_2 Hb) (pda_cons (pd_var (pv 3)) (pda_cons (pd_int) (pda_nil))))) (pda_nil)))))) (pd_call G__law_take (hr.mono (by decide)) (by rfl) m__law_take kp__law_take B__law_take_2 R__law_take_2 (fun Hb => dd__law_take_2 Hb) (pda_cons (pd_var (pv 3)) (pda_cons (pd_int) (pda_nil)))) (fun _ _ => rfl)))
    · exact pds_set (i := 5) nd rfl (by first | exact .inl rfl | exact .inr rfl) (pd_call G__law_scene (hr.mono (by decide)) (by rfl) m__law_scene kp__law_scene B__law_scene_2 R__law_scene_2 (fun Hb => dd__law_scene_2 Hb) (pda_cons (pd_var (pv 3)) (pda_cons (pd_var (pv 4)) (pda_nil))))
    · exact pds_setLc (i := 6) rfl nd rfl rfl (sw_true rfl rfl rfl (by decide +kernel)) (g := gName 18) (pdi_seq (pd_var (pv 5))) (blkOk_by (own := [("_law_pairs", 18)]) (by rfl)) (fun _ _ _ _ _ => tg_name (i := 18) nd rfl (by first | exact .inl rfl | exact .inr rfl)) (fun _ _ _ _ _ => pdts_nil) (fun _ _ _ _ _ => pd_call G__law_told (hr.mono (by decide)) (by rfl) m__law_told kp__law_told B__law_told_2 R__law_told_2 (fun Hb => dd__law_told_2 Hb) (pda_cons (pd_var (pv 18)) (pda_cons (pd_var (pv 4)) (pda_nil))))
    · exact pds_set (i := 1) nd rfl (by first | exact .inl rfl | exact .inr rfl) (pd_slA (pd_add (pd_var (pv 1)) (pd_lst (pda_cons (pd_tup (pda_cons (pd_var (pv 6)) (pda_cons (pd_lc (own := [("_law_odd", 23)]) rfl nd (g := gName 23) (pdi_seq (pd_lst (pda_cons (pd_bl) (pda_cons (pd_bl) (pda_nil))))) (blkOk_by (own := [("_law_odd", 23)]) (by rfl)) (fun _ _ _ _ _ => tg_name (i := 23) nd rfl (by first | exact .inl rfl | exact .inr rfl)) (fun _ _ _ _ _ => pdts_nil) (fun _ _ _ _ _ => pd_call G__law_due (hr.mono (by decide)) (by rfl) m__law_due kp__law_due B__law_due_3 R__law_due_3 (fun Hb => dd__law_due_3 Hb) (pda_cons (pd_var (pv 5)) (pda_cons (pd_var (pv 4)) (pda_cons (pd_var (pv 23)) (pda_nil)))))) (pda_nil)))) (pda_nil)))) (pdo_some (pd_neg (pd_int))) pdo_none)
    · refine pds_for PassesOwn.never rfl (pdi_seq (pd_var (pv 1))) (pdg_tup rfl (pdg_cons (pdg_name (i := 7) nd rfl (by first | exact .inl rfl | exact .inr rfl)) (pdg_cons (pdg_name (i := 8) nd rfl (by first | exact .inl rfl | exact .inr rfl)) (pdg_nil)))) ?_
      refine pds_cons ?_ (pds_cons ?_ (pds_cons ?_ (pds_cons ?_ (pds_one ?_))))
      · exact pds_set (i := 9) nd rfl (by first | exact .inl rfl | exact .inr rfl) (pd_callB callL_repr (callR_repr hr.units hgd) (by rfl) Z.fr_repr (by decide +kernel) (pda_cons (pd_var (pv 7)) (pda_nil)))
      · refine pds_if (PW.pt (pdw_or (pdt_ne hr.units (pd_callB callL_repr (callR_repr hr.units hgd) (by rfl) Z.fr_repr (by decide +kernel) (pda_cons (pd_frz (pd_callK G_cells (hr.mono (by decide)) (by rfl) m_cells kp_cells B_cells_1_drops hD_cells_1_drops (pda_cons (pd_var (pv 7)) (pda_nil)) (pdk_cons (pd_bl) (pdk_nil)))) (pda_nil))) (pd_callB callL_repr (callR_repr hr.units hgd) (by rfl) Z.fr_repr (by decide +kernel) (pda_cons (pd_ix (pd_var (pv 8)) (pd_int) (fun _ _ => rfl)) (pda_nil)))) (pdw_or1 (pdt_ne hr.units (pd_callB callL_repr (callR_repr hr.units hgd) (by rfl) Z.fr_repr (by decide +kernel) (pda_cons (pd_var (pv 7)) (pda_nil))) (pd_var (pv 9)))))) ?_ ?_
        · refine pds_one ?_
          · exact pds_ret (pd_bl)
        · exact pds_nil
      · exact pds_set (i := 10) nd rfl (by first | exact .inl rfl | exact .inr rfl) (pd_callK0 G_cells (hr.mono (by decide)) (by rfl) m_cells kp_cells B_cells_0_drops_rule_parts hD_cells_0_drops_rule_parts (pdk_cons (pd_bl) (pdk_cons (pd_str) (pdk_cons (pd_var (pv 7)) (pdk_nil)))))
      · refine pds_if (PW.pt (pdw_or (pdt_ne hr.units (pd_callB callL_repr (callR_repr hr.units hgd) (by rfl) Z.fr_repr (by decide +kernel) (pda_cons (pd_var (pv 10)) (pda_nil))) (pd_callB callL_repr (callR_repr hr.units hgd) (by rfl) Z.fr_repr (by decide +kernel) (pda_cons (pd_ix (pd_var (pv 8)) (pd_int) (fun _ _ => rfl)) (pda_nil)))) (pdw_or1 (pdt_ne hr.units (pd_callB callL_repr (callR_repr hr.units hgd) (by rfl) Z.fr_repr (by decide +kernel) (pda_cons (pd_frz (pd_callK G_cells (hr.mono (by decide)) (by rfl) m_cells kp_cells B_cells_1_rule_drops hD_cells_1_rule_drops (pda_cons (pd_revL (pd_var (pv 7))) (pda_nil)) (pdk_cons (pd_str) (pdk_cons (pd_bl) (pdk_nil))))) (pda_nil))) (pd_callB callL_repr (callR_repr hr.units hgd) (by rfl) Z.fr_repr (by decide +kernel) (pda_cons (pd_ix (pd_var (pv 8)) (pd_int) (fun _ _ => rfl)) (pda_nil))))))) ?_ ?_
        · refine pds_one ?_
          · exact pds_ret (pd_bl)
        · exact pds_nil
      · exact pds_expr (pd_append (pd_var (pv 10)) (pd_str))
    · exact pds_set (i := 11) nd rfl (by first | exact .inl rfl | exact .inr rfl) (by exact (pd_ix (pd_lst (pda_cons (pd_int) (pda_cons (pd_int) (pda_cons (pd_pow (pd_int) (pd_int)) (pda_nil))))) (pd_call G__law_take (hr.mono (by decide)) (by rfl) m__law_take kp__law_take B__law_take_2 R__law_take_2 (fun Hb => dd__law_take_2 Hb) (pda_cons (pd_var (pv 3)) (pda_cons (pd_int) (pda_nil)))) (fun _ _ => rfl)))
    · exact pds_asg (pd_tup (pda_cons (pd_mul (pd_sub (pd_call G__law_take (hr.mono (by decide)) (by rfl) m__law_take kp__law_take B__law_take_2 R__law_take_2 (fun Hb => dd__law_take_2 Hb) (pda_cons (pd_var (pv 3)) (pda_cons (pd_int) (pda_nil)))) (pd_int)) (pd_var (pv 11))) (pda_cons (pd_mul (pd_sub (pd_call G__law_take (hr.mono (by decide)) (by rfl) m__law_take kp__law_take B__law_take_2 R__law_take_2 (fun Hb => dd__law_take_2 Hb) (pda_cons (pd_var (pv 3)) (pda_cons (pd_int) (pda_nil)))) (pd_int)) (pd_var (pv 11))) (pda_nil)))) (pdg_tup rfl (pdg_cons (pdg_name (i := 12) nd rfl (by first | exact .inl rfl | exact .inr rfl)) (pdg_cons (pdg_name (i := 13) nd rfl (by first | exact .inl rfl | exact .inr rfl)) (pdg_nil))))
    · exact pds_setLc (i := 14) rfl nd rfl rfl (sw_true rfl rfl rfl (by decide +kernel)) (g := gName 18) (pdi_seq (pd_var (pv 5))) (blkOk_by (own := [("_law_pairs", 18)]) (by rfl)) (fun _ _ _ _ _ => tg_name (i := 18) nd rfl (by first | exact .inl rfl | exact .inr rfl)) (fun _ _ _ _ _ => pdts_nil) (fun _ _ _ _ _ => pd_call G__law_told (hr.mono (by decide)) (by rfl) m__law_told kp__law_told B__law_told_2 R__law_told_2 (fun Hb => dd__law_told_2 Hb) (pda_cons (pd_lc (own := [("_law_x", 21), ("_law_y", 22)]) rfl nd (g := gTup K 2 (gCons (gName 21) (gCons (gName 22) (gNil)))) (pdi_seq (pd_var (pv 18))) (blkOk_by (own := [("_law_x", 21), ("_law_y", 22)]) (by rfl)) (fun _ _ _ _ _ => tg_tup rfl (tgs_cons (tg_name (i := 21) nd rfl (by first | exact .inl rfl | exact .inr rfl)) (tgs_cons (tg_name (i := 22) nd rfl (by first | exact .inl rfl | exact .inr rfl)) (tgs_nil)))) (fun _ _ _ _ _ => pdts_nil) (fun _ _ _ _ _ => pd_tup (pda_cons (pd_add (pd_var (pv 21)) (pd_mul (pd_mul (pd_int) (pd_var (pv 12))) (pd_var (pv 4)))) (pda_cons (pd_add (pd_var (pv 22)) (pd_mul (pd_mul (pd_int) (pd_var (pv 13))) (pd_var (pv 4)))) (pda_nil))))) (pda_cons (pd_var (pv 4)) (pda_nil))))
    · exact pds_setLc (i := 8) rfl nd rfl rfl (sw_true rfl rfl rfl (by decide +kernel)) (g := gTup K 3 (gCons (gName 16) (gCons (gName 19) (gCons (gName 20) (gNil))))) (pdi_seq (by exact (pd_ix (pd_ix (pd_ix (pd_var (pv 1)) (pd_neg (pd_int)) (fun _ _ => rfl)) (pd_int) (fun _ _ => rfl)) (pd_int) (fun _ _ => rfl)))) (blkOk_by (own := [("_law_row", 16), ("_law_begin", 19), ("_law_end", 20)]) (by rfl)) (fun _ _ _ _ _ => tg_tup rfl (tgs_cons (tg_name (i := 16) nd rfl (by first | exact .inl rfl | exact .inr rfl)) (tgs_cons (tg_name (i := 19) nd rfl (by first | exact .inl rfl | exact .inr rfl)) (tgs_cons (tg_name (i := 20) nd rfl (by first | exact .inl rfl | exact .inr rfl)) (tgs_nil))))) (fun _ _ _ _ _ => pdts_nil) (fun _ _ _ _ _ => pd_tup (pda_cons (pd_add (pd_var (pv 16)) (pd_var (pv 13))) (pda_cons (pd_add (pd_var (pv 19)) (pd_var (pv 12))) (pda_cons (pd_add (pd_var (pv 20)) (pd_var (pv 12))) (pda_nil)))))
    · refine pds_if (pdt_ne hr.units (pd_callB callL_repr (callR_repr hr.units hgd) (by rfl) Z.fr_repr (by decide +kernel) (pda_cons (pd_frz (pd_callK G_cells (hr.mono (by decide)) (by rfl) m_cells kp_cells B_cells_1_drops hD_cells_1_drops (pda_cons (pd_callTy callL_tuple call_tuple_of (by rfl) Z.fr_tuple (by decide +kernel) (pda_cons (pd_lc (own := [("_law_places", 24)]) rfl nd (g := gName 24) (pdi_seq (pd_var (pv 14))) (blkOk_by (own := [("_law_places", 24)]) (by rfl)) (fun _ _ _ _ _ => tg_name (i := 24) nd rfl (by first | exact .inl rfl | exact .inr rfl)) (fun _ _ _ _ _ => pdts_nil) (fun _ _ _ _ _ => pd_callTy callL_tuple call_tuple_of (by rfl) Z.fr_tuple (by decide +kernel) (pda_cons (pd_var (pv 24)) (pda_nil)))) (pda_nil))) (pda_nil)) (pdk_cons (pd_bl) (pdk_nil)))) (pda_nil))) (pd_callB callL_repr (callR_repr hr.units hgd) (by rfl) Z.fr_repr (by decide +kernel) (pda_cons (pd_var (pv 8)) (pda_nil)))) ?_ ?_
      · refine pds_one ?_
        · exact pds_ret (pd_bl)
      · exact pds_nil
    · exact pds_par (i := 15) (j := 16) rfl nd rfl rfl (by decide) rfl rfl (pda_cons (pd_callTy callL_int callR_int (by rfl) Z.fr_int (by decide +kernel) (pda_cons (pd_add (pd_str) (pd_mulS (pd_str) (pd_call G__law_take (hr.mono (by decide)) (by rfl) m__law_take kp__law_take B__law_take_2 R__law_take_2 (fun Hb => dd__law_take_2 Hb) (pda_cons (pd_var (pv 3)) (pda_cons (pd_int) (pda_nil)))))) (pda_nil))) (pda_cons (pd_sub (pd_call G__law_take (hr.mono (by decide)) (by rfl) m__law_take kp__law_take B__law_take_2 R__law_take_2 (fun Hb => dd__law_take_2 Hb) (pda_cons (pd_var (pv 3)) (pda_cons (pd_int) (pda_nil)))) (pd_int)) (pda_nil))) (by rfl)
    · exact pds_set (i := 17) nd rfl (by first | exact .inl rfl | exact .inr rfl) (pd_lst (pda_cons (pd_tup (pda_cons (pd_int) (pda_cons (pd_mul (pd_int) (pd_var (pv 16))) (pda_nil)))) (pda_cons (pd_tup (pda_cons (pd_var (pv 15)) (pda_cons (pd_mul (pd_int) (pd_var (pv 16))) (pda_nil)))) (pda_cons (pd_tup (pda_cons (pd_var (pv 15)) (pda_cons (pd_add (pd_mul (pd_int) (pd_var (pv 16))) (pd_int)) (pda_nil)))) (pda_cons (pd_tup (pda_cons (pd_int) (pda_cons (pd_add (pd_mul (pd_int) (pd_var (pv 16))) (pd_int)) (pda_nil)))) (pda_nil))))))
    · refine pds_if (pdt_ne hr.units (pd_frz (pd_callK G_cells (hr.mono (by decide)) (by rfl) m_cells kp_cells B_cells_1_drops hD_cells_1_drops (pda_cons (pd_lst (pda_cons (pd_var (pv 17)) (pda_nil))) (pda_nil)) (pdk_cons (pd_bl) (pdk_nil)))) (pd_lst (pda_cons (pd_tup (pda_cons (pd_var (pv 16)) (pda_cons (pd_int) (pda_cons (pd_fdiv (pd_var (pv 15)) (pd_int)) (pda_nil))))) (pda_nil)))) ?_ ?_
      · refine pds_one ?_
        · exact pds_ret (pd_bl)
      · exact pds_nil
  · exact pds_ret (pd_bl)
end K76

set_option maxHeartbeats 0
namespace K76
open PySem PySem.Spec PyProof.Rows L2 DL KC KL
theorem len_is_plain (ds : List D) (S : Sto) (Q : QD) (h : sp_is_plain ds S Q) : ds.length = 1 := by
  unfold sp_is_plain at h
  try simp only [as1_iff, as2_iff, as3_iff] at h
  repeat (first | (obtain ⟨rfl, h⟩ := h; rfl) | obtain ⟨_, h⟩ := h)
theorem len_common_part (ds : List D) (S : Sto) (Q : QD) (h : sp_common_part ds S Q) : ds.length = 2 := by
  unfold sp_common_part at h
  try simp only [as1_iff, as2_iff, as3_iff] at h
  repeat (first | (obtain ⟨rfl, h⟩ := h; rfl) | obtain ⟨_, h⟩ := h)
theorem len_is_list (ds : List D) (S : Sto) (Q : QD) (h : sp_is_list ds S Q) : ds.length = 3 := by
  unfold sp_is_list at h
  try simp only [as1_iff, as2_iff, as3_iff] at h
  repeat (first | (obtain ⟨rfl, h⟩ := h; rfl) | obtain ⟨_, h⟩ := h)
theorem len_base_of (ds : List D) (S : Sto) (Q : QD) (h : sp_base_of ds S Q) : ds.length = 1 := by
  unfold sp_base_of at h
  try simp only [as1_iff, as2_iff, as3_iff] at h
  repeat (first | (obtain ⟨rfl, h⟩ := h; rfl) | obtain ⟨_, h⟩ := h)
theorem len_whole_of (ds : List D) (S : Sto) (Q : QD) (h : sp_whole_of ds S Q) : ds.length = 2 := by
  unfold sp_whole_of at h
  try simp only [as1_iff, as2_iff, as3_iff] at h
  repeat (first | (obtain ⟨rfl, h⟩ := h; rfl) | obtain ⟨_, h⟩ := h)
theorem len_need_rule (ds : List D) (S : Sto) (Q : QD) (h : sp_need_rule ds S Q) : ds.length = 1 := by
  unfold sp_need_rule at h
  try simp only [as1_iff, as2_iff, as3_iff] at h
  repeat (first | (obtain ⟨rfl, h⟩ := h; rfl) | obtain ⟨_, h⟩ := h)
theorem len_first_middle (ds : List D) (S : Sto) (Q : QD) (h : sp_first_middle ds S Q) : ds.length = 2 := by
  unfold sp_first_middle at h
  try simp only [as1_iff, as2_iff, as3_iff] at h
  repeat (first | (obtain ⟨rfl, h⟩ := h; rfl) | obtain ⟨_, h⟩ := h)
theorem len_crossings (ds : List D) (S : Sto) (Q : QD) (h : sp_crossings ds S Q) : ds.length = 3 := by
  unfold sp_crossings at h
  try simp only [as1_iff, as2_iff, as3_iff] at h
  repeat (first | (obtain ⟨rfl, h⟩ := h; rfl) | obtain ⟨_, h⟩ := h)
theorem len_put_together (ds : List D) (S : Sto) (Q : QD) (h : sp_put_together ds S Q) : ds.length = 2 := by
  unfold sp_put_together at h
  try simp only [as1_iff, as2_iff, as3_iff] at h
  repeat (first | (obtain ⟨rfl, h⟩ := h; rfl) | obtain ⟨_, h⟩ := h)
theorem len__law_cell (ds : List D) (S : Sto) (Q : QD) (h : sp__law_cell ds S Q) : ds.length = 2 := by
  unfold sp__law_cell at h
  try simp only [as1_iff, as2_iff, as3_iff] at h
  repeat (first | (obtain ⟨rfl, h⟩ := h; rfl) | obtain ⟨_, h⟩ := h)
theorem len__law_box (ds : List D) (S : Sto) (Q : QD) (h : sp__law_box ds S Q) : ds.length = 1 := by
  unfold sp__law_box at h
  try simp only [as1_iff, as2_iff, as3_iff] at h
  repeat (first | (obtain ⟨rfl, h⟩ := h; rfl) | obtain ⟨_, h⟩ := h)
theorem len__law_take (ds : List D) (S : Sto) (Q : QD) (h : sp__law_take ds S Q) : ds.length = 2 := by
  unfold sp__law_take at h
  try simp only [as1_iff, as2_iff, as3_iff] at h
  repeat (first | (obtain ⟨rfl, h⟩ := h; rfl) | obtain ⟨_, h⟩ := h)
theorem len__law_number (ds : List D) (S : Sto) (Q : QD) (h : sp__law_number ds S Q) : ds.length = 2 := by
  unfold sp__law_number at h
  try simp only [as1_iff, as2_iff, as3_iff] at h
  repeat (first | (obtain ⟨rfl, h⟩ := h; rfl) | obtain ⟨_, h⟩ := h)
theorem len__law_longer (ds : List D) (S : Sto) (Q : QD) (h : sp__law_longer ds S Q) : ds.length = 1 := by
  unfold sp__law_longer at h
  try simp only [as1_iff, as2_iff, as3_iff] at h
  repeat (first | (obtain ⟨rfl, h⟩ := h; rfl) | obtain ⟨_, h⟩ := h)
theorem len__law_spans (ds : List D) (S : Sto) (Q : QD) (h : sp__law_spans ds S Q) : ds.length = 1 := by
  unfold sp__law_spans at h
  try simp only [as1_iff, as2_iff, as3_iff] at h
  repeat (first | (obtain ⟨rfl, h⟩ := h; rfl) | obtain ⟨_, h⟩ := h)
theorem len__law_west (ds : List D) (S : Sto) (Q : QD) (h : sp__law_west ds S Q) : ds.length = 3 := by
  unfold sp__law_west at h
  try simp only [as1_iff, as2_iff, as3_iff] at h
  repeat (first | (obtain ⟨rfl, h⟩ := h; rfl) | obtain ⟨_, h⟩ := h)
theorem len_is_part (ds : List D) (S : Sto) (Q : QD) (h : sp_is_part ds S Q) : ds.length = 1 := by
  unfold sp_is_part at h
  try simp only [as1_iff, as2_iff, as3_iff] at h
  repeat (first | (obtain ⟨rfl, h⟩ := h; rfl) | obtain ⟨_, h⟩ := h)
theorem len_scale_of (ds : List D) (S : Sto) (Q : QD) (h : sp_scale_of ds S Q) : ds.length = 1 := by
  unfold sp_scale_of at h
  try simp only [as1_iff, as2_iff, as3_iff] at h
  repeat (first | (obtain ⟨rfl, h⟩ := h; rfl) | obtain ⟨_, h⟩ := h)
theorem len_in_order (ds : List D) (S : Sto) (Q : QD) (h : sp_in_order ds S Q) : ds.length = 1 := by
  unfold sp_in_order at h
  try simp only [as1_iff, as2_iff, as3_iff] at h
  repeat (first | (obtain ⟨rfl, h⟩ := h; rfl) | obtain ⟨_, h⟩ := h)
theorem len_filled_by (ds : List D) (S : Sto) (Q : QD) (h : sp_filled_by ds S Q) : ds.length = 2 := by
  unfold sp_filled_by at h
  try simp only [as1_iff, as2_iff, as3_iff] at h
  repeat (first | (obtain ⟨rfl, h⟩ := h; rfl) | obtain ⟨_, h⟩ := h)
theorem len_rows_of (ds : List D) (S : Sto) (Q : QD) (h : sp_rows_of ds S Q) : ds.length = 2 := by
  unfold sp_rows_of at h
  try simp only [as1_iff, as2_iff, as3_iff] at h
  repeat (first | (obtain ⟨rfl, h⟩ := h; rfl) | obtain ⟨_, h⟩ := h)
theorem len__law_told (ds : List D) (S : Sto) (Q : QD) (h : sp__law_told ds S Q) : ds.length = 2 := by
  unfold sp__law_told at h
  try simp only [as1_iff, as2_iff, as3_iff] at h
  repeat (first | (obtain ⟨rfl, h⟩ := h; rfl) | obtain ⟨_, h⟩ := h)
theorem len__law_polygon (ds : List D) (S : Sto) (Q : QD) (h : sp__law_polygon ds S Q) : ds.length = 2 := by
  unfold sp__law_polygon at h
  try simp only [as1_iff, as2_iff, as3_iff] at h
  repeat (first | (obtain ⟨rfl, h⟩ := h; rfl) | obtain ⟨_, h⟩ := h)
theorem len__law_within (ds : List D) (S : Sto) (Q : QD) (h : sp__law_within ds S Q) : ds.length = 4 := by
  unfold sp__law_within at h
  try simp only [as1_iff, as2_iff, as3_iff] at h
  repeat (first | (obtain ⟨rfl, h⟩ := h; rfl) | obtain ⟨_, h⟩ := h)
theorem len_is_number (ds : List D) (S : Sto) (Q : QD) (h : sp_is_number ds S Q) : ds.length = 1 := by
  unfold sp_is_number at h
  try simp only [as1_iff, as2_iff, as3_iff] at h
  repeat (first | (obtain ⟨rfl, h⟩ := h; rfl) | obtain ⟨_, h⟩ := h)
theorem len_in_wholes (ds : List D) (S : Sto) (Q : QD) (h : sp_in_wholes ds S Q) : ds.length = 1 := by
  unfold sp_in_wholes at h
  try simp only [as1_iff, as2_iff, as3_iff] at h
  repeat (first | (obtain ⟨rfl, h⟩ := h; rfl) | obtain ⟨_, h⟩ := h)
theorem len_stretches (ds : List D) (S : Sto) (Q : QD) (h : sp_stretches ds S Q) : ds.length = 4 := by
  unfold sp_stretches at h
  try simp only [as1_iff, as2_iff, as3_iff] at h
  repeat (first | (obtain ⟨rfl, h⟩ := h; rfl) | obtain ⟨_, h⟩ := h)
theorem len__law_scene (ds : List D) (S : Sto) (Q : QD) (h : sp__law_scene ds S Q) : ds.length = 2 := by
  unfold sp__law_scene at h
  try simp only [as1_iff, as2_iff, as3_iff] at h
  repeat (first | (obtain ⟨rfl, h⟩ := h; rfl) | obtain ⟨_, h⟩ := h)
theorem len__law_due (ds : List D) (S : Sto) (Q : QD) (h : sp__law_due ds S Q) : ds.length = 3 := by
  unfold sp__law_due at h
  try simp only [as1_iff, as2_iff, as3_iff] at h
  repeat (first | (obtain ⟨rfl, h⟩ := h; rfl) | obtain ⟨_, h⟩ := h)
theorem len_need_parts (ds : List D) (S : Sto) (Q : QD) (h : sp_need_parts ds S Q) : ds.length = 1 := by
  unfold sp_need_parts at h
  try simp only [as1_iff, as2_iff, as3_iff] at h
  repeat (first | (obtain ⟨rfl, h⟩ := h; rfl) | obtain ⟨_, h⟩ := h)
theorem len_cells (ds : List D) (S : Sto) (Q : QD) (h : sp_cells ds S Q) : ds.length = 3 := by
  unfold sp_cells at h
  try simp only [as1_iff, as2_iff, as3_iff] at h
  repeat (first | (obtain ⟨rfl, h⟩ := h; rfl) | obtain ⟨_, h⟩ := h)
theorem len_law (ds : List D) (S : Sto) (Q : QD) (h : sp_law ds S Q) : ds.length = 1 := by
  unfold sp_law at h
  try simp only [as1_iff, as2_iff, as3_iff] at h
  repeat (first | (obtain ⟨rfl, h⟩ := h; rfl) | obtain ⟨_, h⟩ := h)
theorem okAll {P : Program} {w : World} {K : PySem.W.Frag} {mg : Str → Option Value} {base : Heap} (Z : Zs K mg)
    {a_is_plain : Addr} {fd_is_plain : FuncData} (D_is_plain : DefAt K mg "is_plain" (top 7) [] a_is_plain fd_is_plain)
    {a_common_part : Addr} {fd_common_part : FuncData} (D_common_part : DefAt K mg "common_part" (top 8) [] a_common_part fd_common_part)
    {a_is_list : Addr} {fd_is_list : FuncData} (D_is_list : DefAt K mg "is_list" (top 12) [] a_is_list fd_is_list)
    {a_base_of : Addr} {fd_base_of : FuncData} (D_base_of : DefAt K mg "base_of" (top 17) [] a_base_of fd_base_of)
    {a_whole_of : Addr} {fd_whole_of : FuncData} (D_whole_of : DefAt K mg "whole_of" (top 20) [] a_whole_of fd_whole_of)
    {a_need_rule : Addr} {fd_need_rule : FuncData} (D_need_rule : DefAt K mg "need_rule" (top 26) [] a_need_rule fd_need_rule)
    {a_first_middle : Addr} {fd_first_middle : FuncData} (D_first_middle : DefAt K mg "first_middle" (top 27) [] a_first_middle fd_first_middle)
    {a_crossings : Addr} {fd_crossings : FuncData} (D_crossings : DefAt K mg "crossings" (top 28) [] a_crossings fd_crossings)
    {a_put_together : Addr} {fd_put_together : FuncData} (D_put_together : DefAt K mg "put_together" (top 32) [] a_put_together fd_put_together)
    {a__law_cell : Addr} {fd__law_cell : FuncData} (D__law_cell : DefAt K mg "_law_cell" (top 36) [] a__law_cell fd__law_cell)
    {a__law_box : Addr} {fd__law_box : FuncData} (D__law_box : DefAt K mg "_law_box" (top 37) [] a__law_box fd__law_box)
    {a__law_take : Addr} {fd__law_take : FuncData} (D__law_take : DefAt K mg "_law_take" (top 38) [] a__law_take fd__law_take)
    {a__law_number : Addr} {fd__law_number : FuncData} (D__law_number : DefAt K mg "_law_number" (top 39) [] a__law_number fd__law_number)
    {a__law_longer : Addr} {fd__law_longer : FuncData} (D__law_longer : DefAt K mg "_law_longer" (top 42) [] a__law_longer fd__law_longer)
    {a__law_spans : Addr} {fd__law_spans : FuncData} (D__law_spans : DefAt K mg "_law_spans" (top 44) [] a__law_spans fd__law_spans)
    {a__law_west : Addr} {fd__law_west : FuncData} (D__law_west : DefAt K mg "_law_west" (top 45) [] a__law_west fd__law_west)
    {a_is_part : Addr} {fd_is_part : FuncData} (D_is_part : DefAt K mg "is_part" (top 9) [] a_is_part fd_is_part)
    {a_scale_of : Addr} {fd_scale_of : FuncData} (D_scale_of : DefAt K mg "scale_of" (top 18) [] a_scale_of fd_scale_of)
    {a_in_order : Addr} {fd_in_order : FuncData} (D_in_order : DefAt K mg "in_order" (top 29) [] a_in_order fd_in_order)
    {a_filled_by : Addr} {fd_filled_by : FuncData} (D_filled_by : DefAt K mg "filled_by" (top 31) [] a_filled_by fd_filled_by)
    {a_rows_of : Addr} {fd_rows_of : FuncData} (D_rows_of : DefAt K mg "rows_of" (top 33) [] a_rows_of fd_rows_of)
    {a__law_told : Addr} {fd__law_told : FuncData} (D__law_told : DefAt K mg "_law_told" (top 40) [] a__law_told fd__law_told)
    {a__law_polygon : Addr} {fd__law_polygon : FuncData} (D__law_polygon : DefAt K mg "_law_polygon" (top 41) [] a__law_polygon fd__law_polygon)
    {a__law_within : Addr} {fd__law_within : FuncData} (D__law_within : DefAt K mg "_law_within" (top 46) [] a__law_within fd__law_within)
    {a_is_number : Addr} {fd_is_number : FuncData} (D_is_number : DefAt K mg "is_number" (top 10) [] a_is_number fd_is_number)
    {a_in_wholes : Addr} {fd_in_wholes : FuncData} (D_in_wholes : DefAt K mg "in_wholes" (top 19) [] a_in_wholes fd_in_wholes)
    {a_stretches : Addr} {fd_stretches : FuncData} (D_stretches : DefAt K mg "stretches" (top 30) [] a_stretches fd_stretches)
    {a__law_scene : Addr} {fd__law_scene : FuncData} (D__law_scene : DefAt K mg "_law_scene" (top 43) [] a__law_scene fd__law_scene)
    {a__law_due : Addr} {fd__law_due : FuncData} (D__law_due : DefAt K mg "_law_due" (top 47) [] a__law_due fd__law_due)
    {a_need_parts : Addr} {fd_need_parts : FuncData} (D_need_parts : DefAt K mg "need_parts" (top 16) [] a_need_parts fd_need_parts)
    {a_cells : Addr} {fd_cells : FuncData} (D_cells : DefAt K mg "cells" (top 34) [("rule", .str "round"), ("drops", .bl true)] a_cells fd_cells)
    {f : Addr} {fd : FuncData} (F : FunD K "law" "law" (defArgs (top 48)) (defBody (top 48)) (defScope (top 48)) [] [] f fd) : FnOkG P w K mg base CX0 6 f fd ["_law_script"] (lSp K sp_law) := by
  have G_is_plain : FnOk P w K mg base CX0 1 a_is_plain fd_is_plain ["thing"] (lSp K sp_is_plain) := FunD.okD D_is_plain.F sc_is_plain len_is_plain vc_is_plain fun cdv A outer s H E hr => b_is_plain Z  cdv A outer s H E hr
  have G_common_part : FnOk P w K mg base CX0 1 a_common_part fd_common_part ["one", "other"] (lSp K sp_common_part) := FunD.okD D_common_part.F sc_common_part len_common_part vc_common_part fun cdv A outer s H E hr => b_common_part Z  cdv A outer s H E hr
  have G_is_list : FnOk P w K mg base CX0 1 a_is_list fd_is_list ["thing", "low", "high"] (lSp K sp_is_list) := FunD.okD D_is_list.F sc_is_list len_is_list vc_is_list fun cdv A outer s H E hr => b_is_list Z  cdv A outer s H E hr
  have G_base_of : FnOk P w K mg base CX0 1 a_base_of fd_base_of ["number"] (lSp K sp_base_of) := FunD.okD D_base_of.F sc_base_of len_base_of vc_base_of fun cdv A outer s H E hr => b_base_of Z  cdv A outer s H E hr
  have G_whole_of : FnOk P w K mg base CX0 1 a_whole_of fd_whole_of ["number", "many"] (lSp K sp_whole_of) := FunD.okD D_whole_of.F sc_whole_of len_whole_of vc_whole_of fun cdv A outer s H E hr => b_whole_of Z  cdv A outer s H E hr
  have G_need_rule : FnOk P w K mg base CX0 1 a_need_rule fd_need_rule ["rule"] (lSp K sp_need_rule) := FunD.okD D_need_rule.F sc_need_rule len_need_rule vc_need_rule fun cdv A outer s H E hr => b_need_rule Z  cdv A outer s H E hr
  have G_first_middle : FnOk P w K mg base CX0 1 a_first_middle fd_first_middle ["top", "base"] (lSp K sp_first_middle) := FunD.okD D_first_middle.F sc_first_middle len_first_middle vc_first_middle fun cdv A outer s H E hr => b_first_middle Z  cdv A outer s H E hr
  have G_crossings : FnOk P w K mg base CX0 1 a_crossings fd_crossings ["parts", "many", "row"] (lSp K sp_crossings) := FunD.okD D_crossings.F sc_crossings len_crossings vc_crossings fun cdv A outer s H E hr => b_crossings Z  cdv A outer s H E hr
  have G_put_together : FnOk P w K mg base CX0 1 a_put_together fd_put_together ["row", "columns"] (lSp K sp_put_together) := FunD.okD D_put_together.F sc_put_together len_put_together vc_put_together fun cdv A outer s H E hr => b_put_together Z  cdv A outer s H E hr
  have G__law_cell : FnOk P w K mg base CX0 1 a__law_cell fd__law_cell ["_law_script", "_law_k"] (lSp K sp__law_cell) := FunD.okD D__law_cell.F sc__law_cell len__law_cell vc__law_cell fun cdv A outer s H E hr => b__law_cell Z  cdv A outer s H E hr
  have G__law_box : FnOk P w K mg base CX0 1 a__law_box fd__law_box ["_law_cell_here"] (lSp K sp__law_box) := FunD.okD D__law_box.F sc__law_box len__law_box vc__law_box fun cdv A outer s H E hr => b__law_box Z  cdv A outer s H E hr
  have G__law_take : FnOk P w K mg base CX0 1 a__law_take fd__law_take ["_law_box_here", "_law_many"] (lSp K sp__law_take) := FunD.okD D__law_take.F sc__law_take len__law_take vc__law_take fun cdv A outer s H E hr => b__law_take Z  cdv A outer s H E hr
  have G__law_number : FnOk P w K mg base CX0 1 a__law_number fd__law_number ["_law_top", "_law_base"] (lSp K sp__law_number) := FunD.okD D__law_number.F sc__law_number len__law_number vc__law_number fun cdv A outer s H E hr => b__law_number Z  cdv A outer s H E hr
  have G__law_longer : FnOk P w K mg base CX0 1 a__law_longer fd__law_longer ["_law_pairs"] (lSp K sp__law_longer) := FunD.okD D__law_longer.F sc__law_longer len__law_longer vc__law_longer fun cdv A outer s H E hr => b__law_longer Z  cdv A outer s H E hr
  have G__law_spans : FnOk P w K mg base CX0 1 a__law_spans fd__law_spans ["_law_cells_of"] (lSp K sp__law_spans) := FunD.okD D__law_spans.F sc__law_spans len__law_spans vc__law_spans fun cdv A outer s H E hr => b__law_spans Z  cdv A outer s H E hr
  have G__law_west : FnOk P w K mg base CX0 1 a__law_west fd__law_west ["_law_pairs", "_law_x", "_law_y"] (lSp K sp__law_west) := FunD.okD D__law_west.F sc__law_west len__law_west vc__law_west fun cdv A outer s H E hr => b__law_west Z  cdv A outer s H E hr
  have G_is_part : FnOk P w K mg base CX0 2 a_is_part fd_is_part ["thing"] (lSp K sp_is_part) := FunD.okD D_is_part.F sc_is_part len_is_part vc_is_part fun cdv A outer s H E hr => b_is_part Z D_is_plain G_is_plain D_common_part G_common_part cdv A outer s H E hr
  have G_scale_of : FnOk P w K mg base CX0 2 a_scale_of fd_scale_of ["parts"] (lSp K sp_scale_of) := FunD.okD D_scale_of.F sc_scale_of len_scale_of vc_scale_of fun cdv A outer s H E hr => b_scale_of Z D_base_of G_base_of D_common_part G_common_part cdv A outer s H E hr
  have G_in_order : FnOk P w K mg base CX0 2 a_in_order fd_in_order ["rows"] (lSp K sp_in_order) := FunD.okDw D_in_order.F sc_in_order len_in_order vc_in_order fun cdv A outer s H E hr => b_in_order Z D_common_part G_common_part cdv A outer s H E hr
  have G_filled_by : FnOk P w K mg base CX0 2 a_filled_by fd_filled_by ["stretch", "drops"] (lSp K sp_filled_by) := FunD.okD D_filled_by.F sc_filled_by len_filled_by vc_filled_by fun cdv A outer s H E hr => b_filled_by Z D_first_middle G_first_middle cdv A outer s H E hr
  have G_rows_of : FnOk P w K mg base CX0 2 a_rows_of fd_rows_of ["parts", "many"] (lSp K sp_rows_of) := FunD.okD D_rows_of.F sc_rows_of len_rows_of vc_rows_of fun cdv A outer s H E hr => b_rows_of Z D_first_middle G_first_middle cdv A outer s H E hr
  have G__law_told : FnOk P w K mg base CX0 2 a__law_told fd__law_told ["_law_pairs", "_law_base"] (lSp K sp__law_told) := FunD.okD D__law_told.F sc__law_told len__law_told vc__law_told fun cdv A outer s H E hr => b__law_told Z D__law_number G__law_number cdv A outer s H E hr
  have G__law_polygon : FnOk P w K mg base CX0 2 a__law_polygon fd__law_polygon ["_law_box_here", "_law_base"] (lSp K sp__law_polygon) := FunD.okD D__law_polygon.F sc__law_polygon len__law_polygon vc__law_polygon fun cdv A outer s H E hr => b__law_polygon Z D__law_take G__law_take cdv A outer s H E hr
  have G__law_within : FnOk P w K mg base CX0 2 a__law_within fd__law_within ["_law_rows", "_law_x", "_law_y", "_law_odd"] (lSp K sp__law_within) := FunD.okD D__law_within.F sc__law_within len__law_within vc__law_within fun cdv A outer s H E hr => b__law_within Z D__law_west G__law_west cdv A outer s H E hr
  have G_is_number : FnOk P w K mg base CX0 3 a_is_number fd_is_number ["thing"] (lSp K sp_is_number) := FunD.okD D_is_number.F sc_is_number len_is_number vc_is_number fun cdv A outer s H E hr => b_is_number Z D_is_plain G_is_plain D_is_part G_is_part cdv A outer s H E hr
  have G_in_wholes : FnOk P w K mg base CX0 3 a_in_wholes fd_in_wholes ["parts"] (lSp K sp_in_wholes) := FunD.okD D_in_wholes.F sc_in_wholes len_in_wholes vc_in_wholes fun cdv A outer s H E hr => b_in_wholes Z D_scale_of G_scale_of D_whole_of G_whole_of cdv A outer s H E hr
  have G_stretches : FnOk P w K mg base CX0 3 a_stretches fd_stretches ["parts", "many", "row", "rule"] (lSp K sp_stretches) := FunD.okD D_stretches.F sc_stretches len_stretches vc_stretches fun cdv A outer s H E hr => b_stretches Z D_in_order G_in_order D_crossings G_crossings cdv A outer s H E hr
  have G__law_scene : FnOk P w K mg base CX0 3 a__law_scene fd__law_scene ["_law_box_here", "_law_base"] (lSp K sp__law_scene) := FunD.okD D__law_scene.F sc__law_scene len__law_scene vc__law_scene fun cdv A outer s H E hr => b__law_scene Z D__law_take G__law_take D__law_polygon G__law_polygon D__law_longer G__law_longer cdv A outer s H E hr
  have G__law_due : FnOk P w K mg base CX0 3 a__law_due fd__law_due ["_law_rows", "_law_base", "_law_odd"] (lSp K sp__law_due) := FunD.okDw D__law_due.F sc__law_due len__law_due vc__law_due fun cdv A outer s H E hr => b__law_due Z D__law_within G__law_within D__law_spans G__law_spans cdv A outer s H E hr
  have G_need_parts : FnOk P w K mg base CX0 4 a_need_parts fd_need_parts ["parts"] (lSp K sp_need_parts) := FunD.okD D_need_parts.F sc_need_parts len_need_parts vc_need_parts fun cdv A outer s H E hr => b_need_parts Z D_is_list G_is_list D_is_number G_is_number cdv A outer s H E hr
  have G_cells : FnOk P w K mg base CX0 5 a_cells fd_cells ["parts", "rule", "drops"] (lSp K sp_cells) := FunD.okD D_cells.F sc_cells len_cells vc_cells fun cdv A outer s H E hr => b_cells Z D_need_parts G_need_parts D_need_rule G_need_rule D_scale_of G_scale_of D_in_wholes G_in_wholes D_rows_of G_rows_of D_stretches G_stretches D_filled_by G_filled_by D_put_together G_put_together cdv A outer s H E hr
  exact FunD.okDG F sc_law len_law vc_law fun cdv A outer s H E hr hgd => b_law Z D__law_box G__law_box D__law_cell G__law_cell D__law_take G__law_take D__law_scene G__law_scene D__law_told G__law_told D__law_due G__law_due D_cells G_cells cdv A outer s H E hr hgd
/-! ### the head -/
def dd_is_plain : He.DefD := ⟨("is_plain", none), "is_plain", "is_plain", defArgs (top 7), defBody (top 7), defScope (top 7), [], []⟩
def dd_common_part : He.DefD := ⟨("common_part", none), "common_part", "common_part", defArgs (top 8), defBody (top 8), defScope (top 8), [], []⟩
def dd_is_list : He.DefD := ⟨("is_list", none), "is_list", "is_list", defArgs (top 12), defBody (top 12), defScope (top 12), [], []⟩
def dd_base_of : He.DefD := ⟨("base_of", none), "base_of", "base_of", defArgs (top 17), defBody (top 17), defScope (top 17), [], []⟩
def dd_whole_of : He.DefD := ⟨("whole_of", none), "whole_of", "whole_of", defArgs (top 20), defBody (top 20), defScope (top 20), [], []⟩
def dd_need_rule : He.DefD := ⟨("need_rule", none), "need_rule", "need_rule", defArgs (top 26), defBody (top 26), defScope (top 26), [], []⟩
def dd_first_middle : He.DefD := ⟨("first_middle", none), "first_middle", "first_middle", defArgs (top 27), defBody (top 27), defScope (top 27), [], []⟩
def dd_crossings : He.DefD := ⟨("crossings", none), "crossings", "crossings", defArgs (top 28), defBody (top 28), defScope (top 28), [], []⟩
def dd_put_together : He.DefD := ⟨("put_together", none), "put_together", "put_together", defArgs (top 32), defBody (top 32), defScope (top 32), [], []⟩
def dd__law_cell : He.DefD := ⟨("_law_cell", none), "_law_cell", "_law_cell", defArgs (top 36), defBody (top 36), defScope (top 36), [], []⟩
def dd__law_box : He.DefD := ⟨("_law_box", none), "_law_box", "_law_box", defArgs (top 37), defBody (top 37), defScope (top 37), [], []⟩
def dd__law_take : He.DefD := ⟨("_law_take", none), "_law_take", "_law_take", defArgs (top 38), defBody (top 38), defScope (top 38), [], []⟩
def dd__law_number : He.DefD := ⟨("_law_number", none), "_law_number", "_law_number", defArgs (top 39), defBody (top 39), defScope (top 39), [], []⟩
def dd__law_longer : He.DefD := ⟨("_law_longer", none), "_law_longer", "_law_longer", defArgs (top 42), defBody (top 42), defScope (top 42), [], []⟩
def dd__law_spans : He.DefD := ⟨("_law_spans", none), "_law_spans", "_law_spans", defArgs (top 44), defBody (top 44), defScope (top 44), [], []⟩
def dd__law_west : He.DefD := ⟨("_law_west", none), "_law_west", "_law_west", defArgs (top 45), defBody (top 45), defScope (top 45), [], []⟩
def dd_is_part : He.DefD := ⟨("is_part", none), "is_part", "is_part", defArgs (top 9), defBody (top 9), defScope (top 9), [], []⟩
def dd_scale_of : He.DefD := ⟨("scale_of", none), "scale_of", "scale_of", defArgs (top 18), defBody (top 18), defScope (top 18), [], []⟩
def dd_in_order : He.DefD := ⟨("in_order", none), "in_order", "in_order", defArgs (top 29), defBody (top 29), defScope (top 29), [], []⟩
def dd_filled_by : He.DefD := ⟨("filled_by", none), "filled_by", "filled_by", defArgs (top 31), defBody (top 31), defScope (top 31), [], []⟩
def dd_rows_of : He.DefD := ⟨("rows_of", none), "rows_of", "rows_of", defArgs (top 33), defBody (top 33), defScope (top 33), [], []⟩
def dd__law_told : He.DefD := ⟨("_law_told", none), "_law_told", "_law_told", defArgs (top 40), defBody (top 40), defScope (top 40), [], []⟩
def dd__law_polygon : He.DefD := ⟨("_law_polygon", none), "_law_polygon", "_law_polygon", defArgs (top 41), defBody (top 41), defScope (top 41), [], []⟩
def dd__law_within : He.DefD := ⟨("_law_within", none), "_law_within", "_law_within", defArgs (top 46), defBody (top 46), defScope (top 46), [], []⟩
def dd_is_number : He.DefD := ⟨("is_number", none), "is_number", "is_number", defArgs (top 10), defBody (top 10), defScope (top 10), [], []⟩
def dd_in_wholes : He.DefD := ⟨("in_wholes", none), "in_wholes", "in_wholes", defArgs (top 19), defBody (top 19), defScope (top 19), [], []⟩
def dd_stretches : He.DefD := ⟨("stretches", none), "stretches", "stretches", defArgs (top 30), defBody (top 30), defScope (top 30), [], []⟩
def dd__law_scene : He.DefD := ⟨("_law_scene", none), "_law_scene", "_law_scene", defArgs (top 43), defBody (top 43), defScope (top 43), [], []⟩
def dd__law_due : He.DefD := ⟨("_law_due", none), "_law_due", "_law_due", defArgs (top 47), defBody (top 47), defScope (top 47), [], []⟩
def dd_need_parts : He.DefD := ⟨("need_parts", none), "need_parts", "need_parts", defArgs (top 16), defBody (top 16), defScope (top 16), [], []⟩
def dd_cells : He.DefD := ⟨("cells", none), "cells", "cells", defArgs (top 34), defBody (top 34), defScope (top 34), [], [("rule", .str "round"), ("drops", .bl true)]⟩
def dd_law : He.DefD := ⟨("law", none), "law", "law", defArgs (top 48), defBody (top 48), defScope (top 48), [], []⟩
def fn : List He.DefD := [dd_is_plain, dd_common_part, dd_is_list, dd_base_of, dd_whole_of, dd_need_rule, dd_first_middle, dd_crossings, dd_put_together, dd__law_cell, dd__law_box, dd__law_take, dd__law_number, dd__law_longer, dd__law_spans, dd__law_west, dd_is_part, dd_scale_of, dd_in_order, dd_filled_by, dd_rows_of, dd__law_told, dd__law_polygon, dd__law_within, dd_is_number, dd_in_wholes, dd_stretches, dd__law_scene, dd__law_due, dd_need_parts, dd_cells, dd_law]
def fa : List He.Fa := [.glo "is_plain", .glo "common_part", .glo "is_list", .glo "base_of", .glo "whole_of", .glo "need_rule", .glo "first_middle", .glo "crossings", .glo "put_together", .glo "_law_cell", .glo "_law_box", .glo "_law_take", .glo "_law_number", .glo "_law_longer", .glo "_law_spans", .glo "_law_west", .glo "is_part", .glo "scale_of", .glo "in_order", .glo "filled_by", .glo "rows_of", .glo "_law_told", .glo "_law_polygon", .glo "_law_within", .glo "is_number", .glo "in_wholes", .glo "stretches", .glo "_law_scene", .glo "_law_due", .glo "need_parts", .glo "cells", .glo "law", .free "abs", .free "all", .free "bool", .free "enumerate", .free "int", .free "isinstance", .free "len", .free "list", .free "max", .free "min", .free "range", .free "repr", .free "sorted", .free "str", .free "sum", .free "tuple", .int "CELL" 64, .int "HALF" 32, .int "MOST_PLACES" 100, .int "MOST_POLYGONS" 4, .int "MOST_ROWS" 400, .glo "RULES"]
def ex (K : PySem.W.Frag) : Bool := He.tupB K "RULES" [.str "round", .str "odd"]
abbrev R : PySem.W.OpenRow := PySem.W.OpenLaw.row PySem.Challenge.rw_hintedpoints_k76_middles_within
abbrev hk : PySem.W.Hook := He.hookX 4 fa fn [] [] ex
def ob (s : PySem.W.SharedT) : He.AlX := He.obsX 4 fa fn [] [] ex (HandSHeadRun.getT s)
theorem ob_eq (s : PySem.W.SharedT) : ob s = hk.obs s.abs := He.obsX_eq (HandSHeadRun.getT_eq s)
def names0 : List Str := ["FontError", "NoPlace", "NoParts", "NoCells", "TooMany", "is_plain", "common_part", "is_part", "is_number", "is_list", "MOST_POLYGONS", "MOST_PLACES", "need_parts", "base_of", "scale_of", "in_wholes", "whole_of", "CELL", "HALF", "MOST_ROWS", "RULES", "need_rule", "first_middle", "crossings", "in_order", "stretches", "filled_by", "put_together", "rows_of", "cells"]
def names1 : List Str := ["_law_cell", "_law_box", "_law_take", "_law_number", "_law_told", "_law_polygon", "_law_longer", "_law_scene", "_law_spans", "_law_west", "_law_within", "_law_due"]
def names : List Str := names0 ++ names1
theorem run (w : World) : HandSHeadRun.RunEq R (PySem.W.view R.prog [48]) hk ob 3000 names w := by
  intro os
  kernel_rfl
theorem facts {P : Program} {w : World} {K : PySem.W.Frag} {h : Heap} {mg : Str → Option Value} {f : Addr} (X : K.In h) (G : h.Ns mainGlobals mg) (hfa : mg ("law" : Str) = some (.ref f)) (c : He.SaysX fa fn [] [] ex w h K) :
    ∃ fd : FuncData, (∀ (s : Shared) (v : Value), BindsTo s fd ⟨[v], []⟩ [("_law_script", v)]) ∧ ∀ base : Heap, K.In base → base.Ns mainGlobals mg → FnOkG P w K mg base CX0 6 f fd ["_law_script"] (lSp K sp_law) := by
  have cd := c.t.d
  have Z : Zs K mg := ⟨He.free_ok X G (cd.fact 32 (f := .free "abs") rfl),
    He.free_ok X G (cd.fact 33 (f := .free "all") rfl),
    He.free_ok X G (cd.fact 34 (f := .free "bool") rfl),
    He.free_ok X G (cd.fact 35 (f := .free "enumerate") rfl),
    He.free_ok X G (cd.fact 36 (f := .free "int") rfl),
    He.free_ok X G (cd.fact 37 (f := .free "isinstance") rfl),
    He.free_ok X G (cd.fact 38 (f := .free "len") rfl),
    He.free_ok X G (cd.fact 39 (f := .free "list") rfl),
    He.free_ok X G (cd.fact 40 (f := .free "max") rfl),
    He.free_ok X G (cd.fact 41 (f := .free "min") rfl),
    He.free_ok X G (cd.fact 42 (f := .free "range") rfl),
    He.free_ok X G (cd.fact 43 (f := .free "repr") rfl),
    He.free_ok X G (cd.fact 44 (f := .free "sorted") rfl),
    He.free_ok X G (cd.fact 45 (f := .free "str") rfl),
    He.free_ok X G (cd.fact 46 (f := .free "sum") rfl),
    He.free_ok X G (cd.fact 47 (f := .free "tuple") rfl),
    He.int_ok X G (cd.fact 48 (f := .int "CELL" 64) rfl),
    He.int_ok X G (cd.fact 49 (f := .int "HALF" 32) rfl),
    He.int_ok X G (cd.fact 50 (f := .int "MOST_PLACES" 100) rfl),
    He.int_ok X G (cd.fact 51 (f := .int "MOST_POLYGONS" 4) rfl),
    He.int_ok X G (cd.fact 52 (f := .int "MOST_ROWS" 400) rfl),
    ⟨_, He.glo_ok X G (cd.fact 53 (f := .glo "RULES") rfl), fun H => He.tupB_ok c.more H⟩⟩
  obtain ⟨fd_is_plain, F_is_plain⟩ := cd.def_ 0 (d := dd_is_plain) rfl
  have D_is_plain : DefAt K mg "is_plain" (top 7) [] _ fd_is_plain := ⟨F_is_plain, He.glo_ok X G (cd.fact 0 (f := .glo "is_plain") rfl)⟩
  obtain ⟨fd_common_part, F_common_part⟩ := cd.def_ 1 (d := dd_common_part) rfl
  have D_common_part : DefAt K mg "common_part" (top 8) [] _ fd_common_part := ⟨F_common_part, He.glo_ok X G (cd.fact 1 (f := .glo "common_part") rfl)⟩
  obtain ⟨fd_is_list, F_is_list⟩ := cd.def_ 2 (d := dd_is_list) rfl
  have D_is_list : DefAt K mg "is_list" (top 12) [] _ fd_is_list := ⟨F_is_list, He.glo_ok X G (cd.fact 2 (f := .glo "is_list") rfl)⟩
  obtain ⟨fd_base_of, F_base_of⟩ := cd.def_ 3 (d := dd_base_of) rfl
  have D_base_of : DefAt K mg "base_of" (top 17) [] _ fd_base_of := ⟨F_base_of, He.glo_ok X G (cd.fact 3 (f := .glo "base_of") rfl)⟩
  obtain ⟨fd_whole_of, F_whole_of⟩ := cd.def_ 4 (d := dd_whole_of) rfl
  have D_whole_of : DefAt K mg "whole_of" (top 20) [] _ fd_whole_of := ⟨F_whole_of, He.glo_ok X G (cd.fact 4 (f := .glo "whole_of") rfl)⟩
  obtain ⟨fd_need_rule, F_need_rule⟩ := cd.def_ 5 (d := dd_need_rule) rfl
  have D_need_rule : DefAt K mg "need_rule" (top 26) [] _ fd_need_rule := ⟨F_need_rule, He.glo_ok X G (cd.fact 5 (f := .glo "need_rule") rfl)⟩
  obtain ⟨fd_first_middle, F_first_middle⟩ := cd.def_ 6 (d := dd_first_middle) rfl
  have D_first_middle : DefAt K mg "first_middle" (top 27) [] _ fd_first_middle := ⟨F_first_middle, He.glo_ok X G (cd.fact 6 (f := .glo "first_middle") rfl)⟩
  obtain ⟨fd_crossings, F_crossings⟩ := cd.def_ 7 (d := dd_crossings) rfl
  have D_crossings : DefAt K mg "crossings" (top 28) [] _ fd_crossings := ⟨F_crossings, He.glo_ok X G (cd.fact 7 (f := .glo "crossings") rfl)⟩
  obtain ⟨fd_put_together, F_put_together⟩ := cd.def_ 8 (d := dd_put_together) rfl
  have D_put_together : DefAt K mg "put_together" (top 32) [] _ fd_put_together := ⟨F_put_together, He.glo_ok X G (cd.fact 8 (f := .glo "put_together") rfl)⟩
  obtain ⟨fd__law_cell, F__law_cell⟩ := cd.def_ 9 (d := dd__law_cell) rfl
  have D__law_cell : DefAt K mg "_law_cell" (top 36) [] _ fd__law_cell := ⟨F__law_cell, He.glo_ok X G (cd.fact 9 (f := .glo "_law_cell") rfl)⟩
  obtain ⟨fd__law_box, F__law_box⟩ := cd.def_ 10 (d := dd__law_box) rfl
  have D__law_box : DefAt K mg "_law_box" (top 37) [] _ fd__law_box := ⟨F__law_box, He.glo_ok X G (cd.fact 10 (f := .glo "_law_box") rfl)⟩
  obtain ⟨fd__law_take, F__law_take⟩ := cd.def_ 11 (d := dd__law_take) rfl
  have D__law_take : DefAt K mg "_law_take" (top 38) [] _ fd__law_take := ⟨F__law_take, He.glo_ok X G (cd.fact 11 (f := .glo "_law_take") rfl)⟩
  obtain ⟨fd__law_number, F__law_number⟩ := cd.def_ 12 (d := dd__law_number) rfl
  have D__law_number : DefAt K mg "_law_number" (top 39) [] _ fd__law_number := ⟨F__law_number, He.glo_ok X G (cd.fact 12 (f := .glo "_law_number") rfl)⟩
  obtain ⟨fd__law_longer, F__law_longer⟩ := cd.def_ 13 (d := dd__law_longer) rfl
  have D__law_longer : DefAt K mg "_law_longer" (top 42) [] _ fd__law_longer := ⟨F__law_longer, He.glo_ok X G (cd.fact 13 (f := .glo "_law_longer") rfl)⟩
  obtain ⟨fd__law_spans, F__law_spans⟩ := cd.def_ 14 (d := dd__law_spans) rfl
  have D__law_spans : DefAt K mg "_law_spans" (top 44) [] _ fd__law_spans := ⟨F__law_spans, He.glo_ok X G (cd.fact 14 (f := .glo "_law_spans") rfl)⟩
  obtain ⟨fd__law_west, F__law_west⟩ := cd.def_ 15 (d := dd__law_west) rfl
  have D__law_west : DefAt K mg "_law_west" (top 45) [] _ fd__law_west := ⟨F__law_west, He.glo_ok X G (cd.fact 15 (f := .glo "_law_west") rfl)⟩
  obtain ⟨fd_is_part, F_is_part⟩ := cd.def_ 16 (d := dd_is_part) rfl
  have D_is_part : DefAt K mg "is_part" (top 9) [] _ fd_is_part := ⟨F_is_part, He.glo_ok X G (cd.fact 16 (f := .glo "is_part") rfl)⟩
  obtain ⟨fd_scale_of, F_scale_of⟩ := cd.def_ 17 (d := dd_scale_of) rfl
  have D_scale_of : DefAt K mg "scale_of" (top 18) [] _ fd_scale_of := ⟨F_scale_of, He.glo_ok X G (cd.fact 17 (f := .glo "scale_of") rfl)⟩
  obtain ⟨fd_in_order, F_in_order⟩ := cd.def_ 18 (d := dd_in_order) rfl
  have D_in_order : DefAt K mg "in_order" (top 29) [] _ fd_in_order := ⟨F_in_order, He.glo_ok X G (cd.fact 18 (f := .glo "in_order") rfl)⟩
  obtain ⟨fd_filled_by, F_filled_by⟩ := cd.def_ 19 (d := dd_filled_by) rfl
  have D_filled_by : DefAt K mg "filled_by" (top 31) [] _ fd_filled_by := ⟨F_filled_by, He.glo_ok X G (cd.fact 19 (f := .glo "filled_by") rfl)⟩
  obtain ⟨fd_rows_of, F_rows_of⟩ := cd.def_ 20 (d := dd_rows_of) rfl
  have D_rows_of : DefAt K mg "rows_of" (top 33) [] _ fd_rows_of := ⟨F_rows_of, He.glo_ok X G (cd.fact 20 (f := .glo "rows_of") rfl)⟩
  obtain ⟨fd__law_told, F__law_told⟩ := cd.def_ 21 (d := dd__law_told) rfl
  have D__law_told : DefAt K mg "_law_told" (top 40) [] _ fd__law_told := ⟨F__law_told, He.glo_ok X G (cd.fact 21 (f := .glo "_law_told") rfl)⟩
  obtain ⟨fd__law_polygon, F__law_polygon⟩ := cd.def_ 22 (d := dd__law_polygon) rfl
  have D__law_polygon : DefAt K mg "_law_polygon" (top 41) [] _ fd__law_polygon := ⟨F__law_polygon, He.glo_ok X G (cd.fact 22 (f := .glo "_law_polygon") rfl)⟩
  obtain ⟨fd__law_within, F__law_within⟩ := cd.def_ 23 (d := dd__law_within) rfl
  have D__law_within : DefAt K mg "_law_within" (top 46) [] _ fd__law_within := ⟨F__law_within, He.glo_ok X G (cd.fact 23 (f := .glo "_law_within") rfl)⟩
  obtain ⟨fd_is_number, F_is_number⟩ := cd.def_ 24 (d := dd_is_number) rfl
  have D_is_number : DefAt K mg "is_number" (top 10) [] _ fd_is_number := ⟨F_is_number, He.glo_ok X G (cd.fact 24 (f := .glo "is_number") rfl)⟩
  obtain ⟨fd_in_wholes, F_in_wholes⟩ := cd.def_ 25 (d := dd_in_wholes) rfl
  have D_in_wholes : DefAt K mg "in_wholes" (top 19) [] _ fd_in_wholes := ⟨F_in_wholes, He.glo_ok X G (cd.fact 25 (f := .glo "in_wholes") rfl)⟩
  obtain ⟨fd_stretches, F_stretches⟩ := cd.def_ 26 (d := dd_stretches) rfl
  have D_stretches : DefAt K mg "stretches" (top 30) [] _ fd_stretches := ⟨F_stretches, He.glo_ok X G (cd.fact 26 (f := .glo "stretches") rfl)⟩
  obtain ⟨fd__law_scene, F__law_scene⟩ := cd.def_ 27 (d := dd__law_scene) rfl
  have D__law_scene : DefAt K mg "_law_scene" (top 43) [] _ fd__law_scene := ⟨F__law_scene, He.glo_ok X G (cd.fact 27 (f := .glo "_law_scene") rfl)⟩
  obtain ⟨fd__law_due, F__law_due⟩ := cd.def_ 28 (d := dd__law_due) rfl
  have D__law_due : DefAt K mg "_law_due" (top 47) [] _ fd__law_due := ⟨F__law_due, He.glo_ok X G (cd.fact 28 (f := .glo "_law_due") rfl)⟩
  obtain ⟨fd_need_parts, F_need_parts⟩ := cd.def_ 29 (d := dd_need_parts) rfl
  have D_need_parts : DefAt K mg "need_parts" (top 16) [] _ fd_need_parts := ⟨F_need_parts, He.glo_ok X G (cd.fact 29 (f := .glo "need_parts") rfl)⟩
  obtain ⟨fd_cells, F_cells⟩ := cd.def_ 30 (d := dd_cells) rfl
  have D_cells : DefAt K mg "cells" (top 34) [("rule", .str "round"), ("drops", .bl true)] _ fd_cells := ⟨F_cells, He.glo_ok X G (cd.fact 30 (f := .glo "cells") rfl)⟩
  obtain ⟨fd_law, F_law⟩ := cd.def_ 31 (d := dd_law) rfl
  have e := hfa.symm.trans (He.glo_ok X G (cd.fact 31 (f := .glo "law") rfl))
  cases e
  have b := FunD.bindsA (ps := ["_law_script"]) F_law fun _ _ _ _ _ _ us hl => match us, hl with | [_], _ => rfl
  exact ⟨fd_law, fun s v => b s [v] rfl, fun base _ _ => okAll Z D_is_plain D_common_part D_is_list D_base_of D_whole_of D_need_rule D_first_middle D_crossings D_put_together D__law_cell D__law_box D__law_take D__law_number D__law_longer D__law_spans D__law_west D_is_part D_scale_of D_in_order D_filled_by D_rows_of D__law_told D__law_polygon D__law_within D_is_number D_in_wholes D_stretches D__law_scene D__law_due D_need_parts D_cells F_law⟩
theorem start_law {K : PySem.W.Frag} {H : Hp} {a : Addr} {ns : List Int} (hl : ns.length ≤ 63) (hS : SqL K H a (ns.map V.int)) : lSp K sp_law [.ref a] H (fun v _ => v = .bl true) fun _ _ _ => False := by
  refine ⟨[.rol (ns.map D.int)], fun _ => none, H, fun d _ => d = .bl true, ?_, ⟨Same.refl _, fun _ _ e => by cases e⟩, ⟨ns, rfl, hl, fun _ => rfl⟩, ?_⟩
  · have hr : ∀ ms : List Int, RepAll K H (ms.map D.int) (ms.map V.int) := fun ms => by
      induction ms with
      | nil => exact .nil
      | cons m ms ih => exact .cons (by simp only [Rep]) ih
    refine .one ?_
    simp only [Rep]
    exact ⟨a, _, rfl, hS, hr ns⟩
  · rintro v H' d S' Hb' _ _ r rfl
    simpa only [Rep] using r
end K76
open PySem PySem.W PySem.Calls PyProof.Rows
theorem PySem.Challenge.cw_hintedpoints_k76_middles_within_holds : PySem.Challenge.rw_hintedpoints_k76_middles_within.Holds := by
  w_on; o_law
  refine HandSHeadRun.head_any (r := OpenLaw.row PySem.Challenge.rw_hintedpoints_k76_middles_within) (q := view (OpenLaw.row PySem.Challenge.rw_hintedpoints_k76_middles_within).prog [48]) (H := K76.hk) (ob := K76.ob) (M := 3000) (loose := K76.names) (d := HandSHeadRun.topDef (OpenLaw.row PySem.Challenge.rw_hintedpoints_k76_middles_within).prog 48) (kwd := []) K76.ob_eq
    (by kernel_rfl) (fun s => by kernel_rfl) K76.run (by kernel_rfl) (by kernel_rfl) (by kernel_rfl) (by rfl) (by first | assumption | decide +kernel) (by decide +kernel) ⟨rfl, rfl, rfl, rfl, rfl, by decide +kernel⟩ ?hw ?hc
  case hw => w_witness2
  case hc =>
    refine DL.walk_ofG (l := PySem.Challenge.rw_hintedpoints_k76_middles_within) (n := 63) (k := 6) (x := "_law_script") (CX := L2.CX0) rfl (by decide) (by kernel_rfl) ⟨rfl, by decide, by decide⟩ ?F (fun _ _ _ _ z => z)
    intro w mg fa h Y G hmg0
    obtain ⟨K, KX, c⟩ := Y
    have hmg : mg ("law" : PySem.Str) = some (.ref fa) := by
      have e : (HandSHeadRun.topDef (OpenLaw.row PySem.Challenge.rw_hintedpoints_k76_middles_within).prog 48).name = ("law" : PySem.Str) := by kernel_rfl
      rw [← e]
      exact hmg0
    obtain ⟨fd, hb, hF⟩ := K76.facts (P := (PySem.Challenge.rw_hintedpoints_k76_middles_within).prog) (w := w) KX G hmg c
    exact ⟨K, fd, DL.lSp K K76.sp_law, KX, hb, fun H a ns hl _ hS => K76.start_law hl hS, hF⟩

