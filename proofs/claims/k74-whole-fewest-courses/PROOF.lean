import PyProof.Rows.All
import HandS.ForMost
import HandS.Walk
import KE.KDictKeyed
import KE.KeyNested
import HandS.TupAny
import HandS.Deep
import HandS.IsInst
import HandS.Conv
import HandS.Flow
import HandS.SortInts
import HandS.Wide
import HandS.Zip
import HandS.TryOnly
import PySem.Challenge.RW_gatheryard_k74_whole_fewest_courses
import HandS.Star
import HandS.Style
import HandS.Dict
import KE.SortData
import HandS.TupSets
import HandS.SetFor
import HandS.RepeatKit
import HandS.WordsExc
import HandS.ExcOwn
import HandS.Head0
import HandS.Head1
import HandS.Head2
import HandS.Head3
import HandS.HeadEnd
import HandS.HeadHook1
import HandS.HeadHook2
import HandS.HeadHook4
set_option Elab.async false
set_option linter.all false
set_option maxRecDepth 100000
set_option maxHeartbeats 4000000
/-! Gy0: the data layer's base. A value of the heap stands for a datum (Dp); what is frozen is told apart from lists that a def owns. -/
namespace GY
open PySem PySem.Spec PyProof.Rows L2

abbrev D := PyData

/-- where a def runs -/
structure Wd where
  P : Program
  w : World
  K : PySem.W.Frag
abbrev wdOf (X : Cx) : Wd := ⟨X.prog, X.w, X.K⟩

/-! ### what stands for a datum: lists and tuples that are tracked -/
mutual
inductive Dq (F : Hp) : V → D → Prop
  | non : Dq F .non .none
  | bl (b : Bool) : Dq F (.bl b) (.bool b)
  | int (i : Int) : Dq F (.int i) (.int i)
  | str (x : Str) : Dq F (.str x) (.str x)
  | lst {a : Addr} {xs : List V} {ds : List D} : F a = some (HO.lst xs) → DqAll F xs ds → Dq F (.ref a) (.list ds)
  | tup {a : Addr} {xs : List V} {ds : List D} : F a = some (HO.tup xs) → DqAll F xs ds → Dq F (.ref a) (.tuple ds)
inductive DqAll (F : Hp) : List V → List D → Prop
  | nil : DqAll F [] []
  | cons {v : V} {vs : List V} {d : D} {ds : List D} : Dq F v d → DqAll F vs ds → DqAll F (v :: vs) (d :: ds)
end
/-! ### data stay as they are while the heap only grows -/
section
variable {K : PySem.W.Frag} {H G : Hp}
mutual
theorem dq_same (e : Same H G) : ∀ (d : D) (v : V), Dq H v d → Dq G v d
  | .none, _, h => by cases h; exact Dq.non
  | .bool b, _, h => by cases h; exact Dq.bl b
  | .int i, _, h => by cases h; exact Dq.int i
  | .str x, _, h => by cases h; exact Dq.str x
  | .list ds, _, h => by
    cases h with
    | lst hs ha => exact Dq.lst (e _ _ hs) (dqs_same e ds _ ha)
  | .tuple ds, _, h => by
    cases h with
    | tup hs ha => exact Dq.tup (e _ _ hs) (dqs_same e ds _ ha)
  | .dict _, _, h => by cases h
theorem dqs_same (e : Same H G) : ∀ (ds : List D) (vs : List V), DqAll H vs ds → DqAll G vs ds
  | [], _, h => by cases h; exact DqAll.nil
  | d :: ds, _, h => by
    cases h with
    | cons h1 h2 => exact DqAll.cons (dq_same e d _ h1) (dqs_same e ds _ h2)
end
mutual
theorem dq_dp : ∀ (d : D) (v : V), Dq H v d → Dp K H v d
  | .none, _, h => by cases h; exact Dp.non
  | .bool b, _, h => by cases h; exact Dp.bl b
  | .int i, _, h => by cases h; exact Dp.int i
  | .str x, _, h => by cases h; exact Dp.str x
  | .list ds, _, h => by
    cases h with
    | lst hs ha => exact Dp.lst (SqL.of hs) (dqs_dps ds _ ha)
  | .tuple ds, _, h => by
    cases h with
    | tup hs ha => exact Dp.tup (SqT.of hs) (dqs_dps ds _ ha)
  | .dict _, _, h => by cases h
theorem dqs_dps : ∀ (ds : List D) (vs : List V), DqAll H vs ds → DpAll K H vs ds
  | [], _, h => by cases h; exact DpAll.nil
  | d :: ds, _, h => by
    cases h with
    | cons h1 h2 => exact DpAll.cons (dq_dp d _ h1) (dqs_dps ds _ h2)
end
theorem Dq.dp {v : V} {d : D} (h : Dq H v d) : Dp K H v d := dq_dp d v h
theorem DqAll.dp {vs : List V} {ds : List D} (h : DqAll H vs ds) : DpAll K H vs ds := dqs_dps ds vs h
theorem Dq.up {v : V} {d : D} (h : Dq H v d) (e : Same H G) : Dq G v d := dq_same e d v h
theorem DqAll.up {vs : List V} {ds : List D} (h : DqAll H vs ds) (e : Same H G) : DqAll G vs ds := dqs_same e ds vs h
theorem DqAll.len : ∀ {vs : List V} {ds : List D}, DqAll H vs ds → vs.length = ds.length
  | _, _, .nil => rfl
  | _, _, .cons _ t => by rw [List.length_cons, List.length_cons, DqAll.len t]
theorem DqAll.get : ∀ {vs : List V} {ds : List D} {i : Nat} {d : D}, DqAll H vs ds → ds[i]? = some d → ∃ v, vs[i]? = some v ∧ Dq H v d
  | _, _, _, _, .nil, e => by simp at e
  | _, _, 0, _, .cons h _, e => by
    simp at e
    subst e
    exact ⟨_, rfl, h⟩
  | _, _, i + 1, _, .cons _ t, e => by
    obtain ⟨v, h1, h2⟩ := DqAll.get (i := i) t (by simpa using e)
    exact ⟨v, by simpa using h1, h2⟩
theorem DqAll.get' : ∀ {vs : List V} {ds : List D} {i : Nat} {v : V}, DqAll H vs ds → vs[i]? = some v → ∃ d, ds[i]? = some d ∧ Dq H v d
  | _, _, _, _, .nil, e => by simp at e
  | _, _, 0, _, .cons h _, e => by
    simp at e
    subst e
    exact ⟨_, rfl, h⟩
  | _, _, i + 1, _, .cons _ t, e => by
    obtain ⟨v, h1, h2⟩ := DqAll.get' (i := i) t (by simpa using e)
    exact ⟨v, by simpa using h1, h2⟩
theorem DqAll.app : ∀ {vs ws : List V} {ds es : List D}, DqAll H vs ds → DqAll H ws es → DqAll H (vs ++ ws) (ds ++ es)
  | _, _, _, _, .nil, h => h
  | _, _, _, _, .cons h t, g => DqAll.cons h (DqAll.app t g)
theorem DqAll.one {v : V} {d : D} (h : Dq H v d) : DqAll H [v] [d] := DqAll.cons h DqAll.nil
theorem DqAll.set' : ∀ {vs : List V} {ds : List D} (i : Nat) {v : V} {d : D}, DqAll H vs ds → Dq H v d → DqAll H (vs.set i v) (ds.set i d)
  | _, _, _, _, _, .nil, _ => DqAll.nil
  | _, _, 0, _, _, .cons _ t, h => DqAll.cons h t
  | _, _, i + 1, _, _, .cons g t, h => DqAll.cons g (DqAll.set' i t h)
theorem DqAll.take' : ∀ {vs : List V} {ds : List D} (n : Nat), DqAll H vs ds → DqAll H (vs.take n) (ds.take n)
  | _, _, 0, _ => DqAll.nil
  | _, _, _ + 1, .nil => DqAll.nil
  | _, _, n + 1, .cons h t => DqAll.cons h (DqAll.take' n t)
theorem DqAll.drop' : ∀ {vs : List V} {ds : List D} (n : Nat), DqAll H vs ds → DqAll H (vs.drop n) (ds.drop n)
  | _, _, 0, h => h
  | _, _, _ + 1, .nil => DqAll.nil
  | _, _, n + 1, .cons _ t => DqAll.drop' n t
theorem DqAll.rev {vs : List V} {ds : List D} (h : DqAll H vs ds) : DqAll H vs.reverse ds.reverse := by
  induction vs generalizing ds with
  | nil => cases h; exact DqAll.nil
  | cons v vs ih =>
    cases h with
    | cons h1 h2 =>
      rw [List.reverse_cons, List.reverse_cons]
      exact (ih h2).app (DqAll.one h1)
theorem DqAll.erase : ∀ {vs : List V} {ds : List D} (i : Nat), DqAll H vs ds → DqAll H (vs.eraseIdx i) (ds.eraseIdx i)
  | _, _, _, .nil => DqAll.nil
  | _, _, 0, .cons _ t => t
  | _, _, i + 1, .cons h t => DqAll.cons h (DqAll.erase i t)
theorem dq_ints : ∀ (ns : List Int), DqAll H (ns.map V.int) (ns.map PyData.int)
  | [] => DqAll.nil
  | n :: ns => DqAll.cons (Dq.int n) (dq_ints ns)
theorem dq_bools : ∀ (bs : List Bool), DqAll H (bs.map V.bl) (bs.map PyData.bool)
  | [] => DqAll.nil
  | b :: bs => DqAll.cons (Dq.bl b) (dq_bools bs)
theorem ints_dq : ∀ {ns : List Int} {vs : List V}, DqAll H vs (ns.map PyData.int) → vs = ns.map V.int
  | [], _, h => by cases h; rfl
  | n :: ns, _, h => by
    cases h with
    | cons h1 h2 =>
      cases h1
      rw [ints_dq h2]
      rfl
theorem bools_dq : ∀ {bs : List Bool} {vs : List V}, DqAll H vs (bs.map PyData.bool) → vs = bs.map V.bl
  | [], _, h => by cases h; rfl
  | b :: bs, _, h => by
    cases h with
    | cons h1 h2 =>
      cases h1
      rw [bools_dq h2]
      rfl
end

/-! ### how the heap grows: F what is frozen, S what may change -/
structure Grow (S : Addr → Prop) (F H F' H' : Hp) : Prop where
  ef : Same F F'
  fh : Same F' H'
  keep : ∀ a o, H a = some o → ¬ S a → H' a = some o
  there : ∀ a o, H a = some o → ∃ u, H' a = some u
  nw : ∀ a o, H a = some o → F a = none → F' a = none
/-- nothing changes -/
abbrev N0 : Addr → Prop := fun _ => False
theorem Grow.refl {S : Addr → Prop} {F H : Hp} (h : Same F H) : Grow S F H F H := ⟨Same.refl _, h, fun _ _ e _ => e, fun _ o e => ⟨o, e⟩, fun _ _ _ e => e⟩
theorem Grow.trans {S : Addr → Prop} {F H F1 H1 F2 H2 : Hp} (a : Grow S F H F1 H1) (b : Grow S F1 H1 F2 H2) : Grow S F H F2 H2 where
  ef := a.ef.trans b.ef
  fh := b.fh
  keep := fun x o e n => b.keep x o (a.keep x o e n) n
  there := fun x o e => by
    obtain ⟨u, e1⟩ := a.there x o e
    exact b.there x u e1
  nw := fun x o e n => by
    obtain ⟨u, e1⟩ := a.there x o e
    exact b.nw x u e1 (a.nw x o e n)
theorem Grow.mono {S S' : Addr → Prop} {F H F' H' : Hp} (g : Grow S F H F' H') (h : ∀ a, S a → S' a) : Grow S' F H F' H' := ⟨g.ef, g.fh, fun a o e n => g.keep a o e fun q => n (h a q), g.there, g.nw⟩
theorem Grow.any {S : Addr → Prop} {F H F' H' : Hp} (g : Grow N0 F H F' H') : Grow S F H F' H' := g.mono fun _ q => q.elim
theorem Grow.hh {F H F' H' : Hp} (g : Grow N0 F H F' H') : Same H H' := fun a o e => g.keep a o e (fun q => q)
theorem Grow.back {S : Addr → Prop} {F H F' H' : Hp} (g : Grow S F H F' H') {p : Addr} (h : H' p = none) : H p = none := by
  cases q : H p with
  | none => rfl
  | some o =>
    obtain ⟨u, e⟩ := g.there p o q
    rw [e] at h
    cases h
theorem none_of_same {F H : Hp} (h : Same F H) {p : Addr} (n : H p = none) : F p = none := h.free n
/-- a new object, frozen at once -/
theorem Grow.newF {S : Addr → Prop} {F H : Hp} (h : Same F H) {p : Addr} {o : HO} (hp : H p = none) : Grow S F H (upd F p o) (upd H p o) where
  ef := fun a u e => by rw [upd_ne (ne_of_none e (none_of_same h hp))]; exact e
  fh := fun a u e => by
    by_cases q : a = p
    · subst q
      rw [upd_same] at e ⊢
      exact e
    · rw [upd_ne q] at e ⊢
      exact h a u e
  keep := fun a u e _ => by rw [upd_ne (ne_of_none e hp)]; exact e
  there := fun a u e => ⟨u, by rw [upd_ne (ne_of_none e hp)]; exact e⟩
  nw := fun a u e n => by rw [upd_ne (ne_of_none e hp)]; exact n
/-- a new object, owned -/
theorem Grow.newO {S : Addr → Prop} {F H : Hp} (h : Same F H) {p : Addr} {o : HO} (hp : H p = none) : Grow S F H F (upd H p o) where
  ef := Same.refl _
  fh := fun a u e => by rw [upd_ne (ne_of_none e (none_of_same h hp))]; exact h a u e
  keep := fun a u e _ => by rw [upd_ne (ne_of_none e hp)]; exact e
  there := fun a u e => ⟨u, by rw [upd_ne (ne_of_none e hp)]; exact e⟩
  nw := fun _ _ _ n => n
/-- an owned object is frozen -/
theorem Grow.freeze {S : Addr → Prop} {F H F' H' : Hp} (g : Grow S F H F' H') {p : Addr} {o : HO} (hp : H p = none) (hf : F' p = none) (ho : H' p = some o) : Grow S F H (upd F' p o) H' where
  ef := fun a u e => by rw [upd_ne (ne_of_none (g.ef a u e) hf)]; exact g.ef a u e
  fh := fun a u e => by
    by_cases q : a = p
    · subst q
      rw [upd_same] at e
      rw [← e]
      exact ho
    · rw [upd_ne q] at e
      exact g.fh a u e
  keep := g.keep
  there := g.there
  nw := fun a u e n => by rw [upd_ne (ne_of_none e hp)]; exact g.nw a u e n
/-- an owned object changes -/
theorem Grow.write {S : Addr → Prop} {F H : Hp} (h : Same F H) {p : Addr} {o u : HO} (hp : H p = some o) (hf : F p = none) (hs : S p) : Grow S F H F (upd H p u) where
  ef := Same.refl _
  fh := fun a v e => by rw [upd_ne (ne_of_none e hf)]; exact h a v e
  keep := fun a v e n => by
    rw [upd_ne (fun q => n (by rw [q]; exact hs))]
    exact e
  there := fun a v e => by
    by_cases q : a = p
    · subst q
      exact ⟨u, upd_same⟩
    · exact ⟨v, by rw [upd_ne q]; exact e⟩
  nw := fun _ _ _ n => n

/-! ### dicts with nested keys -/
def RawDct (W : Wd) (h : Heap) (p : Addr) (L : List (NestedKey × Addr × Value)) : Prop :=
  (p == sysModules) = false ∧ ∃ o es ep, h.get? p = some o ∧ o.ExactDict ∧ o.data = .dict es ep ∧ es.toList = L.map (entryOfKey (nestedKind W.P W.w)) ∧ (L.map (·.1)).Nodup
def dctO (W : Wd) (p : Addr) (L : List (NestedKey × Addr × Value)) : HO := .ext fun h => RawDct W h p L
structure DctHas (W : Wd) (F : Hp) (p : Addr) (o : HO) (ks : List NestedKey) : Prop where
  ex : ∃ L : List (NestedKey × Addr × Value), o = dctO W p L ∧ L.map (·.1) = ks ∧ (∀ q ∈ L, Dq F (.ref q.2.1) q.1.data) ∧ (∀ q ∈ L, q.1.depth ≤ 8) ∧ L.length ≤ 100000

/-! ### slots told as data -/
inductive Sl where
  | no
  /-- frozen -/
  | val (d : D)
  /-- a list of the def's own -/
  | own (ds : List D)
  /-- a dict of the def's own, its keys -/
  | dct (ks : List NestedKey)
  /-- a list that the caller handed over: it may be changed -/
  | rf (ds : List D)
abbrev Rho := List Sl
def Has (W : Wd) (F H : Hp) (p : Addr) : Sl → Prop
  | .own ds => ∃ vs, H p = some (HO.lst vs) ∧ DqAll F vs ds
  | .dct ks => ∃ o, H p = some o ∧ DctHas W F p o ks
  | .rf ds => ∃ vs, H p = some (HO.lst vs) ∧ DqAll F vs ds
  | _ => False
def Sl.mine : Sl → Bool
  | .own _ => true
  | .dct _ => true
  | .rf _ => true
  | _ => false

structure Bas where
  S : Addr → Prop
  F : Hp
  H : Hp

/-- where a slot's own object comes from -/
def Sl.org (B : Bas) (p : Addr) : Sl → Prop
  | .rf _ => B.S p
  | _ => B.H p = none
/-- the slots σ and the heap, told by ρ; B: the entry -/
structure Rel (W : Wd) (B : Bas) (F H : Hp) (σ : L2.St) (ρ : Rho) : Prop where
  gr : Grow B.S B.F B.H F H
  len : σ.length = ρ.length
  val : ∀ (i : Nat) (d : D), ρ[i]? = some (Sl.val d) → ∃ v, σ[i]? = some (some v) ∧ Dq F v d
  own : ∀ (i : Nat) (s : Sl), ρ[i]? = some s → s.mine = true → ∃ p, σ[i]? = some (some (V.ref p)) ∧ F p = none ∧ Has W F H p s ∧ s.org B p
  dist : ∀ (i j : Nat) (s t : Sl) (p : Addr), ρ[i]? = some s → ρ[j]? = some t → s.mine = true → t.mine = true → σ[i]? = some (some (V.ref p)) → σ[j]? = some (some (V.ref p)) → i = j
/-- an address of an owned slot -/
def Mine (σ : L2.St) (ρ : Rho) (p : Addr) : Prop := ∃ (i : Nat) (s : Sl), ρ[i]? = some s ∧ s.mine = true ∧ σ[i]? = some (some (V.ref p))

section
variable {W : Wd} {B : Bas} {F H F' H' : Hp} {σ : L2.St} {ρ : Rho}
theorem DctHas.up {p : Addr} {o : HO} {ks : List NestedKey} (h : DctHas W F p o ks) (e : Same F F') : DctHas W F' p o ks := by
  obtain ⟨L, h1, h2, h3, h4, h5⟩ := h.ex
  exact ⟨L, h1, h2, fun q hq => (h3 q hq).up e, h4, h5⟩
theorem Has.ex {p : Addr} {s : Sl} (h : Has W F H p s) : ∃ o, H p = some o := by
  cases s with
  | no => exact h.elim
  | val d => exact h.elim
  | own ds => obtain ⟨vs, e, _⟩ := h; exact ⟨_, e⟩
  | rf ds => obtain ⟨vs, e, _⟩ := h; exact ⟨_, e⟩
  | dct ks => obtain ⟨o, e, _⟩ := h; exact ⟨_, e⟩
theorem Has.mine {p : Addr} {s : Sl} (h : Has W F H p s) : s.mine = true := by
  cases s with
  | no => exact h.elim
  | val d => exact h.elim
  | own ds => rfl
  | rf ds => rfl
  | dct ks => rfl
theorem Has.up {p : Addr} {s : Sl} (h : Has W F H p s) (e : Same F F') (k : ∀ o, H p = some o → H' p = some o) : Has W F' H' p s := by
  cases s with
  | no => exact h.elim
  | val d => exact h.elim
  | own ds => obtain ⟨vs, e1, a⟩ := h; exact ⟨vs, k _ e1, a.up e⟩
  | rf ds => obtain ⟨vs, e1, a⟩ := h; exact ⟨vs, k _ e1, a.up e⟩
  | dct ks => obtain ⟨o, e1, a⟩ := h; exact ⟨o, k _ e1, a.up e⟩
theorem Rel.fh (r : Rel W B F H σ ρ) : Same F H := r.gr.fh
theorem Rel.mineSome (r : Rel W B F H σ ρ) {p : Addr} (h : Mine σ ρ p) : F p = none ∧ (∃ o, H p = some o) := by
  obtain ⟨i, s, h1, h2, h3⟩ := h
  obtain ⟨q, e1, e2, e3, e4⟩ := r.own i s h1 h2
  rw [h3] at e1
  have e : p = q := by
    injection e1 with e1
    injection e1 with e1
    injection e1
  subst e
  exact ⟨e2, e3.ex⟩
/-- the heap grows, nothing owned changes -/
theorem Rel.grow (r : Rel W B F H σ ρ) (g : Grow N0 F H F' H') : Rel W B F' H' σ ρ where
  gr := r.gr.trans g.any
  len := r.len
  val := fun i d e => by
    obtain ⟨v, h1, h2⟩ := r.val i d e
    exact ⟨v, h1, h2.up g.ef⟩
  own := fun i s e m => by
    obtain ⟨p, h1, h2, h3, h4⟩ := r.own i s e m
    obtain ⟨o, ho⟩ := h3.ex
    exact ⟨p, h1, g.nw p o ho h2, h3.up g.ef fun u hu => g.hh p u hu, h4⟩
  dist := r.dist
/-- what is no one's own may change -/
theorem Rel.other (r : Rel W B F H σ ρ) {p : Addr} {o : HO} (hf : F p = none) (hb : B.H p = none) (hm : ¬ Mine σ ρ p) : Rel W B F (upd H p o) σ ρ where
  gr := ⟨r.gr.ef, fun a u e => by rw [upd_ne (ne_of_none e hf)]; exact r.gr.fh a u e, fun a u e n => by rw [upd_ne (ne_of_none e hb)]; exact r.gr.keep a u e n,
    fun a u e => by rw [upd_ne (ne_of_none e hb)]; exact r.gr.there a u e, r.gr.nw⟩
  len := r.len
  val := r.val
  own := fun i s e m => by
    obtain ⟨q, h1, h2, h3, h4⟩ := r.own i s e m
    have ne : q ≠ p := fun z => hm ⟨i, s, e, m, by rw [← z]; exact h1⟩
    exact ⟨q, h1, h2, h3.up (Same.refl _) fun u hu => by rw [upd_ne ne]; exact hu, h4⟩
  dist := r.dist

theorem getElem_setS {α : Type} {l : List α} {i j : Nat} {x y : α} (h : (l.set i x)[j]? = some y) : (j = i ∧ x = y ∧ i < l.length) ∨ (j ≠ i ∧ l[j]? = some y) := by
  by_cases e : i = j
  · subst e
    by_cases hl : i < l.length
    · rw [List.getElem?_set_self hl] at h
      exact Or.inl ⟨rfl, Option.some.inj h, hl⟩
    · rw [List.getElem?_eq_none (by rw [List.length_set]; omega)] at h
      cases h
  · rw [List.getElem?_set_ne e] at h
    exact Or.inr ⟨fun q => e q.symm, h⟩
theorem set_at {α : Type} {l : List α} {i : Nat} {x : α} (h : i < l.length) : (l.set i x)[i]? = some x := List.getElem?_set_self h
theorem set_off {α : Type} {l : List α} {i j : Nat} {x : α} (h : j ≠ i) : (l.set i x)[j]? = l[j]? := List.getElem?_set_ne (Ne.symm h)

/-- a slot gets a frozen datum -/
theorem Rel.setV (r : Rel W B F H σ ρ) (i : Nat) {v : V} {d : D} (h : Dq F v d) : Rel W B F H (σ.set i (some v)) (ρ.set i (.val d)) where
  gr := r.gr
  len := by rw [List.length_set, List.length_set]; exact r.len
  val := fun j e hj => by
    rcases getElem_setS hj with ⟨rfl, h1, h2⟩ | ⟨h1, h2⟩
    · cases h1
      exact ⟨v, set_at (by rw [r.len]; exact h2), h⟩
    · obtain ⟨u, e1, e2⟩ := r.val j e h2
      exact ⟨u, by rw [set_off h1]; exact e1, e2⟩
  own := fun j s hj m => by
    rcases getElem_setS hj with ⟨rfl, h1, h2⟩ | ⟨h1, h2⟩
    · subst h1
      cases m
    · obtain ⟨p, e1, e2⟩ := r.own j s h2 m
      exact ⟨p, by rw [set_off h1]; exact e1, e2⟩
  dist := fun j k s t p hj hk ms mt e1 e2 => by
    rcases getElem_setS hj with ⟨rfl, h1, h2⟩ | ⟨h1, h2⟩
    · subst h1
      cases ms
    rcases getElem_setS hk with ⟨rfl, h3, h4⟩ | ⟨h3, h4⟩
    · subst h3
      cases mt
    rw [set_off h1] at e1
    rw [set_off h3] at e2
    exact r.dist j k s t p h2 h4 ms mt e1 e2
/-- a slot gets an owned object that no slot has -/
theorem Rel.setO (r : Rel W B F H σ ρ) (i : Nat) {p : Addr} {s : Sl} (hf : F p = none) (h : Has W F H p s) (hb : s.org B p) (hm : ∀ (j : Nat) (t : Sl), j ≠ i → ρ[j]? = some t → t.mine = true → σ[j]? ≠ some (some (V.ref p))) :
    Rel W B F H (σ.set i (some (V.ref p))) (ρ.set i s) where
  gr := r.gr
  len := by rw [List.length_set, List.length_set]; exact r.len
  val := fun j e hj => by
    rcases getElem_setS hj with ⟨rfl, h1, h2⟩ | ⟨h1, h2⟩
    · subst h1
      exact h.elim
    · obtain ⟨u, e1, e2⟩ := r.val j e h2
      exact ⟨u, by rw [set_off h1]; exact e1, e2⟩
  own := fun j t hj m => by
    rcases getElem_setS hj with ⟨rfl, h1, h2⟩ | ⟨h1, h2⟩
    · subst h1
      exact ⟨p, set_at (by rw [r.len]; exact h2), hf, h, hb⟩
    · obtain ⟨q, e1, e2⟩ := r.own j t h2 m
      exact ⟨q, by rw [set_off h1]; exact e1, e2⟩
  dist := fun j k t u q hj hk ms mt e1 e2 => by
    rcases getElem_setS hj with ⟨rfl, h1, h2⟩ | ⟨h1, h2⟩
    · rcases getElem_setS hk with ⟨rfl, h3, h4⟩ | ⟨h3, h4⟩
      · rfl
      · rw [set_at (by rw [r.len]; exact h2)] at e1
        rw [set_off h3] at e2
        cases e1
        exact absurd e2 (hm k u h3 h4 mt)
    · rcases getElem_setS hk with ⟨rfl, h3, h4⟩ | ⟨h3, h4⟩
      · rw [set_at (by rw [r.len]; exact h4)] at e2
        rw [set_off h1] at e1
        cases e2
        exact absurd e1 (hm j t h1 h2 ms)
      · rw [set_off h1] at e1
        rw [set_off h3] at e2
        exact r.dist j k t u q h2 h4 ms mt e1 e2
/-- a slot is forgotten -/
theorem Rel.forget (r : Rel W B F H σ ρ) (i : Nat) : Rel W B F H σ (ρ.set i .no) where
  gr := r.gr
  len := by rw [List.length_set]; exact r.len
  val := fun j e hj => by
    rcases getElem_setS hj with ⟨rfl, h1, h2⟩ | ⟨h1, h2⟩
    · cases h1
    · exact r.val j e h2
  own := fun j t hj m => by
    rcases getElem_setS hj with ⟨rfl, h1, h2⟩ | ⟨h1, h2⟩
    · subst h1
      cases m
    · exact r.own j t h2 m
  dist := fun j k t u q hj hk ms mt e1 e2 => by
    rcases getElem_setS hj with ⟨rfl, h1, h2⟩ | ⟨h1, h2⟩
    · subst h1
      cases ms
    rcases getElem_setS hk with ⟨rfl, h3, h4⟩ | ⟨h3, h4⟩
    · subst h3
      cases mt
    exact r.dist j k t u q h2 h4 ms mt e1 e2
/-- .. and its value too -/
theorem Rel.wipe1 (r : Rel W B F H σ ρ) (i : Nat) (x : Option V) : Rel W B F H (σ.set i x) (ρ.set i .no) where
  gr := r.gr
  len := by rw [List.length_set, List.length_set]; exact r.len
  val := fun j e hj => by
    rcases getElem_setS hj with ⟨rfl, h1, h2⟩ | ⟨h1, h2⟩
    · cases h1
    · rw [set_off h1]
      exact r.val j e h2
  own := fun j t hj m => by
    rcases getElem_setS hj with ⟨rfl, h1, h2⟩ | ⟨h1, h2⟩
    · subst h1
      cases m
    · rw [set_off h1]
      exact r.own j t h2 m
  dist := fun j k t u q hj hk ms mt e1 e2 => by
    rcases getElem_setS hj with ⟨rfl, h1, h2⟩ | ⟨h1, h2⟩
    · subst h1
      cases ms
    rcases getElem_setS hk with ⟨rfl, h3, h4⟩ | ⟨h3, h4⟩
    · subst h3
      cases mt
    rw [set_off h1] at e1
    rw [set_off h3] at e2
    exact r.dist j k t u q h2 h4 ms mt e1 e2
def wipeR (ρ : Rho) : List Nat → Rho
  | [] => ρ
  | v :: vs => (wipeR ρ vs).set v .no
theorem Rel.wipe (r : Rel W B F H σ ρ) : ∀ vs : List Nat, Rel W B F H (L2.wipe σ vs) (wipeR ρ vs)
  | [] => r
  | v :: vs => (Rel.wipe r vs).wipe1 v none
/-- an owned list is frozen: its slot holds a frozen list -/
theorem Rel.freeze1 (r : Rel W B F H σ ρ) {i : Nat} {ds : List D} (hi : ρ[i]? = some (Sl.own ds)) : ∃ F', Same F F' ∧ Rel W B F' H σ (ρ.set i (.val (.list ds))) := by
  obtain ⟨p, h1, h2, ⟨vs, h3, h4⟩, h5⟩ := r.own i _ hi rfl
  have hil : i < ρ.length := (List.getElem?_eq_some_iff.mp hi).1
  have mp : Mine σ ρ p := ⟨i, _, hi, rfl, h1⟩
  have hb : B.H p = none := h5
  have ef : Same F (upd F p (.lst vs)) := fun a u e => by rw [upd_ne (ne_of_none e h2)]; exact e
  refine ⟨upd F p (.lst vs), ef, ⟨r.gr.freeze hb h2 h3, by rw [List.length_set]; exact r.len, fun j e hj => ?_, fun j t hj m => ?_, fun j k t u q hj hk ms mt e1 e2 => ?_⟩⟩
  · rcases getElem_setS hj with ⟨rfl, q1, q2⟩ | ⟨q1, q2⟩
    · cases q1
      exact ⟨.ref p, h1, Dq.lst upd_same (h4.up ef)⟩
    · obtain ⟨u, e1, e2⟩ := r.val j e q2
      exact ⟨u, e1, e2.up ef⟩
  · rcases getElem_setS hj with ⟨rfl, q1, q2⟩ | ⟨q1, q2⟩
    · subst q1
      cases m
    · obtain ⟨q, e1, e2, e3, e4⟩ := r.own j t q2 m
      have ne : q ≠ p := fun z => q1 (r.dist j i t _ p q2 hi m rfl (by rw [← z]; exact e1) h1)
      exact ⟨q, e1, by rw [upd_ne ne]; exact e2, e3.up ef fun o e => e, e4⟩
  · rcases getElem_setS hj with ⟨rfl, q1, q2⟩ | ⟨q1, q2⟩
    · subst q1
      cases ms
    rcases getElem_setS hk with ⟨rfl, q3, q4⟩ | ⟨q3, q4⟩
    · subst q3
      cases mt
    exact r.dist j k t u q q2 q4 ms mt e1 e2
end
end GY
set_option Elab.async false
set_option linter.all false
set_option maxRecDepth 100000
set_option maxHeartbeats 4000000
/-! Gy1: expressions told by data. -/
namespace GY
open PySem PySem.Spec PyProof.Rows L2

/-! ### judgements: what a reading gives, as data -/
/-- frozen, or a list of the def's own whose items are frozen -/
inductive Bor (F H : Hp) : V → D → Prop
  | fr {v : V} {d : D} : Dq F v d → Bor F H v d
  | bo {p : Addr} {vs : List V} {ds : List D} : H p = some (HO.lst vs) → DqAll F vs ds → Bor F H (.ref p) (.list ds)
structure DEt (W : Wd) (t : TE) (f : Rho → Option D) : Prop where
  go : ∀ {B : Bas} {F H : Hp} {σ : L2.St} {ρ : Rho} {d : D}, Rel W B F H σ ρ → f ρ = some d → ∀ Q : VK, (∀ v F' H', Grow N0 F H F' H' → Dq F' v d → Q v H') → t σ H Q
structure DBt (W : Wd) (t : TE) (f : Rho → Option D) : Prop where
  go : ∀ {B : Bas} {F H : Hp} {σ : L2.St} {ρ : Rho} {d : D}, Rel W B F H σ ρ → f ρ = some d → ∀ Q : VK, (∀ v F' H', Grow N0 F H F' H' → Bor F' H' v d → Q v H') → t σ H Q
structure DLt (W : Wd) (t : TE) (f : Rho → Option (List D)) : Prop where
  go : ∀ {B : Bas} {F H : Hp} {σ : L2.St} {ρ : Rho} {ds : List D}, Rel W B F H σ ρ → f ρ = some ds → ∀ Q : VK,
    (∀ p vs F' H', Grow N0 F H F' H' → H p = none → F' p = none → H' p = some (HO.lst vs) → DqAll F' vs ds → Q (.ref p) H') → t σ H Q
structure DTt (W : Wd) (t : TT) (f : Rho → Option Bool) : Prop where
  go : ∀ {B : Bas} {F H : Hp} {σ : L2.St} {ρ : Rho} {b : Bool}, Rel W B F H σ ρ → f ρ = some b → ∀ Q : Bool → Hp → Prop, (∀ F' H', Grow N0 F H F' H' → Q b H') → t σ H Q
structure DAt (W : Wd) (t : TA) (f : Rho → Option (List D)) : Prop where
  go : ∀ {B : Bas} {F H : Hp} {σ : L2.St} {ρ : Rho} {ds : List D}, Rel W B F H σ ρ → f ρ = some ds → ∀ Q : List V → Hp → Prop, (∀ vs F' H', Grow N0 F H F' H' → DqAll F' vs ds → Q vs H') → t σ H Q

/-! the readings that data alone tell -/
def canE (W : Wd) (f : Rho → Option D) : TE := fun σ H Q => ∃ (B : Bas) (F : Hp) (ρ : Rho) (d : D), Rel W B F H σ ρ ∧ f ρ = some d ∧ ∀ v F' H', Grow N0 F H F' H' → Dq F' v d → Q v H'
def canB (W : Wd) (f : Rho → Option D) : TE := fun σ H Q => ∃ (B : Bas) (F : Hp) (ρ : Rho) (d : D), Rel W B F H σ ρ ∧ f ρ = some d ∧ ∀ v F' H', Grow N0 F H F' H' → Bor F' H' v d → Q v H'
def canL (W : Wd) (f : Rho → Option (List D)) : TE := fun σ H Q => ∃ (B : Bas) (F : Hp) (ρ : Rho) (ds : List D), Rel W B F H σ ρ ∧ f ρ = some ds ∧
  ∀ p vs F' H', Grow N0 F H F' H' → H p = none → F' p = none → H' p = some (HO.lst vs) → DqAll F' vs ds → Q (.ref p) H'
def canT (W : Wd) (f : Rho → Option Bool) : TT := fun σ H Q => ∃ (B : Bas) (F : Hp) (ρ : Rho) (b : Bool), Rel W B F H σ ρ ∧ f ρ = some b ∧ ∀ F' H', Grow N0 F H F' H' → Q b H'
def canA (W : Wd) (f : Rho → Option (List D)) : TA := fun σ H Q => ∃ (B : Bas) (F : Hp) (ρ : Rho) (ds : List D), Rel W B F H σ ρ ∧ f ρ = some ds ∧ ∀ vs F' H', Grow N0 F H F' H' → DqAll F' vs ds → Q vs H'
theorem canE_de {W : Wd} {f : Rho → Option D} : DEt W (canE W f) f := ⟨fun r e Q q => ⟨_, _, _, _, r, e, q⟩⟩
theorem canB_de {W : Wd} {f : Rho → Option D} : DBt W (canB W f) f := ⟨fun r e Q q => ⟨_, _, _, _, r, e, q⟩⟩
theorem canL_de {W : Wd} {f : Rho → Option (List D)} : DLt W (canL W f) f := ⟨fun r e Q q => ⟨_, _, _, _, r, e, q⟩⟩
theorem canT_de {W : Wd} {f : Rho → Option Bool} : DTt W (canT W f) f := ⟨fun r e Q q => ⟨_, _, _, _, r, e, q⟩⟩
theorem canA_de {W : Wd} {f : Rho → Option (List D)} : DAt W (canA W f) f := ⟨fun r e Q q => ⟨_, _, _, _, r, e, q⟩⟩
inductive DE (X : Cx) (e : Expr) (f : Rho → Option D) : Prop
  | mk {t : TE} (pe : PE X e t) (de : DEt (wdOf X) t f) : DE X e f
inductive DB (X : Cx) (e : Expr) (f : Rho → Option D) : Prop
  | mk {t : TE} (pe : PE X e t) (de : DBt (wdOf X) t f) : DB X e f
inductive DL (X : Cx) (e : Expr) (f : Rho → Option (List D)) : Prop
  | mk {t : TE} (pe : PE X e t) (de : DLt (wdOf X) t f) : DL X e f
inductive DT (X : Cx) (e : Expr) (f : Rho → Option Bool) : Prop
  | mk {t : TT} (pe : PT X e t) (de : DTt (wdOf X) t f) : DT X e f
inductive DW (X : Cx) (e : Expr) (f : Rho → Option Bool) : Prop
  | mk {t : TT} (pe : PW X e t) (de : DTt (wdOf X) t f) : DW X e f
inductive DA (X : Cx) (es : List Expr) (f : Rho → Option (List D)) : Prop
  | mk {t : TA} (pe : PA X es t) (de : DAt (wdOf X) t f) : DA X es f
section
variable {X : Cx} {e : Expr} {es : List Expr} {f : Rho → Option D} {fl : Rho → Option (List D)} {fb : Rho → Option Bool}
theorem DE.pe (h : DE X e f) : PE X e (canE (wdOf X) f) := by
  obtain ⟨pe, de⟩ := h
  exact ⟨fun pins s σ H Q I ⟨B, F, ρ, d, r, e1, q⟩ => pe.run pins s σ H Q I (de.go r e1 Q q)⟩
theorem DE.de (h : DE X e f) : DEt (wdOf X) (canE (wdOf X) f) f := canE_de
theorem DB.pe (h : DB X e f) : PE X e (canB (wdOf X) f) := by
  obtain ⟨pe, de⟩ := h
  exact ⟨fun pins s σ H Q I ⟨B, F, ρ, d, r, e1, q⟩ => pe.run pins s σ H Q I (de.go r e1 Q q)⟩
theorem DB.de (h : DB X e f) : DBt (wdOf X) (canB (wdOf X) f) f := canB_de
theorem DL.pe (h : DL X e fl) : PE X e (canL (wdOf X) fl) := by
  obtain ⟨pe, de⟩ := h
  exact ⟨fun pins s σ H Q I ⟨B, F, ρ, d, r, e1, q⟩ => pe.run pins s σ H Q I (de.go r e1 Q q)⟩
theorem DL.de (h : DL X e fl) : DLt (wdOf X) (canL (wdOf X) fl) fl := canL_de
theorem DT.pe (h : DT X e fb) : PT X e (canT (wdOf X) fb) := by
  obtain ⟨pe, de⟩ := h
  exact ⟨fun pins s σ H Q I ⟨B, F, ρ, d, r, e1, q⟩ => pe.run pins s σ H Q I (de.go r e1 Q q)⟩
theorem DT.de (h : DT X e fb) : DTt (wdOf X) (canT (wdOf X) fb) fb := canT_de
theorem DW.pe (h : DW X e fb) : PW X e (canT (wdOf X) fb) := by
  obtain ⟨pe, de⟩ := h
  exact ⟨fun wh pins s σ H Q I ⟨B, F, ρ, d, r, e1, q⟩ => pe.run wh pins s σ H Q I (de.go r e1 Q q)⟩
theorem DW.de (h : DW X e fb) : DTt (wdOf X) (canT (wdOf X) fb) fb := canT_de
theorem DA.pe (h : DA X es fl) : PA X es (canA (wdOf X) fl) := by
  obtain ⟨pe, de⟩ := h
  exact ⟨fun pos pins s σ H Q I ⟨B, F, ρ, d, r, e1, q⟩ => pe.run pos pins s σ H Q I (de.go r e1 Q q)⟩
theorem DA.de (h : DA X es fl) : DAt (wdOf X) (canA (wdOf X) fl) fl := canA_de
end

theorem bind_some {α β : Type} {x : Option α} {f : α → Option β} {b : β} (h : x.bind f = some b) : ∃ a, x = some a ∧ f a = some b := by
  cases x with
  | none => cases h
  | some a => exact ⟨a, rfl, h⟩
theorem map_some {α β : Type} {x : Option α} {f : α → β} {b : β} (h : x.map f = some b) : ∃ a, x = some a ∧ f a = b := by
  cases x with
  | none => cases h
  | some a => exact ⟨a, rfl, Option.some.inj h⟩

section
variable {F H F' H' : Hp} {v : V} {d : D}
theorem Bor.h (b : Bor F H v d) (e : Same F H) : Dq H v d := by
  cases b with
  | fr h => exact h.up e
  | bo h a => exact Dq.lst h (a.up e)
theorem Bor.up (b : Bor F H v d) (g : Grow N0 F H F' H') : Bor F' H' v d := by
  cases b with
  | fr h => exact .fr (h.up g.ef)
  | bo h a => exact .bo (g.hh _ _ h) (a.up g.ef)
theorem Bor.list {ds : List D} (b : Bor F H v (.list ds)) (e : Same F H) : ∃ p vs, v = .ref p ∧ H p = some (HO.lst vs) ∧ DqAll F vs ds := by
  cases b with
  | fr h =>
    cases h with
    | lst h1 h2 => exact ⟨_, _, rfl, e _ _ h1, h2⟩
  | bo h a => exact ⟨_, _, rfl, h, a⟩
theorem Bor.tup {ds : List D} (b : Bor F H v (.tuple ds)) (e : Same F H) : ∃ p vs, v = .ref p ∧ F p = some (HO.tup vs) ∧ H p = some (HO.tup vs) ∧ DqAll F vs ds := by
  cases b with
  | fr h =>
    cases h with
    | tup h1 h2 => exact ⟨_, _, rfl, h1, e _ _ h1, h2⟩
theorem Bor.int {i : Int} (b : Bor F H v (.int i)) : v = .int i := by
  cases b with
  | fr h => cases h; rfl
theorem Bor.bool {i : Bool} (b : Bor F H v (.bool i)) : v = .bl i := by
  cases b with
  | fr h => cases h; rfl
theorem Bor.none' (b : Bor F H v .none) : v = .non := by
  cases b with
  | fr h => cases h; rfl
theorem Bor.str {i : Str} (b : Bor F H v (.str i)) : v = .str i := by
  cases b with
  | fr h => cases h; rfl
end

section
variable {W : Wd} {t : TE} {f : Rho → Option D} {g : Rho → Option (List D)}
theorem DEt.db (h : DEt W t f) : DBt W t f := ⟨fun r e Q q => h.go r e Q fun v F' H' gr d => q v F' H' gr (.fr d)⟩
theorem DLt.db (h : DLt W t g) : DBt W t (fun ρ => (g ρ).map .list) := ⟨fun r e Q q => by
  obtain ⟨ds, e1, e2⟩ := map_some e
  subst e2
  exact h.go r e1 Q fun p vs F' H' gr _ _ hl ha => q _ F' H' gr (.bo hl ha)⟩
theorem DLt.de (h : DLt W t g) : DEt W t (fun ρ => (g ρ).map .list) := ⟨fun r e Q q => by
  obtain ⟨ds, e1, e2⟩ := map_some e
  subst e2
  refine h.go r e1 Q fun p vs F' H' gr n1 n2 hl ha => q _ (upd F' p (HO.lst vs)) H' (gr.freeze n1 n2 hl) (Dq.lst upd_same (ha.up fun a u e => ?_))
  rw [upd_ne (ne_of_none e n2)]
  exact e⟩
end
section
variable {X : Cx} {e : Expr} {t : TE} {f : Rho → Option D} {g : Rho → Option (List D)}
theorem DE.db (h : DE X e f) : DB X e f := ⟨h.pe, h.de.db⟩
theorem DL.db (h : DL X e g) : DB X e (fun ρ => (g ρ).map .list) := ⟨h.pe, h.de.db⟩
theorem DL.de' (h : DL X e g) : DE X e (fun ρ => (g ρ).map .list) := ⟨h.pe, h.de.de⟩
end

/-! ### names, constants -/
def vAt (ρ : Rho) (i : Nat) : Option D := match ρ[i]? with
  | some (.val d) => some d
  | _ => none
def bAt (ρ : Rho) (i : Nat) : Option D := match ρ[i]? with
  | some (.val d) => some d
  | some (.own ds) => some (.list ds)
  | some (.rf ds) => some (.list ds)
  | _ => none
theorem vAt_some {ρ : Rho} {i : Nat} {d : D} (h : vAt ρ i = some d) : ρ[i]? = some (.val d) := by
  unfold vAt at h
  split at h
  · rename_i e
    rw [e, Option.some.inj h]
  · cases h
theorem bAt_some {ρ : Rho} {i : Nat} {d : D} (h : bAt ρ i = some d) : ρ[i]? = some (.val d) ∨ ∃ ds, (ρ[i]? = some (.own ds) ∨ ρ[i]? = some (.rf ds)) ∧ d = .list ds := by
  unfold bAt at h
  split at h
  · rename_i e
    rw [e, Option.some.inj h]
    exact Or.inl rfl
  · rename_i ds e
    exact Or.inr ⟨ds, Or.inl e, (Option.some.inj h).symm⟩
  · rename_i ds e
    exact Or.inr ⟨ds, Or.inr e, (Option.some.inj h).symm⟩
  · cases h
section
variable {X : Cx} {W : Wd}
theorem dt_var (i : Nat) : DEt W (tVar i) (fun ρ => vAt ρ i) := ⟨fun r e Q q => by
  obtain ⟨v, h1, h2⟩ := r.val i _ (vAt_some e)
  exact ⟨v, h1, q v _ _ (Grow.refl r.fh) h2⟩⟩
theorem bt_var (i : Nat) : DBt W (tVar i) (fun ρ => bAt ρ i) := ⟨fun r e Q q => by
  rcases bAt_some e with h | ⟨ds, h, rfl⟩
  · obtain ⟨v, h1, h2⟩ := r.val i _ h
    exact ⟨v, h1, q v _ _ (Grow.refl r.fh) (.fr h2)⟩
  · rcases h with h | h
    · obtain ⟨p, h1, h2, ⟨vs, h3, h4⟩, _⟩ := r.own i _ h rfl
      exact ⟨_, h1, q _ _ _ (Grow.refl r.fh) (.bo h3 h4)⟩
    · obtain ⟨p, h1, h2, ⟨vs, h3, h4⟩, _⟩ := r.own i _ h rfl
      exact ⟨_, h1, q _ _ _ (Grow.refl r.fh) (.bo h3 h4)⟩⟩
theorem de_var (i : Nat) {x : Str} {pos : Pos} (hN : X.N[i]? = some x := by rfl) (hv : Vis X.env.scope x := by first | exact Or.inl rfl | exact Or.inr (Or.inl rfl) | exact Or.inr (Or.inr rfl)) (hd : (x == ("__debug__" : Str)) = false := by decide)
    (hcd : (x == ("__classdict__" : Str)) = false := by decide) : DE X (.Name x pos) (fun ρ => vAt ρ i) := ⟨pe_var hN hv hd hcd, dt_var i⟩
theorem db_var (i : Nat) {x : Str} {pos : Pos} (hN : X.N[i]? = some x := by rfl) (hv : Vis X.env.scope x := by first | exact Or.inl rfl | exact Or.inr (Or.inl rfl) | exact Or.inr (Or.inr rfl)) (hd : (x == ("__debug__" : Str)) = false := by decide)
    (hcd : (x == ("__classdict__" : Str)) = false := by decide) : DB X (.Name x pos) (fun ρ => bAt ρ i) := ⟨pe_var hN hv hd hcd, bt_var i⟩
theorem dt_c {v : V} {d : D} (h : ∀ F, Dq F v d) : DEt W (tC v) (fun _ => some d) := ⟨fun r e Q q => by
  rw [← Option.some.inj e] at q
  exact q v _ _ (Grow.refl r.fh) (h _)⟩
theorem de_int {i : Int} {j : Nat} {pos : Pos} : DE X (.Constant (.int i) j pos) (fun _ => some (.int i)) := ⟨pe_int, dt_c fun _ => .int i⟩
theorem de_bl {b : Bool} {j : Nat} {pos : Pos} : DE X (.Constant (.bool b) j pos) (fun _ => some (.bool b)) := ⟨pe_bl, dt_c fun _ => .bl b⟩
theorem de_non {j : Nat} {pos : Pos} : DE X (.Constant .none j pos) (fun _ => some .none) := ⟨pe_non, dt_c fun _ => .non⟩
theorem de_str {x : Str} {j : Nat} {pos : Pos} : DE X (.Constant (.str x) j pos) (fun _ => some (.str x)) := ⟨pe_str, dt_c fun _ => .str x⟩
end

/-! ### operations by values -/
/-- r, by data, is h -/
def OpS (r : R2) (h : D → D → Option D) : Prop := ∀ {F H : Hp} {x y : V} {d e z : D}, Same F H → Bor F H x d → Bor F H y e → h d e = some z → ∀ Q : VK, (∀ v F' H', Grow N0 F H F' H' → Dq F' v z → Q v H') → r x y H Q
/-- .. a call of a built-in -/
def CaS (r : List V → Hp → VK → Prop) (h : List D → Option D) : Prop := ∀ {F H : Hp} {xs : List V} {ds : List D} {z : D}, Same F H → DqAll F xs ds → h ds = some z → ∀ Q : VK, (∀ v F' H', Grow N0 F H F' H' → Dq F' v z → Q v H') → r xs H Q
/-- .. of one argument that may be borrowed -/
def Ca1 (r : List V → Hp → VK → Prop) (h : D → Option D) : Prop := ∀ {F H : Hp} {x : V} {d z : D}, Same F H → Bor F H x d → h d = some z → ∀ Q : VK, (∀ v F' H', Grow N0 F H F' H' → Dq F' v z → Q v H') → r [x] H Q
/-- .. that gives a new list -/
def CaL (r : List V → Hp → VK → Prop) (h : D → Option (List D)) : Prop := ∀ {F H : Hp} {x : V} {d : D} {zs : List D}, Same F H → Bor F H x d → h d = some zs → ∀ Q : VK,
  (∀ p vs F' H', Grow N0 F H F' H' → H p = none → F' p = none → H' p = some (HO.lst vs) → DqAll F' vs zs → Q (.ref p) H') → r [x] H Q
/-- a scalar answer at the same heap -/
theorem scalarQ {F H : Hp} {v : V} {d : D} {Q : VK} (e : Same F H) (q : ∀ v F' H', Grow N0 F H F' H' → Dq F' v d → Q v H') (h : Dq F v d) : Q v H := q v F H (Grow.refl e) h
def rOr (r s : R2) : R2 := fun x y H Q => r x y H Q ∨ s x y H Q
theorem opr_or {X : Cx} {f : Value → Value → Sem Value} {r s : R2} (h : OpR X f r) (k : OpR X f s) : OpR X f (rOr r s) := fun pins st σ H x y v u Q I rx ry q => by
  rcases q with q | q
  · exact h pins st σ H x y v u Q I rx ry q
  · exact k pins st σ H x y v u Q I rx ry q
def cOr (r s : List V → Hp → VK → Prop) : List V → Hp → VK → Prop := fun xs H Q => r xs H Q ∨ s xs H Q
theorem car_or {X : Cx} {f : Value} {r s : List V → Hp → VK → Prop} (h : CallR X f r) (k : CallR X f s) : CallR X f (cOr r s) := fun pins st σ H xs us Q I rx q => by
  rcases q with q | q
  · exact h pins st σ H xs us Q I rx q
  · exact k pins st σ H xs us Q I rx q

def sBig : Nat := 100000
theorem sz_ok {n : Nat} (h : n ≤ sBig) : n ≤ sizeLine := Nat.le_trans h (by decide)
theorem sz_lt {n : Nat} (h : n < sBig) : n < sizeLine := Nat.lt_of_lt_of_le h (by decide)
def dAdd : D → D → Option D
  | .int i, .int j => some (.int (i + j))
  | .tuple a, .tuple b => if a.length + b.length ≤ sBig then some (.tuple (a ++ b)) else none
  | _, _ => none
def dSub : D → D → Option D
  | .int i, .int j => some (.int (i - j))
  | _, _ => none
def fitsM (i : Int) : Bool := decide (-(2 ^ 64) < i) && decide (i < 2 ^ 64)
def dMul : D → D → Option D
  | .int i, .int j => if fitsM i || fitsM j then some (.int (i * j)) else none
  | _, _ => none
def dMod : D → D → Option D
  | .int i, .int j => if 0 < j then some (.int (i % j)) else none
  | _, _ => none
def dDiv : D → D → Option D
  | .int i, .int j => if 0 < j ∧ j < 1073741824 then some (.int (i / j)) else none
  | _, _ => none
def dPow : D → D → Option D
  | .int i, .int j => if 0 ≤ j ∧ j ≤ 1000000 ∧ i.natAbs < 2 ^ 64 then some (.int (i ^ j.toNat)) else none
  | _, _ => none
def dCmp (p : Int → Int → Bool) : D → D → Option D
  | .int i, .int j => some (.bool (p i j))
  | _, _ => none
def dLt := dCmp fun i j => decide (i < j)
def dLe := dCmp fun i j => decide (i ≤ j)
def dGt := dCmp fun i j => decide (j < i)
def dGe := dCmp fun i j => decide (j ≤ i)
def dEq (d e : D) : Option D := if SeqAt.shaped d && SeqAt.shaped e then some (.bool (PyData.eqv d e)) else none
def dNe (d e : D) : Option D := if SeqAt.shaped d && SeqAt.shaped e then some (.bool (!PyData.eqv d e)) else none
def isNoneD : D → Bool
  | .none => true
  | _ => false
def dIsN (d e : D) : Option D := if isNoneD e then some (.bool (isNoneD d)) else none
def dNotN (d e : D) : Option D := if isNoneD e then some (.bool (!isNoneD d)) else none
def intsOf : List D → Option (List Int)
  | [] => some []
  | .int i :: ds => (intsOf ds).map (i :: ·)
  | _ :: _ => none
def boolsOf : List D → Option (List Bool)
  | [] => some []
  | .bool i :: ds => (boolsOf ds).map (i :: ·)
  | _ :: _ => none
theorem intsOf_some : ∀ {ds : List D} {ns : List Int}, intsOf ds = some ns → ds = ns.map PyData.int
  | [], ns, h => by
    cases h
    rfl
  | .int i :: ds, ns, h => by
    obtain ⟨l, e1, e2⟩ := map_some h
    subst e2
    rw [intsOf_some e1]
    rfl
  | .none :: _, _, h => by cases h
  | .bool _ :: _, _, h => by cases h
  | .str _ :: _, _, h => by cases h
  | .list _ :: _, _, h => by cases h
  | .tuple _ :: _, _, h => by cases h
  | .dict _ :: _, _, h => by cases h
theorem boolsOf_some : ∀ {ds : List D} {ns : List Bool}, boolsOf ds = some ns → ds = ns.map PyData.bool
  | [], ns, h => by
    cases h
    rfl
  | .bool i :: ds, ns, h => by
    obtain ⟨l, e1, e2⟩ := map_some h
    subst e2
    rw [boolsOf_some e1]
    rfl
  | .none :: _, _, h => by cases h
  | .int _ :: _, _, h => by cases h
  | .str _ :: _, _, h => by cases h
  | .list _ :: _, _, h => by cases h
  | .tuple _ :: _, _, h => by cases h
  | .dict _ :: _, _, h => by cases h
theorem intsOf_map : ∀ ns : List Int, intsOf (ns.map PyData.int) = some ns
  | [] => rfl
  | n :: ns => by
    show (intsOf (ns.map PyData.int)).map (n :: ·) = _
    rw [intsOf_map ns]
    rfl
theorem boolsOf_map : ∀ ns : List Bool, boolsOf (ns.map PyData.bool) = some ns
  | [] => rfl
  | n :: ns => by
    show (boolsOf (ns.map PyData.bool)).map (n :: ·) = _
    rw [boolsOf_map ns]
    rfl
/-- in: a list of any data, or a whole number in a tuple of such -/
def dInB : D → D → Option Bool
  | d, .list ds => if SeqAt.shaped d && SeqAt.shaped (.list ds) then some (ds.any fun z => PyData.eqv z d) else none
  | .int i, .tuple ds => (intsOf ds).map fun ns => decide (i ∈ ns)
  | _, _ => none
def dIn (d e : D) : Option D := (dInB d e).map .bool
def dNotIn (d e : D) : Option D := (dInB d e).map fun b => .bool (!b)

theorem ops_add {K : PySem.W.Frag} : OpS (rOr (rI0 fun i j => .int (i + j)) (rCatA K)) dAdd := by
  intro F H x y d e z sm bx bY hz Q q
  unfold dAdd at hz
  split at hz
  · cases hz
    cases bx.int
    cases bY.int
    exact Or.inl ⟨_, _, rfl, rfl, scalarQ sm q (.int _)⟩
  · rename_i a b
    split at hz
    · rename_i hl
      cases hz
      obtain ⟨p, vs, rfl, f1, h1, a1⟩ := bx.tup sm
      obtain ⟨p2, ws, rfl, f2, h2, a2⟩ := bY.tup sm
      refine Or.inr ⟨p, p2, vs, ws, rfl, rfl, SqT.of h1, SqT.of h2, sz_ok (by rw [a1.len, a2.len]; exact hl), fun e1 => ?_, fun _ e2 => ?_, fun _ _ l hn => ?_⟩
      · subst e1
        have e0 : a = [] := List.eq_nil_of_length_eq_zero a1.len.symm
        subst e0
        exact q _ F H (Grow.refl sm) (Dq.tup f2 a2)
      · subst e2
        have e0 : b = [] := List.eq_nil_of_length_eq_zero a2.len.symm
        subst e0
        rw [List.append_nil] at q
        exact q _ F H (Grow.refl sm) (Dq.tup f1 a1)
      · exact q _ _ _ (Grow.newF sm hn) (Dq.tup upd_same ((a1.app a2).up (Grow.newF (S := N0) sm hn).ef))
    · cases hz
  · cases hz
theorem ops_sub : OpS (rI0 fun i j => .int (i - j)) dSub := by
  intro F H x y d e z sm bx bY hz Q q
  unfold dSub at hz
  split at hz
  · cases hz
    cases bx.int
    cases bY.int
    exact ⟨_, _, rfl, rfl, scalarQ sm q (.int _)⟩
  · cases hz
theorem fitsM_iff {i : Int} : fitsM i = true ↔ -(2 ^ 64) < i ∧ i < 2 ^ 64 := by
  unfold fitsM
  rw [Bool.and_eq_true, decide_eq_true_eq, decide_eq_true_eq]
theorem ops_mul : OpS (rI CMul fun i j => .int (i * j)) dMul := by
  intro F H x y d e z sm bx bY hz Q q
  unfold dMul at hz
  split at hz
  · rename_i i j
    split at hz
    · rename_i hc
      cases hz
      cases bx.int
      cases bY.int
      refine ⟨_, _, rfl, rfl, ?_, scalarQ sm q (.int _)⟩
      rw [Bool.or_eq_true, fitsM_iff, fitsM_iff] at hc
      exact hc
    · cases hz
  · cases hz
theorem ops_mod : OpS (rI (fun _ j => 0 < j) fun i j => .int (i % j)) dMod := by
  intro F H x y d e z sm bx bY hz Q q
  unfold dMod at hz
  split at hz
  · split at hz
    · rename_i hc
      cases hz
      cases bx.int
      cases bY.int
      exact ⟨_, _, rfl, rfl, hc, scalarQ sm q (.int _)⟩
    · cases hz
  · cases hz
theorem ops_div : OpS (rI CDiv fun i j => .int (i / j)) dDiv := by
  intro F H x y d e z sm bx bY hz Q q
  unfold dDiv at hz
  split at hz
  · split at hz
    · rename_i hc
      cases hz
      cases bx.int
      cases bY.int
      exact ⟨_, _, rfl, rfl, hc, scalarQ sm q (.int _)⟩
    · cases hz
  · cases hz
theorem ops_pow : OpS (rI CPow fun i j => .int (i ^ j.toNat)) dPow := by
  intro F H x y d e z sm bx bY hz Q q
  unfold dPow at hz
  split at hz
  · split at hz
    · rename_i hc
      cases hz
      cases bx.int
      cases bY.int
      exact ⟨_, _, rfl, rfl, hc, scalarQ sm q (.int _)⟩
    · cases hz
  · cases hz
theorem ops_cmp (p : Int → Int → Bool) : OpS (rI0 fun i j => .bl (p i j)) (dCmp p) := by
  intro F H x y d e z sm bx bY hz Q q
  unfold dCmp at hz
  split at hz
  · cases hz
    cases bx.int
    cases bY.int
    exact ⟨_, _, rfl, rfl, scalarQ sm q (.bl _)⟩
  · cases hz
theorem ops_eq {K : PySem.W.Frag} : OpS (rEqD K) dEq := by
  intro F H x y d e z sm bx bY hz Q q
  unfold dEq at hz
  split at hz
  · rename_i hc
    cases hz
    rw [Bool.and_eq_true] at hc
    exact ⟨d, e, (bx.h sm).dp, (bY.h sm).dp, hc.1, hc.2, scalarQ sm q (.bl _)⟩
  · cases hz
theorem ops_ne {K : PySem.W.Frag} : OpS (rNeD K) dNe := by
  intro F H x y d e z sm bx bY hz Q q
  unfold dNe at hz
  split at hz
  · rename_i hc
    cases hz
    rw [Bool.and_eq_true] at hc
    exact ⟨d, e, (bx.h sm).dp, (bY.h sm).dp, hc.1, hc.2, scalarQ sm q (.bl _)⟩
  · cases hz
theorem isNone_v {F H : Hp} {x : V} {d : D} (b : Bor F H x d) : decide (x = .non) = isNoneD d := by
  cases b with
  | fr h => cases h <;> rfl
  | bo h a => rfl
theorem ops_isN : OpS (fun x y H Q => y = .non ∧ Q (.bl (decide (x = .non))) H) dIsN := by
  intro F H x y d e z sm bx bY hz Q q
  unfold dIsN at hz
  split at hz
  · rename_i hc
    cases hz
    have hy := isNone_v bY
    rw [hc] at hy
    refine ⟨of_decide_eq_true hy, ?_⟩
    rw [isNone_v bx]
    exact scalarQ sm q (.bl _)
  · cases hz
theorem ops_notN : OpS (fun x y H Q => y = .non ∧ Q (.bl (!decide (x = .non))) H) dNotN := by
  intro F H x y d e z sm bx bY hz Q q
  unfold dNotN at hz
  split at hz
  · rename_i hc
    cases hz
    have hy := isNone_v bY
    rw [hc] at hy
    refine ⟨of_decide_eq_true hy, ?_⟩
    rw [isNone_v bx]
    exact scalarQ sm q (.bl _)
  · cases hz
theorem inV_int (i : Int) : ∀ ns : List Int, inV (.int i) (ns.map V.int) = decide (i ∈ ns)
  | [] => rfl
  | n :: ns => by
    show (eqV (.int n) (.int i) || inV (.int i) (ns.map V.int)) = _
    rw [inV_int i ns]
    show ((n == i) || _) = _
    rw [Bool.eq_iff_iff]
    simp only [Bool.or_eq_true, beq_iff_eq, decide_eq_true_eq, List.mem_cons]
    constructor
    · rintro (h | h)
      · exact Or.inl h.symm
      · exact Or.inr h
    · rintro (h | h)
      · exact Or.inl h.symm
      · exact Or.inr h
theorem flat_ints : ∀ ns : List Int, (ns.map V.int).all flatV = true
  | [] => rfl
  | n :: ns => flat_ints ns
theorem ops_inB {K : PySem.W.Frag} {F H : Hp} {x y : V} {d e : D} {b : Bool} {Q : VK} (neg : Bool) (sm : Same F H) (bx : Bor F H x d) (bY : Bor F H y e) (hz : dInB d e = some b) (q : Q (.bl (if neg then !b else b)) H) :
    rIn K neg x y H Q ∨ (∃ d ds, Dp K H x d ∧ Dp K H y (.list ds) ∧ SeqAt.shaped d = true ∧ SeqAt.shaped (.list ds) = true ∧ Q (.bl (if neg then !ds.any (fun z => PyData.eqv z d) else ds.any fun z => PyData.eqv z d)) H) := by
  unfold dInB at hz
  split at hz
  · rename_i ds
    split at hz
    · rename_i hc
      cases hz
      rw [Bool.and_eq_true] at hc
      exact Or.inr ⟨_, ds, (bx.h sm).dp, (bY.h sm).dp, hc.1, hc.2, q⟩
    · cases hz
  · rename_i i ds
    obtain ⟨ns, e1, e2⟩ := map_some hz
    subst e2
    have e3 := intsOf_some e1
    subst e3
    cases bx.int
    obtain ⟨p, vs, rfl, f1, h1, a1⟩ := bY.tup sm
    have ev := ints_dq a1
    subst ev
    refine Or.inl ⟨p, _, rfl, Or.inr (SqT.of h1), rfl, flat_ints ns, ?_⟩
    rw [inV_int]
    exact q
  · cases hz
theorem ops_in {K : PySem.W.Frag} : OpS (rOr (rIn K false) (rInD K)) dIn := by
  intro F H x y d e z sm bx bY hz Q q
  obtain ⟨b, e1, e2⟩ := map_some hz
  subst e2
  rcases ops_inB (K := K) (Q := Q) false sm bx bY e1 (scalarQ sm q (.bl _)) with h | ⟨d', ds, h1, h2, h3, h4, h5⟩
  · exact Or.inl h
  · exact Or.inr ⟨d', ds, h1, h2, h3, h4, h5⟩
theorem ops_notIn {K : PySem.W.Frag} : OpS (rOr (rIn K true) (rNotInD K)) dNotIn := by
  intro F H x y d e z sm bx bY hz Q q
  obtain ⟨b, e1, e2⟩ := map_some hz
  subst e2
  rcases ops_inB (K := K) (Q := Q) true sm bx bY e1 (scalarQ sm q (.bl _)) with h | ⟨d', ds, h1, h2, h3, h4, h5⟩
  · exact Or.inl h
  · exact Or.inr ⟨d', ds, h1, h2, h3, h4, h5⟩

/-! ### the rules for operators -/
def do2 (h : D → D → Option D) (f g : Rho → Option D) : Rho → Option D := fun ρ => (f ρ).bind fun d => (g ρ).bind fun e => h d e
section
variable {X : Cx} {W : Wd} {a b c : Expr} {ta tb tc : TE} {f g k : Rho → Option D} {pos : Pos}
theorem dt_op {r : R2} {h : D → D → Option D} (hs : OpS r h) (ha : DBt W ta f) (hb : DBt W tb g) : DEt W (tOp r ta tb) (do2 h f g) := ⟨fun rl e Q q => by
  obtain ⟨d, e1, e2⟩ := bind_some e
  obtain ⟨d2, e3, e4⟩ := bind_some e2
  refine ha.go rl e1 _ fun v F1 H1 g1 b1 => ?_
  refine hb.go (rl.grow g1) e3 _ fun u F2 H2 g2 b2 => ?_
  exact hs g2.fh (b1.up g2) b2 e4 Q fun z F3 H3 g3 b3 => q z F3 H3 ((g1.trans g2).trans g3) b3⟩
theorem de_op {op : Operator} {r : R2} {h : D → D → Option D} (ho : OpR X (binaryOp op) r) (hs : OpS r h) (ha : DB X a f) (hb : DB X b g) : DE X (.BinOp a op b pos) (do2 h f g) :=
  ⟨pe_op ho ha.pe hb.pe, dt_op hs ha.de hb.de⟩
theorem de_cmp {op : CmpOp} {r : R2} {h : D → D → Option D} (ho : OpR X (compareOp op) r) (hs : OpS r h) (ha : DB X a f) (hb : DB X b g) (hm : behindInMarks op b = false) : DE X (.Compare a [op] [b] pos) (do2 h f g) :=
  ⟨pe_cmpR ho ha.pe hb.pe hm, dt_op hs ha.de hb.de⟩
theorem de_add (ha : DB X a f) (hb : DB X b g) : DE X (.BinOp a .Add b pos) (do2 dAdd f g) := de_op (opr_or op_add op_catA) ops_add ha hb
theorem de_sub (ha : DB X a f) (hb : DB X b g) : DE X (.BinOp a .Sub b pos) (do2 dSub f g) := de_op op_sub ops_sub ha hb
theorem de_mul (ha : DB X a f) (hb : DB X b g) : DE X (.BinOp a .Mult b pos) (do2 dMul f g) := de_op op_mul ops_mul ha hb
theorem de_mod (ha : DB X a f) (hb : DB X b g) : DE X (.BinOp a .Mod b pos) (do2 dMod f g) := de_op op_mod ops_mod ha hb
theorem de_div (ha : DB X a f) (hb : DB X b g) : DE X (.BinOp a .FloorDiv b pos) (do2 dDiv f g) := de_op op_fdiv ops_div ha hb
theorem de_pow (ha : DB X a f) (hb : DB X b g) : DE X (.BinOp a .Pow b pos) (do2 dPow f g) := de_op op_pow ops_pow ha hb
theorem de_lt (ha : DB X a f) (hb : DB X b g) : DE X (.Compare a [.Lt] [b] pos) (do2 dLt f g) := de_cmp op_lt (ops_cmp _) ha hb (nomark _)
theorem de_le (ha : DB X a f) (hb : DB X b g) : DE X (.Compare a [.LtE] [b] pos) (do2 dLe f g) := de_cmp op_le (ops_cmp _) ha hb (nomark _)
theorem de_gt (ha : DB X a f) (hb : DB X b g) : DE X (.Compare a [.Gt] [b] pos) (do2 dGt f g) := de_cmp op_gt (ops_cmp _) ha hb (nomark _)
theorem de_ge (ha : DB X a f) (hb : DB X b g) : DE X (.Compare a [.GtE] [b] pos) (do2 dGe f g) := de_cmp op_ge (ops_cmp _) ha hb (nomark _)
theorem de_eq (hu : X.A.units + 64 < cLine) (ha : DB X a f) (hb : DB X b g) : DE X (.Compare a [.Eq] [b] pos) (do2 dEq f g) := de_cmp (op_eqD hu) ops_eq ha hb (nomark _)
theorem de_ne (hu : X.A.units + 64 < cLine) (ha : DB X a f) (hb : DB X b g) : DE X (.Compare a [.NotEq] [b] pos) (do2 dNe f g) := de_cmp (op_neD hu) ops_ne ha hb (nomark _)
theorem de_is (ha : DB X a f) (hb : DB X b g) : DE X (.Compare a [.Is] [b] pos) (do2 dIsN f g) := de_cmp op_isN ops_isN ha hb (nomark _)
theorem de_isnot (ha : DB X a f) (hb : DB X b g) : DE X (.Compare a [.IsNot] [b] pos) (do2 dNotN f g) := de_cmp op_notN ops_notN ha hb (nomark _)
theorem de_in (hu : X.A.units + 65 < cLine) (ha : DB X a f) (hb : DB X b g) (hm : behindInMarks .In b = false := by rfl) : DE X (.Compare a [.In] [b] pos) (do2 dIn f g) := de_cmp (opr_or op_in_seq (op_inD hu)) ops_in ha hb hm
theorem de_notin (hu : X.A.units + 65 < cLine) (ha : DB X a f) (hb : DB X b g) (hm : behindInMarks .NotIn b = false := by rfl) : DE X (.Compare a [.NotIn] [b] pos) (do2 dNotIn f g) :=
  de_cmp (opr_or op_notIn_seq (op_notInD hu)) ops_notIn ha hb hm
/-- a < b < c -/
def do3 (h h' : D → D → Option D) (f g k : Rho → Option D) : Rho → Option D := fun ρ => (f ρ).bind fun d => (g ρ).bind fun e => (h d e).bind fun
  | .bool true => (k ρ).bind fun z => h' e z
  | .bool false => some (.bool false)
  | _ => none
theorem dt_chain {r r' : R2} {h h' : D → D → Option D} (hs : OpS r h) (hs' : OpS r' h') (ha : DBt W ta f) (hb : DBt W tb g) (hc : DBt W tc k) : DEt W (tChain r r' ta tb tc) (do3 h h' f g k) := ⟨fun rl e Q q => by
  obtain ⟨d, e1, e2⟩ := bind_some e
  obtain ⟨d2, e3, e4⟩ := bind_some e2
  obtain ⟨z, e5, e6⟩ := bind_some e4
  refine ha.go rl e1 _ fun v F1 H1 g1 b1 => ?_
  refine hb.go (rl.grow g1) e3 _ fun u F2 H2 g2 b2 => ?_
  refine hs g2.fh (b1.up g2) b2 e5 _ fun y F3 H3 g3 b3 => ?_
  split at e6
  · cases b3
    refine ⟨true, rfl, ?_⟩
    obtain ⟨d3, e7, e8⟩ := bind_some e6
    have g123 := (g1.trans g2).trans g3
    refine hc.go (rl.grow g123) e7 _ fun w F4 H4 g4 b4 => ?_
    exact hs' g4.fh ((b2.up g3).up g4) b4 e8 Q fun z F5 H5 g5 b5 => q z F5 H5 ((g123.trans g4).trans g5) b5
  · cases b3
    refine ⟨false, rfl, ?_⟩
    cases e6
    exact q _ F3 H3 ((g1.trans g2).trans g3) (.bl false)
  · cases e6⟩
theorem de_leLt (ha : DB X a f) (hb : DB X b g) (hc : DB X c k) (hm : lastMarks [.LtE, .Lt] [b, c] = false := by with_unfolding_all rfl) : DE X (.Compare a [.LtE, .Lt] [b, c] pos) (do3 dLe dLt f g k) :=
  ⟨pe_chain op_le op_lt ha.pe hb.pe hc.pe hm, dt_chain (ops_cmp _) (ops_cmp _) ha.de hb.de hc.de⟩
end
end GY
set_option Elab.async false
set_option linter.all false
set_option maxRecDepth 100000
set_option maxHeartbeats 4000000
/-! Gy2: tests, and, or, not, displays, subscripts, slices, built-ins, calls told by data. -/
namespace GY
open PySem PySem.Spec PyProof.Rows L2

/-! ### tests -/
def asB : D → Option Bool
  | .bool b => some b
  | _ => none
theorem asB_some {d : D} {b : Bool} (h : asB d = some b) : d = .bool b := by
  cases d <;> cases h
  rfl
section
variable {X : Cx} {W : Wd} {a b c : Expr} {ta tb tc : TE} {tA tB' : TT} {f g k : Rho → Option D} {p q : Rho → Option Bool} {rest : List Expr} {pos : Pos}
theorem tt_B (h : DEt W ta f) : DTt W (tB ta) (fun ρ => (f ρ).bind asB) := ⟨fun r e Q q => by
  obtain ⟨d, e1, e2⟩ := bind_some e
  have e3 := asB_some e2
  subst e3
  refine h.go r e1 _ fun v F' H' g dv => ?_
  cases dv
  exact ⟨_, rfl, q F' H' g⟩⟩
theorem tt_T (h : DEt W ta f) : DTt W (tTest ta) (fun ρ => (f ρ).bind asB) := ⟨fun r e Q q => by
  obtain ⟨d, e1, e2⟩ := bind_some e
  have e3 := asB_some e2
  subst e3
  refine h.go r e1 _ fun v F' H' g dv => ?_
  cases dv
  exact ⟨_, rfl, q F' H' g⟩⟩
/-- a value that is a bool, as a test -/
theorem dT_val {e : Expr} (h : DE X e f) (he : ∀ whole, isTrue e X.env whole = (do let v ← whole; standAt e.pos; holding [v] (truthy v)) := by intro _; rfl) : DT X e (fun ρ => (f ρ).bind asB) := ⟨pt_val h.pe he, tt_B h.de⟩
theorem dT_cmp {op : CmpOp} {r : R2} {h : D → D → Option D} (ho : OpR X (compareOp op) r) (hs : OpS r h) (ha : DB X a f) (hb : DB X b g) (hm : behindInMarks op b = false) : DT X (.Compare a [op] [b] pos) (fun ρ => (do2 h f g ρ).bind asB) :=
  ⟨pt_cmpR ho ha.pe hb.pe hm, tt_T (dt_op hs ha.de hb.de)⟩
theorem dT_lt (ha : DB X a f) (hb : DB X b g) : DT X (.Compare a [.Lt] [b] pos) (fun ρ => (do2 dLt f g ρ).bind asB) := dT_cmp op_lt (ops_cmp _) ha hb (nomark _)
theorem dT_le (ha : DB X a f) (hb : DB X b g) : DT X (.Compare a [.LtE] [b] pos) (fun ρ => (do2 dLe f g ρ).bind asB) := dT_cmp op_le (ops_cmp _) ha hb (nomark _)
theorem dT_gt (ha : DB X a f) (hb : DB X b g) : DT X (.Compare a [.Gt] [b] pos) (fun ρ => (do2 dGt f g ρ).bind asB) := dT_cmp op_gt (ops_cmp _) ha hb (nomark _)
theorem dT_ge (ha : DB X a f) (hb : DB X b g) : DT X (.Compare a [.GtE] [b] pos) (fun ρ => (do2 dGe f g ρ).bind asB) := dT_cmp op_ge (ops_cmp _) ha hb (nomark _)
theorem dT_eq (hu : X.A.units + 64 < cLine) (ha : DB X a f) (hb : DB X b g) : DT X (.Compare a [.Eq] [b] pos) (fun ρ => (do2 dEq f g ρ).bind asB) := dT_cmp (op_eqD hu) ops_eq ha hb (nomark _)
theorem dT_ne (hu : X.A.units + 64 < cLine) (ha : DB X a f) (hb : DB X b g) : DT X (.Compare a [.NotEq] [b] pos) (fun ρ => (do2 dNe f g ρ).bind asB) := dT_cmp (op_neD hu) ops_ne ha hb (nomark _)
theorem dT_is (ha : DB X a f) (hb : DB X b g) : DT X (.Compare a [.Is] [b] pos) (fun ρ => (do2 dIsN f g ρ).bind asB) := dT_cmp op_isN ops_isN ha hb (nomark _)
theorem dT_isnot (ha : DB X a f) (hb : DB X b g) : DT X (.Compare a [.IsNot] [b] pos) (fun ρ => (do2 dNotN f g ρ).bind asB) := dT_cmp op_notN ops_notN ha hb (nomark _)
theorem dT_in (hu : X.A.units + 65 < cLine) (ha : DB X a f) (hb : DB X b g) (hm : behindInMarks .In b = false := by rfl) : DT X (.Compare a [.In] [b] pos) (fun ρ => (do2 dIn f g ρ).bind asB) :=
  dT_cmp (opr_or op_in_seq (op_inD hu)) ops_in ha hb hm
theorem dT_notin (hu : X.A.units + 65 < cLine) (ha : DB X a f) (hb : DB X b g) (hm : behindInMarks .NotIn b = false := by rfl) : DT X (.Compare a [.NotIn] [b] pos) (fun ρ => (do2 dNotIn f g ρ).bind asB) :=
  dT_cmp (opr_or op_notIn_seq (op_notInD hu)) ops_notIn ha hb hm
def bAnd (p q : Rho → Option Bool) : Rho → Option Bool := fun ρ => (p ρ).bind fun x => if x then q ρ else some false
def bOr (p q : Rho → Option Bool) : Rho → Option Bool := fun ρ => (p ρ).bind fun x => if x then some true else q ρ
def bNot (p : Rho → Option Bool) : Rho → Option Bool := fun ρ => (p ρ).map (!·)
theorem tt_and (ha : DTt W tA p) (hb : DTt W tB' q) : DTt W (tAnd tA tB') (bAnd p q) := ⟨fun r e Q k => by
  obtain ⟨x, e1, e2⟩ := bind_some e
  refine ha.go r e1 _ fun F1 H1 g1 => ?_
  cases x with
  | true =>
    rw [if_pos rfl] at e2 ⊢
    exact hb.go (r.grow g1) e2 _ fun F2 H2 g2 => k F2 H2 (g1.trans g2)
  | false =>
    rw [if_neg Bool.false_ne_true] at e2 ⊢
    cases e2
    exact k F1 H1 g1⟩
theorem tt_or (ha : DTt W tA p) (hb : DTt W tB' q) : DTt W (tOr tA tB') (bOr p q) := ⟨fun r e Q k => by
  obtain ⟨x, e1, e2⟩ := bind_some e
  refine ha.go r e1 _ fun F1 H1 g1 => ?_
  cases x with
  | true =>
    rw [if_pos rfl] at e2 ⊢
    cases e2
    exact k F1 H1 g1
  | false =>
    rw [if_neg Bool.false_ne_true] at e2 ⊢
    exact hb.go (r.grow g1) e2 _ fun F2 H2 g2 => k F2 H2 (g1.trans g2)⟩
theorem dW_and1 (ha : DT X a p) : DW X (.BoolOp .And [a] pos) p := ⟨pw_and1 ha.pe, ha.de⟩
theorem dW_or1 (ha : DT X a p) : DW X (.BoolOp .Or [a] pos) p := ⟨pw_or1 ha.pe, ha.de⟩
theorem dW_and (ha : DT X a p) (hb : DW X (.BoolOp .And (b :: rest) pos) q) : DW X (.BoolOp .And (a :: b :: rest) pos) (bAnd p q) := ⟨pw_and ha.pe hb.pe, tt_and ha.de hb.de⟩
theorem dW_or (ha : DT X a p) (hb : DW X (.BoolOp .Or (b :: rest) pos) q) : DW X (.BoolOp .Or (a :: b :: rest) pos) (bOr p q) := ⟨pw_or ha.pe hb.pe, tt_or ha.de hb.de⟩
theorem DW.dt {e : Expr} (h : DW X e p) : DT X e p := ⟨h.pe.pt, h.de⟩
theorem dT_not (ha : DT X a p) : DT X (.UnaryOp .Not a pos) (bNot p) := ⟨pt_not ha.pe, ⟨fun r e Q k => by
  obtain ⟨x, e1, e2⟩ := map_some e
  subst e2
  exact ha.de.go r e1 _ fun F1 H1 g1 => k F1 H1 g1⟩⟩
/-- as values -/
def dAndV (f g : Rho → Option D) : Rho → Option D := fun ρ => ((f ρ).bind asB).bind fun x => if x then g ρ else some (.bool false)
def dOrV (f g : Rho → Option D) : Rho → Option D := fun ρ => ((f ρ).bind asB).bind fun x => if x then some (.bool true) else g ρ
def dNotV (f : Rho → Option D) : Rho → Option D := fun ρ => ((f ρ).bind asB).map fun x => .bool (!x)
theorem de_one {op : PySem.BoolOp} (h : DE X a f) : DE X (.BoolOp op [a] pos) f := ⟨pe_one h.pe, h.de⟩
theorem de_and (ha : DE X a f) (hb : DE X (.BoolOp .And (b :: rest) pos) g) : DE X (.BoolOp .And (a :: b :: rest) pos) (dAndV f g) := ⟨pe_and ha.pe hb.pe, ⟨fun r e Q k => by
  obtain ⟨x, e1, e2⟩ := bind_some e
  obtain ⟨d, e3, e4⟩ := bind_some e1
  have e5 := asB_some e4
  subst e5
  refine ha.de.go r e3 _ fun v F1 H1 g1 dv => ?_
  cases dv
  refine ⟨x, rfl, ?_⟩
  cases x with
  | true =>
    rw [if_pos rfl] at e2 ⊢
    exact hb.de.go (r.grow g1) e2 _ fun v F2 H2 g2 => k v F2 H2 (g1.trans g2)
  | false =>
    rw [if_neg Bool.false_ne_true] at e2 ⊢
    cases e2
    exact k _ F1 H1 g1 (.bl false)⟩⟩
theorem de_or (ha : DE X a f) (hb : DE X (.BoolOp .Or (b :: rest) pos) g) : DE X (.BoolOp .Or (a :: b :: rest) pos) (dOrV f g) := ⟨pe_or ha.pe hb.pe, ⟨fun r e Q k => by
  obtain ⟨x, e1, e2⟩ := bind_some e
  obtain ⟨d, e3, e4⟩ := bind_some e1
  have e5 := asB_some e4
  subst e5
  refine ha.de.go r e3 _ fun v F1 H1 g1 dv => ?_
  cases dv
  refine ⟨x, rfl, ?_⟩
  cases x with
  | true =>
    rw [if_pos rfl] at e2 ⊢
    cases e2
    exact k _ F1 H1 g1 (.bl true)
  | false =>
    rw [if_neg Bool.false_ne_true] at e2 ⊢
    exact hb.de.go (r.grow g1) e2 _ fun v F2 H2 g2 => k v F2 H2 (g1.trans g2)⟩⟩
theorem de_not (ha : DE X a f) : DE X (.UnaryOp .Not a pos) (dNotV f) := ⟨pe_not ha.pe, ⟨fun r e Q k => by
  obtain ⟨x, e1, e2⟩ := map_some e
  obtain ⟨d, e3, e4⟩ := bind_some e1
  have e5 := asB_some e4
  subst e5
  subst e2
  refine ha.de.go r e3 _ fun v F1 H1 g1 dv => ?_
  cases dv
  exact ⟨x, rfl, k _ F1 H1 g1 (.bl _)⟩⟩⟩
def dIf (p : Rho → Option Bool) (f g : Rho → Option D) : Rho → Option D := fun ρ => (p ρ).bind fun x => if x then f ρ else g ρ
theorem de_if (hc : DT X c p) (ha : DE X a f) (hb : DE X b g) : DE X (.IfExp c a b pos) (dIf p f g) := ⟨pe_ifExp hc.pe ha.pe hb.pe, ⟨fun r e Q k => by
  obtain ⟨x, e1, e2⟩ := bind_some e
  refine hc.de.go r e1 _ fun F1 H1 g1 => ?_
  cases x with
  | true =>
    rw [if_pos rfl] at e2 ⊢
    exact ha.de.go (r.grow g1) e2 _ fun v F2 H2 g2 => k v F2 H2 (g1.trans g2)
  | false =>
    rw [if_neg Bool.false_ne_true] at e2 ⊢
    exact hb.de.go (r.grow g1) e2 _ fun v F2 H2 g2 => k v F2 H2 (g1.trans g2)⟩⟩
end

/-! ### written items, displays -/
def aNil : Rho → Option (List D) := fun _ => some []
def aCons (f : Rho → Option D) (g : Rho → Option (List D)) : Rho → Option (List D) := fun ρ => (f ρ).bind fun d => (g ρ).bind fun ds => some (d :: ds)
section
variable {X : Cx} {W : Wd} {a : Expr} {es : List Expr} {ta : TE} {tr : TA} {f : Rho → Option D} {g : Rho → Option (List D)} {pos : Pos}
theorem at_nil : DAt W tNil aNil := ⟨fun r e Q q => by
  cases e
  exact q [] _ _ (Grow.refl r.fh) .nil⟩
theorem at_cons (h : DEt W ta f) (k : DAt W tr g) : DAt W (tCons ta tr) (aCons f g) := ⟨fun r e Q q => by
  obtain ⟨d, e1, e2⟩ := bind_some e
  obtain ⟨ds, e3, e4⟩ := bind_some e2
  cases e4
  exact h.go r e1 _ fun v F1 H1 g1 dv => k.go (r.grow g1) e3 _ fun vs F2 H2 g2 a2 => q _ F2 H2 (g1.trans g2) (.cons (dv.up g2.ef) a2)⟩
theorem da_nil : DA X [] aNil := ⟨pa_nil, at_nil⟩
theorem da_cons (h : DE X a f) (k : DA X es g) (hs : starEach (a :: es) X.env = (false, eval a X.env) :: starEach es X.env := by rfl) : DA X (a :: es) (aCons f g) := ⟨pa_cons h.pe k.pe hs, at_cons h.de k.de⟩
def shortL (g : Rho → Option (List D)) : Rho → Option (List D) := fun ρ => (g ρ).bind fun ds => if ds.length ≤ sBig then some ds else none
theorem de_tup {n : Nat} (h : DA X es g) : DE X (.Tuple es n pos) (fun ρ => (shortL g ρ).map .tuple) := ⟨pe_tup h.pe, ⟨fun r e Q q => by
  obtain ⟨ds, e1, e2⟩ := map_some e
  subst e2
  obtain ⟨ds', e3, e4⟩ := bind_some e1
  split at e4
  · rename_i hl
    cases e4
    refine h.de.go r e3 _ fun vs F1 H1 g1 a1 => ⟨sz_ok (by rw [a1.len]; exact hl), fun p hp => ?_⟩
    exact q _ _ _ (g1.trans (Grow.newF g1.fh hp)) (.tup upd_same (a1.up (Grow.newF (S := N0) g1.fh hp).ef))
  · cases e4⟩⟩
theorem dl_lst (h : DA X es g) : DL X (.List es pos) (shortL g) := ⟨pe_lst h.pe, ⟨fun r e Q q => by
  obtain ⟨ds', e3, e4⟩ := bind_some e
  split at e4
  · rename_i hl
    cases e4
    refine h.de.go r e3 _ fun vs F1 H1 g1 a1 => ⟨sz_ok (by rw [a1.len]; exact hl), fun p hp => ?_⟩
    exact q p vs F1 _ (g1.trans (Grow.newO g1.fh hp)) (g1.back hp) (none_of_same g1.fh hp) upd_same a1
  · cases e4⟩⟩
end

/-! ### subscripts -/
def dIx : D → D → Option D
  | .list ds, .int i => atI ds i
  | .tuple ds, .int i => atI ds i
  | _, _ => none
theorem atI_dq {F : Hp} {vs : List V} {ds : List D} {i : Int} {d : D} (a : DqAll F vs ds) (h : atI ds i = some d) : ∃ v, atI vs i = some v ∧ Dq F v d := by
  unfold atI at h ⊢
  rw [a.len]
  cases e : ixN ds.length i with
  | none =>
    rw [e] at h
    cases h
  | some j =>
    rw [e] at h
    exact a.get h
theorem ops_ix {K : PySem.W.Frag} : OpS (rOr (rIxL K) (rIxT K)) dIx := by
  intro F H x y d e z sm bx bY hz Q q
  unfold dIx at hz
  split at hz
  · cases bY.int
    obtain ⟨p, vs, rfl, h1, a1⟩ := bx.list sm
    obtain ⟨v, e1, e2⟩ := atI_dq a1 hz
    exact Or.inl ⟨p, vs, _, v, rfl, rfl, SqL.of h1, e1, scalarQ sm q e2⟩
  · cases bY.int
    obtain ⟨p, vs, rfl, f1, h1, a1⟩ := bx.tup sm
    obtain ⟨v, e1, e2⟩ := atI_dq a1 hz
    exact Or.inr ⟨p, vs, _, v, rfl, rfl, SqT.of h1, e1, scalarQ sm q e2⟩
  · cases hz
section
variable {X : Cx} {W : Wd} {a b : Expr} {ta tb : TE} {f g : Rho → Option D} {pos : Pos}
theorem de_ix (ha : DB X a f) (hb : DB X b g) (hs : PlainIx b := by exact fun _ _ => rfl) : DE X (.Subscript a b pos) (do2 dIx f g) :=
  ⟨pe_ix (IxR.or ix_list ix_tup) ha.pe hb.pe hs, dt_op ops_ix ha.de hb.de⟩
end
/-! ### slices of tuples -/
def cutD {α : Type} (xs : List α) (lo hi : Option Int) : List α := (xs.drop (HT.sIx xs.length 0 lo)).take (HT.sIx xs.length xs.length hi - HT.sIx xs.length 0 lo)
theorem cut_dq {F : Hp} {vs : List V} {ds : List D} (a : DqAll F vs ds) (lo hi : Option Int) : DqAll F (cutV vs lo hi) (cutD ds lo hi) := by
  unfold cutV cutD
  rw [a.len]
  exact (a.drop' _).take' _
theorem cut_whole {α : Type} {xs : List α} {lo hi : Option Int} (h : HT.sIx xs.length 0 lo = 0 ∧ HT.sIx xs.length xs.length hi = xs.length) : cutD xs lo hi = xs := by
  unfold cutD
  rw [h.1, h.2]
  simp
structure DO (X : Cx) (e : Option Expr) (t : TO) (o : Option Int) : Prop where
  pe : PO X e t
  de : ∀ (σ : L2.St) (H : Hp) (Q : Option Int → Hp → Prop), Q o H → t σ H Q
section
variable {X : Cx} {e : Expr} {te : TE} {lo hi : Option Expr} {tl th : TO} {f : Rho → Option D} {ol oh : Option Int} {pos p2 : Pos}
theorem do_none : DO X none tNoPart none := ⟨po_none, fun _ _ _ h => h⟩
theorem do_int {i : Int} {j : Nat} : DO X (some (.Constant (.int i) j pos)) (tPart (tC (.int i))) (some i) := ⟨po_some pe_int, fun _ _ _ h => ⟨i, rfl, h⟩⟩
def dSl (lo hi : Option Int) : D → Option D
  | .tuple ds => some (.tuple (cutD ds lo hi))
  | _ => none
theorem de_slT (he : DE X e f) (hl : DO X lo tl ol) (hu : DO X hi th oh) : DE X (.Subscript e (.Slice lo hi none p2) pos) (fun ρ => (f ρ).bind (dSl ol oh)) := ⟨pe_slice sl_tupA he.pe hl.pe hu.pe, ⟨fun r e Q q => by
  obtain ⟨d, e1, e2⟩ := bind_some e
  refine he.de.go r e1 _ fun v F1 H1 g1 dv => hl.de _ _ _ (hu.de _ _ _ ?_)
  unfold dSl at e2
  split at e2
  · rename_i ds
    cases e2
    cases dv with
    | tup hf a1 =>
      rename_i p vs
      refine ⟨p, vs, rfl, SqT.of (g1.fh _ _ hf), fun hw => ?_, fun _ l hn => ?_⟩
      · rw [a1.len] at hw
        rw [cut_whole hw] at q
        exact q _ F1 H1 g1 (.tup hf a1)
      · exact q _ _ _ (g1.trans (Grow.newF g1.fh hn)) (.tup upd_same ((cut_dq a1 _ _).up (Grow.newF (S := N0) g1.fh hn).ef))
  · cases e2⟩⟩
end

/-! ### calls of built-ins with one argument -/
section
variable {X : Cx} {W : Wd} {a b : Expr} {ta tb : TE} {f g : Rho → Option D} {p pos : Pos} {x : Str} {id T : String}
theorem ct1 {r : List V → Hp → VK → Prop} {h : D → Option D} (hs : Ca1 r h) (ha : DBt W ta f) : DEt W (tCB r (tCons ta tNil)) (fun ρ => (f ρ).bind h) := ⟨fun rl e Q q => by
  obtain ⟨d, e1, e2⟩ := bind_some e
  exact ha.go rl e1 _ fun v F1 H1 g1 b1 => hs g1.fh b1 e2 Q fun z F2 H2 g2 b2 => q z F2 H2 (g1.trans g2) b2⟩
theorem ctL {r : List V → Hp → VK → Prop} {h : D → Option (List D)} (hs : CaL r h) (ha : DBt W ta f) : DLt W (tCB r (tCons ta tNil)) (fun ρ => (f ρ).bind h) := ⟨fun rl e Q q => by
  obtain ⟨d, e1, e2⟩ := bind_some e
  exact ha.go rl e1 _ fun v F1 H1 g1 b1 => hs g1.fh b1 e2 Q fun l vs F2 H2 g2 n1 n2 h1 a1 => q l vs F2 H2 (g1.trans g2) (g1.back n1) n2 h1 a1⟩
theorem de_B1 {r : List V → Hp → VK → Prop} {h : D → Option D} (hr : CallR X (.builtin id) r) (hs : Ca1 r h) (hv : bootBuiltins x = some (.builtin id)) (hg : Gl X x) (hm : X.mg x = none) (ha : DB X a f) (hn : x ≠ "__name__" := by decide) (hdb : (x == ("__debug__" : Str)) = false := by decide)
    (he : starEach [a] X.env = (false, eval a X.env) :: starEach [] X.env := by rfl) : DE X (.Call (.Name x p) [a] [] pos) (fun ρ => (f ρ).bind h) :=
  ⟨pe_callB hr hg hm hv (pa_cons ha.pe pa_nil he) hn hdb he, ct1 hs ha.de⟩
theorem de_T1 {r : List V → Hp → VK → Prop} {h : D → Option D} (hr : CallR X (.type T) r) (hs : Ca1 r h) (hv : bootBuiltins x = some (.type T)) (hg : Gl X x) (hm : X.mg x = none) (ha : DB X a f) (hn : x ≠ "__name__" := by decide) (hdb : (x == ("__debug__" : Str)) = false := by decide)
    (he : starEach [a] X.env = (false, eval a X.env) :: starEach [] X.env := by rfl) : DE X (.Call (.Name x p) [a] [] pos) (fun ρ => (f ρ).bind h) :=
  ⟨pe_callTy hr hg hm hv (pa_cons ha.pe pa_nil he) hn hdb he, ct1 hs ha.de⟩
theorem dl_B1 {r : List V → Hp → VK → Prop} {h : D → Option (List D)} (hr : CallR X (.builtin id) r) (hs : CaL r h) (hv : bootBuiltins x = some (.builtin id)) (hg : Gl X x) (hm : X.mg x = none) (ha : DB X a f) (hn : x ≠ "__name__" := by decide) (hdb : (x == ("__debug__" : Str)) = false := by decide)
    (he : starEach [a] X.env = (false, eval a X.env) :: starEach [] X.env := by rfl) : DL X (.Call (.Name x p) [a] [] pos) (fun ρ => (f ρ).bind h) :=
  ⟨pe_callB hr hg hm hv (pa_cons ha.pe pa_nil he) hn hdb he, ctL hs ha.de⟩
theorem dl_T1 {r : List V → Hp → VK → Prop} {h : D → Option (List D)} (hr : CallR X (.type T) r) (hs : CaL r h) (hv : bootBuiltins x = some (.type T)) (hg : Gl X x) (hm : X.mg x = none) (ha : DB X a f) (hn : x ≠ "__name__" := by decide) (hdb : (x == ("__debug__" : Str)) = false := by decide)
    (he : starEach [a] X.env = (false, eval a X.env) :: starEach [] X.env := by rfl) : DL X (.Call (.Name x p) [a] [] pos) (fun ρ => (f ρ).bind h) :=
  ⟨pe_callTy hr hg hm hv (pa_cons ha.pe pa_nil he) hn hdb he, ctL hs ha.de⟩
end
def dLen : D → Option D
  | .list ds => some (.int ds.length)
  | .tuple ds => some (.int ds.length)
  | _ => none
def rLenD (K : PySem.W.Frag) : List V → Hp → VK → Prop := fun xs H Q => ∃ p ys, xs = [.ref p] ∧ (SqL K H p ys ∨ SqT K H p ys) ∧ Q (.int ys.length) H
theorem ca_len {K : PySem.W.Frag} : Ca1 (rLenD K) dLen := by
  intro F H x d z sm bx hz Q q
  unfold dLen at hz
  split at hz
  · cases hz
    obtain ⟨p, vs, rfl, h1, a1⟩ := bx.list sm
    refine ⟨p, vs, rfl, Or.inl (SqL.of h1), ?_⟩
    rw [a1.len]
    exact scalarQ sm q (.int _)
  · cases hz
    obtain ⟨p, vs, rfl, f1, h1, a1⟩ := bx.tup sm
    refine ⟨p, vs, rfl, Or.inr (SqT.of h1), ?_⟩
    rw [a1.len]
    exact scalarQ sm q (.int _)
  · cases hz
def dTuple : D → Option D
  | .list ds => some (.tuple ds)
  | .tuple ds => some (.tuple ds)
  | _ => none
def rTupD (K : PySem.W.Frag) : List V → Hp → VK → Prop := fun xs H Q => ∃ p ys, xs = [.ref p] ∧ ((SqL K H p ys ∧ ∀ l, H l = none → Q (.ref l) (upd H l (.tup ys))) ∨ (SqT K H p ys ∧ Q (.ref p) H))
theorem ca_tuple {K : PySem.W.Frag} : Ca1 (rTupD K) dTuple := by
  intro F H x d z sm bx hz Q q
  unfold dTuple at hz
  split at hz
  · cases hz
    obtain ⟨p, vs, rfl, h1, a1⟩ := bx.list sm
    exact ⟨p, vs, rfl, Or.inl ⟨SqL.of h1, fun l hl => q _ _ _ (Grow.newF sm hl) (.tup upd_same (a1.up (Grow.newF (S := N0) sm hl).ef))⟩⟩
  · cases hz
    obtain ⟨p, vs, rfl, f1, h1, a1⟩ := bx.tup sm
    exact ⟨p, vs, rfl, Or.inr ⟨SqT.of h1, scalarQ sm q (.tup f1 a1)⟩⟩
  · cases hz
def dItems : D → Option (List D)
  | .list ds => some ds
  | .tuple ds => some ds
  | _ => none
def rListD' (K : PySem.W.Frag) : List V → Hp → VK → Prop := fun xs H Q => ∃ p ys, xs = [.ref p] ∧ (SqL K H p ys ∨ SqT K H p ys) ∧ ∀ l, H l = none → Q (.ref l) (upd H l (.lst ys))
theorem ca_list {K : PySem.W.Frag} : CaL (rListD' K) dItems := by
  intro F H x d z sm bx hz Q q
  unfold dItems at hz
  split at hz
  · cases hz
    obtain ⟨p, vs, rfl, h1, a1⟩ := bx.list sm
    exact ⟨p, vs, rfl, Or.inl (SqL.of h1), fun l hl => q l vs F _ (Grow.newO sm hl) hl (none_of_same sm hl) upd_same a1⟩
  · cases hz
    obtain ⟨p, vs, rfl, f1, h1, a1⟩ := bx.tup sm
    exact ⟨p, vs, rfl, Or.inr (SqT.of h1), fun l hl => q l vs F _ (Grow.newO sm hl) hl (none_of_same sm hl) upd_same a1⟩
  · cases hz
def dAll : D → Option D
  | .list ds => (boolsOf ds).map fun bs => .bool (bs.all id)
  | _ => none
def dAny : D → Option D
  | .list ds => (boolsOf ds).map fun bs => .bool (bs.any id)
  | _ => none
theorem ca_all {K : PySem.W.Frag} : Ca1 (rAll K) dAll := by
  intro F H x d z sm bx hz Q q
  unfold dAll at hz
  split at hz
  · obtain ⟨bs, e1, e2⟩ := map_some hz
    subst e2
    have e3 := boolsOf_some e1
    subst e3
    obtain ⟨p, vs, rfl, h1, a1⟩ := bx.list sm
    have e4 := bools_dq a1
    subst e4
    exact ⟨p, bs, rfl, SqL.of h1, scalarQ sm q (.bl _)⟩
  · cases hz
theorem ca_any {K : PySem.W.Frag} : Ca1 (rAny K) dAny := by
  intro F H x d z sm bx hz Q q
  unfold dAny at hz
  split at hz
  · obtain ⟨bs, e1, e2⟩ := map_some hz
    subst e2
    have e3 := boolsOf_some e1
    subst e3
    obtain ⟨p, vs, rfl, h1, a1⟩ := bx.list sm
    have e4 := bools_dq a1
    subst e4
    exact ⟨p, bs, rfl, SqL.of h1, scalarQ sm q (.bl _)⟩
  · cases hz
def maxI : List Int → Int
  | [] => 0
  | [n] => n
  | n :: m :: ns => max n (maxI (m :: ns))
theorem maxI_mem : ∀ {ns : List Int}, ns ≠ [] → maxI ns ∈ ns
  | [], h => absurd rfl h
  | [n], _ => by simp [maxI]
  | n :: m :: ns, _ => by
    have ih := maxI_mem (ns := m :: ns) (by simp)
    show max n (maxI (m :: ns)) ∈ _
    by_cases h : n ≤ maxI (m :: ns)
    · rw [Int.max_eq_right h]
      exact List.mem_cons_of_mem _ ih
    · rw [Int.max_eq_left (by omega)]
      exact List.mem_cons_self
theorem maxI_le : ∀ {ns : List Int} {y : Int}, y ∈ ns → y ≤ maxI ns
  | [n], y, h => by
    rw [List.mem_singleton.mp h]
    exact Int.le_refl _
  | n :: m :: ns, y, h => by
    show y ≤ max n (maxI (m :: ns))
    rcases List.mem_cons.mp h with rfl | h
    · exact Int.le_max_left _ _
    · exact Int.le_trans (maxI_le h) (Int.le_max_right _ _)
def dMax : D → Option D
  | .list ds => (intsOf ds).bind fun ns => if ns = [] then none else some (.int (maxI ns))
  | _ => none
theorem ca_max {K : PySem.W.Frag} : Ca1 (rMax K) dMax := by
  intro F H x d z sm bx hz Q q
  unfold dMax at hz
  split at hz
  · obtain ⟨ns, e1, e2⟩ := bind_some hz
    split at e2
    · cases e2
    · rename_i hne
      cases e2
      have e3 := intsOf_some e1
      subst e3
      obtain ⟨p, vs, rfl, h1, a1⟩ := bx.list sm
      have e4 := ints_dq a1
      subst e4
      refine ⟨p, ns, rfl, SqL.of h1, List.length_pos_iff.mpr hne, fun m hm hle => ?_⟩
      have e5 : m = maxI ns := Int.le_antisymm (maxI_le hm) (hle _ (maxI_mem hne))
      rw [e5]
      exact scalarQ sm q (.int _)
  · cases hz
def dAbs : D → Option D
  | .int i => some (.int (if i < 0 then -i else i))
  | _ => none
theorem ca_abs : Ca1 (fun xs H Q => ∃ i, xs = [.int i] ∧ Q (.int (if i < 0 then -i else i)) H) dAbs := by
  intro F H x d z sm bx hz Q q
  unfold dAbs at hz
  split at hz
  · cases hz
    cases bx.int
    exact ⟨_, rfl, scalarQ sm q (.int _)⟩
  · cases hz
def dInt : D → Option D
  | .int i => some (.int i)
  | .bool b => some (.int (if b then 1 else 0))
  | _ => none
theorem ca_int : Ca1 (fun xs H Q => (∃ i, xs = [.int i] ∧ Q (.int i) H) ∨ ∃ k, xs = [.bl k] ∧ Q (.int (if k then 1 else 0)) H) dInt := by
  intro F H x d z sm bx hz Q q
  unfold dInt at hz
  split at hz
  · cases hz
    cases bx.int
    exact Or.inl ⟨_, rfl, scalarQ sm q (.int _)⟩
  · cases hz
    cases bx.bool
    exact Or.inr ⟨_, rfl, scalarQ sm q (.int _)⟩
  · cases hz
/-- sorted of whole numbers -/
def insI (n : Int) : List Int → List Int
  | [] => [n]
  | m :: ms => if n ≤ m then n :: m :: ms else m :: insI n ms
def sortI : List Int → List Int
  | [] => []
  | n :: ns => insI n (sortI ns)
theorem insI_perm (n : Int) : ∀ ms : List Int, (insI n ms).Perm (n :: ms)
  | [] => List.Perm.refl _
  | m :: ms => by
    unfold insI
    split
    · exact List.Perm.refl _
    · exact ((insI_perm n ms).cons m).trans (List.Perm.swap n m ms)
theorem sortI_perm : ∀ ns : List Int, (sortI ns).Perm ns
  | [] => List.Perm.refl _
  | n :: ns => (insI_perm n _).trans ((sortI_perm ns).cons n)
theorem insI_sorted (n : Int) : ∀ {ms : List Int}, ms.Pairwise (· ≤ ·) → (insI n ms).Pairwise (· ≤ ·)
  | [], _ => List.pairwise_singleton _ _
  | m :: ms, h => by
    unfold insI
    obtain ⟨h1, h2⟩ := List.pairwise_cons.mp h
    split
    · rename_i hle
      refine List.pairwise_cons.mpr ⟨fun y hy => ?_, h⟩
      rcases List.mem_cons.mp hy with rfl | hy
      · exact hle
      · exact Int.le_trans hle (h1 y hy)
    · rename_i hle
      refine List.pairwise_cons.mpr ⟨fun y hy => ?_, insI_sorted n h2⟩
      rcases List.mem_cons.mp ((insI_perm n ms).mem_iff.mp hy) with rfl | hy
      · omega
      · exact h1 y hy
theorem sortI_sorted : ∀ ns : List Int, (sortI ns).Pairwise (· ≤ ·)
  | [] => List.Pairwise.nil
  | n :: ns => insI_sorted n (sortI_sorted ns)
theorem sorted_uniq : ∀ {a b : List Int}, a.Perm b → a.Pairwise (· ≤ ·) → b.Pairwise (· ≤ ·) → a = b
  | [], b, p, _, _ => (List.Perm.nil_eq p)
  | x :: xs, b, p, ha, hb => by
    cases b with
    | nil => exact absurd p.length_eq (by simp)
    | cons y ys =>
      obtain ⟨a1, a2⟩ := List.pairwise_cons.mp ha
      obtain ⟨b1, b2⟩ := List.pairwise_cons.mp hb
      have e : x = y := by
        have h1 : x ∈ y :: ys := p.mem_iff.mp List.mem_cons_self
        have h2 : y ∈ x :: xs := p.mem_iff.mpr List.mem_cons_self
        rcases List.mem_cons.mp h1 with h1 | h1
        · exact h1
        · rcases List.mem_cons.mp h2 with h2 | h2
          · exact h2.symm
          · exact Int.le_antisymm (a1 y h2) (b1 x h1)
      subst e
      rw [sorted_uniq (List.Perm.cons_inv p) a2 b2]
def dSortI : D → Option (List D)
  | .list ds => (intsOf ds).map fun ns => (sortI ns).map PyData.int
  | _ => none
theorem ca_sortI {K : PySem.W.Frag} : CaL (rSortedI K) dSortI := by
  intro F H x d z sm bx hz Q q
  unfold dSortI at hz
  split at hz
  · obtain ⟨ns, e1, e2⟩ := map_some hz
    subst e2
    have e3 := intsOf_some e1
    subst e3
    obtain ⟨p, vs, rfl, h1, a1⟩ := bx.list sm
    have e4 := ints_dq a1
    subst e4
    refine ⟨p, ns, rfl, SqL.of h1, fun ns' l pm so hl => ?_⟩
    have e5 : ns' = sortI ns := sorted_uniq (pm.trans (sortI_perm ns).symm) so (sortI_sorted ns)
    rw [e5]
    exact q l _ F _ (Grow.newO sm hl) hl (none_of_same sm hl) upd_same (dq_ints _)
  · cases hz
end GY
set_option Elab.async false
set_option linter.all false
set_option maxRecDepth 100000
set_option maxHeartbeats 4000000
/-! Gy3: what is walked, targets, comprehensions, told by data. -/
namespace GY
open PySem PySem.Spec PyProof.Rows L2 RZ

/-! ### what is walked: the items ds, while F0 stands -/
structure WalkD (J : It) (ds : List D) (F0 : Hp) : Prop where
  goes : ∀ (i : Nat) (H : Hp), i < ds.length → Same F0 H → J.go i H
  stops : ∀ H : Hp, Same F0 H → J.stop ds.length H
  yld : ∀ (i : Nat) (F H : Hp) (x : V) (H' : Hp) (d : D), ds[i]? = some d → Same F0 F → Same F H → J.yld i H x H' → ∃ F', Grow N0 F H F' H' ∧ Dq F' x d
structure DIt (W : Wd) (wi : TI) (f : Rho → Option (List D)) : Prop where
  go : ∀ {B : Bas} {F H : Hp} {σ : L2.St} {ρ : Rho} {ds : List D}, Rel W B F H σ ρ → f ρ = some ds → ∀ R : It → Hp → Prop, (∀ J F' H', Grow N0 F H F' H' → WalkD J ds F' → R J H') → wi σ H R
def canI (W : Wd) (f : Rho → Option (List D)) : TI := fun σ H R => ∃ (B : Bas) (F : Hp) (ρ : Rho) (ds : List D), Rel W B F H σ ρ ∧ f ρ = some ds ∧ ∀ J F' H', Grow N0 F H F' H' → WalkD J ds F' → R J H'
theorem canI_de {W : Wd} {f : Rho → Option (List D)} : DIt W (canI W f) f := ⟨fun r e Q q => ⟨_, _, _, _, r, e, q⟩⟩
inductive DI (X : Cx) (tg iter : Expr) (f : Rho → Option (List D)) : Prop
  | mk {wi : TI} (pe : PI X tg iter wi) (de : DIt (wdOf X) wi f) : DI X tg iter f
theorem DI.pe {X : Cx} {tg iter : Expr} {f : Rho → Option (List D)} (h : DI X tg iter f) : PI X tg iter (canI (wdOf X) f) := by
  obtain ⟨pe, de⟩ := h
  exact ⟨fun pins s σ H R I ⟨B, F, ρ, d, r, e1, q⟩ => pe.run pins s σ H R I (de.go r e1 R q)⟩
theorem DI.de {X : Cx} {tg iter : Expr} {f : Rho → Option (List D)} (h : DI X tg iter f) : DIt (wdOf X) (canI (wdOf X) f) f := canI_de
section
variable {K : PySem.W.Frag} {F0 : Hp} {a : Addr} {vs : List V} {ds : List D}
theorem wd_list (h : F0 a = some (HO.lst vs)) (al : DqAll F0 vs ds) : WalkD (Itl K a) ds F0 where
  goes := fun i H hi sm => ⟨vs, vs[i]'(by rw [al.len]; exact hi), SqL.of (sm _ _ h), by simp [al.len, hi]⟩
  stops := fun H sm => ⟨vs, SqL.of (sm _ _ h), by rw [al.len]; exact Nat.le_refl _⟩
  yld := fun i F H x H' d hd s0 sm y => by
    obtain ⟨rfl, y2⟩ := y
    obtain ⟨v, h1, h2⟩ := al.get hd
    have e := y2 vs (SqL.of (sm _ _ (s0 _ _ h)))
    rw [h1] at e
    cases e
    exact ⟨F, Grow.refl sm, h2.up s0⟩
theorem wd_tup (h : F0 a = some (HO.tup vs)) (al : DqAll F0 vs ds) : WalkD (Itt K a) ds F0 where
  goes := fun i H hi sm => ⟨vs, vs[i]'(by rw [al.len]; exact hi), SqT.of (sm _ _ h), by simp [al.len, hi]⟩
  stops := fun H sm => ⟨vs, SqT.of (sm _ _ h), by rw [al.len]; exact Nat.le_refl _⟩
  yld := fun i F H x H' d hd s0 sm y => by
    obtain ⟨rfl, y2⟩ := y
    obtain ⟨v, h1, h2⟩ := al.get hd
    have e := y2 vs (SqT.of (sm _ _ (s0 _ _ h)))
    rw [h1] at e
    cases e
    exact ⟨F, Grow.refl sm, h2.up s0⟩
end
def rngD (lo : Int) (n : Nat) : List D := (List.range n).map fun (i : Nat) => PyData.int (lo + (i : Int))
theorem rngD_len (lo : Int) (n : Nat) : (rngD lo n).length = n := by
  unfold rngD
  rw [List.length_map, List.length_range]
theorem rngD_get {lo : Int} {n i : Nat} {d : D} (h : (rngD lo n)[i]? = some d) : d = .int (lo + (i : Int)) ∧ i < n := by
  unfold rngD at h
  rw [List.getElem?_map] at h
  cases e : (List.range n)[i]? with
  | none =>
    rw [e] at h
    cases h
  | some j =>
    rw [e] at h
    obtain ⟨h1, h2⟩ := List.getElem?_eq_some_iff.mp e
    rw [List.getElem_range] at h2
    rw [List.length_range] at h1
    subst h2
    exact ⟨(Option.some.inj h).symm, h1⟩
theorem wd_rng {F0 : Hp} (lo : Int) (n : Nat) : WalkD (Itr lo n) (rngD lo n) F0 where
  goes := fun i H hi _ => by
    rw [rngD_len] at hi
    exact hi
  stops := fun H _ => by
    rw [rngD_len]
    exact Nat.le_refl n
  yld := fun i F H x H' d hd s0 sm y => by
    obtain ⟨rfl, rfl⟩ := y
    obtain ⟨rfl, _⟩ := rngD_get hd
    exact ⟨F, Grow.refl sm, .int _⟩
def zipD : List D → List D → List D
  | a :: as, b :: bs => .tuple [a, b] :: zipD as bs
  | _, _ => []
theorem zipD_len : ∀ (as bs : List D), (zipD as bs).length = min as.length bs.length
  | [], bs => by simp [zipD]
  | a :: as, [] => by simp [zipD]
  | a :: as, b :: bs => by
    show (zipD as bs).length + 1 = _
    rw [zipD_len as bs, List.length_cons, List.length_cons]
    omega
theorem zipD_get : ∀ {as bs : List D} {i : Nat} {d : D}, (zipD as bs)[i]? = some d → ∃ a b, as[i]? = some a ∧ bs[i]? = some b ∧ d = .tuple [a, b]
  | [], _, i, d, h => by simp [zipD] at h
  | _ :: _, [], i, d, h => by simp [zipD] at h
  | a :: as, b :: bs, 0, d, h => ⟨a, b, rfl, rfl, (Option.some.inj h).symm⟩
  | a :: as, b :: bs, i + 1, d, h => by
    obtain ⟨x, y, h1, h2, h3⟩ := zipD_get (as := as) (bs := bs) (i := i) (d := d) h
    exact ⟨x, y, h1, h2, h3⟩
theorem yld_pair {F0 F H H' : Hp} {x : V} {vx vy : V} {a b : D} {T : Addr} (sm : Same F H) (hx : x = .ref T) (hT : H T = none) (hH : H' = upd H T (HO.tup [vx, vy])) (h1 : Dq F vx a) (h2 : Dq F vy b) : ∃ F', Grow N0 F H F' H' ∧ Dq F' x (.tuple [a, b]) := by
  subst hx
  subst hH
  have g := Grow.newF (S := N0) (o := HO.tup [vx, vy]) sm hT
  exact ⟨_, g, .tup upd_same (.cons (h1.up g.ef) (.cons (h2.up g.ef) .nil))⟩
section
variable {K : PySem.W.Frag} {F0 : Hp} {a b : Addr} {vs ws : List V} {ds es : List D}
theorem wd_zipL (h : F0 a = some (HO.lst vs)) (h' : F0 b = some (HO.lst ws)) (al : DqAll F0 vs ds) (al' : DqAll F0 ws es) : WalkD (Itz K a b) (zipD ds es) F0 where
  goes := fun i H hi sm => by
    rw [zipD_len] at hi
    refine ⟨vs, ws, vs[i]'(by rw [al.len]; omega), ws[i]'(by rw [al'.len]; omega), SqL.of (sm _ _ h), SqL.of (sm _ _ h'), ?_, ?_⟩
    · exact List.getElem?_eq_getElem _
    · exact List.getElem?_eq_getElem _
  stops := fun H sm => by
    refine ⟨vs, ws, SqL.of (sm _ _ h), SqL.of (sm _ _ h'), ?_⟩
    rw [zipD_len, al.len, al'.len]
    omega
  yld := fun i F H x H' d hd s0 sm y => by
    obtain ⟨T, x1, y1, e1, e2, e3, e4, e5⟩ := y
    obtain ⟨da, db, h1, h2, rfl⟩ := zipD_get hd
    obtain ⟨v, k1, k2⟩ := al.get h1
    obtain ⟨u, k3, k4⟩ := al'.get h2
    have q1 := e4 vs (SqL.of (sm _ _ (s0 _ _ h)))
    have q2 := e5 ws (SqL.of (sm _ _ (s0 _ _ h')))
    rw [k1] at q1
    rw [k3] at q2
    cases q1
    cases q2
    exact yld_pair (F0 := F0) sm e1 e2 e3 (k2.up s0) (k4.up s0)
theorem wd_zipT (h : F0 a = some (HO.tup vs)) (h' : F0 b = some (HO.tup ws)) (al : DqAll F0 vs ds) (al' : DqAll F0 ws es) : WalkD (ItzT K a b) (zipD ds es) F0 where
  goes := fun i H hi sm => by
    rw [zipD_len] at hi
    refine ⟨vs, ws, vs[i]'(by rw [al.len]; omega), ws[i]'(by rw [al'.len]; omega), SqT.of (sm _ _ h), SqT.of (sm _ _ h'), ?_, ?_⟩
    · exact List.getElem?_eq_getElem _
    · exact List.getElem?_eq_getElem _
  stops := fun H sm => by
    refine ⟨vs, ws, SqT.of (sm _ _ h), SqT.of (sm _ _ h'), ?_⟩
    rw [zipD_len, al.len, al'.len]
    omega
  yld := fun i F H x H' d hd s0 sm y => by
    obtain ⟨T, x1, y1, e1, e2, e3, e4, e5⟩ := y
    obtain ⟨da, db, h1, h2, rfl⟩ := zipD_get hd
    obtain ⟨v, k1, k2⟩ := al.get h1
    obtain ⟨u, k3, k4⟩ := al'.get h2
    have q1 := e4 vs (SqT.of (sm _ _ (s0 _ _ h)))
    have q2 := e5 ws (SqT.of (sm _ _ (s0 _ _ h')))
    rw [k1] at q1
    rw [k3] at q2
    cases q1
    cases q2
    exact yld_pair (F0 := F0) sm e1 e2 e3 (k2.up s0) (k4.up s0)
end
def iOr (u v : TI) : TI := fun σ H R => u σ H R ∨ v σ H R
theorem pi_or {X : Cx} {tg e : Expr} {u v : TI} (h : PI X tg e u) (k : PI X tg e v) : PI X tg e (iOr u v) := ⟨fun pins s σ H R I q => by
  rcases q with q | q
  · exact h.run pins s σ H R I q
  · exact k.run pins s σ H R I q⟩
/-- a list or tuple that is frozen -/
def iSeq (K : PySem.W.Frag) (t : TE) : TI := iOr (iList K t) (iTup K t)
section
variable {X : Cx} {W : Wd} {tg a : Expr} {ta tb : TE} {f g : Rho → Option D} {p pos : Pos}
theorem it_seq {K : PySem.W.Frag} (h : DEt W ta f) : DIt W (iSeq K ta) (fun ρ => (f ρ).bind dItems) := ⟨fun r e R q => by
  obtain ⟨d, e1, e2⟩ := bind_some e
  unfold dItems at e2
  split at e2
  · cases e2
    refine Or.inl (h.go r e1 _ fun v F' H' gr dv => ?_)
    cases dv with
    | lst hf al => exact ⟨_, rfl, ⟨_, SqL.of (gr.fh _ _ hf)⟩, q _ F' H' gr (wd_list hf al)⟩
  · cases e2
    refine Or.inr (h.go r e1 _ fun v F' H' gr dv => ?_)
    cases dv with
    | tup hf al => exact ⟨_, rfl, ⟨_, SqT.of (gr.fh _ _ hf)⟩, q _ F' H' gr (wd_tup hf al)⟩
  · cases e2⟩
theorem di_seq (h : DE X a f) : DI X tg a (fun ρ => (f ρ).bind dItems) := ⟨pi_or (pi_list h.pe) (pi_tup h.pe), it_seq h.de⟩
def okR (i : Int) : Bool := decide (-(2 ^ 62) ≤ i) && decide (i < 2 ^ 62)
theorem okR_iff {i : Int} (h : okR i = true) : -(2 ^ 62) ≤ i ∧ i < 2 ^ 62 := by
  unfold okR at h
  rw [Bool.and_eq_true, decide_eq_true_eq, decide_eq_true_eq] at h
  exact h
def dRng1 : List D → Option (List D)
  | [.int n] => if okR n then some (rngD 0 n.toNat) else none
  | _ => none
def dRng2 : List D → Option (List D)
  | [.int a, .int b] => if okR a && okR b then some (rngD a (b - a).toNat) else none
  | _ => none
theorem di_rng1 {x : Str} {h : Rho → Option (List D)} (hx : x = "range") (hg : Gl X x) (hm : X.mg x = none) (ha : DA X [a] h) (hs : starEach [a] X.env = [(false, eval a X.env)] := by rfl) : DI X tg (.Call (.Name x p) [a] [] pos) (fun ρ => (h ρ).bind dRng1) := by
  subst hx
  refine ⟨pi_range1 hg hm ha.pe hs, ⟨fun r e R q => ?_⟩⟩
  obtain ⟨d, e1, e2⟩ := bind_some e
  refine ha.de.go r e1 _ fun v F' H' gr dv => ?_
  unfold dRng1 at e2
  split at e2
  · split at e2
    · rename_i hk
      cases e2
      cases dv with
      | cons d1 dv =>
        cases dv
        cases d1
        obtain ⟨k1, k2⟩ := okR_iff hk
        exact ⟨_, rfl, k1, k2, q _ F' H' gr (wd_rng 0 _)⟩
    · cases e2
  · cases e2
theorem di_rng2 {x : Str} {b : Expr} {h : Rho → Option (List D)} (hx : x = "range") (hg : Gl X x) (hm : X.mg x = none) (ha : DA X [a, b] h) (hs : starEach [a, b] X.env = [(false, eval a X.env), (false, eval b X.env)] := by rfl) (hs2 : starEach [b] X.env = [(false, eval b X.env)] := by rfl) :
    DI X tg (.Call (.Name x p) [a, b] [] pos) (fun ρ => (h ρ).bind dRng2) := by
  subst hx
  refine ⟨pi_range2 hg hm ha.pe hs hs2, ⟨fun r e R q => ?_⟩⟩
  obtain ⟨d, e1, e2⟩ := bind_some e
  refine ha.de.go r e1 _ fun v F' H' gr dv => ?_
  unfold dRng2 at e2
  split at e2
  · split at e2
    · rename_i hk
      rw [Bool.and_eq_true] at hk
      cases e2
      cases dv with
      | cons d1 dv =>
        cases dv with
        | cons d2 dv =>
          cases dv
          cases d1
          cases d2
          obtain ⟨k1, k2⟩ := okR_iff hk.1
          obtain ⟨k3, k4⟩ := okR_iff hk.2
          exact ⟨_, _, rfl, ⟨k1, k2, k3, k4⟩, q _ F' H' gr (wd_rng _ _)⟩
    · cases e2
  · cases e2
def dZip : List D → Option (List D)
  | [.list as, .list bs] => some (zipD as bs)
  | [.tuple as, .tuple bs] => some (zipD as bs)
  | _ => none
theorem di_zip {x : Str} {b : Expr} {elts : List Expr} {kk : Nat} {tpos : Pos} {h : Rho → Option (List D)} (hx : x = "zip") (hg : Gl X x) (hm : X.mg x = none) (ha : DA X [a, b] h)
    (hs : starEach [a, b] X.env = (false, eval a X.env) :: starEach [b] X.env := by rfl) (hpl : (backTo pos (starEach [b] X.env)).any (·.1) = false := by rfl) :
    DI X (.Tuple elts kk tpos) (.Call (.Name x p) [a, b] [] pos) (fun ρ => (h ρ).bind dZip) := by
  subst hx
  refine ⟨pi_zipA hg hm ha.pe hs hpl, ⟨fun r e R q => ?_⟩⟩
  obtain ⟨ds, e1, e2⟩ := bind_some e
  refine ha.de.go r e1 _ fun vs F' H' gr al => ?_
  unfold dZip at e2
  split at e2
  · cases e2
    cases al with
    | cons d1 al =>
      cases al with
      | cons d2 al =>
        cases al
        cases d1 with
        | lst f1 a1 =>
          cases d2 with
          | lst f2 a2 => exact ⟨_, _, _, _, rfl, Or.inl ⟨SqL.of (gr.fh _ _ f1), SqL.of (gr.fh _ _ f2), q _ F' H' gr (wd_zipL f1 f2 a1 a2)⟩⟩
  · cases e2
    cases al with
    | cons d1 al =>
      cases al with
      | cons d2 al =>
        cases al
        cases d1 with
        | tup f1 a1 =>
          cases d2 with
          | tup f2 a2 => exact ⟨_, _, _, _, rfl, Or.inr ⟨SqT.of (gr.fh _ _ f1), SqT.of (gr.fh _ _ f2), q _ F' H' gr (wd_zipT f1 f2 a1 a2)⟩⟩
  · cases e2
end

/-! ### targets: h by the datum and the slots; at: the places that it stores -/
structure DGt (W : Wd) (g : TG) (h : D → Rho → Option Rho) (at_ : List Nat) : Prop where
  go : ∀ {B : Bas} {F H : Hp} {σ : L2.St} {ρ ρ' : Rho} {v : V} {d : D}, Rel W B F H σ ρ → Dq F v d → h d ρ = some ρ' → ∀ Q : L2.St → Hp → Prop,
    (∀ σ', Rel W B F H σ' ρ' → σ'.length = σ.length → (∀ j, j ∉ at_ → σ'[j]? = σ[j]?) → Q σ' H) → g v σ H Q
def canG (W : Wd) (h : D → Rho → Option Rho) (at_ : List Nat) : TG := fun v σ H Q => ∃ (B : Bas) (F : Hp) (ρ ρ' : Rho) (d : D), Rel W B F H σ ρ ∧ Dq F v d ∧ h d ρ = some ρ' ∧
  ∀ σ', Rel W B F H σ' ρ' → σ'.length = σ.length → (∀ j, j ∉ at_ → σ'[j]? = σ[j]?) → Q σ' H
theorem canG_de {W : Wd} {h : D → Rho → Option Rho} {at_ : List Nat} : DGt W (canG W h at_) h at_ := ⟨fun r dv e Q q => ⟨_, _, _, _, _, r, dv, e, q⟩⟩
inductive DG (X : Cx) (tg : Expr) (h : D → Rho → Option Rho) (at_ : List Nat) : Prop
  | mk {g : TG} (pe : PG X tg g) (de : DGt (wdOf X) g h at_) : DG X tg h at_
theorem DG.pe {X : Cx} {tg : Expr} {h : D → Rho → Option Rho} {at_ : List Nat} (k : DG X tg h at_) : PG X tg (canG (wdOf X) h at_) := by
  obtain ⟨pe, de⟩ := k
  exact ⟨fun pins s σ H v u Q I rv ⟨B, F, ρ, ρ', d, r, dv, e1, q⟩ => pe.run pins s σ H v u Q I rv (de.go r dv e1 Q q)⟩
theorem DG.de {X : Cx} {tg : Expr} {h : D → Rho → Option Rho} {at_ : List Nat} (k : DG X tg h at_) : DGt (wdOf X) (canG (wdOf X) h at_) h at_ := canG_de
def hName (i : Nat) : D → Rho → Option Rho := fun d ρ => some (ρ.set i (.val d))
def hTup2 (i j : Nat) : D → Rho → Option Rho := fun d ρ => match d with
  | .tuple [a, b] => some ((ρ.set i (.val a)).set j (.val b))
  | .list [a, b] => some ((ρ.set i (.val a)).set j (.val b))
  | _ => none
def gOr (g g' : TG) : TG := fun v σ H Q => g v σ H Q ∨ g' v σ H Q
theorem pg_or {X : Cx} {tg : Expr} {g g' : TG} (h : PG X tg g) (k : PG X tg g') : PG X tg (gOr g g') := ⟨fun pins s σ H v u Q I r q => by
  rcases q with q | q
  · exact h.run pins s σ H v u Q I r q
  · exact k.run pins s σ H v u Q I r q⟩
section
variable {X : Cx} {W : Wd} {pos : Pos}
theorem gt_name (i : Nat) : DGt W (gName i) (hName i) [i] := ⟨fun r dv e Q q => by
  cases e
  exact q _ (r.setV i dv) (List.length_set ..) fun j hj => set_off (by simpa using hj)⟩
theorem dg_name {i : Nat} {x : Str} (hN : X.N.Nodup) (hi : X.N[i]? = some x := by rfl) (hx : Loc X.env.scope x := by first | exact Or.inl rfl | exact Or.inr rfl) (hf : X.fn x = true ∨ X.env.scope.names.lookup x = some .local := by first | exact .inl rfl | exact .inr rfl | assumption) : DG X (.Name x pos) (hName i) [i] :=
  ⟨pg_name hN hi hx hf, gt_name i⟩
theorem gt_tup2 {K : PySem.W.Frag} (i j : Nat) : DGt W (gOr (gTup K 2 (gCons (gName i) (gCons (gName j) gNil))) (gLst K 2 (gCons (gName i) (gCons (gName j) gNil)))) (hTup2 i j) [i, j] := ⟨fun r dv e Q q => by
  unfold hTup2 at e
  split at e
  · cases e
    cases dv with
    | tup hf al =>
      cases al with
      | cons d1 al =>
        cases al with
        | cons d2 al =>
          cases al
          refine Or.inl ⟨_, _, rfl, SqT.of (r.fh _ _ hf), rfl, _, _, rfl, _, _, rfl, rfl, q _ ((r.setV i d1).setV j d2) (by rw [List.length_set, List.length_set]) fun k hk => ?_⟩
          simp only [List.mem_cons, List.not_mem_nil, or_false, not_or] at hk
          rw [set_off hk.2, set_off hk.1]
  · cases e
    cases dv with
    | lst hf al =>
      cases al with
      | cons d1 al =>
        cases al with
        | cons d2 al =>
          cases al
          refine Or.inr ⟨_, _, rfl, SqL.of (r.fh _ _ hf), rfl, _, _, rfl, _, _, rfl, rfl, q _ ((r.setV i d1).setV j d2) (by rw [List.length_set, List.length_set]) fun k hk => ?_⟩
          simp only [List.mem_cons, List.not_mem_nil, or_false, not_or] at hk
          rw [set_off hk.2, set_off hk.1]
  · cases e⟩
theorem dg_tup2 {i j kk : Nat} {x y : Str} {px py : Pos} (hc : X.calm = true) (hN : X.N.Nodup) (hi : X.N[i]? = some x := by rfl) (hx : Loc X.env.scope x := by first | exact Or.inl rfl | exact Or.inr rfl) (hj : X.N[j]? = some y := by rfl) (hy : Loc X.env.scope y := by first | exact Or.inl rfl | exact Or.inr rfl)
    (hf : X.fn x = true ∨ X.env.scope.names.lookup x = some .local := by first | exact .inl rfl | exact .inr rfl | assumption) (hf2 : X.fn y = true ∨ X.env.scope.names.lookup y = some .local := by first | exact .inl rfl | exact .inr rfl | assumption)
    (hn : (assignEach [.Name x px, .Name y py] X.env).length = 2 := by rfl) (hst : (assignEach [.Name x px, .Name y py] X.env).findIdx? (·.1) = none := by rfl)
    (h1 : (assignEach [.Name x px, .Name y py] X.env).map (·.2) = assign (.Name x px) X.env :: (assignEach [.Name y py] X.env).map (·.2) := by rfl) (h2 : (assignEach [.Name y py] X.env).map (·.2) = assign (.Name y py) X.env :: (assignEach [] X.env).map (·.2) := by rfl) :
    DG X (.Tuple [.Name x px, .Name y py] kk pos) (hTup2 i j) [i, j] :=
  ⟨pg_or (pg_tup hc (pgs_cons (pg_name hN hi hx hf) (pgs_cons (pg_name hN hj hy hf2) pgs_nil h2) h1) hn hst) (pg_lst hc (pgs_cons (pg_name hN hi hx hf) (pgs_cons (pg_name hN hj hy hf2) pgs_nil h2) h1) hn hst), gt_tup2 i j⟩
end

/-! ### tests of a clause -/
inductive DPt (X : Cx) (ifs : List Expr) (p : Rho → Option Bool) : Prop
  | mk {t : TT} (pe : PTs X ifs t) (de : DTt (wdOf X) t p) : DPt X ifs p
theorem DPt.pe {X : Cx} {ifs : List Expr} {p : Rho → Option Bool} (h : DPt X ifs p) : PTs X ifs (canT (wdOf X) p) := by
  obtain ⟨pe, de⟩ := h
  exact ⟨fun pins s σ H Q I ⟨B, F, ρ, d, r, e1, q⟩ => pe.run pins s σ H Q I (de.go r e1 Q q)⟩
theorem DPt.de {X : Cx} {ifs : List Expr} {p : Rho → Option Bool} (h : DPt X ifs p) : DTt (wdOf X) (canT (wdOf X) p) p := canT_de
theorem dp_nil {X : Cx} : DPt X [] (fun _ => some true) := ⟨pts_nil, ⟨fun r e Q q => by
  cases e
  exact q _ _ (Grow.refl r.fh)⟩⟩
theorem dp_one {X : Cx} {c : Expr} {p : Rho → Option Bool} (h : DT X c p) : DPt X [c] p := ⟨pts_one h.pe, h.de⟩

/-! ### comprehensions -/
def compGo (ρ : Rho) (h : D → Rho → Option Rho) (p : Rho → Option Bool) (el : Rho → Option D) : List D → Option (List D)
  | [] => some []
  | d :: ds => (h d ρ).bind fun ρ1 => (p ρ1).bind fun b => if b then (el ρ1).bind fun z => (compGo ρ h p el ds).bind fun zs => some (z :: zs) else compGo ρ h p el ds
def compD (f : Rho → Option (List D)) (h : D → Rho → Option Rho) (p : Rho → Option Bool) (el : Rho → Option D) (vs : List Nat) : Rho → Option (List D) :=
  fun ρ => (f ρ).bind fun ds => if ds.length < sBig then compGo (wipeR ρ vs) h p el ds else none
theorem wipe_get {σ : L2.St} {j : Nat} : ∀ {vs : List Nat}, j ∈ vs → j < σ.length → (wipe σ vs)[j]? = some none
  | v :: vs, hj, hl => by
    unfold wipe
    by_cases e : v = j
    · subst e
      exact List.getElem?_set_self (by rw [wipe_length]; exact hl)
    · rw [List.getElem?_set_ne e]
      rcases List.mem_cons.mp hj with h | h
      · exact absurd h.symm e
      · exact wipe_get h hl
theorem wipe_out' {σ : L2.St} {j : Nat} : ∀ {vs : List Nat}, j ∉ vs → (wipe σ vs)[j]? = σ[j]?
  | [], _ => rfl
  | v :: vs, h => by
    simp only [List.mem_cons, not_or] at h
    unfold wipe
    rw [List.getElem?_set_ne (fun e => h.1 e.symm)]
    exact wipe_out' h.2
theorem wipe_same {σ τ : L2.St} {vs at_ : List Nat} (hl : τ.length = (wipe σ vs).length) (ha : ∀ j, j ∉ at_ → τ[j]? = (wipe σ vs)[j]?) (hv : ∀ j ∈ at_, j ∈ vs) : wipe τ vs = wipe σ vs := by
  refine List.ext_getElem? fun j => ?_
  rw [wipe_length] at hl
  by_cases hj : j ∈ vs
  · by_cases hlt : j < σ.length
    · rw [wipe_get hj (by rw [hl]; exact hlt), wipe_get hj hlt]
    · rw [List.getElem?_eq_none (by rw [wipe_length, hl]; omega), List.getElem?_eq_none (by rw [wipe_length]; omega)]
  · rw [wipe_out' hj, ha j fun q => hj (hv j q)]
theorem Grow.other {S : Addr → Prop} {F H F' H' : Hp} (g : Grow S F H F' H') {p : Addr} {o : HO} (hp : H p = none) (hf : F' p = none) : Grow S F H F' (upd H' p o) where
  ef := g.ef
  fh := fun a u e => by rw [upd_ne (ne_of_none e hf)]; exact g.fh a u e
  keep := fun a u e n => by rw [upd_ne (ne_of_none e hp)]; exact g.keep a u e n
  there := fun a u e => by rw [upd_ne (ne_of_none e hp)]; exact g.there a u e
  nw := g.nw
theorem drop_at {α : Type} {l : List α} {i : Nat} {x : α} (h : l[i]? = some x) : l.drop i = x :: l.drop (i + 1) := by
  obtain ⟨h1, h2⟩ := List.getElem?_eq_some_iff.mp h
  rw [← h2]
  exact List.drop_eq_getElem_cons h1
/-- between two turns: what is made so far is done, what is to come is todo -/
structure CompAt (F1 H1 : Hp) (Dl : Addr) (zs : List D) (todo : Option (List D)) (H : Hp) (i : Nat) : Prop where
  ex : ∃ (F : Hp) (ws : List V) (done more : List D), Grow N0 F1 H1 F H ∧ F Dl = none ∧ H Dl = some (HO.lst ws) ∧ DqAll F ws done ∧ todo = some more ∧ done ++ more = zs ∧ done.length ≤ i
section
variable {X : Cx} {W : Wd}
theorem lt_comp {wi : TI} {g : TG} {tt : TT} {te : TE} {f : Rho → Option (List D)} {h : D → Rho → Option Rho} {p : Rho → Option Bool} {el : Rho → Option D} {vs at_ : List Nat} (hi : DIt W wi f) (hg : DGt W g h at_) (ht : DTt W tt p) (he : DEt W te el)
    (hv : ∀ j ∈ at_, j ∈ vs) : DLt W (tLc wi g tt te vs) (compD f h p el vs) := ⟨fun {B F H σ ρ zs} r e Q q => by
  obtain ⟨ds, e1, e2⟩ := bind_some e
  split at e2
  · rename_i hsz
    refine hi.go r e1 _ fun J F1 H1 g1 wk => ?_
    intro Dl hD
    have r1 := r.grow g1
    refine ⟨fun i m H' => m = ds.length - i ∧ i ≤ ds.length ∧ CompAt F1 H1 Dl zs (compGo (wipeR ρ vs) h p el (ds.drop i)) H' i, ⟨ds.length, by simp, Nat.zero_le _, ⟨F1, [], [], zs, Grow.newO g1.fh hD, none_of_same g1.fh hD, upd_same, .nil, by simpa using e2, rfl, Nat.le_refl _⟩⟩, ?_⟩
    rintro i m H2 ⟨rfl, hil, ⟨F2, ws, done, more, g2, fD, hDl, al, etodo, ezs, edone⟩⟩
    by_cases hlt : i < ds.length
    · refine Or.inr ⟨wk.goes i H2 hlt (g2.ef.trans g2.fh), fun H' => i + 1 ≤ ds.length ∧ CompAt F1 H1 Dl zs (compGo (wipeR ρ vs) h p el (ds.drop (i + 1))) H' (i + 1), fun H' w => ⟨ds.length - (i + 1), by omega, rfl, w.1, w.2⟩, fun x H3 y => ?_⟩
      have hdi : ds[i]? = some ds[i] := List.getElem?_eq_getElem hlt
      obtain ⟨F3, g3, dx⟩ := wk.yld i F2 H2 x H3 _ hdi g2.ef g2.fh y
      have r3 := ((r1.grow g2).grow g3).wipe vs
      rw [drop_at hdi] at etodo
      obtain ⟨ρ1, k1, k2⟩ := bind_some etodo
      obtain ⟨b, k3, k4⟩ := bind_some k2
      have g23 := g2.trans g3
      refine hg.go r3 dx k1 _ fun σ2 r4 hl2 ha2 => ⟨wipe_same hl2 ha2 hv, ?_⟩
      refine ht.go r4 k3 _ fun F5 H5 g5 => ?_
      have tD : H5 Dl = some (HO.lst ws) := g5.hh _ _ (g3.hh _ _ hDl)
      have fD5 : F5 Dl = none := g5.nw Dl _ (g3.hh _ _ hDl) (g3.nw Dl _ hDl fD)
      cases b with
      | true =>
        rw [if_pos rfl] at k4 ⊢
        obtain ⟨z, k5, k6⟩ := bind_some k4
        obtain ⟨zs', k7, k8⟩ := bind_some k6
        have k9 := Option.some.inj k8
        refine he.go (r4.grow g5) k5 _ fun v F6 H6 g6 dv => ?_
        have tD6 : H6 Dl = some (HO.lst ws) := g6.hh _ _ tD
        have fD6 : F6 Dl = none := g6.nw Dl _ tD fD5
        have gAll := (g23.trans g5).trans g6
        have hlen : ws.length < sBig := by rw [al.len]; omega
        refine ⟨ws, tD6, sz_lt hlen, hlt, ⟨F6, ws ++ [v], done ++ [z], zs', gAll.other hD fD6, fD6, upd_same, ?_, k7, ?_, ?_⟩⟩
        · exact ((al.up g3.ef).up (g5.trans g6).ef).app (DqAll.one dv)
        · rw [List.append_assoc, List.singleton_append, k9]
          exact ezs
        · rw [List.length_append, List.length_singleton]
          omega
      | false =>
        rw [if_neg Bool.false_ne_true] at k4 ⊢
        exact ⟨hlt, ⟨F5, ws, done, more, g23.trans g5, fD5, tD, (al.up g3.ef).up g5.ef, k4, ezs, by omega⟩⟩
    · have ei : i = ds.length := by omega
      subst ei
      rw [List.drop_length] at etodo
      cases etodo
      rw [List.append_nil] at ezs
      subst ezs
      exact Or.inl ⟨wk.stops H2 (g2.ef.trans g2.fh), q Dl ws F2 H2 (g1.trans g2) (g1.back hD) fD hDl al⟩
  · cases e2⟩
theorem dl_lc {elt tg iter : Expr} {ifs : List Expr} {scope : Scope} {own : List (Str × Nat)} {pos : Pos} {f : Rho → Option (List D)} {h : D → Rho → Option Rho} {p : Rho → Option Bool} {el : Rho → Option D} {at_ vs : List Nat}
    (hc : X.calm = true) (hN : X.N.Nodup) (hi : DI X tg iter f) (ok : BlkOk X.N X.env.scope scope own)
    (hg : ∀ (s : Shared) (H : Hp) (C : Addr) (cl : List (Str × Addr)) (fp : List Addr), DG (X.blk s H scope (compEnvC scope cl C X.env) fp) tg h at_) (ht : ∀ (s : Shared) (H : Hp) (C : Addr) (cl : List (Str × Addr)) (fp : List Addr), DPt (X.blk s H scope (compEnvC scope cl C X.env) fp) ifs p)
    (he : ∀ (s : Shared) (H : Hp) (C : Addr) (cl : List (Str × Addr)) (fp : List Addr), DE (X.blk s H scope (compEnvC scope cl C X.env) fp) elt el) (hv : (at_.all fun j => decide (j ∈ own.map (·.2))) = true := by rfl) (hs : ∀ x, foldedSetIterable iter X.env x = pure x := by intro _; rfl) (hvs : own.map (·.2) = vs := by rfl) :
    DL X (.ListComp elt [⟨tg, iter, ifs, 0⟩] scope pos) (compD f h p el vs) := by
  subst hvs
  exact ⟨pe_lc (wi := canI (wdOf X) f) (g := canG (wdOf X) h at_) (tt := canT (wdOf X) p) (te := canE (wdOf X) el) hc hN hi.pe ok (fun s H C cl fp => (hg s H C cl fp).pe) (fun s H C cl fp => (ht s H C cl fp).pe) (fun s H C cl fp => (he s H C cl fp).pe) hs,
    lt_comp canI_de canG_de canT_de canE_de fun j hj => of_decide_eq_true (List.all_eq_true.mp hv j hj)⟩
end
end GY
set_option Elab.async false
set_option linter.all false
set_option maxRecDepth 100000
set_option maxHeartbeats 4000000
/-! Gy4: statements, defs and their calls, told by data. -/
namespace GY
open PySem PySem.Spec PyProof.Rows L2

inductive Out where
  | nx (ρ : Rho)
  | rt (d : D) (ρ : Rho)
  | bk (ρ : Rho)
  | ct (ρ : Rho)
  | ex (ρ : Rho)
/-- what follows is shown -/
def Fits (W : Wd) (B : Bas) (R : L2.St → Hp → Prop) (Dn : Ends) : Out → Prop
  | .nx ρ => ∀ σ F H, Rel W B F H σ ρ → Dn.nx σ H
  | .rt d ρ => ∀ v σ F H, Rel W B F H σ ρ → Dq F v d → Dn.rt v H
  | .bk ρ => ∀ σ F H, Rel W B F H σ ρ → Dn.bk σ H
  | .ct ρ => ∀ σ F H, Rel W B F H σ ρ → Dn.ct σ H
  | .ex ρ => ∀ σ F H, Rel W B F H σ ρ → R σ H
structure DSt (W : Wd) (R : L2.St → Hp → Prop) (t : TS) (g : Rho → Option Out) : Prop where
  go : ∀ {B : Bas} {F H : Hp} {σ : L2.St} {ρ : Rho} {o : Out}, Rel W B F H σ ρ → g ρ = some o → ∀ Dn : Ends, Fits W B R Dn o → t Dn σ H
def canS (W : Wd) (R : L2.St → Hp → Prop) (g : Rho → Option Out) : TS := fun Dn σ H => ∃ (B : Bas) (F : Hp) (ρ : Rho) (o : Out), Rel W B F H σ ρ ∧ g ρ = some o ∧ Fits W B R Dn o
theorem canS_de {W : Wd} {R : L2.St → Hp → Prop} {g : Rho → Option Out} : DSt W R (canS W R g) g := ⟨fun r e Dn q => ⟨_, _, _, _, r, e, q⟩⟩
inductive DS (X : Cx) (R : L2.St → Hp → Prop) (st : Stmt) (g : Rho → Option Out) : Prop
  | mk {t : TS} (pe : PS X st t) (de : DSt (wdOf X) R t g) : DS X R st g
inductive DSS (X : Cx) (R : L2.St → Hp → Prop) (st : List Stmt) (g : Rho → Option Out) : Prop
  | mk {t : TS} (pe : PSs X st t) (de : DSt (wdOf X) R t g) : DSS X R st g
section
variable {X : Cx} {R : L2.St → Hp → Prop} {st : Stmt} {ss : List Stmt} {g : Rho → Option Out}
theorem DS.pe (h : DS X R st g) : PS X st (canS (wdOf X) R g) := by
  obtain ⟨pe, de⟩ := h
  exact ⟨fun pins s σ H Dn I ⟨B, F, ρ, o, r, e1, q⟩ => pe.run pins s σ H Dn I (de.go r e1 Dn q)⟩
theorem DS.de (h : DS X R st g) : DSt (wdOf X) R (canS (wdOf X) R g) g := canS_de
theorem DSS.pe (h : DSS X R ss g) : PSs X ss (canS (wdOf X) R g) := by
  obtain ⟨pe, de⟩ := h
  exact ⟨fun pins s σ H Dn I ⟨B, F, ρ, o, r, e1, q⟩ => pe.run pins s σ H Dn I (de.go r e1 Dn q)⟩
theorem DSS.de (h : DSS X R ss g) : DSt (wdOf X) R (canS (wdOf X) R g) g := canS_de
end

/-! ### what a slot gets -/
def NewSl (W : Wd) (H F' H' : Hp) (v : V) : Sl → Prop
  | .val d => Dq F' v d
  | .own ds => ∃ p, v = .ref p ∧ H p = none ∧ F' p = none ∧ Has W F' H' p (.own ds)
  | .dct ks => ∃ p, v = .ref p ∧ H p = none ∧ F' p = none ∧ Has W F' H' p (.dct ks)
  | _ => False
structure DCt (W : Wd) (t : TE) (f : Rho → Option Sl) : Prop where
  go : ∀ {B : Bas} {F H : Hp} {σ : L2.St} {ρ : Rho} {s : Sl}, Rel W B F H σ ρ → f ρ = some s → ∀ Q : VK, (∀ v F' H', Grow N0 F H F' H' → NewSl W H F' H' v s → Q v H') → t σ H Q
def canC (W : Wd) (f : Rho → Option Sl) : TE := fun σ H Q => ∃ (B : Bas) (F : Hp) (ρ : Rho) (s : Sl), Rel W B F H σ ρ ∧ f ρ = some s ∧ ∀ v F' H', Grow N0 F H F' H' → NewSl W H F' H' v s → Q v H'
theorem canC_de {W : Wd} {f : Rho → Option Sl} : DCt W (canC W f) f := ⟨fun r e Q q => ⟨_, _, _, _, r, e, q⟩⟩
inductive DC (X : Cx) (e : Expr) (f : Rho → Option Sl) : Prop
  | mk {t : TE} (pe : PE X e t) (de : DCt (wdOf X) t f) : DC X e f
theorem DC.pe {X : Cx} {e : Expr} {f : Rho → Option Sl} (h : DC X e f) : PE X e (canC (wdOf X) f) := by
  obtain ⟨pe, de⟩ := h
  exact ⟨fun pins s σ H Q I ⟨B, F, ρ, d, r, e1, q⟩ => pe.run pins s σ H Q I (de.go r e1 Q q)⟩
theorem DC.de {X : Cx} {e : Expr} {f : Rho → Option Sl} (h : DC X e f) : DCt (wdOf X) (canC (wdOf X) f) f := canC_de
def cV (f : Rho → Option D) : Rho → Option Sl := fun ρ => (f ρ).map .val
def cO (f : Rho → Option (List D)) : Rho → Option Sl := fun ρ => (f ρ).map .own
section
variable {X : Cx} {W : Wd} {e : Expr} {t : TE} {f : Rho → Option D} {g : Rho → Option (List D)}
theorem ct_v (h : DEt W t f) : DCt W t (cV f) := ⟨fun r e Q q => by
  obtain ⟨d, e1, e2⟩ := map_some e
  subst e2
  exact h.go r e1 Q fun v F' H' g dv => q v F' H' g dv⟩
theorem ct_o (h : DLt W t g) : DCt W t (cO g) := ⟨fun r e Q q => by
  obtain ⟨d, e1, e2⟩ := map_some e
  subst e2
  exact h.go r e1 Q fun p vs F' H' g n1 n2 h1 a1 => q _ F' H' g ⟨p, rfl, n1, n2, vs, h1, a1⟩⟩
theorem dc_v (h : DE X e f) : DC X e (cV f) := ⟨h.pe, ct_v h.de⟩
theorem dc_o (h : DL X e g) : DC X e (cO g) := ⟨h.pe, ct_o h.de⟩
/-- a slot is filled -/
theorem Rel.put {B : Bas} {F H F' H' : Hp} {σ : L2.St} {ρ : Rho} {v : V} {s : Sl} (r : Rel W B F H σ ρ) (g : Grow N0 F H F' H') (i : Nat) (n : NewSl W H F' H' v s) : Rel W B F' H' (σ.set i (some v)) (ρ.set i s) := by
  have r' := r.grow g
  have noB : ∀ p, H p = none → B.H p = none := fun p hp => r.gr.back hp
  have noM : ∀ p, H p = none → ∀ (j : Nat) (t : Sl), j ≠ i → ρ[j]? = some t → t.mine = true → σ[j]? ≠ some (some (V.ref p)) := fun p hp j t _ h1 h2 h3 => by
    obtain ⟨_, o, ho⟩ := r.mineSome ⟨j, t, h1, h2, h3⟩
    rw [hp] at ho
    cases ho
  cases s with
  | no => exact n.elim
  | val d => exact r'.setV i n
  | own ds =>
    obtain ⟨p, rfl, n1, n2, hs⟩ := n
    exact r'.setO i n2 hs (noB p n1) (noM p n1)
  | dct ks =>
    obtain ⟨p, rfl, n1, n2, hs⟩ := n
    exact r'.setO i n2 hs (noB p n1) (noM p n1)
  | rf ds => exact n.elim
/-- a second one behind it -/
theorem NewSl.back {H H1 F' H' : Hp} {v : V} {s : Sl} (n : NewSl W H1 F' H' v s) (k : ∀ p, H1 p = none → H p = none) : NewSl W H F' H' v s := by
  cases s with
  | no => exact n.elim
  | val d => exact n
  | own ds =>
    obtain ⟨p, h1, n1, n2, hs⟩ := n
    exact ⟨p, h1, k p n1, n2, hs⟩
  | dct ks =>
    obtain ⟨p, h1, n1, n2, hs⟩ := n
    exact ⟨p, h1, k p n1, n2, hs⟩
  | rf ds => exact n.elim
end

/-! ### assignments -/
def oSet (i : Nat) (f : Rho → Option Sl) : Rho → Option Out := fun ρ => (f ρ).map fun s => .nx (ρ.set i s)
section
variable {X : Cx} {W : Wd} {R : L2.St → Hp → Prop} {e : Expr} {te : TE} {f f1 f2 f3 : Rho → Option Sl} {fd : Rho → Option D} {fl : Rho → Option (List D)} {pos : Pos}
theorem st_set (i : Nat) (h : DCt W te f) : DSt W R (tAsg te (gName i)) (oSet i f) := ⟨fun r e Dn q => by
  obtain ⟨s, e1, e2⟩ := map_some e
  subst e2
  exact h.go r e1 _ fun v F' H' g n => q _ F' H' (r.put g i n)⟩
theorem ds_set {i : Nat} {x : Str} {pos' : Pos} (hN : X.N.Nodup) (h : DC X e f) (hi : X.N[i]? = some x := by rfl) (hx : Loc X.env.scope x := by first | exact Or.inl rfl | exact Or.inr rfl) (hs : swapsWith e (some (.Name x pos')) pos.line X.env = pure false := by rfl)
    (hf : X.fn x = true ∨ X.env.scope.names.lookup x = some .local := by first | exact .inl rfl | exact .inr rfl | assumption) : DS X R (.Assign [.Name x pos'] e pos) (oSet i f) := ⟨ps_set hN hi hx h.pe hs hf, st_set i h.de⟩
/-- name = [..], the name a local -/
theorem ds_setLc {i : Nat} {y : Str} {py : Pos} {elt tg iter : Expr} {ifs : List Expr} {scope : Scope} {own : List (Str × Nat)} {pos spos : Pos} {fi : Rho → Option (List D)} {h : D → Rho → Option Rho} {p : Rho → Option Bool} {el : Rho → Option D} {at_ vs : List Nat}
    (mk : ((Rho → Option (List D)) → Rho → Option Sl)) (hmk : mk = cO ∨ mk = fun f ρ => (f ρ).map fun ds => .val (.list ds))
    (hc : X.calm = true) (hN : X.N.Nodup) (hi : DI X tg iter fi) (ok : BlkOk X.N X.env.scope scope own)
    (hg : ∀ (s : Shared) (H : Hp) (C : Addr) (cl : List (Str × Addr)) (fp : List Addr), DG (X.blk s H scope (compEnvC scope cl C X.env) fp) tg h at_) (ht : ∀ (s : Shared) (H : Hp) (C : Addr) (cl : List (Str × Addr)) (fp : List Addr), DPt (X.blk s H scope (compEnvC scope cl C X.env) fp) ifs p)
    (he : ∀ (s : Shared) (H : Hp) (C : Addr) (cl : List (Str × Addr)) (fp : List Addr), DE (X.blk s H scope (compEnvC scope cl C X.env) fp) elt el) (hy : X.N[i]? = some y := by rfl) (hyl : X.env.scope.names.lookup y = some .local := by rfl)
    (hsw : swapsWith (.ListComp elt [⟨tg, iter, ifs, 0⟩] scope pos) (some (.Name y py)) spos.line X.env = pure true := by exact sw_true rfl rfl rfl (by decide +kernel)) (hv : (at_.all fun j => decide (j ∈ own.map (·.2))) = true := by rfl) (hs : ∀ x, foldedSetIterable iter X.env x = pure x := by intro _; rfl) (hvs : own.map (·.2) = vs := by rfl) :
    DS X R (.Assign [.Name y py] (.ListComp elt [⟨tg, iter, ifs, 0⟩] scope pos) spos) (oSet i (mk (compD fi h p el vs))) := by
  subst hvs
  refine ⟨ps_setLc (wi := canI (wdOf X) fi) (g := canG (wdOf X) h at_) (tt := canT (wdOf X) p) (te := canE (wdOf X) el) hc hN hy hyl hsw hi.pe ok (fun s H C cl fp => (hg s H C cl fp).pe) (fun s H C cl fp => (ht s H C cl fp).pe) (fun s H C cl fp => (he s H C cl fp).pe) hs, st_set i ?_⟩
  have hl := lt_comp (W := wdOf X) (f := fi) (h := h) (p := p) (el := el) (vs := own.map (·.2)) canI_de (canG_de (at_ := at_)) canT_de canE_de fun j hj => of_decide_eq_true (List.all_eq_true.mp hv j hj)
  rcases hmk with rfl | rfl
  · exact ct_o hl
  · have h2 := ct_v hl.de
    refine ⟨fun r e Q q => h2.go r ?_ Q q⟩
    unfold cV
    rw [Option.map_map]
    exact e
def mkV : (Rho → Option (List D)) → Rho → Option Sl := fun f ρ => (f ρ).map fun ds => .val (.list ds)
/-- a, b = x, y -/
def oPar (i j : Nat) (f g : Rho → Option Sl) : Rho → Option Out := fun ρ => (f ρ).bind fun s => (g ρ).bind fun u => some (.nx ((ρ.set i s).set j u))
theorem st_par {ta tb : TE} {i j : Nat} (hij : i ≠ j) (h : DCt W ta f1) (k : DCt W tb f2) : DSt W R (tPar i j (tCons ta (tCons tb tNil))) (oPar i j f1 f2) := ⟨fun {B F H σ ρ o} r e Dn q => by
  obtain ⟨s, e1, e2⟩ := bind_some e
  obtain ⟨u, e3, e4⟩ := bind_some e2
  cases e4
  refine h.go r e1 _ fun v F1 H1 g1 n1 => k.go (r.grow g1) e3 _ fun w F2 H2 g2 n2 => ⟨v, w, rfl, ?_⟩
  have r1 := r.put g1 i n1
  exact q _ F2 H2 (r1.put g2 j n2)⟩
theorem ds_par {i j : Nat} {x y : Str} {a b : Expr} {px py pt : Pos} {kt k2 pt2} (hc : X.calm = true) (hN : X.N.Nodup) (h : DC X a f1) (k : DC X b f2)
    (hi : X.N[i]? = some x := by rfl) (hj : X.N[j]? = some y := by rfl) (hij : i ≠ j := by decide) (hx : X.env.scope.names.lookup x = some .local := by rfl) (hy : X.env.scope.names.lookup y = some .local := by rfl)
    (hs1 : starEach [a, b] X.env = (false, eval a X.env) :: starEach [b] X.env := by rfl) (hs2 : starEach [b] X.env = (false, eval b X.env) :: starEach [] X.env := by rfl)
    (hw : swappedStores [.Tuple [.Name x px, .Name y py] kt pt] (.Tuple [a, b] k2 pt2) X.env = pure (some [x, y]) := by rfl)
    (hs : swapsWithSole [.Tuple [.Name x px, .Name y py] kt pt] (.Tuple [a, b] k2 pt2) pos.line X.env = pure false := by rfl) :
    DS X R (.Assign [.Tuple [.Name x px, .Name y py] kt pt] (.Tuple [a, b] k2 pt2) pos) (oPar i j f1 f2) :=
  ⟨ps_par hc hN hi hj hij hx hy (pa_cons h.pe (pa_cons k.pe pa_nil hs2) hs1) hw hs, st_par hij h.de k.de⟩
/-- target = e, by a target -/
def oAsg (h : D → Rho → Option Rho) (f : Rho → Option D) : Rho → Option Out := fun ρ => (f ρ).bind fun d => (h d ρ).map .nx
theorem ds_asg {tg : Expr} {h : D → Rho → Option Rho} {at_ : List Nat} (he : DE X e fd) (hg : DG X tg h at_) (hs : swapsWithSole [tg] e pos.line X.env = pure false := by rfl) (hw : swappedStores [tg] e X.env = pure none := by rfl)
    (h1 : (assignEach [tg] X.env).map (·.2) = [assign tg X.env] := by rfl) : DS X R (.Assign [tg] e pos) (oAsg h fd) := ⟨ps_asg he.pe hg.pe hs hw h1, ⟨fun r e Dn q => by
  obtain ⟨d, e1, e2⟩ := bind_some e
  obtain ⟨ρ', e3, e4⟩ := map_some e2
  subst e4
  exact he.de.go r e1 _ fun v F' H' g dv => hg.de.go (r.grow g) dv e3 _ fun σ' r' _ _ => q σ' F' H' r'⟩⟩
end

/-! ### lists of the def's own -/
def ownAt (ρ : Rho) (i : Nat) : Option (List D) := match ρ[i]? with
  | some (.own ds) => some ds
  | some (.rf ds) => some ds
  | _ => none
def putOwn (ρ : Rho) (i : Nat) (ds : List D) : Rho := match ρ[i]? with
  | some (.rf _) => ρ.set i (.rf ds)
  | _ => ρ.set i (.own ds)
section
variable {W : Wd} {B : Bas} {F H : Hp} {σ : L2.St} {ρ : Rho}
theorem Rel.ownD (r : Rel W B F H σ ρ) {i : Nat} {ds : List D} (h : ownAt ρ i = some ds) : ∃ p vs, σ[i]? = some (some (V.ref p)) ∧ F p = none ∧ H p = some (HO.lst vs) ∧ DqAll F vs ds ∧ Mine σ ρ p ∧
    ∀ ws es, DqAll F ws es → Rel W B F (upd H p (HO.lst ws)) σ (putOwn ρ i es) := by
  have main : ∀ (s s' : Sl) (mk : List D → Sl), ρ[i]? = some s → s.mine = true → (∀ p, Has W F H p s → ∃ vs, H p = some (HO.lst vs) ∧ DqAll F vs ds) → (∀ p, s.org B p → ∀ es, (mk es).org B p) → (∀ es, (mk es).mine = true) → (∀ F H p es ws, H p = some (HO.lst ws) → DqAll F ws es → Has W F H p (mk es)) → (∀ es, putOwn ρ i es = ρ.set i (mk es)) →
      (∀ p, s.org B p → B.S p ∨ B.H p = none) → ∃ p vs, σ[i]? = some (some (V.ref p)) ∧ F p = none ∧ H p = some (HO.lst vs) ∧ DqAll F vs ds ∧ Mine σ ρ p ∧ ∀ ws es, DqAll F ws es → Rel W B F (upd H p (HO.lst ws)) σ (putOwn ρ i es) := by
    intro s s' mk hs hm hh ho hmm hmk hp hor
    obtain ⟨p, h1, h2, h3, h4⟩ := r.own i s hs hm
    obtain ⟨vs, h5, h6⟩ := hh p h3
    refine ⟨p, vs, h1, h2, h5, h6, ⟨i, s, hs, hm, h1⟩, fun ws es al => ?_⟩
    rw [hp]
    have hil : i < ρ.length := (List.getElem?_eq_some_iff.mp hs).1
    refine ⟨⟨r.gr.ef, fun a u e => by rw [upd_ne (ne_of_none e h2)]; exact r.gr.fh a u e, fun a u e n => ?_, fun a u e => ?_, r.gr.nw⟩, by rw [List.length_set]; exact r.len, fun j d hj => ?_, fun j t hj mt => ?_, fun j k t u q hj hk ms mt e1 e2 => ?_⟩
    · by_cases q : a = p
      · subst q
        rcases hor a h4 with z | z
        · exact absurd z n
        · rw [z] at e
          cases e
      · rw [upd_ne q]
        exact r.gr.keep a u e n
    · by_cases q : a = p
      · subst q
        exact ⟨_, upd_same⟩
      · rw [upd_ne q]
        exact r.gr.there a u e
    · rcases getElem_setS hj with ⟨rfl, q1, q2⟩ | ⟨q1, q2⟩
      · have := hmm es
        rw [q1] at this
        cases this
      · exact r.val j d q2
    · rcases getElem_setS hj with ⟨rfl, q1, q2⟩ | ⟨q1, q2⟩
      · subst q1
        exact ⟨p, h1, h2, hmk _ _ _ _ ws upd_same al, ho p h4 es⟩
      · obtain ⟨q, e1, e2, e3, e4⟩ := r.own j t q2 mt
        have ne : q ≠ p := fun z => q1 (r.dist j i t _ p q2 hs mt hm (by rw [← z]; exact e1) h1)
        exact ⟨q, e1, e2, e3.up (Same.refl _) fun u hu => by rw [upd_ne ne]; exact hu, e4⟩
    · have back : ∀ {l : Nat} {z : Sl}, (ρ.set i (mk es))[l]? = some z → z.mine = true → ∃ z', ρ[l]? = some z' ∧ z'.mine = true := fun {l z} hl hz => by
        rcases getElem_setS hl with ⟨rfl, q1, q2⟩ | ⟨q1, q2⟩
        · exact ⟨s, hs, hm⟩
        · exact ⟨z, q2, hz⟩
      obtain ⟨t', b1, b2⟩ := back hj ms
      obtain ⟨u', b3, b4⟩ := back hk mt
      exact r.dist j k t' u' q b1 b3 b2 b4 e1 e2
  unfold ownAt at h
  split at h
  · rename_i l e
    have el := Option.some.inj h
    subst el
    exact main _ .no Sl.own e rfl (fun p z => z) (fun p z es => z) (fun _ => rfl) (fun F H p es ws a b => ⟨ws, a, b⟩) (fun es => by unfold putOwn; rw [e]) (fun p z => Or.inr z)
  · rename_i l e
    have el := Option.some.inj h
    subst el
    exact main _ .no Sl.rf e rfl (fun p z => z) (fun p z es => z) (fun _ => rfl) (fun F H p es ws a b => ⟨ws, a, b⟩) (fun es => by unfold putOwn; rw [e]) (fun p z => Or.inl z)
  · cases h
theorem ownAt_putOwn {i : Nat} {ds es : List D} (h : ownAt ρ i = some ds) : ownAt (putOwn ρ i es) i = some es := by
  unfold ownAt at h
  split at h
  · rename_i l e
    have hl := (List.getElem?_eq_some_iff.mp e).1
    unfold ownAt putOwn
    rw [e]
    simp [hl]
  · rename_i l e
    have hl := (List.getElem?_eq_some_iff.mp e).1
    unfold ownAt putOwn
    rw [e]
    simp [hl]
  · cases h
theorem ownAt_bAt {i : Nat} {ds : List D} (h : ownAt ρ i = some ds) : bAt ρ i = some (.list ds) := by
  unfold ownAt at h
  unfold bAt
  split at h
  · rename_i l e
    rw [e, Option.some.inj h]
  · rename_i l e
    rw [e, Option.some.inj h]
  · cases h
theorem ownAt_not {i : Nat} {ds : List D} (h : ownAt ρ i = some ds) (r : Rel W B F H σ ρ) {F' H' : Hp} (g : Grow N0 F H F' H') : ∃ p vs, σ[i]? = some (some (V.ref p)) ∧ F' p = none ∧ H' p = some (HO.lst vs) ∧ DqAll F' vs ds ∧
    ∀ ws es, DqAll F' ws es → Rel W B F' (upd H' p (HO.lst ws)) σ (putOwn ρ i es) := by
  obtain ⟨p, vs, h1, h2, h3, h4, _, h5⟩ := (r.grow g).ownD h
  exact ⟨p, vs, h1, h2, h3, h4, h5⟩
end
section
variable {X : Cx} {W : Wd} {R : L2.St → Hp → Prop} {e : Expr} {te : TE} {fd : Rho → Option D} {pos apos cpos : Pos}
/-- xs.append(e) -/
def oApp (k : Nat) (f : Rho → Option D) : Rho → Option Out := fun ρ => (ownAt ρ k).bind fun ds => (f ρ).bind fun d => if ds.length < sBig then some (.nx (putOwn ρ k (ds ++ [d]))) else none
theorem st_app {K : PySem.W.Frag} (k : Nat) (h : DEt W te fd) : DSt W R (tDrop (tBM K "list" rAppend (tVar k) (tCons te tNil))) (oApp k fd) := ⟨fun {B F H σ ρ o} r e Dn q => by
  obtain ⟨ds, e1, e2⟩ := bind_some e
  obtain ⟨d, e3, e4⟩ := bind_some e2
  split at e4
  · rename_i hl
    cases e4
    obtain ⟨p, vs, h1, h2, h3, h4, _⟩ := r.ownD e1
    refine ⟨_, h1, Or.inl ⟨rfl, _, SqL.of h3⟩, ?_⟩
    refine h.go r e3 _ fun v F' H' g dv => ?_
    obtain ⟨p', vs', k1, k2, k3, k4, k5⟩ := ownAt_not e1 r g
    rw [h1] at k1
    cases k1
    refine ⟨p, vs', v, rfl, rfl, k3, sz_lt (by rw [k4.len]; exact hl), ?_⟩
    exact q σ F' _ (k5 _ _ (k4.app (DqAll.one dv)))
  · cases e4⟩
theorem ds_app {k : Nat} {x : Str} {px : Pos} (h : DE X e fd) (hN : X.N[k]? = some x := by rfl) (hv : Vis X.env.scope x := by first | exact Or.inl rfl | exact Or.inr (Or.inl rfl) | exact Or.inr (Or.inr rfl)) (hd : (x == ("__debug__" : Str)) = false := by decide)
    (hcd : (x == ("__classdict__" : Str)) = false := by decide) (hbase : attributeBase (.Name x px) "append" X.env (eval (.Name x px) X.env) = eval (.Name x px) X.env := by rfl)
    (hfew : ((backTo cpos (starEach [e] X.env)).all (fun x => !x.1) && (backToKw cpos (keywordEach [] X.env)).all (fun x => x.1.isSome) && decide ([e].length + ([] : List Keyword).length + (if ([] : List Keyword).isEmpty then 0 else 1) < 30)) = true := by rfl)
    (hline : (apos.endLine == cpos.line) = true := by rfl) (hs : starEach [e] X.env = (false, eval e X.env) :: starEach [] X.env := by rfl) (hplain : (backTo cpos (starEach [] X.env)).any (·.1) = false := by rfl)
    (hsw : swapsWith (.Call (.Attribute (.Name x px) "append" apos) [e] [] cpos) none pos.line X.env = pure false := by rfl) :
    DS X R (.Expr (.Call (.Attribute (.Name x px) "append" apos) [e] [] cpos) pos) (oApp k fd) :=
  ⟨ps_expr (pe_bm PySem.F.plainAttrs_list PySem.F.slot_list_append PySem.F.type_list_append mt_append (pe_var hN hv hd hcd) (pa_cons h.pe pa_nil hs) hbase hfew hline hs hplain) hsw, st_app k h.de⟩
/-- xs.extend(e) -/
def oExt (k : Nat) (f : Rho → Option (List D)) : Rho → Option Out := fun ρ => (ownAt ρ k).bind fun ds => (f ρ).bind fun es => if ds.length + es.length ≤ sBig then some (.nx (putOwn ρ k (ds ++ es))) else none
theorem st_ext {K : PySem.W.Frag} {fl : Rho → Option (List D)} (k : Nat) (h : DLt W te fl) : DSt W R (tDrop (tBM K "list" rExtend (tVar k) (tCons te tNil))) (oExt k fl) := ⟨fun {B F H σ ρ o} r e Dn q => by
  obtain ⟨ds, e1, e2⟩ := bind_some e
  obtain ⟨d, e3, e4⟩ := bind_some e2
  split at e4
  · rename_i hl
    cases e4
    obtain ⟨p, vs, h1, h2, h3, h4, _⟩ := r.ownD e1
    refine ⟨_, h1, Or.inl ⟨rfl, _, SqL.of h3⟩, ?_⟩
    refine h.go r e3 _ fun b ws F' H' g n1 n2 hb ab => ?_
    obtain ⟨p', vs', k1, k2, k3, k4, k5⟩ := ownAt_not e1 r g
    rw [h1] at k1
    cases k1
    refine ⟨p, b, vs', ws, rfl, rfl, k3, hb, sz_ok (by rw [k4.len, ab.len]; exact hl), ?_⟩
    exact q σ F' _ (k5 _ _ (k4.app ab))
  · cases e4⟩
theorem ds_ext {k : Nat} {x : Str} {px : Pos} {fl : Rho → Option (List D)} (h : DL X e fl) (hN : X.N[k]? = some x := by rfl) (hv : Vis X.env.scope x := by first | exact Or.inl rfl | exact Or.inr (Or.inl rfl) | exact Or.inr (Or.inr rfl)) (hd : (x == ("__debug__" : Str)) = false := by decide)
    (hcd : (x == ("__classdict__" : Str)) = false := by decide) (hbase : attributeBase (.Name x px) "extend" X.env (eval (.Name x px) X.env) = eval (.Name x px) X.env := by rfl)
    (hfew : ((backTo cpos (starEach [e] X.env)).all (fun x => !x.1) && (backToKw cpos (keywordEach [] X.env)).all (fun x => x.1.isSome) && decide ([e].length + ([] : List Keyword).length + (if ([] : List Keyword).isEmpty then 0 else 1) < 30)) = true := by rfl)
    (hline : (apos.endLine == cpos.line) = true := by rfl) (hs : starEach [e] X.env = (false, eval e X.env) :: starEach [] X.env := by rfl) (hplain : (backTo cpos (starEach [] X.env)).any (·.1) = false := by rfl)
    (hsw : swapsWith (.Call (.Attribute (.Name x px) "extend" apos) [e] [] cpos) none pos.line X.env = pure false := by rfl) :
    DS X R (.Expr (.Call (.Attribute (.Name x px) "extend" apos) [e] [] cpos) pos) (oExt k fl) :=
  ⟨ps_expr (pe_bm PySem.F.plainAttrs_list PySem.F.slot_list_extend PySem.F.type_list_extend mt_extend (pe_var hN hv hd hcd) (pa_cons h.pe pa_nil hs) hbase hfew hline hs hplain) hsw, st_ext k h.de⟩
/-- y = xs.pop() -/
def oPop (i k : Nat) : Rho → Option Out := fun ρ => (ownAt ρ k).bind fun ds => (ds[ds.length - 1]?).map fun d => .nx ((putOwn ρ k ds.dropLast).set i (.val d))
theorem dropLast_dq {F : Hp} {vs : List V} {ds : List D} (a : DqAll F vs ds) : DqAll F vs.dropLast ds.dropLast := by
  rw [List.dropLast_eq_take, List.dropLast_eq_take, a.len]
  exact a.take' _
theorem st_pop {K : PySem.W.Frag} (i k : Nat) : DSt W R (tAsg (tBM0 K "list" rPop (tVar k)) (gName i)) (oPop i k) := ⟨fun {B F H σ ρ o} r e Dn q => by
  obtain ⟨ds, e1, e2⟩ := bind_some e
  obtain ⟨d, e3, e4⟩ := map_some e2
  subst e4
  obtain ⟨p, vs, h1, h2, h3, h4, _, h5⟩ := r.ownD e1
  obtain ⟨v, e5, dv⟩ := h4.get e3
  refine ⟨_, h1, Or.inl ⟨rfl, _, SqL.of h3⟩, p, vs, v, rfl, rfl, h3, by rw [h4.len]; exact e5, ?_⟩
  exact q _ F _ ((h5 _ _ (dropLast_dq h4)).setV i dv)⟩
theorem ds_pop {i k : Nat} {x y : Str} {px py : Pos} (hNd : X.N.Nodup) (hN : X.N[k]? = some x := by rfl) (hv : Vis X.env.scope x := by first | exact Or.inl rfl | exact Or.inr (Or.inl rfl) | exact Or.inr (Or.inr rfl)) (hd : (x == ("__debug__" : Str)) = false := by decide)
    (hcd : (x == ("__classdict__" : Str)) = false := by decide) (hi : X.N[i]? = some y := by rfl) (hy : Loc X.env.scope y := by first | exact Or.inl rfl | exact Or.inr rfl)
    (hs : swapsWith (.Call (.Attribute (.Name x px) "pop" apos) [] [] cpos) (some (.Name y py)) pos.line X.env = pure false := by rfl) (hf : X.fn y = true ∨ X.env.scope.names.lookup y = some .local := by first | exact .inl rfl | exact .inr rfl | assumption)
    (hbase : attributeBase (.Name x px) "pop" X.env (eval (.Name x px) X.env) = eval (.Name x px) X.env := by rfl) (hline : (apos.endLine == cpos.line) = true := by rfl) :
    DS X R (.Assign [.Name y py] (.Call (.Attribute (.Name x px) "pop" apos) [] [] cpos) pos) (oPop i k) :=
  ⟨ps_set hNd hi hy (pe_bm0 PySem.F.plainAttrs_list PySem.F.slot_list_pop PySem.F.type_list_pop mt_pop (pe_var hN hv hd hcd) hbase hline) hs hf, st_pop i k⟩
/-- xs[i] = e -/
def oSub (k : Nat) (fi fd : Rho → Option D) : Rho → Option Out := fun ρ => (fd ρ).bind fun d => (fi ρ).bind fun i => (ownAt ρ k).bind fun ds => match i with
  | .int z => (ixN ds.length z).map fun j => .nx (putOwn ρ k (ds.set j d))
  | _ => none
theorem st_sub {ti : TE} {fi : Rho → Option D} (k : Nat) (h : DEt W te fd) (hi : DEt W ti fi) : DSt W R (tAsg te (gSub (tVar k) ti rSetL)) (oSub k fi fd) := ⟨fun {B F H σ ρ o} r e Dn q => by
  obtain ⟨d, e1, e2⟩ := bind_some e
  obtain ⟨i, e3, e4⟩ := bind_some e2
  obtain ⟨ds, e5, e6⟩ := bind_some e4
  split at e6
  · rename_i z
    obtain ⟨j, e7, e8⟩ := map_some e6
    subst e8
    refine h.go r e1 _ fun v F1 H1 g1 dv => ?_
    have r1 := r.grow g1
    obtain ⟨p, vs, h1, h2, h3, h4, _⟩ := r1.ownD e5
    refine ⟨_, h1, ?_⟩
    refine hi.go r1 e3 _ fun w F2 H2 g2 dw => ?_
    cases dw
    obtain ⟨p', vs', k1, k2, k3, k4, k5⟩ := ownAt_not e5 r1 g2
    rw [h1] at k1
    cases k1
    refine ⟨p, vs', z, j, rfl, rfl, k3, by rw [k4.len]; exact e7, ?_⟩
    exact q σ F2 _ (k5 _ _ (k4.set' j (dv.up g2.ef)))
  · cases e6⟩
theorem ds_sub {k : Nat} {x : Str} {px tpos : Pos} {ei : Expr} {fi : Rho → Option D} (h : DE X e fd) (hi : DE X ei fi) (hN : X.N[k]? = some x := by rfl) (hv : Vis X.env.scope x := by first | exact Or.inl rfl | exact Or.inr (Or.inl rfl) | exact Or.inr (Or.inr rfl)) (hd : (x == ("__debug__" : Str)) = false := by decide)
    (hcd : (x == ("__classdict__" : Str)) = false := by decide) (ha : ∀ v, assign (.Subscript (.Name x px) ei tpos) X.env v = (do
      let ov ← holding [v] (eval (.Name x px) X.env)
      let iv ← holding [v, ov] (eval ei X.env)
      standAt tpos
      holding [v, ov, iv] (setItem ov iv v)
      release [v, ov, iv] []) := by intro _; rfl) (hs : swapsWithSole [.Subscript (.Name x px) ei tpos] e pos.line X.env = pure false := by rfl) (hw : swappedStores [.Subscript (.Name x px) ei tpos] e X.env = pure none := by rfl)
    (h1 : (assignEach [.Subscript (.Name x px) ei tpos] X.env).map (·.2) = [assign (.Subscript (.Name x px) ei tpos) X.env] := by rfl) : DS X R (.Assign [.Subscript (.Name x px) ei tpos] e pos) (oSub k fi fd) :=
  ⟨ps_asg h.pe (pg_sub (pe_var hN hv hd hcd) hi.pe set_list ha) hs hw h1, st_sub k h.de hi.de⟩
end

/-! ### blocks, returns, if -/
def oSeq (g k : Rho → Option Out) : Rho → Option Out := fun ρ => (g ρ).bind fun
  | .nx ρ' => k ρ'
  | o => some o
def frz (ρ : Rho) (i : Nat) : Rho := match ρ[i]? with
  | some (.own ds) => ρ.set i (.val (.list ds))
  | _ => ρ
section
variable {X : Cx} {W : Wd} {R : L2.St → Hp → Prop} {st : Stmt} {rest body els : List Stmt} {t u : TS} {g k : Rho → Option Out} {e : Expr} {te : TE} {tc : TT} {fd : Rho → Option D} {p : Rho → Option Bool} {pos : Pos}
theorem st_seq (h : DSt W R t g) (h2 : DSt W R u k) : DSt W R (tSeq t u) (oSeq g k) := ⟨fun r e Dn q => by
  obtain ⟨o, e1, e2⟩ := bind_some e
  refine h.go r e1 _ ?_
  cases o with
  | nx ρ' => exact fun σ F H r' => h2.go r' e2 Dn q
  | rt d ρ' =>
    cases e2
    exact q
  | bk ρ' =>
    cases e2
    exact q
  | ct ρ' =>
    cases e2
    exact q
  | ex ρ' =>
    cases e2
    exact q⟩
theorem dss_cons (h : DS X R st g) (h2 : DSS X R rest k) : DSS X R (st :: rest) (oSeq g k) := ⟨pss_cons h.pe h2.pe, st_seq h.de h2.de⟩
theorem dss_one (h : DS X R st g) : DSS X R [st] g := ⟨pss_one h.pe, h.de⟩
def oNext : Rho → Option Out := fun ρ => some (.nx ρ)
theorem dss_nil : DSS X R [] oNext := ⟨pss_nil, ⟨fun r e Dn q => by
  cases e
  exact q _ _ _ r⟩⟩
theorem st_frz (i : Nat) (h : DSt W R t g) : DSt W R t (fun ρ => g (frz ρ i)) := ⟨fun {B F H σ ρ o} r e Dn q => by
  unfold frz at e
  split at e
  · rename_i ds hi
    obtain ⟨F', ef, r'⟩ := r.freeze1 hi
    exact h.go r' e Dn q
  · exact h.go r e Dn q⟩
theorem ds_frz (i : Nat) (h : DS X R st g) : DS X R st (fun ρ => g (frz ρ i)) := ⟨h.pe, st_frz i h.de⟩
def oRet (f : Rho → Option D) : Rho → Option Out := fun ρ => (f ρ).map fun d => .rt d ρ
theorem ds_ret (h : DE X e fd) : DS X R (.Return (some e) pos) (oRet fd) := ⟨ps_ret h.pe, ⟨fun r e Dn q => by
  obtain ⟨d, e1, e2⟩ := map_some e
  subst e2
  exact h.de.go r e1 _ fun v F' H' g dv => q v _ F' H' (r.grow g) dv⟩⟩
def oIf (p : Rho → Option Bool) (g k : Rho → Option Out) : Rho → Option Out := fun ρ => (p ρ).bind fun b => if b then g ρ else k ρ
theorem ds_if {c : Expr} (hc : DT X c p) (ha : DSS X R body g) (hb : DSS X R els k) : DS X R (.If c body els pos) (oIf p g k) := ⟨ps_if hc.pe ha.pe hb.pe, ⟨fun r e Dn q => by
  obtain ⟨b, e1, e2⟩ := bind_some e
  refine hc.de.go r e1 _ fun F' H' gr => ?_
  cases b with
  | true =>
    rw [if_pos rfl] at e2 ⊢
    exact ha.de.go (r.grow gr) e2 Dn q
  | false =>
    rw [if_neg Bool.false_ne_true] at e2 ⊢
    exact hb.de.go (r.grow gr) e2 Dn q⟩⟩
/-- while, n turns at most -/
def whileGo (p : Rho → Option Bool) (g : Rho → Option Out) : Nat → Rho → Option Out
  | 0, _ => none
  | n + 1, ρ => (p ρ).bind fun b => if b then (g ρ).bind fun
    | .nx ρ' => whileGo p g n ρ'
    | .ct ρ' => whileGo p g n ρ'
    | .bk ρ' => some (.nx ρ')
    | o => some o
    else some (.nx ρ)
theorem ds_while (n : Nat) {c : Expr} (hp : PassesOwn (model X.prog X.w) X.A X.env X.xe) (hc : DT X c p) (hb : DSS X R body g) : DS X R (.While c body [] pos) (whileGo p g n) := ⟨ps_while hp hc.pe hb.pe, ⟨fun {B F H σ ρ o} r e Dn q => by
  refine ⟨fun m σ' H' => ∃ F' ρ', Rel (wdOf X) B F' H' σ' ρ' ∧ whileGo p g m ρ' = some o, ⟨n, F, ρ, r, e⟩, ?_⟩
  rintro m σ1 H1 ⟨F1, ρ1, r1, e1⟩
  cases m with
  | zero => cases e1
  | succ m =>
    obtain ⟨b, e2, e3⟩ := bind_some e1
    refine hc.de.go r1 e2 _ fun F2 H2 g2 => ?_
    cases b with
    | false =>
      rw [if_neg Bool.false_ne_true] at e3 ⊢
      cases e3
      exact q _ _ _ (r1.grow g2)
    | true =>
      rw [if_pos rfl] at e3 ⊢
      obtain ⟨o2, e4, e5⟩ := bind_some e3
      refine ⟨fun σ' H' => ∃ F' ρ', Rel (wdOf X) B F' H' σ' ρ' ∧ whileGo p g m ρ' = some o, fun σ' H' z => ⟨m, Nat.lt_succ_self m, z⟩, hb.de.go (r1.grow g2) e4 _ ?_⟩
      cases o2 with
      | nx ρ' => exact fun σ' F' H' r' => ⟨F', ρ', r', e5⟩
      | ct ρ' => exact fun σ' F' H' r' => ⟨F', ρ', r', e5⟩
      | bk ρ' =>
        cases e5
        exact q
      | rt d ρ' =>
        cases e5
        exact q
      | ex ρ' =>
        cases e5
        exact q⟩⟩
/-- for -/
def forGo (h : D → Rho → Option Rho) (g : Rho → Option Out) : List D → Rho → Option Out
  | [], ρ => some (.nx ρ)
  | d :: ds, ρ => (h d ρ).bind fun ρ1 => (g ρ1).bind fun
    | .nx ρ' => forGo h g ds ρ'
    | .ct ρ' => forGo h g ds ρ'
    | .bk ρ' => some (.nx ρ')
    | o => some o
def oFor (f : Rho → Option (List D)) (h : D → Rho → Option Rho) (g : Rho → Option Out) : Rho → Option Out := fun ρ => (f ρ).bind fun ds => forGo h g ds ρ
theorem st_for {wi : TI} {tg : TG} {f : Rho → Option (List D)} {h : D → Rho → Option Rho} {at_ : List Nat} (hi : DIt W wi f) (hg : DGt W tg h at_) (hb : DSt W R t g) : DSt W R (tFor wi tg t) (oFor f h g) := ⟨fun {B F H σ ρ o} r e Dn q => by
  obtain ⟨ds, e1, e2⟩ := bind_some e
  refine hi.go r e1 _ fun J F1 H1 g1 wk => ?_
  refine ⟨fun i m σ' H' => m = ds.length - i ∧ i ≤ ds.length ∧ ∃ F' ρ', Rel W B F' H' σ' ρ' ∧ Same F1 F' ∧ forGo h g (ds.drop i) ρ' = some o, ⟨ds.length, by simp, Nat.zero_le _, F1, ρ, r.grow g1, Same.refl _, by simpa using e2⟩, ?_⟩
  rintro i m σ1 H2 ⟨rfl, hil, F2, ρ2, r2, s2, e3⟩
  by_cases hlt : i < ds.length
  · refine Or.inr ⟨wk.goes i H2 hlt (s2.trans r2.fh), fun σ' H' => i + 1 ≤ ds.length ∧ ∃ F' ρ', Rel W B F' H' σ' ρ' ∧ Same F1 F' ∧ forGo h g (ds.drop (i + 1)) ρ' = some o, fun σ' H' z => ⟨ds.length - (i + 1), by omega, rfl, z.1, z.2⟩, fun x H3 y => ?_⟩
    have hdi : ds[i]? = some ds[i] := List.getElem?_eq_getElem hlt
    obtain ⟨F3, g3, dx⟩ := wk.yld i F2 H2 x H3 _ hdi s2 r2.fh y
    rw [drop_at hdi] at e3
    obtain ⟨ρ3, e4, e5⟩ := bind_some e3
    obtain ⟨o2, e6, e7⟩ := bind_some e5
    refine hg.go (r2.grow g3) dx e4 _ fun σ3 r3 _ _ => ?_
    -- what is frozen ahead of the loop stays so: F1 within F3, F3 within what comes
    have main : ∀ (ρ' : Rho), forGo h g (ds.drop (i + 1)) ρ' = some o → ∀ σ' F' H', Rel W { S := B.S, F := B.F, H := B.H } F' H' σ' ρ' → Same F3 F' → i + 1 ≤ ds.length ∧ ∃ F' ρ', Rel W B F' H' σ' ρ' ∧ Same F1 F' ∧ forGo h g (ds.drop (i + 1)) ρ' = some o :=
      fun ρ' e8 σ' F' H' r' s' => ⟨hlt, F', ρ', r', (s2.trans g3.ef).trans s', e8⟩
    have r3' : Rel W ⟨B.S, F3, B.H⟩ F3 H3 σ3 ρ3 := ⟨⟨Same.refl _, r3.fh, r3.gr.keep, r3.gr.there, fun a u e n => n⟩, r3.len, r3.val, fun i s a b => r3.own i s a b, r3.dist⟩
    have up : ∀ {σ' : L2.St} {F' H' : Hp} {ρ' : Rho}, Rel W ⟨B.S, F3, B.H⟩ F' H' σ' ρ' → Rel W B F' H' σ' ρ' := fun {σ' F' H' ρ'} z =>
      ⟨⟨(r3.gr.ef).trans z.gr.ef, z.gr.fh, z.gr.keep, z.gr.there, fun a u e n => z.gr.nw a u e (r3.gr.nw a u e n)⟩, z.len, z.val, fun i s a b => z.own i s a b, z.dist⟩
    refine hb.go r3' e6 _ ?_
    cases o2 with
    | nx ρ' => exact fun σ' F' H' r' => main ρ' e7 σ' F' H' (up r') r'.gr.ef
    | ct ρ' => exact fun σ' F' H' r' => main ρ' e7 σ' F' H' (up r') r'.gr.ef
    | bk ρ' =>
      cases e7
      exact fun σ' F' H' r' => q σ' F' H' (up r')
    | rt d ρ' =>
      cases e7
      exact fun v σ' F' H' r' dv => q v σ' F' H' (up r') dv
    | ex ρ' =>
      cases e7
      exact fun σ' F' H' r' => q σ' F' H' (up r')
  · have ei : i = ds.length := by omega
    subst ei
    rw [List.drop_length] at e3
    cases e3
    exact Or.inl ⟨wk.stops H2 (s2.trans r2.fh), q _ _ _ r2⟩⟩
theorem ds_for {iter tgt : Expr} {f : Rho → Option (List D)} {h : D → Rho → Option Rho} {at_ : List Nat} (hp : PassesOwn (model X.prog X.w) X.A X.env X.xe) (hc : X.calm = true) (hi : DI X tgt iter f) (hg : DG X tgt h at_) (hb : DSS X R body g)
    (hs : ∀ x, foldedSetIterable iter X.env x = pure x := by intro _; rfl) : DS X R (.For tgt iter body [] pos) (oFor f h g) := ⟨ps_for hp hc hi.pe hg.pe hb.pe hs, st_for hi.de hg.de hb.de⟩
end
end GY
set_option Elab.async false
set_option linter.all false
set_option maxRecDepth 100000
set_option maxHeartbeats 4000000
/-! Gy5: defs and calls, more built-ins, comprehensions of two clauses, told by data. -/
namespace GY
open PySem PySem.Spec PyProof.Rows L2

/-! ### defs -/
def SpD (Fn : List D → Option D) : Sp := fun vs H Q _ => ∃ (F : Hp) (ds : List D) (d : D), Same F H ∧ DqAll F vs ds ∧ Fn ds = some d ∧ ∀ v F' H', Grow N0 F H F' H' → Dq F' v d → Q v H'
/-- a def of the text that keeps its promise -/
structure DefD (P : Program) (w : World) (K : PySem.W.Frag) (mg : Str → Option Value) (base : Heap) (x : Str) (k : Nat) (Fn : List D → Option D) : Prop where
  ex : ∃ (f : Addr) (fd : FuncData) (ps : List Str), mg x = some (.ref f) ∧ PySem.W.keepIn K (.ref f) = true ∧ Binds K fd ps [] ∧ FnOk P w K mg base CX0 k f fd ps (SpD Fn)
def startR (n m : Nat) (ds : List D) : Rho := ds.map .val ++ List.replicate (m - n) .no
def resOf : Option Out → Option D
  | some (.rt d _) => some d
  | some (.nx _) => some .none
  | _ => none
def runF (n m : Nat) (g : Rho → Option Out) : List D → Option D := fun ds => if ds.length = n then resOf (g (startR n m ds)) else none
theorem start_rel {W : Wd} {F H : Hp} {N : List Str} {vs : List V} {ds : List D} {n : Nat} (sm : Same F H) (al : DqAll F vs ds) (hn : ds.length = n) : Rel W ⟨N0, F, H⟩ F H (L2.start N vs) (startR n N.length ds) where
  gr := Grow.refl sm
  len := by
    unfold L2.start startR
    rw [List.length_append, List.length_append, List.length_map, List.length_map, List.length_replicate, List.length_replicate, al.len, hn]
  val := fun i d e => by
    unfold startR at e
    unfold L2.start
    by_cases hi : i < ds.length
    · rw [List.getElem?_append_left (by simpa using hi), List.getElem?_map] at e
      rw [List.getElem?_append_left (by simpa [al.len] using hi), List.getElem?_map]
      obtain ⟨d', e1, e2⟩ := Option.map_eq_some_iff.mp e
      cases e2
      obtain ⟨v, h1, h2⟩ := al.get e1
      exact ⟨v, by rw [h1]; rfl, h2⟩
    · rw [List.getElem?_append_right (by simpa using hi), List.getElem?_replicate] at e
      split at e <;> cases e
  own := fun i s e m => by
    unfold startR at e
    by_cases hi : i < ds.length
    · rw [List.getElem?_append_left (by simpa using hi), List.getElem?_map] at e
      obtain ⟨d', e1, e2⟩ := Option.map_eq_some_iff.mp e
      subst e2
      cases m
    · rw [List.getElem?_append_right (by simpa using hi), List.getElem?_replicate] at e
      split at e
      · cases e
        cases m
      · cases e
  dist := fun i j s t p e e' m m' _ _ => by
    unfold startR at e
    by_cases hi : i < ds.length
    · rw [List.getElem?_append_left (by simpa using hi), List.getElem?_map] at e
      obtain ⟨d', e1, e2⟩ := Option.map_eq_some_iff.mp e
      subst e2
      cases m
    · rw [List.getElem?_append_right (by simpa using hi), List.getElem?_replicate] at e
      split at e
      · cases e
        cases m
      · cases e
/-- nothing is raised -/
abbrev R0 : L2.St → Hp → Prop := fun _ _ => False
section
variable {P : Program} {w : World} {K : PySem.W.Frag} {mg : Str → Option Value} {base : Heap}
def BodyOk (P : Program) (w : World) (K : PySem.W.Frag) (mg : Str → Option Value) (base : Heap) (N : List Str) (qual : Str) (st : Stmt) (k : Nat) (g : Rho → Option Out) : Prop :=
  ∀ (f : Addr) (cdv : Value) (A : Around) (outer : List Env) (s : Shared) (H : Hp) (E : XK), Room k (A.deeper (envOfC qual (defScope st) s.heap.objs.size f cdv)) →
    DSS (cxOf CX0 P w K mg base N qual (defScope st) f cdv A outer s H E).nox R0 (defBody st) g
theorem def_mk {x qual : Str} {st : Stmt} {f : Addr} {fd : FuncData} {N ps : List Str} {k n : Nat} {g : Rho → Option Out} (F : Fun K x qual st f fd) (S : FnScope N ps (defScope st)) (bd : Binds K fd ps []) (hm : mg x = some (.ref f)) (hn : ps.length = n) (hb : BodyOk P w K mg base N qual st k g) :
    DefD P w K mg base x (k + 1) (runF n N.length g) := by
  refine ⟨f, fd, ps, hm, F.kp, bd, F.ok S (fun vs H Q E h => ?_) (fun cdv A outer s H vs Q E hr h => ?_)⟩
  · obtain ⟨F0, ds, d, sm, al, hf, _⟩ := h
    unfold runF at hf
    split at hf
    · rename_i hl
      rw [al.len, hl, hn]
    · cases hf
  · obtain ⟨F0, ds, d, sm, al, hf, q⟩ := h
    unfold runF at hf
    split at hf
    · rename_i hl
      have b := hb f cdv A outer s H E hr
      refine ⟨_, b.pe, ?_⟩
      have r := start_rel (W := ⟨P, w, K⟩) (N := N) (n := n) sm al hl
      cases eo : g (startR n N.length ds) with
      | none =>
        rw [eo] at hf
        cases hf
      | some o =>
        rw [eo] at hf
        refine b.de.go r eo _ ?_
        cases o with
        | nx ρ' =>
          cases hf
          exact fun σ' F' H' r' => q _ F' H' r'.gr .non
        | rt d' ρ' =>
          cases hf
          exact fun v σ' F' H' r' dv => q v F' H' r'.gr dv
        | bk ρ' => cases hf
        | ct ρ' => cases hf
        | ex ρ' => cases hf
    · cases hf
end
section
variable {X : Cx} {e : Expr} {es : List Expr} {ta : TA} {g : Rho → Option (List D)} {x : Str} {p pos : Pos} {k : Nat} {Fn : List D → Option D}
theorem de_call (G : DefD X.prog X.w X.K X.mg X.base x k Fn) (hr : Room k X.A) (hg : Gl X x) (ha : DA X (e :: es) g) (hdb : (x == ("__debug__" : Str)) = false := by decide) (he : starEach (e :: es) X.env = (false, eval e X.env) :: starEach es X.env := by rfl) (hpl : (backTo pos (starEach es X.env)).any (·.1) = false := by rfl) :
    DE X (.Call (.Name x p) (e :: es) [] pos) (fun ρ => (g ρ).bind Fn) := by
  obtain ⟨f, fd, ps, hm, hk, hb, F⟩ := G.ex
  refine ⟨pe_call F hr hg hm hk hb .nil pass0 ha.pe hdb he hpl, ⟨fun r e Q q => ?_⟩⟩
  obtain ⟨ds, e1, e2⟩ := bind_some e
  refine ha.de.go r e1 _ fun vs F1 H1 g1 al => ?_
  show SpD Fn (vs ++ []) H1 Q E0
  rw [List.append_nil]
  exact ⟨F1, ds, _, g1.fh, al, e2, fun v F2 H2 g2 dv => q v F2 H2 (g1.trans g2) dv⟩
theorem de_call0 (G : DefD X.prog X.w X.K X.mg X.base x k Fn) (hr : Room k X.A) (hg : Gl X x) (hdb : (x == ("__debug__" : Str)) = false := by decide) : DE X (.Call (.Name x p) [] [] pos) (fun _ => Fn []) := by
  obtain ⟨f, fd, ps, hm, hk, hb, F⟩ := G.ex
  refine ⟨pe_call0 F hr hg hm hk hb .nil pass0 hdb, ⟨fun r e Q q => ?_⟩⟩
  exact ⟨_, [], _, r.fh, .nil, e, fun v F2 H2 g2 dv => q v F2 H2 g2 dv⟩
end
theorem room65 {k : Nat} {A : Around} (r : Room k A) : A.units + 65 < cLine := by
  have := r.un
  omega

/-! ### lists joined, repeated -/
def dCat : D → D → Option (List D)
  | .list a, .list b => if a.length + b.length ≤ sBig then some (a ++ b) else none
  | _, _ => none
def dRep : D → D → Option (List D)
  | .list a, .int k => if 0 ≤ k ∧ k < 2 ^ 62 ∧ a.length * k.toNat ≤ sBig then some (List.replicate k.toNat a).flatten else none
  | _, _ => none
def do2L (h : D → D → Option (List D)) (f g : Rho → Option D) : Rho → Option (List D) := fun ρ => (f ρ).bind fun d => (g ρ).bind fun e => h d e
theorem rep_dq {F : Hp} {vs : List V} {ds : List D} (a : DqAll F vs ds) : ∀ k : Nat, DqAll F (List.replicate k vs).flatten (List.replicate k ds).flatten
  | 0 => .nil
  | k + 1 => by
    rw [List.replicate_succ, List.replicate_succ, List.flatten_cons, List.flatten_cons]
    exact a.app (rep_dq a k)
section
variable {X : Cx} {W : Wd} {a b : Expr} {ta tb : TE} {f g : Rho → Option D} {pos : Pos}
theorem dl_cat (ha : DB X a f) (hb : DB X b g) : DL X (.BinOp a .Add b pos) (do2L dCat f g) := ⟨pe_op op_cat ha.pe hb.pe, ⟨fun rl e Q q => by
  obtain ⟨d, e1, e2⟩ := bind_some e
  obtain ⟨d2, e3, e4⟩ := bind_some e2
  refine ha.de.go rl e1 _ fun v F1 H1 g1 b1 => ?_
  refine hb.de.go (rl.grow g1) e3 _ fun u F2 H2 g2 b2 => ?_
  unfold dCat at e4
  split at e4
  · split at e4
    · rename_i hl
      cases e4
      obtain ⟨p, vs, rfl, h1, a1⟩ := (b1.up g2).list g2.fh
      obtain ⟨p2, ws, rfl, h2, a2⟩ := b2.list g2.fh
      refine ⟨p, p2, vs, ws, rfl, rfl, h1, h2, sz_ok (by rw [a1.len, a2.len]; exact hl), fun l hn => ?_⟩
      have g12 := g1.trans g2
      exact q l _ F2 _ (g12.trans (Grow.newO g2.fh hn)) (g12.back hn) (none_of_same g2.fh hn) upd_same (a1.app a2)
    · cases e4
  · cases e4⟩⟩
theorem dl_rep (ha : DB X a f) (hb : DB X b g) : DL X (.BinOp a .Mult b pos) (do2L dRep f g) := ⟨pe_op op_rep ha.pe hb.pe, ⟨fun rl e Q q => by
  obtain ⟨d, e1, e2⟩ := bind_some e
  obtain ⟨d2, e3, e4⟩ := bind_some e2
  refine ha.de.go rl e1 _ fun v F1 H1 g1 b1 => ?_
  refine hb.de.go (rl.grow g1) e3 _ fun u F2 H2 g2 b2 => ?_
  unfold dRep at e4
  split at e4
  · split at e4
    · rename_i hl
      cases e4
      obtain ⟨p, vs, rfl, h1, a1⟩ := (b1.up g2).list g2.fh
      cases b2.int
      refine ⟨p, _, vs, rfl, rfl, h1, by omega, by omega, sz_ok (by rw [a1.len]; exact hl.2.2), fun l hn => ?_⟩
      have g12 := g1.trans g2
      exact q l _ F2 _ (g12.trans (Grow.newO g2.fh hn)) (g12.back hn) (none_of_same g2.fh hn) upd_same (rep_dq a1 _)
    · cases e4
  · cases e4⟩⟩
end

/-! ### min of two, ranges as lists and tuples -/
def dMin2 : List D → Option D
  | [.int a, .int b] => some (.int (if b < a then b else a))
  | _ => none
def rMin2 : List V → Hp → VK → Prop := fun xs H Q => ∃ i j, xs = [.int i, .int j] ∧ Q (.int (if j < i then j else i)) H
def dRgT : D → Option (List D)
  | .int n => if 0 ≤ n ∧ n ≤ 100000 then some (rngD 0 n.toNat) else none
  | _ => none
theorem rgV_dq {F : Hp} (n : Int) : DqAll F (rgV 0 n) (rngD 0 n.toNat) := by
  have e : rgV 0 n = ((List.range n.toNat).map fun (i : Nat) => (0 : Int) + (i : Int)).map V.int := by
    unfold rgV
    rw [List.map_map, Int.sub_zero]
    rfl
  have e2 : rngD 0 n.toNat = ((List.range n.toNat).map fun (i : Nat) => (0 : Int) + (i : Int)).map PyData.int := by
    unfold rngD
    rw [List.map_map]
    rfl
  rw [e, e2]
  exact dq_ints _
section
variable {X : Cx} {W : Wd} {a b : Expr} {ta tb : TE} {f g : Rho → Option D} {tr : TA} {h : Rho → Option (List D)} {p p2 pos pos2 : Pos}
theorem de_min2 {x : Str} (hx : bootBuiltins x = some (.builtin "min")) (hc : X.calm = true) (hg : Gl X x) (hm : X.mg x = none) (ha : DA X [a, b] h) (hn : x ≠ "__name__" := by decide) (hdb : (x == ("__debug__" : Str)) = false := by decide)
    (he : starEach [a, b] X.env = (false, eval a X.env) :: starEach [b] X.env := by rfl) (hpl : (backTo pos (starEach [b] X.env)).any (·.1) = false := by rfl) : DE X (.Call (.Name x p) [a, b] [] pos) (fun ρ => (h ρ).bind dMin2) :=
  ⟨pe_callB (call_min2 hc) hg hm hx ha.pe hn hdb he hpl, ⟨fun r e Q q => by
    obtain ⟨ds, e1, e2⟩ := bind_some e
    refine ha.de.go r e1 _ fun vs F1 H1 g1 al => ?_
    unfold dMin2 at e2
    split at e2
    · cases e2
      cases al with
      | cons d1 al =>
        cases al with
        | cons d2 al =>
          cases al
          cases d1
          cases d2
          exact ⟨_, _, rfl, q _ F1 H1 g1 (.int _)⟩
    · cases e2⟩⟩
theorem dl_listRg (hc : X.calm = true) (hg : Gl X "list") (hm : X.mg "list" = none) (hg2 : Gl X "range") (hm2 : X.mg "range" = none) (ha : DE X a f) (na : starEach [.Call (.Name "range" p2) [a] [] pos2] X.env = (false, eval (.Call (.Name "range" p2) [a] [] pos2) X.env) :: starEach [] X.env := by rfl)
    (na2 : starEach [a] X.env = (false, eval a X.env) :: starEach [] X.env := by rfl) : DL X (.Call (.Name "list" p) [.Call (.Name "range" p2) [a] [] pos2] [] pos) (fun ρ => (f ρ).bind dRgT) :=
  ⟨pe_listRg hc hg hm (prg_1 hg2 hm2 ha.pe na2) na, ⟨fun r e Q q => by
    obtain ⟨d, e1, e2⟩ := bind_some e
    refine ha.de.go r e1 _ fun v F1 H1 g1 dv => ?_
    unfold dRgT at e2
    split at e2
    · split at e2
      · rename_i hl
        cases e2
        cases dv
        refine ⟨_, rfl, RgOk.of_le (by omega) (by omega) (by omega) (by omega), fun l hn => ?_⟩
        exact q l _ F1 _ (g1.trans (Grow.newO g1.fh hn)) (g1.back hn) (none_of_same g1.fh hn) upd_same (rgV_dq _)
      · cases e2
    · cases e2⟩⟩
theorem de_tupRg (hc : X.calm = true) (hg : Gl X "tuple") (hm : X.mg "tuple" = none) (hg2 : Gl X "range") (hm2 : X.mg "range" = none) (ha : DE X a f) (na : starEach [.Call (.Name "range" p2) [a] [] pos2] X.env = (false, eval (.Call (.Name "range" p2) [a] [] pos2) X.env) :: starEach [] X.env := by rfl)
    (na2 : starEach [a] X.env = (false, eval a X.env) :: starEach [] X.env := by rfl) : DE X (.Call (.Name "tuple" p) [.Call (.Name "range" p2) [a] [] pos2] [] pos) (fun ρ => ((f ρ).bind dRgT).map .tuple) :=
  ⟨pe_tupRg hc hg hm (prg_1 hg2 hm2 ha.pe na2) na, ⟨fun r e Q q => by
    obtain ⟨ds, e0, e3⟩ := map_some e
    subst e3
    obtain ⟨d, e1, e2⟩ := bind_some e0
    refine ha.de.go r e1 _ fun v F1 H1 g1 dv => ?_
    unfold dRgT at e2
    split at e2
    · split at e2
      · rename_i hl
        cases e2
        cases dv
        refine ⟨_, rfl, RgOk.of_le (by omega) (by omega) (by omega) (by omega), fun l hn => ?_⟩
        exact q _ _ _ (g1.trans (Grow.newF g1.fh hn)) (.tup upd_same (rgV_dq _))
      · cases e2
    · cases e2⟩⟩
end

/-! ### isinstance -/
def tyD : D → String
  | .none => "NoneType"
  | .bool _ => "bool"
  | .int _ => "int"
  | .str _ => "str"
  | .list _ => "list"
  | .tuple _ => "tuple"
  | .dict _ => "dict"
def isiD (T : String) (d : D) : Option D := (kitB (tyD d) T).map .bool
def isiD2 (T U : String) (d : D) : Option D := (kitB (tyD d) T).bind fun b => if b then some (.bool true) else (kitB (tyD d) U).map .bool
theorem tyX_of {K : PySem.W.Frag} {F H : Hp} {v : V} {d : D} (sm : Same F H) (h : Bor F H v d) : TyX K H v (.type (tyD d)) := by
  have h2 := h.h sm
  cases h2 with
  | non => exact .base .non
  | bl b => exact .base (.bl b)
  | int i => exact .base (.int i)
  | str x => exact .base (.str x)
  | lst e _ => exact .base (.lst e)
  | tup e _ => exact .base (.tup e)
section
variable {X : Cx} {a : Expr} {ta : TE} {f : Rho → Option D} {p p2 p3 p4 pos : Pos} {k : Nat}
theorem de_isi {y : Str} (T : String) (hy : bootBuiltins y = some (.type T)) (hg : Gl X "isinstance") (hm : X.mg "isinstance" = none) (hg2 : Gl X y) (hm2 : X.mg y = none) (ha : DB X a f) (hn : y ≠ "__name__" := by decide) (hdb : (y == ("__debug__" : Str)) = false := by decide)
    (h1 : starEach [a, .Name y p2] X.env = (false, eval a X.env) :: starEach [.Name y p2] X.env := by rfl) (h2 : starEach [.Name y p2] X.env = (false, eval (.Name y p2) X.env) :: starEach [] X.env := by rfl) (hpl : (backTo pos (starEach [.Name y p2] X.env)).any (·.1) = false := by rfl) :
    DE X (.Call (.Name "isinstance" p) [a, .Name y p2] [] pos) (fun ρ => (f ρ).bind (isiD T)) :=
  ⟨pe_callB call_isi hg hm (by decide +kernel) (pa_cons ha.pe (pa_cons (pe_bltn (v := V.ty T) hg2 hm2 hy rfl hn hdb) pa_nil h2) h1) (by decide) (by decide) h1 hpl, ⟨fun r e Q q => by
    obtain ⟨d, e1, e2⟩ := bind_some e
    obtain ⟨b, e3, e4⟩ := map_some e2
    subst e4
    refine ha.de.go r e1 _ fun v F1 H1 g1 b1 => ?_
    exact ⟨v, .ty T, _, _, b, rfl, .ty T, tyX_of g1.fh b1, kit_ty e3, q _ F1 H1 g1 (.bl b)⟩⟩⟩
theorem de_isi2 {y z : Str} (T U : String) (hy : bootBuiltins y = some (.type T)) (hz : bootBuiltins z = some (.type U)) (hg : Gl X "isinstance") (hm : X.mg "isinstance" = none) (hg2 : Gl X y) (hm2 : X.mg y = none) (hg3 : Gl X z) (hm3 : X.mg z = none) (ha : DB X a f)
    (hn : y ≠ "__name__" := by decide) (hdb : (y == ("__debug__" : Str)) = false := by decide) (hn3 : z ≠ "__name__" := by decide) (hdb3 : (z == ("__debug__" : Str)) = false := by decide)
    (h1 : starEach [a, .Tuple [.Name y p2, .Name z p3] k p4] X.env = (false, eval a X.env) :: starEach [.Tuple [.Name y p2, .Name z p3] k p4] X.env := by rfl)
    (h2 : starEach [.Tuple [.Name y p2, .Name z p3] k p4] X.env = (false, eval (.Tuple [.Name y p2, .Name z p3] k p4) X.env) :: starEach [] X.env := by rfl)
    (h3 : starEach [.Name y p2, .Name z p3] X.env = (false, eval (.Name y p2) X.env) :: starEach [.Name z p3] X.env := by rfl) (h4 : starEach [.Name z p3] X.env = (false, eval (.Name z p3) X.env) :: starEach [] X.env := by rfl)
    (hpl : (backTo pos (starEach [.Tuple [.Name y p2, .Name z p3] k p4] X.env)).any (·.1) = false := by rfl) :
    DE X (.Call (.Name "isinstance" p) [a, .Tuple [.Name y p2, .Name z p3] k p4] [] pos) (fun ρ => (f ρ).bind (isiD2 T U)) :=
  ⟨pe_callB call_isiT hg hm (by decide +kernel) (pa_cons ha.pe (pa_cons (pe_tup (pa_cons (pe_bltn (v := V.ty T) hg2 hm2 hy rfl hn hdb) (pa_cons (pe_bltn (v := V.ty U) hg3 hm3 hz rfl hn3 hdb3) pa_nil h4) h3)) pa_nil h2) h1) (by decide) (by decide) h1 hpl, ⟨fun r e Q q => by
    obtain ⟨d, e1, e2⟩ := bind_some e
    refine ha.de.go r e1 _ fun v F1 H1 g1 b1 => ?_
    refine ⟨by show 2 ≤ sizeLine; decide, fun l hl => ?_⟩
    have gn := Grow.newO (S := N0) (o := HO.tup [V.ty T, V.ty U]) g1.fh hl
    obtain ⟨b, e3, e4⟩ := bind_some e2
    have ty := tyX_of (K := X.K) gn.fh (b1.up gn)
    refine ⟨v, l, [V.ty T, V.ty U], _, [.type T, .type U], (match (if b then some (PyData.bool true) else (kitB (tyD d) U).map .bool) with | some (.bool c) => c | _ => false), rfl, upd_same, .cons (.ty T) (.cons (.ty U) .nil), ty, ?_, ?_⟩
    · refine kitAny_cons (kit_ty e3) (fun hb => ?_) (fun hb => ?_)
      · subst hb
        rw [if_neg Bool.false_ne_true] at e4 ⊢
        obtain ⟨c, e5, e6⟩ := map_some e4
        rw [e5]
        refine kitAny_cons (kit_ty e5) (fun hc => ?_) (fun hc => hc)
        subst hc
        exact kitAny_nil
      · subst hb
        rfl
    · rw [e4]
      cases b with
      | true =>
        rw [if_pos rfl] at e4
        cases e4
        exact q _ F1 _ (g1.trans gn) (.bl _)
      | false =>
        rw [if_neg Bool.false_ne_true] at e4
        obtain ⟨c, e5, e6⟩ := map_some e4
        subst e6
        exact q _ F1 _ (g1.trans gn) (.bl _)⟩⟩
end

/-! ### comprehensions of two clauses -/
def comp2Go (ρ : Rho) (h : D → Rho → Option Rho) (f1 : Rho → Option (List D)) (vs1 : List Nat) (h1 : D → Rho → Option Rho) (el : Rho → Option D) : List D → Option (List D)
  | [] => some []
  | d :: ds => (h d ρ).bind fun ρ1 => (f1 ρ1).bind fun es => (compGo (wipeR ρ1 vs1) h1 (fun _ => some true) el es).bind fun ys => (comp2Go ρ h f1 vs1 h1 el ds).bind fun zs => some (ys ++ zs)
def comp2D (f : Rho → Option (List D)) (h : D → Rho → Option Rho) (f1 : Rho → Option (List D)) (vs1 : List Nat) (h1 : D → Rho → Option Rho) (el : Rho → Option D) (vs : List Nat) : Rho → Option (List D) :=
  fun ρ => (f ρ).bind fun ds => (comp2Go (wipeR ρ vs) h f1 vs1 h1 el ds).bind fun zs => if zs.length < sBig then some zs else none
/-- B, the object at p (not one's own) counted to the entry -/
def Bas.mark (B : Bas) (p : Addr) (o : HO) : Bas := ⟨fun a => B.S a ∧ a ≠ p, B.F, upd B.H p o⟩
section
variable {W : Wd} {B : Bas} {F H F' H' : Hp} {σ : L2.St} {ρ : Rho} {p : Addr} {o : HO}
theorem Rel.mark (r : Rel W B F H σ ρ) (hp : H p = some o) (hf : F p = none) (hm : ¬ Mine σ ρ p) : Rel W (B.mark p o) F H σ ρ where
  gr := ⟨r.gr.ef, r.gr.fh, fun a u e n => by
    by_cases q : a = p
    · subst q
      rw [← e]
      show H a = upd B.H a o a
      rw [upd_same]
      exact hp
    · have e' : B.H a = some u := by
        rw [← e]
        exact (upd_ne q).symm
      exact r.gr.keep a u e' fun z => n ⟨z, q⟩, fun a u e => by
    by_cases q : a = p
    · subst q
      exact ⟨o, hp⟩
    · have e' : B.H a = some u := by
        rw [← e]
        exact (upd_ne q).symm
      exact r.gr.there a u e', fun a u e n => by
    by_cases q : a = p
    · subst q
      exact hf
    · have e' : B.H a = some u := by
        rw [← e]
        exact (upd_ne q).symm
      exact r.gr.nw a u e' n⟩
  len := r.len
  val := r.val
  own := fun i s e m => by
    obtain ⟨q, h1, h2, h3, h4⟩ := r.own i s e m
    have ne : q ≠ p := fun z => hm ⟨i, s, e, m, by rw [← z]; exact h1⟩
    refine ⟨q, h1, h2, h3, ?_⟩
    cases s with
    | rf ds => exact ⟨h4, ne⟩
    | no => exact (upd_ne ne).trans h4
    | val d => exact (upd_ne ne).trans h4
    | own ds => exact (upd_ne ne).trans h4
    | dct ks => exact (upd_ne ne).trans h4
  dist := r.dist
theorem Rel.unmark (r : Rel W (B.mark p o) F H σ ρ) (hb : B.H p = none) : Rel W B F H σ ρ ∧ ¬ Mine σ ρ p := by
  have ne : ∀ a u, B.H a = some u → a ≠ p := fun a u e z => by
    subst z
    rw [hb] at e
    cases e
  have up : ∀ a u, B.H a = some u → (B.mark p o).H a = some u := fun a u e => (upd_ne (ne a u e)).trans e
  have nm : ∀ (i : Nat) (s : Sl) (q : Addr), s.org (B.mark p o) q → q ≠ p := fun i s q h z => by
    subst z
    have k : ∀ u, upd B.H q o q = none → u := fun u e => by
      rw [upd_same] at e
      cases e
    cases s with
    | rf ds => exact h.2 rfl
    | no => exact k _ h
    | val d => exact k _ h
    | own ds => exact k _ h
    | dct ks => exact k _ h
  refine ⟨⟨⟨r.gr.ef, r.gr.fh, fun a u e n => r.gr.keep a u (up a u e) fun z => n z.1, fun a u e => r.gr.there a u (up a u e), fun a u e n => r.gr.nw a u (up a u e) n⟩, r.len, r.val, fun i s e m => ?_, r.dist⟩, ?_⟩
  · obtain ⟨q, h1, h2, h3, h4⟩ := r.own i s e m
    have nq := nm i s q h4
    refine ⟨q, h1, h2, h3, ?_⟩
    cases s with
    | rf ds => exact h4.1
    | no => exact (upd_ne nq).symm.trans h4
    | val d => exact (upd_ne nq).symm.trans h4
    | own ds => exact (upd_ne nq).symm.trans h4
    | dct ks => exact (upd_ne nq).symm.trans h4
  · rintro ⟨i, s, e, m, h⟩
    obtain ⟨q, h1, h2, h3, h4⟩ := r.own i s e m
    rw [h] at h1
    injection h1 with h1
    injection h1 with h1
    injection h1 with h1
    exact nm i s q h4 h1.symm
/-- all but p is kept -/
theorem Rel.growX (r : Rel W B F H σ ρ) (g : Grow (fun a => a = p) F H F' H') (hb : B.H p = none) (hm : ¬ Mine σ ρ p) : Rel W B F' H' σ ρ where
  gr := by
    refine ⟨r.gr.ef.trans g.ef, g.fh, fun a u e n => g.keep a u (r.gr.keep a u e n) fun z => ?_, fun a u e => ?_, fun a u e n => ?_⟩
    · rw [z, hb] at e
      cases e
    · obtain ⟨u', e1⟩ := r.gr.there a u e
      exact g.there a u' e1
    · obtain ⟨u', e1⟩ := r.gr.there a u e
      exact g.nw a u' e1 (r.gr.nw a u e n)
  len := r.len
  val := fun i d e => by
    obtain ⟨v, h1, h2⟩ := r.val i d e
    exact ⟨v, h1, h2.up g.ef⟩
  own := fun i s e m => by
    obtain ⟨q, h1, h2, h3, h4⟩ := r.own i s e m
    have ne : q ≠ p := fun z => hm ⟨i, s, e, m, by rw [← z]; exact h1⟩
    obtain ⟨u, hu⟩ := h3.ex
    exact ⟨q, h1, g.nw q u hu h2, h3.up g.ef fun v hv => g.keep q v hv ne, h4⟩
  dist := r.dist
theorem Grow.transX {F1 H1 : Hp} (a : Grow N0 F1 H1 F H) (b : Grow (fun x => x = p) F H F' H') (hp : H1 p = none) : Grow N0 F1 H1 F' H' where
  ef := a.ef.trans b.ef
  fh := b.fh
  keep := fun x u e n => b.keep x u (a.keep x u e n) fun z => by
    rw [z, hp] at e
    cases e
  there := fun x u e => by
    obtain ⟨u', e1⟩ := a.there x u e
    exact b.there x u' e1
  nw := fun x u e n => by
    obtain ⟨u', e1⟩ := a.there x u e
    exact b.nw x u' e1 (a.nw x u e n)
theorem Mine.wiped {vs : List Nat} {p : Addr} (h : Mine (L2.wipe σ vs) (wipeR ρ vs) p) : Mine σ ρ p := by
  obtain ⟨i, s, e, m, h1⟩ := h
  obtain ⟨h2, h3⟩ := wipe_some h1
  refine ⟨i, s, ?_, m, h2⟩
  have : ∀ vs : List Nat, i ∉ vs → (wipeR ρ vs)[i]? = ρ[i]? := by
    intro vs
    induction vs with
    | nil => intro _; rfl
    | cons v vs ih =>
      intro h
      simp only [List.mem_cons, not_or] at h
      unfold wipeR
      rw [set_off h.1]
      exact ih h.2
  rw [this vs h3] at e
  exact e
end
/-- between two turns of the outer loop | of the inner one -/
structure Comp2At (S : Addr → Prop) (F1 H1 : Hp) (Dl : Addr) (zs tail : List D) (todo : Option (List D)) (H : Hp) : Prop where
  ex : ∃ (F : Hp) (ws : List V) (done more : List D), Grow S F1 H1 F H ∧ F Dl = none ∧ H Dl = some (HO.lst ws) ∧ DqAll F ws done ∧ todo = some more ∧ done ++ (more ++ tail) = zs
section
variable {X : Cx} {W : Wd}
theorem lt_comp2 {wi wi1 : TI} {g g1 : TG} {te : TE} {f f1 : Rho → Option (List D)} {h h1 : D → Rho → Option Rho} {el : Rho → Option D} {vs vs1 at_ at1 : List Nat} (hi : DIt W wi f) (hg : DGt W g h at_) (hi1 : DIt W wi1 f1) (hg1 : DGt W g1 h1 at1) (he : DEt W te el)
    (hv : ∀ j ∈ at_, j ∈ vs) (hv1 : ∀ j ∈ at1, j ∈ vs1) : DLt W (tLc2 wi g tYes wi1 g1 tYes te vs vs1) (comp2D f h f1 vs1 h1 el vs) := ⟨fun {B F H σ ρ zs} r e Q q => by
  obtain ⟨ds, e1, e2⟩ := bind_some e
  obtain ⟨zs', e3, e4⟩ := bind_some e2
  split at e4
  · rename_i hsz
    cases e4
    refine hi.go r e1 _ fun J F1 H1 g1' wk => ?_
    intro Dl hD
    have r1 := r.grow g1'
    have nMine : ¬ Mine σ ρ Dl := fun hm => by
      obtain ⟨_, o, ho⟩ := r1.mineSome hm
      rw [hD] at ho
      cases ho
    have hbD : B.H Dl = none := r1.gr.back hD
    refine ⟨fun i m H' => m = ds.length - i ∧ i ≤ ds.length ∧ Comp2At N0 F1 H1 Dl zs [] (comp2Go (wipeR ρ vs) h f1 vs1 h1 el (ds.drop i)) H', ⟨ds.length, by simp, Nat.zero_le _, ⟨F1, [], [], zs, Grow.newO g1'.fh hD, none_of_same g1'.fh hD, upd_same, .nil, by simpa using e3, by simp⟩⟩, ?_⟩
    rintro i m H2 ⟨rfl, hil, ⟨F2, ws, done, more, g2, fD, hDl, al, etodo, ezs⟩⟩
    by_cases hlt : i < ds.length
    · refine Or.inr ⟨wk.goes i H2 hlt (g2.ef.trans g2.fh), fun H' => i + 1 ≤ ds.length ∧ Comp2At N0 F1 H1 Dl zs [] (comp2Go (wipeR ρ vs) h f1 vs1 h1 el (ds.drop (i + 1))) H', fun H' w => ⟨ds.length - (i + 1), by omega, rfl, w.1, w.2⟩, fun x H3 y => ?_⟩
      have hdi : ds[i]? = some ds[i] := List.getElem?_eq_getElem hlt
      obtain ⟨F3, g3, dx⟩ := wk.yld i F2 H2 x H3 _ hdi g2.ef g2.fh y
      have tD3 : H3 Dl = some (HO.lst ws) := g3.hh _ _ hDl
      have fD3 : F3 Dl = none := g3.nw Dl _ hDl fD
      have r3 := (((r1.grow g2).grow g3).wipe vs).mark tD3 fD3 fun z => nMine z.wiped
      rw [drop_at hdi] at etodo
      obtain ⟨ρ1, k1, k2⟩ := bind_some etodo
      obtain ⟨es, k3, k4⟩ := bind_some k2
      obtain ⟨ys, k5, k6⟩ := bind_some k4
      obtain ⟨rest, k7, k8⟩ := bind_some k6
      have k9 := Option.some.inj k8
      subst k9
      have g23 := g2.trans g3
      refine hg.go r3 dx k1 _ fun σ2 r4m hl2 ha2 => ⟨wipe_same hl2 ha2 hv, ?_⟩
      obtain ⟨r4, nM4⟩ := r4m.unmark hbD
      dsimp only [tYes]
      rw [if_pos rfl]
      refine hi1.go r4 k3 _ fun J1 F4 H4 g4 wk1 => ?_
      have r5 := r4.grow g4
      have g24 := g23.trans g4
      have tD4 := g4.hh _ _ tD3
      have fD4 := g4.nw Dl _ tD3 fD3
      refine ⟨fun j k H' => k = es.length - j ∧ j ≤ es.length ∧ Comp2At (fun a => a = Dl) F4 H4 Dl zs rest (compGo (wipeR ρ1 vs1) h1 (fun _ => some true) el (es.drop j)) H', ⟨es.length, by simp, Nat.zero_le _,
        ⟨F4, ws, done, ys, Grow.refl g4.fh, fD4, tD4, (al.up g3.ef).up g4.ef, by simpa using k5, by rw [List.append_nil] at ezs; exact ezs⟩⟩, ?_⟩
      rintro j k H5 ⟨rfl, hjl, ⟨F5, ws5, done5, more5, g5, fD5, hD5, al5, etodo5, ezs5⟩⟩
      by_cases hjt : j < es.length
      · refine Or.inr ⟨wk1.goes j H5 hjt (g5.ef.trans g5.fh), fun H' => j + 1 ≤ es.length ∧ Comp2At (fun a => a = Dl) F4 H4 Dl zs rest (compGo (wipeR ρ1 vs1) h1 (fun _ => some true) el (es.drop (j + 1))) H', fun H' w => ⟨es.length - (j + 1), by omega, rfl, w.1, w.2⟩, fun x2 H6 y2 => ?_⟩
        have hdj : es[j]? = some es[j] := List.getElem?_eq_getElem hjt
        obtain ⟨F6, g6, dx2⟩ := wk1.yld j F5 H5 x2 H6 _ hdj g5.ef g5.fh y2
        have r6 := ((r5.growX g5 hbD nM4).grow g6).wipe vs1
        rw [drop_at hdj] at etodo5
        obtain ⟨ρ2, m1, m2⟩ := bind_some etodo5
        obtain ⟨b, m3, m4⟩ := bind_some m2
        cases m3
        rw [if_pos rfl] at m4
        obtain ⟨z, m5, m6⟩ := bind_some m4
        obtain ⟨zs2, m7, m8⟩ := bind_some m6
        have m9 := Option.some.inj m8
        refine hg1.go r6 dx2 m1 _ fun σ3 r7 hl3 ha3 => ⟨wipe_same hl3 ha3 hv1, ?_⟩
        dsimp only [tYes]
        rw [if_pos rfl]
        refine he.go r7 m5 _ fun v F7 H7 g7 dv => ?_
        have tD7 : H7 Dl = some (HO.lst ws5) := g7.hh _ _ (g6.hh _ _ hD5)
        have fD7 : F7 Dl = none := g7.nw Dl _ (g6.hh _ _ hD5) (g6.nw Dl _ hD5 fD5)
        have hlen : ws5.length < sBig := by
          have q1 := congrArg List.length ezs5
          rw [List.length_append, List.length_append, ← m9, List.length_cons] at q1
          rw [al5.len]
          omega
        have gAll : Grow (fun a => a = Dl) F4 H4 F7 H7 := g5.trans (g6.trans g7).any
        refine ⟨ws5, tD7, sz_lt hlen, hjt, ⟨F7, ws5 ++ [v], done5 ++ [z], zs2, ?_, fD7, upd_same, ((al5.up g6.ef).up g7.ef).app (DqAll.one dv), m7, ?_⟩⟩
        · exact gAll.trans (Grow.write gAll.fh tD7 fD7 rfl)
        · rw [← ezs5, ← m9]
          simp
      · have ej : j = es.length := by omega
        subst ej
        rw [List.drop_length] at etodo5
        cases etodo5
        refine Or.inl ⟨wk1.stops H5 (g5.ef.trans g5.fh), hlt, ⟨F5, ws5, done5, rest, g24.transX g5 hD, fD5, hD5, al5, k7, ?_⟩⟩
        rw [← ezs5]
        simp
    · have ei : i = ds.length := by omega
      subst ei
      rw [List.drop_length] at etodo
      cases etodo
      rw [List.append_nil, List.append_nil] at ezs
      subst ezs
      exact Or.inl ⟨wk.stops H2 (g2.ef.trans g2.fh), q Dl ws F2 H2 (g1'.trans g2) (g1'.back hD) fD hDl al⟩
  · cases e4⟩
theorem dl_lc2 {elt tg iter tg1 iter1 : Expr} {scope : Scope} {own : List (Str × Nat)} {vs1 : List Nat} {pos : Pos} {f f1 : Rho → Option (List D)} {h h1 : D → Rho → Option Rho} {el : Rho → Option D} {at_ at1 vs : List Nat}
    (hc : X.calm = true) (hN : X.N.Nodup) (hi : DI X tg iter f) (ok : BlkOk X.N X.env.scope scope own) (hv : ∀ i ∈ vs1, i ∈ own.map (·.2))
    (hg : ∀ (s : Shared) (H : Hp) (C : Addr) (cl : List (Str × Addr)) (fp : List Addr), DG (X.blk s H scope (compEnvC scope cl C X.env) fp) tg h at_)
    (hi1 : ∀ (s : Shared) (H : Hp) (C : Addr) (cl : List (Str × Addr)) (fp : List Addr), DI (X.blk s H scope (compEnvC scope cl C X.env) fp) tg1 iter1 f1)
    (hg1 : ∀ (s : Shared) (H : Hp) (C : Addr) (cl : List (Str × Addr)) (fp : List Addr), DG (X.blk s H scope (compEnvC scope cl C X.env) fp) tg1 h1 at1)
    (he : ∀ (s : Shared) (H : Hp) (C : Addr) (cl : List (Str × Addr)) (fp : List Addr), DE (X.blk s H scope (compEnvC scope cl C X.env) fp) elt el)
    (hva : (at_.all fun j => decide (j ∈ own.map (·.2))) = true := by rfl) (hvb : (at1.all fun j => decide (j ∈ vs1)) = true := by rfl)
    (hs : ∀ x, foldedSetIterable iter X.env x = pure x := by intro _; rfl) (hs1 : ∀ env x, foldedSetIterable iter1 env x = pure x := by intro _ _; rfl) (hvs : own.map (·.2) = vs := by rfl) :
    DL X (.ListComp elt [⟨tg, iter, [], 0⟩, ⟨tg1, iter1, [], 0⟩] scope pos) (comp2D f h f1 vs1 h1 el vs) := by
  subst hvs
  exact ⟨pe_lc2 (wi := canI (wdOf X) f) (g := canG (wdOf X) h at_) (wi1 := canI (wdOf X) f1) (g1 := canG (wdOf X) h1 at1) (te := canE (wdOf X) el) hc hN hi.pe ok hv (fun s H C cl fp => (hg s H C cl fp).pe) (fun s H C cl fp => pts_nil) (fun s H C cl fp => (hi1 s H C cl fp).pe) (fun s H C cl fp => (hg1 s H C cl fp).pe) (fun s H C cl fp => pts_nil) (fun s H C cl fp => (he s H C cl fp).pe) hs hs1,
    lt_comp2 canI_de canG_de canI_de canG_de canE_de (fun j hj => of_decide_eq_true (List.all_eq_true.mp hva j hj)) (fun j hj => of_decide_eq_true (List.all_eq_true.mp hvb j hj))⟩
end
end GY
set_option Elab.async false
set_option linter.all false
set_option maxRecDepth 100000
set_option maxHeartbeats 4000000
/-! Gy6: the text by places; what the built-ins' names hold. -/
namespace GY
open PySem PySem.Spec PyProof.Rows L2

def topS (i : Nat) : Stmt := PySem.Challenge.pw_gatheryard_k74_whole_fewest_courses.main.body.getD i (.Pass ⟨0, 0, 0, 0⟩)
/-- these names are the built-ins' -/
structure Tx (mg : Str → Option Value) : Prop where
  isinstance : mg "isinstance" = none
  int : mg "int" = none
  bool : mg "bool" = none
  list : mg "list" = none
  tuple : mg "tuple" = none
  str : mg "str" = none
  all : mg "all" = none
  any : mg "any" = none
  len : mg "len" = none
  range : mg "range" = none
  max : mg "max" = none
  min : mg "min" = none
  sorted : mg "sorted" = none
  set : mg "set" = none
  abs : mg "abs" = none
  zip : mg "zip" = none
  enumerate : mg "enumerate" = none
/-! ### the parts of an expression, of a statement, by number -/
def noE : Expr := .Constant .none 0 ⟨0, 0, 0, 0⟩
def kids : Expr → List Expr
  | .BoolOp _ vs _ => vs
  | .BinOp a _ b _ => [a, b]
  | .UnaryOp _ a _ => [a]
  | .IfExp a b c _ => [a, b, c]
  | .Compare a _ bs _ => a :: bs
  | .Call _ as _ _ => as
  | .Subscript a b _ => [a, b]
  | .List es _ => es
  | .Tuple es _ _ => es
  | .Starred a _ => [a]
  | .ListComp e gs _ _ => e :: (gs.map fun g => g.iter :: g.ifs).flatten
  | _ => []
def kid (e : Expr) (i : Nat) : Expr := (kids e).getD i noE
def skids : Stmt → List Expr
  | .Return (some e) _ => [e]
  | .Assign _ e _ => [e]
  | .Expr e _ => [e]
  | .If e _ _ _ => [e]
  | .While e _ _ _ => [e]
  | .For _ e _ _ _ => [e]
  | _ => []
def skid (s : Stmt) (i : Nat) : Expr := (skids s).getD i noE
def sbods : Stmt → List Stmt
  | .If _ a b _ => a ++ b
  | .While _ a _ _ => a
  | .For _ _ a _ _ => a
  | .Try a _ _ _ _ => a
  | _ => []
def sbod (s : Stmt) (i : Nat) : Stmt := (sbods s).getD i (.Pass ⟨0, 0, 0, 0⟩)
def scopeOf : Expr → Scope
  | .ListComp _ _ sc _ => sc
  | _ => { kind := .function, names := [], isGenerator := false, isCoroutine := false }
end GY
set_option Elab.async false
set_option linter.all false
set_option maxRecDepth 100000
set_option maxHeartbeats 4000000
/-! Gy7: negated numbers, starred displays, three targets, dicts with nested keys, told by data. -/
namespace GY
open PySem PySem.Spec PyProof.Rows L2 StX

/-! ### -n, (*a, b) -/
def dNeg : D → Option D
  | .int i => some (.int (-i))
  | _ => none
def aStar (f : Rho → Option D) (g : Rho → Option (List D)) : Rho → Option (List D) := fun ρ => ((f ρ).bind dItems).bind fun ds => (g ρ).bind fun es => some (ds ++ es)
section
variable {X : Cx} {a : Expr} {es : List Expr} {f : Rho → Option D} {g : Rho → Option (List D)} {pos p : Pos}
theorem de_neg (h : DE X a f) : DE X (.UnaryOp .USub a pos) (fun ρ => (f ρ).bind dNeg) := ⟨pe_un un_neg h.pe, ⟨fun r e Q q => by
  obtain ⟨d, e1, e2⟩ := bind_some e
  refine h.de.go r e1 _ fun v F1 H1 g1 dv => ?_
  unfold dNeg at e2
  split at e2
  · cases e2
    cases dv
    exact ⟨_, rfl, q _ F1 H1 g1 (.int _)⟩
  · cases e2⟩⟩
theorem da_star (h : DE X a f) (k : DA X es g) (hs : starEach (.Starred a p :: es) X.env = (true, eval a X.env) :: starEach es X.env := by rfl) : DA X (.Starred a p :: es) (aStar f g) := ⟨pa_star h.pe k.pe hs, ⟨fun r e Q q => by
  obtain ⟨ds, e1, e2⟩ := bind_some e
  obtain ⟨d, e0, e3⟩ := bind_some e1
  obtain ⟨es', e4, e5⟩ := bind_some e2
  cases e5
  refine h.de.go r e0 _ fun v F1 H1 g1 dv => ?_
  unfold dItems at e3
  split at e3
  · cases e3
    cases dv with
    | lst hf al =>
      refine ⟨_, _, rfl, Or.inr (SqL.of (g1.fh _ _ hf)), ?_⟩
      exact k.de.go (r.grow g1) e4 _ fun ws F2 H2 g2 a2 => q _ F2 H2 (g1.trans g2) ((al.up g2.ef).app a2)
  · cases e3
    cases dv with
    | tup hf al =>
      refine ⟨_, _, rfl, Or.inl (SqT.of (g1.fh _ _ hf)), ?_⟩
      exact k.de.go (r.grow g1) e4 _ fun ws F2 H2 g2 a2 => q _ F2 H2 (g1.trans g2) ((al.up g2.ef).app a2)
  · cases e3⟩⟩
end

/-! ### three targets -/
def oPar3 (i j l : Nat) (f g h : Rho → Option Sl) : Rho → Option Out := fun ρ => (f ρ).bind fun s => (g ρ).bind fun u => (h ρ).bind fun z => some (.nx (((ρ.set i s).set j u).set l z))
def hTup3 (i j l : Nat) : D → Rho → Option Rho := fun d ρ => match d with
  | .tuple [a, b, c] => some (((ρ.set i (.val a)).set j (.val b)).set l (.val c))
  | _ => none
section
variable {X : Cx} {R : L2.St → Hp → Prop} {f1 f2 f3 : Rho → Option Sl} {pos : Pos}
theorem ds_par3 {i j l : Nat} {x y z : Str} {a b c : Expr} {px py pz pt : Pos} {kt k2 pt2} (hc : X.calm = true) (hN : X.N.Nodup) (h : DC X a f1) (k : DC X b f2) (m : DC X c f3)
    (hi : X.N[i]? = some x := by rfl) (hj : X.N[j]? = some y := by rfl) (hl : X.N[l]? = some z := by rfl) (hij : i ≠ j := by decide) (hil : i ≠ l := by decide) (hjl : j ≠ l := by decide)
    (hx : X.env.scope.names.lookup x = some .local := by rfl) (hy : X.env.scope.names.lookup y = some .local := by rfl) (hz : X.env.scope.names.lookup z = some .local := by rfl)
    (hs1 : starEach [a, b, c] X.env = (false, eval a X.env) :: starEach [b, c] X.env := by rfl) (hs2 : starEach [b, c] X.env = (false, eval b X.env) :: starEach [c] X.env := by rfl) (hs3 : starEach [c] X.env = (false, eval c X.env) :: starEach [] X.env := by rfl)
    (hw : swappedStores [.Tuple [.Name x px, .Name y py, .Name z pz] kt pt] (.Tuple [a, b, c] k2 pt2) X.env = pure (some [x, y, z]) := by rfl)
    (hs : swapsWithSole [.Tuple [.Name x px, .Name y py, .Name z pz] kt pt] (.Tuple [a, b, c] k2 pt2) pos.line X.env = pure false := by rfl) :
    DS X R (.Assign [.Tuple [.Name x px, .Name y py, .Name z pz] kt pt] (.Tuple [a, b, c] k2 pt2) pos) (oPar3 i j l f1 f2 f3) :=
  ⟨ps_par3 hc hN hi hj hl hij hil hjl hx hy hz (pa_cons h.pe (pa_cons k.pe (pa_cons m.pe pa_nil hs3) hs2) hs1) hw hs, ⟨fun {B F H σ ρ o} r e Dn q => by
    obtain ⟨s, e1, e2⟩ := bind_some e
    obtain ⟨u, e3, e4⟩ := bind_some e2
    obtain ⟨z', e5, e6⟩ := bind_some e4
    cases e6
    refine h.de.go r e1 _ fun v F1 H1 g1 n1 => k.de.go (r.grow g1) e3 _ fun w F2 H2 g2 n2 => m.de.go ((r.grow g1).grow g2) e5 _ fun w' F3 H3 g3 n3 => ⟨v, w, w', rfl, ?_⟩
    exact q _ F3 H3 (((r.put g1 i n1).put g2 j n2).put g3 l n3)⟩⟩
theorem dg_tup3 {i j l kk : Nat} {x y z : Str} {px py pz : Pos} (hc : X.calm = true) (hN : X.N.Nodup) (hi : X.N[i]? = some x := by rfl) (hx : Loc X.env.scope x := by first | exact Or.inl rfl | exact Or.inr rfl) (hj : X.N[j]? = some y := by rfl) (hy : Loc X.env.scope y := by first | exact Or.inl rfl | exact Or.inr rfl)
    (hl : X.N[l]? = some z := by rfl) (hz : Loc X.env.scope z := by first | exact Or.inl rfl | exact Or.inr rfl)
    (hf : X.fn x = true ∨ X.env.scope.names.lookup x = some .local := by first | exact .inl rfl | exact .inr rfl | assumption) (hf2 : X.fn y = true ∨ X.env.scope.names.lookup y = some .local := by first | exact .inl rfl | exact .inr rfl | assumption) (hf3 : X.fn z = true ∨ X.env.scope.names.lookup z = some .local := by first | exact .inl rfl | exact .inr rfl | assumption)
    (hn : (assignEach [.Name x px, .Name y py, .Name z pz] X.env).length = 3 := by rfl) (hst : (assignEach [.Name x px, .Name y py, .Name z pz] X.env).findIdx? (·.1) = none := by rfl)
    (h1 : (assignEach [.Name x px, .Name y py, .Name z pz] X.env).map (·.2) = assign (.Name x px) X.env :: (assignEach [.Name y py, .Name z pz] X.env).map (·.2) := by rfl) (h2 : (assignEach [.Name y py, .Name z pz] X.env).map (·.2) = assign (.Name y py) X.env :: (assignEach [.Name z pz] X.env).map (·.2) := by rfl)
    (h3 : (assignEach [.Name z pz] X.env).map (·.2) = assign (.Name z pz) X.env :: (assignEach [] X.env).map (·.2) := by rfl) :
    DG X (.Tuple [.Name x px, .Name y py, .Name z pz] kk pos) (hTup3 i j l) [i, j, l] :=
  ⟨pg_tup hc (pgs_cons (pg_name hN hi hx hf) (pgs_cons (pg_name hN hj hy hf2) (pgs_cons (pg_name hN hl hz hf3) pgs_nil h3) h2) h1) hn hst, ⟨fun r dv e Q q => by
    unfold hTup3 at e
    split at e
    · cases e
      cases dv with
      | tup hf al =>
        cases al with
        | cons d1 al =>
          cases al with
          | cons d2 al =>
            cases al with
            | cons d3 al =>
              cases al
              refine ⟨_, _, rfl, SqT.of (r.fh _ _ hf), rfl, _, _, rfl, _, _, rfl, _, _, rfl, rfl, q _ (((r.setV i d1).setV j d2).setV l d3) (by rw [List.length_set, List.length_set, List.length_set]) fun k hk => ?_⟩
              simp only [List.mem_cons, List.not_mem_nil, or_false, not_or] at hk
              rw [set_off hk.2.2, set_off hk.2.1, set_off hk.1]
    · cases e⟩⟩
end

/-! ### dicts whose keys are nested tuples -/
mutual
def keyOf : D → Option NestedKey
  | .none => some .none
  | .int i => some (.num i)
  | .str x => some (.text x)
  | .tuple ds => (keysOf ds).map .tup
  | _ => none
def keysOf : List D → Option (List NestedKey)
  | [] => some []
  | d :: ds => (keyOf d).bind fun k => (keysOf ds).bind fun ks => some (k :: ks)
end
mutual
theorem keyOf_data : ∀ (d : D) (k : NestedKey), keyOf d = some k → k.data = d
  | .none, _, h => by
    cases h
    rfl
  | .int i, _, h => by
    cases h
    rfl
  | .str x, _, h => by
    cases h
    rfl
  | .tuple ds, k, h => by
    unfold keyOf at h
    obtain ⟨ks, e1, e2⟩ := map_some h
    subst e2
    show PyData.tuple (NestedKey.datas ks) = _
    rw [keysOf_data ds ks e1]
  | .bool _, _, h => by cases h
  | .list _, _, h => by cases h
  | .dict _, _, h => by cases h
theorem keysOf_data : ∀ (ds : List D) (ks : List NestedKey), keysOf ds = some ks → NestedKey.datas ks = ds
  | [], _, h => by
    cases h
    rfl
  | d :: ds, _, h => by
    unfold keysOf at h
    obtain ⟨k, e1, e2⟩ := bind_some h
    obtain ⟨ks, e3, e4⟩ := bind_some e2
    cases e4
    show k.data :: NestedKey.datas ks = _
    rw [keyOf_data d k e1, keysOf_data ds ks e3]
end
section
variable {X : Cx} {pins : List (Addr × Obj)} {σ : L2.St} {H : Hp} {s : Shared}
mutual
theorem nested_is (I : Inv X pins σ H s) : ∀ (k : NestedKey) (v : V) (u : Value), Dq H v k.data → RelV v u → NestedIs s.heap k u
  | .none, _, _, h, r => by
    cases h
    cases r
    exact .none
  | .num i, _, _, h, r => by
    cases h
    obtain ⟨t, rfl⟩ := r
    exact .int i t
  | .text x, _, _, h, r => by
    cases h
    obtain ⟨t, rfl⟩ := r
    exact .text x t
  | .tup ks, v, u, h, r => by
    have h' : Dq H v (.tuple (NestedKey.datas ks)) := h
    cases h' with
    | tup hf al =>
      cases r
      obtain ⟨its, rv, ⟨o, ho, hc, n, hd⟩, _⟩ := I.tuple (SqT.of hf)
      exact .tup ho hc hd (nested_all I ks _ its al rv)
theorem nested_all (I : Inv X pins σ H s) : ∀ (ks : List NestedKey) (vs : List V) (us : List Value), DqAll H vs (NestedKey.datas ks) → Vals vs us → NestedAll s.heap ks us
  | [], vs, us, h, r => by
    have h' : DqAll H vs [] := h
    cases h'
    cases r
    exact .nil
  | k :: ks, vs, us, h, r => by
    have h' : DqAll H vs (k.data :: NestedKey.datas ks) := h
    cases h' with
    | cons h1 h2 =>
      cases r with
      | cons r1 r2 => exact .cons (nested_is I k _ _ h1 r1) (nested_all I ks _ _ h2 r2)
end
theorem dct_of (I : Inv X pins σ H s) {p : Addr} {L : List (NestedKey × Addr × Value)} (hp : H p = some (dctO (wdOf X) p L)) (hk : ∀ q ∈ L, Dq H (.ref q.2.1) q.1.data) (hd : ∀ q ∈ L, q.1.depth ≤ 8) : (p == sysModules) = false ∧ s.heap.DictOfH (nestedKind X.prog X.w) p L := by
  obtain ⟨⟨h1, o, es, ep, h2, h3, h4, h5, h6⟩, _⟩ := (I.hok p _ hp)
  exact ⟨h1, o, es, ep, h2, h3, h4, h5, fun q hq => ⟨nested_is I q.1 _ _ (hk q hq) rfl, hd q hq⟩, h6⟩
end
theorem raw_stay {W : Wd} {p : Addr} {L : List (NestedKey × Addr × Value)} : ∀ h1 h2 : Heap, RawDct W h1 p L → (∀ o, h1.get? p = some o → h2.get? p = some o) → RawDct W h2 p L := fun h1 h2 ⟨a, o, es, ep, b, c⟩ k => ⟨a, o, es, ep, k o b, c⟩
theorem dct_ok {P : Program} {w : World} {H : Hp} {W : Wd} {h : Heap} {p : Addr} {L : List (NestedKey × Addr × Value)} (r : RawDct W h p L) : ObjOk P w H h p (dctO W p L) := by
  obtain ⟨a, o, es, ep, b, c⟩ := id r
  exact ⟨r, ⟨o, b⟩, raw_stay⟩
def tDctNew (W : Wd) : TE := fun _ H Q => ∀ p, H p = none → Q (.ref p) (upd H p (dctO W p []))
def cDct : Rho → Option Sl := fun _ => some (.dct [])
theorem mem_atKey {L : List (NestedKey × Addr × Value)} {k : NestedKey} : (atKey L k).isSome = decide (k ∈ L.map (·.1)) := by
  unfold atKey
  rw [Option.isSome_map, Bool.eq_iff_iff, List.find?_isSome]
  simp only [decide_eq_true_eq, List.mem_map]
def dctAt (ρ : Rho) (k : Nat) : Option (List NestedKey) := match ρ[k]? with
  | some (.dct ks) => some ks
  | _ => none
theorem dctAt_some {ρ : Rho} {k : Nat} {ks : List NestedKey} (h : dctAt ρ k = some ks) : ρ[k]? = some (.dct ks) := by
  unfold dctAt at h
  split at h
  · rename_i e
    rw [e, Option.some.inj h]
  · cases h
/-- a not in d -/
def bNotK (k : Nat) (f : Rho → Option D) : Rho → Option Bool := fun ρ => (f ρ).bind fun d => (dctAt ρ k).bind fun ks => (keyOf d).bind fun kd => if kd.depth ≤ 8 ∧ isTup kd then some (!decide (kd ∈ ks)) else none
where isTup : NestedKey → Bool
  | .tup _ => true
  | _ => false
/-- d[a] = True -/
def oDput (k : Nat) (f : Rho → Option D) : Rho → Option Out := fun ρ => (f ρ).bind fun d => (dctAt ρ k).bind fun ks => (keyOf d).bind fun kd =>
  if kd.depth ≤ 8 ∧ bNotK.isTup kd ∧ kd ∉ ks ∧ ks.length < 1000 then some (.nx (ρ.set k (.dct (ks ++ [kd])))) else none
section
variable {X : Cx} {R : L2.St → Hp → Prop} {a : Expr} {f : Rho → Option D} {pos p pk : Pos} {x : Str} {k j : Nat}
theorem dc_dct : DC X (.Dict [] [] pos) cDct := by
  refine DC.mk (t := tDctNew (wdOf X)) ⟨fun pins s σ H Q I h => ?_⟩ ⟨fun r e Q q l hl => ?_⟩
  · have hb : (s.heap.objs.size == sysModules) = false := beq_eq_false_iff_ne.mpr (Ne.symm (Nat.ne_of_lt I.big))
    refine wpAny_Dict_empty ⟨.ref s.heap.objs.size, _, I.laid (a := s.heap.objs.size) (o := dctO (wdOf X) s.heap.objs.size []) (t' := s.toks) (fun _ _ q => Heap.get?_push_of_some _ q) (Nat.le_refl _) (dct_ok ⟨hb, _, #[], 0, Heap.get?_push_size _ rfl, ⟨rfl, rfl, rfl⟩, rfl, rfl, List.nodup_nil⟩), rfl, h _ (I.hok.fresh (Nat.le_refl _))⟩
  · cases e
    exact q _ _ _ (Grow.newO r.fh hl) ⟨l, rfl, hl, none_of_same r.fh hl, _, upd_same, ⟨[], rfl, rfl, (fun _ z => nomatch z), (fun _ z => nomatch z), Nat.zero_le _⟩⟩
/-- a not in d, by values -/
def rNotK (W : Wd) : R2 := fun x y H Q => ∃ (p q : Addr) (L : List (NestedKey × Addr × Value)) (kd : NestedKey), x = .ref q ∧ y = .ref p ∧ H p = some (dctO W p L) ∧ (∀ q ∈ L, Dq H (.ref q.2.1) q.1.data) ∧ (∀ q ∈ L, q.1.depth ≤ 8) ∧ Dq H (.ref q) kd.data ∧ kd.depth ≤ 8 ∧ Q (.bl (!decide (kd ∈ L.map (·.1)))) H
theorem pairsH_any {L : List (NestedKey × Addr × Value)} {kd : NestedKey} : (valueAt (pairsH L) kd).isSome = decide (kd ∈ L.map (·.1)) := by
  rw [valueAt_pairsH, Option.isSome_map, mem_atKey]
theorem op_notK (hu : X.A.units + 65 < cLine) : OpR X (compareOp .NotIn) (rNotK (wdOf X)) := by
  intro pins s σ H x y v u Q I rx ry h
  obtain ⟨p, q, L, kd, rfl, rfl, hp, hk, hd, dk, hdk, hq⟩ := h
  cases rx
  cases ry
  obtain ⟨h1, h2⟩ := dct_of I hp hk hd
  refine notIn_keyed (knd := nestedKind X.prog X.w) (k := kd) (kvs := pairsH L) (by show X.A.in1.units + 8 < cLine; show X.A.units + 1 + 8 < cLine; omega) ⟨nested_is I kd _ _ dk rfl, hdk⟩ h1 ⟨L, h2, rfl⟩ ?_
  rw [pairsH_any]
  exact ⟨.bl _, H, I.tok _, rfl, hq⟩
theorem dT_notK {kr : Nat} (hr : Room kr X.A) (h : DE X a f) (hN : X.N[k]? = some x := by rfl) (hv : Vis X.env.scope x := by first | exact Or.inl rfl | exact Or.inr (Or.inl rfl) | exact Or.inr (Or.inr rfl)) (hd : (x == ("__debug__" : Str)) = false := by decide)
    (hcd : (x == ("__classdict__" : Str)) = false := by decide) (hm : behindInMarks .NotIn (.Name x pk) = false := by rfl) : DT X (.Compare a [.NotIn] [.Name x pk] pos) (bNotK k f) := by
  refine ⟨pt_cmpR (op_notK (room65 hr)) h.pe (pe_var hN hv hd hcd) hm, ⟨fun {B F H σ ρ b} r e Q q => ?_⟩⟩
  obtain ⟨d, e1, e2⟩ := bind_some e
  obtain ⟨ks, e3, e4⟩ := bind_some e2
  obtain ⟨kd, e5, e6⟩ := bind_some e4
  split at e6
  · rename_i hk
    cases e6
    refine h.de.go r e1 _ fun v F1 H1 g1 dv => ?_
    obtain ⟨p, h1, h2, ⟨o, h3, L, rfl, h5, h6, h7, _⟩, _⟩ := (r.grow g1).own k _ (dctAt_some e3) rfl
    refine ⟨_, h1, ?_⟩
    have ed := keyOf_data d kd e5
    have isr : ∃ q, v = .ref q := by
      cases kd with
      | tup l =>
        rw [← ed] at dv
        have dv' : Dq F1 v (.tuple (NestedKey.datas l)) := dv
        cases dv'
        exact ⟨_, rfl⟩
      | none => cases hk.2
      | num i => cases hk.2
      | text x => cases hk.2
    obtain ⟨q', rfl⟩ := isr
    refine ⟨p, q', L, kd, rfl, rfl, h3, fun z hz => (h6 z hz).up g1.fh, h7, by rw [ed]; exact dv.up g1.fh, hk.1, ?_⟩
    rw [h5]
    exact ⟨_, rfl, q F1 H1 g1⟩
  · cases e6
/-- d[a] = True -/
def sNotK (W : Wd) (td ty : TE) : TS := fun D σ H => td σ H fun y H1 => ty σ H1 fun x H2 => ∃ (p q : Addr) (L : List (NestedKey × Addr × Value)) (kd : NestedKey), x = .ref q ∧ y = .ref p ∧ H2 p = some (dctO W p L) ∧ (∀ q ∈ L, Dq H2 (.ref q.2.1) q.1.data) ∧ (∀ q ∈ L, q.1.depth ≤ 8) ∧ Dq H2 (.ref q) kd.data ∧ kd.depth ≤ 8 ∧
  L.length ≤ 1000 ∧ kd ∉ L.map (·.1) ∧ D.nx σ (upd H2 p (dctO W p (L ++ [(kd, q, .bool true)])))
theorem ps_dputK {kr : Nat} {o i : Expr} {td ty : TE} {pos' : Pos} {jj : Nat} {pb : Pos} (hr : Room kr X.A) (ho : PE X o td) (hi : PE X i ty) (hs : swapsWith (.Constant (.bool true) jj pb) (some (.Subscript o i pos')) pos.line X.env = pure false) :
    PS X (.Assign [.Subscript o i pos'] (.Constant (.bool true) jj pb) pos) (sNotK (wdOf X) td ty) := by
  refine ⟨fun pins s σ H D I h => ?_⟩
  refine wpAny_Assign_Subscript (Constant_bool ?_) hs
  refine thn (ho.run pins s σ H _ I h) fun u s2 ⟨y, H2, I2, ry, q2⟩ => thn (hi.run pins s2 σ H2 _ I2 q2) fun iv s3 ⟨x, H3, I3, rx, p, q, L, kd, ex, ey, hp, hk, hd, dk, hdk, hl, hn, q3⟩ => ?_
  subst ex
  subst ey
  cases rx
  cases ry
  obtain ⟨h1, h2⟩ := dct_of I3 hp hk hd
  have hno : atKey L kd = none := by
    cases e : atKey L kd with
    | none => rfl
    | some z =>
      have := mem_atKey (L := L) (k := kd)
      rw [e] at this
      exact absurd (of_decide_eq_true this.symm) hn
  refine wpAny_setItem_heap (hsz := Nat.le_trans hl (by decide)) (knd := nestedKind X.prog X.w) (k := kd) (by show X.A.in1.units + 8 < cLine; show X.A.units + 1 + 8 < cLine; have := room65 hr; omega) ⟨nested_is I3 kd _ _ dk rfl, hdk⟩ h2 fun h' dd' hsb => ?_
  rw [storedH_new hno] at dd'
  obtain ⟨o', es, ep, k1, k2, k3, k4, _, k6⟩ := dd'
  exact ⟨σ, _, d_write I3 (by rw [hp]; exact True.intro) hsb ⟨o', k1⟩ (dct_ok ⟨h1, o', es, ep, k1, k2, k3, k4, k6⟩), q3⟩
theorem ds_dput {kr : Nat} {pos' pb : Pos} {jj : Nat} (hr : Room kr X.A) (h : DE X a f) (hN : X.N[k]? = some x := by rfl) (hv : Vis X.env.scope x := by first | exact Or.inl rfl | exact Or.inr (Or.inl rfl) | exact Or.inr (Or.inr rfl)) (hd : (x == ("__debug__" : Str)) = false := by decide)
    (hcd : (x == ("__classdict__" : Str)) = false := by decide) (hs : swapsWith (.Constant (.bool true) jj pb) (some (.Subscript (.Name x pk) a pos')) pos.line X.env = pure false := by rfl) :
    DS X R (.Assign [.Subscript (.Name x pk) a pos'] (.Constant (.bool true) jj pb) pos) (oDput k f) := by
  refine ⟨ps_dputK hr (pe_var hN hv hd hcd) h.pe hs, ⟨fun {B F H σ ρ o} r e Dn q => ?_⟩⟩
  obtain ⟨d, e1, e2⟩ := bind_some e
  obtain ⟨ks, e3, e4⟩ := bind_some e2
  obtain ⟨kd, e5, e6⟩ := bind_some e4
  split at e6
  · rename_i hk
    cases e6
    obtain ⟨p0, h1, _⟩ := r.own k _ (dctAt_some e3) rfl
    refine ⟨_, h1, ?_⟩
    refine h.de.go r e1 _ fun v F1 H1 g1 dv => ?_
    have r1 := r.grow g1
    obtain ⟨p, h1', h2, ⟨o, h3, L, rfl, h5, h6, h7, h8⟩, horg⟩ := r1.own k _ (dctAt_some e3) rfl
    rw [h1] at h1'
    injection h1' with h1'
    injection h1' with h1'
    injection h1' with h1'
    subst h1'
    have ed := keyOf_data d kd e5
    have isr : ∃ q, v = .ref q := by
      cases kd with
      | tup l =>
        rw [← ed] at dv
        have dv' : Dq F1 v (.tuple (NestedKey.datas l)) := dv
        cases dv'
        exact ⟨_, rfl⟩
      | none => cases hk.2.1
      | num i => cases hk.2.1
      | text x => cases hk.2.1
    obtain ⟨q', rfl⟩ := isr
    have hlen : L.length < 1000 := by
      have := hk.2.2.2
      rw [← h5, List.length_map] at this
      exact this
    refine ⟨p0, q', L, kd, rfl, rfl, h3, fun z hz => (h6 z hz).up g1.fh, h7, by rw [ed]; exact dv.up g1.fh, hk.1, by omega, by rw [h5]; exact hk.2.2.1, ?_⟩
    have mk := dctAt_some e3
    have hil : k < ρ.length := (List.getElem?_eq_some_iff.mp mk).1
    have hbp : B.H p0 = none := horg
    refine q σ F1 _ ⟨⟨r1.gr.ef, fun a u e => by rw [upd_ne (ne_of_none e h2)]; exact r1.gr.fh a u e, fun a u e n => by rw [upd_ne (ne_of_none e hbp)]; exact r1.gr.keep a u e n, fun a u e => by rw [upd_ne (ne_of_none e hbp)]; exact r1.gr.there a u e, r1.gr.nw⟩,
      by rw [List.length_set]; exact r1.len, fun i d hj => ?_, fun i t hj mt => ?_, fun i l t u w hj hl ms mt e1 e2 => ?_⟩
    · rcases getElem_setS hj with ⟨rfl, q1, q2⟩ | ⟨q1, q2⟩
      · cases q1
      · exact r1.val i d q2
    · rcases getElem_setS hj with ⟨rfl, q1, q2⟩ | ⟨q1, q2⟩
      · subst q1
        refine ⟨p0, h1, h2, ⟨_, upd_same, L ++ [(kd, q', .bool true)], rfl, by rw [List.map_append, h5]; rfl, fun z hz => ?_, fun z hz => ?_, ?_⟩, horg⟩
        · rcases List.mem_append.mp hz with hz | hz
          · exact h6 z hz
          · rw [List.mem_singleton.mp hz]
            show Dq F1 (V.ref q') kd.data
            rw [ed]
            exact dv
        · rcases List.mem_append.mp hz with hz | hz
          · exact h7 z hz
          · rw [List.mem_singleton.mp hz]
            exact hk.1
        · rw [List.length_append, List.length_singleton]
          omega
      · obtain ⟨w, e1, e2, e3', e4⟩ := r1.own i t q2 mt
        have ne : w ≠ p0 := fun z => q1 (r1.dist i k t _ p0 q2 mk mt rfl (by rw [← z]; exact e1) h1)
        exact ⟨w, e1, e2, e3'.up (Same.refl _) fun u hu => by rw [upd_ne ne]; exact hu, e4⟩
    · have back : ∀ {l : Nat} {z : Sl}, (ρ.set k (.dct (ks ++ [kd])))[l]? = some z → z.mine = true → ∃ z', ρ[l]? = some z' ∧ z'.mine = true := fun {l z} hl hz => by
        rcases getElem_setS hl with ⟨rfl, q1, q2⟩ | ⟨q1, q2⟩
        · exact ⟨_, mk, rfl⟩
        · exact ⟨z, q2, hz⟩
      obtain ⟨t', b1, b2⟩ := back hj ms
      obtain ⟨u', b3, b4⟩ := back hl mt
      exact r1.dist i l t' u' w b1 b3 b2 b4 e1 e2
  · cases e6
end
end GY
set_option Elab.async false
set_option linter.all false
set_option maxRecDepth 100000
set_option maxHeartbeats 4000000
/-! Gy8: sorted(xs) of tuples of ints of any lengths, and of pairs (int, tuple of ints), told by data. -/
namespace GY
open PySem PySem.Spec PyProof.Rows L2
open PySem.W (EachIs dataLt dataLe alike alikeAll AllAlike Sortable)

/-! ### keys -/
/-- a row of ints as a tuple, or as a pair of its head and the rest -/
def encK : Bool → List Int → D
  | false, k => .tuple (k.map .int)
  | true, n :: ns => .tuple [.int n, .tuple (ns.map .int)]
  | true, [] => .none
def decK : Bool → D → Option (List Int)
  | false, .tuple (.int n :: ds) => (intsOf ds).map (n :: ·)
  | true, .tuple [.int n, .tuple ds] => (intsOf ds).map (n :: ·)
  | _, _ => none
theorem decK_some {b : Bool} {d : D} {k : List Int} (h : decK b d = some k) : d = encK b k ∧ k ≠ [] := by
  unfold decK at h
  split at h
  · obtain ⟨ns, e1, rfl⟩ := map_some h
    exact ⟨by rw [intsOf_some e1]; rfl, by simp⟩
  · obtain ⟨ns, e1, rfl⟩ := map_some h
    exact ⟨by rw [intsOf_some e1]; rfl, by simp⟩
  · cases h
theorem decK_enc {b : Bool} {k : List Int} (h : k ≠ []) : decK b (encK b k) = some k := by
  cases k with
  | nil => exact absurd rfl h
  | cons n ns =>
    cases b with
    | false =>
      show (intsOf (ns.map .int)).map (n :: ·) = _
      rw [intsOf_map] <;> rfl
    | true =>
      show (intsOf (ns.map .int)).map (n :: ·) = _
      rw [intsOf_map] <;> rfl
def decAll (b : Bool) : List D → Option (List (List Int))
  | [] => some []
  | d :: ds => (decK b d).bind fun k => (decAll b ds).map (k :: ·)
theorem decAll_some {b : Bool} : ∀ {ds : List D} {ks : List (List Int)}, decAll b ds = some ks → ds = ks.map (encK b) ∧ ∀ k ∈ ks, k ≠ []
  | [], ks, h => by
    cases h
    exact ⟨rfl, fun k z => nomatch z⟩
  | d :: ds, ks, h => by
    obtain ⟨k, e1, e2⟩ := bind_some h
    obtain ⟨ks', e3, rfl⟩ := map_some e2
    obtain ⟨q1, q2⟩ := decK_some e1
    obtain ⟨q3, q4⟩ := decAll_some e3
    refine ⟨by rw [q1, q3]; rfl, fun x hx => ?_⟩
    rcases List.mem_cons.mp hx with rfl | hx
    · exact q2
    · exact q4 x hx
theorem decAll_enc {b : Bool} : ∀ {ks : List (List Int)}, (∀ k ∈ ks, k ≠ []) → decAll b (ks.map (encK b)) = some ks
  | [], _ => rfl
  | k :: ks, h => by
    show (decK b (encK b k)).bind _ = _
    rw [decK_enc (h k List.mem_cons_self), Option.bind_some, decAll_enc fun x hx => h x (List.mem_cons_of_mem _ hx)] <;> rfl

/-! ### insertion -/
def insL (k : List Int) : List (List Int) → List (List Int)
  | [] => [k]
  | m :: ms => if k ≤ m then k :: m :: ms else m :: insL k ms
def isL : List (List Int) → List (List Int)
  | [] => []
  | k :: ks => insL k (isL ks)
theorem insL_perm (k : List Int) : ∀ ms, (insL k ms).Perm (k :: ms)
  | [] => List.Perm.refl _
  | m :: ms => by
    unfold insL
    split
    · exact List.Perm.refl _
    · exact ((insL_perm k ms).cons m).trans (List.Perm.swap k m ms)
theorem isL_perm : ∀ ks, (isL ks).Perm ks
  | [] => List.Perm.refl _
  | k :: ks => (insL_perm k _).trans ((isL_perm ks).cons k)
theorem not_leL {a b : List Int} (h : ¬ a ≤ b) : b ≤ a := (List.le_total a b).resolve_left h
theorem insL_sorted (k : List Int) : ∀ {ms : List (List Int)}, ms.Pairwise (· ≤ ·) → (insL k ms).Pairwise (· ≤ ·)
  | [], _ => List.pairwise_singleton _ _
  | m :: ms, h => by
    unfold insL
    obtain ⟨h1, h2⟩ := List.pairwise_cons.mp h
    split
    · rename_i hle
      refine List.pairwise_cons.mpr ⟨fun y hy => ?_, h⟩
      rcases List.mem_cons.mp hy with rfl | hy
      · exact hle
      · exact List.le_trans hle (h1 y hy)
    · rename_i hle
      refine List.pairwise_cons.mpr ⟨fun y hy => ?_, insL_sorted k h2⟩
      rcases List.mem_cons.mp ((insL_perm k ms).mem_iff.mp hy) with rfl | hy
      · exact not_leL hle
      · exact h1 y hy
theorem isL_sorted : ∀ ks, (isL ks).Pairwise (· ≤ ·)
  | [] => List.Pairwise.nil
  | k :: ks => insL_sorted k (isL_sorted ks)
theorem sortedL_uniq : ∀ {a b : List (List Int)}, a.Perm b → a.Pairwise (· ≤ ·) → b.Pairwise (· ≤ ·) → a = b
  | [], b, p, _, _ => (List.Perm.nil_eq p)
  | x :: xs, b, p, ha, hb => by
    cases b with
    | nil => exact absurd p.length_eq (by simp)
    | cons y ys =>
      obtain ⟨a1, a2⟩ := List.pairwise_cons.mp ha
      obtain ⟨b1, b2⟩ := List.pairwise_cons.mp hb
      have e : x = y := by
        have h1 : x ∈ y :: ys := p.mem_iff.mp List.mem_cons_self
        have h2 : y ∈ x :: xs := p.mem_iff.mpr List.mem_cons_self
        rcases List.mem_cons.mp h1 with h1 | h1
        · exact h1
        · rcases List.mem_cons.mp h2 with h2 | h2
          · exact h2.symm
          · exact List.le_antisymm (a1 y h2) (b1 x h1)
      subst e
      rw [sortedL_uniq (List.Perm.cons_inv p) a2 b2]
/-- .. each row once -/
def insU (k : List Int) : List (List Int) → List (List Int)
  | [] => [k]
  | m :: ms => if k = m then m :: ms else if k ≤ m then k :: m :: ms else m :: insU k ms
def isU : List (List Int) → List (List Int)
  | [] => []
  | k :: ks => insU k (isU ks)
theorem mem_insU {k x : List Int} : ∀ {ms : List (List Int)}, x ∈ insU k ms ↔ x = k ∨ x ∈ ms
  | [] => by simp [insU]
  | m :: ms => by
    unfold insU
    split
    · rename_i e
      subst e
      simp
    · split
      · simp
      · rw [List.mem_cons, mem_insU, List.mem_cons]
        constructor
        · rintro (h | h | h)
          · exact .inr (.inl h)
          · exact .inl h
          · exact .inr (.inr h)
        · rintro (h | h | h)
          · exact .inr (.inl h)
          · exact .inl h
          · exact .inr (.inr h)
theorem mem_isU {x : List Int} : ∀ {ks : List (List Int)}, x ∈ isU ks ↔ x ∈ ks
  | [] => Iff.rfl
  | k :: ks => by
    show x ∈ insU k (isU ks) ↔ _
    rw [mem_insU, mem_isU, List.mem_cons]
theorem ltL_of {a b : List Int} (h : a ≤ b) (n : a ≠ b) : a < b := by
  rcases Classical.em (a < b) with z | z
  · exact z
  · exact absurd (List.le_antisymm h (List.not_lt.mp z)) n
theorem leL_of {a b : List Int} (h : a < b) : a ≤ b := by
  refine List.not_lt.mp fun z => ?_
  exact List.lt_irrefl _ (List.lt_trans h z)
theorem insU_sorted (k : List Int) : ∀ {ms : List (List Int)}, ms.Pairwise (· < ·) → (insU k ms).Pairwise (· < ·)
  | [], _ => List.pairwise_singleton _ _
  | m :: ms, h => by
    unfold insU
    obtain ⟨h1, h2⟩ := List.pairwise_cons.mp h
    split
    · exact h
    · rename_i hne
      split
      · rename_i hle
        have hlt := ltL_of hle hne
        refine List.pairwise_cons.mpr ⟨fun y hy => ?_, h⟩
        rcases List.mem_cons.mp hy with rfl | hy
        · exact hlt
        · exact List.lt_trans hlt (h1 y hy)
      · rename_i hle
        refine List.pairwise_cons.mpr ⟨fun y hy => ?_, insU_sorted k h2⟩
        rcases mem_insU.mp hy with rfl | hy
        · exact ltL_of (not_leL hle) fun e => hne e.symm
        · exact h1 y hy
theorem isU_sorted : ∀ ks, (isU ks).Pairwise (· < ·)
  | [] => List.Pairwise.nil
  | k :: ks => insU_sorted k (isU_sorted ks)
theorem ltL_nodup {a : List (List Int)} (h : a.Pairwise (· < ·)) : a.Nodup := List.Pairwise.imp (fun {x y} h e => by subst e; exact List.lt_irrefl _ h) h
theorem ltL_le {a : List (List Int)} (h : a.Pairwise (· < ·)) : a.Pairwise (· ≤ ·) := List.Pairwise.imp (fun h => leL_of h) h
theorem uniqU {a ks : List (List Int)} (h : a.Pairwise (· ≤ ·)) (hn : a.Nodup) (hm : ∀ x, x ∈ a ↔ x ∈ ks) : a = isU ks := by
  refine sortedL_uniq ?_ h (ltL_le (isU_sorted ks))
  exact (List.perm_ext_iff_of_nodup hn (ltL_nodup (isU_sorted ks))).mpr fun x => (hm x).trans mem_isU.symm
theorem uniqLt {a b : List (List Int)} (h : a.Pairwise (· < ·)) (k : b.Pairwise (· < ·)) (hm : ∀ x, x ∈ a ↔ x ∈ b) : a = b := by
  refine sortedL_uniq ?_ (ltL_le h) (ltL_le k)
  exact (List.perm_ext_iff_of_nodup (ltL_nodup h) (ltL_nodup k)).mpr hm

/-! ### the model's sorting -/
abbrev Kt : Type := Int × List Int
def kKey (p : Kt) : List Int := p.1 :: p.2
def kEnc (b : Bool) (p : Kt) : D := encK b (kKey p)
def kOf : List Int → Kt
  | n :: ns => (n, ns)
  | [] => (0, [])
theorem kKey_of {k : List Int} (h : k ≠ []) : kKey (kOf k) = k := by
  cases k with
  | nil => exact absurd rfl h
  | cons n ns => rfl
theorem kKey_all : ∀ {ks : List (List Int)}, (∀ k ∈ ks, k ≠ []) → (ks.map kOf).map kKey = ks
  | [], _ => rfl
  | k :: ks, h => by
    rw [List.map_cons, List.map_cons, kKey_of (h k List.mem_cons_self), kKey_all fun x hx => h x (List.mem_cons_of_mem _ hx)]
theorem kEnc_all {b : Bool} {ks : List (List Int)} (h : ∀ k ∈ ks, k ≠ []) : (ks.map kOf).map (kEnc b) = ks.map (encK b) := by
  have e := kKey_all h
  rw [show (ks.map kOf).map (kEnc b) = ((ks.map kOf).map kKey).map (encK b) from (List.map_map (l := ks.map kOf) (f := kKey) (g := encK b)).symm, e]
theorem k_alike (b : Bool) (p q : Kt) : alike (kEnc b p) (kEnc b q) = true := by
  cases b with
  | false =>
    show alike (.tuple (.int p.1 :: p.2.map .int)) (.tuple (.int q.1 :: q.2.map .int)) = true
    rw [alike, alikeAll, PySem.W.alike_ints]
    simp [alike]
  | true =>
    show alike (.tuple [.int p.1, .tuple (p.2.map .int)]) (.tuple [.int q.1, .tuple (q.2.map .int)]) = true
    rw [alike, alikeAll, alikeAll, alike, alike, PySem.W.alike_ints]
    simp [alikeAll]
theorem k_cons (b : Bool) (p : Kt) : ∃ x r, kEnc b p = .tuple (x :: r) := by
  cases b with
  | false => exact ⟨_, _, rfl⟩
  | true => exact ⟨_, _, rfl⟩
theorem k_depth (b : Bool) (p : Kt) : (kEnc b p).depth ≤ 2 := by
  cases b with
  | false =>
    show (PyData.tuple (.int p.1 :: p.2.map .int)).depth ≤ 2
    simp [PyData.depth, PyData.depthAll, PySem.W.depth_ints]
  | true =>
    show (PyData.tuple [.int p.1, .tuple (p.2.map .int)]).depth ≤ 2
    simp [PyData.depth, PyData.depthAll, PySem.W.depth_ints]
theorem eqv_ints : ∀ xs ys : List Int, PyData.eqvAll (xs.map .int) (ys.map .int) = decide (xs = ys)
  | [], [] => by simp [PyData.eqvAll]
  | [], y :: ys => by simp [PyData.eqvAll]
  | x :: xs, [] => by simp [PyData.eqvAll]
  | x :: xs, y :: ys => by
    rw [List.map_cons, List.map_cons, PyData.eqvAll, eqv_ints xs ys, PyData.eqv]
    by_cases h : x = y <;> simp [h]
theorem k_lt (b : Bool) (p q : Kt) : dataLt (kEnc b p) (kEnc b q) = decide (kKey p < kKey q) := by
  cases b with
  | false =>
    show dataLt (.tuple ((kKey p).map .int)) (.tuple ((kKey q).map .int)) = _
    rw [PySem.W.dataLt_tuple]
    exact PySem.W.dataLt_ints _ _
  | true =>
    show dataLt (.tuple [.int p.1, .tuple (p.2.map .int)]) (.tuple [.int q.1, .tuple (q.2.map .int)]) = decide (p.1 :: p.2 < q.1 :: q.2)
    rw [PySem.W.dataLt_pair (by simp [alike]) (by rw [alike, PySem.W.alike_ints]), PySem.W.dataLt_int, PySem.W.dataLt_tuple]
    have e : PyProof.Rows.lexLt PyProof.Rows.itemOrd (PySem.W.keyToksAll (p.2.map .int)) (PySem.W.keyToksAll (q.2.map .int)) = decide (p.2 < q.2) := PySem.W.dataLt_ints _ _
    rw [e]
    simp only [PyData.eqv, beq_iff_eq, eqv_ints, decide_eq_true_eq]
    by_cases h1 : p.1 = q.1
    · by_cases h2 : p.2 = q.2
      · rw [if_pos h1, if_pos h2, h1, h2]
        exact (decide_eq_false (List.lt_irrefl _)).symm
      · rw [if_pos h1, if_neg h2, h1]
        simp [List.cons_lt_cons_iff]
    · rw [if_neg h1]
      simp [h1, List.cons_lt_cons_iff]
theorem k_le (b : Bool) : dataLe false (kEnc b) = fun p q => decide (kKey p ≤ kKey q) := by
  funext p q
  show (!dataLt (kEnc b q) (kEnc b p)) = _
  rw [k_lt]
  by_cases h : kKey q < kKey p
  · have h' : ¬ kKey p ≤ kKey q := fun r => List.not_lt.mpr r h
    simp [h, h']
  · have h' : kKey p ≤ kKey q := List.not_lt.mp h
    simp [h, h']
theorem k_sorted (b : Bool) (ps : List Kt) : (ps.mergeSort (dataLe false (kEnc b))).map kKey = isL (ps.map kKey) := by
  refine sortedL_uniq (((List.mergeSort_perm ps _).map kKey).trans (isL_perm _).symm) ?_ (isL_sorted _)
  rw [k_le]
  have h := List.pairwise_mergeSort (le := fun p q : Kt => decide (kKey p ≤ kKey q)) (fun a b c h1 h2 => decide_eq_true (List.le_trans (of_decide_eq_true h1) (of_decide_eq_true h2))) (fun a b => by
    rcases List.le_total (kKey a) (kKey b) with z | z <;> simp [z]) ps
  exact List.pairwise_map.mpr (h.imp fun z => of_decide_eq_true z)

/-! ### sorted(xs) -/
def dSortK (b : Bool) : D → Option (List D)
  | .list ds => if ds.length ≤ sBig then (decAll b ds).map fun ks => (isL ks).map (encK b) else none
  | _ => none
def dSortD : D → Option (List D) := dSortK false
theorem dqs_each {F : Hp} : ∀ {vs : List V} {us : List Value} {ds : List D}, DqAll F vs ds → Vals vs us → EachIs (fun u d => ∃ v, RelV v u ∧ Dq F v d) us ds
  | _, _, _, .nil, .nil => .nil
  | _, _, _, .cons h t, .cons r rs => .cons ⟨_, r, h⟩ (dqs_each t rs)
theorem each_dqs {F : Hp} : ∀ {us : List Value} {ds : List D}, EachIs (fun u d => ∃ v, RelV v u ∧ Dq F v d) us ds → ∃ vs, Vals vs us ∧ DqAll F vs ds
  | _, _, .nil => ⟨[], .nil, .nil⟩
  | _, _, .cons ⟨v, r, h⟩ t => by
    obtain ⟨vs, rs, hs⟩ := each_dqs t
    exact ⟨v :: vs, .cons r rs, .cons h hs⟩
theorem each_mapped {α β γ : Type} {R : α → γ → Prop} (f : β → γ) : ∀ {as : List α} {bs : List β}, EachIs R as (bs.map f) → EachIs (fun a b => R a (f b)) as bs
  | [], [], .nil => .nil
  | _ :: _, _ :: _, .cons h t => .cons h (each_mapped f t)
def rSortedK (b : Bool) : List V → Hp → VK → Prop := fun xs H Q => ∃ (a : Addr) (vs : List V) (ks : List (List Int)) (F : Hp), xs = [V.ref a] ∧ H a = some (.lst vs) ∧ Same F H ∧ DqAll F vs (ks.map (encK b)) ∧ (∀ k ∈ ks, k ≠ []) ∧ ks.length ≤ sBig ∧
  ∀ (p : Addr) (ws : List V), DqAll F ws ((isL ks).map (encK b)) → H p = none → Q (.ref p) (upd H p (.lst ws))
def rSortedD (K : PySem.W.Frag) : List V → Hp → VK → Prop := rSortedK false
section
variable {X : Cx}
theorem cr_sortedK {k : Nat} (b : Bool) (hr : Room k X.A) : CallR X (.builtin "sorted") (rSortedK b) := by
  intro pins s σ H vs us Q I r h
  obtain ⟨a, xs, ks, F, rfl, ha, sm, dv, hne, hlen, q⟩ := h
  rw [Vals.ref1 r]
  obtain ⟨its, rv, hl, hz⟩ := I.list (SqL.of ha)
  have hun := room65 hr
  have e1 : EachIs (fun u d => ∃ v, RelV v u ∧ Dq F v d) its ((ks.map kOf).map (kEnc b)) := by
    rw [kEnc_all hne]
    exact dqs_each dv rv
  have e2 := each_mapped (kEnc b) e1
  have e3 : EachIs (fun u p => ∃ as, Reads s.heap u (kEnc b p) as) its (ks.map kOf) := e2.mono fun u p ⟨v, rv, hv⟩ => Dp.reads I _ v u (Dq.dp (hv.up sm)) rv
  refine PySem.W.sorted_data hl.isList e2 e3 (AllAlike.of fun p q => k_alike b p q) (Sortable.tuples fun p => k_cons b p) (sz_ok (by rw [List.length_map]; exact hlen)) (fun p _ => ?_) fun out ho eo => ?_
  · have := k_depth b p
    omega
  · obtain ⟨ep, he'⟩ := PyProof.Rows.sortedAll_at s.heap its (List.toArray out)
    have eo' : EachIs (fun u d => ∃ v, RelV v u ∧ Dq F v d) out (((ks.map kOf).mergeSort (dataLe false (kEnc b))).map (kEnc b)) := PySem.W.each_map (R := fun u d => ∃ v, RelV v u ∧ Dq F v d) (kEnc b) eo
    have ek : ((ks.map kOf).mergeSort (dataLe false (kEnc b))).map (kEnc b) = (isL ks).map (encK b) := by
      rw [show ((ks.map kOf).mergeSort (dataLe false (kEnc b))).map (kEnc b) = (((ks.map kOf).mergeSort (dataLe false (kEnc b))).map kKey).map (encK b) from (List.map_map (f := kKey) (g := encK b)).symm, k_sorted, kKey_all hne]
    rw [ek] at eo'
    obtain ⟨ws, rw', dw⟩ := each_dqs eo'
    have hn : H (s.heap.objs.size + 1) = none := I.hok.fresh (Nat.le_succ _)
    have hwl : ws.length ≤ sizeLine := by
      rw [rw'.length, ho, List.length_map]
      exact sz_ok hlen
    exact ⟨.ref _, upd H (s.heap.objs.size + 1) (.lst ws), I.laid (t' := s.toks) (fun _ _ => PyProof.Rows.sortedAll_old) (Nat.le_succ _) ⟨hwl, out, ep, rw', he'⟩, rfl, q _ ws dw hn⟩
theorem cr_sortedD {k : Nat} (hr : Room k X.A) : CallR X (.builtin "sorted") (rSortedD X.K) := cr_sortedK false hr
end
theorem ca_sortK {b : Bool} : CaL (rSortedK b) (dSortK b) := by
  intro F H x d z sm bx hz Q q
  unfold dSortK at hz
  split at hz
  · rename_i ds
    split at hz
    · rename_i hl
      obtain ⟨ks, e1, e2⟩ := map_some hz
      subst e2
      obtain ⟨e3, e4⟩ := decAll_some e1
      subst e3
      obtain ⟨p, vs, rfl, h1, a1⟩ := bx.list sm
      refine ⟨p, vs, ks, F, rfl, h1, sm, a1, e4, by simpa using hl, fun l ws dw hl => ?_⟩
      exact q l _ F _ (Grow.newO sm hl) hl (none_of_same sm hl) upd_same dw
    · cases hz
  · cases hz
theorem ca_sortD {K : PySem.W.Frag} : CaL (rSortedD K) dSortD := ca_sortK
end GY
set_option Elab.async false
set_option linter.all false
set_option maxRecDepth 100000
set_option maxHeartbeats 4000000
/-! Gy9: sorted(set(xs)), the items tuples of ints or pairs (int, tuple of ints). -/
namespace GY
open PySem PySem.Spec PyProof.Rows L2
open PySem.W (EachIs dataLt dataLe alike alikeAll AllAlike Sortable)

/-- the set at a has these members -/
def RawSet (w : World) (a : Addr) (us : List Addr) (h : Heap) : Prop :=
  ∃ es ep t, SetAt h a es ep t ∧ t.fits es.size = true ∧ Ris t.place.toList ∧ (w.params.followText "set-order" = true ∨ t.led = true) ∧ es.toList.map (·.2) = us.map Value.ref ∧ es.size < 64
theorem each_perm {α β : Type} {R : α → β → Prop} : ∀ {as as' : List α}, as'.Perm as → ∀ {bs : List β}, EachIs R as bs → ∃ bs', EachIs R as' bs' ∧ bs'.Perm bs := by
  intro as as' p
  induction p with
  | nil =>
    intro bs h
    exact ⟨bs, h, List.Perm.refl _⟩
  | cons x _ ih =>
    intro bs h
    cases h with
    | cons h t =>
      obtain ⟨bs', h1, h2⟩ := ih t
      exact ⟨_ :: bs', .cons h h1, h2.cons _⟩
  | swap x y l =>
    intro bs h
    cases h with
    | cons h t =>
      cases t with
      | cons h' t => exact ⟨_ :: _ :: _, .cons h' (.cons h t), List.Perm.swap _ _ _⟩
  | trans _ _ ih1 ih2 =>
    intro bs h
    obtain ⟨bs', h1, h2⟩ := ih2 h
    obtain ⟨bs2, h3, h4⟩ := ih1 h1
    exact ⟨bs2, h3, h4.trans h2⟩
theorem each_both {α β : Type} {R S : α → β → Prop} : ∀ {as : List α} {bs : List β}, EachIs R as bs → EachIs S as bs → EachIs (fun a b => R a b ∧ S a b) as bs
  | _, _, .nil, _ => .nil
  | _, _, .cons h t, .cons h' t' => .cons ⟨h, h'⟩ (each_both t t')
section
variable {P : Program} {w : World} {A : Around} {E : Value → Shared → Prop} {s : Shared}
/-- sorted(a set): R tells what the members stand for -/
theorem sorted_setK {β : Type} {R : Value → β → Prop} {enc : β → PyData} {a : Addr} {us : List Addr} {bs : List β} {Q : Value → Shared → Prop} (hh : A.handled = none) (ha : RawSet w a us s.heap) (e : EachIs R (us.map Value.ref) bs)
    (er : EachIs (fun v b => ∃ as, Reads s.heap v (enc b) as) (us.map Value.ref) bs) (hal : ∀ x y : β, alike (enc x) (enc y) = true) (hk : ∀ x, ∃ y r, enc x = .tuple (y :: r)) (hu : ∀ x, A.units + 2 + (enc x).depth < cLine)
    (hQ : ∀ s' p (out : List Value) (c : Nat) (bs' : List β), (∀ b o, s.heap.get? b = some o → s'.heap.get? b = some o) → s'.gens = s.gens → s'.os = s.os → s.heap.objs.size ≤ p →
      s'.heap.get? p = some (seqObj "list" (List.toArray out) c) → out.length = us.length → bs'.Perm bs → EachIs R out (bs'.mergeSort (dataLe false enc)) → Q (.ref p) s') :
    wpAny (model P w) A (call (.builtin "sorted") [.ref a]) Q E s := by
  obtain ⟨es, ep, t, hs, hf, hris, hled, hes, h64⟩ := ha
  refine Calls.call_function_entry kind_sorted plain_sorted entry_sorted (args_sorted1 _) ?_
  unfold Builtin.«sorted»
  refine wpAny_bind (m := checkCount "sorted" 1 1 _) (wpAny_pure ?_)
  refine wpAny_bind (collect_set (A := A.in1) hh hs hf (by unfold scanBound; omega) hris hled fun s1 vs k1 hz g1 o1 pm => ?_)
  rw [hes] at pm
  have hlen : vs.length = us.length := by rw [pm.length_eq, List.length_map]
  have hsz : us.length < 64 := by
    have h := congrArg List.length hes
    rw [List.length_map, Array.length_toList, List.length_map] at h
    omega
  -- what each value stands for, in the new order
  have both : EachIs (fun v b => R v b ∧ ∃ as, Reads s.heap v (enc b) as) (us.map Value.ref) bs := each_both e er
  obtain ⟨bs', eb, pb⟩ := each_perm pm both
  refine wpAny_bind (wpAny_newList ?_ (by rw [sizeLine_eq]; omega))
  have hoL : (s1.heap.push (seqObj "list" vs.toArray 0)).get? s1.heap.objs.size = some (seqObj "list" vs.toArray 0) := Heap.get?_push_size _ rfl
  have keep : ∀ b u, s.heap.get? b = some u → (PySem.W.sortingHeap (s1.heap.push (seqObj "list" vs.toArray 0)) s1.heap.objs.size vs).get? b = some u := fun b u q => by
    have q1 := k1 b u q
    exact PySem.W.sortingHeap_old (Nat.ne_of_lt (Heap.lt_size q1)) (Heap.get?_push_of_some _ q1)
  have er' : EachIs (fun v b => ∃ as, Reads (PySem.W.sortingHeap (s1.heap.push (seqObj "list" vs.toArray 0)) s1.heap.objs.size vs) v (enc b) as) vs bs' := eb.mono fun _ _ ⟨_, as, r⟩ => ⟨as, PyProof.Rows.Reads.keeps keep r⟩
  have S : PySem.W.SortsAt P w A.in1.in1 { s1 with heap := PySem.W.sortingHeap (s1.heap.push (seqObj "list" vs.toArray 0)) s1.heap.objs.size vs } (PySem.W.dataKind (PySem.W.sortingHeap (s1.heap.push (seqObj "list" vs.toArray 0)) s1.heap.objs.size vs) (bs'.map enc)) vs :=
    PySem.W.SortsAt.data (s := { s1 with heap := PySem.W.sortingHeap (s1.heap.push (seqObj "list" vs.toArray 0)) s1.heap.objs.size vs }) (PySem.W.each_map (R := fun v d => ∃ as, Reads (PySem.W.sortingHeap (s1.heap.push (seqObj "list" vs.toArray 0)) s1.heap.objs.size vs) v d as) enc er') (AllAlike.of hal) (Sortable.tuples hk)
      (PySem.W.bound_map fun b _ => hu b)
  refine wpAny_bind (wpAny_holding (wpAny_call_entry slot_list_sort ⟨_, hoL, rfl⟩ entry_list_sort (PySem.W.list_sort_vals (s := { s1 with heap := s1.heap.push (seqObj "list" vs.toArray 0) }) hoL S (by rw [sizeLine_eq]; omega) ⟨.none, rfl, ?_⟩) (args_list_sort _)))
  obtain ⟨c, hc⟩ := sortedHeap_at (vs := vs) (out := (PySem.W.sortVals (PySem.W.dataKind (PySem.W.sortingHeap (s1.heap.push (seqObj "list" vs.toArray 0)) s1.heap.objs.size vs) (bs'.map enc)) false vs vs).toArray) hoL
  refine wpAny_pure ⟨_, rfl, hQ _ s1.heap.objs.size _ c bs' (fun b u q => ?_) g1 o1 hz hc (by rw [PySem.W.sortVals_length false rfl]; exact hlen) pb (PySem.W.sortVals_data false (eb.mono fun _ _ q => q.1) er' (AllAlike.of hal))⟩
  have q1 := k1 b u q
  have hlt := Heap.lt_size q1
  show (sortedHeap (s1.heap.push (seqObj "list" vs.toArray 0)) s1.heap.objs.size vs _).get? b = some u
  rw [sortedHeap_old (Nat.ne_of_lt hlt) (by rw [size_push']; exact Nat.lt_succ_of_lt hlt)]
  exact Heap.get?_push_of_some _ q1
end
/-- sorted(set), told by rows -/
def rSortedSetK (b : Bool) (w : World) : List V → Hp → VK → Prop := fun xs H Q => ∃ (a : Addr) (us : List Addr) (φ : Heap → Prop) (ks : List (List Int)) (F : Hp), xs = [V.ref a] ∧ H a = some (.ext φ) ∧ (∀ h, φ h → RawSet w a us h) ∧ Same F H ∧ DqAll F (us.map V.ref) (ks.map (encK b)) ∧ (∀ k ∈ ks, k ≠ []) ∧
  ∀ (p : Addr) (ws : List V), DqAll F ws ((isL ks).map (encK b)) → H p = none → Q (.ref p) (upd H p (.lst ws))
theorem vals_refs' : ∀ us : List Addr, Vals (us.map V.ref) (us.map Value.ref)
  | [] => .nil
  | u :: us => .cons rfl (vals_refs' us)
section
variable {X : Cx}
theorem isL_of_perm {ks ks' : List (List Int)} (p : ks'.Perm ks) : isL ks' = isL ks := sortedL_uniq ((isL_perm ks').trans (p.trans (isL_perm ks).symm)) (isL_sorted _) (isL_sorted _)
theorem cr_sortedSetK {k : Nat} (b : Bool) (hc : X.calm = true) (hr : Room k X.A) : CallR X (.builtin "sorted") (rSortedSetK b X.w) := by
  intro pins s σ H vs us Q I r h
  obtain ⟨a, as, φ, ks, F, rfl, ha, hφ, sm, dv, hne, q⟩ := h
  rw [Vals.ref1 r]
  have hun := room65 hr
  have e1 : EachIs (fun u d => ∃ v, RelV v u ∧ Dq F v d) (as.map Value.ref) ((ks.map kOf).map (kEnc b)) := by
    rw [kEnc_all hne]
    exact dqs_each dv (vals_refs' as)
  have e2 := each_mapped (kEnc b) e1
  have e3 : EachIs (fun u p => ∃ as, Reads s.heap u (kEnc b p) as) (as.map Value.ref) (ks.map kOf) := e2.mono fun u p ⟨v, rv, hv⟩ => Dp.reads I _ v u (Dq.dp (hv.up sm)) rv
  have raw : RawSet X.w a as s.heap := hφ _ (I.hok a _ ha).1
  refine sorted_setK (I.ok.hd hc) raw e2 e3 (fun p q => k_alike b p q) (fun p => k_cons b p) (fun p => ?_) fun s' p out c bs' kp g o hp hob hlen pm eo => ?_
  · have := k_depth b p
    omega
  · have eo' : EachIs (fun u d => ∃ v, RelV v u ∧ Dq F v d) out ((bs'.mergeSort (dataLe false (kEnc b))).map (kEnc b)) := PySem.W.each_map (R := fun u d => ∃ v, RelV v u ∧ Dq F v d) (kEnc b) eo
    have ek : (bs'.mergeSort (dataLe false (kEnc b))).map (kEnc b) = (isL ks).map (encK b) := by
      rw [show (bs'.mergeSort (dataLe false (kEnc b))).map (kEnc b) = ((bs'.mergeSort (dataLe false (kEnc b))).map kKey).map (encK b) from (List.map_map (f := kKey) (g := encK b)).symm, k_sorted]
      rw [isL_of_perm (pm.map kKey), kKey_all hne]
    rw [ek] at eo'
    obtain ⟨ws, rw', dw⟩ := each_dqs eo'
    have hn : H p = none := I.hok.fresh hp
    have h64 : as.length < 64 := by
      obtain ⟨es, ep, t, _, _, _, _, h5, h6⟩ := raw
      have h := congrArg List.length h5
      rw [List.length_map, Array.length_toList, List.length_map] at h
      omega
    have hwl : ws.length ≤ sizeLine := by
      rw [rw'.length, hlen, sizeLine_eq]
      omega
    have J : Inv X pins σ (upd H p (.lst ws)) { s with heap := s'.heap, gens := s'.gens, drawn := s'.drawn, toks := s'.toks } :=
      I.call (ch := []) (Un.laid kp hp hn) (I.hok.laid kp hp ⟨hwl, out, c, rw', hob⟩) (by rw [g]; exact I.bare) (fun _ z => nomatch z)
    have e : s' = { s with heap := s'.heap, gens := s'.gens, drawn := s'.drawn, toks := s'.toks } := by
      cases s'
      cases s
      cases o
      rfl
    rw [e]
    exact ⟨.ref p, _, J, rfl, q p ws dw hn⟩
end
/-! ### the library's set of tuples, seen so -/
theorem rawSet_of {P : Program} {w : World} {a : Addr} {L : List (Addr × List Int)} {h : Heap} (z : SetT0 P w h a L) : RawSet w a (L.map (·.1)) h := by
  obtain ⟨es, ep, t, ⟨o, ho, hex, hd⟩, h2, h3, h4, h5, h6, h7, h8⟩ := z.ex
  have hsz : es.size = L.length := by
    have q := congrArg List.length h2
    unfold rowsOf at q
    rw [Array.length_toList, List.length_map] at q
    exact q
  refine ⟨es, ep, t, ⟨o, ho, hex.1, hd⟩, ?_, h3.ris, h6, ?_, by omega⟩
  · have h1 := h3.sz
    rw [List.length_map] at h1
    unfold SetTable.fits SetTable.fill
    rw [h3.dm, Bool.and_eq_true, beq_iff_eq, decide_eq_true_eq]
    show t.place.size = es.size ∧ t.place.size + 0 ≤ t.mask
    omega
  · rw [h2]
    unfold rowsOf
    rw [List.map_map, List.map_map] <;> rfl
/-! ### set(xs) -/
def rSetK (b : Bool) (n : Nat) (w : World) : List V → Hp → VK → Prop := fun xs H Q => ∃ (p : Addr) (vs : List V) (ks : List (List Int)) (F : Hp), xs = [V.ref p] ∧ H p = some (.lst vs) ∧ Same F H ∧ DqAll F vs (ks.map (encK b)) ∧ (∀ k ∈ ks, k ≠ []) ∧ ks.length < n ∧
  ∀ (a : Addr) (us : List Addr) (ks' : List (List Int)) (φ : Heap → Prop), H a = none → (∀ h, φ h → RawSet w a us h ∧ ks'.Nodup) → DqAll F (us.map V.ref) (ks'.map (encK b)) → (∀ k, k ∈ ks' ↔ k ∈ ks) → Q (.ref a) (upd H a (.ext φ))
theorem tups_of {F : Hp} : ∀ {vs : List V} {ks : List (List Int)}, DqAll F vs (ks.map (encK false)) → ∃ ps : List (Addr × List Int), vs = ps.map (fun p => V.ref p.1) ∧ ks = ps.map (·.2) ∧ ∀ p ∈ ps, F p.1 = some (HO.tup (p.2.map V.int))
  | vs, [], h => by
    have h' : DqAll F vs [] := h
    cases h'
    exact ⟨[], rfl, rfl, fun p z => nomatch z⟩
  | vs, k :: ks, h => by
    have h' : DqAll F vs (PyData.tuple (k.map .int) :: ks.map (encK false)) := h
    cases h' with
    | cons h1 h2 =>
      obtain ⟨ps, e1, e2, e3⟩ := tups_of h2
      cases h1 with
      | @tup a xs _ hf ha =>
        have e := ints_dq ha
        subst e
        refine ⟨(a, k) :: ps, by rw [e1]; rfl, by rw [e2]; rfl, fun p hp => ?_⟩
        rcases List.mem_cons.mp hp with rfl | hp
        · exact hf
        · exact e3 p hp
theorem dqs_tups {F : Hp} : ∀ (L : List (Addr × List Int)), (∀ p ∈ L, F p.1 = some (HO.tup (p.2.map V.int))) → DqAll F ((L.map (·.1)).map V.ref) ((L.map (·.2)).map (encK false))
  | [], _ => .nil
  | p :: L, h => .cons (.tup (h p List.mem_cons_self) (dq_ints p.2)) (dqs_tups L fun q hq => h q (List.mem_cons_of_mem _ hq))
section
variable {X : Cx}
theorem cr_setK0 {k : Nat} (hc : X.calm = true) (hr : Room k X.A) : CallR X (.type "set") (rSetK false 64 X.w) := by
  intro pins s σ H xs us Q I r h
  obtain ⟨p, vs, ks, F, rfl, hp, sm, dv, hne, hlen, q⟩ := h
  obtain ⟨ps, e1, e2, e3⟩ := tups_of dv
  have hun := room65 hr
  refine cr_setOfT hc (by omega) pins s σ H _ us Q I r ⟨p, ps, rfl, ?_, fun x hx => SqT.of (sm _ _ (e3 x hx)), ?_, fun a L hn hs hall => ?_⟩
  · rw [← e1]
    exact SqL.of hp
  · rw [e2, List.length_map] at hlen
    exact hlen
  · refine q a (L.map (·.1)) (L.map (·.2)) _ hn (fun h z => ⟨rawSet_of z, ?_⟩) (dqs_tups L fun x hx => e3 x (hs x hx)) fun k => ?_
    · obtain ⟨_, _, _, _, _, _, h4, _⟩ := z.ex
      exact h4
    · rw [e2]
      constructor
      · intro hk
        obtain ⟨x, hx, rfl⟩ := List.mem_map.mp hk
        exact List.mem_map.mpr ⟨x, hs x hx, rfl⟩
      · intro hk
        obtain ⟨x, hx, rfl⟩ := List.mem_map.mp hk
        exact hall x hx
end
/-! ### sorted(set(xs)) -/
def dSortS (b : Bool) (n : Nat) : D → Option (List D)
  | .list ds => if ds.length < n then (decAll b ds).map fun ks => (isU ks).map (encK b) else none
  | _ => none
theorem isL_isU {ks ks' : List (List Int)} (hn : ks'.Nodup) (hm : ∀ k, k ∈ ks' ↔ k ∈ ks) : isL ks' = isU ks :=
  uniqU (isL_sorted ks') ((isL_perm ks').nodup_iff.mpr hn) fun x => (isL_perm ks').mem_iff.trans (hm x)
section
variable {X : Cx} {a : Expr} {f : Rho → Option D} {p p2 pos pos2 : Pos}
theorem cr_sortedSetN {k : Nat} (b : Bool) (hc : X.calm = true) (hr : Room k X.A) : CallR X (.builtin "sorted") (fun xs H Q => ∃ (a : Addr) (us : List Addr) (φ : Heap → Prop) (ks : List (List Int)) (F : Hp), xs = [V.ref a] ∧ H a = some (.ext φ) ∧ (∀ h, φ h → RawSet X.w a us h ∧ ks.Nodup) ∧ Same F H ∧ DqAll F (us.map V.ref) (ks.map (encK b)) ∧ (∀ k ∈ ks, k ≠ []) ∧
    ∀ (p : Addr) (ws : List V), ks.Nodup → DqAll F ws ((isL ks).map (encK b)) → H p = none → Q (.ref p) (upd H p (.lst ws))) := by
  intro pins s σ H vs us Q I r h
  obtain ⟨a, as, φ, ks, F, rfl, ha, hφ, sm, dv, hne, q⟩ := h
  have hnd : ks.Nodup := (hφ _ (I.hok a _ ha).1).2
  exact cr_sortedSetK b hc hr pins s σ H _ us Q I r ⟨a, as, φ, ks, F, rfl, ha, fun h z => (hφ h z).1, sm, dv, hne, fun p ws dw hn => q p ws hnd dw hn⟩
theorem dl_sortS {k n : Nat} {b : Bool} (hc : X.calm = true) (hr : Room k X.A) (hset : CallR X (.type "set") (rSetK b n X.w)) (hg : Gl X "sorted") (hm : X.mg "sorted" = none) (hg2 : Gl X "set") (hm2 : X.mg "set" = none) (ha : DB X a f)
    (he : starEach [a] X.env = (false, eval a X.env) :: starEach [] X.env := by rfl) (he2 : starEach [.Call (.Name "set" p2) [a] [] pos2] X.env = (false, eval (.Call (.Name "set" p2) [a] [] pos2) X.env) :: starEach [] X.env := by rfl) :
    DL X (.Call (.Name "sorted" p) [.Call (.Name "set" p2) [a] [] pos2] [] pos) (fun ρ => (f ρ).bind (dSortS b n)) :=
  ⟨pe_callB (cr_sortedSetN b hc hr) hg hm (by decide +kernel) (pa_cons (pe_callTy hset hg2 hm2 PyProof.Rows.boot_set (pa_cons ha.pe pa_nil he) (by decide) (by decide) he) pa_nil he2) (by decide) (by decide) he2, ⟨fun r e Q q => by
    obtain ⟨d, e1, e2⟩ := bind_some e
    refine ha.de.go r e1 _ fun v F1 H1 g1 b1 => ?_
    unfold dSortS at e2
    split at e2
    · rename_i ds
      split at e2
      · rename_i hl
        obtain ⟨ks, e3, e4⟩ := map_some e2
        subst e4
        obtain ⟨e5, e6⟩ := decAll_some e3
        subst e5
        obtain ⟨l, vs, rfl, h1, a1⟩ := b1.list g1.fh
        refine ⟨l, vs, ks, F1, rfl, h1, g1.fh, a1, e6, by simpa using hl, fun a us ks' φ hn hφ du hm' => ?_⟩
        have g2 : Grow N0 F1 H1 F1 (upd H1 a (.ext φ)) := Grow.newO g1.fh hn
        refine ⟨a, us, φ, ks', F1, rfl, upd_same, hφ, g2.fh, du, fun k hk => e6 k ((hm' k).mp hk), fun p' ws hnd dw hn' => ?_⟩
        have g3 : Grow N0 F1 (upd H1 a (.ext φ)) F1 (upd (upd H1 a (.ext φ)) p' (.lst ws)) := Grow.newO g2.fh hn'
        rw [isL_isU hnd hm'] at dw
        refine q p' ws F1 _ (g1.trans (g2.trans g3)) ((g1.trans g2).back hn') (none_of_same g2.fh hn') upd_same dw
      · cases e2
    · cases e2⟩⟩
def dSortSet : D → Option (List D) := dSortS false 64
theorem dl_sortSet {k : Nat} (hc : X.calm = true) (hr : Room k X.A) (hg : Gl X "sorted") (hm : X.mg "sorted" = none) (hg2 : Gl X "set") (hm2 : X.mg "set" = none) (ha : DB X a f)
    (he : starEach [a] X.env = (false, eval a X.env) :: starEach [] X.env := by rfl) (he2 : starEach [.Call (.Name "set" p2) [a] [] pos2] X.env = (false, eval (.Call (.Name "set" p2) [a] [] pos2) X.env) :: starEach [] X.env := by rfl) :
    DL X (.Call (.Name "sorted" p) [.Call (.Name "set" p2) [a] [] pos2] [] pos) (fun ρ => (f ρ).bind dSortSet) := dl_sortS hc hr (cr_setK0 hc hr) hg hm hg2 hm2 ha he he2
end
end GY
set_option Elab.async false
set_option linter.all false
set_option maxRecDepth 100000
set_option maxHeartbeats 4000000
/-! Gya: a set of fewer than five pairs (int, tuple of ints). -/
namespace GY
open PySem PySem.Spec PyProof.Rows L2

/-! ### what the model asks of such a pair -/
/-- the word m answers b wherever it is asked in s -/
def Says (P : Program) (w : World) (s : Shared) (m : Sem Bool) (b : Bool) : Prop := ∀ (A : Around) (E : Value → Shared → Prop) (Q : Bool → Shared → Prop), Q b s → wpAny (model P w) A m Q E s
section
variable {P : Program} {w : World} {A : Around} {E : Value → Shared → Prop} {s : Shared}
/-- a loop over items each of which is passed over -/
theorem says_loop {m : Value → Sem Bool} {b : Bool} {f : Value → Option Bool × PUnit → Sem (ForInStep (Option Bool × PUnit))} {items : Array Value} {Q : Option Bool × PUnit → Shared → Prop}
    (hf : ∀ v r s' (R : ForInStep (Option Bool × PUnit) → Shared → Prop), Says P w s' (m v) b → R (.yield ⟨none, PUnit.unit⟩) s' → wpAny (model P w) A (f v r) R E s') (h : ∀ v ∈ items.toList, Says P w s (m v) b) (hq : Q ⟨none, PUnit.unit⟩ s) :
    wpAny (model P w) A (forIn items (⟨none, PUnit.unit⟩ : Option Bool × PUnit) f) Q E s := by
  rw [← Array.forIn_toList]
  refine wpAny_forIn_list _ (fun rest r s' => r = ⟨none, PUnit.unit⟩ ∧ s' = s ∧ ∀ v ∈ rest, Says P w s (m v) b) _ ?_ ?_ _ _ ⟨rfl, rfl, h⟩
  · rintro v rest r s' ⟨hr, rfl, hall⟩
    exact hf v r s' _ (hall v List.mem_cons_self) ⟨rfl, rfl, fun u hu => hall u (List.mem_cons_of_mem _ hu)⟩
  · rintro r s' ⟨hr, rfl, _⟩
    rw [hr]
    exact hq
theorem class_tup {d : Nat} {b : Addr} {o : Obj} {items : Array Value} {n : Nat} (ho : s.heap.get? b = some o) (hc : o.cls = .type "tuple") (hd : o.data = .seq items n) (h : ∀ v ∈ items.toList, Says P w s (ofAClassStatement d v) false) :
    Says P w s (ofAClassStatement (d + 1) (.ref b)) false := fun A E Q hq => by
  unfold ofAClassStatement
  refine wpAny_bind (wpAny_typeOf (T := "tuple") ⟨o, ho, hc⟩ ?_)
  dsimp only
  have e : (("tuple" : String) == "tuple") = true := by decide
  simp only [e, if_true, Bool.not_true, Bool.false_eq_true, if_false]
  try refine wpAny_bind (wpAny_pure ?_)
  try simp only [Bool.not_true, Bool.false_eq_true, if_false]
  show wpAny _ _ (seqItems? (.ref b) >>= _) _ _ s
  refine wpAny_bind (wpAny_seqItems ho hd ?_)
  dsimp only
  refine wpAny_bind ?_
  refine says_loop (m := ofAClassStatement d) (b := false) (fun v r s' R hv hr => ?_) h (wpAny_pure hq)
  refine wpAny_bind (hv _ _ _ ?_)
  simp only [Bool.false_eq_true, if_false]
  exact wpAny_pure hr
theorem hash_tup {d : Nat} {b : Addr} {o : Obj} {items : Array Value} {n : Nat} (ho : s.heap.get? b = some o) (hc : o.cls = .type "tuple") (hd : o.data = .seq items n) (h : ∀ v ∈ items.toList, Says P w s (hashByValue d v) true) :
    Says P w s (hashByValue (d + 1) (.ref b)) true := fun A E Q hq => by
  unfold hashByValue
  refine wpAny_bind (wpAny_specialOf (T := "tuple") ⟨o, ho, hc⟩ F.slot_tuple_hash.lookup ?_)
  show wpAny _ _ (seqItems? (.ref b) >>= _) _ _ s
  refine wpAny_bind (wpAny_seqItems ho hd ?_)
  refine wpAny_bind ?_
  refine says_loop (m := hashByValue d) (b := true) (fun v r s' R hv hr => ?_) h (wpAny_pure hq)
  refine wpAny_bind (hv _ _ _ ?_)
  simp only [Bool.not_true, Bool.false_eq_true, if_false]
  exact wpAny_pure hr

/-! ### the pair -/
def nkOf (k : Kt) : NestedKey := .tup [.num k.1, .tup (k.2.map .num)]
/-- at a the heap has the pair k -/
def IsN (h : Heap) (k : Kt) (a : Addr) : Prop := ∃ o n t c oc vs m, h.get? a = some o ∧ o.cls = .type "tuple" ∧ o.data = .seq #[.int k.1 t, .ref c] n ∧ h.get? c = some oc ∧ oc.cls = .type "tuple" ∧ oc.data = .seq vs m ∧ IntsAre vs.toList k.2
theorem nested_ints {h : Heap} : ∀ {vs : List Value} {ns : List Int}, IntsAre vs ns → NestedAll h (ns.map .num) vs
  | _, _, .nil => .nil
  | _, _, .cons n t r => .cons (.int n t) (nested_ints r)
theorem IsN.nested {h : Heap} {k : Kt} {a : Addr} (x : IsN h k a) : NestedIs h (nkOf k) (.ref a) := by
  obtain ⟨o, n, t, c, oc, vs, m, h1, h2, h3, h4, h5, h6, h7⟩ := x
  exact .tup h1 h2 h3 (.cons (.int _ _) (.cons (.tup h4 h5 h6 (nested_ints h7)) .nil))
theorem depth_nums : ∀ ns : List Int, NestedKey.depthAll (ns.map .num) = 0
  | [] => by simp [NestedKey.depthAll]
  | n :: ns => by
    show NestedKey.depthAll (.num n :: ns.map .num) = 0
    simp [NestedKey.depthAll, NestedKey.depth, depth_nums ns]
theorem depth_nk (k : Kt) : (nkOf k).depth = 2 := by
  unfold nkOf
  simp [NestedKey.depthAll, NestedKey.depth, depth_nums]
theorem nums_inj : ∀ {a b : List Int}, a.map NestedKey.num = b.map NestedKey.num → a = b
  | [], [], _ => rfl
  | x :: a, y :: b, h => by
    have h' : NestedKey.num x :: a.map NestedKey.num = NestedKey.num y :: b.map NestedKey.num := h
    injection h' with h1 h2
    injection h1 with h1
    rw [h1, nums_inj h2]
theorem nk_inj {k l : Kt} (h : nkOf k = nkOf l) : k = l := by
  unfold nkOf at h
  injection h with h
  injection h with h1 h2
  injection h1 with h1
  injection h2 with h2 _
  injection h2 with h2
  exact Prod.ext h1 (nums_inj h2)
theorem beq_nk (k l : Kt) : NestedKey.beq (nkOf k) (nkOf l) = decide (k = l) := by
  rw [← NestedKey.decide_eq]
  by_cases h : k = l
  · simp [h]
  · have h' : nkOf k ≠ nkOf l := fun e => h (nk_inj e)
    simp [h, h']
theorem IsN.keep {h h' : Heap} {k : Kt} {a : Addr} (x : IsN h k a) (kp : ∀ b o vs n, h.get? b = some o → o.data = .seq vs n → h'.get? b = some o) : IsN h' k a := by
  obtain ⟨o, n, t, c, oc, vs, m, h1, h2, h3, h4, h5, h6, h7⟩ := x
  exact ⟨o, n, t, c, oc, vs, m, kp _ _ _ _ h1 h3, h2, h3, kp _ _ _ _ h4 h6, h5, h6, h7⟩
theorem class_int (d : Nat) (i : Int) (t : Tok) : Says P w s (ofAClassStatement d (.int i t)) false := fun A E Q h => by
  rw [ofAClass_int]
  exact wpAny_pure h
theorem hash_int' (d : Nat) (i : Int) (t : Tok) : Says P w s (hashByValue d (.int i t)) true := fun A E Q h => by
  rw [hashBy_int]
  exact wpAny_pure h
theorem ints_each {vs : List Value} {ns : List Int} (h : IntsAre vs ns) : ∀ v ∈ vs, ∃ i t, v = Value.int i t := by
  induction h with
  | nil => intro v hv; cases hv
  | cons n t _ ih =>
    intro v hv
    rcases List.mem_cons.mp hv with e | hv
    · exact ⟨n, t, e⟩
    · exact ih v hv
theorem IsN.class_ {k : Kt} {a : Addr} (x : IsN s.heap k a) : Says P w s (ofAClassStatement 8 (.ref a)) false := by
  obtain ⟨o, n, t, c, oc, vs, m, h1, h2, h3, h4, h5, h6, h7⟩ := x
  refine class_tup h1 h2 h3 fun v hv => ?_
  rcases List.mem_cons.mp hv with rfl | hv
  · exact class_int _ _ _
  · rcases List.mem_cons.mp hv with rfl | hv
    · refine class_tup h4 h5 h6 fun v hv => ?_
      obtain ⟨i, t, rfl⟩ := ints_each h7 v hv
      exact class_int _ _ _
    · cases hv
theorem IsN.hash_ {k : Kt} {a : Addr} (x : IsN s.heap k a) : Says P w s (hashByValue 8 (.ref a)) true := by
  obtain ⟨o, n, t, c, oc, vs, m, h1, h2, h3, h4, h5, h6, h7⟩ := x
  refine hash_tup h1 h2 h3 fun v hv => ?_
  rcases List.mem_cons.mp hv with rfl | hv
  · exact hash_int' _ _ _
  · rcases List.mem_cons.mp hv with rfl | hv
    · refine hash_tup h4 h5 h6 fun v hv => ?_
      obtain ⟨i, t, rfl⟩ := ints_each h7 v hv
      exact hash_int' _ _ _
    · cases hv
theorem IsN.quiet {k : Kt} {a : Addr} (x : IsN s.heap k a) : Says P w s (eqIsQuiet 8 (.ref a)) true := fun A E Q h =>
  quiet_key _ _ 8 s x.nested (by rw [depth_nk]; decide) A E Q h
theorem seenN {k : Kt} {b : Addr} {Q : Bool → Shared → Prop} (hk : IsN s.heap k b) : ∀ {ys : List Value}, (∀ y ∈ ys, ∃ k' c, y = Value.ref c ∧ IsN s.heap k' c) → Q false s → wpAny (model P w) A (searchCouldBeSeen (.ref b) ys) Q E s := by
  intro ys hy h
  unfold searchCouldBeSeen
  refine wpAny_bind ?_
  refine wpAny_forIn_list _ (fun rest r s' => r = ⟨none, PUnit.unit⟩ ∧ s' = s ∧ ∀ y ∈ rest, ∃ k' c, y = Value.ref c ∧ IsN s.heap k' c) _ ?_ ?_ _ _ ⟨rfl, rfl, hy⟩
  · rintro v rest r s' ⟨hr, rfl, hall⟩
    obtain ⟨k', c, rfl, hc⟩ := hall v List.mem_cons_self
    have rest' : ∀ y ∈ rest, ∃ k' c, y = Value.ref c ∧ IsN s'.heap k' c := fun u hu' => hall u (List.mem_cons_of_mem _ hu')
    dsimp only
    by_cases hv : (b == c || (carriedByValue (.ref b) && carriedByValue (.ref c))) = true
    · exact wp_if_pos hv (wpAny_pure ⟨rfl, rfl, rest'⟩)
    · refine wp_if_neg hv ?_
      refine wpAny_bind (hk.quiet _ _ _ ?_)
      simp only [Bool.not_true, Bool.false_eq_true, if_false]
      refine wpAny_bind (hc.quiet _ _ _ ?_)
      simp only [Bool.not_true, Bool.false_eq_true, if_false]
      refine wpAny_bind (hk.class_ _ _ _ ?_)
      simp only [Bool.false_eq_true, if_false]
      refine wpAny_bind (hc.class_ _ _ _ ?_)
      simp only [Bool.false_eq_true, if_false]
      exact wpAny_pure ⟨rfl, rfl, rest'⟩
  · rintro r s' ⟨hr, rfl, _⟩
    rw [hr]
    exact wpAny_pure h
theorem eqN {x y : Addr} {k l : Kt} {Q : Bool → Shared → Prop} (hu : A.units + 2 < cLine) (hx : IsN s.heap k x) (hy : IsN s.heap l y) (h : Q (decide (k = l)) s) : wpAny (model P w) A (eqBool (.ref x) (.ref y)) Q E s :=
  eqAt_key _ _ A s _ _ hx.nested hy.nested (by rw [depth_nk, depth_nk]; omega) P w E Q (by rw [beq_nk]; exact h)
theorem hashN {x : Addr} {k : Kt} {Q : Int → Shared → Prop} (hu : A.units + 2 < cLine) (hx : IsN s.heap k x) (h : Q ((nkOf k).hash w) { s with toks := s.toks + (nkOf k).draws }) : wpAny (model P w) A (pyHash (.ref x)) Q E s :=
  pyHash_key _ _ A s Q hx.nested (by rw [depth_nk]; omega) h
end

/-! ### the set -/
@[irreducible] def nh (w : World) (k : Kt) : Int := (nkOf k).hash w
structure SetN (w : World) (h : Heap) (a : Addr) (L : List (Addr × Kt)) (es : Array (Int × Value)) (ep : Nat) (t : SetTable) : Prop where
  ob : ∃ o, h.get? a = some o ∧ o.ExactSet ∧ o.data = .set es ep t
  rows : es.toList = L.map fun p => (nh w p.2, Value.ref p.1)
  tab : TabOk t (L.map fun p => nh w p.2)
  nd : (L.map (·.2)).Nodup
  tup : ∀ p ∈ L, IsN h p.2 p.1
  plain : t.plain = true
  led : w.params.followText "set-order" = true ∨ t.led = true
  m7 : t.mask = 7
  few : L.length ≤ 4
section
variable {P : Program} {w : World} {A : Around} {E : Value → Shared → Prop} {s : Shared} {a : Addr} {L : List (Addr × Kt)} {es : Array (Int × Value)} {ep : Nat} {t : SetTable}
theorem SetN.size (R : SetN w s.heap a L es ep t) : es.size = L.length := by
  have h := congrArg List.length R.rows
  rw [Array.length_toList, List.length_map] at h
  exact h
theorem SetN.fits (R : SetN w s.heap a L es ep t) : t.fits es.size = true := by
  have h1 := R.tab.sz
  rw [List.length_map] at h1
  have h2 := R.size
  have h3 := R.few
  have h4 := R.m7
  unfold SetTable.fits SetTable.fill
  rw [R.tab.dm, Bool.and_eq_true, beq_iff_eq, decide_eq_true_eq]
  show t.place.size = es.size ∧ t.place.size + 0 ≤ t.mask
  omega
theorem SetN.entry (R : SetN w s.heap a L es ep t) {i : Nat} {p : Addr × Kt} (h : L[i]? = some p) : es[i]? = some (nh w p.2, Value.ref p.1) := by
  rw [← Array.getElem?_toList, R.rows, List.getElem?_map, h, Option.map_some]
theorem SetN.hashAt (R : SetN w s.heap a L es ep t) {i : Nat} {p : Addr × Kt} (h : L[i]? = some p) : (es[i]?.map (·.1)).getD 0 = nh w p.2 := by
  rw [R.entry h, Option.map_some, Option.getD_some]
theorem SetN.live (R : SetN w s.heap a L es ep t) {i j : Nat} (h : t.place.toList[i]? = some j) : ∃ p, L[i]? = some p := by
  have h1 : i < t.place.toList.length := (List.getElem?_eq_some_iff.mp h).1
  have h2 := R.tab.sz
  rw [List.length_map] at h2
  rw [Array.length_toList] at h1
  exact ⟨_, List.getElem?_eq_getElem (by omega)⟩
theorem SetN.inj (R : SetN w s.heap a L es ep t) {i i' j : Nat} (h : t.place.toList[i]? = some j) (h' : t.place.toList[i']? = some j) : i = i' := by
  have e := slot_live R.tab.ris h
  rw [slot_live R.tab.ris h'] at e
  injection e with e
  exact e.symm
/-- the probe after c steps of the way of hash h -/
abbrev prb (t : SetTable) (h : Int) (c : Nat) : SetTable.Probe := nth t.mask (runAt t.mask (SetTable.bits h % (t.mask + 1)) (SetTable.bits h)) c
theorem prb_dummy (t : SetTable) (h : Int) : ∀ c, (prb t h c).dummy = none := by
  have key : ∀ (n : Nat) (p : SetTable.Probe), p.dummy = none → (nth t.mask p n).dummy = none := by
    intro n
    induction n with
    | zero => exact fun p h => h
    | succ n ih =>
      intro p h
      refine ih (adv t.mask p) ?_
      unfold adv
      split <;> exact h
  exact fun c => key c _ rfl
theorem prb_add (t : SetTable) (h : Int) (c q : Nat) : nth t.mask (prb t h c) q = prb t h (c + q) := (nth_add t.mask c _ q).symm
/-- what a step of the search meets -/
theorem SetN.meet (R : SetN w s.heap a L es ep t) {k : Kt} {K : Nat} (hKf : K < 10 * SetTable.turns t.mask) (hK : way t.mask (nh w k) K ∉ t.place.toList) (hKb : ∀ c, c < K → way t.mask (nh w k) c ∈ t.place.toList) {c : Nat} (hc : c ≤ K) :
    (∃ (q i : Nat) (p : Addr × Kt), c + q < K ∧ t.place.toList[i]? = some (way t.mask (nh w k) (c + q)) ∧ L[i]? = some p ∧ (∀ (q' i' : Nat) (p' : Addr × Kt), q' < q → t.place.toList[i']? = some (way t.mask (nh w k) (c + q')) → L[i']? = some p' → p'.2 ≠ k) ∧
      t.probe (fun i => (es[i]?.map (·.1)).getD 0) (nh w k) (prb t (nh w k) c) = some (.candidate (way t.mask (nh w k) (c + q)) i (prb t (nh w k) (c + (q + 1))))) ∨
    ((∀ (q' i' : Nat) (p' : Addr × Kt), c + q' < K → t.place.toList[i']? = some (way t.mask (nh w k) (c + q')) → L[i']? = some p' → p'.2 ≠ k) ∧ t.probe (fun i => (es[i]?.map (·.1)).getD 0) (nh w k) (prb t (nh w k) c) = some (.empty (way t.mask (nh w k) K) none)) := by
  have wy : ∀ q, (nth t.mask (prb t (nh w k) c) q).j = way t.mask (nh w k) (c + q) := fun q => congrArg SetTable.Probe.j (prb_add t (nh w k) c q)
  rcases go_spec t R.tab.ris R.tab.dm (fun i => (es[i]?.map (·.1)).getD 0) (nh w k) (10 * SetTable.turns t.mask) (K - c) (prb t (nh w k) c) (prb_dummy t _ c) (by omega)
    (fun q hq => by rw [wy]; exact hKb (c + q) (by omega)) (by rw [wy, show c + (K - c) = K by omega]; exact hK) with ⟨q, i, hq, hi, _, hno, hpr⟩ | ⟨hno, hpr⟩
  · rw [wy] at hi hpr
    rw [prb_add] at hpr
    obtain ⟨p, hp⟩ := R.live hi
    refine .inl ⟨q, i, p, by omega, hi, hp, fun q' i' p' hq' hi' hp' e => ?_, hpr⟩
    exact hno q' i' hq' (by rw [wy]; exact hi') ((R.hashAt hp').trans (congrArg (nh w) e))
  · rw [wy, show c + (K - c) = K by omega] at hpr
    exact .inr ⟨fun q' i' p' hq' hi' hp' e => hno q' i' (by omega) (by rw [wy]; exact hi') ((R.hashAt hp').trans (congrArg (nh w) e)), hpr⟩
/-- the search, c steps on its way: k itself isn't passed -/
theorem searchN (R : SetN w s.heap a L es ep t) {x : Addr} {k : Kt} (hx : IsN s.heap k x) (hu : A.units + 2 < cLine) {K : Nat} (hKf : K < 10 * SetTable.turns t.mask)
    (hK : way t.mask (nh w k) K ∉ t.place.toList) (hKb : ∀ c, c < K → way t.mask (nh w k) c ∈ t.place.toList) {Q : SetFound → Shared → Prop}
    (hin : k ∈ L.map (·.2) → Q (.there none) s) (hout : k ∉ L.map (·.2) → Q (.free (way t.mask (nh w k) K) false) s) :
    ∀ (f c : Nat) (stand : Option SetTable.Probe), stand.getD (t.probeStart (nh w k)) = prb t (nh w k) c → c ≤ K → K - c < f →
      (∀ (c' i : Nat) (p : Addr × Kt), c' < c → t.place.toList[i]? = some (way t.mask (nh w k) c') → L[i]? = some p → p.2 ≠ k) → wpAny (model P w) A (setSearchFrom a (.ref x) (nh w k) true f stand) Q E s
  | 0, c, stand, _, _, hf, _ => absurd hf (Nat.not_lt_zero _)
  | f + 1, c, stand, hst, hc, hf, hre => by
    obtain ⟨o, ho, hex, hd⟩ := R.ob
    have hgw : ¬ t.gaveWay = true := by
      unfold SetTable.gaveWay
      rw [R.m7]
      decide
    rw [setSearchFrom_succ]
    refine wpAny_bind (wpAny_setState_of ho hd R.fits ?_)
    dsimp only
    refine wp_if_neg hgw ?_
    try refine wpAny_bind (wpAny_pure ?_)
    rw [hst]
    rcases R.meet hKf hK hKb hc with ⟨q, i, p, hq, hi, hp, hno, hpr⟩ | ⟨hno, hpr⟩
    · rw [hpr]
      dsimp only
      have hmem : p ∈ L := List.mem_of_getElem? hp
      have rest : wpAny (model P w) A (searchRest a (.ref x) (nh w k) true f es t (way t.mask (nh w k) (c + q)) i (prb t (nh w k) (c + (q + 1)))) Q E s := by
        unfold searchRest
        rw [R.entry hp]
        dsimp only
        refine wpAny_bind (wpAny_holding (eqN hu (R.tup p hmem) hx ?_))
        refine wpAny_bind (wpAny_setState_of ho hd R.fits ?_)
        dsimp only
        by_cases hkk : p.2 = k
        · exact wp_if_pos (by simp [hkk]) (wpAny_pure (hin (List.mem_map.mpr ⟨p, hmem, hkk⟩)))
        · refine wp_if_neg (by simp [hkk]) ?_
          try refine wpAny_bind (wpAny_pure ?_)
          rw [sameMem]
          dsimp only
          simp only [if_true, slot_live R.tab.ris hi, R.entry hp]
          refine wpAny_bind (wpAny_isSame_ref_self (wpAny_bind (wpAny_pure ?_)))
          simp only [if_true]
          refine wp_if_neg (by simp [hkk]) ?_
          refine searchN R hx hu hKf hK hKb hin hout f (c + (q + 1)) _ rfl (by omega) (by omega) fun c' i' p' hc' hi' hp' => ?_
          rcases Nat.lt_or_ge c' c with z | z
          · exact hre c' i' p' z hi' hp'
          · rcases Nat.lt_or_ge c' (c + q) with y | y
            · exact hno (c' - c) i' p' (by omega) (by rw [show c + (c' - c) = c' by omega]; exact hi') hp'
            · obtain rfl : c' = c + q := by omega
              obtain rfl := R.inj hi hi'
              rw [hp] at hp'
              rw [← Option.some.inj hp']
              exact hkk
      by_cases hl : t.led = true
      · refine wp_if_neg (by simp [hl]) ?_
        try refine wpAny_bind (wpAny_pure ?_)
        exact rest
      · refine wp_if_pos (by simp [hl]) ?_
        refine wpAny_bind (seenN hx (fun y hy => ?_) ?_)
        · obtain ⟨e, he, ee⟩ := List.mem_map.mp hy
          have he1 : e ∈ es ∧ e.1 = nh w k := by simpa using he
          have he2 : e ∈ es.toList := by simpa using he1.1
          rw [R.rows] at he2
          obtain ⟨p2, hp2, e2⟩ := List.mem_map.mp he2
          exact ⟨p2.2, p2.1, by rw [← ee, ← e2], R.tup p2 hp2⟩
        · refine wp_if_neg (by decide) ?_
          try refine wpAny_bind (wpAny_pure ?_)
          exact rest
    · rw [hpr]
      dsimp only
      refine wpAny_pure (hout fun hm => ?_)
      obtain ⟨p0, h0, hk0⟩ := List.mem_map.mp hm
      obtain ⟨i0, hi0, e0⟩ := List.getElem_of_mem h0
      have h00 : L[i0]? = some p0 := by rw [List.getElem?_eq_getElem hi0, e0]
      have hh : (L.map fun p => nh w p.2)[i0]? = some (nh w k) := by rw [List.getElem?_map, h00, ← hk0] <;> rfl
      have hil : i0 < t.place.toList.length := by
        have h2 := R.tab.sz
        rw [List.length_map] at h2
        rw [Array.length_toList]
        omega
      obtain ⟨c', hc', e⟩ := R.tab.before hK hh (List.getElem?_eq_getElem hil)
      have hj : t.place.toList[i0]? = some (way t.mask (nh w k) c') := by rw [List.getElem?_eq_getElem hil, e]
      rcases Nat.lt_or_ge c' c with z | z
      · exact hre c' i0 p0 z hj h00 hk0
      · exact hno (c' - c) i0 p0 (by omega) (by rw [show c + (c' - c) = c' by omega]; exact hj) h00 hk0
theorem searchAtN (R : SetN w s.heap a L es ep t) {x : Addr} {k : Kt} (hx : IsN s.heap k x) (hu : A.units + 2 < cLine) {Q : SetFound → Shared → Prop} (hin : k ∈ L.map (·.2) → Q (.there none) s)
    (hout : ∀ K, k ∉ L.map (·.2) → way t.mask (nh w k) K ∉ t.place.toList → (∀ c, c < K → way t.mask (nh w k) c ∈ t.place.toList) → Q (.free (way t.mask (nh w k) K) false) s) :
    wpAny (model P w) A (setSearch a (.ref x) (nh w k) true) Q E s := by
  have hf := R.few
  have h7 := R.m7
  obtain ⟨K, hKf, hK, hKb⟩ := R.tab.first (by rw [List.length_map]; omega) (nh w k)
  have hbig : K < 100000 := by
    have : 10 * SetTable.turns t.mask ≤ 1420 := by
      unfold SetTable.turns
      omega
    omega
  exact searchN R hx hu hKf hK hKb hin (fun hn => hout K hn hK hKb) 100000 0 none rfl (Nat.zero_le _) (by omega) fun c' i p h => absurd h (Nat.not_lt_zero _)
/-- one more -/
theorem addN (R : SetN w s.heap a L es ep t) {x : Addr} {k : Kt} (hx : IsN s.heap k x) (hu : A.units + 2 < cLine) (hfew : L.length < 4) {Q : Bool → Shared → Prop}
    (hQ : ∀ b h' L' es' ep' t', Heap.SameBut a s.heap h' → SetN w h' a L' es' ep' t' → (k ∈ L.map (·.2) → L' = L) → (k ∉ L.map (·.2) → L'.Perm ((x, k) :: L)) → Q b { s with heap := h' }) :
    wpAny (model P w) A (setAddHashed a (.ref x) (nh w k)) Q E s := by
  obtain ⟨o, ho, hex, hd⟩ := R.ob
  have hsl := R.size
  unfold setAddHashed
  refine wpAny_holding ?_
  rw [show (100000 : Nat) = 99999 + 1 from rfl, setAddHashedIn_succ]
  refine wpAny_bind (wpAny_setState_of ho hd R.fits ?_)
  dsimp only
  refine wp_if_neg (by simp [byScan, Value.scannable]) ?_
  try refine wpAny_bind (wpAny_pure ?_)
  refine wpAny_bind (searchAtN R hx hu (fun hm => ?_) fun K hm hK hb => ?_)
  · dsimp only
    exact wpAny_pure (hQ false s.heap L es ep t (Heap.SameBut.refl a s.heap) R (fun _ => rfl) fun z => absurd hm z)
  · dsimp only
    refine wpAny_bind (wpAny_setState_of ho hd R.fits ?_)
    dsimp only
    obtain ⟨q1, q2, q3, q4, q5, q6, q7, q8, q9⟩ := R.tab.put hK hb
    have hp1 : (t.put (way t.mask (nh w k) K)).1.plain = true := q6.trans R.plain
    have hm7 : (t.put (way t.mask (nh w k) K)).1.mask = 7 := q4.trans R.m7
    have hl1 : w.params.followText "set-order" = true ∨ (t.put (way t.mask (nh w k) K)).1.led = true := by rw [q5]; exact R.led
    generalize t.put (way t.mask (nh w k) K) = pt at q1 q3 q9 hp1 hm7 hl1 ⊢
    obtain ⟨t1, p⟩ := pt
    dsimp only at q1 q3 q9 hp1 hm7 hl1 ⊢
    subst q1
    generalize SetTable.below t.place (way t.mask (nh w k) K) = p at q2 q3 ⊢
    have hin : (SetTable.insertAt es p (nh w k, Value.ref x)).toList = (L.take p ++ (x, k) :: L.drop p).map fun p => (nh w p.2, Value.ref p.1) := by
      rw [SetTable.toList_insertAt, R.rows, List.map_append, List.map_cons, List.map_take, List.map_drop]
    have pm := put_perm L p (x, k)
    have hlen : (L.take p ++ (x, k) :: L.drop p).length = L.length + 1 := pm.length_eq
    have hhs : (L.take p ++ (x, k) :: L.drop p).map (fun p => nh w p.2) = (L.map fun p => nh w p.2).take p ++ nh w k :: (L.map fun p => nh w p.2).drop p := by
      rw [List.map_append, List.map_cons, List.map_take, List.map_drop]
    rw [← hhs] at q3
    have nd1 : ((L.take p ++ (x, k) :: L.drop p).map (·.2)).Nodup := by
      refine (pm.map (·.2)).nodup_iff.mpr ?_
      rw [List.map_cons]
      exact List.nodup_cons.mpr ⟨hm, R.nd⟩
    have hes : (SetTable.insertAt es p (nh w k, Value.ref x)).size = L.length + 1 := by
      have h := congrArg List.length hin
      rw [Array.length_toList, List.length_map, hlen] at h
      exact h
    first
      | (refine wpAny_bind ?_; refine wp_if_pos hp1 ?_; refine hx.hash_ _ _ _ ?_)
      | refine wp_if_pos hp1 (wpAny_bind (hx.hash_ _ _ _ ?_))
    simp only [if_true]
    generalize SetTable.insertAt es p (nh w k, Value.ref x) = es1 at hin hes ⊢
    generalize L.take p ++ (x, k) :: L.drop p = L1 at pm hlen q3 nd1 hin
    refine wpAny_bind (wpAny_storeSet_of ho hd ?_ (by rw [hes, sizeLine_eq]; omega))
    have sb : Heap.SameBut a s.heap (s.heap.update a (Obj.putSet es1 t1)) := Heap.SameBut.update ..
    have ho1 := store_at (es' := es1) (t' := t1) ho hd
    generalize s.heap.update a (Obj.putSet es1 t1) = h1 at sb ho1 ⊢
    have kp : ∀ b o' vs n, s.heap.get? b = some o' → o'.data = .seq vs n → h1.get? b = some o' := fun b o' vs n e1 e2 => (sb.2 b fun z => by
      rw [z, ho] at e1
      rw [← Option.some.inj e1, hd] at e2
      cases e2).trans e1
    have tup1 : ∀ p ∈ L1, IsN h1 p.2 p.1 := fun p hp => by
      rcases List.mem_cons.mp (pm.mem_iff.mp hp) with e | hp
      · rw [e]
        exact hx.keep kp
      · exact (R.tup p hp).keep kp
    have hnf : ¬ t1.tooFull = true := fun hf => by
      unfold SetTable.tooFull at hf
      rw [decide_eq_true_eq, q9, List.length_map, hm7] at hf
      omega
    first
      | refine wp_if_neg (by simp [hnf]) ?_
      | (refine wpAny_bind ?_; refine wp_if_neg (by simp [hnf]) ?_; refine wpAny_pure ?_)
    exact wpAny_pure (hQ true h1 L1 es1 (ep + 1) t1 sb ⟨⟨_, ho1, ⟨hex.1, hex.2.1, hex.2.2⟩, rfl⟩, hin, q3, nd1, tup1, hp1, hl1, hm7, by rw [hlen]; omega⟩ (fun z => absurd z hm) fun _ => pm)
end
end GY
set_option Elab.async false
set_option linter.all false
set_option maxRecDepth 100000
set_option maxHeartbeats 8000000
/-! Gyb: set(xs) of fewer than five pairs (int, tuple of ints); sorted(set(xs)). -/
namespace GY
open PySem PySem.Spec PyProof.Rows L2
/-- what the set has of the first i items -/
structure GotN (ks : List (Addr × Kt)) (i : Nat) (L : List (Addr × Kt)) : Prop where
  sub : ∀ p ∈ L, p ∈ ks.take i
  all : ∀ p ∈ ks.take i, p.2 ∈ L.map (·.2)
  len : L.length ≤ i
theorem GotN.step {ks L L' : List (Addr × Kt)} {i : Nat} {x : Addr × Kt} (g : GotN ks i L) (h : ks[i]? = some x) (h1 : x.2 ∈ L.map (·.2) → L' = L) (h2 : x.2 ∉ L.map (·.2) → L'.Perm (x :: L)) : GotN ks (i + 1) L' := by
  have e := take_next h
  rcases Classical.em (x.2 ∈ L.map (·.2)) with c | c
  · rw [h1 c]
    refine ⟨fun p hp => ?_, fun p hp => ?_, Nat.le_succ_of_le g.len⟩
    · rw [e]
      exact List.mem_append_left _ (g.sub p hp)
    · rw [e] at hp
      rcases List.mem_append.mp hp with z | z
      · exact g.all p z
      · rw [List.mem_singleton.mp z]
        exact c
  · have pm := h2 c
    refine ⟨fun p hp => ?_, fun p hp => ?_, by rw [pm.length_eq]; exact Nat.succ_le_succ g.len⟩
    · rw [e]
      rcases List.mem_cons.mp (pm.mem_iff.mp hp) with z | z
      · rw [z]
        exact List.mem_append_right _ List.mem_cons_self
      · exact List.mem_append_left _ (g.sub p z)
    · rw [(pm.map (·.2)).mem_iff]
      rw [e] at hp
      rcases List.mem_append.mp hp with z | z
      · exact List.mem_cons_of_mem _ (g.all p z)
      · rw [List.mem_singleton.mp z]
        exact List.mem_cons_self
section
variable {P : Program} {w : World} {A : Around} {E : Value → Shared → Prop} {s : Shared}
theorem IsN.old {h h' : Heap} {k : Kt} {b : Addr} (x : IsN h k b) (hk : ∀ c o, h.get? c = some o → h'.get? c = some o) : IsN h' k b := x.keep fun b o _ _ e _ => hk b o e
theorem SetN.moved {h h' : Heap} {a : Addr} {L : List (Addr × Kt)} {es : Array (Int × Value)} {ep : Nat} {t : SetTable} (R : SetN w h a L es ep t) (ha : ∀ o, h.get? a = some o → h'.get? a = some o) (ht : ∀ p ∈ L, IsN h' p.2 p.1) : SetN w h' a L es ep t := by
  obtain ⟨o, ho, r⟩ := R.ob
  exact ⟨⟨o, ha o ho, r⟩, R.rows, R.tab, R.nd, ht, R.plain, R.led, R.m7, R.few⟩
theorem setN_new {h : Heap} {a : Addr} (ho : h.get? a = some { cls := .type "set", dict := none, data := .set #[] 0 (.fresh 0 0 (!w.params.followText "set-order")) }) : SetN w h a [] #[] 0 (.fresh 0 0 (!w.params.followText "set-order")) where
  ob := ⟨_, ho, ⟨rfl, rfl, rfl⟩, rfl⟩
  rows := rfl
  tab := ⟨List.Pairwise.nil, rfl, rfl, .inl rfl, fun x hx => (by cases hx), fun i h j hi => (by simp at hi)⟩
  nd := List.nodup_nil
  tup := fun p hp => (by cases hp)
  plain := rfl
  led := by
    show _ ∨ (!w.params.followText "set-order") = true
    cases w.params.followText "set-order"
    · exact .inr rfl
    · exact .inl rfl
  m7 := rfl
  few := Nat.zero_le _
theorem nh_eq (w : World) (k : Kt) : nh w k = (nkOf k).hash w := by
  unfold nh
  rfl
/-- the loop of set.update -/
theorem updateN {I : Addr} {fp wr : List Addr} {G : Array GenState → Array GenState → Prop} {n : Nat} {Pv : Nat → Value → Prop} {St : Nat → Shared → Prop} {R : Result → Shared → Prop}
    (W : WalksS P w A.in1 I fp wr G n Pv St) (S : Addr) (hSf : S ∉ fp) (ks : List (Addr × Kt)) (hn : n = ks.length) (hfew : ks.length ≤ 4) (hval : ∀ i v, Pv i v → ∃ p, ks[i]? = some p ∧ v = .ref p.1)
    (h0 : Heap) (hk : ∀ p ∈ ks, IsN h0 p.2 p.1) (hS0 : h0.get? S = none) (hw0 : ∀ b ∈ wr, h0.get? b = none) (hu : A.in1.units + 2 < cLine) :
    ∀ (k i : Nat) (s : Shared), n - i = k → i ≤ n → St i s → (∀ b o, h0.get? b = some o → s.heap.get? b = some o) → (∃ L es ep t, SetN w s.heap S L es ep t ∧ GotN ks i L) →
      (∀ s' L es ep t, Moved (S :: wr) G s s' → SetN w s'.heap S L es ep t → GotN ks n L → (∀ b o, h0.get? b = some o → s'.heap.get? b = some o) → R (.ok (.ret .none)) s') →
      codeAny (model P w) A (.builtin "set.update.loop" ⟨[.ref S, .ref I], []⟩) R s := by
  have hSw : S ∉ wr := fun h => hSf (W.sub _ h)
  have hsub : ∀ b ∈ wr, b ∈ S :: wr := fun b hb => List.mem_cons_of_mem _ hb
  have keepM : ∀ {s s' : Shared}, Moved wr G s s' → (∀ b o, h0.get? b = some o → s.heap.get? b = some o) → ∀ b o, h0.get? b = some o → s'.heap.get? b = some o := fun hm hkp b o e =>
    hm.heap b o (fun hb => by rw [hw0 b hb] at e; cases e) (hkp b o e)
  intro k
  induction k with
  | zero =>
    intro i s hk' hi hst hkp ⟨L, es, ep, t, hS, g⟩ hR
    obtain rfl : i = n := by omega
    refine codeAny_builtin F.entry_set_update_loop ?_
    rw [Around.under_plainId F.plain_set_update_loop _]
    show wpAny _ A.in1 (pyNext (.ref I) >>= _) _ _ s
    refine wpAny_bind (W.done s _ _ hst fun s' hm => ?_)
    show wpAny _ A.in1 (ret Value.none) _ _ s'
    have hkp' := keepM hm hkp
    exact wpAny_pure (hR s' L es ep t (hm.mono hsub) (hS.moved (fun o e => hm.heap S o hSw e) fun p hp => (hk p (List.mem_of_mem_take (g.sub p hp))).old hkp') g hkp')
  | succ k ih =>
    intro i s hk' hi hst hkp ⟨L, es, ep, t, hS, g⟩ hR
    have hlt : i < n := by omega
    refine codeAny_builtin F.entry_set_update_loop ?_
    rw [Around.under_plainId F.plain_set_update_loop _]
    show wpAny _ A.in1 (pyNext (.ref I) >>= _) _ _ s
    refine wpAny_bind (W.item i s _ _ hlt hst fun v s' hP hst' hm => ?_)
    obtain ⟨p, hp, rfl⟩ := hval i v hP
    have hkp' := keepM hm hkp
    have hS' : SetN w s'.heap S L es ep t := hS.moved (fun o e => hm.heap S o hSw e) fun q hq => (hk q (List.mem_of_mem_take (g.sub q hq))).old hkp'
    have hx : IsN s'.heap p.2 p.1 := (hk p (List.mem_of_getElem? hp)).old hkp'
    show wpAny _ A.in1 (holding [Value.ref p.1] (setAdd S (.ref p.1)) >>= _) _ _ s'
    refine wpAny_bind (wpAny_holding ?_)
    unfold setAdd
    refine wpAny_holding ?_
    refine wpAny_bind (hashN hu hx ?_)
    rw [← nh_eq]
    refine addN (s := { s' with toks := s'.toks + (nkOf p.2).draws }) hS' hx hu (by have := g.len; omega) fun b h' L' es' ep' t' hsb hS2 c1 c2 => ?_
    have g' : GotN ks (i + 1) L' := g.step hp c1 c2
    have hkp2 : ∀ b o, h0.get? b = some o → h'.get? b = some o := fun b o e => (hsb.2 b (fun z => by rw [z, hS0] at e; cases e)).trans (hkp' b o e)
    refine wpAny_pure ⟨plainId_quiet F.plain_set_update_loop _, ih (i + 1) _ (by omega) hlt (W.frame _ s' _ _ hst' (Nat.le_add_right _ _) fun b hb o e => ?_) hkp2 ⟨L', es', ep', t', hS2, g'⟩ fun s'' L2 es2 ep2 t2 hm'' hS'' g'' hkp'' => ?_⟩
    · rw [hsb.2 b (fun h : b = S => hSf (by rw [← h]; exact hb))]; exact e
    · refine hR s'' L2 es2 ep2 t2 (Moved.trans W.gtrans ((hm.mono hsub).then_heap (Nat.le_add_right _ _) fun b o hb e => ?_) hm'') hS'' g'' hkp''
      rw [hsb.2 b (fun h : b = S => hb (by rw [h]; exact List.mem_cons_self))]; exact e
/-- set(xs) -/
theorem call_setN {l : Addr} {items : Array Value} (ks : List (Addr × Kt)) {Q : Value → Shared → Prop} (hh : A.handled = none) (hl : s.heap.IsList l items) (hit : items.toList = ks.map fun p => Value.ref p.1)
    (hk : ∀ p ∈ ks, IsN s.heap p.2 p.1) (hfew : ks.length ≤ 4) (hu : A.units + 8 < cLine)
    (h : ∀ (h' : Heap) (tk : Nat) L es ep t, SetN w h' s.heap.objs.size L es ep t → GotN ks ks.length L → (∀ b o, s.heap.get? b = some o → h'.get? b = some o) → Q (.ref s.heap.objs.size) { s with heap := h', toks := tk }) :
    wpAny (model P w) A (call (.type "set") [.ref l]) Q E s := by
  have hisz : items.size = ks.length := by
    have q := congrArg List.length hit
    rw [Array.length_toList, List.length_map] at q
    exact q
  obtain ⟨c, tl, hmro⟩ := F.called_set.mro
  have hmade := F.called_set.made
  have hsub := F.called_set.sub
  refine wpAny_call (codeAny_of_tree ?_)
  show wpAny _ _ (callAny (.type "set") _) _ _ _
  refine wpAny_pure ⟨Code.quiet_builtin _ (by decide +kernel), codeAny_builtin F.entry_type_call ?_⟩
  rw [Around.under_plain (weight_type_call_type "set" [.ref l] []) rfl]
  have h1 := F.called_set.notType
  have h2 := F.called_set.canCreate
  have hct := F.typeCall_set_1 (.ref l)
  repeat (any_goals (first | assumption | wp_step))
  refine codeAny_mono (code_set_led1 (.ref l) (E := E) (Q₁ := fun obj s₁ => obj = .ref s.heap.objs.size ∧ s₁ = { s with heap := s.heap.push { cls := .type "set", dict := none, data := .set #[] 0 (.fresh 0 0 (!w.params.followText "set-order")) } }) ⟨rfl, rfl⟩) fun r s₁ hr => ?_
  cases r with
  | error e => exact hr
  | ok fl =>
    cases fl with
    | ret obj =>
      obtain ⟨rfl, rfl⟩ := hr
      have hS : (s.heap.push { cls := .type "set", dict := none, data := .set #[] 0 (.fresh 0 0 (!w.params.followText "set-order")) }).get? s.heap.objs.size = some { cls := .type "set", dict := none, data := .set #[] 0 (.fresh 0 0 (!w.params.followText "set-order")) } := Heap.get?_push_size _ rfl
      have hT : Shared.TypeIs { s with heap := s.heap.push { cls := .type "set", dict := none, data := .set #[] 0 (.fresh 0 0 (!w.params.followText "set-order")) } } (.ref s.heap.objs.size) "set" := ⟨_, hS, rfl⟩
      have hli := F.called_set.init.lookup
      have hbi := F.called_set.init.bind (.ref s.heap.objs.size)
      repeat (any_goals (first | assumption | wp_step))
      refine codeAny_mono (codeAny_call_builtin (R := wants (fun r s₂ => r = .none ∧ ∃ h' tk L es ep t, s₂ = { s with heap := h', toks := tk } ∧ SetN w h' s.heap.objs.size L es ep t ∧ GotN ks ks.length L ∧
          (∀ b o, s.heap.get? b = some o → h'.get? b = some o)) E) F.called_set.init.plain F.entry_set_init (check_set_init_1 hT ?_)) fun r₂ s₂ hr₂ => ?_
      · obtain ⟨ol, hol, hcl, nl, hdl⟩ := hl
        obtain ⟨ocls, odict, odata, oslots⟩ := ol
        simp only at hcl hdl
        subst hcl; subst hdl
        have hol' : (s.heap.push { cls := .type "set", dict := none, data := .set #[] 0 (.fresh 0 0 (!w.params.followText "set-order")) }).get? l = some { cls := .type "list", dict := odict, data := .seq items nl, slots := oslots } := Heap.get?_push_of_some _ hol
        have hsls := F.sub_list_set
        have hslf := F.sub_list_frozenset
        have hne : (Value.type "list" == Value.type "dict") = false := by decide
        have hl1 : (s.heap.push { cls := .type "set", dict := none, data := .set #[] 0 (.fresh 0 0 (!w.params.followText "set-order")) }).IsList l items := ⟨_, hol', rfl, nl, rfl⟩
        unfold Builtin.«set.__init__» noKeywords Builtin.Frozenset.updateFrom
        generalize hPI : pyIter = PI
        wp_walk
        subst hPI
        refine wpAny_pyIter_list hl1 ?_
        refine wpAny_bind (wpAny_runValue ?_)
        have hlS : l < s.heap.objs.size := Heap.lt_size hol
        have hh3 : A.in1.in1.in1.handled = none := by simp [hh]
        have hneI : l ≠ (s.heap.push { cls := .type "set", dict := none, data := .set #[] 0 (.fresh 0 0 (!w.params.followText "set-order")) }).objs.size := by
          rw [Heap.size_push]; exact Nat.ne_of_lt (Nat.lt_succ_of_lt hlS)
        have hSf : s.heap.objs.size ∉ [(s.heap.push { cls := .type "set", dict := none, data := .set #[] 0 (.fresh 0 0 (!w.params.followText "set-order")) }).objs.size, l] := by
          rw [Heap.size_push]; simp only [List.mem_cons, List.mem_singleton, List.not_mem_nil, or_false, not_or]
          exact ⟨Nat.ne_of_lt (Nat.lt_succ_self _), Nat.ne_of_gt hlS⟩
        have hval : ∀ (i : Nat) (v : Value), items[i]? = some v → ∃ p, ks[i]? = some p ∧ v = .ref p.1 := fun i v hv => by
          have q : items.toList[i]? = some v := by rw [Array.getElem?_toList]; exact hv
          rw [hit, List.getElem?_map] at q
          cases hq : ks[i]? with
          | none => rw [hq] at q; cases q
          | some p =>
            rw [hq] at q
            exact ⟨p, rfl, (Option.some.inj q).symm⟩
        have none_of : ∀ b, s.heap.objs.size ≤ b → s.heap.get? b = none := fun b hb => by
          cases q : s.heap.get? b with
          | none => rfl
          | some o => exact absurd (Nat.lt_of_lt_of_le (Heap.lt_size q) hb) (Nat.lt_irrefl _)
        refine updateN ((Walks.list hh3 _ l hneI items).toS) s.heap.objs.size
          hSf ks hisz hfew hval s.heap hk (none_of _ (Nat.le_refl _)) (fun b hb => none_of b (by
            rw [List.mem_singleton.mp hb, Heap.size_push]
            exact Nat.le_succ _)) (by show A.units + 1 + 1 + 1 + 2 < cLine; omega) (items.size - 0) 0 _ (by omega) (Nat.zero_le _)
          ⟨⟨_, Heap.get?_push_size _ rfl, rfl, rfl⟩, (hl1.push _)⟩ (fun b o e => Heap.get?_push_of_some _ (Heap.get?_push_of_some _ e)) ?hS0 ?hR
        case hS0 =>
          have hget : ((s.heap.push { cls := .type "set", dict := none, data := .set #[] 0 (.fresh 0 0 (!w.params.followText "set-order")) }).push { cls := .type "list_iterator", data := .fields #[.ref l, .int 0 0] }).get? s.heap.objs.size
              = some { cls := .type "set", dict := none, data := .set #[] 0 (.fresh 0 0 (!w.params.followText "set-order")) } := Heap.get?_push_of_some _ hS
          exact ⟨[], #[], 0, _, setN_new hget, ⟨fun p h => (by cases h), fun p h => (by simp at h), Nat.le_refl _⟩⟩
        case hR =>
          intro s' L es ep t hm hS' g' hkp
          obtain ⟨h', g2, d', tk', os'⟩ := s'
          have eg : g2 = s.gens := hm.gens
          have ed : d' = s.drawn := hm.drawn
          have eo : os' = s.os := hm.os
          subst eg; subst ed; subst eo
          show wpAny _ _ _ _ _ _
          refine wpAny_pure ?_
          show wpAny _ _ (ret Value.none) _ _ _
          rw [hisz] at g'
          exact wpAny_pure ⟨rfl, h', tk', L, es, ep, t, rfl, hS', g', hkp⟩
      · cases r₂ with
        | error e => exact hr₂
        | ok fl₂ =>
          cases fl₂ with
          | ret r =>
            obtain ⟨rfl, h', tk, L, es, ep, t, rfl, hS', g', hk'⟩ := hr₂
            repeat (any_goals (first | assumption | wp_step))
            exact h _ _ _ _ _ _ hS' g' hk'
          | _ => exact hr₂.elim
    | _ => exact hr.elim
end
/-! ### told by rows -/
theorem SetN.raw {w : World} {h : Heap} {a : Addr} {L : List (Addr × Kt)} {es : Array (Int × Value)} {ep : Nat} {t : SetTable} (s0 : Shared) (R : SetN w h a L es ep t) : RawSet w a (L.map (·.1)) h ∧ (L.map fun p => kKey p.2).Nodup := by
  obtain ⟨o, ho, hex, hd⟩ := R.ob
  have hsz := SetN.size (s := { s0 with heap := h }) R
  have hf := R.few
  refine ⟨⟨es, ep, t, ⟨o, ho, hex.1, hd⟩, SetN.fits (s := { s0 with heap := h }) R, R.tab.ris, R.led, ?_, by omega⟩, ?_⟩
  · rw [R.rows, List.map_map, List.map_map] <;> rfl
  · have e : (L.map fun p => kKey p.2) = (L.map (·.2)).map kKey := (List.map_map (f := fun p : Addr × Kt => p.2) (g := kKey) (l := L)).symm
    rw [e]
    refine List.pairwise_map.mpr (R.nd.imp fun hne e => hne ?_)
    rename_i x y
    obtain ⟨x1, x2⟩ := x
    obtain ⟨y1, y2⟩ := y
    have e' : x1 :: x2 = y1 :: y2 := e
    injection e' with e1 e2
    rw [e1, e2]
section
variable {X : Cx} {pins : List (Addr × Obj)} {σ : L2.St} {H F : Hp} {s : Shared}
theorem pair_isN (I : Inv X pins σ H s) (sm : Same F H) {v : V} {k : Kt} (h : Dq F v (kEnc true k)) : ∃ a, v = .ref a ∧ IsN s.heap k a := by
  have h' : Dq F v (.tuple [.int k.1, .tuple (k.2.map .int)]) := h
  cases h' with
  | @tup a xs _ hf ha =>
    cases ha with
    | cons h1 ha =>
      cases ha with
      | cons h2 ha =>
        cases ha
        cases h1
        cases h2 with
        | @tup c ys _ hc hd =>
          have e := ints_dq hd
          subst e
          obtain ⟨its, r, ⟨o, ho, ho1, n, ho2⟩, _⟩ := I.tuple (SqT.of (sm _ _ hf))
          obtain ⟨its2, r2, ⟨o2, hp, hp1, n2, hp2⟩, _⟩ := I.tuple (SqT.of (sm _ _ hc))
          cases r with
          | cons r1 r =>
            cases r with
            | cons r3 r =>
              cases r
              obtain ⟨t, rfl⟩ := r1
              cases r3
              exact ⟨a, rfl, o, n, t, c, o2, its2.toArray, n2, ho, ho1, by simpa using ho2, hp, hp1, hp2, by simpa using r2.ints⟩
theorem pairs_isN (I : Inv X pins σ H s) (sm : Same F H) : ∀ {vs : List V} {ks : List Kt}, DqAll F vs (ks.map (kEnc true)) → ∃ ps : List (Addr × Kt), vs = ps.map (fun p => V.ref p.1) ∧ ks = ps.map (·.2) ∧ ∀ p ∈ ps, IsN s.heap p.2 p.1 ∧ Dq F (.ref p.1) (kEnc true p.2)
  | vs, [], h => by
    have h' : DqAll F vs [] := h
    cases h'
    exact ⟨[], rfl, rfl, fun p z => nomatch z⟩
  | vs, k :: ks, h => by
    have h' : DqAll F vs (kEnc true k :: ks.map (kEnc true)) := h
    cases h' with
    | cons h1 h2 =>
      obtain ⟨ps, e1, e2, e3⟩ := pairs_isN I sm h2
      obtain ⟨a, rfl, hn⟩ := pair_isN I sm h1
      refine ⟨(a, k) :: ps, by rw [e1]; rfl, by rw [e2]; rfl, fun p hp => ?_⟩
      rcases List.mem_cons.mp hp with rfl | hp
      · exact ⟨hn, h1⟩
      · exact e3 p hp
theorem cr_setK1 {k : Nat} (hc : X.calm = true) (hr : Room k X.A) : CallR X (.type "set") (rSetK true 5 X.w) := by
  intro pins s σ H xs us Q I r h
  obtain ⟨p, vs, ks, F, rfl, hp, sm, dv, hne, hlen, q⟩ := h
  have hun := room65 hr
  rw [Vals.ref1 r]
  rw [← kEnc_all hne] at dv
  obtain ⟨ps, e1, e2, e3⟩ := pairs_isN I sm dv
  obtain ⟨its, rv, pl, hz⟩ := I.list (SqL.of hp)
  have hn : H s.heap.objs.size = none := I.hok.fresh (Nat.le_refl _)
  have hpl : ps.length ≤ 4 := by
    have z := congrArg List.length e2
    rw [List.length_map, List.length_map] at z
    omega
  have hits : its = ps.map fun p => Value.ref p.1 := by
    rw [e1] at rv
    clear hpl e3 e2 e1 pl hz
    induction ps generalizing its with
    | nil => cases rv; rfl
    | cons p ps ih =>
      cases rv with
      | cons r1 r2 =>
        cases r1
        rw [ih _ r2] <;> rfl
  refine call_setN (P := X.prog) (w := X.w) ps (I.ok.hd hc) pl.isList (by simpa using hits) (fun p hp => (e3 p hp).1) hpl (by omega) fun h' tk L es ep t R g k => ?_
  let φ : Heap → Prop := fun h => RawSet X.w s.heap.objs.size (L.map (·.1)) h ∧ (L.map fun p => kKey p.2).Nodup
  have hφ : φ h' := R.raw s
  refine ⟨.ref s.heap.objs.size, upd H s.heap.objs.size (.ext φ), I.laid (t' := tk) k (Nat.le_refl _) ⟨hφ, ?_, fun h1 h2 p kk => ?_⟩, rfl, q _ (L.map (·.1)) (L.map fun p => kKey p.2) φ hn (fun h z => z) ?_ fun x => ?_⟩
  · obtain ⟨es, ep, t, ⟨o, ho, _⟩, _⟩ := hφ.1
    exact ⟨o, ho⟩
  · obtain ⟨⟨es, ep, t, ⟨o, ho, r⟩, q'⟩, nd⟩ := p
    exact ⟨⟨es, ep, t, ⟨o, kk o ho, r⟩, q'⟩, nd⟩
  · have sub : ∀ p ∈ L, p ∈ ps := fun p hp => List.mem_of_mem_take (g.sub p hp)
    clear hφ R g
    induction L with
    | nil => exact .nil
    | cons p L ih => exact .cons (e3 p (sub p List.mem_cons_self)).2 (ih fun q hq => sub q (List.mem_cons_of_mem _ hq))
  · have hk2 : ks = ps.map fun p => kKey p.2 := by
      rw [← kKey_all hne, e2, List.map_map] <;> rfl
    rw [hk2]
    constructor
    · intro hx
      obtain ⟨p, hp, rfl⟩ := List.mem_map.mp hx
      exact List.mem_map.mpr ⟨p, List.mem_of_mem_take (g.sub p hp), rfl⟩
    · intro hx
      obtain ⟨p, hp, rfl⟩ := List.mem_map.mp hx
      obtain ⟨p', hp', e⟩ := List.mem_map.mp (g.all p (by rw [List.take_length]; exact hp))
      exact List.mem_map.mpr ⟨p', hp', congrArg kKey e⟩
end
def dSortSetN : D → Option (List D) := dSortS true 5
section
variable {X : Cx} {a : Expr} {f : Rho → Option D} {p p2 pos pos2 : Pos}
theorem dl_sortSetN {k : Nat} (hc : X.calm = true) (hr : Room k X.A) (hg : Gl X "sorted") (hm : X.mg "sorted" = none) (hg2 : Gl X "set") (hm2 : X.mg "set" = none) (ha : DB X a f)
    (he : starEach [a] X.env = (false, eval a X.env) :: starEach [] X.env := by rfl) (he2 : starEach [.Call (.Name "set" p2) [a] [] pos2] X.env = (false, eval (.Call (.Name "set" p2) [a] [] pos2) X.env) :: starEach [] X.env := by rfl) :
    DL X (.Call (.Name "sorted" p) [.Call (.Name "set" p2) [a] [] pos2] [] pos) (fun ρ => (f ρ).bind dSortSetN) := dl_sortS hc hr (cr_setK1 hc hr) hg hm hg2 hm2 ha he he2
end
end GY
set_option Elab.async false
set_option linter.all false
set_option maxRecDepth 100000
set_option maxHeartbeats 4000000
/-! Gyc: itertools.combinations(t, r), t a tuple. -/
namespace GY
open PySem PySem.Spec PyProof.Rows L2
namespace CB
theorem mro : mroOf (.type "itertools.combinations") = pure [.type "itertools.combinations", .type "object"] := by rw [mroOf_type]; kernel_rfl
theorem lookup_new : typeLookup (.type "itertools.combinations") "__new__" = pure (some (.builtin "itertools.combinations.__new__")) := by rw [typeLookup_type, builtinLookup_eq_fast]; kernel_rfl
theorem slot_init : Slot "itertools.combinations" "__init__" "object.__init__" :=
  .of (owner := "object") (n := "__init__") (by rw [typeLookup_type, builtinLookup_eq_fast]; kernel_rfl) (by decide +kernel) (by decide +kernel) (by decide +kernel)
    (by first | exact .inl (by decide +kernel) | exact .inr (by decide +kernel)) (by rw [isSubtype_type]; kernel_rfl)
theorem sub : isSubtype (.type "itertools.combinations") (.type "itertools.combinations") = pure true := by rw [isSubtype_type]; kernel_rfl
theorem called : TypeCalled "itertools.combinations" "itertools.combinations.__new__" "object.__init__" :=
  ⟨by decide +kernel, by decide +kernel, ⟨_, _, mro⟩, madeBy_type mro lookup_new (by decide +kernel), by decide +kernel, sub, slot_init⟩
theorem typeCall (a b : Value) : checkTypeCall "itertools.combinations" ⟨[a, b], []⟩ = pure () := by kernel_rfl
theorem newCall (a b : Value) : checkBuiltinCall "itertools.combinations.__new__" ⟨[.type "itertools.combinations", a, b], []⟩ = pure () := by kernel_rfl
theorem entry_new : entryFor table "itertools.combinations.__new__" = some Builtin.«itertools.combinations.__new__» := entryFor_of_tree (by kernel_rfl)
theorem slot_iter : Slot "itertools.combinations" "__iter__" "itertools.combinations.__iter__" :=
  .of (owner := "itertools.combinations") (n := "__iter__") (by rw [typeLookup_type, builtinLookup_eq_fast]; kernel_rfl) (by decide +kernel) (by decide +kernel) (by decide +kernel)
    (by first | exact .inl (by decide +kernel) | exact .inr (by decide +kernel)) sub
theorem slot_next : Slot "itertools.combinations" "__next__" "itertools.combinations.__next__" :=
  .of (owner := "itertools.combinations") (n := "__next__") (by rw [typeLookup_type, builtinLookup_eq_fast]; kernel_rfl) (by decide +kernel) (by decide +kernel) (by decide +kernel)
    (by first | exact .inl (by decide +kernel) | exact .inr (by decide +kernel)) sub
theorem entry_iter : entryFor table "itertools.combinations.__iter__" = some Builtin.«dict_keyiterator.__iter__» :=
  entryFor_alias (id' := "dict_keyiterator.__iter__") (by kernel_rfl) (by first | rfl | decide +kernel | (unfold String.splitOn; simp +decide [String.splitOnAux])) (by decide +kernel) (by kernel_rfl)
theorem entry_next : entryFor table "itertools.combinations.__next__" = some Builtin.«itertools.combinations.__next__» := entryFor_of_tree (by kernel_rfl)
theorem owner : Manifest.owners.lookup (String.ofList ['s', 'n', 'o', 'i', 't', 'a', 'n', 'i', 'b', 'm', 'o', 'c', '.', 's', 'l', 'o', 'o', 't', 'r', 'e', 't', 'i'].reverse) = some Manifest.sig_itertools_combinations := by kernel_rfl
theorem args_iter (a : Value) : argsOk "itertools.combinations.__iter__" ⟨[a], []⟩ := by
  unfold argsOk; rw [signature?_of (id := "itertools.combinations.__iter__") (n := ['_', '_', 'r', 'e', 't', 'i', '_', '_']) (o := ['s', 'n', 'o', 'i', 't', 'a', 'n', 'i', 'b', 'm', 'o', 'c', '.', 's', 'l', 'o', 'o', 't', 'r', 'e', 't', 'i']) (by kernel_rfl) owner]; kernel_rfl
theorem args_next (a : Value) : argsOk "itertools.combinations.__next__" ⟨[a], []⟩ := by
  unfold argsOk; rw [signature?_of (id := "itertools.combinations.__next__") (n := ['_', '_', 't', 'x', 'e', 'n', '_', '_']) (o := ['s', 'n', 'o', 'i', 't', 'a', 'n', 'i', 'b', 'm', 'o', 'c', '.', 's', 'l', 'o', 'o', 't', 'r', 'e', 't', 'i']) (by kernel_rfl) owner]; kernel_rfl
theorem noDict : typeHasDict (.type "itertools.combinations") = false := by decide +kernel
end CB
section
variable {prog : Program} {w : World} {A : Around} {E : Value → Shared → Prop} {s : Shared}
theorem collectT {l : Addr} {vs : List Value} {Q : List Value → Shared → Prop} (hl : s.heap.IsTuple l vs.toArray)
    (h : Q vs { s with heap := (s.heap.push (seqObj "list" #[] 0)).update s.heap.objs.size (Obj.mapSeq (· ++ vs.toArray)) }) (hsz : vs.length ≤ sizeLine) :
    wpAny (model prog w) A (collect (.ref l)) Q E s := by
  obtain ⟨o, ho, hc, n, hd⟩ := id hl
  unfold collect
  refine wpAny_bind (wpAny_runValue (codeAny_builtin entry_proto_collect' ?_))
  show wpAny _ _ (do again (.builtin "list.__iadd__" ⟨[← newList [], .ref l], []⟩)) _ _ s
  refine wpAny_bind (wpAny_newList (wpAny_pure ⟨Code.quiet_builtin _ (by decide +kernel), codeAny_builtin entry_list_iadd' ?_⟩))
  show wpAny _ _ (Builtin.List.listExtendWith (.ref s.heap.objs.size) (.ref l) (.ref s.heap.objs.size)) _ _ { s with heap := s.heap.push (seqObj "list" #[] 0) }
  unfold Builtin.List.listExtendWith
  have ho' : (s.heap.push (seqObj "list" #[] 0)).get? l = some o := Heap.get?_push_of_some _ ho
  refine wpAny_bind (wpAny_typeOf (T := "tuple") ⟨o, ho', hc⟩ ?_)
  have ht : (Value.type "tuple" == Value.type "tuple") = true := by rfl
  rw [if_pos (by rw [ht]; simp)]
  refine wpAny_bind (listItems_at ho' hd ?_)
  refine wpAny_bind (listItems_at (xs := #[]) (n := 0) (Heap.get?_push_size _ rfl) rfl ?_)
  rw [if_neg (by simp)]
  refine wpAny_bind (listUpdate_at (xs := #[]) (n := 0) (Heap.get?_push_size _ rfl) rfl ?_ (Nat.zero_le _) (by show (#[] ++ vs.toArray).size ≤ sizeLine + 1; simp only [Array.size_append, List.size_toArray, List.length_nil]; omega))
  refine wpAny_pure ?_
  show wpAny (model prog w) A (do
      let o ← load s.heap.objs.size
      match o.data with
      | .seq xs _ => pure xs.toList
      | _ => unsupported "internal:collect") Q E { s with heap := (s.heap.push (seqObj "list" #[] 0)).update s.heap.objs.size (Obj.mapSeq (· ++ vs.toArray)) }
  refine wpAny_bind (wpAny_load (get?_update_seq (Heap.get?_push_size _ rfl) _) ?_)
  show wpAny _ _ (pure ((#[] : Array Value) ++ vs.toArray).toList) Q E _
  rw [show ((#[] : Array Value) ++ vs.toArray).toList = vs by simp]
  exact wpAny_pure h
end
end GY
set_option Elab.async false
set_option linter.all false
set_option maxRecDepth 100000
set_option maxHeartbeats 4000000
/-! Gyd: itertools.combinations(t, r): the object, its turns. -/
namespace GY
open PySem PySem.Spec PyProof.Rows L2
/-- the record: its pool, how far it is, what it handed out last, the indices -/
def recO (pool : Addr) (st : Int) (last : Value) (idx : List Nat) : Obj := { cls := .type "itertools.combinations", dict := none, data := .fields ([.ref pool, rawInt st, last] ++ idx.map fun (i : Nat) => rawInt i).toArray, slots := #[] }
def heapC (h : Heap) (vs : List Value) : Heap := ((h.push (seqObj "list" #[] 0)).update h.objs.size (Obj.mapSeq (· ++ vs.toArray))).push (seqObj "tuple" vs.toArray 0)
theorem meets_new {l : Addr} {vs : List Value} {r : Nat} {t : Tok} (hr : r ≤ vs.length) (hv : vs.length ≤ 1000) :
    Meets (Builtin.«itertools.combinations.__new__» ⟨[.type "itertools.combinations", .ref l, .int (r : Int) t], []⟩)
      (fun _ R s => s.heap.IsTuple l vs.toArray ∧ R (.ok (.ret (.ref (heapC s.heap vs).objs.size))) { s with heap := (heapC s.heap vs).push (recO (s.heap.objs.size + 1) 0 .none (List.range r)) }) :=
  .of_wp fun prog w A R s ⟨hl, h⟩ => by
    obtain ⟨hp, g, dd, tk, os⟩ := s
    have hsub := CB.sub
    have hd := CB.noDict
    have hn : ¬ ((!(decide (-(2 ^ 63 : Int) ≤ (r : Int)) && decide ((r : Int) < (2 ^ 63 : Int)))) = true) := by
      have a : decide (-(2 ^ 63 : Int) ≤ (r : Int)) = true := decide_eq_true (by omega)
      have b : decide ((r : Int) < (2 ^ 63 : Int)) = true := decide_eq_true (by omega)
      rw [a, b]
      decide
    have es : ("itertools." ++ "combinations" : String) = "itertools.combinations" := by decide +kernel
    show wpAny _ _ ((Builtin.Itertools.itClassAndRest "combinations" _ >>= _) >>= _) _ _ _
    refine wpAny_bind (wpAny_bind ?_)
    unfold Builtin.Itertools.itClassAndRest
    rw [es]
    dsimp only
    iterate 9 (first
      | wp_step
      | fail "x")
    unfold Builtin.Itertools.itBindNamed
    repeat (first
      | wp_step
      | simp only [List.head?_cons, Option.some_or, List.getElem?_cons_succ, List.getElem?_cons_zero, List.length_cons, List.length_nil, List.forIn_nil])
    have hn1 : ¬ ((decide ((r : Int) < -2 ^ 63) || decide ((r : Int) ≥ 2 ^ 63)) = true) := by
      have a : decide ((r : Int) < -2 ^ 63) = false := decide_eq_false (by omega)
      have b : decide ((r : Int) ≥ 2 ^ 63) = false := decide_eq_false (by omega)
      rw [a, b]
      decide
    refine wp_if_neg hn1 (wpAny_pure ?_)
    refine wpAny_bind (collectT hl ?_ (by rw [sizeLine_eq]; omega))
    refine wp_if_neg (by omega) ?_
    have hn2 : ¬ Builtin.Itertools.itTooMany (r : Int) = true := by
      unfold Builtin.Itertools.itTooMany
      rw [decide_eq_true_eq]
      omega
    refine wp_if_neg hn2 ?_
    refine wpAny_bind (wpAny_newTuple ?_ (by rw [sizeLine_eq]; omega))
    refine wpAny_pure ?_
    unfold Builtin.Itertools.itNewRecord
    rw [hd]
    refine wpAny_bind ?_
    dsimp only
    refine wp_if_pos (by decide) ?_
    have e1 : (if (r : Int).toNat > vs.length then (2 : Int) else 0) = 0 := if_neg (by omega)
    have e2 : (r : Int).toNat = r := by omega
    rw [e1, e2]
    refine wpAny_newObj_type ?_ ?_
    · refine wpAny_pure ⟨_, rfl, ?_⟩
      have e3 : heapC hp vs = (((hp.push (seqObj "list" #[] 0)).update hp.objs.size (Obj.mapSeq (· ++ vs.toArray))).push { cls := .type "tuple", data := .seq vs.toArray }) := rfl
      have e4 : ((hp.push (seqObj "list" #[] 0)).update hp.objs.size (Obj.mapSeq (· ++ vs.toArray))).objs.size = hp.objs.size + 1 := by
        rw [Heap.size_update, size_push']
      show R _ _
      rw [← e3]
      have e5 : ({ cls := Value.type "itertools.combinations", dict := none, data := Data.fields ([Value.ref ((hp.push (seqObj "list" #[] 0)).update hp.objs.size (Obj.mapSeq (· ++ vs.toArray))).objs.size, rawInt 0, Value.none] ++ List.map (fun (i : Nat) => rawInt (i : Int)) (List.range r)).toArray } : Obj) = recO (hp.objs.size + 1) 0 .none (List.range r) := by
        rw [e4] <;> rfl
      rw [e5]
      exact h
    · show (_ : Array Value).size ≤ _
      rw [List.size_toArray, sizeLine_eq]
      simp
      omega
end GY
set_option Elab.async false
set_option linter.all false
set_option maxRecDepth 100000
set_option maxHeartbeats 4000000
/-! Gye: itertools.combinations(t, r): its turns. -/
namespace GY
open PySem PySem.Spec PyProof.Rows L2
section
variable {prog : Program} {w : World} {A : Around} {E : Value → Shared → Prop} {s : Shared}
theorem call_comb {l : Addr} {vs : List Value} {r : Nat} {t : Tok} {Q : Value → Shared → Prop} (hl : s.heap.IsTuple l vs.toArray) (hr : r ≤ vs.length) (hv : vs.length ≤ 1000)
    (h : Q (.ref (heapC s.heap vs).objs.size) { s with heap := (heapC s.heap vs).push (recO (s.heap.objs.size + 1) 0 .none (List.range r)) }) :
    wpAny (model prog w) A (call (.type "itertools.combinations") [.ref l, .int (r : Int) t]) Q E s := by
  refine callType_new CB.called (by decide +kernel) (CB.typeCall _ _) (CB.newCall _ _) (fun obj => F.args_object_init_3 obj _ _) CB.entry_new (meets_new hr hv) ?_
  exact ⟨hl, ⟨_, Heap.get?_push_size _ rfl, rfl⟩, h⟩
theorem heapC_pool (h : Heap) (vs : List Value) : (heapC h vs).get? (h.objs.size + 1) = some (seqObj "tuple" vs.toArray 0) ∧ (heapC h vs).objs.size = h.objs.size + 2 := by
  have e4 : ((h.push (seqObj "list" #[] 0)).update h.objs.size (Obj.mapSeq (· ++ vs.toArray))).objs.size = h.objs.size + 1 := by
    rw [Heap.size_update, size_push']
  constructor
  · unfold heapC
    rw [← e4]
    exact Heap.get?_push_size _ rfl
  · unfold heapC
    rw [size_push', e4]
theorem heapC_old {h : Heap} {vs : List Value} {b : Addr} {o : Obj} (e : h.get? b = some o) : (heapC h vs).get? b = some o := by
  unfold heapC
  refine Heap.get?_push_of_some _ ?_
  rw [Heap.get?_update_ne _ _ _ _ (Nat.ne_of_lt (Heap.lt_size e))]
  exact Heap.get?_push_of_some _ e
theorem iter_comb {it pool : Addr} {st : Int} {last : Value} {idx : List Nat} {Q : Value → Shared → Prop} (hit : s.heap.get? it = some (recO pool st last idx)) (h : Q (.ref it) s) : wpAny (model prog w) A (pyIter (.ref it)) Q E s := by
  have hT : s.TypeIs (.ref it) "itertools.combinations" := ⟨_, hit, rfl⟩
  refine wpAny_pyIter_slot hT CB.slot_iter (wpAny_call_entry CB.slot_iter hT CB.entry_iter ?_ (CB.args_iter _))
  show wpAny _ _ (ret (.ref it)) _ _ s
  exact wpAny_pure ⟨_, rfl, "itertools.combinations", _, hT, CB.slot_next.lookup, h⟩
/-- the next row of indices -/
def nextC (n : Nat) (idx : List Nat) : Option (List Nat) :=
  match (List.range idx.length).reverse.find? fun i => idx.getD i 0 != i + n - idx.length with
  | none => none
  | some i => some (idx.take i ++ (List.range (idx.length - i)).map (idx.getD i 0 + 1 + ·))
def rowC (vs : List Value) (idx : List Nat) : Obj := { cls := .type "tuple", data := .seq (idx.map fun i => vs.getD i .none).toArray }

theorem rec_set1 {pool : Addr} {st st' : Int} {last : Value} {idx : List Nat} : Obj.mapFields (·.setIfInBounds 1 (rawInt st')) (recO pool st last idx) = recO pool st' last idx := by
  unfold recO
  show Obj.mapFields _ ⟨_, _, .fields _, _⟩ = _
  simp only [Obj.mapFields, List.cons_append, List.nil_append, List.setIfInBounds_toArray, List.set_cons_succ, List.set_cons_zero]
theorem rec_set2 {pool : Addr} {st : Int} {last last' : Value} {idx : List Nat} : Obj.mapFields (·.setIfInBounds 2 last') (recO pool st last idx) = recO pool st last' idx := by
  unfold recO
  show Obj.mapFields _ ⟨_, _, .fields _, _⟩ = _
  simp only [Obj.mapFields, List.cons_append, List.nil_append, List.setIfInBounds_toArray, List.set_cons_succ, List.set_cons_zero]
theorem rec_setN {pool : Addr} {st : Int} {last : Value} {idx idx' : List Nat} : Obj.mapFields (fun fs => fs.extract 0 3 ++ (idx'.map fun (n : Nat) => rawInt n).toArray) (recO pool st last idx) = recO pool st last idx' := by
  unfold recO
  show Obj.mapFields _ ⟨_, _, .fields _, _⟩ = _
  simp [Obj.mapFields]
theorem rec_nums {f : Value → Nat} {idx : List Nat} {a b c : Value} (hf : ∀ (n : Int) (t : Tok), f (.int n t) = n.toNat) : (List.drop 3 ([a, b, c] ++ idx.map fun (i : Nat) => rawInt i).toArray.toList).map f = idx := by
  show (idx.map fun (i : Nat) => rawInt i).map f = idx
  rw [List.map_map]
  refine (List.map_congr_left fun i _ => ?_).trans (List.map_id _)
  exact hf i 0
theorem upd_at {h : Heap} {a : Addr} {o o' : Obj} {f : Obj → Obj} (ho : h.get? a = some o) (e : f o = o') (hf : o'.isFreed = false) : (h.update a f).get? a = some o' := by
  have q := Heap.get?_update_self f ho (by rw [e]; exact hf)
  rw [e] at q
  exact q
theorem rec_live (pool : Addr) (st : Int) (last : Value) (idx : List Nat) : (recO pool st last idx).isFreed = false := rfl
/-- handing out a row -/
theorem hand_out {it pool : Addr} {last : Value} {idx old : List Nat} {vs : List Value} {m : Nat} {op : Obj} {Q : Value → Shared → Prop} (hit : s.heap.get? it = some (recO pool 1 last old)) (hpo : s.heap.get? pool = some op) (hpd : op.data = .seq vs.toArray m) (hlen : idx.length ≤ 1000)
    (hQ : ∀ h', h'.get? s.heap.objs.size = some (rowC vs idx) → h'.get? it = some (recO pool 1 (.ref s.heap.objs.size) old) → (∀ b o, b ≠ it → s.heap.get? b = some o → h'.get? b = some o) → Q (.ref s.heap.objs.size) { s with heap := h' }) :
    wpAny (model prog w) A (do
      let result ← (do
        let items ← Builtin.Itertools.itPoolItems (.ref pool)
        newTuple (idx.map fun i => items.getD i .none))
      let before ← field (.ref it) 2
      setField (.ref it) 2 result
      letGo [before] [result]
      ret result) (fun r s' => ∃ v, r = .done (.ret v) ∧ Q v s') E s := by
  unfold Builtin.Itertools.itPoolItems
  refine wpAny_bind (wpAny_bind (wpAny_bind (wpAny_seqItems hpo hpd (wpAny_pure ?_))))
  refine wpAny_newTuple ?_ (by rw [List.length_map, sizeLine_eq]; omega)
  have e0 : (idx.map fun i => vs.toArray.getD i Value.none) = idx.map fun i => vs.getD i Value.none := List.map_congr_left fun i _ => by simp [Array.getD_eq_getD_getElem?]
  rw [e0]
  have hit1 : (s.heap.push (rowC vs idx)).get? it = some (recO pool 1 last old) := Heap.get?_push_of_some _ hit
  refine wpAny_bind (wpAny_field (o := recO pool 1 last old) (x := last) hit1 rfl rfl ?_)
  refine wpAny_bind (wpAny_setField (o := recO pool 1 last old) hit1 rfl (by simp) ?_)
  refine wpAny_bind (wpAny_letGo ?_)
  have hn : s.heap.objs.size ≠ it := Nat.ne_of_gt (Heap.lt_size hit)
  exact wpAny_pure ⟨_, rfl, hQ _ ((Heap.get?_update_ne _ _ _ _ hn).trans (Heap.get?_push_size _ rfl)) (upd_at hit1 rec_set2 (rec_live ..)) fun b o hb e => (Heap.get?_update_ne _ _ _ _ hb).trans (Heap.get?_push_of_some _ e)⟩
theorem comb_first {it pool : Addr} {last : Value} {idx : List Nat} {vs : List Value} {m : Nat} {op : Obj} {Q : Option Value → Shared → Prop} (hit : s.heap.get? it = some (recO pool 0 last idx)) (hpo : s.heap.get? pool = some op) (hpd : op.data = .seq vs.toArray m) (hne : pool ≠ it) (hlen : idx.length ≤ 1000)
    (hQ : ∀ h', h'.get? s.heap.objs.size = some (rowC vs idx) → h'.get? it = some (recO pool 1 (.ref s.heap.objs.size) idx) → (∀ b o, b ≠ it → s.heap.get? b = some o → h'.get? b = some o) → Q (some (.ref s.heap.objs.size)) { s with heap := h' }) :
    wpAny (model prog w) A (pyNext (.ref it)) Q E s := by
  have hT : s.TypeIs (.ref it) "itertools.combinations" := ⟨_, hit, rfl⟩
  unfold pyNext
  refine wpAny_bind (wpAny_attempt (wpAny_callSpecial?_slot (name := Str.ofString "__next__") hT CB.slot_next (wpAny_call_entry CB.slot_next hT CB.entry_next ?_ (CB.args_next _))))
  show wpAny _ _ (field (.ref it) 0 >>= _) _ _ s
  refine wpAny_bind (wpAny_field (o := recO pool 0 last idx) (x := .ref pool) hit rfl rfl ?_)
  show wpAny _ _ (Builtin.Itertools.itNumbersFrom (.ref it) 3 >>= _) _ _ s
  unfold Builtin.Itertools.itNumbersFrom
  refine wpAny_bind (wpAny_bind (wpAny_load hit ?_))
  refine wpAny_pure ?_
  rw [rec_nums (fun _ _ => rfl)]
  show wpAny _ _ (Builtin.Itertools.itIntField (.ref it) 1 >>= _) _ _ s
  unfold Builtin.Itertools.itIntField
  refine wpAny_bind (wpAny_bind (wpAny_field (o := recO pool 0 last idx) (x := .int 0 0) hit rfl rfl (wpAny_pure ?_)))
  dsimp only
  refine wpAny_bind (wpAny_setField (o := recO pool 0 last idx) hit rfl (by simp) ?_)
  have hit1 := upd_at hit (rec_set1 (pool := pool) (st := 0) (st' := 1) (last := last) (idx := idx)) (rec_live ..)
  refine wpAny_mono (hand_out (s := { s with heap := s.heap.update it _ }) (idx := idx) (Q := fun v s' => Q (some v) s') hit1 ((Heap.get?_update_ne _ _ _ _ hne).trans hpo) hpd hlen fun h' a b c => ?_) (fun r s' ⟨v, e, q⟩ => ⟨v, e, wpAny_pure q⟩) fun _ _ e => e
  have ez : (s.heap.update it (Obj.mapFields (·.setIfInBounds 1 (rawInt 1)))).objs.size = s.heap.objs.size := Heap.size_update ..
  rw [ez] at a b ⊢
  exact hQ h' a b fun x o hx e => c x o hx ((Heap.get?_update_ne _ _ _ _ hx).trans e)
theorem comb_more {it pool : Addr} {last : Value} {idx nx : List Nat} {vs : List Value} {m : Nat} {op : Obj} {Q : Option Value → Shared → Prop} (hit : s.heap.get? it = some (recO pool 1 last idx)) (hpo : s.heap.get? pool = some op) (hpd : op.data = .seq vs.toArray m) (hne : pool ≠ it) (hnx : nextC vs.length idx = some nx) (hlen : nx.length ≤ 1000)
    (hQ : ∀ h', h'.get? s.heap.objs.size = some (rowC vs nx) → h'.get? it = some (recO pool 1 (.ref s.heap.objs.size) nx) → (∀ b o, b ≠ it → s.heap.get? b = some o → h'.get? b = some o) → Q (some (.ref s.heap.objs.size)) { s with heap := h' }) :
    wpAny (model prog w) A (pyNext (.ref it)) Q E s := by
  have hT : s.TypeIs (.ref it) "itertools.combinations" := ⟨_, hit, rfl⟩
  unfold pyNext
  refine wpAny_bind (wpAny_attempt (wpAny_callSpecial?_slot (name := Str.ofString "__next__") hT CB.slot_next (wpAny_call_entry CB.slot_next hT CB.entry_next ?_ (CB.args_next _))))
  show wpAny _ _ (field (.ref it) 0 >>= _) _ _ s
  refine wpAny_bind (wpAny_field (o := recO pool 1 last idx) (x := .ref pool) hit rfl rfl ?_)
  show wpAny _ _ (Builtin.Itertools.itNumbersFrom (.ref it) 3 >>= _) _ _ s
  unfold Builtin.Itertools.itNumbersFrom
  refine wpAny_bind (wpAny_bind (wpAny_load hit ?_))
  refine wpAny_pure ?_
  rw [rec_nums (fun _ _ => rfl)]
  show wpAny _ _ (Builtin.Itertools.itIntField (.ref it) 1 >>= _) _ _ s
  unfold Builtin.Itertools.itIntField
  refine wpAny_bind (wpAny_bind (wpAny_field (o := recO pool 1 last idx) (x := .int 1 0) hit rfl rfl (wpAny_pure ?_)))
  dsimp only
  show wpAny _ _ (Builtin.Itertools.itPoolItems (.ref pool) >>= _) _ _ s
  unfold Builtin.Itertools.itPoolItems
  refine wpAny_bind (wpAny_bind (wpAny_seqItems hpo hpd (wpAny_pure ?_)))
  split
  · rename_i nx' hstep
    have hstep' : nextC vs.toArray.size idx = some nx' := hstep
    rw [List.size_toArray, hnx] at hstep'
    cases hstep'
    unfold Builtin.Itertools.itSetNumbersFrom
    refine wpAny_bind (wpAny_updateFields (o := recO pool 1 last idx) hit rfl ?_ (by rw [sizeLine_eq]; simp; omega))
    have hit1 := upd_at hit (rec_setN (pool := pool) (st := 1) (last := last) (idx := idx) (idx' := nx)) (rec_live ..)
    refine wpAny_mono (hand_out (s := { s with heap := s.heap.update it _ }) (idx := nx) (Q := fun v s' => Q (some v) s') hit1 ((Heap.get?_update_ne _ _ _ _ hne).trans hpo) hpd hlen fun h' a b c => ?_) (fun r s' ⟨v, e, q⟩ => ⟨v, e, wpAny_pure q⟩) fun _ _ e => e
    have ez : (s.heap.update it (Obj.mapFields fun fs => fs.extract 0 3 ++ (nx.map fun (n : Nat) => rawInt n).toArray)).objs.size = s.heap.objs.size := Heap.size_update ..
    rw [ez] at a b ⊢
    exact hQ h' a b fun x o hx e => c x o hx ((Heap.get?_update_ne _ _ _ _ hx).trans e)
  · rename_i hstep
    have hstep' : nextC vs.toArray.size idx = none := hstep
    rw [List.size_toArray, hnx] at hstep'
    cases hstep'
theorem comb_end {it pool : Addr} {last : Value} {idx : List Nat} {vs : List Value} {m : Nat} {op : Obj} {Q : Option Value → Shared → Prop} (hh : A.handled = none) (hit : s.heap.get? it = some (recO pool 1 last idx)) (hpo : s.heap.get? pool = some op) (hpd : op.data = .seq vs.toArray m) (hnx : nextC vs.length idx = none)
    (hQ : ∀ h', (∀ b o, b ≠ it → s.heap.get? b = some o → h'.get? b = some o) → Q none { s with heap := h' }) :
    wpAny (model prog w) A (pyNext (.ref it)) Q E s := by
  have hT : s.TypeIs (.ref it) "itertools.combinations" := ⟨_, hit, rfl⟩
  unfold pyNext
  refine wpAny_bind (wpAny_attempt (wpAny_callSpecial?_slot (name := Str.ofString "__next__") hT CB.slot_next (wpAny_call_entry CB.slot_next hT CB.entry_next ?_ (CB.args_next _))))
  show wpAny _ _ (field (.ref it) 0 >>= _) _ _ s
  refine wpAny_bind (wpAny_field (o := recO pool 1 last idx) (x := .ref pool) hit rfl rfl ?_)
  show wpAny _ _ (Builtin.Itertools.itNumbersFrom (.ref it) 3 >>= _) _ _ s
  unfold Builtin.Itertools.itNumbersFrom
  refine wpAny_bind (wpAny_bind (wpAny_load hit ?_))
  refine wpAny_pure ?_
  rw [rec_nums (fun _ _ => rfl)]
  show wpAny _ _ (Builtin.Itertools.itIntField (.ref it) 1 >>= _) _ _ s
  unfold Builtin.Itertools.itIntField
  refine wpAny_bind (wpAny_bind (wpAny_field (o := recO pool 1 last idx) (x := .int 1 0) hit rfl rfl (wpAny_pure ?_)))
  dsimp only
  show wpAny _ _ (Builtin.Itertools.itPoolItems (.ref pool) >>= _) _ _ s
  unfold Builtin.Itertools.itPoolItems
  refine wpAny_bind (wpAny_bind (wpAny_seqItems hpo hpd (wpAny_pure ?_)))
  split
  · rename_i nx' hstep
    have hstep' : nextC vs.toArray.size idx = some nx' := hstep
    rw [List.size_toArray, hnx] at hstep'
    cases hstep'
  · refine wpAny_bind (wpAny_setField (o := recO pool 1 last idx) hit rfl (by simp) ?_)
    show wpAny _ _ (newExc (.type "StopIteration") [] >>= _) _ _ _
    refine wpAny_bind ?_
    simp only [newExc, newTuple]
    refine wpAny_bind (wpAny_newObj_type ?_ (by size_fits))
    refine wpAny_bind (m := firstArgMember _ _) (wpAny_of_eq (a := Value.none) (by first | rfl | (simp only [firstArgMember]; rfl)) ?_)
    refine wpAny_newObj_type ?_ (by size_fits)
    simp only [raiseNew]
    refine wpAny_bind (wpAny_handled ?_)
    rw [show A.in1.handled = none from hh]
    refine wpAny_bind (wpAny_pure (wpAny_throw ?_))
    refine wpAny_bind (wpAny_isInstance (T := "StopIteration") (b := true) ⟨_, Heap.get?_push_size _ rfl, rfl⟩ isSubtype_stop ?_)
    refine wpAny_pure (hQ _ fun b o hb e => ?_)
    exact Heap.get?_push_of_some _ (Heap.get?_push_of_some _ ((Heap.get?_update_ne _ _ _ _ hb).trans e))
end
end GY
set_option Elab.async false
set_option linter.all false
set_option maxRecDepth 100000
set_option maxHeartbeats 4000000
/-! Gyf: for .. in combinations(t, r), told by data. -/
namespace GY
open PySem PySem.Spec PyProof.Rows L2
/-- all rows of indices, from idx on -/
def combsF : Nat → Nat → List Nat → Option (List (List Nat))
  | 0, _, _ => none
  | f + 1, n, idx => match nextC n idx with
    | none => some [idx]
    | some nx => (combsF f n nx).map (idx :: ·)
theorem combs_head : ∀ {f n : Nat} {idx : List Nat} {cs : List (List Nat)}, combsF f n idx = some cs → ∃ r, cs = idx :: r
  | 0, _, _, _, h => by cases h
  | f + 1, n, idx, cs, h => by
    unfold combsF at h
    split at h
    · cases h
      exact ⟨[], rfl⟩
    · obtain ⟨r, _, e⟩ := map_some h
      exact ⟨r, e.symm⟩
theorem combs_step : ∀ {f n : Nat} {idx : List Nat} {cs : List (List Nat)}, combsF f n idx = some cs → ∀ (i : Nat) (c : List Nat), cs[i]? = some c → nextC n c = cs[i + 1]?
  | 0, _, _, _, h => by cases h
  | f + 1, n, idx, cs, h => by
    intro i c hc
    unfold combsF at h
    split at h
    · rename_i hn
      cases h
      cases i with
      | zero =>
        cases hc
        exact hn
      | succ i => cases hc
    · rename_i nx hn
      obtain ⟨r, e1, e2⟩ := map_some h
      subst e2
      cases i with
      | zero =>
        cases hc
        obtain ⟨r', e⟩ := combs_head e1
        rw [hn, e] <;> rfl
      | succ i => exact combs_step e1 i c hc
/-- combinations(ds, r) -/
def dComb : List D → Option (List D)
  | [.tuple ds, .int r] => if 0 ≤ r ∧ r.toNat ≤ ds.length ∧ ds.length ≤ 1000 then
      (combsF 1000 ds.length (List.range r.toNat)).bind fun cs => if cs.all (fun c => decide (c.length ≤ 1000)) then some (cs.map fun c => .tuple (c.map fun i => ds.getD i .none)) else none
    else none
  | _ => none
/-- the It of the rows -/
def Itc (cs : List (List Nat)) (vs : List V) : It :=
  ⟨fun i _ => i < cs.length, fun i H x H' => ∃ c p, cs[i]? = some c ∧ x = .ref p ∧ H p = none ∧ H' = upd H p (.tup (c.map fun j => vs.getD j .non)), fun i _ => cs.length ≤ i⟩
/-- the record before the i-th turn -/
def TnC (it pool : Addr) (us : List Value) (cs : List (List Nat)) (i : Nat) (h : Heap) : Prop :=
  h.get? pool = some (seqObj "tuple" us.toArray 0) ∧ (i = 0 → ∃ c, cs[0]? = some c ∧ h.get? it = some (recO pool 0 .none c)) ∧ (∀ k, i = k + 1 → ∃ c last, cs[k]? = some c ∧ h.get? it = some (recO pool 1 last c))
theorem TnC.rec {it pool : Addr} {us : List Value} {cs : List (List Nat)} {i : Nat} {h : Heap} (t : TnC it pool us cs i h) : ∃ st last c, h.get? it = some (recO pool st last c) := by
  obtain ⟨_, h1, h2⟩ := t
  cases i with
  | zero =>
    obtain ⟨c, _, e⟩ := h1 rfl
    exact ⟨_, _, _, e⟩
  | succ k =>
    obtain ⟨c, l, _, e⟩ := h2 k rfl
    exact ⟨_, _, _, e⟩
theorem vals_getD {vs : List V} {us : List Value} (r : Vals vs us) (j : Nat) : RelV (vs.getD j .non) (us.getD j .none) := by
  rw [List.getD_eq_getElem?_getD, List.getD_eq_getElem?_getD]
  cases h : vs[j]? with
  | none =>
    have hl : us[j]? = none := List.getElem?_eq_none (by have := List.getElem?_eq_none_iff.mp h; rw [← r.length]; exact this)
    rw [hl]
    exact rfl
  | some v =>
    obtain ⟨u, hu, ru⟩ := r.get h
    rw [hu]
    exact ru
theorem vals_row {vs : List V} {us : List Value} (r : Vals vs us) : ∀ c : List Nat, Vals (c.map fun j => vs.getD j .non) (c.map fun j => us.getD j .none)
  | [] => .nil
  | j :: c => .cons (vals_getD r j) (vals_row r c)
theorem dqs_row {F : Hp} {vs : List V} {ds : List D} (h : DqAll F vs ds) : ∀ c : List Nat, DqAll F (c.map fun j => vs.getD j .non) (c.map fun j => ds.getD j .none)
  | [] => .nil
  | j :: c => by
    refine .cons ?_ (dqs_row h c)
    show Dq F (vs.getD j .non) (ds.getD j .none)
    rw [List.getD_eq_getElem?_getD, List.getD_eq_getElem?_getD]
    cases e : ds[j]? with
    | none =>
      have hl : vs[j]? = none := List.getElem?_eq_none (by have := List.getElem?_eq_none_iff.mp e; rw [h.len]; exact this)
      rw [hl]
      exact .non
    | some d =>
      obtain ⟨v, hv, hd⟩ := h.get e
      rw [hv]
      exact hd
theorem turn_comb {P : Program} {w : World} {K : PySem.W.Frag} {tg : Expr} {it pool : Addr} {us : List Value} {vs : List V} {cs : List (List Nat)} {f : Nat} {idx : List Nat} (hne : pool ≠ it) (rv : Vals vs us) (hcs : combsF f us.length idx = some cs) (hl : ∀ c ∈ cs, c.length ≤ 1000) :
    Turn P w K tg (Itc cs vs) [it, pool] it (TnC it pool us cs) where
  mem := by simp
  obj := fun i h st b hb => by
    obtain ⟨s', l, c, e⟩ := st.rec
    rcases List.mem_cons.mp hb with rfl | hb
    · exact ⟨_, e, fun v z => nomatch z⟩
    · rcases List.mem_cons.mp hb with rfl | hb
      · exact ⟨_, st.1, fun v z => nomatch z⟩
      · cases hb
  keep := fun i h h' st k => ⟨k pool (by simp) _ st.1, fun e => by
    obtain ⟨c, e1, e2⟩ := st.2.1 e
    exact ⟨c, e1, k it (by simp) _ e2⟩, fun j e => by
    obtain ⟨c, l, e1, e2⟩ := st.2.2 j e
    exact ⟨c, l, e1, k it (by simp) _ e2⟩⟩
  item := by
    intro X hP hw hK hc i pins s σ H E I hf st hg
    subst hP hw hK
    have hg' : i < cs.length := hg
    have hp := st.1
    have fresh : H s.heap.objs.size = none := I.hok.fresh (Nat.le_refl _)
    have fin : ∀ (h' : Heap) (c : List Nat) (last : Value), cs[i]? = some c → h'.get? s.heap.objs.size = some (rowC us c) → h'.get? it = some (recO pool 1 (.ref s.heap.objs.size) c) → (∀ b o, b ≠ it → s.heap.get? b = some o → h'.get? b = some o) →
        ∃ u, some (Value.ref s.heap.objs.size) = some u ∧ wpAny (model X.prog X.w) X.A (letOwnedTupleGo tg (.ref it) u) (fun _ s2 => ∃ x H', Inv X pins σ H' s2 ∧ RelV x u ∧ (Itc cs vs).yld i H x H' ∧ TnC it pool us cs (i + 1) s2.heap ∧ ∀ b ∈ [it, pool], H' b = none) E { s with heap := h' } := fun h' c last e1 e2 e3 e4 => by
      refine ⟨_, rfl, go_of (s := { s with heap := h' }) e3 rfl rfl (by decide) ?_⟩
      have new : ObjOk X.prog X.w (upd H s.heap.objs.size (.tup (c.map fun j => vs.getD j .non))) h' s.heap.objs.size (.tup (c.map fun j => vs.getD j .non)) :=
        ⟨by
          show (c.map fun j => vs.getD j V.non).length ≤ sizeLine
          rw [List.length_map, sizeLine_eq]
          have := hl c (List.mem_of_getElem? e1)
          omega, _, vals_row rv c, ⟨_, e2, rfl, _, rfl⟩⟩
      have I1 : Inv X pins σ (upd H s.heap.objs.size (.tup (c.map fun j => vs.getD j .non))) { s with heap := h' } :=
        I.turnedNew (t' := s.toks) (ch := [it, pool]) (fun b ob hb q => e4 b ob (fun z => hb (by simp [z])) q) hf (Nat.le_refl _) new
      refine ⟨.ref s.heap.objs.size, _, I1, rfl, ⟨c, _, e1, rfl, fresh, rfl⟩, ⟨e4 pool _ hne hp, fun z => by omega, fun k z => ?_⟩, fun b hb => ?_⟩
      · obtain rfl : k = i := by omega
        exact ⟨c, _, e1, e3⟩
      · obtain ⟨o, ho⟩ : ∃ o, s.heap.get? b = some o := by
          rcases List.mem_cons.mp hb with rfl | hb
          · obtain ⟨_, _, _, e⟩ := st.rec
            exact ⟨_, e⟩
          · rcases List.mem_cons.mp hb with rfl | hb
            · exact ⟨_, hp⟩
            · cases hb
        rw [upd_ne (Nat.ne_of_lt (Heap.lt_size ho))]
        exact (hf b hb).1
    cases i with
    | zero =>
      obtain ⟨c, e1, e2⟩ := st.2.1 rfl
      exact comb_first e2 hp rfl hne (hl c (List.mem_of_getElem? e1)) fun h' a b d => fin h' c .none e1 a b d
    | succ k =>
      obtain ⟨c, last, e1, e2⟩ := st.2.2 k rfl
      obtain ⟨nx, hnx⟩ : ∃ nx, cs[k + 1]? = some nx := ⟨_, List.getElem?_eq_getElem hg'⟩
      exact comb_more e2 hp rfl hne ((combs_step hcs k c e1).trans hnx) (hl nx (List.mem_of_getElem? hnx)) fun h' a b d => fin h' nx .none hnx a b d
  done := by
    intro X hP hw hK hc i pins s σ H E I hf st hg
    subst hP hw hK
    have hg' : cs.length ≤ i := hg
    obtain ⟨f0, f1, f2, f3, f4, f5⟩ := hf it (by simp)
    cases i with
    | zero =>
      obtain ⟨c, e1, e2⟩ := st.2.1 rfl
      have := (List.getElem?_eq_some_iff.mp e1).1
      omega
    | succ k =>
      obtain ⟨c, last, e1, e2⟩ := st.2.2 k rfl
      refine comb_end (I.ok.hd hc) e2 st.1 rfl ((combs_step hcs k c e1).trans (List.getElem?_eq_none hg')) fun h' a => ⟨rfl, I.turned (t' := s.toks) a f0 f1 f3 f4 f5⟩
  self := fun A i s Q E st h => by
    obtain ⟨_, _, _, e⟩ := st.rec
    exact iter_comb e h
/-- the module's name of the type -/
structure Comb (K : PySem.W.Frag) (mg : Str → Option Value) : Prop where
  mg : mg "combinations" = some (.type "itertools.combinations")
def iComb (K : PySem.W.Frag) (ta : TA) : TI := fun σ H R => ta σ H fun vs H1 => ∃ (a : Addr) (xs : List V) (r : Nat) (cs : List (List Nat)), vs = [.ref a, .int (r : Int)] ∧ SqT K H1 a xs ∧ r ≤ xs.length ∧ xs.length ≤ 1000 ∧ combsF 1000 xs.length (List.range r) = some cs ∧ (∀ c ∈ cs, c.length ≤ 1000) ∧ R (Itc cs xs) H1
section
variable {X : Cx} {tg a b : Expr} {h : Rho → Option (List D)} {p pos : Pos}
theorem pi_comb {ta : TA} (hg : Gl X "combinations") (hm : Comb X.K X.mg) (ha : PA X [a, b] ta) (hs : starEach [a, b] X.env = (false, eval a X.env) :: starEach [b] X.env := by rfl) (hpl : (backTo pos (starEach [b] X.env)).any (·.1) = false := by rfl) :
    PI X tg (.Call (.Name "combinations" p) [a, b] [] pos) (iComb X.K ta) := by
  refine ⟨fun pins s σ H R I hh => ?_⟩
  refine Call_ (ld_glob I hg hm.mg (PyProof.Rows.callWith_type1 (thn (ha.run pos pins s σ H _ I hh) fun us s1 ⟨vs, H1, I1, r1, q1⟩ => ?_) hs hpl))
  obtain ⟨l, xs, r, cs, ex, hq, h1, h2, h3, h4, q⟩ := q1
  subst ex
  cases r1 with
  | cons r1 rr =>
    cases rr with
    | cons r2 rr =>
      cases rr
      cases r1
      obtain ⟨t, rfl⟩ := r2
      obtain ⟨its, rv, hT, hz⟩ := I1.tuple hq
      have hlen := rv.length
      refine call_comb hT (by omega) (by omega) ?_
      obtain ⟨g1, g2⟩ := heapC_pool s1.heap its
      have hit : ((heapC s1.heap its).push (recO (s1.heap.objs.size + 1) 0 .none (List.range r))).get? (heapC s1.heap its).objs.size = some (recO (s1.heap.objs.size + 1) 0 .none (List.range r)) := Heap.get?_push_size _ rfl
      have hp : ((heapC s1.heap its).push (recO (s1.heap.objs.size + 1) 0 .none (List.range r))).get? (s1.heap.objs.size + 1) = some (seqObj "tuple" its.toArray 0) := Heap.get?_push_of_some _ g1
      have I2 : Inv X pins σ H1 { s1 with heap := (heapC s1.heap its).push (recO (s1.heap.objs.size + 1) 0 .none (List.range r)) } := I1.kept (t' := s1.toks) fun b o e => Heap.get?_push_of_some _ (heapC_old e)
      refine iter_comb hit ?_
      have hne : s1.heap.objs.size + 1 ≠ (heapC s1.heap its).objs.size := by omega
      refine ⟨(heapC s1.heap its).objs.size, [(heapC s1.heap its).objs.size, s1.heap.objs.size + 1], TnC (heapC s1.heap its).objs.size (s1.heap.objs.size + 1) its cs, Itc cs xs, H1, rfl, I2, turn_comb (f := 1000) (idx := List.range r) hne rv (by rw [← hlen]; exact h3) h4, ⟨hp, fun _ => ?_, fun k z => by omega⟩, fun b hb => ?_, q⟩
      · obtain ⟨cr, e⟩ := combs_head h3
        exact ⟨List.range r, by rw [e]; rfl, hit⟩
      · rcases List.mem_cons.mp hb with rfl | hb
        · exact I1.fpOk (by omega) (I1.hok.fresh (by omega))
        · rcases List.mem_cons.mp hb with rfl | hb
          · exact I1.fpOk (by omega) (I1.hok.fresh (by omega))
          · cases hb
theorem wd_comb {F0 : Hp} {vs : List V} {ds : List D} {cs : List (List Nat)} (al : DqAll F0 vs ds) : WalkD (Itc cs vs) (cs.map fun c => .tuple (c.map fun i => ds.getD i .none)) F0 where
  goes := fun i H hi sm => by
    rw [List.length_map] at hi
    exact hi
  stops := fun H sm => by
    show cs.length ≤ _
    rw [List.length_map]
    exact Nat.le_refl _
  yld := fun i F H x H' d hd s0 sm y => by
    obtain ⟨c, p, e1, rfl, hn, rfl⟩ := y
    rw [List.getElem?_map, e1] at hd
    cases hd
    have g : Grow N0 F H (upd F p (.tup (c.map fun j => vs.getD j .non))) (upd H p (.tup (c.map fun j => vs.getD j .non))) := Grow.newF sm hn
    exact ⟨_, g, .tup upd_same (dqs_row ((al.up s0).up g.ef) c)⟩
theorem di_comb {x : Str} (hx : x = "combinations") (hg : Gl X x) (hm : Comb X.K X.mg) (ha : DA X [a, b] h) (hs : starEach [a, b] X.env = (false, eval a X.env) :: starEach [b] X.env := by rfl) (hpl : (backTo pos (starEach [b] X.env)).any (·.1) = false := by rfl) :
    DI X tg (.Call (.Name x p) [a, b] [] pos) (fun ρ => (h ρ).bind dComb) := by
  subst hx
  refine ⟨pi_comb hg hm ha.pe hs hpl, ⟨fun r e R q => ?_⟩⟩
  obtain ⟨ds, e1, e2⟩ := bind_some e
  refine ha.de.go r e1 _ fun vs F' H' gr al => ?_
  unfold dComb at e2
  split at e2
  · split at e2
    · rename_i hk
      obtain ⟨k1, k2, k3⟩ := hk
      obtain ⟨cs, e3, e4⟩ := bind_some e2
      split at e4
      · rename_i hall
        cases e4
        cases al with
        | cons d1 al =>
          cases al with
          | cons d2 al =>
            cases al
            rename_i ds' r _ _
            cases d2
            cases d1 with
            | tup hf a1 =>
              rename_i p1 xs
              have hlen := a1.len
              refine ⟨p1, xs, r.toNat, cs, by rw [Int.toNat_of_nonneg k1], SqT.of (gr.fh _ _ hf), by omega, by omega, by rw [hlen]; exact e3, fun c hc => ?_, q _ F' H' gr (wd_comb a1)⟩
              exact of_decide_eq_true (List.all_eq_true.mp hall c hc)
      · cases e4
    · cases e2
  · cases e2
end
end GY
set_option Elab.async false
set_option linter.all false
set_option maxRecDepth 100000
set_option maxHeartbeats 4000000
/-! Gyg: defs that raise the program's own error; try; told by data. -/
namespace GY
open PySem PySem.Spec PyProof.Rows L2
/-- the class CanNot, at C -/
structure CanT (K : PySem.W.Frag) (mg : Str → Option Value) (C : Addr) : Prop where
  g : mg "CanNot" = some (.ref C)
  x : PySem.W.excIn K C [.type "ValueError", .type "Exception", .type "BaseException", .type "object"] "ValueError.__new__" = true
  k : PySem.W.keepIn K (.ref C) = true
  b : PySem.W.subIn K (.ref C) (.type "BaseException") = some true
  t : PySem.W.typeIn K (.ref C) = some (.type "type")
  e : PySem.W.exmOne K (.ref C) (.ref C) = some true
section
variable {X : Cx} {C : Addr}
theorem pmk_can {p pos : Pos} (T : CanT X.K X.mg C) (hg : Gl X "CanNot") : PMk X (.Call (.Name "CanNot" p) [] [] pos) (fun _ H Q => Q (.ref C) none H) := by
  intro pins s σ H Q I h
  refine wpAny_Call_Name_kw (ld_glob I hg T.g ?_)
  refine PySem.W.callWith_K0 I.kIn T.k ?_
  show wpAny _ _ (call (.ref C) []) _ _ _
  obtain ⟨bm, N, nm, qn, bs, hdct, sn, sub, ab, col, dd, k0, k1, k2, k3, k5, mN, hC, hN, hni, Tl⟩ := exc_obj I.kIn T.x
  refine wpAny_call_exc_subT PySem.F.excBase_ValueError Tl hC hN hni (fun h' e hm => ?_) (by show 0 ≤ sizeLine; exact Nat.zero_le _)
  exact mk_of I hm (raises_own T.b T.t) h (I.hok.gone hm.new)
def oRaise : Rho → Option Out := fun ρ => some (.ex ρ)
theorem ds_raise {R : L2.St → Hp → Prop} {W : WX} {p pos pos' : Pos} (hc : X.calm = true) (tk : Takes X W) (T : CanT X.K X.mg C) (hg : Gl X "CanNot") (hR : ∀ σ H, R σ H → W (.ref C) none σ H) :
    DS X R (.Raise (some (.Call (.Name "CanNot" p) [] [] pos)) none pos') oRaise :=
  ⟨ps_raise hc tk (pmk_can T hg), ⟨fun r e Dn q => by
    cases e
    exact hR _ _ (q _ _ _ r)⟩⟩
end
/-! ### defs that may raise it -/
def SpR (C : Addr) (Fn : List D → Option (Option D)) : Sp := fun vs H Q E => ∃ (F : Hp) (ds : List D) (r : Option D), Same F H ∧ DqAll F vs ds ∧ Fn ds = some r ∧ (∀ d, r = some d → ∀ v F' H', Grow N0 F H F' H' → Dq F' v d → Q v H') ∧ (r = none → ∀ F' H', Grow N0 F H F' H' → E (.ref C) none H')
structure DefR (P : Program) (w : World) (K : PySem.W.Frag) (mg : Str → Option Value) (base : Heap) (C : Addr) (x : Str) (k : Nat) (Fn : List D → Option (Option D)) : Prop where
  ex : ∃ (f : Addr) (fd : FuncData) (ps : List Str), mg x = some (.ref f) ∧ PySem.W.keepIn K (.ref f) = true ∧ Binds K fd ps [] ∧ FnOk P w K mg base (L2.CX P w) k f fd ps (SpR C Fn)
def resR : Option Out → Option (Option D)
  | some (.rt d _) => some (some d)
  | some (.nx _) => some (some .none)
  | some (.ex _) => some none
  | _ => none
def runR (n m : Nat) (g : Rho → Option Out) : List D → Option (Option D) := fun ds => if ds.length = n then resR (g (startR n m ds)) else none
section
variable {P : Program} {w : World} {K : PySem.W.Frag} {mg : Str → Option Value} {base : Heap} {C : Addr}
def BodyOkX (P : Program) (w : World) (K : PySem.W.Frag) (mg : Str → Option Value) (base : Heap) (C : Addr) (N : List Str) (qual : Str) (st : Stmt) (k : Nat) (g : Rho → Option Out) : Prop :=
  ∀ (f : Addr) (cdv : Value) (A : Around) (outer : List Env) (s : Shared) (H : Hp) (E : XK), Room k (A.deeper (envOfC qual (defScope st) s.heap.objs.size f cdv)) →
    DSS (cxOf (L2.CX P w) P w K mg base N qual (defScope st) f cdv A outer s H E) (fun _ H' => E (.ref C) none H') (defBody st) g
theorem def_mkX {x qual : Str} {st : Stmt} {f : Addr} {fd : FuncData} {N ps : List Str} {k n : Nat} {g : Rho → Option Out} (F : Fun K x qual st f fd) (S : FnScope N ps (defScope st)) (bd : Binds K fd ps []) (hm : mg x = some (.ref f)) (hn : ps.length = n) (hb : BodyOkX P w K mg base C N qual st k g) :
    DefR P w K mg base C x (k + 1) (runR n N.length g) := by
  refine ⟨f, fd, ps, hm, F.kp, bd, F.okX S (fun vs H Q E h => ?_) (fun cdv A outer s H vs Q E hr h => ?_)⟩
  · obtain ⟨F0, ds, d, sm, al, hf, _⟩ := h
    unfold runR at hf
    split at hf
    · rename_i hl
      rw [al.len, hl, hn]
    · cases hf
  · obtain ⟨F0, ds, d, sm, al, hf, q, qx⟩ := h
    unfold runR at hf
    split at hf
    · rename_i hl
      have b := hb f cdv A outer s H E hr
      refine ⟨_, b.pe, ?_⟩
      have r := start_rel (W := ⟨P, w, K⟩) (N := N) (n := n) sm al hl
      cases eo : g (startR n N.length ds) with
      | none =>
        rw [eo] at hf
        cases hf
      | some o =>
        rw [eo] at hf
        refine b.de.go r eo _ ?_
        cases o with
        | nx ρ' =>
          cases hf
          exact fun σ' F' H' r' => q _ rfl _ F' H' r'.gr .non
        | rt d' ρ' =>
          cases hf
          exact fun v σ' F' H' r' dv => q _ rfl v F' H' r'.gr dv
        | bk ρ' => cases hf
        | ct ρ' => cases hf
        | ex ρ' =>
          cases hf
          exact fun σ' F' H' r' => qx rfl F' H' r'.gr
    · cases hf
end
/-! ### try: return a(..) if p else b(..) / except CanNot: return 'cannot' -/
def oAsk (p : Rho → Option Bool) (ha hb : Rho → Option (List D)) (Fa Fb : List D → Option (Option D)) (z : Str) : Rho → Option Out := fun ρ => (p ρ).bind fun b =>
  (if b then (ha ρ).bind Fa else (hb ρ).bind Fb).map fun r => .rt (r.getD (.str z)) ρ
section
variable {X : Cx} {C : Addr} {R : L2.St → Hp → Prop} {c : Expr} {p : Rho → Option Bool} {ha hb : Rho → Option (List D)} {Fa Fb : List D → Option (Option D)} {xa xb z : Str} {ea eb : Expr} {as bs : List Expr} {pa pb posa posb pi ps pt pc pr ptr : Pos} {ka kb j : Nat} {np : Pos}
theorem ds_ask (T : CanT X.K X.mg C) (hs : X.stack = X.env :: X.outer) (hf : X.env.frame = some X.env.locals) (hgc : Gl X "CanNot") (Ga : DefR X.prog X.w X.K X.mg X.base C xa ka Fa) (Gb : DefR X.prog X.w X.K X.mg X.base C xb kb Fb) (hra : Room ka X.A) (hrb : Room kb X.A) (hga : Gl X xa) (hgb : Gl X xb)
    (hc : ∀ pn xe, DT (X.tr pn xe) c p) (haa : ∀ pn xe, DA (X.tr pn xe) (ea :: as) ha) (hab : ∀ pn xe, DA (X.tr pn xe) (eb :: bs) hb)
    (hda : (xa == ("__debug__" : Str)) = false := by decide) (hdb : (xb == ("__debug__" : Str)) = false := by decide)
    (he : starEach (ea :: as) X.env = (false, eval ea X.env) :: starEach as X.env := by rfl) (hpl : (backTo posa (starEach as X.env)).any (·.1) = false := by rfl)
    (he2 : starEach (eb :: bs) X.env = (false, eval eb X.env) :: starEach bs X.env := by rfl) (hpl2 : (backTo posb (starEach bs X.env)).any (·.1) = false := by rfl) :
    DS X R (.Try [.Return (some (.IfExp c (.Call (.Name xa pa) (ea :: as) [] posa) (.Call (.Name xb pb) (eb :: bs) [] posb) pi)) ps] [.ExceptHandler (some (.Name "CanNot" np)) none [.Return (some (.Constant (.str z) j pc)) pr] pt] [] [] ptr) (oAsk p ha hb Fa Fb z) := by
  obtain ⟨fa, fda, psa, hma, hka, hba, FA⟩ := Ga.ex
  obtain ⟨fb, fdb, psb, hmb, hkb, hbb, FB⟩ := Gb.ex
  refine ⟨ps_try_only (tb := fun W => tRet (tIf (canT (wdOf X) p) (tCallS (SpR C Fa) (WE W) (canA (wdOf X) ha)) (tCallS (SpR C Fb) (WE W) (canA (wdOf X) hb)))) (ts := fun _ _ _ => tRet (tC (.str z))) (Wout := fun _ _ _ _ => False) hs hf ⟨hgc, by decide, Or.inl T.g⟩ takes0
    (fun W pn xe tk _ => pss_one (ps_ret (pe_ifExp (hc pn xe).pe (pe_callS FA hra hga hma hka hba (fun σ => passAt tk σ) (haa pn xe).pe hda he hpl) (pe_callS FB hrb hgb hmb hkb hbb (fun σ => passAt tk σ) (hab pn xe).pe hdb he2 hpl2))))
    (fun a oe cls d pn hz hfld => pss_one (ps_ret pe_str)), ⟨fun {B F H σ ρ o} r e Dn q => ?_⟩⟩
  obtain ⟨b, e1, e2⟩ := bind_some e
  obtain ⟨rr, e3, e4⟩ := map_some e2
  subst e4
  have one : ∀ (h : Rho → Option (List D)) (Fn : List D → Option (Option D)) (F1 H1 : Hp), Grow N0 F H F1 H1 → (h ρ).bind Fn = some rr →
      tCallS (SpR C Fn) (WE (wOnly X.K (.ref C) (fun _ _ _ => tRet (tC (.str z))) (fun _ _ _ _ => False) Dn)) (canA (wdOf X) h) σ H1 (fun v H' => Dn.rt v H') := fun h Fn F1 H1 g1 e => by
    obtain ⟨ds, e5, e6⟩ := bind_some e
    refine canA_de.go (r.grow g1) e5 _ fun vs F2 H2 g2 al => ?_
    refine ⟨F2, ds, rr, g2.fh, al, e6, fun d ed v F3 H3 g3 dv => ?_, fun en F3 H3 g3 => ⟨true, T.e, fun _ a _ => ?_, fun z => nomatch z⟩⟩
    · subst ed
      exact q v σ F3 H3 (((r.grow g1).grow g2).grow g3) dv
    · subst en
      exact q _ σ F3 H3 (((r.grow g1).grow g2).grow g3) (.str z)
  refine canT_de.go r e1 _ fun F1 H1 g1 => ?_
  cases b with
  | true => exact one ha Fa F1 H1 g1 e3
  | false => exact one hb Fb F1 H1 g1 e3
end
end GY
set_option Elab.async false
set_option linter.all false
set_option maxRecDepth 100000
set_option maxHeartbeats 4000000
/-! Gyh: expressions and calls that change one list (slot k), told by data. -/
namespace GY
open PySem PySem.Spec PyProof.Rows L2

/-- p's list holds es now; else as it was -/
structure Eff (p : Addr) (F H F' H' : Hp) (es : List D) : Prop where
  g : Grow (fun a => a = p) F H F' H'
  n : F' p = none
  h : ∃ vs, H' p = some (HO.lst vs) ∧ DqAll F' vs es
theorem Eff.trans {p : Addr} {F H F1 H1 F2 H2 : Hp} {es es' : List D} (a : Eff p F H F1 H1 es) (b : Eff p F1 H1 F2 H2 es') : Eff p F H F2 H2 es' := ⟨a.g.trans b.g, b.n, b.h⟩
theorem Eff.grow {p : Addr} {F H F1 H1 F2 H2 : Hp} {es : List D} (a : Eff p F H F1 H1 es) (g : Grow N0 F1 H1 F2 H2) : Eff p F H F2 H2 es := by
  obtain ⟨vs, h1, h2⟩ := a.h
  exact ⟨a.g.trans g.any, g.nw p _ h1 a.n, vs, g.hh _ _ h1, h2.up g.ef⟩
section
variable {W : Wd} {B : Bas} {F H F' H' : Hp} {σ : L2.St} {ρ : Rho}
theorem Eff.refl (r : Rel W B F H σ ρ) {k : Nat} {p : Addr} {es : List D} (ho : ownAt ρ k = some es) (hs : σ[k]? = some (some (V.ref p))) : Eff p F H F H es := by
  obtain ⟨p', vs, h1, h2, h3, h4, _⟩ := r.ownD ho
  rw [hs] at h1
  cases h1
  exact ⟨Grow.refl r.fh, h2, vs, h3, h4⟩
theorem putOwn_putOwn {k : Nat} {es ds ds' : List D} (ho : ownAt ρ k = some es) : putOwn (putOwn ρ k ds) k ds' = putOwn ρ k ds' := by
  unfold ownAt at ho
  split at ho
  · rename_i l e
    have hl := (List.getElem?_eq_some_iff.mp e).1
    unfold putOwn
    rw [e]
    simp [hl]
  · rename_i l e
    have hl := (List.getElem?_eq_some_iff.mp e).1
    unfold putOwn
    rw [e]
    simp [hl]
  · cases ho
/-- the slots behind a change of slot k's list -/
theorem Rel.eff (r : Rel W B F H σ ρ) {k : Nat} {p : Addr} {es es' : List D} (ho : ownAt ρ k = some es) (hs : σ[k]? = some (some (V.ref p))) (e : Eff p F H F' H' es') : Rel W B F' H' σ (putOwn ρ k es') := by
  obtain ⟨p', vs, h1, h2, h3, h4, _, h5⟩ := r.ownD ho
  rw [hs] at h1
  cases h1
  obtain ⟨vs', k1, k2⟩ := e.h
  have r1 := h5 [] [] .nil
  have g1 : Grow N0 F (upd H p (HO.lst [])) F' (upd H' p (HO.lst [])) := ⟨e.g.ef, fun a u q => by
    have ne : a ≠ p := ne_of_none q e.n
    rw [upd_ne ne]
    exact e.g.fh a u q, fun a u q _ => by
    by_cases c : a = p
    · subst c
      rw [upd_same] at q ⊢
      exact q
    · rw [upd_ne c] at q ⊢
      exact e.g.keep a u q c, fun a u q => by
    by_cases c : a = p
    · subst c
      exact ⟨_, upd_same⟩
    · rw [upd_ne c] at q ⊢
      exact e.g.there a u q, fun a u q nq => by
    by_cases c : a = p
    · subst c
      exact e.n
    · rw [upd_ne c] at q
      exact e.g.nw a u q nq⟩
  have r2 := r1.grow g1
  obtain ⟨p2, vs2, m1, m2, m3, m4, _, m5⟩ := r2.ownD (ownAt_putOwn ho)
  rw [hs] at m1
  cases m1
  have r3 := m5 vs' es' k2
  rw [putOwn_putOwn ho] at r3
  have eH : upd (upd H' p (HO.lst [])) p (HO.lst vs') = H' := by
    funext a
    by_cases c : a = p
    · subst c
      rw [upd_same, k1]
    · rw [upd_ne c, upd_ne c]
  rw [eH] at r3
  exact r3
end
/-! ### expressions -/
structure DXt (W : Wd) (k : Nat) (t : TE) (f : Rho → Option (D × List D)) : Prop where
  go : ∀ {B : Bas} {F H : Hp} {σ : L2.St} {ρ : Rho} {d : D} {es es' : List D} {p : Addr}, Rel W B F H σ ρ → ownAt ρ k = some es → σ[k]? = some (some (V.ref p)) → f ρ = some (d, es') → ∀ Q : VK, (∀ v F' H', Eff p F H F' H' es' → Dq F' v d → Q v H') → t σ H Q
def canX (W : Wd) (k : Nat) (f : Rho → Option (D × List D)) : TE := fun σ H Q => ∃ (B : Bas) (F : Hp) (ρ : Rho) (d : D) (es es' : List D) (p : Addr), Rel W B F H σ ρ ∧ ownAt ρ k = some es ∧ σ[k]? = some (some (V.ref p)) ∧ f ρ = some (d, es') ∧ ∀ v F' H', Eff p F H F' H' es' → Dq F' v d → Q v H'
theorem canX_de {W : Wd} {k : Nat} {f : Rho → Option (D × List D)} : DXt W k (canX W k f) f := ⟨fun r o s e Q q => ⟨_, _, _, _, _, _, _, r, o, s, e, q⟩⟩
inductive DX (X : Cx) (k : Nat) (e : Expr) (f : Rho → Option (D × List D)) : Prop
  | mk {t : TE} (pe : PE X e t) (de : DXt (wdOf X) k t f) : DX X k e f
theorem DX.pe {X : Cx} {k : Nat} {e : Expr} {f : Rho → Option (D × List D)} (h : DX X k e f) : PE X e (canX (wdOf X) k f) := by
  obtain ⟨pe, de⟩ := h
  exact ⟨fun pins s σ H Q I ⟨B, F, ρ, d, es, es', p, r, o, hs, e1, q⟩ => pe.run pins s σ H Q I (de.go r o hs e1 Q q)⟩
theorem DX.de {X : Cx} {k : Nat} {e : Expr} {f : Rho → Option (D × List D)} (h : DX X k e f) : DXt (wdOf X) k (canX (wdOf X) k f) f := canX_de
structure DXAt (W : Wd) (k : Nat) (t : TA) (f : Rho → Option (List D × List D)) : Prop where
  go : ∀ {B : Bas} {F H : Hp} {σ : L2.St} {ρ : Rho} {ds es es' : List D} {p : Addr}, Rel W B F H σ ρ → ownAt ρ k = some es → σ[k]? = some (some (V.ref p)) → f ρ = some (ds, es') → ∀ Q : List V → Hp → Prop, (∀ vs F' H', Eff p F H F' H' es' → DqAll F' vs ds → Q vs H') → t σ H Q
def canXA (W : Wd) (k : Nat) (f : Rho → Option (List D × List D)) : TA := fun σ H Q => ∃ (B : Bas) (F : Hp) (ρ : Rho) (ds es es' : List D) (p : Addr), Rel W B F H σ ρ ∧ ownAt ρ k = some es ∧ σ[k]? = some (some (V.ref p)) ∧ f ρ = some (ds, es') ∧ ∀ vs F' H', Eff p F H F' H' es' → DqAll F' vs ds → Q vs H'
theorem canXA_de {W : Wd} {k : Nat} {f : Rho → Option (List D × List D)} : DXAt W k (canXA W k f) f := ⟨fun r o s e Q q => ⟨_, _, _, _, _, _, _, r, o, s, e, q⟩⟩
inductive DXA (X : Cx) (k : Nat) (es : List Expr) (f : Rho → Option (List D × List D)) : Prop
  | mk {t : TA} (pe : PA X es t) (de : DXAt (wdOf X) k t f) : DXA X k es f
theorem DXA.pe {X : Cx} {k : Nat} {e : List Expr} {f : Rho → Option (List D × List D)} (h : DXA X k e f) : PA X e (canXA (wdOf X) k f) := by
  obtain ⟨pe, de⟩ := h
  exact ⟨fun pos pins s σ H Q I ⟨B, F, ρ, d, es, es', p, r, o, hs, e1, q⟩ => pe.run pos pins s σ H Q I (de.go r o hs e1 Q q)⟩
theorem DXA.de {X : Cx} {k : Nat} {e : List Expr} {f : Rho → Option (List D × List D)} (h : DXA X k e f) : DXAt (wdOf X) k (canXA (wdOf X) k f) f := canXA_de
def xPure (k : Nat) (f : Rho → Option D) : Rho → Option (D × List D) := fun ρ => (f ρ).bind fun d => (ownAt ρ k).map fun es => (d, es)
def xBind (k : Nat) (f : Rho → Option (D × List D)) (g : D → Rho → Option (D × List D)) : Rho → Option (D × List D) := fun ρ => (f ρ).bind fun de => g de.1 (putOwn ρ k de.2)
def xMap (h : D → Option D) (f : Rho → Option (D × List D)) : Rho → Option (D × List D) := fun ρ => (f ρ).bind fun de => (h de.1).map fun z => (z, de.2)
def xTwo (k : Nat) (h : D → D → Option D) (f g : Rho → Option (D × List D)) : Rho → Option (D × List D) := fun ρ => (f ρ).bind fun de => (g (putOwn ρ k de.2)).bind fun de2 => (h de.1 de2.1).map fun z => (z, de2.2)
def xNil (k : Nat) : Rho → Option (List D × List D) := fun ρ => (ownAt ρ k).map fun es => ([], es)
def xCons (k : Nat) (f : Rho → Option (D × List D)) (g : Rho → Option (List D × List D)) : Rho → Option (List D × List D) := fun ρ => (f ρ).bind fun de => (g (putOwn ρ k de.2)).map fun de2 => (de.1 :: de2.1, de2.2)
def xTup (g : Rho → Option (List D × List D)) : Rho → Option (D × List D) := fun ρ => (g ρ).bind fun de => if de.1.length ≤ sBig then some (.tuple de.1, de.2) else none
def xCall (k : Nat) (g : Rho → Option (List D × List D)) (Fn : List D → List D → Option (D × List D)) : Rho → Option (D × List D) := fun ρ => (g ρ).bind fun de => Fn de.2 de.1
/-- a def that changes its first argument, a list -/
def SpE (Fn : List D → List D → Option (D × List D)) : Sp := fun vs H Q _ => ∃ (F : Hp) (p : Addr) (vr vt : List V) (es ds es' : List D) (d : D), vs = V.ref p :: vr ∧ Same F H ∧ F p = none ∧ H p = some (HO.lst vt) ∧ DqAll F vt es ∧ DqAll F vr ds ∧ Fn es ds = some (d, es') ∧ ∀ v F' H', Eff p F H F' H' es' → Dq F' v d → Q v H'
structure DefE (P : Program) (w : World) (K : PySem.W.Frag) (mg : Str → Option Value) (base : Heap) (x : Str) (k : Nat) (Fn : List D → List D → Option (D × List D)) : Prop where
  ex : ∃ (f : Addr) (fd : FuncData) (ps : List Str), mg x = some (.ref f) ∧ PySem.W.keepIn K (.ref f) = true ∧ Binds K fd ps [] ∧ FnOk P w K mg base CX0 k f fd ps (SpE Fn)
section
variable {X : Cx} {W : Wd} {k : Nat} {a b : Expr} {es : List Expr} {ta tb : TE} {tA : TA} {f g : Rho → Option (D × List D)} {fp : Rho → Option D} {fa : Rho → Option (List D × List D)} {pos p : Pos} {x y : Str} {id T : String}
theorem x_pure (h : DE X a fp) : DX X k a (xPure k fp) := ⟨h.pe, ⟨fun r o hs e Q q => by
  obtain ⟨d, e1, e2⟩ := bind_some e
  obtain ⟨es, e3, e4⟩ := map_some e2
  cases e4
  rw [o] at e3
  cases e3
  exact h.de.go r e1 _ fun v F' H' g dv => q v F' H' ((Eff.refl r o hs).grow g) dv⟩⟩
theorem xt_op {r : R2} {h : D → D → Option D} (hs : OpS r h) (ha : DXt W k ta f) (hb : DXt W k tb g) : DXt W k (tOp r ta tb) (xTwo k h f g) := ⟨fun rl o hp e Q q => by
  obtain ⟨⟨d, e1⟩, e2, e3⟩ := bind_some e
  obtain ⟨⟨d2, e4⟩, e5, e6⟩ := bind_some e3
  obtain ⟨z, e7, e8⟩ := map_some e6
  cases e8
  refine ha.go rl o hp e2 _ fun v F1 H1 g1 b1 => ?_
  have r1 := rl.eff o hp g1
  refine hb.go r1 (ownAt_putOwn o) hp e5 _ fun u F2 H2 g2 b2 => ?_
  have r2 := r1.eff (ownAt_putOwn o) hp g2
  exact hs r2.fh (.fr (b1.up g2.g.ef)) (.fr b2) e7 Q fun z F3 H3 g3 b3 => q z F3 H3 ((g1.trans g2).grow g3) b3⟩
theorem x_add (ha : DX X k a f) (hb : DX X k b g) : DX X k (.BinOp a .Add b pos) (xTwo k dAdd f g) := ⟨pe_op (opr_or op_add op_catA) ha.pe hb.pe, xt_op ops_add ha.de hb.de⟩
theorem x_eq (hu : X.A.units + 64 < cLine) (ha : DX X k a f) (hb : DX X k b g) : DX X k (.Compare a [.Eq] [b] pos) (xTwo k dEq f g) := ⟨pe_cmpR (op_eqD hu) ha.pe hb.pe (nomark _), xt_op ops_eq ha.de hb.de⟩
theorem x_T1 {r : List V → Hp → VK → Prop} {h : D → Option D} (hr : CallR X (.type T) r) (hs : Ca1 r h) (hv : bootBuiltins x = some (.type T)) (hg : Gl X x) (hm : X.mg x = none) (ha : DX X k a f) (hn : x ≠ "__name__" := by decide) (hdb : (x == ("__debug__" : Str)) = false := by decide)
    (he : starEach [a] X.env = (false, eval a X.env) :: starEach [] X.env := by rfl) : DX X k (.Call (.Name x p) [a] [] pos) (xMap h f) :=
  ⟨pe_callTy hr hg hm hv (pa_cons ha.pe pa_nil he) hn hdb he, ⟨fun r o hp e Q q => by
    obtain ⟨⟨d, e1⟩, e2, e3⟩ := bind_some e
    obtain ⟨z, e7, e8⟩ := map_some e3
    cases e8
    refine ha.de.go r o hp e2 _ fun v F1 H1 g1 b1 => ?_
    exact hs (r.eff o hp g1).fh (.fr b1) e7 Q fun z F2 H2 g2 b2 => q z F2 H2 (g1.grow g2) b2⟩⟩
theorem xa_nil : DXA X k [] (xNil k) := ⟨pa_nil, ⟨fun r o hs e Q q => by
  obtain ⟨es, e1, e2⟩ := map_some e
  cases e2
  rw [o] at e1
  cases e1
  exact q [] _ _ (Eff.refl r o hs) .nil⟩⟩
theorem xa_cons (h : DX X k a f) (hk : DXA X k es fa) (hs : starEach (a :: es) X.env = (false, eval a X.env) :: starEach es X.env := by rfl) : DXA X k (a :: es) (xCons k f fa) := ⟨pa_cons h.pe hk.pe hs, ⟨fun r o hp e Q q => by
  obtain ⟨⟨d, e1⟩, e2, e3⟩ := bind_some e
  obtain ⟨⟨ds, e4⟩, e5, e6⟩ := map_some e3
  cases e6
  refine h.de.go r o hp e2 _ fun v F1 H1 g1 b1 => ?_
  exact hk.de.go (r.eff o hp g1) (ownAt_putOwn o) hp e5 _ fun vs F2 H2 g2 b2 => q (v :: vs) F2 H2 (g1.trans g2) (.cons (b1.up g2.g.ef) b2)⟩⟩
theorem x_tup {n : Nat} (h : DXA X k es fa) : DX X k (.Tuple es n pos) (xTup fa) := ⟨pe_tup h.pe, ⟨fun r o hp e Q q => by
  obtain ⟨⟨ds, e1⟩, e3, e4⟩ := bind_some e
  split at e4
  · rename_i hl
    cases e4
    refine h.de.go r o hp e3 _ fun vs F1 H1 g1 a1 => ⟨sz_ok (by rw [a1.len]; exact hl), fun p hp' => ?_⟩
    have gg := Grow.newF (S := N0) (r.eff o hp g1).fh hp' (o := HO.tup vs)
    exact q _ _ _ (g1.grow gg) (.tup upd_same (a1.up gg.ef))
  · cases e4⟩⟩
theorem x_call {j : Nat} {Fn : List D → List D → Option (D × List D)} {px : Pos} (G : DefE X.prog X.w X.K X.mg X.base x j Fn) (hr : Room j X.A) (hg : Gl X x) (ha : DXA X k es fa) (hN : X.N[k]? = some y := by rfl) (hv : Vis X.env.scope y := by first | exact Or.inl rfl | exact Or.inr (Or.inl rfl) | exact Or.inr (Or.inr rfl))
    (hdb : (x == ("__debug__" : Str)) = false := by decide) (hdy : (y == ("__debug__" : Str)) = false := by decide) (hcd : (y == ("__classdict__" : Str)) = false := by decide) (he : starEach (.Name y px :: es) X.env = (false, eval (.Name y px) X.env) :: starEach es X.env := by rfl) (hpl : (backTo pos (starEach es X.env)).any (·.1) = false := by rfl) :
    DX X k (.Call (.Name x p) (.Name y px :: es) [] pos) (xCall k fa Fn) := by
  obtain ⟨f, fd, ps, hm, hk, hb, F⟩ := G.ex
  refine ⟨pe_call F hr hg hm hk hb .nil pass0 (pa_cons (pe_var hN hv hdy hcd) ha.pe he) hdb he hpl, ⟨fun {B F0 H σ ρ d es0 es1 p0} r o hs e Q q => ?_⟩⟩
  obtain ⟨⟨ds, e1⟩, e2, e3⟩ := bind_some e
  refine ⟨_, hs, ?_⟩
  refine ha.de.go r o hs e2 _ fun vs F1 H1 g1 al => ?_
  show SpE Fn ((V.ref p0 :: vs) ++ []) H1 Q E0
  rw [List.append_nil]
  obtain ⟨vt, k1, k2⟩ := g1.h
  exact ⟨F1, p0, vs, vt, e1, ds, es1, d, rfl, (r.eff o hs g1).fh, g1.n, k1, k2, al, e3, fun v F2 H2 g2 dv => q v F2 H2 (g1.trans g2) dv⟩
end
/-! ### defs -/
def startE (n m : Nat) (es ds : List D) : Rho := .rf es :: startR (n - 1) (m - 1) ds
def resE : Option Out → Option (D × List D)
  | some (.rt d ρ) => match (ρ[0]? : Option Sl) with
    | some (Sl.rf es) => some (d, es)
    | _ => none
  | _ => none
def runE (n m : Nat) (g : Rho → Option Out) : List D → List D → Option (D × List D) := fun es ds => if ds.length + 1 = n ∧ 1 ≤ m then resE (g (startE n m es ds)) else none
theorem startE_rel {W : Wd} {F H : Hp} {N : List Str} {p : Addr} {vs vt : List V} {ds es : List D} {n : Nat} (sm : Same F H) (al : DqAll F vs ds) (hn : ds.length + 1 = n) (hm : 1 ≤ N.length) (fp : F p = none) (hp : H p = some (HO.lst vt)) (at_ : DqAll F vt es) :
    Rel W ⟨fun a => a = p, F, H⟩ F H (L2.start N (V.ref p :: vs)) (startE n N.length es ds) := by
  have r0 := start_rel (W := W) (N := N.tail) (n := n - 1) sm al (by omega)
  have eσ : L2.start N (V.ref p :: vs) = some (V.ref p) :: L2.start N.tail vs := by
    unfold L2.start
    rw [List.map_cons, List.cons_append, List.length_cons, List.length_tail]
    congr 3
    omega
  have eρ : startE n N.length es ds = .rf es :: startR (n - 1) N.tail.length ds := by
    unfold startE
    rw [List.length_tail]
  rw [eσ, eρ]
  refine ⟨Grow.refl sm, by simp [r0.len], fun i d e => ?_, fun i s e m => ?_, fun i j s t q e1 e2 m1 m2 e3 e4 => ?_⟩
  · cases i with
    | zero => cases e
    | succ i => exact r0.val i d e
  · cases i with
    | zero =>
      cases e
      exact ⟨p, rfl, fp, ⟨vt, hp, at_⟩, rfl⟩
    | succ i =>
      obtain ⟨q, a1, a2, a3, a4⟩ := r0.own i s e m
      refine ⟨q, a1, a2, a3, ?_⟩
      cases s with
      | rf es' => exact a4.elim
      | _ => exact a4
  · have none_mine : ∀ (i : Nat) (s : Sl), (startR (n - 1) N.tail.length ds)[i]? = some s → s.mine = true → False := fun i s e m => by
      unfold startR at e
      by_cases hi : i < ds.length
      · rw [List.getElem?_append_left (by simpa using hi), List.getElem?_map] at e
        obtain ⟨d', e1, e2⟩ := Option.map_eq_some_iff.mp e
        subst e2
        cases m
      · rw [List.getElem?_append_right (by simpa using hi), List.getElem?_replicate] at e
        split at e
        · cases e
          cases m
        · cases e
    cases i with
    | zero =>
      cases j with
      | zero => rfl
      | succ j => exact (none_mine j t e2 m2).elim
    | succ i => exact (none_mine i s e1 m1).elim
section
variable {P : Program} {w : World} {K : PySem.W.Frag} {mg : Str → Option Value} {base : Heap}
theorem def_mkE {x qual : Str} {st : Stmt} {f : Addr} {fd : FuncData} {N ps : List Str} {k n : Nat} {g : Rho → Option Out} (F : Fun K x qual st f fd) (S : FnScope N ps (defScope st)) (bd : Binds K fd ps []) (hm : mg x = some (.ref f)) (hn : ps.length = n) (hb : BodyOk P w K mg base N qual st k g) :
    DefE P w K mg base x (k + 1) (runE n N.length g) := by
  refine ⟨f, fd, ps, hm, F.kp, bd, F.ok S (fun vs H Q E h => ?_) (fun cdv A outer s H vs Q E hr h => ?_)⟩
  · obtain ⟨F0, p, vr, vt, es, ds, es', d, rfl, sm, fp, hp, at_, al, hf, _⟩ := h
    unfold runE at hf
    split at hf
    · rename_i hl
      rw [List.length_cons, al.len, hn]
      exact hl.1
    · cases hf
  · obtain ⟨F0, p, vr, vt, es, ds, es', d, rfl, sm, fp, hp, at_, al, hf, q⟩ := h
    unfold runE at hf
    split at hf
    · rename_i hl
      have b := hb f cdv A outer s H E hr
      refine ⟨_, b.pe, ?_⟩
      have r := startE_rel (W := ⟨P, w, K⟩) (N := N) (n := n) sm al hl.1 hl.2 fp hp at_
      cases eo : g (startE n N.length es ds) with
      | none =>
        rw [eo] at hf
        cases hf
      | some o =>
        rw [eo] at hf
        refine b.de.go r eo _ ?_
        cases o with
        | rt d' ρ' =>
          unfold resE at hf
          dsimp only at hf
          split at hf
          · rename_i es2 e2
            cases hf
            intro v σ' F' H' r' dv
            obtain ⟨p2, a1, a2, ⟨vs2, a3, a4⟩, a5⟩ := r'.own 0 _ e2 rfl
            obtain rfl : p2 = p := a5
            exact q v F' H' ⟨r'.gr, a2, vs2, a3, a4⟩ dv
          · cases hf
        | nx ρ' => cases hf
        | bk ρ' => cases hf
        | ct ρ' => cases hf
        | ex ρ' => cases hf
    · cases hf
end
end GY
set_option Elab.async false
set_option linter.all false
set_option maxRecDepth 100000
set_option maxHeartbeats 4000000
/-! Gyi: statements whose expressions change one list, told by data. -/
namespace GY
open PySem PySem.Spec PyProof.Rows L2
theorem ownAt_put_ne {ρ : Rho} {k j : Nat} {es : List D} (h : k ≠ j) : ownAt (putOwn ρ k es) j = ownAt ρ j := by
  have e : (putOwn ρ k es)[j]? = ρ[j]? := by
    unfold putOwn
    split
    · exact List.getElem?_set_ne h
    · exact List.getElem?_set_ne h
  unfold ownAt
  rw [e]
theorem ownAt_set_ne {ρ : Rho} {k j : Nat} {s : Sl} (h : k ≠ j) : ownAt (ρ.set k s) j = ownAt ρ j := by
  unfold ownAt
  rw [List.getElem?_set_ne h]
def oSetX (k i : Nat) (f : Rho → Option (D × List D)) : Rho → Option Out := fun ρ => (ownAt ρ k).bind fun _ => (f ρ).map fun de => .nx ((putOwn ρ k de.2).set i (.val de.1))
def oAsgX (k : Nat) (h : D → Rho → Option Rho) (f : Rho → Option (D × List D)) : Rho → Option Out := fun ρ => (ownAt ρ k).bind fun _ => (f ρ).bind fun de => (h de.1 (putOwn ρ k de.2)).map .nx
def oRetX (k : Nat) (f : Rho → Option (D × List D)) : Rho → Option Out := fun ρ => (ownAt ρ k).bind fun _ => (f ρ).map fun de => .rt de.1 (putOwn ρ k de.2)
/-- xs.append(ys.pop(e)) -/
def oAppPop (k kf kp : Nat) (f : Rho → Option (D × List D)) : Rho → Option Out := fun ρ => (ownAt ρ k).bind fun _ => (ownAt ρ kf).bind fun xs => (ownAt ρ kp).bind fun ys => (f ρ).bind fun de => match de.1 with
  | .int i => if -(2 ^ 63) ≤ i ∧ i < 2 ^ 63 then (seqIndex? i ys.length).bind fun j => (ys[j]?).bind fun z => if xs.length < sBig then some (.nx (putOwn (putOwn (putOwn ρ k de.2) kp (ys.eraseIdx j)) kf (xs ++ [z]))) else none else none
  | _ => none
/-- for .. in range(e) -/
def oForX (k : Nat) (f : Rho → Option (List D × List D)) (h : D → Rho → Option Rho) (g : Rho → Option Out) : Rho → Option Out := fun ρ => (ownAt ρ k).bind fun _ => (f ρ).bind fun de => (dRng1 de.1).bind fun ds => forGo h g ds (putOwn ρ k de.2)
section
variable {X : Cx} {W : Wd} {R : L2.St → Hp → Prop} {k : Nat} {e : Expr} {f : Rho → Option (D × List D)} {fa : Rho → Option (List D × List D)} {pos : Pos}
theorem rel_at (r : Rel W B F H σ ρ) {es : List D} (o : ownAt ρ k = some es) : ∃ p, σ[k]? = some (some (V.ref p)) := by
  obtain ⟨p, vs, h1, _⟩ := r.ownD o
  exact ⟨p, h1⟩
theorem ds_setX {i : Nat} {x : Str} {pos' : Pos} (hN : X.N.Nodup) (h : DX X k e f) (hi : X.N[i]? = some x := by rfl) (hx : Loc X.env.scope x := by first | exact Or.inl rfl | exact Or.inr rfl) (hs : swapsWith e (some (.Name x pos')) pos.line X.env = pure false := by rfl)
    (hf : X.fn x = true ∨ X.env.scope.names.lookup x = some .local := by first | exact .inl rfl | exact .inr rfl | assumption) : DS X R (.Assign [.Name x pos'] e pos) (oSetX k i f) := ⟨ps_set hN hi hx h.pe hs hf, ⟨fun r e Dn q => by
  obtain ⟨es, e1, e2⟩ := bind_some e
  obtain ⟨⟨d, es'⟩, e3, e4⟩ := map_some e2
  subst e4
  obtain ⟨p, hp⟩ := rel_at r e1
  exact h.de.go r e1 hp e3 _ fun v F' H' g dv => q _ F' H' ((r.eff e1 hp g).setV i dv)⟩⟩
theorem ds_asgX {tg : Expr} {h : D → Rho → Option Rho} {at_ : List Nat} (he : DX X k e f) (hg : DG X tg h at_) (hs : swapsWithSole [tg] e pos.line X.env = pure false := by rfl) (hw : swappedStores [tg] e X.env = pure none := by rfl)
    (h1 : (assignEach [tg] X.env).map (·.2) = [assign tg X.env] := by rfl) : DS X R (.Assign [tg] e pos) (oAsgX k h f) := ⟨ps_asg he.pe hg.pe hs hw h1, ⟨fun r e Dn q => by
  obtain ⟨es, e1, e2⟩ := bind_some e
  obtain ⟨⟨d, es'⟩, e3, e4⟩ := bind_some e2
  obtain ⟨ρ', e5, e6⟩ := map_some e4
  subst e6
  obtain ⟨p, hp⟩ := rel_at r e1
  exact he.de.go r e1 hp e3 _ fun v F' H' g dv => hg.de.go (r.eff e1 hp g) dv e5 _ fun σ' r' _ _ => q σ' F' H' r'⟩⟩
theorem ds_retX (h : DX X k e f) : DS X R (.Return (some e) pos) (oRetX k f) := ⟨ps_ret h.pe, ⟨fun r e Dn q => by
  obtain ⟨es, e1, e2⟩ := bind_some e
  obtain ⟨⟨d, es'⟩, e3, e4⟩ := map_some e2
  subst e4
  obtain ⟨p, hp⟩ := rel_at r e1
  exact h.de.go r e1 hp e3 _ fun v F' H' g dv => q v _ F' H' (r.eff e1 hp g) dv⟩⟩
theorem ds_appPop {kf kp : Nat} {x y : Str} {px py apos cpos apos2 cpos2 : Pos} (n1 : k ≠ kf) (n2 : k ≠ kp) (n3 : kf ≠ kp) (h : DX X k e f) (hN : X.N[kf]? = some x := by rfl) (hv : Vis X.env.scope x := by first | exact Or.inl rfl | exact Or.inr (Or.inl rfl) | exact Or.inr (Or.inr rfl)) (hd : (x == ("__debug__" : Str)) = false := by decide)
    (hcd : (x == ("__classdict__" : Str)) = false := by decide) (hbase : attributeBase (.Name x px) "append" X.env (eval (.Name x px) X.env) = eval (.Name x px) X.env := by rfl)
    (hN2 : X.N[kp]? = some y := by rfl) (hv2 : Vis X.env.scope y := by first | exact Or.inl rfl | exact Or.inr (Or.inl rfl) | exact Or.inr (Or.inr rfl)) (hd2 : (y == ("__debug__" : Str)) = false := by decide)
    (hcd2 : (y == ("__classdict__" : Str)) = false := by decide) (hbase2 : attributeBase (.Name y py) "pop" X.env (eval (.Name y py) X.env) = eval (.Name y py) X.env := by rfl)
    (hfew : ((backTo cpos (starEach [.Call (.Attribute (.Name y py) "pop" apos2) [e] [] cpos2] X.env)).all (fun x => !x.1) && (backToKw cpos (keywordEach [] X.env)).all (fun x => x.1.isSome) && decide ([Expr.Call (.Attribute (.Name y py) "pop" apos2) [e] [] cpos2].length + ([] : List Keyword).length + (if ([] : List Keyword).isEmpty then 0 else 1) < 30)) = true := by rfl)
    (hfew2 : ((backTo cpos2 (starEach [e] X.env)).all (fun x => !x.1) && (backToKw cpos2 (keywordEach [] X.env)).all (fun x => x.1.isSome) && decide ([e].length + ([] : List Keyword).length + (if ([] : List Keyword).isEmpty then 0 else 1) < 30)) = true := by rfl)
    (hline : (apos.endLine == cpos.line) = true := by rfl) (hline2 : (apos2.endLine == cpos2.line) = true := by rfl) (hs2 : starEach [e] X.env = (false, eval e X.env) :: starEach [] X.env := by rfl)
    (hsw : swapsWith (.Call (.Attribute (.Name x px) "append" apos) [.Call (.Attribute (.Name y py) "pop" apos2) [e] [] cpos2] [] cpos) none pos.line X.env = pure false := by rfl) :
    DS X R (.Expr (.Call (.Attribute (.Name x px) "append" apos) [.Call (.Attribute (.Name y py) "pop" apos2) [e] [] cpos2] [] cpos) pos) (oAppPop k kf kp f) :=
  ⟨ps_expr (pe_bm PySem.F.plainAttrs_list PySem.F.slot_list_append PySem.F.type_list_append mt_append (pe_var hN hv hd hcd) (pa_cons (pe_bm PySem.F.plainAttrs_list PySem.F.slot_list_pop PySem.F.type_list_pop mt_popAt (pe_var hN2 hv2 hd2 hcd2) (pa_cons h.pe pa_nil hs2) hbase2 hfew2 hline2 hs2 rfl) pa_nil rfl) hbase hfew hline rfl rfl) hsw, ⟨fun {B F H σ ρ o} r e Dn q => by
    obtain ⟨es, e1, e2⟩ := bind_some e
    obtain ⟨xs, e3, e4⟩ := bind_some e2
    obtain ⟨ys, e5, e6⟩ := bind_some e4
    obtain ⟨⟨d, es'⟩, e7, e8⟩ := bind_some e6
    obtain ⟨p, hp⟩ := rel_at r e1
    dsimp only at e8
    split at e8
    · rename_i i
      split at e8
      · rename_i hb
        obtain ⟨j, e9, e10⟩ := bind_some e8
        obtain ⟨z, e11, e12⟩ := bind_some e10
        split at e12
        · rename_i hl
          cases e12
          obtain ⟨pf, vf, f1, f2, f3, f4, _⟩ := r.ownD e3
          obtain ⟨pp, vp, p1, p2, p3, p4, _⟩ := r.ownD e5
          refine ⟨_, f1, Or.inl ⟨rfl, _, SqL.of f3⟩, ?_⟩
          refine ⟨_, p1, Or.inl ⟨rfl, _, SqL.of p3⟩, ?_⟩
          refine h.de.go r e1 hp e7 _ fun v F1 H1 g1 dv => ?_
          cases dv
          have r1 := r.eff e1 hp g1
          obtain ⟨pp', vp', p1', p2', p3', p4', _, p5⟩ := r1.ownD ((ownAt_put_ne n2).trans e5)
          rw [p1] at p1'
          cases p1'
          obtain ⟨y, hy, dy⟩ := p4'.get e11
          refine ⟨pp, vp', i, j, y, rfl, rfl, p3', hb.1, hb.2, by rw [p4'.len]; exact e9, hy, ?_⟩
          have r2 := p5 _ _ (p4'.erase j)
          obtain ⟨pf', vf', f1', f2', f3', f4', _, f5⟩ := r2.ownD ((ownAt_put_ne (Ne.symm n3)).trans ((ownAt_put_ne n1).trans e3))
          rw [f1] at f1'
          cases f1'
          refine ⟨pf, vf', y, rfl, rfl, f3', sz_lt (by rw [f4'.len]; exact hl), ?_⟩
          exact q σ F1 _ (f5 _ _ (f4'.app (DqAll.one dy)))
        · cases e12
      · cases e8
    · cases e8⟩⟩
/-- the loop, from where its iterator stands -/
theorem for_core {g : Rho → Option Out} {tg : TG} {t : TS} {h : D → Rho → Option Rho} {at_ : List Nat} (hg : DGt W tg h at_) (hb : DSt W R t g) {B : Bas} {F1 H1 : Hp} {σ : L2.St} {ρ : Rho} {o : Out} {ds : List D} {J : It} {Dn : Ends} (r1 : Rel W B F1 H1 σ ρ) (wk : WalkD J ds F1) (e2 : forGo h g ds ρ = some o) (q : Fits W B R Dn o) :
    ∃ Wi : Nat → Nat → L2.St → Hp → Prop, (∃ m, Wi 0 m σ H1) ∧ ∀ i m σ H, Wi i m σ H →
      (J.stop i H ∧ Dn.nx σ H) ∨ (J.go i H ∧ ∃ N : L2.St → Hp → Prop, (∀ σ' H', N σ' H' → ∃ m', m' < m ∧ Wi (i + 1) m' σ' H') ∧ ∀ x H', J.yld i H x H' → tg x σ H' fun σ2 H2 => t { Dn with nx := N, ct := N, bk := Dn.nx } σ2 H2) := by
  refine ⟨fun i m σ' H' => m = ds.length - i ∧ i ≤ ds.length ∧ ∃ F' ρ', Rel W B F' H' σ' ρ' ∧ Same F1 F' ∧ forGo h g (ds.drop i) ρ' = some o, ⟨ds.length, by simp, Nat.zero_le _, F1, ρ, r1, Same.refl _, by simpa using e2⟩, ?_⟩
  rintro i m σ1 H2 ⟨rfl, hil, F2, ρ2, r2, s2, e3⟩
  by_cases hlt : i < ds.length
  · refine Or.inr ⟨wk.goes i H2 hlt (s2.trans r2.fh), fun σ' H' => i + 1 ≤ ds.length ∧ ∃ F' ρ', Rel W B F' H' σ' ρ' ∧ Same F1 F' ∧ forGo h g (ds.drop (i + 1)) ρ' = some o, fun σ' H' z => ⟨ds.length - (i + 1), by omega, rfl, z.1, z.2⟩, fun x H3 y => ?_⟩
    have hdi : ds[i]? = some ds[i] := List.getElem?_eq_getElem hlt
    obtain ⟨F3, g3, dx⟩ := wk.yld i F2 H2 x H3 _ hdi s2 r2.fh y
    rw [drop_at hdi] at e3
    obtain ⟨ρ3, e4, e5⟩ := bind_some e3
    obtain ⟨o2, e6, e7⟩ := bind_some e5
    refine hg.go (r2.grow g3) dx e4 _ fun σ3 r3 _ _ => ?_
    have main : ∀ (ρ' : Rho), forGo h g (ds.drop (i + 1)) ρ' = some o → ∀ σ' F' H', Rel W { S := B.S, F := B.F, H := B.H } F' H' σ' ρ' → Same F3 F' → i + 1 ≤ ds.length ∧ ∃ F' ρ', Rel W B F' H' σ' ρ' ∧ Same F1 F' ∧ forGo h g (ds.drop (i + 1)) ρ' = some o :=
      fun ρ' e8 σ' F' H' r' s' => ⟨hlt, F', ρ', r', (s2.trans g3.ef).trans s', e8⟩
    have r3' : Rel W ⟨B.S, F3, B.H⟩ F3 H3 σ3 ρ3 := ⟨⟨Same.refl _, r3.fh, r3.gr.keep, r3.gr.there, fun a u e n => n⟩, r3.len, r3.val, fun i s a b => r3.own i s a b, r3.dist⟩
    have up : ∀ {σ' : L2.St} {F' H' : Hp} {ρ' : Rho}, Rel W ⟨B.S, F3, B.H⟩ F' H' σ' ρ' → Rel W B F' H' σ' ρ' := fun {σ' F' H' ρ'} z =>
      ⟨⟨(r3.gr.ef).trans z.gr.ef, z.gr.fh, z.gr.keep, z.gr.there, fun a u e n => z.gr.nw a u e (r3.gr.nw a u e n)⟩, z.len, z.val, fun i s a b => z.own i s a b, z.dist⟩
    refine hb.go r3' e6 _ ?_
    cases o2 with
    | nx ρ' => exact fun σ' F' H' r' => main ρ' e7 σ' F' H' (up r') r'.gr.ef
    | ct ρ' => exact fun σ' F' H' r' => main ρ' e7 σ' F' H' (up r') r'.gr.ef
    | bk ρ' =>
      cases e7
      exact fun σ' F' H' r' => q σ' F' H' (up r')
    | rt d ρ' =>
      cases e7
      exact fun v σ' F' H' r' dv => q v σ' F' H' (up r') dv
    | ex ρ' =>
      cases e7
      exact fun σ' F' H' r' => q σ' F' H' (up r')
  · have ei : i = ds.length := by omega
    subst ei
    rw [List.drop_length] at e3
    cases e3
    exact Or.inl ⟨wk.stops H2 (s2.trans r2.fh), q _ _ _ r2⟩
theorem ds_forX {x : Str} {tgt a : Expr} {h : D → Rho → Option Rho} {at_ : List Nat} {body : List Stmt} {g : Rho → Option Out} {p1 p2 : Pos} (hp : PassesOwn (model X.prog X.w) X.A X.env X.xe) (hc : X.calm = true) (hx : x = "range") (hgl : Gl X x) (hm : X.mg x = none) (ha : DXA X k [a] fa) (hg : DG X tgt h at_) (hb : DSS X R body g)
    (hs : ∀ y, foldedSetIterable (.Call (.Name x p1) [a] [] p2) X.env y = pure y := by intro _; rfl) (he : starEach [a] X.env = [(false, eval a X.env)] := by rfl) : DS X R (.For tgt (.Call (.Name x p1) [a] [] p2) body [] pos) (oForX k fa h g) := by
  subst hx
  refine ⟨ps_for hp hc (pi_range1 hgl hm ha.pe he) hg.pe hb.pe hs, ⟨fun r e Dn q => ?_⟩⟩
  obtain ⟨es, e1, e2⟩ := bind_some e
  obtain ⟨⟨l, es'⟩, e3, e4⟩ := bind_some e2
  obtain ⟨ds, e5, e6⟩ := bind_some e4
  obtain ⟨p, hp'⟩ := rel_at r e1
  refine ha.de.go r e1 hp' e3 _ fun vs F1 H1 g1 al => ?_
  dsimp only at e5
  unfold dRng1 at e5
  split at e5
  · split at e5
    · rename_i hk
      cases e5
      cases al with
      | cons d1 al =>
        cases al
        cases d1
        obtain ⟨k1, k2⟩ := okR_iff hk
        exact ⟨_, rfl, k1, k2, for_core hg.de hb.de (r.eff e1 hp' g1) (wd_rng 0 _) e6 q⟩
    · cases e5
  · cases e5
end
/-! ### y = [e for x in ..], the changes told -/
def xGo (k j : Nat) (ρ : Rho) (vs : List Nat) (el : Rho → Option (D × List D)) : List D → List D → Option (List D × List D)
  | [], es => some ([], es)
  | d :: ds, es => (el ((wipeR (putOwn ρ k es) vs).set j (.val d))).bind fun ze => (xGo k j ρ vs el ds ze.2).map fun w => (ze.1 :: w.1, w.2)
def oSetXC (k i j : Nat) (fi : Rho → Option (List D)) (vs : List Nat) (el : Rho → Option (D × List D)) : Rho → Option Out := fun ρ => (ownAt ρ k).bind fun es => (fi ρ).bind fun ds => if ds.length < sBig then (xGo k j ρ vs el ds es).map fun w => .nx ((putOwn ρ k w.2).set i (.val (.list w.1))) else none
theorem ownAt_wipe {k : Nat} : ∀ {vs : List Nat} {ρ : Rho}, k ∉ vs → ownAt (wipeR ρ vs) k = ownAt ρ k
  | [], _, _ => rfl
  | v :: vs, ρ, h => by
    show ownAt ((wipeR ρ vs).set v .no) k = _
    rw [ownAt_set_ne fun z => h (by rw [z]; exact List.mem_cons_self)]
    exact ownAt_wipe fun z => h (List.mem_cons_of_mem _ z)
end GY
set_option Elab.async false
set_option linter.all false
set_option maxRecDepth 100000
set_option maxHeartbeats 4000000
/-! Gyj: a comprehension whose element changes a list; defs that give a new list. -/
namespace GY
open PySem PySem.Spec PyProof.Rows L2
structure CompX (p0 : Addr) (F1 H1 : Hp) (Dl : Addr) (zs es2 : List D) (todo : List D → Option (List D × List D)) (H : Hp) (i : Nat) : Prop where
  ex : ∃ (F : Hp) (ws : List V) (done more es : List D), Eff p0 F1 H1 F H es ∧ F Dl = none ∧ H Dl = some (HO.lst ws) ∧ DqAll F ws done ∧ todo es = some (more, es2) ∧ done ++ more = zs ∧ done.length ≤ i
section
variable {X : Cx} {W : Wd} {R : L2.St → Hp → Prop} {k j : Nat}
theorem xt_comp {B : Bas} {F H : Hp} {σ : L2.St} {ρ : Rho} {Q : VK} {wi : TI} {te : TE} {fi : Rho → Option (List D)} {el : Rho → Option (D × List D)} {vs : List Nat} {es ds zs es2 : List D} {p0 : Addr} (hi : DIt W wi fi) (he : DXt W k te el) (hj : j ∈ vs) (hk : k ∉ vs)
    (r : Rel W B F H σ ρ) (o : ownAt ρ k = some es) (hs : σ[k]? = some (some (V.ref p0))) (e1 : fi ρ = some ds) (hsz : ds.length < sBig) (e2 : xGo k j ρ vs el ds es = some (zs, es2))
    (q : ∀ p ws F' H', Eff p0 F H F' H' es2 → H p = none → F' p = none → H' p = some (HO.lst ws) → DqAll F' ws zs → Q (.ref p) H') : tLc wi (gName j) (canT W fun _ => some true) te vs σ H Q := by
  refine hi.go r e1 _ fun J F1 H1 g1 wk => ?_
  intro Dl hD
  have r1 := r.grow g1
  have ef1 : Eff p0 F1 H1 F1 H1 es := Eff.refl r1 o hs
  have hne : Dl ≠ p0 := fun z => by
    obtain ⟨v, h1, _⟩ := ef1.h
    rw [← z, hD] at h1
    cases h1
  have fD1 : F1 Dl = none := none_of_same g1.fh hD
  refine ⟨fun i m H' => m = ds.length - i ∧ i ≤ ds.length ∧ CompX p0 F1 H1 Dl zs es2 (fun es => xGo k j ρ vs el (ds.drop i) es) H' i, ⟨ds.length, by simp, Nat.zero_le _, ⟨F1, [], [], zs, es, ?_, fD1, upd_same, .nil, by simpa using e2, rfl, Nat.le_refl _⟩⟩, ?_⟩
  · obtain ⟨v, h1, h2⟩ := ef1.h
    exact ⟨(Grow.newO (S := N0) g1.fh hD).any, ef1.n, v, by rw [upd_ne (Ne.symm hne)]; exact h1, h2⟩
  rintro i m H2 ⟨rfl, hil, ⟨F2, ws, done, more, es', g2, fD, hDl, al, etodo, ezs, edone⟩⟩
  have r2 := r1.eff o hs g2
  by_cases hlt : i < ds.length
  · refine Or.inr ⟨wk.goes i H2 hlt (g2.g.ef.trans r2.fh), fun H' => i + 1 ≤ ds.length ∧ CompX p0 F1 H1 Dl zs es2 (fun es => xGo k j ρ vs el (ds.drop (i + 1)) es) H' (i + 1), fun H' w => ⟨ds.length - (i + 1), by omega, rfl, w.1, w.2⟩, fun x H3 y => ?_⟩
    have hdi : ds[i]? = some ds[i] := List.getElem?_eq_getElem hlt
    obtain ⟨F3, g3, dx⟩ := wk.yld i F2 H2 x H3 _ hdi g2.g.ef r2.fh y
    have r3 := ((r2.grow g3).wipe vs).setV j dx
    rw [drop_at hdi] at etodo
    obtain ⟨⟨z, es3⟩, k5, k6⟩ := bind_some etodo
    obtain ⟨⟨zs', es4⟩, k7, k8⟩ := map_some k6
    cases k8
    have wl : wipe ((wipe σ vs).set j (some x)) vs = wipe σ vs := wipe_same (at_ := [j]) (by simp) (fun l hl => List.getElem?_set_ne fun z => hl (by simp [z])) fun l hl => by
      rw [List.mem_singleton.mp hl]
      exact hj
    refine ⟨wl, ?_⟩
    refine canT_de.go (f := fun _ => some true) r3 rfl _ fun F5 H5 g5 => ?_
    rw [if_pos rfl]
    have kj : j ≠ k := fun z => hk (by rw [← z]; exact hj)
    have ok3 : ownAt ((wipeR (putOwn ρ k es') vs).set j (.val ds[i])) k = some es' := by
      rw [ownAt_set_ne kj, ownAt_wipe hk]
      exact ownAt_putOwn o
    have sk3 : ((wipe σ vs).set j (some x))[k]? = some (some (V.ref p0)) := by
      rw [List.getElem?_set_ne kj]
      exact (wipe_out' hk).trans hs
    refine he.go (r3.grow g5) ok3 sk3 k5 _ fun v F6 H6 g6 dv => ?_
    have gAll : Eff p0 F1 H1 F6 H6 es3 := ((g2.grow g3).grow g5).trans g6
    have tD5 : H5 Dl = some (HO.lst ws) := g5.hh _ _ (g3.hh _ _ hDl)
    have fD5 : F5 Dl = none := g5.nw Dl _ (g3.hh _ _ hDl) (g3.nw Dl _ hDl fD)
    have tD6 : H6 Dl = some (HO.lst ws) := g6.g.keep _ _ tD5 hne
    have fD6 : F6 Dl = none := g6.g.nw Dl _ tD5 fD5
    have hlen : ws.length < sBig := by rw [al.len]; omega
    refine ⟨ws, tD6, sz_lt hlen, hlt, ⟨F6, ws ++ [v], done ++ [z], zs', es3, ⟨gAll.g.other hD fD6, gAll.n, ?_⟩, fD6, upd_same, ?_, k7, ?_, ?_⟩⟩
    · obtain ⟨w, h1, h2⟩ := gAll.h
      exact ⟨w, by rw [upd_ne (Ne.symm hne)]; exact h1, h2⟩
    · exact (((al.up g3.ef).up g5.ef).up g6.g.ef).app (DqAll.one dv)
    · rw [List.append_assoc, List.singleton_append]
      exact ezs
    · rw [List.length_append, List.length_singleton]
      omega
  · have ei : i = ds.length := by omega
    subst ei
    rw [List.drop_length] at etodo
    cases etodo
    rw [List.append_nil] at ezs
    subst ezs
    exact Or.inl ⟨wk.stops H2 (g2.g.ef.trans r2.fh), q Dl ws F2 H2 ⟨g1.any.trans g2.g, g2.n, g2.h⟩ (g1.back hD) fD hDl al⟩
theorem Eff.freeze {p0 p : Addr} {F H F' H' : Hp} {es : List D} {ws : List V} (e : Eff p0 F H F' H' es) (hp : H p = none) (hf : F' p = none) (ho : H' p = some (HO.lst ws)) (hn : p ≠ p0) : Eff p0 F H (upd F' p (HO.lst ws)) H' es := by
  obtain ⟨v, h1, h2⟩ := e.h
  exact ⟨e.g.freeze hp hf ho, by rw [upd_ne (Ne.symm hn)]; exact e.n, v, h1, h2.up fun a u q => by rw [upd_ne (ne_of_none q hf)]; exact q⟩
theorem ds_setXC {i : Nat} {y t : Str} {py pt : Pos} {elt iter : Expr} {scope : Scope} {own : List (Str × Nat)} {pos spos : Pos} {fi : Rho → Option (List D)} {el : Rho → Option (D × List D)} {vs : List Nat} (hc : X.calm = true) (hN : X.N.Nodup) (hi : DI X (.Name t pt) iter fi) (ok : BlkOk X.N X.env.scope scope own)
    (hg : ∀ (s : Shared) (H : Hp) (C : Addr) (cl : List (Str × Addr)) (fp : List Addr), PG (X.blk s H scope (compEnvC scope cl C X.env) fp) (.Name t pt) (gName j))
    (he : ∀ (s : Shared) (H : Hp) (C : Addr) (cl : List (Str × Addr)) (fp : List Addr), DX (X.blk s H scope (compEnvC scope cl C X.env) fp) k elt el) (hj : j ∈ vs) (hk : k ∉ vs) (hy : X.N[i]? = some y := by rfl) (hyl : X.env.scope.names.lookup y = some .local := by rfl)
    (hsw : swapsWith (.ListComp elt [⟨.Name t pt, iter, [], 0⟩] scope pos) (some (.Name y py)) spos.line X.env = pure true := by exact sw_true rfl rfl rfl (by decide +kernel)) (hs : ∀ x, foldedSetIterable iter X.env x = pure x := by intro _; rfl) (hvs : own.map (·.2) = vs := by rfl) :
    DS X R (.Assign [.Name y py] (.ListComp elt [⟨.Name t pt, iter, [], 0⟩] scope pos) spos) (oSetXC k i j fi vs el) := by
  subst hvs
  refine ⟨ps_setLc (wi := canI (wdOf X) fi) (g := gName j) (tt := canT (wdOf X) fun _ => some true) (te := canX (wdOf X) k el) hc hN hy hyl hsw hi.pe ok hg (fun s H C cl fp => (dp_nil (X := X.blk s H scope (compEnvC scope cl C X.env) fp)).pe) (fun s H C cl fp => (he s H C cl fp).pe) hs, ⟨fun r e Dn q => ?_⟩⟩
  obtain ⟨es, e1, e2⟩ := bind_some e
  obtain ⟨ds, e3, e4⟩ := bind_some e2
  split at e4
  · rename_i hsz
    obtain ⟨⟨zs, es2⟩, e5, e6⟩ := map_some e4
    subst e6
    obtain ⟨p0, hp0⟩ := rel_at r e1
    refine xt_comp (fi := fi) (el := el) canI_de canX_de hj hk r e1 hp0 e3 hsz e5 fun p ws F' H' g n1 n2 h1 a1 => ?_
    have hne : p ≠ p0 := fun z => by
      obtain ⟨v, h1, _⟩ := (Eff.refl r e1 hp0).h
      rw [← z, n1] at h1
      cases h1
    have g2 := g.freeze n1 n2 h1 hne
    refine q _ _ _ ((r.eff e1 hp0 g2).setV i (.lst upd_same (a1.up fun a u e => ?_)))
    rw [upd_ne (ne_of_none e n2)]
    exact e
  · cases e4
end
/-! ### defs that give a new list -/
def SpL (Fn : List D → Option (List D)) : Sp := fun vs H Q _ => ∃ (F : Hp) (ds zs : List D), Same F H ∧ DqAll F vs ds ∧ Fn ds = some zs ∧ ∀ p ws F' H', Grow N0 F H F' H' → H p = none → F' p = none → H' p = some (HO.lst ws) → DqAll F' ws zs → Q (.ref p) H'
structure DefL (P : Program) (w : World) (K : PySem.W.Frag) (mg : Str → Option Value) (base : Heap) (x : Str) (k : Nat) (Fn : List D → Option (List D)) : Prop where
  ex : ∃ (f : Addr) (fd : FuncData) (ps : List Str), mg x = some (.ref f) ∧ PySem.W.keepIn K (.ref f) = true ∧ Binds K fd ps [] ∧ FnOk P w K mg base CX0 k f fd ps (SpL Fn)
def runL (n m : Nat) (g : Rho → Option Out) (f : Rho → Option (List D)) : List D → Option (List D) := fun ds => if ds.length = n then (g (startR n m ds)).bind fun
  | .nx ρ => f ρ
  | _ => none
  else none
section
variable {P : Program} {w : World} {K : PySem.W.Frag} {mg : Str → Option Value} {base : Heap}
theorem def_mkL {x qual : Str} {st : Stmt} {f : Addr} {fd : FuncData} {N ps : List Str} {k n : Nat} {g : Rho → Option Out} {h : Rho → Option (List D)} {st1 : Stmt} {e : Expr} {pos : Pos} (F : Fun K x qual st f fd) (S : FnScope N ps (defScope st)) (bd : Binds K fd ps []) (hm : mg x = some (.ref f)) (hn : ps.length = n) (hbd : defBody st = [st1, .Return (some e) pos])
    (hb : ∀ (f : Addr) (cdv : Value) (A : Around) (outer : List Env) (s : Shared) (H : Hp) (E : XK), Room k (A.deeper (envOfC qual (defScope st) s.heap.objs.size f cdv)) →
      DS (cxOf CX0 P w K mg base N qual (defScope st) f cdv A outer s H E).nox R0 st1 g ∧ DL (cxOf CX0 P w K mg base N qual (defScope st) f cdv A outer s H E).nox e h) :
    DefL P w K mg base x (k + 1) (runL n N.length g h) := by
  refine ⟨f, fd, ps, hm, F.kp, bd, F.ok S (fun vs H Q E h => ?_) (fun cdv A outer s H vs Q E hr h => ?_)⟩
  · obtain ⟨F0, ds, d, sm, al, hf, _⟩ := h
    unfold runL at hf
    split at hf
    · rename_i hl
      rw [al.len, hl, hn]
    · cases hf
  · obtain ⟨F0, ds, zs, sm, al, hf, q⟩ := h
    unfold runL at hf
    split at hf
    · rename_i hl
      obtain ⟨b1, b2⟩ := hb f cdv A outer s H E hr
      rw [hbd]
      refine ⟨_, pss_cons b1.pe (pss_one (ps_ret b2.pe)), ?_⟩
      have r := start_rel (W := ⟨P, w, K⟩) (N := N) (n := n) sm al hl
      obtain ⟨o, e1, e2⟩ := bind_some hf
      refine b1.de.go r e1 _ ?_
      split at e2
      · intro σ' F' H' r'
        exact b2.de.go r' e2 _ fun p ws F2 H2 g2 n1 n2 h1 a1 => q p ws F2 H2 (r'.gr.trans g2) (r'.gr.back n1) n2 h1 a1
      · cases e2
    · cases hf
end
end GY
set_option Elab.async false
set_option linter.all false
set_option maxRecDepth 100000
set_option maxHeartbeats 4000000
/-! Gyk: t[::-1], t a tuple. -/
namespace GY
open PySem PySem.Spec PyProof.Rows L2
open HT
theorem adj_rev (n : Nat) : Builtin.Slice.sliceAdjust none none (-1) (n : Int) = ((n : Int) - 1, -1) := by
  unfold Builtin.Slice.sliceAdjust
  simp
theorem places_rev (n : Nat) : Builtin.Slice.slicePlaces ((n : Int) - 1) (-1) (-1) = n := by
  unfold Builtin.Slice.slicePlaces
  simp
  omega
theorem pick_rev (xs : Array Value) : ((List.range xs.size).filterMap fun (m : Nat) => xs[(((xs.size : Int) - 1) + (m : Int) * (-1)).toNat]?).toArray = xs.toList.reverse.toArray := by
  congr 1
  have e : ∀ m ∈ List.range xs.size, xs[(((xs.size : Int) - 1) + (m : Int) * (-1)).toNat]? = xs.toList.reverse[m]? := fun m hm => by
    have hm' := List.mem_range.mp hm
    rw [List.getElem?_reverse (by rw [Array.length_toList]; exact hm'), Array.getElem?_toList, Array.length_toList]
    congr 1
    omega
  have e2 : ∀ (l : List Nat), (∀ m ∈ l, m ∈ List.range xs.size) → l.filterMap (fun (m : Nat) => xs[(((xs.size : Int) - 1) + (m : Int) * (-1)).toNat]?) = l.filterMap fun m => xs.toList.reverse[m]? := by
    intro l
    induction l with
    | nil => intro _; rfl
    | cons a l ih =>
      intro h
      rw [List.filterMap_cons, List.filterMap_cons, e a (h a List.mem_cons_self), ih fun m hm => h m (List.mem_cons_of_mem _ hm)]
  rw [e2 _ fun m hm => hm]
  have key : ∀ (ys : List Value) (n : Nat), n ≤ ys.length → (List.range n).filterMap (fun m => ys[m]?) = ys.take n := by
    intro ys n
    induction n with
    | zero => intro _; rfl
    | succ n ih =>
      intro hn
      have hlt : n < ys.length := hn
      rw [List.range_succ, List.filterMap_append, ih (Nat.le_of_lt hlt), List.take_succ, List.getElem?_eq_getElem hlt]
      rw [List.filterMap_cons_some (List.getElem?_eq_getElem hlt)] <;> rfl
  rw [key _ _ (by simp), List.take_of_length_le (by simp)]
section
variable {prog : Program} {w : World} {A : Around} {E : Value → Shared → Prop} {s : Shared}
theorem sliceApplied_rev {sl : Addr} {vl vu vs : Value} {n : Nat} {Q : Int × Int × Nat → Shared → Prop} (hs : s.heap.IsSliceOf sl vl vu vs) (pl : IsPart vl none) (pu : IsPart vu none) (ps : IsPart vs (some (-1)))
    (h : Q ((n : Int) - 1, -1, n) s) : wpAny (model prog w) A (Builtin.Slice.sliceApplied (.ref sl) (pure (n : Int))) Q E s := by
  obtain ⟨os, hos, hcs, hds⟩ := id hs
  unfold Builtin.Slice.sliceApplied Builtin.Slice.sliceFields
  refine wpAny_bind (wpAny_bind (wpAny_field hos hds (x := vl) rfl (wpAny_bind (wpAny_field hos hds (x := vu) rfl (wpAny_bind (wpAny_field hos hds (x := vs) rfl (wpAny_pure ?_)))))))
  refine wpAny_bind (slicePart_ ps ?_)
  show wpAny _ _ (if ((-1 : Int) == 0) = true then _ else _) _ _ s
  rw [if_neg (by decide)]
  refine wpAny_bind (slicePart_ pl (wpAny_bind (slicePart_ pu (wpAny_bind (wpAny_pure ?_)))))
  show wpAny _ _ (match Builtin.Slice.sliceAdjust none none (-1) (n : Int) with | (lo, hi) => pure (lo, (-1 : Int), Builtin.Slice.slicePlaces lo hi (-1))) _ _ s
  rw [adj_rev]
  show wpAny _ _ (pure ((n : Int) - 1, (-1 : Int), Builtin.Slice.slicePlaces ((n : Int) - 1) (-1) (-1))) _ _ s
  rw [places_rev]
  exact wpAny_pure h
theorem getItem_tuple_rev {t sl : Addr} {items : Array Value} {vl vu vs : Value} {Q : Value → Shared → Prop} (ht : IsTup s.heap t items) (hs : s.heap.IsSliceOf sl vl vu vs) (pl : IsPart vl none) (pu : IsPart vu none) (ps : IsPart vs (some (-1)))
    (h : Q (.ref s.heap.objs.size) { s with heap := s.heap.push { cls := .type "tuple", data := .seq items.toList.reverse.toArray } }) (hsz : items.size ≤ sizeLine) : wpAny (model prog w) A (getItem (.ref t) (.ref sl)) Q E s := by
  have htake : sizeOk (.seq items.toList.reverse.toArray) := by
    show items.toList.reverse.toArray.size ≤ sizeLine
    rw [List.size_toArray, List.length_reverse, Array.length_toList]
    exact hsz
  obtain ⟨os, hos, hcs, hds⟩ := id hs
  have hTs : s.TypeIs (.ref sl) "slice" := ⟨os, hos, hcs⟩
  unfold getItem
  try with_reducible refine wpAny_holding ?_
  first | refine wpAny_bind (wpAny_pure ?_) | skip
  refine wpAny_bind (wpAny_sequenceKey ht.typeIs (by decide) ?_)
  refine wpAny_bind (wpAny_callSpecial?_slot (name := Str.ofString "__getitem__") ht.typeIs PyProof.Rows.slot_tuple_getitem
    (wpAny_call_entry PyProof.Rows.slot_tuple_getitem ht.typeIs entry_tuple_getitem ?_ (args_tuple_getitem _ _)))
  show wpAny _ _ (Builtin.Tuple.tupleItemsOf (.ref t) >>= _) _ _ s
  refine wpAny_bind (tupleItemsOf_ ht ?_)
  refine wpAny_bind (wpAny_typeOf hTs ?_)
  rw [if_pos (by decide)]
  refine wpAny_bind (sliceApplied_rev hs pl pu ps ?_)
  show wpAny _ _ (if (((items.size : Int) - 1) == 0 && (-1 : Int) == 1 && items.size == items.size) = true then _ else _) _ _ s
  rw [if_neg (by simp), pick_rev]
  first
    | exact wpAny_bind (m := Builtin.Tuple.tupleExact _) (wpAny_newObj_type (wpAny_pure ⟨_, rfl, wpAny_pure h⟩) htake)
    | exact wpAny_bind (m := Builtin.Tuple.tupleExact _) (wpAny_newObj_type (wpAny_bind (wpAny_pure (wpAny_pure ⟨_, rfl, wpAny_pure h⟩))) htake)
    | exact wpAny_bind (wpAny_bind (m := Builtin.Tuple.tupleExact _) (wpAny_newObj_type (wpAny_pure (wpAny_pure ⟨_, rfl, wpAny_pure h⟩)) htake))
    | exact wpAny_bind (wpAny_bind (m := Builtin.Tuple.tupleExact _) (wpAny_newObj_type (wpAny_pure ⟨_, rfl, wpAny_pure h⟩) htake))
end
def tRevT (K : PySem.W.Frag) (te : TE) : TE := fun σ H Q => te σ H fun x H1 => ∃ a xs, x = .ref a ∧ SqT K H1 a xs ∧ ∀ p, H1 p = none → Q (.ref p) (upd H1 p (.tup xs.reverse))
def dRev : D → Option D
  | .tuple ds => some (.tuple ds.reverse)
  | _ => none
section
variable {X : Cx}
theorem pe_revT {e : Expr} {te : TE} {k : Nat} {p1 p2 p3 pos : Pos} (he : PE X e te) : PE X (.Subscript e (.Slice none none (some (.UnaryOp .USub (.Constant (.int 1) k p1) p2)) p3) pos) (tRevT X.K te) := by
  refine ⟨fun pins s σ H Q I h => ?_⟩
  refine Subscript_ (thn (he.run pins s σ H _ I h) fun v s1 ⟨x, H1, I1, r1, q1⟩ => ?_)
  obtain ⟨a, xs, ex, hx, q⟩ := q1
  subst ex
  cases r1
  have hst : PO X (some (.UnaryOp .USub (.Constant (.int 1) k p1) p2)) (tPart (tUn (rU fun i => .int (-i)) (tC (.int 1)))) := po_some (pe_un un_neg pe_int)
  refine wpAny_Slice (thn (po_none.run pins s1 σ H1 (fun o H2 => o = none ∧ H2 = H1) I1 ⟨rfl, rfl⟩) fun vl s2 ⟨l, H2, I2, pl, el, e2⟩ => ?_)
  subst el e2
  refine thn (po_none.run pins s2 σ H2 (fun o H3 => o = none ∧ H3 = H2) I2 ⟨rfl, rfl⟩) fun vu s3 ⟨u, H3, I3, pu, eu, e3⟩ => ?_
  subst eu e3
  refine thn (hst.run pins s3 σ H3 (fun o H4 => o = some (-1) ∧ H4 = H3) I3 ⟨1, rfl, -1, rfl, rfl, rfl⟩) fun vs s4 ⟨o, H4, I4, ps, eo, e4⟩ => ?_
  subst eo e4
  have I5 : Inv X pins σ H4 { s4 with heap := s4.heap.push { cls := .type "slice", data := .fields #[vl, vu, vs] } } := I4.kept (t' := s4.toks) fun b ob q => Heap.get?_push_of_some _ q
  obtain ⟨its, r, ht, hz⟩ := I5.tuple hx
  have hlen := r.length
  show wpAny (model X.prog X.w) X.A (subscriptTail e (.Slice none none (some (.UnaryOp .USub (.Constant (.int 1) k p1) p2)) p3) (.ref a) (.ref s4.heap.objs.size)) (EP X pins σ Q) X.xe { s4 with heap := s4.heap.push { cls := .type "slice", data := .fields #[vl, vu, vs] } }
  refine tail_any (ops := [.ref a, .ref s4.heap.objs.size]) ht.typeIs PyProof.Rows.slot_tuple_getitem.lookup ?_ (by with_unfolding_all rfl)
  refine getItem_tuple_rev ht (Heap.IsSliceOf.new _ vl vu vs) pl pu ps ?_ (by rw [List.size_toArray]; omega)
  refine ⟨.ref _, _, I5.laid (t' := s4.toks) (o := .tup xs.reverse) (fun b ob q => Heap.get?_push_of_some _ q) (Nat.le_refl _) ?_, rfl, q _ (I5.hok.fresh (Nat.le_refl _))⟩
  exact ⟨by rw [List.length_reverse]; omega, _, r.reverse, ⟨_, Heap.get?_push_size _ rfl, rfl, 0, by simp⟩⟩
theorem de_rev {e : Expr} {f : Rho → Option D} {k : Nat} {p1 p2 p3 pos : Pos} (he : DE X e f) : DE X (.Subscript e (.Slice none none (some (.UnaryOp .USub (.Constant (.int 1) k p1) p2)) p3) pos) (fun ρ => (f ρ).bind dRev) := ⟨pe_revT he.pe, ⟨fun r e Q q => by
  obtain ⟨d, e1, e2⟩ := bind_some e
  refine he.de.go r e1 _ fun v F1 H1 g1 dv => ?_
  unfold dRev at e2
  split at e2
  · cases e2
    cases dv with
    | tup hf a1 =>
      refine ⟨_, _, rfl, SqT.of (g1.fh _ _ hf), fun p hp => ?_⟩
      exact q _ _ _ (g1.trans (Grow.newF g1.fh hp)) (.tup upd_same (a1.rev.up (Grow.newF (S := N0) g1.fh hp).ef))
  · cases e2⟩⟩
end
end GY
set_option Elab.async false
set_option linter.all false
set_option maxRecDepth 100000
set_option maxHeartbeats 4000000
namespace GY
open PySem PySem.Spec PyProof.Rows L2
abbrev s_is_number : Stmt := topS 4
abbrev N_is_number : List Str := ["thing"]
theorem sc_is_number : FnScope N_is_number ["thing"] (defScope s_is_number) := ⟨rfl, rfl, rfl, by decide +kernel, rfl, by decide +kernel, by decide +kernel⟩
def g_is_number : Rho → Option Out := (oRet (dAndV (fun ρ => ((fun ρ => vAt ρ 0) ρ).bind (isiD "int")) (dNotV (fun ρ => ((fun ρ => vAt ρ 0) ρ).bind (isiD "bool")))))
def F_is_number : List D → Option D := runF 1 1 g_is_number
section
variable {P : Program} {w : World} {K : PySem.W.Frag} {mg : Str → Option Value} {base : Heap}
theorem b_is_number (T : Tx mg) : BodyOk P w K mg base N_is_number "is_number" s_is_number 0 g_is_number := by
  intro f cdv A outer s H E hr
  exact (dss_one (ds_ret (de_and (de_isi "int" (by decide +kernel) rfl T.isinstance rfl T.int (DE.db (de_var 0))) (de_one (de_not (de_isi "bool" (by decide +kernel) rfl T.isinstance rfl T.bool (DE.db (de_var 0))))))))
end

abbrev s_tuple_of : Stmt := topS 5
abbrev N_tuple_of : List Str := ["thing", "part"]
theorem sc_tuple_of : FnScope N_tuple_of ["thing"] (defScope s_tuple_of) := ⟨rfl, rfl, rfl, by decide +kernel, rfl, by decide +kernel, by decide +kernel⟩
def g_tuple_of (Fr : List D → Option D) : Rho → Option Out := (oSeq (oIf (fun ρ => ((fun ρ => ((fun ρ => vAt ρ 0) ρ).bind (isiD2 "list" "tuple")) ρ).bind asB) (oRet (fun ρ => ((fun ρ => ((compD (fun ρ => ((fun ρ => vAt ρ 0) ρ).bind dItems) (hName 1) (fun _ => some true) (fun ρ => ((aCons (fun ρ => vAt ρ 1) aNil) ρ).bind Fr) [1]) ρ).map .list) ρ).bind dTuple)) oNext)
    (oRet (fun ρ => vAt ρ 0)))
def Fr_tuple_of : Nat → List D → Option D
  | 0 => fun _ => none
  | n + 1 => runF 1 2 (g_tuple_of (Fr_tuple_of n))
def F_tuple_of : List D → Option D := Fr_tuple_of 6
section
variable {P : Program} {w : World} {K : PySem.W.Frag} {mg : Str → Option Value} {base : Heap}
theorem b_tuple_of {n : Nat} {Fr : List D → Option D} (T : Tx mg) (G_tuple_of : DefD P w K mg base "tuple_of" n Fr) : BodyOk P w K mg base N_tuple_of "tuple_of" s_tuple_of n (g_tuple_of Fr) := by
  intro f cdv A outer s H E hr
  exact (dss_cons (ds_if (dT_val (de_isi2 "list" "tuple" (by decide +kernel) (by decide +kernel) rfl T.isinstance rfl T.list rfl T.tuple (DE.db (de_var 0)))) (dss_one (ds_ret (de_T1 call_tuple_of ca_tuple (by decide +kernel) rfl T.tuple (DL.db (dl_lc rfl sc_tuple_of.nd (di_seq (de_var 0)) (blkOk_by (own := [("part", 1)]) (N := N_tuple_of) (sc := defScope s_tuple_of) (by decide +kernel)) (fun _ _ _ _ _ => (dg_name (i := 1) sc_tuple_of.nd)) (fun _ _ _ _ _ => dp_nil) (fun _ _ _ _ _ => (de_call G_tuple_of (hr.mono (by omega)) rfl (da_cons (de_var 1) da_nil)))))))) dss_nil)
    (dss_one (ds_ret (de_var 0))))
end

abbrev s_is_set : Stmt := topS 7
abbrev N_is_set : List Str := ["thing", "many", "one", "k"]
theorem sc_is_set : FnScope N_is_set ["thing", "many"] (defScope s_is_set) := ⟨rfl, rfl, rfl, by decide +kernel, rfl, by decide +kernel, by decide +kernel⟩
def g_is_set : Rho → Option Out := (oSeq (oIf (bOr (bNot (fun ρ => ((fun ρ => ((fun ρ => vAt ρ 0) ρ).bind (isiD "tuple")) ρ).bind asB)) (bNot (fun ρ => ((fun ρ => ((fun ρ => ((compD (fun ρ => ((fun ρ => vAt ρ 0) ρ).bind dItems) (hName 2) (fun _ => some true) (dAndV (fun ρ => ((aCons (fun ρ => vAt ρ 2) aNil) ρ).bind F_is_number) (do3 dLe dLt (fun _ => some (.int 0)) (fun ρ => vAt ρ 2) (fun ρ => vAt ρ 1))) [2]) ρ).map .list) ρ).bind dAll) ρ).bind asB))) (oRet (fun _ => some (.bool false))) oNext)
    (oRet (fun ρ => ((fun ρ => ((compD (fun ρ => ((aCons (do2 dSub (fun ρ => ((fun ρ => vAt ρ 0) ρ).bind dLen) (fun _ => some (.int 1))) aNil) ρ).bind dRng1) (hName 3) (fun _ => some true) (do2 dLt (do2 dIx (fun ρ => vAt ρ 0) (fun ρ => vAt ρ 3)) (do2 dIx (fun ρ => vAt ρ 0) (do2 dAdd (fun ρ => vAt ρ 3) (fun _ => some (.int 1))))) [3]) ρ).map .list) ρ).bind dAll)))
def F_is_set : List D → Option D := runF 2 4 g_is_set
section
variable {P : Program} {w : World} {K : PySem.W.Frag} {mg : Str → Option Value} {base : Heap}
theorem b_is_set (T : Tx mg) (G_is_number : DefD P w K mg base "is_number" 1 F_is_number) : BodyOk P w K mg base N_is_set "is_set" s_is_set 1 g_is_set := by
  intro f cdv A outer s H E hr
  exact (dss_cons (ds_if (DW.dt (dW_or (dT_not (dT_val (de_isi "tuple" (by decide +kernel) rfl T.isinstance rfl T.tuple (DE.db (de_var 0))))) (dW_or1 (dT_not (dT_val (de_B1 (cr_all rfl) ca_all (by decide +kernel) rfl T.all (DL.db (dl_lc rfl sc_is_set.nd (di_seq (de_var 0)) (blkOk_by (own := [("one", 2)]) (N := N_is_set) (sc := defScope s_is_set) (by decide +kernel)) (fun _ _ _ _ _ => (dg_name (i := 2) sc_is_set.nd)) (fun _ _ _ _ _ => dp_nil) (fun _ _ _ _ _ => (de_and (de_call G_is_number (hr.mono (by omega)) rfl (da_cons (de_var 2) da_nil)) (de_one (de_leLt (DE.db de_int) (DE.db (de_var 2)) (DE.db (de_var 1)))))))))))))) (dss_one (ds_ret de_bl)) dss_nil)
    (dss_one (ds_ret (de_B1 (cr_all rfl) ca_all (by decide +kernel) rfl T.all (DL.db (dl_lc rfl sc_is_set.nd (di_rng1 rfl rfl T.range (da_cons (de_sub (DE.db (de_B1 call_len_seq ca_len PySem.boot_len rfl T.len (DE.db (de_var 0)))) (DE.db de_int)) da_nil)) (blkOk_by (own := [("k", 3)]) (N := N_is_set) (sc := defScope s_is_set) (by decide +kernel)) (fun _ _ _ _ _ => (dg_name (i := 3) sc_is_set.nd)) (fun _ _ _ _ _ => dp_nil) (fun _ _ _ _ _ => (de_lt (DE.db (de_ix (DE.db (de_var 0)) (DE.db (de_var 3)))) (DE.db (de_ix (DE.db (de_var 0)) (DE.db (de_add (DE.db (de_var 3)) (DE.db de_int)))))))))))))
end

abbrev s_is_lot : Stmt := topS 8
abbrev N_is_lot : List Str := ["thing", "m"]
theorem sc_is_lot : FnScope N_is_lot ["thing", "m"] (defScope s_is_lot) := ⟨rfl, rfl, rfl, by decide +kernel, rfl, by decide +kernel, by decide +kernel⟩
def g_is_lot : Rho → Option Out := (oRet (dAndV (fun ρ => ((aCons (fun ρ => vAt ρ 0) (aCons (fun ρ => vAt ρ 1) aNil)) ρ).bind F_is_set) (do2 dGt (fun ρ => ((fun ρ => vAt ρ 0) ρ).bind dLen) (fun _ => some (.int 0)))))
def F_is_lot : List D → Option D := runF 2 2 g_is_lot
section
variable {P : Program} {w : World} {K : PySem.W.Frag} {mg : Str → Option Value} {base : Heap}
theorem b_is_lot (T : Tx mg) (G_is_set : DefD P w K mg base "is_set" 2 F_is_set) : BodyOk P w K mg base N_is_lot "is_lot" s_is_lot 2 g_is_lot := by
  intro f cdv A outer s H E hr
  exact (dss_one (ds_ret (de_and (de_call G_is_set (hr.mono (by omega)) rfl (da_cons (de_var 0) (da_cons (de_var 1) da_nil))) (de_one (de_gt (DE.db (de_B1 call_len_seq ca_len PySem.boot_len rfl T.len (DE.db (de_var 0)))) (DE.db de_int))))))
end

abbrev s_all_areas : Stmt := topS 10
abbrev N_all_areas : List Str := ["rule", "own", "_"]
theorem sc_all_areas : FnScope N_all_areas ["rule"] (defScope s_all_areas) := ⟨rfl, rfl, rfl, by decide +kernel, rfl, by decide +kernel, by decide +kernel⟩
def g_all_areas : Rho → Option Out := (oRet (fun ρ => (((do2 dAdd (fun ρ => ((fun ρ => ((do2L dCat (fun ρ => ((shortL (aCons (fun _ => some (.int 0)) aNil)) ρ).map .list) (fun ρ => ((compD (fun ρ => ((fun ρ => vAt ρ 0) ρ).bind dItems) (hTup2 1 2) (fun _ => some true) (do2 dIx (fun ρ => vAt ρ 1) (fun ρ => ((fun _ => some (.int 1)) ρ).bind dNeg)) [1, 2]) ρ).map .list)) ρ).map .list) ρ).bind dMax) (fun _ => some (.int 1))) ρ).bind dRgT).map .tuple))
def F_all_areas : List D → Option D := runF 1 3 g_all_areas
section
variable {P : Program} {w : World} {K : PySem.W.Frag} {mg : Str → Option Value} {base : Heap}
theorem b_all_areas (T : Tx mg) : BodyOk P w K mg base N_all_areas "all_areas" s_all_areas 0 g_all_areas := by
  intro f cdv A outer s H E hr
  exact (dss_one (ds_ret (de_tupRg rfl rfl T.tuple rfl T.range (de_add (DE.db (de_B1 (cr_max rfl) ca_max (by decide +kernel) rfl T.max (DL.db (dl_cat (DL.db (dl_lst (da_cons de_int da_nil))) (DL.db (dl_lc rfl sc_all_areas.nd (di_seq (de_var 0)) (blkOk_by (own := [("own", 1), ("_", 2)]) (N := N_all_areas) (sc := defScope s_all_areas) (by decide +kernel)) (fun _ _ _ _ _ => (dg_tup2 (i := 1) (j := 2) rfl sc_all_areas.nd)) (fun _ _ _ _ _ => dp_nil) (fun _ _ _ _ _ => (de_ix (DE.db (de_var 1)) (DE.db (de_neg de_int)))))))))) (DE.db de_int)))))
end

abbrev s_lots_within : Stmt := topS 11
abbrev N_lots_within : List Str := ["lot", "found", "many", "own"]
theorem sc_lots_within : FnScope N_lots_within ["lot"] (defScope s_lots_within) := ⟨rfl, rfl, rfl, by decide +kernel, rfl, by decide +kernel, by decide +kernel⟩
def g_lots_within : Rho → Option Out := (oSeq (oSet 1 (cO (shortL aNil)))
    (oSeq (oFor (fun ρ => ((aCons (fun _ => some (.int 1)) (aCons (do2 dAdd (fun ρ => ((fun ρ => vAt ρ 0) ρ).bind dLen) (fun _ => some (.int 1))) aNil)) ρ).bind dRng2) (hName 2) (oExt 1 (compD (fun ρ => ((aCons (fun ρ => vAt ρ 0) (aCons (fun ρ => vAt ρ 2) aNil)) ρ).bind dComb) (hName 3) (fun _ => some true) (fun ρ => vAt ρ 3) [3])))
    (oRet (fun ρ => ((fun ρ => ((fun ρ => bAt ρ 1) ρ).bind dSortD) ρ).map .list))))
def F_lots_within : List D → Option D := runF 1 4 g_lots_within
section
variable {P : Program} {w : World} {K : PySem.W.Frag} {mg : Str → Option Value} {base : Heap}
theorem b_lots_within (T : Tx mg) (TC : Comb K mg) : BodyOk P w K mg base N_lots_within "lots_within" s_lots_within 0 g_lots_within := by
  intro f cdv A outer s H E hr
  exact (dss_cons (ds_set (i := 1) sc_lots_within.nd (dc_o (dl_lst da_nil)))
    (dss_cons (ds_for PassesOwn.never rfl (di_rng2 rfl rfl T.range (da_cons de_int (da_cons (de_add (DE.db (de_B1 call_len_seq ca_len PySem.boot_len rfl T.len (DE.db (de_var 0)))) (DE.db de_int)) da_nil))) (dg_name (i := 2) sc_lots_within.nd) (dss_one (ds_ext (k := 1) (dl_lc rfl sc_lots_within.nd (di_comb rfl rfl TC (da_cons (de_var 0) (da_cons (de_var 2) da_nil))) (blkOk_by (own := [("own", 3)]) (N := N_lots_within) (sc := defScope s_lots_within) (by decide +kernel)) (fun _ _ _ _ _ => (dg_name (i := 3) sc_lots_within.nd)) (fun _ _ _ _ _ => dp_nil) (fun _ _ _ _ _ => (de_var 3))))))
    (dss_one (ds_ret (DL.de' (dl_B1 (cr_sortedD hr) ca_sortD (by decide +kernel) rfl T.sorted (db_var 1)))))))
end

abbrev s_rows_within : Stmt := topS 12
abbrev N_rows_within : List Str := ["rule", "lot", "own", "picks", "area"]
theorem sc_rows_within : FnScope N_rows_within ["rule", "lot"] (defScope s_rows_within) := ⟨rfl, rfl, rfl, by decide +kernel, rfl, by decide +kernel, by decide +kernel⟩
def g_rows_within : Rho → Option Out := (oRet (fun ρ => ((compD (fun ρ => ((fun ρ => ((aCons (fun ρ => vAt ρ 0) aNil) ρ).bind F_tuple_of) ρ).bind dItems) (hTup2 2 3) (fun ρ => ((fun ρ => ((fun ρ => ((compD (fun ρ => ((fun ρ => vAt ρ 2) ρ).bind dItems) (hName 4) (fun _ => some true) (do2 dIn (fun ρ => vAt ρ 4) (fun ρ => vAt ρ 1)) [4]) ρ).map .list) ρ).bind dAll) ρ).bind asB) (fun ρ => (shortL (aCons (fun ρ => vAt ρ 2) (aCons (fun ρ => vAt ρ 3) aNil)) ρ).map .tuple) [2, 3]) ρ).map .list))
def F_rows_within : List D → Option D := runF 2 5 g_rows_within
section
variable {P : Program} {w : World} {K : PySem.W.Frag} {mg : Str → Option Value} {base : Heap}
theorem b_rows_within (T : Tx mg) (G_tuple_of : DefD P w K mg base "tuple_of" 6 F_tuple_of) : BodyOk P w K mg base N_rows_within "rows_within" s_rows_within 6 g_rows_within := by
  intro f cdv A outer s H E hr
  exact (dss_one (ds_ret (DL.de' (dl_lc rfl sc_rows_within.nd (di_seq (de_call G_tuple_of (hr.mono (by omega)) rfl (da_cons (de_var 0) da_nil))) (blkOk_by (own := [("own", 2), ("picks", 3)]) (N := N_rows_within) (sc := defScope s_rows_within) (by decide +kernel)) (fun _ _ _ _ _ => (dg_tup2 (i := 2) (j := 3) rfl sc_rows_within.nd)) (fun _ _ _ _ _ => (dp_one (dT_val (de_B1 (cr_all rfl) ca_all (by decide +kernel) rfl T.all (DL.db (dl_lc rfl sc_rows_within.nd (di_seq (de_var 2)) (blkOk_by (own := [("area", 4)]) (N := N_rows_within) (sc := relS (scopeOf ((skid ((defBody s_rows_within).getD 0 (.Pass ⟨0, 0, 0, 0⟩)) 0))) (defScope s_rows_within)) (by decide +kernel)) (fun _ _ _ _ _ => (dg_name (i := 4) sc_rows_within.nd)) (fun _ _ _ _ _ => dp_nil) (fun _ _ _ _ _ => (de_in (room65 hr) (DE.db (de_var 4)) (DE.db (de_var 1)))))))))) (fun _ _ _ _ _ => (de_tup (da_cons (de_var 2) (da_cons (de_var 3) da_nil))))))))
end

abbrev s_leads_in : Stmt := topS 13
abbrev N_leads_in : List Str := ["rule", "lot", "found", "own", "picks", "other", "one"]
theorem sc_leads_in : FnScope N_leads_in ["rule", "lot"] (defScope s_leads_in) := ⟨rfl, rfl, rfl, by decide +kernel, rfl, by decide +kernel, by decide +kernel⟩
def g_leads_in : Rho → Option Out := (oSeq (oSet 2 (cO (shortL aNil)))
    (oSeq (oFor (fun ρ => ((fun ρ => ((aCons (fun ρ => vAt ρ 0) (aCons (fun ρ => vAt ρ 1) aNil)) ρ).bind F_rows_within) ρ).bind dItems) (hTup2 3 4) (oFor (fun ρ => ((fun ρ => vAt ρ 4) ρ).bind dItems) (hName 5) (oExt 2 (compD (fun ρ => ((fun ρ => vAt ρ 3) ρ).bind dItems) (hName 6) (fun ρ => ((do2 dNe (fun ρ => vAt ρ 6) (fun ρ => vAt ρ 5)) ρ).bind asB) (fun ρ => (shortL (aCons (fun ρ => vAt ρ 6) (aCons (fun ρ => vAt ρ 5) aNil)) ρ).map .tuple) [6]))))
    (oRet (fun ρ => ((fun ρ => ((fun ρ => ((fun ρ => bAt ρ 2) ρ).bind dSortSet) ρ).map .list) ρ).bind dTuple))))
def F_leads_in : List D → Option D := runF 2 7 g_leads_in
section
variable {P : Program} {w : World} {K : PySem.W.Frag} {mg : Str → Option Value} {base : Heap}
theorem b_leads_in (T : Tx mg) (G_rows_within : DefD P w K mg base "rows_within" 7 F_rows_within) : BodyOk P w K mg base N_leads_in "leads_in" s_leads_in 7 g_leads_in := by
  intro f cdv A outer s H E hr
  exact (dss_cons (ds_set (i := 2) sc_leads_in.nd (dc_o (dl_lst da_nil)))
    (dss_cons (ds_for PassesOwn.never rfl (di_seq (de_call G_rows_within (hr.mono (by omega)) rfl (da_cons (de_var 0) (da_cons (de_var 1) da_nil)))) (dg_tup2 (i := 3) (j := 4) rfl sc_leads_in.nd) (dss_one (ds_for PassesOwn.never rfl (di_seq (de_var 4)) (dg_name (i := 5) sc_leads_in.nd) (dss_one (ds_ext (k := 2) (dl_lc rfl sc_leads_in.nd (di_seq (de_var 3)) (blkOk_by (own := [("one", 6)]) (N := N_leads_in) (sc := defScope s_leads_in) (by decide +kernel)) (fun _ _ _ _ _ => (dg_name (i := 6) sc_leads_in.nd)) (fun _ _ _ _ _ => (dp_one (dT_ne hr.units (DE.db (de_var 6)) (DE.db (de_var 5))))) (fun _ _ _ _ _ => (de_tup (da_cons (de_var 6) (da_cons (de_var 5) da_nil))))))))))
    (dss_one (ds_ret (de_T1 call_tuple_of ca_tuple (by decide +kernel) rfl T.tuple (DL.db (dl_sortSet rfl hr rfl T.sorted rfl T.set (db_var 2))))))))
end

abbrev s_flooded : Stmt := topS 14
abbrev N_flooded : List Str := ["pairs", "area", "found", "left", "here", "one", "other"]
theorem sc_flooded : FnScope N_flooded ["pairs", "area"] (defScope s_flooded) := ⟨rfl, rfl, rfl, by decide +kernel, rfl, by decide +kernel, by decide +kernel⟩
def g_flooded : Rho → Option Out := (oSeq (oPar 2 3 (cO (shortL (aCons (fun ρ => vAt ρ 1) aNil))) (cO (shortL (aCons (fun ρ => vAt ρ 1) aNil))))
    (oSeq (whileGo (fun ρ => ((do2 dGt (fun ρ => ((fun ρ => bAt ρ 3) ρ).bind dLen) (fun _ => some (.int 0))) ρ).bind asB) (oSeq (oPop 4 3)
    (oFor (fun ρ => ((fun ρ => vAt ρ 0) ρ).bind dItems) (hTup2 5 6) (oIf (bAnd (fun ρ => ((do2 dEq (fun ρ => vAt ρ 5) (fun ρ => vAt ρ 4)) ρ).bind asB) (fun ρ => ((do2 dNotIn (fun ρ => vAt ρ 6) (fun ρ => bAt ρ 2)) ρ).bind asB)) (oSeq (oApp 2 (fun ρ => vAt ρ 6))
    (oApp 3 (fun ρ => vAt ρ 6))) oNext))) 1000)
    (oRet (fun ρ => ((fun ρ => ((fun ρ => ((fun ρ => bAt ρ 2) ρ).bind dSortI) ρ).map .list) ρ).bind dTuple))))
def F_flooded : List D → Option D := runF 2 7 g_flooded
section
variable {P : Program} {w : World} {K : PySem.W.Frag} {mg : Str → Option Value} {base : Heap}
theorem b_flooded (T : Tx mg) : BodyOk P w K mg base N_flooded "flooded" s_flooded 0 g_flooded := by
  intro f cdv A outer s H E hr
  exact (dss_cons (ds_par (i := 2) (j := 3) rfl sc_flooded.nd (dc_o (dl_lst (da_cons (de_var 1) da_nil))) (dc_o (dl_lst (da_cons (de_var 1) da_nil))))
    (dss_cons (ds_while 1000 PassesOwn.never (dT_gt (DE.db (de_B1 call_len_seq ca_len PySem.boot_len rfl T.len (db_var 3))) (DE.db de_int)) (dss_cons (ds_pop (i := 4) (k := 3) sc_flooded.nd)
    (dss_one (ds_for PassesOwn.never rfl (di_seq (de_var 0)) (dg_tup2 (i := 5) (j := 6) rfl sc_flooded.nd) (dss_one (ds_if (DW.dt (dW_and (dT_eq hr.units (DE.db (de_var 5)) (DE.db (de_var 4))) (dW_and1 (dT_notin (room65 hr) (DE.db (de_var 6)) (db_var 2))))) (dss_cons (ds_app (k := 2) (de_var 6))
    (dss_one (ds_app (k := 3) (de_var 6)))) dss_nil))))))
    (dss_one (ds_ret (de_T1 call_tuple_of ca_tuple (by decide +kernel) rfl T.tuple (DL.db (dl_B1 cr_sortedI ca_sortI (by decide +kernel) rfl T.sorted (db_var 2))))))))
end

abbrev s_turned : Stmt := topS 15
abbrev N_turned : List Str := ["pairs", "one", "other"]
theorem sc_turned : FnScope N_turned ["pairs"] (defScope s_turned) := ⟨rfl, rfl, rfl, by decide +kernel, rfl, by decide +kernel, by decide +kernel⟩
def g_turned : Rho → Option Out := (oRet (fun ρ => ((compD (fun ρ => ((fun ρ => vAt ρ 0) ρ).bind dItems) (hTup2 1 2) (fun _ => some true) (fun ρ => (shortL (aCons (fun ρ => vAt ρ 2) (aCons (fun ρ => vAt ρ 1) aNil)) ρ).map .tuple) [1, 2]) ρ).map .list))
def F_turned : List D → Option D := runF 1 3 g_turned
section
variable {P : Program} {w : World} {K : PySem.W.Frag} {mg : Str → Option Value} {base : Heap}
theorem b_turned (T : Tx mg) : BodyOk P w K mg base N_turned "turned" s_turned 0 g_turned := by
  intro f cdv A outer s H E hr
  exact (dss_one (ds_ret (DL.de' (dl_lc rfl sc_turned.nd (di_seq (de_var 0)) (blkOk_by (own := [("one", 1), ("other", 2)]) (N := N_turned) (sc := defScope s_turned) (by decide +kernel)) (fun _ _ _ _ _ => (dg_tup2 (i := 1) (j := 2) rfl sc_turned.nd)) (fun _ _ _ _ _ => dp_nil) (fun _ _ _ _ _ => (de_tup (da_cons (de_var 2) (da_cons (de_var 1) da_nil))))))))
end

abbrev s_closed_in : Stmt := topS 16
abbrev N_closed_in : List Str := ["rule", "lot", "backs", "found", "area", "_", "own"]
theorem sc_closed_in : FnScope N_closed_in ["rule", "lot"] (defScope s_closed_in) := ⟨rfl, rfl, rfl, by decide +kernel, rfl, by decide +kernel, by decide +kernel⟩
def g_closed_in : Rho → Option Out := (oSeq (oSet 2 (cV (fun ρ => ((aCons (fun ρ => ((aCons (fun ρ => vAt ρ 0) (aCons (fun ρ => vAt ρ 1) aNil)) ρ).bind F_leads_in) aNil) ρ).bind F_turned)))
    (oSeq (oSet 3 (mkV (compD (fun ρ => ((fun ρ => vAt ρ 1) ρ).bind dItems) (hName 4) (fun _ => some true) (fun ρ => ((aCons (fun ρ => vAt ρ 2) (aCons (fun ρ => vAt ρ 4) aNil)) ρ).bind F_flooded) [4])))
    (oRet (fun ρ => ((compD (fun ρ => ((fun ρ => ((fun ρ => ((fun ρ => ((compD (fun ρ => ((fun ρ => vAt ρ 3) ρ).bind dItems) (hName 6) (fun _ => some true) (fun ρ => (shortL (aCons (fun ρ => ((fun ρ => vAt ρ 6) ρ).bind dLen) (aCons (fun ρ => vAt ρ 6) aNil)) ρ).map .tuple) [6]) ρ).map .list) ρ).bind dSortSetN) ρ).map .list) ρ).bind dItems) (hTup2 5 6) (fun _ => some true) (fun ρ => vAt ρ 6) [5, 6]) ρ).map .list))))
def F_closed_in : List D → Option D := runF 2 7 g_closed_in
section
variable {P : Program} {w : World} {K : PySem.W.Frag} {mg : Str → Option Value} {base : Heap}
theorem b_closed_in (T : Tx mg) (G_turned : DefD P w K mg base "turned" 1 F_turned) (G_leads_in : DefD P w K mg base "leads_in" 8 F_leads_in) (G_flooded : DefD P w K mg base "flooded" 1 F_flooded) : BodyOk P w K mg base N_closed_in "closed_in" s_closed_in 8 g_closed_in := by
  intro f cdv A outer s H E hr
  exact (dss_cons (ds_set (i := 2) sc_closed_in.nd (dc_v (de_call G_turned (hr.mono (by omega)) rfl (da_cons (de_call G_leads_in (hr.mono (by omega)) rfl (da_cons (de_var 0) (da_cons (de_var 1) da_nil))) da_nil))))
    (dss_cons (ds_setLc (i := 3) mkV (Or.inr rfl) rfl sc_closed_in.nd (di_seq (de_var 1)) (blkOk_by (own := [("area", 4)]) (N := N_closed_in) (sc := defScope s_closed_in) (by decide +kernel)) (fun _ _ _ _ _ => (dg_name (i := 4) sc_closed_in.nd)) (fun _ _ _ _ _ => dp_nil) (fun _ _ _ _ _ => (de_call G_flooded (hr.mono (by omega)) rfl (da_cons (de_var 2) (da_cons (de_var 4) da_nil)))))
    (dss_one (ds_ret (DL.de' (dl_lc rfl sc_closed_in.nd (di_seq (DL.de' (dl_sortSetN rfl hr rfl T.sorted rfl T.set (DL.db (dl_lc rfl sc_closed_in.nd (di_seq (de_var 3)) (blkOk_by (own := [("own", 6)]) (N := N_closed_in) (sc := defScope s_closed_in) (by decide +kernel)) (fun _ _ _ _ _ => (dg_name (i := 6) sc_closed_in.nd)) (fun _ _ _ _ _ => dp_nil) (fun _ _ _ _ _ => (de_tup (da_cons (de_B1 call_len_seq ca_len PySem.boot_len rfl T.len (DE.db (de_var 6))) (da_cons (de_var 6) da_nil))))))))) (blkOk_by (own := [("_", 5), ("own", 6)]) (N := N_closed_in) (sc := defScope s_closed_in) (by decide +kernel)) (fun _ _ _ _ _ => (dg_tup2 (i := 5) (j := 6) rfl sc_closed_in.nd)) (fun _ _ _ _ _ => dp_nil) (fun _ _ _ _ _ => (de_var 6))))))))
end

abbrev s_first_lot : Stmt := topS 17
abbrev N_first_lot : List Str := ["rule", "lot"]
theorem sc_first_lot : FnScope N_first_lot ["rule", "lot"] (defScope s_first_lot) := ⟨rfl, rfl, rfl, by decide +kernel, rfl, by decide +kernel, by decide +kernel⟩
def g_first_lot : Rho → Option Out := (oRet (do2 dIx (fun ρ => ((aCons (fun ρ => vAt ρ 0) (aCons (fun ρ => vAt ρ 1) aNil)) ρ).bind F_closed_in) (fun _ => some (.int 0))))
def F_first_lot : List D → Option D := runF 2 2 g_first_lot
section
variable {P : Program} {w : World} {K : PySem.W.Frag} {mg : Str → Option Value} {base : Heap}
theorem b_first_lot (T : Tx mg) (G_closed_in : DefD P w K mg base "closed_in" 9 F_closed_in) : BodyOk P w K mg base N_first_lot "first_lot" s_first_lot 9 g_first_lot := by
  intro f cdv A outer s H E hr
  exact (dss_one (ds_ret (de_ix (DE.db (de_call G_closed_in (hr.mono (by omega)) rfl (da_cons (de_var 0) (da_cons (de_var 1) da_nil)))) (DE.db de_int))))
end

abbrev s_chain_in : Stmt := topS 19
abbrev N_chain_in : List Str := ["rule", "lot", "found", "left", "first", "area"]
theorem sc_chain_in : FnScope N_chain_in ["rule", "lot"] (defScope s_chain_in) := ⟨rfl, rfl, rfl, by decide +kernel, rfl, by decide +kernel, by decide +kernel⟩
def g_chain_in : Rho → Option Out := (oSeq (oPar 2 3 (cO (shortL aNil)) (cV (fun ρ => ((aCons (fun ρ => vAt ρ 1) aNil) ρ).bind F_tuple_of)))
    (oSeq (whileGo (fun ρ => ((do2 dNe (fun ρ => vAt ρ 3) (fun ρ => (shortL aNil ρ).map .tuple)) ρ).bind asB) (oSeq (oSet 4 (cV (fun ρ => ((aCons (fun ρ => vAt ρ 0) (aCons (fun ρ => vAt ρ 3) aNil)) ρ).bind F_first_lot)))
    (oSeq (oApp 2 (fun ρ => vAt ρ 4))
    (oSet 3 (cV (fun ρ => ((fun ρ => ((compD (fun ρ => ((fun ρ => vAt ρ 3) ρ).bind dItems) (hName 5) (fun ρ => ((do2 dNotIn (fun ρ => vAt ρ 5) (fun ρ => vAt ρ 4)) ρ).bind asB) (fun ρ => vAt ρ 5) [5]) ρ).map .list) ρ).bind dTuple))))) 1000)
    (oRet (fun ρ => ((fun ρ => bAt ρ 2) ρ).bind dTuple))))
def F_chain_in : List D → Option D := runF 2 6 g_chain_in
section
variable {P : Program} {w : World} {K : PySem.W.Frag} {mg : Str → Option Value} {base : Heap}
theorem b_chain_in (T : Tx mg) (G_tuple_of : DefD P w K mg base "tuple_of" 6 F_tuple_of) (G_first_lot : DefD P w K mg base "first_lot" 10 F_first_lot) : BodyOk P w K mg base N_chain_in "chain_in" s_chain_in 10 g_chain_in := by
  intro f cdv A outer s H E hr
  exact (dss_cons (ds_par (i := 2) (j := 3) rfl sc_chain_in.nd (dc_o (dl_lst da_nil)) (dc_v (de_call G_tuple_of (hr.mono (by omega)) rfl (da_cons (de_var 1) da_nil))))
    (dss_cons (ds_while 1000 PassesOwn.never (dT_ne hr.units (DE.db (de_var 3)) (DE.db (de_tup da_nil))) (dss_cons (ds_set (i := 4) sc_chain_in.nd (dc_v (de_call G_first_lot (hr.mono (by omega)) rfl (da_cons (de_var 0) (da_cons (de_var 3) da_nil)))))
    (dss_cons (ds_app (k := 2) (de_var 4))
    (dss_one (ds_set (i := 3) sc_chain_in.nd (dc_v (de_T1 call_tuple_of ca_tuple (by decide +kernel) rfl T.tuple (DL.db (dl_lc rfl sc_chain_in.nd (di_seq (de_var 3)) (blkOk_by (own := [("area", 5)]) (N := N_chain_in) (sc := defScope s_chain_in) (by decide +kernel)) (fun _ _ _ _ _ => (dg_name (i := 5) sc_chain_in.nd)) (fun _ _ _ _ _ => (dp_one (dT_notin (room65 hr) (DE.db (de_var 5)) (DE.db (de_var 4))))) (fun _ _ _ _ _ => (de_var 5)))))))))))
    (dss_one (ds_ret (de_T1 call_tuple_of ca_tuple (by decide +kernel) rfl T.tuple (db_var 2))))))
end

abbrev s_chain_of : Stmt := topS 20
abbrev N_chain_of : List Str := ["rule"]
theorem sc_chain_of : FnScope N_chain_of ["rule"] (defScope s_chain_of) := ⟨rfl, rfl, rfl, by decide +kernel, rfl, by decide +kernel, by decide +kernel⟩
def g_chain_of : Rho → Option Out := (oRet (fun ρ => ((aCons (fun ρ => vAt ρ 0) (aCons (fun ρ => ((aCons (fun ρ => vAt ρ 0) aNil) ρ).bind F_all_areas) aNil)) ρ).bind F_chain_in))
def F_chain_of : List D → Option D := runF 1 1 g_chain_of
section
variable {P : Program} {w : World} {K : PySem.W.Frag} {mg : Str → Option Value} {base : Heap}
theorem b_chain_of (T : Tx mg) (G_chain_in : DefD P w K mg base "chain_in" 11 F_chain_in) (G_all_areas : DefD P w K mg base "all_areas" 1 F_all_areas) : BodyOk P w K mg base N_chain_of "chain_of" s_chain_of 11 g_chain_of := by
  intro f cdv A outer s H E hr
  exact (dss_one (ds_ret (de_call G_chain_in (hr.mono (by omega)) rfl (da_cons (de_var 0) (da_cons (de_call G_all_areas (hr.mono (by omega)) rfl (da_cons (de_var 0) da_nil)) da_nil)))))
end

abbrev s_is_within : Stmt := topS 22
abbrev N_is_within : List Str := ["lot", "other", "area"]
theorem sc_is_within : FnScope N_is_within ["lot", "other"] (defScope s_is_within) := ⟨rfl, rfl, rfl, by decide +kernel, rfl, by decide +kernel, by decide +kernel⟩
def g_is_within : Rho → Option Out := (oRet (fun ρ => ((fun ρ => ((compD (fun ρ => ((fun ρ => vAt ρ 0) ρ).bind dItems) (hName 2) (fun _ => some true) (do2 dIn (fun ρ => vAt ρ 2) (fun ρ => vAt ρ 1)) [2]) ρ).map .list) ρ).bind dAll))
def F_is_within : List D → Option D := runF 2 3 g_is_within
section
variable {P : Program} {w : World} {K : PySem.W.Frag} {mg : Str → Option Value} {base : Heap}
theorem b_is_within (T : Tx mg) : BodyOk P w K mg base N_is_within "is_within" s_is_within 0 g_is_within := by
  intro f cdv A outer s H E hr
  exact (dss_one (ds_ret (de_B1 (cr_all rfl) ca_all (by decide +kernel) rfl T.all (DL.db (dl_lc rfl sc_is_within.nd (di_seq (de_var 0)) (blkOk_by (own := [("area", 2)]) (N := N_is_within) (sc := defScope s_is_within) (by decide +kernel)) (fun _ _ _ _ _ => (dg_name (i := 2) sc_is_within.nd)) (fun _ _ _ _ _ => dp_nil) (fun _ _ _ _ _ => (de_in (room65 hr) (DE.db (de_var 2)) (DE.db (de_var 1)))))))))
end

abbrev s_is_course : Stmt := topS 24
abbrev N_is_course : List Str := ["thing", "m", "own"]
theorem sc_is_course : FnScope N_is_course ["thing", "m"] (defScope s_is_course) := ⟨rfl, rfl, rfl, by decide +kernel, rfl, by decide +kernel, by decide +kernel⟩
def g_is_course : Rho → Option Out := (oRet (dAndV (fun ρ => ((fun ρ => vAt ρ 0) ρ).bind (isiD "tuple")) (dAndV (do2 dNe (fun ρ => vAt ρ 0) (fun ρ => (shortL aNil ρ).map .tuple)) (fun ρ => ((fun ρ => ((compD (fun ρ => ((fun ρ => vAt ρ 0) ρ).bind dItems) (hName 2) (fun _ => some true) (fun ρ => ((aCons (fun ρ => vAt ρ 2) (aCons (fun ρ => vAt ρ 1) aNil)) ρ).bind F_is_lot) [2]) ρ).map .list) ρ).bind dAll))))
def F_is_course : List D → Option D := runF 2 3 g_is_course
section
variable {P : Program} {w : World} {K : PySem.W.Frag} {mg : Str → Option Value} {base : Heap}
theorem b_is_course (T : Tx mg) (G_is_lot : DefD P w K mg base "is_lot" 3 F_is_lot) : BodyOk P w K mg base N_is_course "is_course" s_is_course 3 g_is_course := by
  intro f cdv A outer s H E hr
  exact (dss_one (ds_ret (de_and (de_isi "tuple" (by decide +kernel) rfl T.isinstance rfl T.tuple (DE.db (de_var 0))) (de_and (de_ne hr.units (DE.db (de_var 0)) (DE.db (de_tup da_nil))) (de_one (de_B1 (cr_all rfl) ca_all (by decide +kernel) rfl T.all (DL.db (dl_lc rfl sc_is_course.nd (di_seq (de_var 0)) (blkOk_by (own := [("own", 2)]) (N := N_is_course) (sc := defScope s_is_course) (by decide +kernel)) (fun _ _ _ _ _ => (dg_name (i := 2) sc_is_course.nd)) (fun _ _ _ _ _ => dp_nil) (fun _ _ _ _ _ => (de_call G_is_lot (hr.mono (by omega)) rfl (da_cons (de_var 2) (da_cons (de_var 1) da_nil))))))))))))
end

abbrev s_less : Stmt := topS 26
abbrev N_less : List Str := ["lot", "inner", "area"]
theorem sc_less : FnScope N_less ["lot", "inner"] (defScope s_less) := ⟨rfl, rfl, rfl, by decide +kernel, rfl, by decide +kernel, by decide +kernel⟩
def g_less : Rho → Option Out := (oRet (fun ρ => ((fun ρ => ((compD (fun ρ => ((fun ρ => vAt ρ 0) ρ).bind dItems) (hName 2) (fun ρ => ((do2 dNotIn (fun ρ => vAt ρ 2) (fun ρ => vAt ρ 1)) ρ).bind asB) (fun ρ => vAt ρ 2) [2]) ρ).map .list) ρ).bind dTuple))
def F_less : List D → Option D := runF 2 3 g_less
section
variable {P : Program} {w : World} {K : PySem.W.Frag} {mg : Str → Option Value} {base : Heap}
theorem b_less (T : Tx mg) : BodyOk P w K mg base N_less "less" s_less 0 g_less := by
  intro f cdv A outer s H E hr
  exact (dss_one (ds_ret (de_T1 call_tuple_of ca_tuple (by decide +kernel) rfl T.tuple (DL.db (dl_lc rfl sc_less.nd (di_seq (de_var 0)) (blkOk_by (own := [("area", 2)]) (N := N_less) (sc := defScope s_less) (by decide +kernel)) (fun _ _ _ _ _ => (dg_name (i := 2) sc_less.nd)) (fun _ _ _ _ _ => (dp_one (dT_notin (room65 hr) (DE.db (de_var 2)) (DE.db (de_var 1))))) (fun _ _ _ _ _ => (de_var 2)))))))
end

abbrev s_lies_in : Stmt := topS 27
abbrev N_lies_in : List Str := ["lot", "course", "own"]
theorem sc_lies_in : FnScope N_lies_in ["lot", "course"] (defScope s_lies_in) := ⟨rfl, rfl, rfl, by decide +kernel, rfl, by decide +kernel, by decide +kernel⟩
def g_lies_in : Rho → Option Out := (oRet (fun ρ => ((fun ρ => ((compD (fun ρ => ((fun ρ => vAt ρ 1) ρ).bind dItems) (hName 2) (fun _ => some true) (do2 dEq (fun ρ => ((fun ρ => ((aCons (fun ρ => vAt ρ 0) (aCons (fun ρ => vAt ρ 2) aNil)) ρ).bind F_less) ρ).bind dLen) (fun _ => some (.int 0))) [2]) ρ).map .list) ρ).bind dAny))
def F_lies_in : List D → Option D := runF 2 3 g_lies_in
section
variable {P : Program} {w : World} {K : PySem.W.Frag} {mg : Str → Option Value} {base : Heap}
theorem b_lies_in (T : Tx mg) (G_less : DefD P w K mg base "less" 1 F_less) : BodyOk P w K mg base N_lies_in "lies_in" s_lies_in 1 g_lies_in := by
  intro f cdv A outer s H E hr
  exact (dss_one (ds_ret (de_B1 (cr_any rfl) ca_any (by decide +kernel) rfl T.any (DL.db (dl_lc rfl sc_lies_in.nd (di_seq (de_var 1)) (blkOk_by (own := [("own", 2)]) (N := N_lies_in) (sc := defScope s_lies_in) (by decide +kernel)) (fun _ _ _ _ _ => (dg_name (i := 2) sc_lies_in.nd)) (fun _ _ _ _ _ => dp_nil) (fun _ _ _ _ _ => (de_eq hr.units (DE.db (de_B1 call_len_seq ca_len PySem.boot_len rfl T.len (DE.db (de_call G_less (hr.mono (by omega)) rfl (da_cons (de_var 0) (da_cons (de_var 2) da_nil)))))) (DE.db de_int))))))))
end

abbrev s_frees_all : Stmt := topS 29
abbrev N_frees_all : List Str := ["rule", "course", "lot"]
theorem sc_frees_all : FnScope N_frees_all ["rule", "course"] (defScope s_frees_all) := ⟨rfl, rfl, rfl, by decide +kernel, rfl, by decide +kernel, by decide +kernel⟩
def g_frees_all : Rho → Option Out := (oRet (fun ρ => ((fun ρ => ((compD (fun ρ => ((fun ρ => ((aCons (fun ρ => vAt ρ 0) aNil) ρ).bind F_chain_of) ρ).bind dItems) (hName 2) (fun _ => some true) (fun ρ => ((aCons (fun ρ => vAt ρ 2) (aCons (fun ρ => vAt ρ 1) aNil)) ρ).bind F_lies_in) [2]) ρ).map .list) ρ).bind dAll))
def F_frees_all : List D → Option D := runF 2 3 g_frees_all
section
variable {P : Program} {w : World} {K : PySem.W.Frag} {mg : Str → Option Value} {base : Heap}
theorem b_frees_all (T : Tx mg) (G_chain_of : DefD P w K mg base "chain_of" 12 F_chain_of) (G_lies_in : DefD P w K mg base "lies_in" 2 F_lies_in) : BodyOk P w K mg base N_frees_all "frees_all" s_frees_all 12 g_frees_all := by
  intro f cdv A outer s H E hr
  exact (dss_one (ds_ret (de_B1 (cr_all rfl) ca_all (by decide +kernel) rfl T.all (DL.db (dl_lc rfl sc_frees_all.nd (di_seq (de_call G_chain_of (hr.mono (by omega)) rfl (da_cons (de_var 0) da_nil))) (blkOk_by (own := [("lot", 2)]) (N := N_frees_all) (sc := defScope s_frees_all) (by decide +kernel)) (fun _ _ _ _ _ => (dg_name (i := 2) sc_frees_all.nd)) (fun _ _ _ _ _ => dp_nil) (fun _ _ _ _ _ => (de_call G_lies_in (hr.mono (by omega)) rfl (da_cons (de_var 2) (da_cons (de_var 1) da_nil)))))))))
end

abbrev s_demands : Stmt := topS 30
abbrev N_demands : List Str := ["rules", "found", "rule", "lot", "far"]
theorem sc_demands : FnScope N_demands ["rules"] (defScope s_demands) := ⟨rfl, rfl, rfl, by decide +kernel, rfl, by decide +kernel, by decide +kernel⟩
def g_demands : Rho → Option Out := (oSeq (oSet 1 (cV (fun ρ => ((fun ρ => ((fun ρ => ((comp2D (fun ρ => ((fun ρ => vAt ρ 0) ρ).bind dItems) (hName 2) (fun ρ => ((fun ρ => ((aCons (fun ρ => vAt ρ 2) aNil) ρ).bind F_chain_of) ρ).bind dItems) [3] (hName 3) (fun ρ => vAt ρ 3) [2, 3]) ρ).map .list) ρ).bind dSortSet) ρ).map .list)))
    (oRet (fun ρ => ((fun ρ => ((compD (fun ρ => ((fun ρ => vAt ρ 1) ρ).bind dItems) (hName 3) (bNot (fun ρ => ((fun ρ => ((aCons (fun ρ => vAt ρ 3) (aCons (fun ρ => ((compD (fun ρ => ((fun ρ => vAt ρ 1) ρ).bind dItems) (hName 4) (fun ρ => ((do2 dNe (fun ρ => vAt ρ 4) (fun ρ => vAt ρ 3)) ρ).bind asB) (fun ρ => vAt ρ 4) [4]) ρ).map .list) aNil)) ρ).bind F_lies_in) ρ).bind asB)) (fun ρ => vAt ρ 3) [3]) ρ).map .list) ρ).bind dTuple)))
def F_demands : List D → Option D := runF 1 5 g_demands
section
variable {P : Program} {w : World} {K : PySem.W.Frag} {mg : Str → Option Value} {base : Heap}
theorem b_demands (T : Tx mg) (G_chain_of : DefD P w K mg base "chain_of" 12 F_chain_of) (G_lies_in : DefD P w K mg base "lies_in" 2 F_lies_in) : BodyOk P w K mg base N_demands "demands" s_demands 12 g_demands := by
  intro f cdv A outer s H E hr
  exact (dss_cons (ds_set (i := 1) sc_demands.nd (dc_v (DL.de' (dl_sortSet rfl hr rfl T.sorted rfl T.set (DL.db (dl_lc2 (vs1 := [3]) rfl sc_demands.nd (di_seq (de_var 0)) (blkOk_by (own := [("rule", 2), ("lot", 3)]) (N := N_demands) (sc := defScope s_demands) (by decide +kernel)) (by decide) (fun _ _ _ _ _ => (dg_name (i := 2) sc_demands.nd)) (fun _ _ _ _ _ => (di_seq (de_call G_chain_of (hr.mono (by omega)) rfl (da_cons (de_var 2) da_nil)))) (fun _ _ _ _ _ => (dg_name (i := 3) sc_demands.nd)) (fun _ _ _ _ _ => (de_var 3))))))))
    (dss_one (ds_ret (de_T1 call_tuple_of ca_tuple (by decide +kernel) rfl T.tuple (DL.db (dl_lc rfl sc_demands.nd (di_seq (de_var 1)) (blkOk_by (own := [("lot", 3)]) (N := N_demands) (sc := defScope s_demands) (by decide +kernel)) (fun _ _ _ _ _ => (dg_name (i := 3) sc_demands.nd)) (fun _ _ _ _ _ => (dp_one (dT_not (dT_val (de_call G_lies_in (hr.mono (by omega)) rfl (da_cons (de_var 3) (da_cons (DL.de' (dl_lc rfl sc_demands.nd (di_seq (de_var 1)) (blkOk_by (own := [("far", 4)]) (N := N_demands) (sc := relS (scopeOf ((kid ((skid ((defBody s_demands).getD 1 (.Pass ⟨0, 0, 0, 0⟩)) 0)) 0))) (defScope s_demands)) (by decide +kernel)) (fun _ _ _ _ _ => (dg_name (i := 4) sc_demands.nd)) (fun _ _ _ _ _ => (dp_one (dT_ne hr.units (DE.db (de_var 4)) (DE.db (de_var 3))))) (fun _ _ _ _ _ => (de_var 4)))) da_nil))))))) (fun _ _ _ _ _ => (de_var 3))))))))
end

abbrev s_fewest_lots : Stmt := topS 31
abbrev N_fewest_lots : List Str := ["wanted", "areas", "most", "goods", "met", "now", "lot", "later", "row", "left", "rest", "own"]
theorem sc_fewest_lots : FnScope N_fewest_lots ["wanted", "areas", "most"] (defScope s_fewest_lots) := ⟨rfl, rfl, rfl, by decide +kernel, rfl, by decide +kernel, by decide +kernel⟩
def g_fewest_lots : Rho → Option Out := (oSeq (oPar3 3 4 5 (cV (fun ρ => ((compD (fun ρ => ((fun ρ => ((aCons (fun ρ => vAt ρ 1) aNil) ρ).bind F_lots_within) ρ).bind dItems) (hName 6) (fun ρ => ((do2 dLe (fun ρ => ((fun ρ => vAt ρ 6) ρ).bind dLen) (fun ρ => vAt ρ 2)) ρ).bind asB) (fun ρ => vAt ρ 6) [6]) ρ).map .list)) cDct (cV (fun ρ => ((shortL (aCons (fun ρ => (shortL (aCons (fun ρ => (shortL aNil ρ).map .tuple) (aCons (fun ρ => ((fun ρ => vAt ρ 0) ρ).bind dTuple) aNil)) ρ).map .tuple) aNil)) ρ).map .list)))
    (oSeq (whileGo (fun ρ => ((do2 dGt (fun ρ => ((fun ρ => vAt ρ 5) ρ).bind dLen) (fun _ => some (.int 0))) ρ).bind asB) (oSeq (oSet 7 (cO (shortL aNil)))
    (oSeq (oFor (fun ρ => ((fun ρ => vAt ρ 5) ρ).bind dItems) (hTup2 8 9) (oSeq (oIf (fun ρ => ((do2 dEq (fun ρ => ((fun ρ => vAt ρ 9) ρ).bind dLen) (fun _ => some (.int 0))) ρ).bind asB) (oRet (fun ρ => vAt ρ 8)) oNext)
    (oFor (fun ρ => ((fun ρ => vAt ρ 3) ρ).bind dItems) (hName 6) (oSeq (oSet 10 (cV (fun ρ => ((fun ρ => ((compD (fun ρ => ((fun ρ => vAt ρ 9) ρ).bind dItems) (hName 11) (bNot (fun ρ => ((fun ρ => ((aCons (fun ρ => vAt ρ 11) (aCons (fun ρ => vAt ρ 6) aNil)) ρ).bind F_is_within) ρ).bind asB)) (fun ρ => vAt ρ 11) [11]) ρ).map .list) ρ).bind dTuple)))
    (oIf (bAnd (fun ρ => ((fun ρ => ((aCons (do2 dIx (fun ρ => vAt ρ 9) (fun _ => some (.int 0))) (aCons (fun ρ => vAt ρ 6) aNil)) ρ).bind F_is_within) ρ).bind asB) (bNotK 4 (fun ρ => vAt ρ 10))) (oSeq (oDput 4 (fun ρ => vAt ρ 10))
    (oApp 7 (fun ρ => (shortL (aCons (fun ρ => (shortL (aStar (fun ρ => vAt ρ 8) (aCons (fun ρ => vAt ρ 6) aNil)) ρ).map .tuple) (aCons (fun ρ => vAt ρ 10) aNil)) ρ).map .tuple))) oNext)))))
    (fun ρ => (oSet 5 (cV (fun ρ => vAt ρ 7))) (frz ρ 7)))) 1000)
    (oRet (fun _ => some .none))))
def F_fewest_lots : List D → Option D := runF 3 12 g_fewest_lots
section
variable {P : Program} {w : World} {K : PySem.W.Frag} {mg : Str → Option Value} {base : Heap}
theorem b_fewest_lots (T : Tx mg) (G_lots_within : DefD P w K mg base "lots_within" 1 F_lots_within) (G_is_within : DefD P w K mg base "is_within" 1 F_is_within) : BodyOk P w K mg base N_fewest_lots "fewest_lots" s_fewest_lots 1 g_fewest_lots := by
  intro f cdv A outer s H E hr
  exact (dss_cons (ds_par3 (i := 3) (j := 4) (l := 5) rfl sc_fewest_lots.nd (dc_v (DL.de' (dl_lc rfl sc_fewest_lots.nd (di_seq (de_call G_lots_within (hr.mono (by omega)) rfl (da_cons (de_var 1) da_nil))) (blkOk_by (own := [("lot", 6)]) (N := N_fewest_lots) (sc := defScope s_fewest_lots) (by decide +kernel)) (fun _ _ _ _ _ => (dg_name (i := 6) sc_fewest_lots.nd)) (fun _ _ _ _ _ => (dp_one (dT_le (DE.db (de_B1 call_len_seq ca_len PySem.boot_len rfl T.len (DE.db (de_var 6)))) (DE.db (de_var 2))))) (fun _ _ _ _ _ => (de_var 6))))) dc_dct (dc_v (DL.de' (dl_lst (da_cons (de_tup (da_cons (de_tup da_nil) (da_cons (de_T1 call_tuple_of ca_tuple (by decide +kernel) rfl T.tuple (DE.db (de_var 0))) da_nil))) da_nil)))))
    (dss_cons (ds_while 1000 PassesOwn.never (dT_gt (DE.db (de_B1 call_len_seq ca_len PySem.boot_len rfl T.len (DE.db (de_var 5)))) (DE.db de_int)) (dss_cons (ds_set (i := 7) sc_fewest_lots.nd (dc_o (dl_lst da_nil)))
    (dss_cons (ds_for PassesOwn.never rfl (di_seq (de_var 5)) (dg_tup2 (i := 8) (j := 9) rfl sc_fewest_lots.nd) (dss_cons (ds_if (dT_eq hr.units (DE.db (de_B1 call_len_seq ca_len PySem.boot_len rfl T.len (DE.db (de_var 9)))) (DE.db de_int)) (dss_one (ds_ret (de_var 8))) dss_nil)
    (dss_one (ds_for PassesOwn.never rfl (di_seq (de_var 3)) (dg_name (i := 6) sc_fewest_lots.nd) (dss_cons (ds_set (i := 10) sc_fewest_lots.nd (dc_v (de_T1 call_tuple_of ca_tuple (by decide +kernel) rfl T.tuple (DL.db (dl_lc rfl sc_fewest_lots.nd (di_seq (de_var 9)) (blkOk_by (own := [("own", 11)]) (N := N_fewest_lots) (sc := defScope s_fewest_lots) (by decide +kernel)) (fun _ _ _ _ _ => (dg_name (i := 11) sc_fewest_lots.nd)) (fun _ _ _ _ _ => (dp_one (dT_not (dT_val (de_call G_is_within (hr.mono (by omega)) rfl (da_cons (de_var 11) (da_cons (de_var 6) da_nil))))))) (fun _ _ _ _ _ => (de_var 11)))))))
    (dss_one (ds_if (DW.dt (dW_and (dT_val (de_call G_is_within (hr.mono (by omega)) rfl (da_cons (de_ix (DE.db (de_var 9)) (DE.db de_int)) (da_cons (de_var 6) da_nil)))) (dW_and1 (dT_notK (k := 4) hr (de_var 10))))) (dss_cons (ds_dput (k := 4) hr (de_var 10))
    (dss_one (ds_app (k := 7) (de_tup (da_cons (de_tup (da_star (de_var 8) (da_cons (de_var 6) da_nil))) (da_cons (de_var 10) da_nil)))))) dss_nil)))))))
    (dss_one (ds_frz 7 (ds_set (i := 5) sc_fewest_lots.nd (dc_v (de_var 7))))))))
    (dss_one (ds_ret de_non))))
end

end GY
set_option Elab.async false
set_option linter.all false
set_option maxRecDepth 100000
set_option maxHeartbeats 4000000
namespace GY
open PySem PySem.Spec PyProof.Rows L2
abbrev s_is_fewest_course : Stmt := topS 33
abbrev N_is_fewest_course : List Str := ["rules", "most", "thing", "areas", "found", "lot", "rule"]
theorem sc_is_fewest_course : FnScope N_is_fewest_course ["rules", "most", "thing"] (defScope s_is_fewest_course) := ⟨rfl, rfl, rfl, by decide +kernel, rfl, by decide +kernel, by decide +kernel⟩
def g_is_fewest_course : Rho → Option Out := (oSeq (oSet 3 (cV (fun ρ => ((aCons (do2 dIx (fun ρ => vAt ρ 0) (fun _ => some (.int 0))) aNil) ρ).bind F_all_areas)))
    (oSeq (oSet 4 (cV (fun ρ => ((aCons (fun ρ => ((aCons (fun ρ => vAt ρ 0) aNil) ρ).bind F_demands) (aCons (fun ρ => vAt ρ 3) (aCons (fun ρ => vAt ρ 1) aNil))) ρ).bind F_fewest_lots)))
    (oSeq (oIf (bOr (fun ρ => ((do2 dIsN (fun ρ => vAt ρ 4) (fun _ => some .none)) ρ).bind asB) (bOr (bNot (fun ρ => ((fun ρ => ((aCons (fun ρ => vAt ρ 2) (aCons (fun ρ => ((fun ρ => vAt ρ 3) ρ).bind dLen) aNil)) ρ).bind F_is_course) ρ).bind asB)) (fun ρ => ((do2 dNe (fun ρ => ((fun ρ => vAt ρ 2) ρ).bind dLen) (fun ρ => ((fun ρ => vAt ρ 4) ρ).bind dLen)) ρ).bind asB))) (oRet (fun _ => some (.bool false))) oNext)
    (oRet (dAndV (fun ρ => ((fun ρ => ((compD (fun ρ => ((fun ρ => vAt ρ 2) ρ).bind dItems) (hName 5) (fun _ => some true) (do2 dLe (fun ρ => ((fun ρ => vAt ρ 5) ρ).bind dLen) (fun ρ => vAt ρ 1)) [5]) ρ).map .list) ρ).bind dAll) (fun ρ => ((fun ρ => ((compD (fun ρ => ((fun ρ => vAt ρ 0) ρ).bind dItems) (hName 6) (fun _ => some true) (fun ρ => ((aCons (fun ρ => vAt ρ 6) (aCons (fun ρ => vAt ρ 2) aNil)) ρ).bind F_frees_all) [6]) ρ).map .list) ρ).bind dAll))))))
def F_is_fewest_course : List D → Option D := runF 3 7 g_is_fewest_course
section
variable {P : Program} {w : World} {K : PySem.W.Frag} {mg : Str → Option Value} {base : Heap}
theorem b_is_fewest_course (T : Tx mg) (G_all_areas : DefD P w K mg base "all_areas" 1 F_all_areas) (G_fewest_lots : DefD P w K mg base "fewest_lots" 2 F_fewest_lots) (G_demands : DefD P w K mg base "demands" 13 F_demands) (G_is_course : DefD P w K mg base "is_course" 4 F_is_course) (G_frees_all : DefD P w K mg base "frees_all" 13 F_frees_all) : BodyOk P w K mg base N_is_fewest_course "is_fewest_course" s_is_fewest_course 13 g_is_fewest_course := by
  intro f cdv A outer s H E hr
  exact (dss_cons (ds_set (i := 3) sc_is_fewest_course.nd (dc_v (de_call G_all_areas (hr.mono (by omega)) rfl (da_cons (de_ix (DE.db (de_var 0)) (DE.db de_int)) da_nil))))
    (dss_cons (ds_set (i := 4) sc_is_fewest_course.nd (dc_v (de_call G_fewest_lots (hr.mono (by omega)) rfl (da_cons (de_call G_demands (hr.mono (by omega)) rfl (da_cons (de_var 0) da_nil)) (da_cons (de_var 3) (da_cons (de_var 1) da_nil))))))
    (dss_cons (ds_if (DW.dt (dW_or (dT_is (DE.db (de_var 4)) (DE.db de_non)) (dW_or (dT_not (dT_val (de_call G_is_course (hr.mono (by omega)) rfl (da_cons (de_var 2) (da_cons (de_B1 call_len_seq ca_len PySem.boot_len rfl T.len (DE.db (de_var 3))) da_nil))))) (dW_or1 (dT_ne hr.units (DE.db (de_B1 call_len_seq ca_len PySem.boot_len rfl T.len (DE.db (de_var 2)))) (DE.db (de_B1 call_len_seq ca_len PySem.boot_len rfl T.len (DE.db (de_var 4))))))))) (dss_one (ds_ret de_bl)) dss_nil)
    (dss_one (ds_ret (de_and (de_B1 (cr_all rfl) ca_all (by decide +kernel) rfl T.all (DL.db (dl_lc rfl sc_is_fewest_course.nd (di_seq (de_var 2)) (blkOk_by (own := [("lot", 5)]) (N := N_is_fewest_course) (sc := defScope s_is_fewest_course) (by decide +kernel)) (fun _ _ _ _ _ => (dg_name (i := 5) sc_is_fewest_course.nd)) (fun _ _ _ _ _ => dp_nil) (fun _ _ _ _ _ => (de_le (DE.db (de_B1 call_len_seq ca_len PySem.boot_len rfl T.len (DE.db (de_var 5)))) (DE.db (de_var 1))))))) (de_one (de_B1 (cr_all rfl) ca_all (by decide +kernel) rfl T.all (DL.db (dl_lc rfl sc_is_fewest_course.nd (di_seq (de_var 0)) (blkOk_by (own := [("rule", 6)]) (N := N_is_fewest_course) (sc := defScope s_is_fewest_course) (by decide +kernel)) (fun _ _ _ _ _ => (dg_name (i := 6) sc_is_fewest_course.nd)) (fun _ _ _ _ _ => dp_nil) (fun _ _ _ _ _ => (de_call G_frees_all (hr.mono (by omega)) rfl (da_cons (de_var 6) (da_cons (de_var 2) da_nil))))))))))))))
end

abbrev s_law_lists : Stmt := topS 40
abbrev N_law_lists : List Str := ["_law_matter", "_law_bit"]
theorem sc_law_lists : FnScope N_law_lists ["_law_matter"] (defScope s_law_lists) := ⟨rfl, rfl, rfl, by decide +kernel, rfl, by decide +kernel, by decide +kernel⟩
def g_law_lists (Fr : List D → Option D) : Rho → Option Out := (oRet (dIf (fun ρ => ((fun ρ => ((fun ρ => vAt ρ 0) ρ).bind (isiD2 "list" "tuple")) ρ).bind asB) (fun ρ => ((compD (fun ρ => ((fun ρ => vAt ρ 0) ρ).bind dItems) (hName 1) (fun _ => some true) (fun ρ => ((aCons (fun ρ => vAt ρ 1) aNil) ρ).bind Fr) [1]) ρ).map .list) (fun ρ => vAt ρ 0)))
def Fr_law_lists : Nat → List D → Option D
  | 0 => fun _ => none
  | n + 1 => runF 1 2 (g_law_lists (Fr_law_lists n))
def F_law_lists : List D → Option D := Fr_law_lists 6
section
variable {P : Program} {w : World} {K : PySem.W.Frag} {mg : Str → Option Value} {base : Heap}
theorem b_law_lists {n : Nat} {Fr : List D → Option D} (T : Tx mg) (G_law_lists : DefD P w K mg base "_law_lists" n Fr) : BodyOk P w K mg base N_law_lists "_law_lists" s_law_lists n (g_law_lists Fr) := by
  intro f cdv A outer s H E hr
  exact (dss_one (ds_ret (de_if (dT_val (de_isi2 "list" "tuple" (by decide +kernel) (by decide +kernel) rfl T.isinstance rfl T.list rfl T.tuple (DE.db (de_var 0)))) (DL.de' (dl_lc rfl sc_law_lists.nd (di_seq (de_var 0)) (blkOk_by (own := [("_law_bit", 1)]) (N := N_law_lists) (sc := defScope s_law_lists) (by decide +kernel)) (fun _ _ _ _ _ => (dg_name (i := 1) sc_law_lists.nd)) (fun _ _ _ _ _ => dp_nil) (fun _ _ _ _ _ => (de_call G_law_lists (hr.mono (by omega)) rfl (da_cons (de_var 1) da_nil))))) (de_var 0))))
end

abbrev s_law_same : Stmt := topS 41
abbrev N_law_same : List Str := ["_law_got", "_law_due", "_law_mine", "_law_its"]
theorem sc_law_same : FnScope N_law_same ["_law_got", "_law_due"] (defScope s_law_same) := ⟨rfl, rfl, rfl, by decide +kernel, rfl, by decide +kernel, by decide +kernel⟩
def g_law_same (Fr : List D → Option D) : Rho → Option Out := (oSeq (oIf (fun ρ => ((fun ρ => ((fun ρ => vAt ρ 1) ρ).bind (isiD2 "list" "tuple")) ρ).bind asB) (oSeq (oIf (bOr (fun ρ => ((do2 dNe (fun ρ => ((fun ρ => vAt ρ 0) ρ).bind (isiD "list")) (fun ρ => ((fun ρ => vAt ρ 1) ρ).bind (isiD "list"))) ρ).bind asB) (fun ρ => ((do2 dNe (fun ρ => ((fun ρ => vAt ρ 0) ρ).bind (isiD "tuple")) (fun ρ => ((fun ρ => vAt ρ 1) ρ).bind (isiD "tuple"))) ρ).bind asB)) (oRet (fun _ => some (.bool false))) oNext)
    (oRet (dAndV (do2 dEq (fun ρ => ((fun ρ => vAt ρ 0) ρ).bind dLen) (fun ρ => ((fun ρ => vAt ρ 1) ρ).bind dLen)) (fun ρ => ((fun ρ => ((compD (fun ρ => ((aCons (fun ρ => vAt ρ 0) (aCons (fun ρ => vAt ρ 1) aNil)) ρ).bind dZip) (hTup2 2 3) (fun _ => some true) (fun ρ => ((aCons (fun ρ => vAt ρ 2) (aCons (fun ρ => vAt ρ 3) aNil)) ρ).bind Fr) [2, 3]) ρ).map .list) ρ).bind dAll)))) oNext)
    (oSeq (oIf (bOr (fun ρ => ((do2 dIsN (fun ρ => vAt ρ 1) (fun _ => some .none)) ρ).bind asB) (fun ρ => ((fun ρ => ((fun ρ => vAt ρ 1) ρ).bind (isiD2 "bool" "str")) ρ).bind asB)) (oRet (dAndV (do2 dEq (fun ρ => vAt ρ 0) (fun ρ => vAt ρ 1)) (dAndV (do2 dEq (fun ρ => ((fun ρ => vAt ρ 0) ρ).bind (isiD "bool")) (fun ρ => ((fun ρ => vAt ρ 1) ρ).bind (isiD "bool"))) (do2 dEq (do2 dIsN (fun ρ => vAt ρ 0) (fun _ => some .none)) (do2 dIsN (fun ρ => vAt ρ 1) (fun _ => some .none)))))) oNext)
    (oRet (dAndV (fun ρ => ((fun ρ => vAt ρ 0) ρ).bind (isiD "int")) (dAndV (dNotV (fun ρ => ((fun ρ => vAt ρ 0) ρ).bind (isiD "bool"))) (do2 dEq (fun ρ => vAt ρ 0) (fun ρ => vAt ρ 1)))))))
def Fr_law_same : Nat → List D → Option D
  | 0 => fun _ => none
  | n + 1 => runF 2 4 (g_law_same (Fr_law_same n))
def F_law_same : List D → Option D := Fr_law_same 6
section
variable {P : Program} {w : World} {K : PySem.W.Frag} {mg : Str → Option Value} {base : Heap}
theorem b_law_same {n : Nat} {Fr : List D → Option D} (T : Tx mg) (G_law_same : DefD P w K mg base "_law_same" n Fr) : BodyOk P w K mg base N_law_same "_law_same" s_law_same n (g_law_same Fr) := by
  intro f cdv A outer s H E hr
  exact (dss_cons (ds_if (dT_val (de_isi2 "list" "tuple" (by decide +kernel) (by decide +kernel) rfl T.isinstance rfl T.list rfl T.tuple (DE.db (de_var 1)))) (dss_cons (ds_if (DW.dt (dW_or (dT_ne hr.units (DE.db (de_isi "list" (by decide +kernel) rfl T.isinstance rfl T.list (DE.db (de_var 0)))) (DE.db (de_isi "list" (by decide +kernel) rfl T.isinstance rfl T.list (DE.db (de_var 1))))) (dW_or1 (dT_ne hr.units (DE.db (de_isi "tuple" (by decide +kernel) rfl T.isinstance rfl T.tuple (DE.db (de_var 0)))) (DE.db (de_isi "tuple" (by decide +kernel) rfl T.isinstance rfl T.tuple (DE.db (de_var 1)))))))) (dss_one (ds_ret de_bl)) dss_nil)
    (dss_one (ds_ret (de_and (de_eq hr.units (DE.db (de_B1 call_len_seq ca_len PySem.boot_len rfl T.len (DE.db (de_var 0)))) (DE.db (de_B1 call_len_seq ca_len PySem.boot_len rfl T.len (DE.db (de_var 1))))) (de_one (de_B1 (cr_all rfl) ca_all (by decide +kernel) rfl T.all (DL.db (dl_lc rfl sc_law_same.nd (di_zip rfl rfl T.zip (da_cons (de_var 0) (da_cons (de_var 1) da_nil))) (blkOk_by (own := [("_law_mine", 2), ("_law_its", 3)]) (N := N_law_same) (sc := defScope s_law_same) (by decide +kernel)) (fun _ _ _ _ _ => (dg_tup2 (i := 2) (j := 3) rfl sc_law_same.nd)) (fun _ _ _ _ _ => dp_nil) (fun _ _ _ _ _ => (de_call G_law_same (hr.mono (by omega)) rfl (da_cons (de_var 2) (da_cons (de_var 3) da_nil)))))))))))) dss_nil)
    (dss_cons (ds_if (DW.dt (dW_or (dT_is (DE.db (de_var 1)) (DE.db de_non)) (dW_or1 (dT_val (de_isi2 "bool" "str" (by decide +kernel) (by decide +kernel) rfl T.isinstance rfl T.bool rfl T.str (DE.db (de_var 1))))))) (dss_one (ds_ret (de_and (de_eq hr.units (DE.db (de_var 0)) (DE.db (de_var 1))) (de_and (de_eq hr.units (DE.db (de_isi "bool" (by decide +kernel) rfl T.isinstance rfl T.bool (DE.db (de_var 0)))) (DE.db (de_isi "bool" (by decide +kernel) rfl T.isinstance rfl T.bool (DE.db (de_var 1))))) (de_one (de_eq hr.units (DE.db (de_is (DE.db (de_var 0)) (DE.db de_non))) (DE.db (de_is (DE.db (de_var 1)) (DE.db de_non))))))))) dss_nil)
    (dss_one (ds_ret (de_and (de_isi "int" (by decide +kernel) rfl T.isinstance rfl T.int (DE.db (de_var 0))) (de_and (de_not (de_isi "bool" (by decide +kernel) rfl T.isinstance rfl T.bool (DE.db (de_var 0)))) (de_one (de_eq hr.units (DE.db (de_var 0)) (DE.db (de_var 1))))))))))
end

abbrev s_law_lots : Stmt := topS 42
abbrev N_law_lots : List Str := ["_law_wide_so", "_law_found", "_law_k", "_law_own"]
theorem sc_law_lots : FnScope N_law_lots ["_law_wide_so"] (defScope s_law_lots) := ⟨rfl, rfl, rfl, by decide +kernel, rfl, by decide +kernel, by decide +kernel⟩
def g_law_lots : Rho → Option Out := (oSeq (oSet 1 (cV (fun ρ => ((shortL (aCons (fun ρ => (shortL aNil ρ).map .tuple) aNil)) ρ).map .list)))
    (oSeq (oFor (fun ρ => ((aCons (fun ρ => vAt ρ 0) aNil) ρ).bind dRng1) (hName 2) (oSet 1 (cV (fun ρ => ((do2L dCat (fun ρ => vAt ρ 1) (fun ρ => ((compD (fun ρ => ((fun ρ => vAt ρ 1) ρ).bind dItems) (hName 3) (fun _ => some true) (do2 dAdd (fun ρ => vAt ρ 3) (fun ρ => (shortL (aCons (fun ρ => vAt ρ 2) aNil) ρ).map .tuple)) [3]) ρ).map .list)) ρ).map .list))))
    (oRet (fun ρ => ((fun ρ => ((fun ρ => ((compD (fun ρ => ((fun ρ => vAt ρ 1) ρ).bind dItems) (hName 3) (fun ρ => ((do2 dNe (fun ρ => vAt ρ 3) (fun ρ => (shortL aNil ρ).map .tuple)) ρ).bind asB) (fun ρ => vAt ρ 3) [3]) ρ).map .list) ρ).bind dSortD) ρ).map .list))))
def F_law_lots : List D → Option D := runF 1 4 g_law_lots
section
variable {P : Program} {w : World} {K : PySem.W.Frag} {mg : Str → Option Value} {base : Heap}
theorem b_law_lots (T : Tx mg) : BodyOk P w K mg base N_law_lots "_law_lots" s_law_lots 0 g_law_lots := by
  intro f cdv A outer s H E hr
  exact (dss_cons (ds_set (i := 1) sc_law_lots.nd (dc_v (DL.de' (dl_lst (da_cons (de_tup da_nil) da_nil)))))
    (dss_cons (ds_for PassesOwn.never rfl (di_rng1 rfl rfl T.range (da_cons (de_var 0) da_nil)) (dg_name (i := 2) sc_law_lots.nd) (dss_one (ds_set (i := 1) sc_law_lots.nd (dc_v (DL.de' (dl_cat (DE.db (de_var 1)) (DL.db (dl_lc rfl sc_law_lots.nd (di_seq (de_var 1)) (blkOk_by (own := [("_law_own", 3)]) (N := N_law_lots) (sc := defScope s_law_lots) (by decide +kernel)) (fun _ _ _ _ _ => (dg_name (i := 3) sc_law_lots.nd)) (fun _ _ _ _ _ => dp_nil) (fun _ _ _ _ _ => (de_add (DE.db (de_var 3)) (DE.db (de_tup (da_cons (de_var 2) da_nil)))))))))))))
    (dss_one (ds_ret (DL.de' (dl_B1 (cr_sortedD hr) ca_sortD (by decide +kernel) rfl T.sorted (DL.db (dl_lc rfl sc_law_lots.nd (di_seq (de_var 1)) (blkOk_by (own := [("_law_own", 3)]) (N := N_law_lots) (sc := defScope s_law_lots) (by decide +kernel)) (fun _ _ _ _ _ => (dg_name (i := 3) sc_law_lots.nd)) (fun _ _ _ _ _ => (dp_one (dT_ne hr.units (DE.db (de_var 3)) (DE.db (de_tup da_nil))))) (fun _ _ _ _ _ => (de_var 3))))))))))
end

abbrev s_law_trio : Stmt := topS 45
abbrev N_law_trio : List Str := ["_law_great_so", "_law_ring_so"]
theorem sc_law_trio : FnScope N_law_trio [] (defScope s_law_trio) := ⟨rfl, rfl, rfl, by decide +kernel, rfl, by decide +kernel, by decide +kernel⟩
def g_law_trio : Rho → Option Out := (oSeq (oSet 0 (cV (fun ρ => (shortL (aCons (fun ρ => (shortL (aCons (fun ρ => (shortL (aCons (fun _ => some (.int 0)) (aCons (fun _ => some (.int 1)) aNil)) ρ).map .tuple) (aCons (fun ρ => (shortL (aCons (fun _ => some (.int 1)) aNil) ρ).map .tuple) aNil)) ρ).map .tuple) (aCons (fun ρ => (shortL (aCons (fun ρ => (shortL (aCons (fun _ => some (.int 0)) (aCons (fun _ => some (.int 1)) (aCons (fun _ => some (.int 2)) aNil))) ρ).map .tuple) (aCons (fun ρ => (shortL (aCons (fun _ => some (.int 2)) aNil) ρ).map .tuple) aNil)) ρ).map .tuple) (aCons (fun ρ => (shortL (aCons (fun ρ => (shortL (aCons (fun _ => some (.int 0)) (aCons (fun _ => some (.int 2)) aNil)) ρ).map .tuple) (aCons (fun ρ => (shortL (aCons (fun _ => some (.int 2)) aNil) ρ).map .tuple) aNil)) ρ).map .tuple) (aCons (fun ρ => (shortL (aCons (fun ρ => (shortL (aCons (fun _ => some (.int 1)) (aCons (fun _ => some (.int 2)) aNil)) ρ).map .tuple) (aCons (fun ρ => (shortL (aCons (fun _ => some (.int 2)) aNil) ρ).map .tuple) aNil)) ρ).map .tuple) aNil)))) ρ).map .tuple)))
    (oSeq (oSet 1 (cV (fun ρ => (shortL (aCons (fun ρ => (shortL (aCons (fun ρ => (shortL (aCons (fun _ => some (.int 0)) (aCons (fun _ => some (.int 1)) aNil)) ρ).map .tuple) (aCons (fun ρ => (shortL (aCons (fun _ => some (.int 1)) aNil) ρ).map .tuple) aNil)) ρ).map .tuple) (aCons (fun ρ => (shortL (aCons (fun ρ => (shortL (aCons (fun _ => some (.int 0)) (aCons (fun _ => some (.int 1)) (aCons (fun _ => some (.int 2)) aNil))) ρ).map .tuple) (aCons (fun ρ => (shortL (aCons (fun _ => some (.int 0)) aNil) ρ).map .tuple) aNil)) ρ).map .tuple) (aCons (fun ρ => (shortL (aCons (fun ρ => (shortL (aCons (fun _ => some (.int 0)) (aCons (fun _ => some (.int 2)) aNil)) ρ).map .tuple) (aCons (fun ρ => (shortL (aCons (fun _ => some (.int 0)) aNil) ρ).map .tuple) aNil)) ρ).map .tuple) (aCons (fun ρ => (shortL (aCons (fun ρ => (shortL (aCons (fun _ => some (.int 1)) (aCons (fun _ => some (.int 2)) aNil)) ρ).map .tuple) (aCons (fun ρ => (shortL (aCons (fun _ => some (.int 2)) aNil) ρ).map .tuple) aNil)) ρ).map .tuple) aNil)))) ρ).map .tuple)))
    (oRet (fun ρ => (shortL (aCons (fun ρ => vAt ρ 0) (aCons (fun ρ => vAt ρ 1) (aCons (do2 dAdd (fun ρ => (shortL (aCons (fun ρ => (shortL (aCons (fun ρ => (shortL (aCons (fun _ => some (.int 0)) (aCons (fun _ => some (.int 1)) aNil)) ρ).map .tuple) (aCons (fun ρ => (shortL (aCons (fun _ => some (.int 0)) (aCons (fun _ => some (.int 1)) aNil)) ρ).map .tuple) aNil)) ρ).map .tuple) aNil) ρ).map .tuple) (fun ρ => ((fun ρ => vAt ρ 0) ρ).bind (dSl (some 1) none))) aNil))) ρ).map .tuple))))
def F_law_trio : List D → Option D := runF 0 2 g_law_trio
section
variable {P : Program} {w : World} {K : PySem.W.Frag} {mg : Str → Option Value} {base : Heap}
theorem b_law_trio (T : Tx mg) : BodyOk P w K mg base N_law_trio "_law_trio" s_law_trio 0 g_law_trio := by
  intro f cdv A outer s H E hr
  exact (dss_cons (ds_set (i := 0) sc_law_trio.nd (dc_v (de_tup (da_cons (de_tup (da_cons (de_tup (da_cons de_int (da_cons de_int da_nil))) (da_cons (de_tup (da_cons de_int da_nil)) da_nil))) (da_cons (de_tup (da_cons (de_tup (da_cons de_int (da_cons de_int (da_cons de_int da_nil)))) (da_cons (de_tup (da_cons de_int da_nil)) da_nil))) (da_cons (de_tup (da_cons (de_tup (da_cons de_int (da_cons de_int da_nil))) (da_cons (de_tup (da_cons de_int da_nil)) da_nil))) (da_cons (de_tup (da_cons (de_tup (da_cons de_int (da_cons de_int da_nil))) (da_cons (de_tup (da_cons de_int da_nil)) da_nil))) da_nil)))))))
    (dss_cons (ds_set (i := 1) sc_law_trio.nd (dc_v (de_tup (da_cons (de_tup (da_cons (de_tup (da_cons de_int (da_cons de_int da_nil))) (da_cons (de_tup (da_cons de_int da_nil)) da_nil))) (da_cons (de_tup (da_cons (de_tup (da_cons de_int (da_cons de_int (da_cons de_int da_nil)))) (da_cons (de_tup (da_cons de_int da_nil)) da_nil))) (da_cons (de_tup (da_cons (de_tup (da_cons de_int (da_cons de_int da_nil))) (da_cons (de_tup (da_cons de_int da_nil)) da_nil))) (da_cons (de_tup (da_cons (de_tup (da_cons de_int (da_cons de_int da_nil))) (da_cons (de_tup (da_cons de_int da_nil)) da_nil))) da_nil)))))))
    (dss_one (ds_ret (de_tup (da_cons (de_var 0) (da_cons (de_var 1) (da_cons (de_add (DE.db (de_tup (da_cons (de_tup (da_cons (de_tup (da_cons de_int (da_cons de_int da_nil))) (da_cons (de_tup (da_cons de_int (da_cons de_int da_nil))) da_nil))) da_nil))) (DE.db (de_slT (de_var 0) do_int do_none))) da_nil))))))))
end

abbrev s_law_arrows : Stmt := topS 46
abbrev N_law_arrows : List Str := ["_law_rule_so", "_law_lot_so", "_law_found", "_law_own", "_law_picks_so", "_law_k", "_law_far_so"]
theorem sc_law_arrows : FnScope N_law_arrows ["_law_rule_so", "_law_lot_so"] (defScope s_law_arrows) := ⟨rfl, rfl, rfl, by decide +kernel, rfl, by decide +kernel, by decide +kernel⟩
def g_law_arrows : Rho → Option Out := (oSeq (oSet 2 (cV (fun ρ => ((shortL aNil) ρ).map .list)))
    (oSeq (oFor (fun ρ => ((fun ρ => vAt ρ 0) ρ).bind dItems) (hTup2 3 4) (oIf (fun ρ => ((do2 dEq (fun ρ => ((compD (fun ρ => ((fun ρ => vAt ρ 3) ρ).bind dItems) (hName 5) (fun ρ => ((do2 dNotIn (fun ρ => vAt ρ 5) (fun ρ => vAt ρ 1)) ρ).bind asB) (fun ρ => vAt ρ 5) [5]) ρ).map .list) (fun ρ => ((shortL aNil) ρ).map .list)) ρ).bind asB) (oFor (fun ρ => ((fun ρ => vAt ρ 4) ρ).bind dItems) (hName 6) (oSet 2 (cV (fun ρ => ((do2L dCat (fun ρ => vAt ρ 2) (fun ρ => ((compD (fun ρ => ((fun ρ => vAt ρ 3) ρ).bind dItems) (hName 5) (fun ρ => ((do2 dNe (fun ρ => vAt ρ 5) (fun ρ => vAt ρ 6)) ρ).bind asB) (fun ρ => (shortL (aCons (fun ρ => vAt ρ 5) (aCons (fun ρ => vAt ρ 6) aNil)) ρ).map .tuple) [5]) ρ).map .list)) ρ).map .list)))) oNext))
    (oRet (fun ρ => vAt ρ 2))))
def F_law_arrows : List D → Option D := runF 2 7 g_law_arrows
section
variable {P : Program} {w : World} {K : PySem.W.Frag} {mg : Str → Option Value} {base : Heap}
theorem b_law_arrows (T : Tx mg) : BodyOk P w K mg base N_law_arrows "_law_arrows" s_law_arrows 0 g_law_arrows := by
  intro f cdv A outer s H E hr
  exact (dss_cons (ds_set (i := 2) sc_law_arrows.nd (dc_v (DL.de' (dl_lst da_nil))))
    (dss_cons (ds_for PassesOwn.never rfl (di_seq (de_var 0)) (dg_tup2 (i := 3) (j := 4) rfl sc_law_arrows.nd) (dss_one (ds_if (dT_eq hr.units (DL.db (dl_lc rfl sc_law_arrows.nd (di_seq (de_var 3)) (blkOk_by (own := [("_law_k", 5)]) (N := N_law_arrows) (sc := defScope s_law_arrows) (by decide +kernel)) (fun _ _ _ _ _ => (dg_name (i := 5) sc_law_arrows.nd)) (fun _ _ _ _ _ => (dp_one (dT_notin (room65 hr) (DE.db (de_var 5)) (DE.db (de_var 1))))) (fun _ _ _ _ _ => (de_var 5)))) (DL.db (dl_lst da_nil))) (dss_one (ds_for PassesOwn.never rfl (di_seq (de_var 4)) (dg_name (i := 6) sc_law_arrows.nd) (dss_one (ds_set (i := 2) sc_law_arrows.nd (dc_v (DL.de' (dl_cat (DE.db (de_var 2)) (DL.db (dl_lc rfl sc_law_arrows.nd (di_seq (de_var 3)) (blkOk_by (own := [("_law_k", 5)]) (N := N_law_arrows) (sc := defScope s_law_arrows) (by decide +kernel)) (fun _ _ _ _ _ => (dg_name (i := 5) sc_law_arrows.nd)) (fun _ _ _ _ _ => (dp_one (dT_ne hr.units (DE.db (de_var 5)) (DE.db (de_var 6))))) (fun _ _ _ _ _ => (de_tup (da_cons (de_var 5) (da_cons (de_var 6) da_nil))))))))))))) dss_nil)))
    (dss_one (ds_ret (de_var 2)))))
end

abbrev s_law_from : Stmt := topS 47
abbrev N_law_from : List Str := ["_law_arrows_so", "_law_start_so", "_law_found", "_law_now_so", "_law_later_so", "_law_near_so", "_law_far_so"]
theorem sc_law_from : FnScope N_law_from ["_law_arrows_so", "_law_start_so"] (defScope s_law_from) := ⟨rfl, rfl, rfl, by decide +kernel, rfl, by decide +kernel, by decide +kernel⟩
def g_law_from : Rho → Option Out := (oSeq (oPar 2 3 (cO (shortL (aCons (fun ρ => vAt ρ 1) aNil))) (cV (fun ρ => ((shortL (aCons (fun ρ => vAt ρ 1) aNil)) ρ).map .list)))
    (oSeq (whileGo (fun ρ => ((do2 dNe (fun ρ => vAt ρ 3) (fun ρ => ((shortL aNil) ρ).map .list)) ρ).bind asB) (oSeq (oSet 4 (cO (shortL aNil)))
    (oSeq (oFor (fun ρ => ((fun ρ => vAt ρ 0) ρ).bind dItems) (hTup2 5 6) (oIf (bAnd (fun ρ => ((do2 dIn (fun ρ => vAt ρ 5) (fun ρ => vAt ρ 3)) ρ).bind asB) (fun ρ => ((do2 dNotIn (fun ρ => vAt ρ 6) (fun ρ => bAt ρ 2)) ρ).bind asB)) (oSeq (oApp 2 (fun ρ => vAt ρ 6))
    (oApp 4 (fun ρ => vAt ρ 6))) oNext))
    (fun ρ => (oSet 3 (cV (fun ρ => vAt ρ 4))) (frz ρ 4)))) 1000)
    (fun ρ => (oRet (fun ρ => vAt ρ 2)) (frz ρ 2))))
def F_law_from : List D → Option D := runF 2 7 g_law_from
section
variable {P : Program} {w : World} {K : PySem.W.Frag} {mg : Str → Option Value} {base : Heap}
theorem b_law_from (T : Tx mg) : BodyOk P w K mg base N_law_from "_law_from" s_law_from 0 g_law_from := by
  intro f cdv A outer s H E hr
  exact (dss_cons (ds_par (i := 2) (j := 3) rfl sc_law_from.nd (dc_o (dl_lst (da_cons (de_var 1) da_nil))) (dc_v (DL.de' (dl_lst (da_cons (de_var 1) da_nil)))))
    (dss_cons (ds_while 1000 PassesOwn.never (dT_ne hr.units (DE.db (de_var 3)) (DL.db (dl_lst da_nil))) (dss_cons (ds_set (i := 4) sc_law_from.nd (dc_o (dl_lst da_nil)))
    (dss_cons (ds_for PassesOwn.never rfl (di_seq (de_var 0)) (dg_tup2 (i := 5) (j := 6) rfl sc_law_from.nd) (dss_one (ds_if (DW.dt (dW_and (dT_in (room65 hr) (DE.db (de_var 5)) (DE.db (de_var 3))) (dW_and1 (dT_notin (room65 hr) (DE.db (de_var 6)) (db_var 2))))) (dss_cons (ds_app (k := 2) (de_var 6))
    (dss_one (ds_app (k := 4) (de_var 6)))) dss_nil)))
    (dss_one (ds_frz 4 (ds_set (i := 3) sc_law_from.nd (dc_v (de_var 4))))))))
    (dss_one (ds_frz 2 (ds_ret (de_var 2))))))
end

abbrev s_law_woven : Stmt := topS 48
abbrev N_law_woven : List Str := ["_law_rule_so", "_law_lot_so", "_law_arrows_so", "_law_short_so", "_law_k"]
theorem sc_law_woven : FnScope N_law_woven ["_law_rule_so", "_law_lot_so"] (defScope s_law_woven) := ⟨rfl, rfl, rfl, by decide +kernel, rfl, by decide +kernel, by decide +kernel⟩
def g_law_woven : Rho → Option Out := (oSeq (oSet 2 (cV (fun ρ => ((aCons (fun ρ => vAt ρ 0) (aCons (fun ρ => vAt ρ 1) aNil)) ρ).bind F_law_arrows)))
    (oSeq (oSet 3 (mkV (compD (fun ρ => ((fun ρ => vAt ρ 1) ρ).bind dItems) (hName 4) (fun ρ => ((do2 dLt (fun ρ => ((fun ρ => ((aCons (fun ρ => vAt ρ 2) (aCons (fun ρ => vAt ρ 4) aNil)) ρ).bind F_law_from) ρ).bind dLen) (fun ρ => ((fun ρ => vAt ρ 1) ρ).bind dLen)) ρ).bind asB) (fun ρ => vAt ρ 4) [4])))
    (oRet (dAndV (do2 dGt (fun ρ => ((fun ρ => vAt ρ 1) ρ).bind dLen) (fun _ => some (.int 1))) (do2 dEq (fun ρ => vAt ρ 3) (fun ρ => ((shortL aNil) ρ).map .list))))))
def F_law_woven : List D → Option D := runF 2 5 g_law_woven
section
variable {P : Program} {w : World} {K : PySem.W.Frag} {mg : Str → Option Value} {base : Heap}
theorem b_law_woven (T : Tx mg) (G_law_arrows : DefD P w K mg base "_law_arrows" 1 F_law_arrows) (G_law_from : DefD P w K mg base "_law_from" 1 F_law_from) : BodyOk P w K mg base N_law_woven "_law_woven" s_law_woven 1 g_law_woven := by
  intro f cdv A outer s H E hr
  exact (dss_cons (ds_set (i := 2) sc_law_woven.nd (dc_v (de_call G_law_arrows (hr.mono (by omega)) rfl (da_cons (de_var 0) (da_cons (de_var 1) da_nil)))))
    (dss_cons (ds_setLc (i := 3) mkV (Or.inr rfl) rfl sc_law_woven.nd (di_seq (de_var 1)) (blkOk_by (own := [("_law_k", 4)]) (N := N_law_woven) (sc := defScope s_law_woven) (by decide +kernel)) (fun _ _ _ _ _ => (dg_name (i := 4) sc_law_woven.nd)) (fun _ _ _ _ _ => (dp_one (dT_lt (DE.db (de_B1 call_len_seq ca_len PySem.boot_len rfl T.len (DE.db (de_call G_law_from (hr.mono (by omega)) rfl (da_cons (de_var 2) (da_cons (de_var 4) da_nil)))))) (DE.db (de_B1 call_len_seq ca_len PySem.boot_len rfl T.len (DE.db (de_var 1))))))) (fun _ _ _ _ _ => (de_var 4)))
    (dss_one (ds_ret (de_and (de_gt (DE.db (de_B1 call_len_seq ca_len PySem.boot_len rfl T.len (DE.db (de_var 1)))) (DE.db de_int)) (de_one (de_eq hr.units (DE.db (de_var 3)) (DL.db (dl_lst da_nil)))))))))
end

abbrev s_law_lies : Stmt := topS 49
abbrev N_law_lies : List Str := ["_law_lot_so", "_law_course_so", "_law_own", "_law_k"]
theorem sc_law_lies : FnScope N_law_lies ["_law_lot_so", "_law_course_so"] (defScope s_law_lies) := ⟨rfl, rfl, rfl, by decide +kernel, rfl, by decide +kernel, by decide +kernel⟩
def g_law_lies : Rho → Option Out := (oSeq (oFor (fun ρ => ((fun ρ => vAt ρ 1) ρ).bind dItems) (hName 2) (oIf (fun ρ => ((do2 dEq (fun ρ => ((compD (fun ρ => ((fun ρ => vAt ρ 0) ρ).bind dItems) (hName 3) (fun ρ => ((do2 dNotIn (fun ρ => vAt ρ 3) (fun ρ => vAt ρ 2)) ρ).bind asB) (fun ρ => vAt ρ 3) [3]) ρ).map .list) (fun ρ => ((shortL aNil) ρ).map .list)) ρ).bind asB) (oRet (fun _ => some (.bool true))) oNext))
    (oRet (fun _ => some (.bool false))))
def F_law_lies : List D → Option D := runF 2 4 g_law_lies
section
variable {P : Program} {w : World} {K : PySem.W.Frag} {mg : Str → Option Value} {base : Heap}
theorem b_law_lies (T : Tx mg) : BodyOk P w K mg base N_law_lies "_law_lies" s_law_lies 0 g_law_lies := by
  intro f cdv A outer s H E hr
  exact (dss_cons (ds_for PassesOwn.never rfl (di_seq (de_var 1)) (dg_name (i := 2) sc_law_lies.nd) (dss_one (ds_if (dT_eq hr.units (DL.db (dl_lc rfl sc_law_lies.nd (di_seq (de_var 0)) (blkOk_by (own := [("_law_k", 3)]) (N := N_law_lies) (sc := defScope s_law_lies) (by decide +kernel)) (fun _ _ _ _ _ => (dg_name (i := 3) sc_law_lies.nd)) (fun _ _ _ _ _ => (dp_one (dT_notin (room65 hr) (DE.db (de_var 3)) (DE.db (de_var 2))))) (fun _ _ _ _ _ => (de_var 3)))) (DL.db (dl_lst da_nil))) (dss_one (ds_ret de_bl)) dss_nil)))
    (dss_one (ds_ret de_bl)))
end

abbrev s_law_missed : Stmt := topS 50
abbrev N_law_missed : List Str := ["_law_rule_so", "_law_wide_so", "_law_course_so", "_law_found", "_law_own"]
theorem sc_law_missed : FnScope N_law_missed ["_law_rule_so", "_law_wide_so", "_law_course_so"] (defScope s_law_missed) := ⟨rfl, rfl, rfl, by decide +kernel, rfl, by decide +kernel, by decide +kernel⟩
def g_law_missed : Rho → Option Out := (oSeq (oSet 3 (mkV (compD (fun ρ => ((fun ρ => ((aCons (fun ρ => vAt ρ 1) aNil) ρ).bind F_law_lots) ρ).bind dItems) (hName 4) (bNot (fun ρ => ((fun ρ => ((aCons (fun ρ => vAt ρ 4) (aCons (fun ρ => vAt ρ 2) aNil)) ρ).bind F_law_lies) ρ).bind asB)) (fun ρ => vAt ρ 4) [4])))
    (oRet (fun ρ => ((compD (fun ρ => ((fun ρ => vAt ρ 3) ρ).bind dItems) (hName 4) (bOr (fun ρ => ((do2 dEq (fun ρ => ((fun ρ => vAt ρ 4) ρ).bind dLen) (fun _ => some (.int 1))) ρ).bind asB) (fun ρ => ((fun ρ => ((aCons (fun ρ => vAt ρ 0) (aCons (fun ρ => vAt ρ 4) aNil)) ρ).bind F_law_woven) ρ).bind asB)) (fun ρ => vAt ρ 4) [4]) ρ).map .list)))
def F_law_missed : List D → Option D := runF 3 5 g_law_missed
section
variable {P : Program} {w : World} {K : PySem.W.Frag} {mg : Str → Option Value} {base : Heap}
theorem b_law_missed (T : Tx mg) (G_law_lots : DefD P w K mg base "_law_lots" 1 F_law_lots) (G_law_lies : DefD P w K mg base "_law_lies" 1 F_law_lies) (G_law_woven : DefD P w K mg base "_law_woven" 2 F_law_woven) : BodyOk P w K mg base N_law_missed "_law_missed" s_law_missed 2 g_law_missed := by
  intro f cdv A outer s H E hr
  exact (dss_cons (ds_setLc (i := 3) mkV (Or.inr rfl) rfl sc_law_missed.nd (di_seq (de_call G_law_lots (hr.mono (by omega)) rfl (da_cons (de_var 1) da_nil))) (blkOk_by (own := [("_law_own", 4)]) (N := N_law_missed) (sc := defScope s_law_missed) (by decide +kernel)) (fun _ _ _ _ _ => (dg_name (i := 4) sc_law_missed.nd)) (fun _ _ _ _ _ => (dp_one (dT_not (dT_val (de_call G_law_lies (hr.mono (by omega)) rfl (da_cons (de_var 4) (da_cons (de_var 2) da_nil))))))) (fun _ _ _ _ _ => (de_var 4)))
    (dss_one (ds_ret (DL.de' (dl_lc rfl sc_law_missed.nd (di_seq (de_var 3)) (blkOk_by (own := [("_law_own", 4)]) (N := N_law_missed) (sc := defScope s_law_missed) (by decide +kernel)) (fun _ _ _ _ _ => (dg_name (i := 4) sc_law_missed.nd)) (fun _ _ _ _ _ => (dp_one (DW.dt (dW_or (dT_eq hr.units (DE.db (de_B1 call_len_seq ca_len PySem.boot_len rfl T.len (DE.db (de_var 4)))) (DE.db de_int)) (dW_or1 (dT_val (de_call G_law_woven (hr.mono (by omega)) rfl (da_cons (de_var 0) (da_cons (de_var 4) da_nil))))))))) (fun _ _ _ _ _ => (de_var 4)))))))
end

abbrev s_law_sets : Stmt := topS 51
abbrev N_law_sets : List Str := ["_law_goods_so", "_law_size_so", "_law_found", "_law_own", "_law_row_so"]
theorem sc_law_sets : FnScope N_law_sets ["_law_goods_so", "_law_size_so"] (defScope s_law_sets) := ⟨rfl, rfl, rfl, by decide +kernel, rfl, by decide +kernel, by decide +kernel⟩
def g_law_sets : Rho → Option Out := (oSeq (oSet 2 (cV (fun ρ => ((shortL (aCons (fun ρ => (shortL aNil ρ).map .tuple) aNil)) ρ).map .list)))
    (oSeq (oFor (fun ρ => ((fun ρ => vAt ρ 0) ρ).bind dItems) (hName 3) (oSet 2 (cV (fun ρ => ((do2L dCat (fun ρ => vAt ρ 2) (fun ρ => ((compD (fun ρ => ((fun ρ => vAt ρ 2) ρ).bind dItems) (hName 4) (fun ρ => ((do2 dLt (fun ρ => ((fun ρ => vAt ρ 4) ρ).bind dLen) (fun ρ => vAt ρ 1)) ρ).bind asB) (do2 dAdd (fun ρ => vAt ρ 4) (fun ρ => (shortL (aCons (fun ρ => vAt ρ 3) aNil) ρ).map .tuple)) [4]) ρ).map .list)) ρ).map .list))))
    (oRet (fun ρ => ((compD (fun ρ => ((fun ρ => vAt ρ 2) ρ).bind dItems) (hName 4) (fun ρ => ((do2 dEq (fun ρ => ((fun ρ => vAt ρ 4) ρ).bind dLen) (fun ρ => vAt ρ 1)) ρ).bind asB) (fun ρ => vAt ρ 4) [4]) ρ).map .list))))
def F_law_sets : List D → Option D := runF 2 5 g_law_sets
section
variable {P : Program} {w : World} {K : PySem.W.Frag} {mg : Str → Option Value} {base : Heap}
theorem b_law_sets (T : Tx mg) : BodyOk P w K mg base N_law_sets "_law_sets" s_law_sets 0 g_law_sets := by
  intro f cdv A outer s H E hr
  exact (dss_cons (ds_set (i := 2) sc_law_sets.nd (dc_v (DL.de' (dl_lst (da_cons (de_tup da_nil) da_nil)))))
    (dss_cons (ds_for PassesOwn.never rfl (di_seq (de_var 0)) (dg_name (i := 3) sc_law_sets.nd) (dss_one (ds_set (i := 2) sc_law_sets.nd (dc_v (DL.de' (dl_cat (DE.db (de_var 2)) (DL.db (dl_lc rfl sc_law_sets.nd (di_seq (de_var 2)) (blkOk_by (own := [("_law_row_so", 4)]) (N := N_law_sets) (sc := defScope s_law_sets) (by decide +kernel)) (fun _ _ _ _ _ => (dg_name (i := 4) sc_law_sets.nd)) (fun _ _ _ _ _ => (dp_one (dT_lt (DE.db (de_B1 call_len_seq ca_len PySem.boot_len rfl T.len (DE.db (de_var 4)))) (DE.db (de_var 1))))) (fun _ _ _ _ _ => (de_add (DE.db (de_var 4)) (DE.db (de_tup (da_cons (de_var 3) da_nil)))))))))))))
    (dss_one (ds_ret (DL.de' (dl_lc rfl sc_law_sets.nd (di_seq (de_var 2)) (blkOk_by (own := [("_law_row_so", 4)]) (N := N_law_sets) (sc := defScope s_law_sets) (by decide +kernel)) (fun _ _ _ _ _ => (dg_name (i := 4) sc_law_sets.nd)) (fun _ _ _ _ _ => (dp_one (dT_eq hr.units (DE.db (de_B1 call_len_seq ca_len PySem.boot_len rfl T.len (DE.db (de_var 4)))) (DE.db (de_var 1))))) (fun _ _ _ _ _ => (de_var 4))))))))
end

abbrev s_law_fewest : Stmt := topS 52
abbrev N_law_fewest : List Str := ["_law_wide_so", "_law_wanted_so", "_law_most_so", "_law_goods_so", "_law_own", "_law_size_so", "_law_row_so"]
theorem sc_law_fewest : FnScope N_law_fewest ["_law_wide_so", "_law_wanted_so", "_law_most_so"] (defScope s_law_fewest) := ⟨rfl, rfl, rfl, by decide +kernel, rfl, by decide +kernel, by decide +kernel⟩
def g_law_fewest : Rho → Option Out := (oSeq (oSet 3 (mkV (compD (fun ρ => ((fun ρ => ((aCons (fun ρ => vAt ρ 0) aNil) ρ).bind F_law_lots) ρ).bind dItems) (hName 4) (fun ρ => ((do2 dLe (fun ρ => ((fun ρ => vAt ρ 4) ρ).bind dLen) (fun ρ => vAt ρ 2)) ρ).bind asB) (fun ρ => vAt ρ 4) [4])))
    (oSeq (oIf (fun ρ => ((do2 dNe (fun ρ => ((compD (fun ρ => ((fun ρ => vAt ρ 1) ρ).bind dItems) (hName 4) (fun ρ => ((do2 dGt (fun ρ => ((fun ρ => vAt ρ 4) ρ).bind dLen) (fun ρ => vAt ρ 2)) ρ).bind asB) (fun _ => some (.int 1)) [4]) ρ).map .list) (fun ρ => ((shortL aNil) ρ).map .list)) ρ).bind asB) (oRet (fun _ => some .none)) oNext)
    (oSeq (oFor (fun ρ => ((aCons (do2 dAdd (fun ρ => ((fun ρ => vAt ρ 1) ρ).bind dLen) (fun _ => some (.int 1))) aNil) ρ).bind dRng1) (hName 5) (oFor (fun ρ => ((fun ρ => ((aCons (fun ρ => vAt ρ 3) (aCons (fun ρ => vAt ρ 5) aNil)) ρ).bind F_law_sets) ρ).bind dItems) (hName 6) (oIf (fun ρ => ((do2 dEq (fun ρ => ((compD (fun ρ => ((fun ρ => vAt ρ 1) ρ).bind dItems) (hName 4) (bNot (fun ρ => ((fun ρ => ((aCons (fun ρ => vAt ρ 4) (aCons (fun ρ => vAt ρ 6) aNil)) ρ).bind F_law_lies) ρ).bind asB)) (fun _ => some (.int 1)) [4]) ρ).map .list) (fun ρ => ((shortL aNil) ρ).map .list)) ρ).bind asB) (oRet (fun ρ => vAt ρ 5)) oNext)))
    (oRet (fun _ => some .none)))))
def F_law_fewest : List D → Option D := runF 3 7 g_law_fewest
section
variable {P : Program} {w : World} {K : PySem.W.Frag} {mg : Str → Option Value} {base : Heap}
theorem b_law_fewest (T : Tx mg) (G_law_lots : DefD P w K mg base "_law_lots" 1 F_law_lots) (G_law_sets : DefD P w K mg base "_law_sets" 1 F_law_sets) (G_law_lies : DefD P w K mg base "_law_lies" 1 F_law_lies) : BodyOk P w K mg base N_law_fewest "_law_fewest" s_law_fewest 1 g_law_fewest := by
  intro f cdv A outer s H E hr
  exact (dss_cons (ds_setLc (i := 3) mkV (Or.inr rfl) rfl sc_law_fewest.nd (di_seq (de_call G_law_lots (hr.mono (by omega)) rfl (da_cons (de_var 0) da_nil))) (blkOk_by (own := [("_law_own", 4)]) (N := N_law_fewest) (sc := defScope s_law_fewest) (by decide +kernel)) (fun _ _ _ _ _ => (dg_name (i := 4) sc_law_fewest.nd)) (fun _ _ _ _ _ => (dp_one (dT_le (DE.db (de_B1 call_len_seq ca_len PySem.boot_len rfl T.len (DE.db (de_var 4)))) (DE.db (de_var 2))))) (fun _ _ _ _ _ => (de_var 4)))
    (dss_cons (ds_if (dT_ne hr.units (DL.db (dl_lc rfl sc_law_fewest.nd (di_seq (de_var 1)) (blkOk_by (own := [("_law_own", 4)]) (N := N_law_fewest) (sc := defScope s_law_fewest) (by decide +kernel)) (fun _ _ _ _ _ => (dg_name (i := 4) sc_law_fewest.nd)) (fun _ _ _ _ _ => (dp_one (dT_gt (DE.db (de_B1 call_len_seq ca_len PySem.boot_len rfl T.len (DE.db (de_var 4)))) (DE.db (de_var 2))))) (fun _ _ _ _ _ => de_int))) (DL.db (dl_lst da_nil))) (dss_one (ds_ret de_non)) dss_nil)
    (dss_cons (ds_for PassesOwn.never rfl (di_rng1 rfl rfl T.range (da_cons (de_add (DE.db (de_B1 call_len_seq ca_len PySem.boot_len rfl T.len (DE.db (de_var 1)))) (DE.db de_int)) da_nil)) (dg_name (i := 5) sc_law_fewest.nd) (dss_one (ds_for PassesOwn.never rfl (di_seq (de_call G_law_sets (hr.mono (by omega)) rfl (da_cons (de_var 3) (da_cons (de_var 5) da_nil)))) (dg_name (i := 6) sc_law_fewest.nd) (dss_one (ds_if (dT_eq hr.units (DL.db (dl_lc rfl sc_law_fewest.nd (di_seq (de_var 1)) (blkOk_by (own := [("_law_own", 4)]) (N := N_law_fewest) (sc := defScope s_law_fewest) (by decide +kernel)) (fun _ _ _ _ _ => (dg_name (i := 4) sc_law_fewest.nd)) (fun _ _ _ _ _ => (dp_one (dT_not (dT_val (de_call G_law_lies (hr.mono (by omega)) rfl (da_cons (de_var 4) (da_cons (de_var 6) da_nil))))))) (fun _ _ _ _ _ => de_int))) (DL.db (dl_lst da_nil))) (dss_one (ds_ret (de_var 5))) dss_nil)))))
    (dss_one (ds_ret de_non)))))
end

abbrev s_law_wanted : Stmt := topS 53
abbrev N_law_wanted : List Str := ["_law_rules_so", "_law_wide_so", "_law_found", "_law_rule_so", "_law_own", "_law_least_so", "_law_others_so", "_law_far_so"]
theorem sc_law_wanted : FnScope N_law_wanted ["_law_rules_so", "_law_wide_so"] (defScope s_law_wanted) := ⟨rfl, rfl, rfl, by decide +kernel, rfl, by decide +kernel, by decide +kernel⟩
def g_law_wanted : Rho → Option Out := (oSeq (oSet 2 (cV (fun ρ => ((shortL aNil) ρ).map .list)))
    (oSeq (oFor (fun ρ => ((fun ρ => vAt ρ 0) ρ).bind dItems) (hName 3) (oSet 2 (cV (fun ρ => ((do2L dCat (fun ρ => vAt ρ 2) (fun ρ => ((compD (fun ρ => ((fun ρ => ((aCons (fun ρ => vAt ρ 3) (aCons (fun ρ => vAt ρ 1) (aCons (fun ρ => (shortL aNil ρ).map .tuple) aNil))) ρ).bind F_law_missed) ρ).bind dItems) (hName 4) (fun ρ => ((do2 dNotIn (fun ρ => vAt ρ 4) (fun ρ => vAt ρ 2)) ρ).bind asB) (fun ρ => vAt ρ 4) [4]) ρ).map .list)) ρ).map .list))))
    (oSeq (oSet 5 (cO (shortL aNil)))
    (oSeq (oFor (fun ρ => ((fun ρ => vAt ρ 2) ρ).bind dItems) (hName 4) (oSeq (oSet 6 (mkV (compD (fun ρ => ((fun ρ => vAt ρ 2) ρ).bind dItems) (hName 7) (fun ρ => ((do2 dNe (fun ρ => vAt ρ 7) (fun ρ => vAt ρ 4)) ρ).bind asB) (fun ρ => vAt ρ 7) [7])))
    (oIf (bNot (fun ρ => ((fun ρ => ((aCons (fun ρ => vAt ρ 4) (aCons (fun ρ => vAt ρ 6) aNil)) ρ).bind F_law_lies) ρ).bind asB)) (oApp 5 (fun ρ => vAt ρ 4)) oNext)))
    (oRet (fun ρ => ((fun ρ => ((fun ρ => bAt ρ 5) ρ).bind dSortD) ρ).map .list))))))
def F_law_wanted : List D → Option D := runF 2 8 g_law_wanted
section
variable {P : Program} {w : World} {K : PySem.W.Frag} {mg : Str → Option Value} {base : Heap}
theorem b_law_wanted (T : Tx mg) (G_law_missed : DefD P w K mg base "_law_missed" 3 F_law_missed) (G_law_lies : DefD P w K mg base "_law_lies" 1 F_law_lies) : BodyOk P w K mg base N_law_wanted "_law_wanted" s_law_wanted 3 g_law_wanted := by
  intro f cdv A outer s H E hr
  exact (dss_cons (ds_set (i := 2) sc_law_wanted.nd (dc_v (DL.de' (dl_lst da_nil))))
    (dss_cons (ds_for PassesOwn.never rfl (di_seq (de_var 0)) (dg_name (i := 3) sc_law_wanted.nd) (dss_one (ds_set (i := 2) sc_law_wanted.nd (dc_v (DL.de' (dl_cat (DE.db (de_var 2)) (DL.db (dl_lc rfl sc_law_wanted.nd (di_seq (de_call G_law_missed (hr.mono (by omega)) rfl (da_cons (de_var 3) (da_cons (de_var 1) (da_cons (de_tup da_nil) da_nil))))) (blkOk_by (own := [("_law_own", 4)]) (N := N_law_wanted) (sc := defScope s_law_wanted) (by decide +kernel)) (fun _ _ _ _ _ => (dg_name (i := 4) sc_law_wanted.nd)) (fun _ _ _ _ _ => (dp_one (dT_notin (room65 hr) (DE.db (de_var 4)) (DE.db (de_var 2))))) (fun _ _ _ _ _ => (de_var 4))))))))))
    (dss_cons (ds_set (i := 5) sc_law_wanted.nd (dc_o (dl_lst da_nil)))
    (dss_cons (ds_for PassesOwn.never rfl (di_seq (de_var 2)) (dg_name (i := 4) sc_law_wanted.nd) (dss_cons (ds_setLc (i := 6) mkV (Or.inr rfl) rfl sc_law_wanted.nd (di_seq (de_var 2)) (blkOk_by (own := [("_law_far_so", 7)]) (N := N_law_wanted) (sc := defScope s_law_wanted) (by decide +kernel)) (fun _ _ _ _ _ => (dg_name (i := 7) sc_law_wanted.nd)) (fun _ _ _ _ _ => (dp_one (dT_ne hr.units (DE.db (de_var 7)) (DE.db (de_var 4))))) (fun _ _ _ _ _ => (de_var 7)))
    (dss_one (ds_if (dT_not (dT_val (de_call G_law_lies (hr.mono (by omega)) rfl (da_cons (de_var 4) (da_cons (de_var 6) da_nil))))) (dss_one (ds_app (k := 5) (de_var 4))) dss_nil))))
    (dss_one (ds_ret (DL.de' (dl_B1 (cr_sortedD hr) ca_sortD (by decide +kernel) rfl T.sorted (db_var 5)))))))))
end

abbrev s_law_is_course : Stmt := topS 55
abbrev N_law_is_course : List Str := ["_law_told", "_law_wide_so", "_law_most_so", "_law_goods_so", "_law_own", "_law_far_so"]
theorem sc_law_is_course : FnScope N_law_is_course ["_law_told", "_law_wide_so", "_law_most_so"] (defScope s_law_is_course) := ⟨rfl, rfl, rfl, by decide +kernel, rfl, by decide +kernel, by decide +kernel⟩
def g_law_is_course : Rho → Option Out := (oSeq (oIf (bOr (bNot (fun ρ => ((fun ρ => ((fun ρ => vAt ρ 0) ρ).bind (isiD "tuple")) ρ).bind asB)) (fun ρ => ((do2 dEq (fun ρ => vAt ρ 0) (fun ρ => (shortL aNil ρ).map .tuple)) ρ).bind asB)) (oRet (fun _ => some (.bool false))) oNext)
    (oSeq (oSet 3 (mkV (compD (fun ρ => ((fun ρ => ((aCons (fun ρ => vAt ρ 1) aNil) ρ).bind F_law_lots) ρ).bind dItems) (hName 4) (fun ρ => ((do2 dLe (fun ρ => ((fun ρ => vAt ρ 4) ρ).bind dLen) (fun ρ => vAt ρ 2)) ρ).bind asB) (fun ρ => vAt ρ 4) [4])))
    (oSeq (oFor (fun ρ => ((fun ρ => vAt ρ 0) ρ).bind dItems) (hName 4) (oIf (fun ρ => ((do2 dEq (fun ρ => ((compD (fun ρ => ((fun ρ => vAt ρ 3) ρ).bind dItems) (hName 5) (fun ρ => ((fun ρ => ((aCons (fun ρ => vAt ρ 4) (aCons (fun ρ => vAt ρ 5) aNil)) ρ).bind F_law_same) ρ).bind asB) (fun ρ => vAt ρ 5) [5]) ρ).map .list) (fun ρ => ((shortL aNil) ρ).map .list)) ρ).bind asB) (oRet (fun _ => some (.bool false))) oNext))
    (oRet (fun _ => some (.bool true))))))
def F_law_is_course : List D → Option D := runF 3 6 g_law_is_course
section
variable {P : Program} {w : World} {K : PySem.W.Frag} {mg : Str → Option Value} {base : Heap}
theorem b_law_is_course (T : Tx mg) (G_law_lots : DefD P w K mg base "_law_lots" 1 F_law_lots) (G_law_same : DefD P w K mg base "_law_same" 6 F_law_same) : BodyOk P w K mg base N_law_is_course "_law_is_course" s_law_is_course 6 g_law_is_course := by
  intro f cdv A outer s H E hr
  exact (dss_cons (ds_if (DW.dt (dW_or (dT_not (dT_val (de_isi "tuple" (by decide +kernel) rfl T.isinstance rfl T.tuple (DE.db (de_var 0))))) (dW_or1 (dT_eq hr.units (DE.db (de_var 0)) (DE.db (de_tup da_nil)))))) (dss_one (ds_ret de_bl)) dss_nil)
    (dss_cons (ds_setLc (i := 3) mkV (Or.inr rfl) rfl sc_law_is_course.nd (di_seq (de_call G_law_lots (hr.mono (by omega)) rfl (da_cons (de_var 1) da_nil))) (blkOk_by (own := [("_law_own", 4)]) (N := N_law_is_course) (sc := defScope s_law_is_course) (by decide +kernel)) (fun _ _ _ _ _ => (dg_name (i := 4) sc_law_is_course.nd)) (fun _ _ _ _ _ => (dp_one (dT_le (DE.db (de_B1 call_len_seq ca_len PySem.boot_len rfl T.len (DE.db (de_var 4)))) (DE.db (de_var 2))))) (fun _ _ _ _ _ => (de_var 4)))
    (dss_cons (ds_for PassesOwn.never rfl (di_seq (de_var 0)) (dg_name (i := 4) sc_law_is_course.nd) (dss_one (ds_if (dT_eq hr.units (DL.db (dl_lc rfl sc_law_is_course.nd (di_seq (de_var 3)) (blkOk_by (own := [("_law_far_so", 5)]) (N := N_law_is_course) (sc := defScope s_law_is_course) (by decide +kernel)) (fun _ _ _ _ _ => (dg_name (i := 5) sc_law_is_course.nd)) (fun _ _ _ _ _ => (dp_one (dT_val (de_call G_law_same (hr.mono (by omega)) rfl (da_cons (de_var 4) (da_cons (de_var 5) da_nil)))))) (fun _ _ _ _ _ => (de_var 5)))) (DL.db (dl_lst da_nil))) (dss_one (ds_ret de_bl)) dss_nil)))
    (dss_one (ds_ret de_bl)))))
end

end GY
set_option Elab.async false
set_option linter.all false
set_option maxRecDepth 100000
set_option maxHeartbeats 4000000
namespace GY
open PySem PySem.Spec PyProof.Rows L2
abbrev s_fewest_course : Stmt := topS 32
abbrev N_fewest_course : List Str := ["rules", "most", "found"]
theorem sc_fewest_course : FnScope N_fewest_course ["rules", "most"] (defScope s_fewest_course) := ⟨rfl, rfl, rfl, by decide +kernel, rfl, by decide +kernel, by decide +kernel⟩
def g_fewest_course : Rho → Option Out := (oSeq (oSet 2 (cV (fun ρ => ((aCons (fun ρ => ((aCons (fun ρ => vAt ρ 0) aNil) ρ).bind F_demands) (aCons (fun ρ => ((aCons (do2 dIx (fun ρ => vAt ρ 0) (fun _ => some (.int 0))) aNil) ρ).bind F_all_areas) (aCons (fun ρ => vAt ρ 1) aNil))) ρ).bind F_fewest_lots)))
    (oSeq (oIf (fun ρ => ((do2 dIsN (fun ρ => vAt ρ 2) (fun _ => some .none)) ρ).bind asB) oRaise oNext)
    (oRet (fun ρ => vAt ρ 2))))
def F_fewest_course : List D → Option (Option D) := runR 2 3 g_fewest_course
section
variable {P : Program} {w : World} {K : PySem.W.Frag} {mg : Str → Option Value} {base : Heap}
theorem b_fewest_course {C : Addr} (T : Tx mg) (TX : CanT K mg C) (G_fewest_lots : DefD P w K mg base "fewest_lots" 2 F_fewest_lots) (G_demands : DefD P w K mg base "demands" 13 F_demands) (G_all_areas : DefD P w K mg base "all_areas" 1 F_all_areas) : BodyOkX P w K mg base C N_fewest_course "fewest_course" s_fewest_course 13 g_fewest_course := by
  intro f cdv A outer s H E hr
  exact (dss_cons (ds_set (i := 2) sc_fewest_course.nd (dc_v (de_call G_fewest_lots (hr.mono (by omega)) rfl (da_cons (de_call G_demands (hr.mono (by omega)) rfl (da_cons (de_var 0) da_nil)) (da_cons (de_call G_all_areas (hr.mono (by omega)) rfl (da_cons (de_ix (DE.db (de_var 0)) (DE.db de_int)) da_nil)) (da_cons (de_var 1) da_nil))))))
    (dss_cons (ds_if (dT_is (DE.db (de_var 2)) (DE.db de_non)) (dss_one (ds_raise rfl (takes_of rfl rfl rfl rfl) TX rfl (fun _ _ h => h))) dss_nil)
    (dss_one (ds_ret (de_var 2)))))
end

abbrev s_lots_added : Stmt := topS 34
abbrev N_lots_added : List Str := ["rule", "course", "most", "wanted", "lot", "found"]
theorem sc_lots_added : FnScope N_lots_added ["rule", "course", "most"] (defScope s_lots_added) := ⟨rfl, rfl, rfl, by decide +kernel, rfl, by decide +kernel, by decide +kernel⟩
def g_lots_added : Rho → Option Out := (oSeq (oSet 3 (mkV (compD (fun ρ => ((fun ρ => ((aCons (fun ρ => vAt ρ 0) aNil) ρ).bind F_chain_of) ρ).bind dItems) (hName 4) (bNot (fun ρ => ((fun ρ => ((aCons (fun ρ => vAt ρ 4) (aCons (fun ρ => vAt ρ 1) aNil)) ρ).bind F_lies_in) ρ).bind asB)) (fun ρ => vAt ρ 4) [4])))
    (oSeq (oSet 5 (cV (fun ρ => ((aCons (fun ρ => vAt ρ 3) (aCons (fun ρ => ((aCons (fun ρ => vAt ρ 0) aNil) ρ).bind F_all_areas) (aCons (fun ρ => vAt ρ 2) aNil))) ρ).bind F_fewest_lots)))
    (oSeq (oIf (fun ρ => ((do2 dIsN (fun ρ => vAt ρ 5) (fun _ => some .none)) ρ).bind asB) oRaise oNext)
    (oRet (fun ρ => ((fun ρ => vAt ρ 5) ρ).bind dLen)))))
def F_lots_added : List D → Option (Option D) := runR 3 6 g_lots_added
section
variable {P : Program} {w : World} {K : PySem.W.Frag} {mg : Str → Option Value} {base : Heap}
theorem b_lots_added {C : Addr} (T : Tx mg) (TX : CanT K mg C) (G_chain_of : DefD P w K mg base "chain_of" 12 F_chain_of) (G_lies_in : DefD P w K mg base "lies_in" 2 F_lies_in) (G_fewest_lots : DefD P w K mg base "fewest_lots" 2 F_fewest_lots) (G_all_areas : DefD P w K mg base "all_areas" 1 F_all_areas) : BodyOkX P w K mg base C N_lots_added "lots_added" s_lots_added 12 g_lots_added := by
  intro f cdv A outer s H E hr
  exact (dss_cons (ds_setLc (i := 3) mkV (Or.inr rfl) rfl sc_lots_added.nd (di_seq (de_call G_chain_of (hr.mono (by omega)) rfl (da_cons (de_var 0) da_nil))) (blkOk_by (own := [("lot", 4)]) (N := N_lots_added) (sc := defScope s_lots_added) (by decide +kernel)) (fun _ _ _ _ _ => (dg_name (i := 4) sc_lots_added.nd)) (fun _ _ _ _ _ => (dp_one (dT_not (dT_val (de_call G_lies_in (hr.mono (by omega)) rfl (da_cons (de_var 4) (da_cons (de_var 1) da_nil))))))) (fun _ _ _ _ _ => (de_var 4)))
    (dss_cons (ds_set (i := 5) sc_lots_added.nd (dc_v (de_call G_fewest_lots (hr.mono (by omega)) rfl (da_cons (de_var 3) (da_cons (de_call G_all_areas (hr.mono (by omega)) rfl (da_cons (de_var 0) da_nil)) (da_cons (de_var 2) da_nil))))))
    (dss_cons (ds_if (dT_is (DE.db (de_var 5)) (DE.db de_non)) (dss_one (ds_raise rfl (takes_of rfl rfl rfl rfl) TX rfl (fun _ _ h => h))) dss_nil)
    (dss_one (ds_ret (de_B1 call_len_seq ca_len PySem.boot_len rfl T.len (DE.db (de_var 5))))))))
end

abbrev s_law_asked : Stmt := topS 54
abbrev N_law_asked : List Str := ["_law_door_so", "_law_one_so", "_law_two_so", "_law_most_so"]
theorem sc_law_asked : FnScope N_law_asked ["_law_door_so", "_law_one_so", "_law_two_so", "_law_most_so"] (defScope s_law_asked) := ⟨rfl, rfl, rfl, by decide +kernel, rfl, by decide +kernel, by decide +kernel⟩
def g_law_asked : Rho → Option Out := (oAsk (fun ρ => ((do2 dEq (fun ρ => vAt ρ 0) (fun _ => some (.int 0))) ρ).bind asB) (aCons (fun ρ => vAt ρ 1) (aCons (fun ρ => vAt ρ 3) aNil)) (aCons (fun ρ => vAt ρ 1) (aCons (fun ρ => vAt ρ 2) (aCons (fun ρ => vAt ρ 3) aNil))) F_fewest_course F_lots_added "cannot")
def F_law_asked : List D → Option D := runF 4 4 g_law_asked
section
variable {P : Program} {w : World} {K : PySem.W.Frag} {mg : Str → Option Value} {base : Heap}
theorem b_law_asked {C : Addr} (T : Tx mg) (TX : CanT K mg C) (G_fewest_course : DefR P w K mg base C "fewest_course" 14 F_fewest_course) (G_lots_added : DefR P w K mg base C "lots_added" 13 F_lots_added) : BodyOk P w K mg base N_law_asked "_law_asked" s_law_asked 14 g_law_asked := by
  intro f cdv A outer s H E hr
  exact (dss_one (ds_ask TX rfl rfl rfl G_fewest_course G_lots_added (hr.mono (by omega)) (hr.mono (by omega)) rfl rfl (fun _ _ => (dT_eq hr.units (DE.db (de_var 0)) (DE.db de_int))) (fun _ _ => (da_cons (de_var 1) (da_cons (de_var 3) da_nil))) (fun _ _ => (da_cons (de_var 1) (da_cons (de_var 2) (da_cons (de_var 3) da_nil))))))
end

abbrev s_law_by_hand_right : Stmt := topS 56
abbrev N_law_by_hand_right : List Str := ["_law_great", "_law_ring", "_law_loose", "_law_ones", "_law_whole", "_law_got"]
theorem sc_law_by_hand_right : FnScope N_law_by_hand_right [] (defScope s_law_by_hand_right) := ⟨rfl, rfl, rfl, by decide +kernel, rfl, by decide +kernel, by decide +kernel⟩
def g_law_by_hand_right : Rho → Option Out := (oSeq (oAsg (hTup3 0 1 2) (fun _ => F_law_trio []))
    (oSeq (oAsg (hTup2 3 4) (fun ρ => (shortL (aCons (fun ρ => (shortL (aCons (fun ρ => (shortL (aCons (fun _ => some (.int 0)) aNil) ρ).map .tuple) (aCons (fun ρ => (shortL (aCons (fun _ => some (.int 1)) aNil) ρ).map .tuple) (aCons (fun ρ => (shortL (aCons (fun _ => some (.int 2)) aNil) ρ).map .tuple) aNil))) ρ).map .tuple) (aCons (fun ρ => (shortL (aCons (fun ρ => (shortL (aCons (fun _ => some (.int 0)) (aCons (fun _ => some (.int 1)) (aCons (fun _ => some (.int 2)) aNil))) ρ).map .tuple) aNil) ρ).map .tuple) aNil)) ρ).map .tuple))
    (oSeq (oSet 5 (cO (shortL (aCons (fun ρ => ((aCons (fun _ => some (.int 0)) (aCons (fun ρ => (shortL (aCons (fun ρ => vAt ρ 1) aNil) ρ).map .tuple) (aCons (fun _ => some .none) (aCons (fun _ => some (.int 3)) aNil)))) ρ).bind F_law_asked) (aCons (fun ρ => ((aCons (fun _ => some (.int 0)) (aCons (fun ρ => (shortL (aCons (fun ρ => vAt ρ 1) aNil) ρ).map .tuple) (aCons (fun _ => some .none) (aCons (fun _ => some (.int 2)) aNil)))) ρ).bind F_law_asked) aNil)))))
    (oSeq (oApp 5 (fun ρ => ((fun ρ => ((aCons (fun _ => some (.int 0)) (aCons (fun ρ => (shortL (aCons (fun ρ => vAt ρ 0) aNil) ρ).map .tuple) (aCons (fun _ => some .none) (aCons (fun _ => some (.int 2)) aNil)))) ρ).bind F_law_asked) ρ).bind dLen))
    (oSeq (oSet 5 (cO (do2L dCat (fun ρ => bAt ρ 5) (fun ρ => ((shortL (aCons (fun ρ => ((aCons (fun _ => some (.int 1)) (aCons (fun ρ => vAt ρ 0) (aCons (fun ρ => vAt ρ 3) (aCons (fun _ => some (.int 1)) aNil)))) ρ).bind F_law_asked) (aCons (fun ρ => ((aCons (fun _ => some (.int 1)) (aCons (fun ρ => vAt ρ 1) (aCons (fun ρ => vAt ρ 3) (aCons (fun _ => some (.int 3)) aNil)))) ρ).bind F_law_asked) (aCons (fun ρ => ((aCons (fun _ => some (.int 1)) (aCons (fun ρ => vAt ρ 2) (aCons (fun ρ => vAt ρ 3) (aCons (fun _ => some (.int 1)) aNil)))) ρ).bind F_law_asked) aNil)))) ρ).map .list))))
    (oRet (fun ρ => ((aCons (fun ρ => ((do2L dCat (fun ρ => bAt ρ 5) (fun ρ => ((shortL (aCons (fun ρ => ((aCons (fun ρ => (shortL (aCons (fun ρ => vAt ρ 0) (aCons (fun ρ => vAt ρ 2) aNil)) ρ).map .tuple) aNil) ρ).bind F_demands) aNil)) ρ).map .list)) ρ).map .list) (aCons (fun ρ => ((shortL (aCons (fun ρ => vAt ρ 4) (aCons (fun _ => some (.str "cannot")) (aCons (fun _ => some (.int 2)) (aCons (fun _ => some (.int 0)) (aCons (fun _ => some (.int 1)) (aCons (fun _ => some (.str "cannot")) (aCons (fun ρ => (shortL (aCons (fun ρ => (shortL (aCons (fun _ => some (.int 0)) (aCons (fun _ => some (.int 1)) aNil)) ρ).map .tuple) (aCons (fun ρ => (shortL (aCons (fun _ => some (.int 2)) aNil) ρ).map .tuple) aNil)) ρ).map .tuple) aNil)))))))) ρ).map .list) aNil)) ρ).bind F_law_same)))))))
def F_law_by_hand_right : List D → Option D := runF 0 6 g_law_by_hand_right
section
variable {P : Program} {w : World} {K : PySem.W.Frag} {mg : Str → Option Value} {base : Heap}
theorem b_law_by_hand_right (T : Tx mg) (G_law_trio : DefD P w K mg base "_law_trio" 1 F_law_trio) (G_law_asked : DefD P w K mg base "_law_asked" 15 F_law_asked) (G_law_same : DefD P w K mg base "_law_same" 6 F_law_same) (G_demands : DefD P w K mg base "demands" 13 F_demands) : BodyOk P w K mg base N_law_by_hand_right "_law_by_hand_right" s_law_by_hand_right 15 g_law_by_hand_right := by
  intro f cdv A outer s H E hr
  exact (dss_cons (ds_asg (de_call0 G_law_trio (hr.mono (by omega)) rfl) (dg_tup3 (i := 0) (j := 1) (l := 2) rfl sc_law_by_hand_right.nd))
    (dss_cons (ds_asg (de_tup (da_cons (de_tup (da_cons (de_tup (da_cons de_int da_nil)) (da_cons (de_tup (da_cons de_int da_nil)) (da_cons (de_tup (da_cons de_int da_nil)) da_nil)))) (da_cons (de_tup (da_cons (de_tup (da_cons de_int (da_cons de_int (da_cons de_int da_nil)))) da_nil)) da_nil))) (dg_tup2 (i := 3) (j := 4) rfl sc_law_by_hand_right.nd))
    (dss_cons (ds_set (i := 5) sc_law_by_hand_right.nd (dc_o (dl_lst (da_cons (de_call G_law_asked (hr.mono (by omega)) rfl (da_cons de_int (da_cons (de_tup (da_cons (de_var 1) da_nil)) (da_cons de_non (da_cons de_int da_nil))))) (da_cons (de_call G_law_asked (hr.mono (by omega)) rfl (da_cons de_int (da_cons (de_tup (da_cons (de_var 1) da_nil)) (da_cons de_non (da_cons de_int da_nil))))) da_nil)))))
    (dss_cons (ds_app (k := 5) (de_B1 call_len_seq ca_len PySem.boot_len rfl T.len (DE.db (de_call G_law_asked (hr.mono (by omega)) rfl (da_cons de_int (da_cons (de_tup (da_cons (de_var 0) da_nil)) (da_cons de_non (da_cons de_int da_nil))))))))
    (dss_cons (ds_set (i := 5) sc_law_by_hand_right.nd (dc_o (dl_cat (db_var 5) (DL.db (dl_lst (da_cons (de_call G_law_asked (hr.mono (by omega)) rfl (da_cons de_int (da_cons (de_var 0) (da_cons (de_var 3) (da_cons de_int da_nil))))) (da_cons (de_call G_law_asked (hr.mono (by omega)) rfl (da_cons de_int (da_cons (de_var 1) (da_cons (de_var 3) (da_cons de_int da_nil))))) (da_cons (de_call G_law_asked (hr.mono (by omega)) rfl (da_cons de_int (da_cons (de_var 2) (da_cons (de_var 3) (da_cons de_int da_nil))))) da_nil))))))))
    (dss_one (ds_ret (de_call G_law_same (hr.mono (by omega)) rfl (da_cons (DL.de' (dl_cat (db_var 5) (DL.db (dl_lst (da_cons (de_call G_demands (hr.mono (by omega)) rfl (da_cons (de_tup (da_cons (de_var 0) (da_cons (de_var 2) da_nil))) da_nil)) da_nil))))) (da_cons (DL.de' (dl_lst (da_cons (de_var 4) (da_cons de_str (da_cons de_int (da_cons de_int (da_cons de_int (da_cons de_str (da_cons (de_tup (da_cons (de_tup (da_cons de_int (da_cons de_int da_nil))) (da_cons (de_tup (da_cons de_int da_nil)) da_nil))) da_nil))))))))) da_nil))))))))))
end

abbrev s_law_take : Stmt := topS 37
abbrev N_law_take : List Str := ["_law_tin", "_law_below_so", "_law_drawn", "_law_once_so", "_law_wide_so", "_law_twice_so"]
theorem sc_law_take : FnScope N_law_take ["_law_tin", "_law_below_so"] (defScope s_law_take) := ⟨rfl, rfl, rfl, by decide +kernel, rfl, by decide +kernel, by decide +kernel⟩
def g_law_take : Rho → Option Out := (oSeq (oIf (fun ρ => ((do2 dGt (do2 dIx (fun ρ => bAt ρ 0) (fun _ => some (.int 0))) (fun _ => some (.int 0))) ρ).bind asB) (oSeq (oSet 2 (cV (do2 dMod (fun ρ => ((do2 dIx (fun ρ => bAt ρ 0) (fun _ => some (.int 0))) ρ).bind dInt) (fun ρ => vAt ρ 1))))
    (oSeq (oSub 0 (fun _ => some (.int 0)) (do2 dDiv (do2 dIx (fun ρ => bAt ρ 0) (fun _ => some (.int 0))) (fun ρ => vAt ρ 1)))
    (oRet (fun ρ => vAt ρ 2)))) oNext)
    (oSeq (oSub 0 (fun _ => some (.int 2)) (do2 dAdd (do2 dIx (fun ρ => bAt ρ 0) (fun _ => some (.int 2))) (fun _ => some (.int 1))))
    (oSeq (oSet 3 (cV (do2 dMod (fun ρ => ((do2 dMul (do2 dAdd (do2 dIx (fun ρ => bAt ρ 0) (fun _ => some (.int 1))) (do2 dMul (fun _ => some (.int 48271)) (do2 dIx (fun ρ => bAt ρ 0) (fun _ => some (.int 2))))) (do2 dAdd (fun _ => some (.int 39373)) (do2 dIx (fun ρ => bAt ρ 0) (fun _ => some (.int 2))))) ρ).bind dInt) (fun _ => some (.int 2147483647)))))
    (oSeq (oSet 4 (cV (do2 dAdd (do2 dMod (fun ρ => ((fun ρ => vAt ρ 3) ρ).bind dInt) (fun _ => some (.int 40009))) (fun _ => some (.int 7)))))
    (oSeq (oSet 5 (cV (do2 dMod (fun ρ => ((do2 dMul (do2 dAdd (do2 dAdd (fun ρ => vAt ρ 3) (do2 dIx (fun ρ => bAt ρ 0) (fun _ => some (.int 2)))) (do2 dDiv (do2 dIx (fun ρ => bAt ρ 0) (fun _ => some (.int 1))) (fun _ => some (.int 1000003)))) (fun ρ => vAt ρ 4)) ρ).bind dInt) (fun _ => some (.int 2147483629)))))
    (oRet (do2 dMod (fun ρ => ((do2 dDiv (do2 dMod (fun ρ => ((do2 dAdd (do2 dMul (fun ρ => vAt ρ 5) (fun _ => some (.int 48271))) (fun ρ => vAt ρ 3)) ρ).bind dInt) (fun _ => some (.int 2147483587))) (fun _ => some (.int 64))) ρ).bind dInt) (fun ρ => vAt ρ 1))))))))
def F_law_take : List D → List D → Option (D × List D) := runE 2 6 g_law_take
section
variable {P : Program} {w : World} {K : PySem.W.Frag} {mg : Str → Option Value} {base : Heap}
theorem b_law_take (T : Tx mg) : BodyOk P w K mg base N_law_take "_law_take" s_law_take 0 g_law_take := by
  intro f cdv A outer s H E hr
  exact (dss_cons (ds_if (dT_gt (DE.db (de_ix (db_var 0) (DE.db de_int))) (DE.db de_int)) (dss_cons (ds_set (i := 2) sc_law_take.nd (dc_v (de_mod (DE.db (de_T1 call_int1 ca_int (by decide +kernel) rfl T.int (DE.db (de_ix (db_var 0) (DE.db de_int))))) (DE.db (de_var 1)))))
    (dss_cons (ds_sub (k := 0) (de_div (DE.db (de_ix (db_var 0) (DE.db de_int))) (DE.db (de_var 1))) de_int)
    (dss_one (ds_ret (de_var 2))))) dss_nil)
    (dss_cons (ds_sub (k := 0) (de_add (DE.db (de_ix (db_var 0) (DE.db de_int))) (DE.db de_int)) de_int)
    (dss_cons (ds_set (i := 3) sc_law_take.nd (dc_v (de_mod (DE.db (de_T1 call_int1 ca_int (by decide +kernel) rfl T.int (DE.db (de_mul (DE.db (de_add (DE.db (de_ix (db_var 0) (DE.db de_int))) (DE.db (de_mul (DE.db de_int) (DE.db (de_ix (db_var 0) (DE.db de_int))))))) (DE.db (de_add (DE.db de_int) (DE.db (de_ix (db_var 0) (DE.db de_int))))))))) (DE.db de_int))))
    (dss_cons (ds_set (i := 4) sc_law_take.nd (dc_v (de_add (DE.db (de_mod (DE.db (de_T1 call_int1 ca_int (by decide +kernel) rfl T.int (DE.db (de_var 3)))) (DE.db de_int))) (DE.db de_int))))
    (dss_cons (ds_set (i := 5) sc_law_take.nd (dc_v (de_mod (DE.db (de_T1 call_int1 ca_int (by decide +kernel) rfl T.int (DE.db (de_mul (DE.db (de_add (DE.db (de_add (DE.db (de_var 3)) (DE.db (de_ix (db_var 0) (DE.db de_int))))) (DE.db (de_div (DE.db (de_ix (db_var 0) (DE.db de_int))) (DE.db de_int))))) (DE.db (de_var 4)))))) (DE.db de_int))))
    (dss_one (ds_ret (de_mod (DE.db (de_T1 call_int1 ca_int (by decide +kernel) rfl T.int (DE.db (de_div (DE.db (de_mod (DE.db (de_T1 call_int1 ca_int (by decide +kernel) rfl T.int (DE.db (de_add (DE.db (de_mul (DE.db (de_var 5)) (DE.db de_int))) (DE.db (de_var 3)))))) (DE.db de_int))) (DE.db de_int))))) (DE.db (de_var 1))))))))))
end

abbrev s_law_pick : Stmt := topS 39
abbrev N_law_pick : List Str := ["_law_tin", "_law_goods_so", "_law_count_so", "_law_pool_so", "_law_found", "_law_lap"]
theorem sc_law_pick : FnScope N_law_pick ["_law_tin", "_law_goods_so", "_law_count_so"] (defScope s_law_pick) := ⟨rfl, rfl, rfl, by decide +kernel, rfl, by decide +kernel, by decide +kernel⟩
def g_law_pick : Rho → Option Out := (oSeq (oPar 3 4 (cO (fun ρ => ((fun ρ => vAt ρ 1) ρ).bind dItems)) (cO (shortL aNil)))
    (oSeq (oFor (fun ρ => ((aCons (fun ρ => ((aCons (fun ρ => ((fun ρ => vAt ρ 2) ρ).bind dInt) (aCons (fun ρ => ((fun ρ => bAt ρ 3) ρ).bind dLen) aNil)) ρ).bind dMin2) aNil) ρ).bind dRng1) (hName 5) (oAppPop 0 4 3 (xCall 0 (xCons 0 (xPure 0 (fun ρ => ((fun ρ => bAt ρ 3) ρ).bind dLen)) (xNil 0)) F_law_take)))
    (fun ρ => (oRet (fun ρ => vAt ρ 4)) (frz ρ 4))))
def F_law_pick : List D → List D → Option (D × List D) := runE 3 6 g_law_pick
section
variable {P : Program} {w : World} {K : PySem.W.Frag} {mg : Str → Option Value} {base : Heap}
theorem b_law_pick (T : Tx mg) (G_law_take : DefE P w K mg base "_law_take" 1 F_law_take) : BodyOk P w K mg base N_law_pick "_law_pick" s_law_pick 1 g_law_pick := by
  intro f cdv A outer s H E hr
  exact (dss_cons (ds_par (i := 3) (j := 4) rfl sc_law_pick.nd (dc_o (dl_T1 call_list_of ca_list (by decide +kernel) rfl T.list (DE.db (de_var 1)))) (dc_o (dl_lst da_nil)))
    (dss_cons (ds_for PassesOwn.never rfl (di_rng1 rfl rfl T.range (da_cons (de_min2 (by decide +kernel) rfl rfl T.min (da_cons (de_T1 call_int1 ca_int (by decide +kernel) rfl T.int (DE.db (de_var 2))) (da_cons (de_B1 call_len_seq ca_len PySem.boot_len rfl T.len (db_var 3)) da_nil))) da_nil)) (dg_name (i := 5) sc_law_pick.nd) (dss_one (ds_appPop (k := 0) (kf := 4) (kp := 3) (by decide) (by decide) (by decide) (x_call G_law_take (hr.mono (by omega)) rfl (xa_cons (x_pure (de_B1 call_len_seq ca_len PySem.boot_len rfl T.len (db_var 3))) xa_nil)))))
    (dss_one (ds_frz 4 (ds_ret (de_var 4))))))
end

abbrev s_law_rule : Stmt := topS 43
abbrev N_law_rule : List Str := ["_law_tin", "_law_wide_so", "_law_most_so", "_law_found", "_law_lot_so", "_law_own"]
theorem sc_law_rule : FnScope N_law_rule ["_law_tin", "_law_wide_so", "_law_most_so"] (defScope s_law_rule) := ⟨rfl, rfl, rfl, by decide +kernel, rfl, by decide +kernel, by decide +kernel⟩
def g_law_rule : Rho → Option Out := (oSeq (oSet 3 (cO (shortL aNil)))
    (oSeq (oFor (fun ρ => ((fun ρ => ((aCons (fun ρ => vAt ρ 1) aNil) ρ).bind F_law_lots) ρ).bind dItems) (hName 4) (oIf (fun ρ => ((do2 dGt (fun ρ => ((fun ρ => vAt ρ 4) ρ).bind dLen) (fun _ => some (.int 1))) ρ).bind asB) (oSeq (oSetX 0 5 (xCall 0 (xCons 0 (xPure 0 (fun ρ => vAt ρ 4)) (xCons 0 (xTwo 0 dAdd (xPure 0 (fun _ => some (.int 1))) (xCall 0 (xCons 0 (xPure 0 (fun ρ => vAt ρ 2)) (xNil 0)) F_law_take)) (xNil 0))) F_law_pick))
    (oApp 3 (fun ρ => (shortL (aCons (fun ρ => vAt ρ 4) (aCons (fun ρ => ((fun ρ => ((fun ρ => ((fun ρ => vAt ρ 5) ρ).bind dSortI) ρ).map .list) ρ).bind dTuple) aNil)) ρ).map .tuple))) oNext))
    (oRet (fun ρ => ((fun ρ => bAt ρ 3) ρ).bind dTuple))))
def F_law_rule : List D → List D → Option (D × List D) := runE 3 6 g_law_rule
section
variable {P : Program} {w : World} {K : PySem.W.Frag} {mg : Str → Option Value} {base : Heap}
theorem b_law_rule (T : Tx mg) (G_law_lots : DefD P w K mg base "_law_lots" 1 F_law_lots) (G_law_pick : DefE P w K mg base "_law_pick" 2 F_law_pick) (G_law_take : DefE P w K mg base "_law_take" 1 F_law_take) : BodyOk P w K mg base N_law_rule "_law_rule" s_law_rule 2 g_law_rule := by
  intro f cdv A outer s H E hr
  exact (dss_cons (ds_set (i := 3) sc_law_rule.nd (dc_o (dl_lst da_nil)))
    (dss_cons (ds_for PassesOwn.never rfl (di_seq (de_call G_law_lots (hr.mono (by omega)) rfl (da_cons (de_var 1) da_nil))) (dg_name (i := 4) sc_law_rule.nd) (dss_one (ds_if (dT_gt (DE.db (de_B1 call_len_seq ca_len PySem.boot_len rfl T.len (DE.db (de_var 4)))) (DE.db de_int)) (dss_cons (ds_setX (k := 0) (i := 5) sc_law_rule.nd (x_call G_law_pick (hr.mono (by omega)) rfl (xa_cons (x_pure (de_var 4)) (xa_cons (x_add (x_pure de_int) (x_call G_law_take (hr.mono (by omega)) rfl (xa_cons (x_pure (de_var 2)) xa_nil))) xa_nil))))
    (dss_one (ds_app (k := 3) (de_tup (da_cons (de_var 4) (da_cons (de_T1 call_tuple_of ca_tuple (by decide +kernel) rfl T.tuple (DL.db (dl_B1 cr_sortedI ca_sortI (by decide +kernel) rfl T.sorted (DE.db (de_var 5))))) da_nil)))))) dss_nil)))
    (dss_one (ds_ret (de_T1 call_tuple_of ca_tuple (by decide +kernel) rfl T.tuple (db_var 3))))))
end

abbrev s_law_course : Stmt := topS 44
abbrev N_law_course : List Str := ["_law_tin", "_law_wide_so", "_law_many_so", "_law_found", "_law_lap", "_law_own"]
theorem sc_law_course : FnScope N_law_course ["_law_tin", "_law_wide_so", "_law_many_so"] (defScope s_law_course) := ⟨rfl, rfl, rfl, by decide +kernel, rfl, by decide +kernel, by decide +kernel⟩
def g_law_course : Rho → Option Out := (oSeq (oSet 3 (cO (shortL aNil)))
    (oSeq (oFor (fun ρ => ((aCons (fun ρ => vAt ρ 2) aNil) ρ).bind dRng1) (hName 4) (oSeq (oSetX 0 5 (xCall 0 (xCons 0 (xPure 0 (fun ρ => ((fun ρ => ((fun ρ => vAt ρ 1) ρ).bind dRgT) ρ).map .list)) (xCons 0 (xTwo 0 dAdd (xPure 0 (fun _ => some (.int 1))) (xCall 0 (xCons 0 (xPure 0 (fun ρ => vAt ρ 1)) (xNil 0)) F_law_take)) (xNil 0))) F_law_pick))
    (oApp 3 (fun ρ => ((fun ρ => ((fun ρ => ((fun ρ => vAt ρ 5) ρ).bind dSortI) ρ).map .list) ρ).bind dTuple))))
    (oRet (fun ρ => ((fun ρ => bAt ρ 3) ρ).bind dTuple))))
def F_law_course : List D → List D → Option (D × List D) := runE 3 6 g_law_course
section
variable {P : Program} {w : World} {K : PySem.W.Frag} {mg : Str → Option Value} {base : Heap}
theorem b_law_course (T : Tx mg) (G_law_pick : DefE P w K mg base "_law_pick" 2 F_law_pick) (G_law_take : DefE P w K mg base "_law_take" 1 F_law_take) : BodyOk P w K mg base N_law_course "_law_course" s_law_course 2 g_law_course := by
  intro f cdv A outer s H E hr
  exact (dss_cons (ds_set (i := 3) sc_law_course.nd (dc_o (dl_lst da_nil)))
    (dss_cons (ds_for PassesOwn.never rfl (di_rng1 rfl rfl T.range (da_cons (de_var 2) da_nil)) (dg_name (i := 4) sc_law_course.nd) (dss_cons (ds_setX (k := 0) (i := 5) sc_law_course.nd (x_call G_law_pick (hr.mono (by omega)) rfl (xa_cons (x_pure (DL.de' (dl_listRg rfl rfl T.list rfl T.range (de_var 1)))) (xa_cons (x_add (x_pure de_int) (x_call G_law_take (hr.mono (by omega)) rfl (xa_cons (x_pure (de_var 1)) xa_nil))) xa_nil))))
    (dss_one (ds_app (k := 3) (de_T1 call_tuple_of ca_tuple (by decide +kernel) rfl T.tuple (DL.db (dl_B1 cr_sortedI ca_sortI (by decide +kernel) rfl T.sorted (DE.db (de_var 5)))))))))
    (dss_one (ds_ret (de_T1 call_tuple_of ca_tuple (by decide +kernel) rfl T.tuple (db_var 3))))))
end

abbrev s_law_right : Stmt := topS 57
abbrev N_law_right : List Str := ["_law_tin", "_law_wide_so", "_law_most_so", "_law_rules_so", "_law_lap", "_law_wanted_so", "_law_due", "_law_told", "_law_own", "_law_things_so", "_law_goods_so", "_law_good", "_law_lot_so", "_law_course_so", "_law_left_so", "_law_got"]
theorem sc_law_right : FnScope N_law_right ["_law_tin"] (defScope s_law_right) := ⟨rfl, rfl, rfl, by decide +kernel, rfl, by decide +kernel, by decide +kernel⟩
def g_law_right : Rho → Option Out := (oSeq (oAsgX 0 (hTup2 1 2) (xTup (xCons 0 (xTwo 0 dAdd (xPure 0 (fun _ => some (.int 3))) (xCall 0 (xCons 0 (xPure 0 (fun _ => some (.int 2))) (xNil 0)) F_law_take)) (xCons 0 (xTwo 0 dAdd (xPure 0 (fun _ => some (.int 1))) (xCall 0 (xCons 0 (xPure 0 (fun _ => some (.int 3))) (xNil 0)) F_law_take)) (xNil 0)))))
    (oSeq (oSet 3 (cV (fun ρ => (shortL aNil ρ).map .tuple)))
    (oSeq (oForX 0 (xCons 0 (xTwo 0 dAdd (xPure 0 (fun _ => some (.int 1))) (xCall 0 (xCons 0 (xPure 0 (fun _ => some (.int 2))) (xNil 0)) F_law_take)) (xNil 0)) (hName 4) (oSetX 0 3 (xTwo 0 dAdd (xPure 0 (fun ρ => vAt ρ 3)) (xTup (xCons 0 (xCall 0 (xCons 0 (xPure 0 (fun ρ => vAt ρ 1)) (xCons 0 (xTwo 0 dAdd (xPure 0 (fun _ => some (.int 1))) (xMap dInt (xTwo 0 dEq (xCall 0 (xCons 0 (xPure 0 (fun _ => some (.int 4))) (xNil 0)) F_law_take) (xPure 0 (fun _ => some (.int 0)))))) (xNil 0))) F_law_rule) (xNil 0))))))
    (oSeq (oSet 5 (cV (fun ρ => ((aCons (fun ρ => vAt ρ 3) (aCons (fun ρ => vAt ρ 1) aNil)) ρ).bind F_law_wanted)))
    (oSeq (oAsg (hTup2 6 7) (fun ρ => (shortL (aCons (fun ρ => ((aCons (fun ρ => vAt ρ 1) (aCons (fun ρ => vAt ρ 5) (aCons (fun ρ => vAt ρ 2) aNil))) ρ).bind F_law_fewest) (aCons (fun ρ => ((aCons (fun _ => some (.int 0)) (aCons (fun ρ => ((aCons (fun ρ => vAt ρ 3) aNil) ρ).bind F_law_lists) (aCons (fun _ => some .none) (aCons (fun ρ => vAt ρ 2) aNil)))) ρ).bind F_law_asked) aNil)) ρ).map .tuple))
    (oSeq (oIf (bNot (fun ρ => ((fun ρ => ((aCons (fun ρ => ((aCons (fun ρ => vAt ρ 3) aNil) ρ).bind F_demands) (aCons (fun ρ => ((fun ρ => vAt ρ 5) ρ).bind dTuple) aNil)) ρ).bind F_law_same) ρ).bind asB)) (oRet (fun _ => some (.bool false))) oNext)
    (oSeq (oIf (fun ρ => ((do2 dIsN (fun ρ => vAt ρ 6) (fun _ => some .none)) ρ).bind asB) (oIf (fun ρ => ((do2 dNe (fun ρ => vAt ρ 7) (fun _ => some (.str "cannot"))) ρ).bind asB) (oRet (fun _ => some (.bool false))) oNext) (oIf (bOr (bNot (fun ρ => ((fun ρ => ((aCons (fun ρ => vAt ρ 7) (aCons (fun ρ => vAt ρ 1) (aCons (fun ρ => vAt ρ 2) aNil))) ρ).bind F_law_is_course) ρ).bind asB)) (fun ρ => ((do2 dNe (fun ρ => ((fun ρ => vAt ρ 7) ρ).bind dLen) (fun ρ => vAt ρ 6)) ρ).bind asB)) (oRet (fun _ => some (.bool false))) (oIf (fun ρ => ((do2 dNe (fun ρ => ((compD (fun ρ => ((fun ρ => vAt ρ 5) ρ).bind dItems) (hName 8) (bNot (fun ρ => ((fun ρ => ((aCons (fun ρ => vAt ρ 8) (aCons (fun ρ => vAt ρ 7) aNil)) ρ).bind F_law_lies) ρ).bind asB)) (fun ρ => vAt ρ 8) [8]) ρ).map .list) (fun ρ => ((shortL aNil) ρ).map .list)) ρ).bind asB) (oRet (fun _ => some (.bool false))) oNext)))
    (oSeq (oSetXC 0 9 4 (fun ρ => ((aCons (fun _ => some (.int 2)) aNil) ρ).bind dRng1) [4] (xCall 0 (xCons 0 (xPure 0 (fun ρ => vAt ρ 1)) (xCons 0 (xTwo 0 dAdd (xPure 0 (fun _ => some (.int 1))) (xCall 0 (xCons 0 (xPure 0 (fun _ => some (.int 3))) (xNil 0)) F_law_take)) (xNil 0))) F_law_course))
    (oSeq (oIf (fun ρ => ((do2 dNotN (fun ρ => vAt ρ 6) (fun _ => some .none)) ρ).bind asB) (oSet 9 (cV (fun ρ => ((do2L dCat (fun ρ => vAt ρ 9) (fun ρ => ((shortL (aCons (fun ρ => vAt ρ 7) (aCons (fun ρ => ((fun ρ => vAt ρ 7) ρ).bind dRev) (aCons (do2 dAdd (fun ρ => vAt ρ 7) (fun ρ => ((fun ρ => vAt ρ 7) ρ).bind (dSl none (some 1)))) (aCons (fun ρ => ((fun ρ => vAt ρ 7) ρ).bind (dSl (some 1) none)) (aCons (fun ρ => ((fun ρ => ((fun ρ => vAt ρ 7) ρ).bind dItems) ρ).map .list) aNil)))))) ρ).map .list)) ρ).map .list))) oNext)
    (oSeq (oSet 10 (cO (shortL aNil)))
    (oSeq (oFor (fun ρ => ((fun ρ => vAt ρ 9) ρ).bind dItems) (hName 8) (oSeq (oSet 11 (cV (dAndV (do2 dNotN (fun ρ => vAt ρ 6) (fun _ => some .none)) (dAndV (do2 dEq (fun ρ => ((fun ρ => vAt ρ 8) ρ).bind dLen) (fun ρ => vAt ρ 6)) (fun ρ => ((aCons (fun ρ => vAt ρ 8) (aCons (fun ρ => vAt ρ 1) (aCons (fun ρ => vAt ρ 2) aNil))) ρ).bind F_law_is_course)))))
    (oApp 10 (dAndV (fun ρ => vAt ρ 11) (do2 dEq (fun ρ => ((compD (fun ρ => ((fun ρ => vAt ρ 5) ρ).bind dItems) (hName 12) (bNot (fun ρ => ((fun ρ => ((aCons (fun ρ => vAt ρ 12) (aCons (fun ρ => vAt ρ 8) aNil)) ρ).bind F_law_lies) ρ).bind asB)) (fun ρ => vAt ρ 12) [12]) ρ).map .list) (fun ρ => ((shortL aNil) ρ).map .list))))))
    (oSeq (fun ρ => (oIf (bNot (fun ρ => ((fun ρ => ((aCons (fun ρ => ((compD (fun ρ => ((fun ρ => vAt ρ 9) ρ).bind dItems) (hName 8) (fun _ => some true) (fun ρ => ((aCons (fun ρ => vAt ρ 3) (aCons (fun ρ => vAt ρ 2) (aCons (fun ρ => vAt ρ 8) aNil))) ρ).bind F_is_fewest_course) [8]) ρ).map .list) (aCons (fun ρ => vAt ρ 10) aNil)) ρ).bind F_law_same) ρ).bind asB)) (oRet (fun _ => some (.bool false))) oNext) (frz ρ 10))
    (oSeq (oSetX 0 13 (xCall 0 (xCons 0 (xPure 0 (fun ρ => vAt ρ 1)) (xCons 0 (xPure 0 (fun _ => some (.int 1))) (xNil 0))) F_law_course))
    (oSeq (oSet 14 (mkV (compD (fun ρ => ((fun ρ => ((aCons (fun ρ => ((fun ρ => vAt ρ 3) ρ).bind (dSl none (some 1))) (aCons (fun ρ => vAt ρ 1) aNil)) ρ).bind F_law_wanted) ρ).bind dItems) (hName 8) (bNot (fun ρ => ((fun ρ => ((aCons (fun ρ => vAt ρ 8) (aCons (fun ρ => vAt ρ 13) aNil)) ρ).bind F_law_lies) ρ).bind asB)) (fun ρ => vAt ρ 8) [8])))
    (oSeq (oSet 6 (cV (fun ρ => ((aCons (fun ρ => vAt ρ 1) (aCons (fun ρ => vAt ρ 14) (aCons (fun ρ => vAt ρ 2) aNil))) ρ).bind F_law_fewest)))
    (oSeq (oSet 15 (cO (shortL (aCons (fun ρ => ((aCons (fun _ => some (.int 1)) (aCons (do2 dIx (fun ρ => vAt ρ 3) (fun _ => some (.int 0))) (aCons (fun ρ => vAt ρ 13) (aCons (fun ρ => vAt ρ 2) aNil)))) ρ).bind F_law_asked) aNil))))
    (oSeq (oApp 15 (fun ρ => ((aCons (fun _ => some (.int 1)) (aCons (do2 dIx (fun ρ => vAt ρ 3) (fun _ => some (.int 0))) (aCons (fun ρ => ((aCons (fun ρ => vAt ρ 13) aNil) ρ).bind F_law_lists) (aCons (fun ρ => vAt ρ 2) aNil)))) ρ).bind F_law_asked))
    (fun ρ => (oRet (fun ρ => ((aCons (fun ρ => vAt ρ 15) (aCons (fun ρ => ((do2L dRep (fun ρ => ((shortL (aCons (dIf (fun ρ => ((do2 dIsN (fun ρ => vAt ρ 6) (fun _ => some .none)) ρ).bind asB) (fun _ => some (.str "cannot")) (fun ρ => vAt ρ 6)) aNil)) ρ).map .list) (fun _ => some (.int 2))) ρ).map .list) aNil)) ρ).bind F_law_same)) (frz ρ 15)))))))))))))))))))
def F_law_right : List D → List D → Option (D × List D) := runE 1 16 g_law_right
section
variable {P : Program} {w : World} {K : PySem.W.Frag} {mg : Str → Option Value} {base : Heap}
theorem b_law_right (T : Tx mg) (G_law_take : DefE P w K mg base "_law_take" 1 F_law_take) (G_law_rule : DefE P w K mg base "_law_rule" 3 F_law_rule) (G_law_wanted : DefD P w K mg base "_law_wanted" 4 F_law_wanted) (G_law_fewest : DefD P w K mg base "_law_fewest" 2 F_law_fewest) (G_law_asked : DefD P w K mg base "_law_asked" 15 F_law_asked) (G_law_lists : DefD P w K mg base "_law_lists" 6 F_law_lists) (G_law_same : DefD P w K mg base "_law_same" 6 F_law_same) (G_demands : DefD P w K mg base "demands" 13 F_demands) (G_law_is_course : DefD P w K mg base "_law_is_course" 7 F_law_is_course) (G_law_lies : DefD P w K mg base "_law_lies" 1 F_law_lies) (G_law_course : DefE P w K mg base "_law_course" 3 F_law_course) (G_is_fewest_course : DefD P w K mg base "is_fewest_course" 14 F_is_fewest_course) : BodyOk P w K mg base N_law_right "_law_right" s_law_right 15 g_law_right := by
  intro f cdv A outer s H E hr
  exact (dss_cons (ds_asgX (k := 0) (x_tup (xa_cons (x_add (x_pure de_int) (x_call G_law_take (hr.mono (by omega)) rfl (xa_cons (x_pure de_int) xa_nil))) (xa_cons (x_add (x_pure de_int) (x_call G_law_take (hr.mono (by omega)) rfl (xa_cons (x_pure de_int) xa_nil))) xa_nil))) (dg_tup2 (i := 1) (j := 2) rfl sc_law_right.nd))
    (dss_cons (ds_set (i := 3) sc_law_right.nd (dc_v (de_tup da_nil)))
    (dss_cons (ds_forX (k := 0) PassesOwn.never rfl rfl rfl T.range (xa_cons (x_add (x_pure de_int) (x_call G_law_take (hr.mono (by omega)) rfl (xa_cons (x_pure de_int) xa_nil))) xa_nil) (dg_name (i := 4) sc_law_right.nd) (dss_one (ds_setX (k := 0) (i := 3) sc_law_right.nd (x_add (x_pure (de_var 3)) (x_tup (xa_cons (x_call G_law_rule (hr.mono (by omega)) rfl (xa_cons (x_pure (de_var 1)) (xa_cons (x_add (x_pure de_int) (x_T1 call_int1 ca_int (by decide +kernel) rfl T.int (x_eq hr.units (x_call G_law_take (hr.mono (by omega)) rfl (xa_cons (x_pure de_int) xa_nil)) (x_pure de_int)))) xa_nil))) xa_nil))))))
    (dss_cons (ds_set (i := 5) sc_law_right.nd (dc_v (de_call G_law_wanted (hr.mono (by omega)) rfl (da_cons (de_var 3) (da_cons (de_var 1) da_nil)))))
    (dss_cons (ds_asg (de_tup (da_cons (de_call G_law_fewest (hr.mono (by omega)) rfl (da_cons (de_var 1) (da_cons (de_var 5) (da_cons (de_var 2) da_nil)))) (da_cons (de_call G_law_asked (hr.mono (by omega)) rfl (da_cons de_int (da_cons (de_call G_law_lists (hr.mono (by omega)) rfl (da_cons (de_var 3) da_nil)) (da_cons de_non (da_cons (de_var 2) da_nil))))) da_nil))) (dg_tup2 (i := 6) (j := 7) rfl sc_law_right.nd))
    (dss_cons (ds_if (dT_not (dT_val (de_call G_law_same (hr.mono (by omega)) rfl (da_cons (de_call G_demands (hr.mono (by omega)) rfl (da_cons (de_var 3) da_nil)) (da_cons (de_T1 call_tuple_of ca_tuple (by decide +kernel) rfl T.tuple (DE.db (de_var 5))) da_nil))))) (dss_one (ds_ret de_bl)) dss_nil)
    (dss_cons (ds_if (dT_is (DE.db (de_var 6)) (DE.db de_non)) (dss_one (ds_if (dT_ne hr.units (DE.db (de_var 7)) (DE.db de_str)) (dss_one (ds_ret de_bl)) dss_nil)) (dss_one (ds_if (DW.dt (dW_or (dT_not (dT_val (de_call G_law_is_course (hr.mono (by omega)) rfl (da_cons (de_var 7) (da_cons (de_var 1) (da_cons (de_var 2) da_nil)))))) (dW_or1 (dT_ne hr.units (DE.db (de_B1 call_len_seq ca_len PySem.boot_len rfl T.len (DE.db (de_var 7)))) (DE.db (de_var 6)))))) (dss_one (ds_ret de_bl)) (dss_one (ds_if (dT_ne hr.units (DL.db (dl_lc rfl sc_law_right.nd (di_seq (de_var 5)) (blkOk_by (own := [("_law_own", 8)]) (N := N_law_right) (sc := defScope s_law_right) (by decide +kernel)) (fun _ _ _ _ _ => (dg_name (i := 8) sc_law_right.nd)) (fun _ _ _ _ _ => (dp_one (dT_not (dT_val (de_call G_law_lies (hr.mono (by omega)) rfl (da_cons (de_var 8) (da_cons (de_var 7) da_nil))))))) (fun _ _ _ _ _ => (de_var 8)))) (DL.db (dl_lst da_nil))) (dss_one (ds_ret de_bl)) dss_nil)))))
    (dss_cons (ds_setXC (k := 0) (j := 4) (i := 9) rfl sc_law_right.nd (di_rng1 rfl rfl T.range (da_cons de_int da_nil)) (blkOk_by (own := [("_law_lap", 4)]) (N := N_law_right) (sc := defScope s_law_right) (by decide +kernel)) (fun _ _ _ _ _ => pg_name sc_law_right.nd rfl (by first | exact Or.inl rfl | exact Or.inr rfl)) (fun _ _ _ _ _ => (x_call G_law_course (hr.mono (by omega)) rfl (xa_cons (x_pure (de_var 1)) (xa_cons (x_add (x_pure de_int) (x_call G_law_take (hr.mono (by omega)) rfl (xa_cons (x_pure de_int) xa_nil))) xa_nil)))) (by decide) (by decide))
    (dss_cons (ds_if (dT_isnot (DE.db (de_var 6)) (DE.db de_non)) (dss_one (ds_set (i := 9) sc_law_right.nd (dc_v (DL.de' (dl_cat (DE.db (de_var 9)) (DL.db (dl_lst (da_cons (de_var 7) (da_cons (de_rev (de_var 7)) (da_cons (de_add (DE.db (de_var 7)) (DE.db (de_slT (de_var 7) do_none do_int))) (da_cons (de_slT (de_var 7) do_int do_none) (da_cons (DL.de' (dl_T1 call_list_of ca_list (by decide +kernel) rfl T.list (DE.db (de_var 7)))) da_nil)))))))))))) dss_nil)
    (dss_cons (ds_set (i := 10) sc_law_right.nd (dc_o (dl_lst da_nil)))
    (dss_cons (ds_for PassesOwn.never rfl (di_seq (de_var 9)) (dg_name (i := 8) sc_law_right.nd) (dss_cons (ds_set (i := 11) sc_law_right.nd (dc_v (de_and (de_isnot (DE.db (de_var 6)) (DE.db de_non)) (de_and (de_eq hr.units (DE.db (de_B1 call_len_seq ca_len PySem.boot_len rfl T.len (DE.db (de_var 8)))) (DE.db (de_var 6))) (de_one (de_call G_law_is_course (hr.mono (by omega)) rfl (da_cons (de_var 8) (da_cons (de_var 1) (da_cons (de_var 2) da_nil)))))))))
    (dss_one (ds_app (k := 10) (de_and (de_var 11) (de_one (de_eq hr.units (DL.db (dl_lc rfl sc_law_right.nd (di_seq (de_var 5)) (blkOk_by (own := [("_law_lot_so", 12)]) (N := N_law_right) (sc := defScope s_law_right) (by decide +kernel)) (fun _ _ _ _ _ => (dg_name (i := 12) sc_law_right.nd)) (fun _ _ _ _ _ => (dp_one (dT_not (dT_val (de_call G_law_lies (hr.mono (by omega)) rfl (da_cons (de_var 12) (da_cons (de_var 8) da_nil))))))) (fun _ _ _ _ _ => (de_var 12)))) (DL.db (dl_lst da_nil)))))))))
    (dss_cons (ds_frz 10 (ds_if (dT_not (dT_val (de_call G_law_same (hr.mono (by omega)) rfl (da_cons (DL.de' (dl_lc rfl sc_law_right.nd (di_seq (de_var 9)) (blkOk_by (own := [("_law_own", 8)]) (N := N_law_right) (sc := defScope s_law_right) (by decide +kernel)) (fun _ _ _ _ _ => (dg_name (i := 8) sc_law_right.nd)) (fun _ _ _ _ _ => dp_nil) (fun _ _ _ _ _ => (de_call G_is_fewest_course (hr.mono (by omega)) rfl (da_cons (de_var 3) (da_cons (de_var 2) (da_cons (de_var 8) da_nil))))))) (da_cons (de_var 10) da_nil))))) (dss_one (ds_ret de_bl)) dss_nil))
    (dss_cons (ds_setX (k := 0) (i := 13) sc_law_right.nd (x_call G_law_course (hr.mono (by omega)) rfl (xa_cons (x_pure (de_var 1)) (xa_cons (x_pure de_int) xa_nil))))
    (dss_cons (ds_setLc (i := 14) mkV (Or.inr rfl) rfl sc_law_right.nd (di_seq (de_call G_law_wanted (hr.mono (by omega)) rfl (da_cons (de_slT (de_var 3) do_none do_int) (da_cons (de_var 1) da_nil)))) (blkOk_by (own := [("_law_own", 8)]) (N := N_law_right) (sc := defScope s_law_right) (by decide +kernel)) (fun _ _ _ _ _ => (dg_name (i := 8) sc_law_right.nd)) (fun _ _ _ _ _ => (dp_one (dT_not (dT_val (de_call G_law_lies (hr.mono (by omega)) rfl (da_cons (de_var 8) (da_cons (de_var 13) da_nil))))))) (fun _ _ _ _ _ => (de_var 8)))
    (dss_cons (ds_set (i := 6) sc_law_right.nd (dc_v (de_call G_law_fewest (hr.mono (by omega)) rfl (da_cons (de_var 1) (da_cons (de_var 14) (da_cons (de_var 2) da_nil))))))
    (dss_cons (ds_set (i := 15) sc_law_right.nd (dc_o (dl_lst (da_cons (de_call G_law_asked (hr.mono (by omega)) rfl (da_cons de_int (da_cons (de_ix (DE.db (de_var 3)) (DE.db de_int)) (da_cons (de_var 13) (da_cons (de_var 2) da_nil))))) da_nil))))
    (dss_cons (ds_app (k := 15) (de_call G_law_asked (hr.mono (by omega)) rfl (da_cons de_int (da_cons (de_ix (DE.db (de_var 3)) (DE.db de_int)) (da_cons (de_call G_law_lists (hr.mono (by omega)) rfl (da_cons (de_var 13) da_nil)) (da_cons (de_var 2) da_nil))))))
    (dss_one (ds_frz 15 (ds_ret (de_call G_law_same (hr.mono (by omega)) rfl (da_cons (de_var 15) (da_cons (DL.de' (dl_rep (DL.db (dl_lst (da_cons (de_if (dT_is (DE.db (de_var 6)) (DE.db de_non)) de_str (de_var 6)) da_nil))) (DE.db de_int))) da_nil)))))))))))))))))))))))
end

end GY
set_option Elab.async false
set_option linter.all false
set_option maxRecDepth 100000
set_option maxHeartbeats 4000000
namespace GY
open PySem PySem.Spec PyProof.Rows L2
abbrev s_law_box : Stmt := topS 36
abbrev N_law_box : List Str := ["_law_script", "_law_k", "_law_bit_so"]
theorem sc_law_box : FnScope N_law_box ["_law_script", "_law_k"] (defScope s_law_box) := ⟨rfl, rfl, rfl, by decide +kernel, rfl, by decide +kernel, by decide +kernel⟩
def g_law_box : Rho → Option Out := (oSet 2 (cV (dIf (fun ρ => ((do2 dLt (fun ρ => vAt ρ 1) (fun ρ => ((fun ρ => vAt ρ 0) ρ).bind dLen)) ρ).bind asB) (do2 dIx (fun ρ => vAt ρ 0) (fun ρ => vAt ρ 1)) (fun _ => some (.int 0)))))
def h_law_box : Rho → Option (List D) := (shortL (aCons (do2 dMul (fun ρ => ((fun ρ => vAt ρ 2) ρ).bind dAbs) (fun ρ => ((do2 dGe (fun ρ => ((fun ρ => vAt ρ 2) ρ).bind dAbs) (do2 dPow (fun _ => some (.int 10)) (fun _ => some (.int 18)))) ρ).bind dInt)) (aCons (do2 dAdd (do2 dAdd (do2 dMod (fun ρ => ((fun ρ => vAt ρ 2) ρ).bind dInt) (fun _ => some (.int 2305843009213693951))) (do2 dMul (fun _ => some (.int 39373)) (fun ρ => vAt ρ 1))) (fun _ => some (.int 3168074))) (aCons (fun _ => some (.int 0)) aNil))))
def F_law_box : List D → Option (List D) := runL 2 3 g_law_box h_law_box
abbrev st_law_box : Stmt := (defBody s_law_box).getD 0 (.Pass ⟨0, 0, 0, 0⟩)
abbrev ex_law_box : Expr := skid ((defBody s_law_box).getD 1 (.Pass ⟨0, 0, 0, 0⟩)) 0
section
variable {P : Program} {w : World} {K : PySem.W.Frag} {mg : Str → Option Value} {base : Heap}
theorem b_law_box (T : Tx mg) : ∀ (f : Addr) (cdv : Value) (A : Around) (outer : List Env) (s : Shared) (H : Hp) (E : XK), Room 0 (A.deeper (envOfC "_law_box" (defScope s_law_box) s.heap.objs.size f cdv)) →
    DS (cxOf CX0 P w K mg base N_law_box "_law_box" (defScope s_law_box) f cdv A outer s H E).nox R0 st_law_box g_law_box ∧ DL (cxOf CX0 P w K mg base N_law_box "_law_box" (defScope s_law_box) f cdv A outer s H E).nox ex_law_box h_law_box := by
  intro f cdv A outer s H E hr
  exact ⟨(ds_set (i := 2) sc_law_box.nd (dc_v (de_if (dT_lt (DE.db (de_var 1)) (DE.db (de_B1 call_len_seq ca_len PySem.boot_len rfl T.len (DE.db (de_var 0))))) (de_ix (DE.db (de_var 0)) (DE.db (de_var 1))) de_int))), (dl_lst (da_cons (de_mul (DE.db (de_B1 call_abs ca_abs (by decide +kernel) rfl T.abs (DE.db (de_var 2)))) (DE.db (de_T1 call_int1 ca_int (by decide +kernel) rfl T.int (DE.db (de_ge (DE.db (de_B1 call_abs ca_abs (by decide +kernel) rfl T.abs (DE.db (de_var 2)))) (DE.db (de_pow (DE.db de_int) (DE.db de_int)))))))) (da_cons (de_add (DE.db (de_add (DE.db (de_mod (DE.db (de_T1 call_int1 ca_int (by decide +kernel) rfl T.int (DE.db (de_var 2)))) (DE.db de_int))) (DE.db (de_mul (DE.db de_int) (DE.db (de_var 1)))))) (DE.db de_int)) (da_cons de_int da_nil))))⟩
end

end GY
set_option Elab.async false
set_option linter.all false
set_option maxRecDepth 100000
set_option maxHeartbeats 4000000
/-! Gm0: the data of lots, courses, rules; loops over such data. -/
namespace GY
open PySem PySem.Spec PyProof.Rows L2

abbrev Lot := List Int
abbrev Rule := List (Lot × Lot)
/-- a list or a tuple -/
def seqD : Bool → List D → D
  | true, ds => .list ds
  | false, ds => .tuple ds
def eLb (b : Bool) (l : Lot) : D := seqD b (l.map .int)
def eCb (b : Bool) (c : List Lot) : D := seqD b (c.map (eLb b))
def ePb (b : Bool) (p : Lot × Lot) : D := seqD b [eLb b p.1, eLb b p.2]
def eRb (b : Bool) (r : Rule) : D := seqD b (r.map (ePb b))
def eRsb (b : Bool) (rs : List Rule) : D := seqD b (rs.map (eRb b))
abbrev eL (l : Lot) : D := .tuple (l.map .int)
abbrev eC (c : List Lot) : D := .tuple (c.map eL)
/-- a list of tuples -/
abbrev eCl (c : List Lot) : D := .list (c.map eL)

/-! ### comprehensions -/
theorem compGo_map {α : Type} {enc : α → D} {ρ : Rho} {h : D → Rho → Option Rho} {p : Rho → Option Bool} {el : Rho → Option D} (q : α → Bool) (k : α → D) : ∀ (xs : List α),
    (∀ x ∈ xs, ∃ ρ1, h (enc x) ρ = some ρ1 ∧ p ρ1 = some (q x) ∧ (q x = true → el ρ1 = some (k x))) → compGo ρ h p el (xs.map enc) = some ((xs.filter q).map k)
  | [], _ => rfl
  | x :: xs, H => by
    obtain ⟨ρ1, h1, h2, h3⟩ := H x List.mem_cons_self
    have ih := compGo_map q k xs fun y hy => H y (List.mem_cons_of_mem _ hy)
    show ((h (enc x) ρ).bind fun ρ1 => (p ρ1).bind fun b => if b then (el ρ1).bind fun z => (compGo ρ h p el (xs.map enc)).bind fun zs => some (z :: zs) else compGo ρ h p el (xs.map enc)) = _
    rw [h1, Option.bind_some, h2, Option.bind_some, ih]
    cases e : q x with
    | true => rw [if_pos rfl, h3 e, Option.bind_some, Option.bind_some, List.filter_cons, if_pos e, List.map_cons]
    | false => rw [if_neg Bool.false_ne_true, List.filter_cons, if_neg (by rw [e]; exact Bool.false_ne_true)]
theorem compD_map {α : Type} (enc : α → D) {ρ : Rho} {f : Rho → Option (List D)} {h : D → Rho → Option Rho} {p : Rho → Option Bool} {el : Rho → Option D} {vs : List Nat} (q : α → Bool) (k : α → D) (xs : List α) (hf : f ρ = some (xs.map enc)) (hl : xs.length < sBig)
    (H : ∀ x ∈ xs, ∃ ρ1, h (enc x) (wipeR ρ vs) = some ρ1 ∧ p ρ1 = some (q x) ∧ (q x = true → el ρ1 = some (k x))) : compD f h p el vs ρ = some ((xs.filter q).map k) := by
  show (f ρ).bind _ = _
  rw [hf, Option.bind_some, if_pos (by rw [List.length_map]; exact hl)]
  exact compGo_map q k xs H
/-- without a test -/
theorem compD_all {α : Type} (enc : α → D) {ρ : Rho} {f : Rho → Option (List D)} {h : D → Rho → Option Rho} {el : Rho → Option D} {vs : List Nat} (k : α → D) (xs : List α) (hf : f ρ = some (xs.map enc)) (hl : xs.length < sBig)
    (H : ∀ x ∈ xs, ∃ ρ1, h (enc x) (wipeR ρ vs) = some ρ1 ∧ el ρ1 = some (k x)) : compD f h (fun _ => some true) el vs ρ = some (xs.map k) := by
  rw [compD_map enc (fun _ => true) k xs hf hl fun x hx => by
    obtain ⟨ρ1, h1, h2⟩ := H x hx
    exact ⟨ρ1, h1, rfl, fun _ => h2⟩, List.filter_eq_self.mpr fun _ _ => rfl]
theorem runF_rt {n m : Nat} {g : Rho → Option Out} {ds : List D} {d : D} {ρ' : Rho} (hl : ds.length = n) (h : g (startR n m ds) = some (.rt d ρ')) : runF n m g ds = some d := by
  unfold runF
  rw [if_pos hl, h]
  rfl
theorem runF_ex {n m : Nat} {g : Rho → Option Out} {ds : List D} {d : D} (hl : ds.length = n) (h : ∃ ρ', g (startR n m ds) = some (.rt d ρ')) : runF n m g ds = some d := by
  obtain ⟨ρ', h⟩ := h
  exact runF_rt hl h
theorem seq_nx {g k : Rho → Option Out} {ρ ρ1 : Rho} {o : Out} (h : g ρ = some (.nx ρ1)) (h2 : k ρ1 = some o) : oSeq g k ρ = some o := by
  unfold oSeq
  rw [h]
  exact h2
theorem seq_rt {g k : Rho → Option Out} {ρ ρ1 : Rho} {d : D} (h : g ρ = some (.rt d ρ1)) : oSeq g k ρ = some (.rt d ρ1) := by
  unfold oSeq
  rw [h]
  rfl
theorem if_t {p : Rho → Option Bool} {g k : Rho → Option Out} {ρ : Rho} {o : Out} (h : p ρ = some true) (h2 : g ρ = some o) : oIf p g k ρ = some o := by
  unfold oIf
  rw [h]
  exact h2
theorem if_f {p : Rho → Option Bool} {g k : Rho → Option Out} {ρ : Rho} {o : Out} (h : p ρ = some false) (h2 : k ρ = some o) : oIf p g k ρ = some o := by
  unfold oIf
  rw [h]
  exact h2
theorem ret_ {f : Rho → Option D} {ρ : Rho} {d : D} (h : f ρ = some d) : oRet f ρ = some (.rt d ρ) := by
  unfold oRet
  rw [h]
  rfl
theorem set_ {i : Nat} {f : Rho → Option Sl} {ρ : Rho} {s : Sl} (h : f ρ = some s) : oSet i f ρ = some (.nx (ρ.set i s)) := by
  unfold oSet
  rw [h]
  rfl
theorem for_ {f : Rho → Option (List D)} {h : D → Rho → Option Rho} {g : Rho → Option Out} {ρ : Rho} {ds : List D} {o : Out} (e : f ρ = some ds) (h2 : forGo h g ds ρ = some o) : oFor f h g ρ = some o := by
  unfold oFor
  rw [e]
  exact h2
/-! ### loops -/
theorem forGo_cons {h : D → Rho → Option Rho} {g : Rho → Option Out} {d : D} {ds : List D} {ρ ρ' : Rho} (e : (h d ρ).bind g = some (.nx ρ')) : forGo h g (d :: ds) ρ = forGo h g ds ρ' := by
  obtain ⟨ρ1, e1, e2⟩ := bind_some e
  show ((h d ρ).bind fun ρ1 => (g ρ1).bind _) = _
  rw [e1, Option.bind_some, e2, Option.bind_some]
theorem forGo_ret {h : D → Rho → Option Rho} {g : Rho → Option Out} {d z : D} {ds : List D} {ρ ρ' : Rho} (e : (h d ρ).bind g = some (.rt z ρ')) : forGo h g (d :: ds) ρ = some (.rt z ρ') := by
  obtain ⟨ρ1, e1, e2⟩ := bind_some e
  show ((h d ρ).bind fun ρ1 => (g ρ1).bind _) = _
  rw [e1, Option.bind_some, e2, Option.bind_some]
/-- a loop that carries a state (and slots of no weight, J) -/
theorem forGo_fold {α S J : Type} {enc : α → D} {h : D → Rho → Option Rho} {g : Rho → Option Out} (ρf : S → J → Rho) (step : S → α → S) : ∀ (xs : List α) (s : S) (j : J), (∀ x ∈ xs, ∀ s j, ∃ j', (h (enc x) (ρf s j)).bind g = some (.nx (ρf (step s x) j'))) →
    ∃ j', forGo h g (xs.map enc) (ρf s j) = some (.nx (ρf (xs.foldl step s) j'))
  | [], s, j, _ => ⟨j, rfl⟩
  | x :: xs, s, j, H => by
    obtain ⟨j1, e1⟩ := H x List.mem_cons_self s j
    obtain ⟨j2, e2⟩ := forGo_fold ρf step xs (step s x) j1 fun y hy => H y (List.mem_cons_of_mem _ hy)
    refine ⟨j2, ?_⟩
    rw [List.map_cons, forGo_cons e1]
    exact e2
/-- .. with an invariant of the state -/
theorem forGo_inv {α S J : Type} {enc : α → D} {h : D → Rho → Option Rho} {g : Rho → Option Out} (ρf : S → J → Rho) (step : S → α → S) (I : List α → S → Prop) : ∀ (xs : List α) (s : S) (j : J), I xs s → (∀ x xs s j, I (x :: xs) s → I xs (step s x) ∧ ∃ j', (h (enc x) (ρf s j)).bind g = some (.nx (ρf (step s x) j'))) →
    ∃ j', forGo h g (xs.map enc) (ρf s j) = some (.nx (ρf (xs.foldl step s) j')) ∧ I [] (xs.foldl step s)
  | [], s, j, i, _ => ⟨j, rfl, i⟩
  | x :: xs, s, j, i, H => by
    obtain ⟨i1, j1, e1⟩ := H x xs s j i
    obtain ⟨j2, e2, i2⟩ := forGo_inv ρf step I xs (step s x) j1 i1 H
    refine ⟨j2, ?_, i2⟩
    rw [List.map_cons, forGo_cons e1]
    exact e2
/-- for .. : if q: return z -/
theorem forGo_any {α J : Type} {enc : α → D} {h : D → Rho → Option Rho} {g : Rho → Option Out} (ρf : J → Rho) (q : α → Bool) (z : α → D) : ∀ (xs : List α) (j : J), (∀ x ∈ xs, ∀ j, ∃ j', (h (enc x) (ρf j)).bind g = some (if q x then .rt (z x) (ρf j') else .nx (ρf j'))) →
    ∃ j', forGo h g (xs.map enc) (ρf j) = some (match xs.find? q with | some x => .rt (z x) (ρf j') | none => .nx (ρf j'))
  | [], j, _ => ⟨j, rfl⟩
  | x :: xs, j, H => by
    obtain ⟨j1, e1⟩ := H x List.mem_cons_self j
    cases e : q x with
    | true =>
      rw [e, if_pos rfl] at e1
      refine ⟨j1, ?_⟩
      rw [List.map_cons, forGo_ret e1, List.find?_cons, e]
    | false =>
      rw [e, if_neg Bool.false_ne_true] at e1
      obtain ⟨j2, e2⟩ := forGo_any ρf q z xs j1 fun y hy => H y (List.mem_cons_of_mem _ hy)
      refine ⟨j2, ?_⟩
      rw [List.map_cons, forGo_cons e1, List.find?_cons, e]
      exact e2

/-! ### data -/
theorem seq_items (b : Bool) (ds : List D) : dItems (seqD b ds) = some ds := by cases b <;> rfl
theorem eqv_int (a c : Int) : PyData.eqv (.int a) (.int c) = decide (a = c) := by
  rw [PyData.eqv]
  by_cases h : a = c <;> simp [h]
theorem shaped_int (i : Int) : SeqAt.shaped (.int i) = true := by unfold SeqAt.shaped; rfl
theorem any_ints (a : Int) : ∀ l : Lot, ((l.map PyData.int).any fun z => PyData.eqv z (.int a)) = decide (a ∈ l)
  | [] => rfl
  | x :: l => by
    show (PyData.eqv (.int x) (.int a) || (l.map PyData.int).any _) = _
    rw [any_ints a l, eqv_int]
    by_cases h : x = a
    · simp [h]
    · simp [h, Ne.symm h]
theorem less_demo (lot inner : Lot) (hl : lot.length < sBig) : F_less [eL lot, eL inner] = some (eL (lot.filter fun a => decide (a ∉ inner))) := by
  refine runF_rt rfl (ret_ ?_)
  dsimp only
  rw [compD_map PyData.int (fun a => decide (a ∉ inner)) PyData.int lot rfl hl fun a _ => ⟨_, rfl, ?_, fun _ => rfl⟩]
  · rfl
  · show (((intsOf (inner.map .int)).map fun ns => decide (a ∈ ns)).map fun b => PyData.bool (!b)).bind asB = _
    rw [intsOf_map]
    simp
    rfl
end GY
set_option Elab.async false
set_option linter.all false
set_option maxRecDepth 100000
set_option maxHeartbeats 4000000
/-! Gm1: mirrors of the small functions. -/
namespace GY
open PySem PySem.Spec PyProof.Rows L2
def less (lot inner : Lot) : Lot := lot.filter fun a => decide (a ∉ inner)
def isWithin (lot other : Lot) : Bool := lot.all fun a => decide (a ∈ other)
def liesIn (lot : Lot) (c : List Lot) : Bool := c.any fun own => isWithin lot own
/-- data without a text or a dict too deep -/
def Pl (n : Nat) (d : D) : Prop := d.canLay0 = true ∧ d.depth ≤ n
theorem pl_int (n : Nat) (i : Int) : Pl n (.int i) := ⟨by simp [PyData.canLay0], by simp [PyData.depth]⟩
theorem pl_bool (n : Nat) (b : Bool) : Pl n (.bool b) := ⟨by simp [PyData.canLay0], by simp [PyData.depth]⟩
theorem pl_none (n : Nat) : Pl n .none := ⟨by simp [PyData.canLay0], by simp [PyData.depth]⟩
theorem pl_all {n : Nat} : ∀ {ds : List D}, (∀ d ∈ ds, Pl n d) → PyData.canLayAll0 ds = true ∧ PyData.depthAll ds ≤ n
  | [], _ => ⟨by simp [PyData.canLayAll0], by simp [PyData.depthAll]⟩
  | d :: ds, h => by
    obtain ⟨h1, h2⟩ := pl_all fun x hx => h x (List.mem_cons_of_mem _ hx)
    obtain ⟨h3, h4⟩ := h d List.mem_cons_self
    exact ⟨by simp [PyData.canLayAll0, h1, h3], by simp [PyData.depthAll]; omega⟩
theorem pl_seq {n : Nat} {ds : List D} (b : Bool) (h : ∀ d ∈ ds, Pl n d) : Pl (n + 1) (seqD b ds) := by
  obtain ⟨h1, h2⟩ := pl_all h
  cases b with
  | true => exact ⟨by simp [seqD, PyData.canLay0, h1], by simp [seqD, PyData.depth]; omega⟩
  | false => exact ⟨by simp [seqD, PyData.canLay0, h1], by simp [seqD, PyData.depth]; omega⟩
theorem pl_map {α : Type} {n : Nat} (b : Bool) {enc : α → D} {xs : List α} (h : ∀ x ∈ xs, Pl n (enc x)) : Pl (n + 1) (seqD b (xs.map enc)) := pl_seq b fun d hd => by
  obtain ⟨x, hx, rfl⟩ := List.mem_map.mp hd
  exact h x hx
theorem shaped_pl {n : Nat} {d : D} (h : Pl n d) (hn : n ≤ 64) : SeqAt.shaped d = true := by
  unfold SeqAt.shaped
  rw [h.1, Bool.true_and, decide_eq_true_eq]
  exact Nat.le_trans h.2 hn
theorem pl_lot (b : Bool) (l : Lot) : Pl 1 (eLb b l) := pl_map b fun x _ => pl_int 0 x
theorem pl_course (b : Bool) (c : List Lot) : Pl 2 (eCb b c) := pl_map b fun x _ => pl_lot b x
theorem in_seq (a : Int) (b : Bool) (l : Lot) : dInB (.int a) (eLb b l) = some (decide (a ∈ l)) := by
  cases b with
  | false =>
    show (intsOf (l.map .int)).map _ = _
    rw [intsOf_map]
    rfl
  | true =>
    show (if SeqAt.shaped (.int a) && SeqAt.shaped (.list (l.map .int)) then some ((l.map PyData.int).any fun z => PyData.eqv z (.int a)) else none) = _
    have hs : SeqAt.shaped (.list (l.map PyData.int)) = true := shaped_pl (pl_lot true l) (by decide)
    rw [hs, shaped_int, any_ints]
    rfl
theorem notin_asB (a : Int) (b : Bool) (l : Lot) : ((dNotIn (.int a) (eLb b l)).bind asB) = some (decide (a ∉ l)) := by
  unfold dNotIn
  rw [in_seq]
  show some (!decide (a ∈ l)) = _
  simp
theorem in_d (a : Int) (b : Bool) (l : Lot) : dIn (.int a) (eLb b l) = some (.bool (decide (a ∈ l))) := by
  unfold dIn
  rw [in_seq]
  rfl
theorem all_bools {α : Type} (q : α → Bool) (xs : List α) : dAll (.list (xs.map fun x => PyData.bool (q x))) = some (.bool (xs.all q)) := by
  show (boolsOf (xs.map fun x => PyData.bool (q x))).map _ = _
  rw [show (xs.map fun x => PyData.bool (q x)) = (xs.map q).map PyData.bool by rw [List.map_map]; rfl, boolsOf_map]
  simp [List.all_map]
theorem any_bools {α : Type} (q : α → Bool) (xs : List α) : dAny (.list (xs.map fun x => PyData.bool (q x))) = some (.bool (xs.any q)) := by
  show (boolsOf (xs.map fun x => PyData.bool (q x))).map _ = _
  rw [show (xs.map fun x => PyData.bool (q x)) = (xs.map q).map PyData.bool by rw [List.map_map]; rfl, boolsOf_map]
  simp [List.any_map]
theorem m_less (b : Bool) (lot inner : Lot) (hl : lot.length < sBig) : F_less [eL lot, eLb b inner] = some (eL (less lot inner)) := by
  refine runF_rt rfl (ret_ ?_)
  dsimp only
  rw [compD_map PyData.int (fun a => decide (a ∉ inner)) PyData.int lot rfl hl fun a _ => ⟨_, rfl, notin_asB a b inner, fun _ => rfl⟩]
  rfl
theorem m_is_within (b : Bool) (lot other : Lot) (hl : lot.length < sBig) : F_is_within [eL lot, eLb b other] = some (.bool (isWithin lot other)) := by
  refine runF_rt rfl (ret_ ?_)
  dsimp only
  rw [compD_all PyData.int (fun a => PyData.bool (decide (a ∈ other))) lot rfl hl fun a _ => ⟨_, rfl, in_d a b other⟩]
  exact all_bools (fun a => decide (a ∈ other)) lot
theorem less_nil (lot own : Lot) : decide (((less lot own).length : Int) = 0) = isWithin lot own := by
  unfold less isWithin
  induction lot with
  | nil => rfl
  | cons a l ih =>
    rw [List.filter_cons, List.all_cons]
    by_cases h : a ∈ own
    · simp only [h, not_true_eq_false, decide_false, Bool.false_eq_true, if_false, decide_true, Bool.true_and]
      exact ih
    · simp only [h, not_false_eq_true, decide_true, if_true, decide_false, Bool.false_and]
      refine decide_eq_false ?_
      rw [List.length_cons]
      omega
theorem shaped_z (i : Int) : SeqAt.shaped (.int i) = true := shaped_int i
theorem eq_int (a c : Int) : dEq (.int a) (.int c) = some (.bool (decide (a = c))) := by
  unfold dEq
  rw [shaped_int, shaped_int, eqv_int]
  rfl
theorem ne_int (a c : Int) : dNe (.int a) (.int c) = some (.bool (!decide (a = c))) := by
  unfold dNe
  rw [shaped_int, shaped_int, eqv_int]
  rfl
theorem m_lies_in (b : Bool) (lot : Lot) (c : List Lot) (hl : lot.length < sBig) (hc : c.length < sBig) : F_lies_in [eL lot, eCb b c] = some (.bool (liesIn lot c)) := by
  refine runF_rt rfl (ret_ ?_)
  dsimp only
  rw [compD_all (eLb b) (fun own => PyData.bool (isWithin lot own)) c (seq_items b _) hc fun own _ => ⟨_, rfl, ?_⟩]
  · exact any_bools (isWithin lot) c
  · show ((F_less [eL lot, eLb b own]).bind dLen).bind (fun d => dEq d (.int 0)) = _
    rw [m_less b lot own hl]
    show dEq (.int ((((less lot own).map PyData.int).length : Nat) : Int)) (.int 0) = _
    rw [eq_int, List.length_map, less_nil]
/-! ### tuple_of -/
theorem m_tuple_int (n : Nat) (i : Int) : Fr_tuple_of (n + 1) [.int i] = some (.int i) := by
  refine runF_rt rfl (seq_nx (if_f rfl rfl) (ret_ rfl))
theorem tuple_seq {α : Type} (n : Nat) (b : Bool) (enc enc' : α → D) (xs : List α) (hl : xs.length < sBig) (H : ∀ x ∈ xs, Fr_tuple_of n [enc x] = some (enc' x)) : Fr_tuple_of (n + 1) [seqD b (xs.map enc)] = some (.tuple (xs.map enc')) := by
  refine runF_rt (ρ' := _) rfl (seq_rt (if_t ?_ (ret_ ?_)))
  · cases b <;> rfl
  · dsimp only
    rw [compD_all enc enc' xs (seq_items b _) hl fun x hx => ⟨_, rfl, H x hx⟩]
    rfl
theorem m_tuple_lot (n : Nat) (b : Bool) (l : Lot) (hl : l.length < sBig) : Fr_tuple_of (n + 2) [eLb b l] = some (eL l) := tuple_seq (n + 1) b PyData.int PyData.int l hl fun x _ => m_tuple_int n x
theorem m_tuple_pair (n : Nat) (b : Bool) (p : Lot × Lot) (h1 : p.1.length < sBig) (h2 : p.2.length < sBig) : Fr_tuple_of (n + 3) [ePb b p] = some (ePb false p) :=
  tuple_seq (n + 2) b (eLb b) (eLb false) [p.1, p.2] (by show 2 < sBig; decide) fun x hx => by
    rcases List.mem_cons.mp hx with rfl | hx
    · exact m_tuple_lot n b _ h1
    · rw [List.mem_singleton.mp hx]
      exact m_tuple_lot n b _ h2
/-- a rule of few, short rows -/
def Small (r : Rule) : Prop := r.length < 1000 ∧ ∀ p ∈ r, p.1.length < 1000 ∧ p.2.length < 1000
theorem big1000 {n : Nat} (h : n < 1000) : n < sBig := Nat.lt_trans h (by decide)
theorem m_tuple_rule (b : Bool) (r : Rule) (h : Small r) : F_tuple_of [eRb b r] = some (eRb false r) :=
  tuple_seq 5 b (ePb b) (ePb false) r (big1000 h.1) fun p hp => m_tuple_pair 2 b p (big1000 (h.2 p hp).1) (big1000 (h.2 p hp).2)
theorem m_tuple_of_lot (b : Bool) (l : Lot) (hl : l.length < sBig) : F_tuple_of [eLb b l] = some (eL l) := m_tuple_lot 4 b l hl
/-! ### rows_within -/
def rowsIn (r : Rule) (lot : Lot) : Rule := r.filter fun p => isWithin p.1 lot
theorem m_rows_within (b : Bool) (r : Rule) (lot : Lot) (h : Small r) : F_rows_within [eRb b r, eL lot] = some (.list ((rowsIn r lot).map (ePb false))) := by
  refine runF_rt rfl (ret_ ?_)
  dsimp only
  rw [compD_map (ePb false) (fun p => isWithin p.1 lot) (ePb false) r ?_ (big1000 h.1) fun p hp => ⟨_, rfl, ?_, fun _ => rfl⟩]
  · rfl
  · show ((F_tuple_of [eRb b r]).bind dItems) = _
    rw [m_tuple_rule b r h]
    rfl
  · rw [compD_all PyData.int (fun a => PyData.bool (decide (a ∈ lot))) p.1 rfl (big1000 (h.2 p hp).1) fun a _ => ⟨_, rfl, in_d a false lot⟩]
    show ((dAll (.list (p.1.map fun a => PyData.bool (decide (a ∈ lot))))).bind asB) = _
    rw [all_bools]
    rfl
/-! ### turned -/
def ePr (p : Int × Int) : D := .tuple [.int p.1, .int p.2]
theorem m_turned (ps : List (Int × Int)) (h : ps.length < sBig) : F_turned [.tuple (ps.map ePr)] = some (.list (ps.map fun p => ePr (p.2, p.1))) := by
  refine runF_rt rfl (ret_ ?_)
  dsimp only
  rw [compD_all ePr (fun p => ePr (p.2, p.1)) ps rfl h fun p _ => ⟨_, rfl, rfl⟩]
  rfl
theorem m_is_number (i : Int) : F_is_number [.int i] = some (.bool true) := runF_rt rfl (ret_ rfl)
end GY
set_option Elab.async false
set_option linter.all false
set_option maxRecDepth 100000
set_option maxHeartbeats 4000000
/-! Gm2: mirror of leads_in. -/
namespace GY
open PySem PySem.Spec PyProof.Rows L2
theorem foldl_app {α β : Type} (h : α → List β) : ∀ (xs : List α) (i : List β), xs.foldl (fun f x => f ++ h x) i = i ++ xs.flatMap h
  | [], i => by simp
  | x :: xs, i => by
    rw [List.foldl_cons, foldl_app h xs, List.flatMap_cons, List.append_assoc]
def leadRow (own : Lot) (o : Int) : List (Int × Int) := (own.filter fun a => !decide (a = o)).map fun a => (a, o)
def leadsL (r : Rule) (lot : Lot) : List (Int × Int) := (rowsIn r lot).flatMap fun p => p.2.flatMap (leadRow p.1)
def wt (r : Rule) : Nat := (r.map fun p => p.1.length * p.2.length).sum
theorem wt_filter (q : Lot × Lot → Bool) : ∀ r : Rule, wt (r.filter q) ≤ wt r
  | [] => Nat.le_refl _
  | p :: r => by
    have ih := wt_filter q r
    have e : wt (p :: r) = p.1.length * p.2.length + wt r := rfl
    rw [List.filter_cons, e]
    split
    · show p.1.length * p.2.length + wt (r.filter q) ≤ _
      omega
    · omega
theorem leadRow_len (own : Lot) (o : Int) : (leadRow own o).length ≤ own.length := by
  unfold leadRow
  rw [List.length_map]
  exact List.length_filter_le _ _
theorem flat_len (own : Lot) : ∀ picks : Lot, (picks.flatMap (leadRow own)).length ≤ own.length * picks.length
  | [] => Nat.zero_le _
  | o :: picks => by
    have ih := flat_len own picks
    have h := leadRow_len own o
    rw [List.flatMap_cons, List.length_append, List.length_cons, Nat.mul_succ]
    omega
theorem leads_len (r : Rule) (lot : Lot) : (leadsL r lot).length ≤ wt r := by
  have key : ∀ q : Rule, (q.flatMap fun p => p.2.flatMap (leadRow p.1)).length ≤ wt q := by
    intro q
    induction q with
    | nil => exact Nat.le_refl _
    | cons p q ih =>
      have h := flat_len p.1 p.2
      have e : wt (p :: q) = p.1.length * p.2.length + wt q := rfl
      rw [List.flatMap_cons, List.length_append, e]
      omega
  exact Nat.le_trans (key _) (wt_filter _ r)
/-- the pairs as the set gives them: each once, in order -/
theorem isU_pairs (ps : List (Int × Int)) : ∃ qs : List (Int × Int), isU (ps.map fun p => [p.1, p.2]) = qs.map (fun p => [p.1, p.2]) ∧ ∀ p, p ∈ qs ↔ p ∈ ps := by
  have key : ∀ l : List (List Int), (∀ x ∈ l, ∃ p ∈ ps, x = [p.1, p.2]) → ∃ qs : List (Int × Int), l = qs.map (fun p => [p.1, p.2]) ∧ ∀ p ∈ qs, p ∈ ps := by
    intro l
    induction l with
    | nil => intro _; exact ⟨[], rfl, fun p h => nomatch h⟩
    | cons x l ih =>
      intro h
      obtain ⟨p, hp, rfl⟩ := h x List.mem_cons_self
      obtain ⟨qs, e, hq⟩ := ih fun y hy => h y (List.mem_cons_of_mem _ hy)
      refine ⟨p :: qs, by rw [e]; rfl, fun q hq' => ?_⟩
      rcases List.mem_cons.mp hq' with rfl | hq'
      · exact hp
      · exact hq q hq'
  obtain ⟨qs, e, hq⟩ := key (isU (ps.map fun p => [p.1, p.2])) fun x hx => by
    obtain ⟨p, hp, rfl⟩ := List.mem_map.mp (mem_isU.mp hx)
    exact ⟨p, hp, rfl⟩
  refine ⟨qs, e, fun p => ⟨hq p, fun hp => ?_⟩⟩
  have h1 : [p.1, p.2] ∈ isU (ps.map fun p => [p.1, p.2]) := mem_isU.mpr (List.mem_map.mpr ⟨p, hp, rfl⟩)
  rw [e] at h1
  obtain ⟨q, hq', e2⟩ := List.mem_map.mp h1
  injection e2 with a b
  injection b with b _
  rw [← (Prod.ext a b : q = p)]
  exact hq'
theorem dSort_pairs (ps : List (Int × Int)) (h : ps.length < 64) : ∃ qs : List (Int × Int), dSortSet (.list (ps.map ePr)) = some (qs.map ePr) ∧ (∀ p, p ∈ qs ↔ p ∈ ps) ∧ qs.length < 64 := by
  obtain ⟨qs, e, hq⟩ := isU_pairs ps
  have e1 : ps.map ePr = (ps.map fun p => [p.1, p.2]).map (encK false) := by
    rw [List.map_map]
    rfl
  have hlen : qs.length ≤ ps.length := by
    have h1 : (isU (ps.map fun p => [p.1, p.2])).length ≤ (ps.map fun p => [p.1, p.2]).length := by
      have key : ∀ l : List (List Int), (isU l).length ≤ l.length := by
        intro l
        induction l with
        | nil => exact Nat.le_refl _
        | cons k l ih =>
          have ins : ∀ ms : List (List Int), (insU k ms).length ≤ ms.length + 1 := by
            intro ms
            induction ms with
            | nil => exact Nat.le_refl _
            | cons m ms ih2 =>
              unfold insU
              split
              · simp
              · split
                · simp
                · rw [List.length_cons, List.length_cons]
                  omega
          have := ins (isU l)
          show (insU k (isU l)).length ≤ l.length + 1
          omega
      exact key _
    rw [e, List.length_map, List.length_map] at h1
    exact h1
  refine ⟨qs, ?_, hq, by omega⟩
  show (if (ps.map ePr).length < 64 then (decAll false (ps.map ePr)).map fun ks => (isU ks).map (encK false) else none) = _
  rw [if_pos (by rw [List.length_map]; exact h), e1, decAll_enc fun k hk => by
    obtain ⟨p, _, rfl⟩ := List.mem_map.mp hk
    simp]
  show some ((isU (ps.map fun p => [p.1, p.2])).map (encK false)) = _
  rw [e, List.map_map]
  rfl
def rhoL (d0 d1 : D) (found : List (Int × Int)) (j : Sl × Sl × Sl × Sl) : Rho := [.val d0, .val d1, .own (found.map ePr), j.1, j.2.1, j.2.2.1, j.2.2.2]
abbrev gx_leads : Rho → Option Out := oExt 2 (compD (fun ρ => ((fun ρ => vAt ρ 3) ρ).bind dItems) (hName 6) (fun ρ => ((do2 dNe (fun ρ => vAt ρ 6) (fun ρ => vAt ρ 5)) ρ).bind asB) (fun ρ => (shortL (aCons (fun ρ => vAt ρ 6) (aCons (fun ρ => vAt ρ 5) aNil)) ρ).map .tuple) [6])
abbrev gi_leads : Rho → Option Out := oFor (fun ρ => ((fun ρ => vAt ρ 4) ρ).bind dItems) (hName 5) gx_leads
theorem ext_row (d0 d1 : D) (found : List (Int × Int)) (own picks : Lot) (o : Int) (j6 : Sl) (hown : own.length < 1000) (hf : found.length + own.length ≤ 1000) :
    oExt 2 (compD (fun ρ => ((fun ρ => vAt ρ 3) ρ).bind dItems) (hName 6) (fun ρ => ((do2 dNe (fun ρ => vAt ρ 6) (fun ρ => vAt ρ 5)) ρ).bind asB) (fun ρ => (shortL (aCons (fun ρ => vAt ρ 6) (aCons (fun ρ => vAt ρ 5) aNil)) ρ).map .tuple) [6]) (rhoL d0 d1 found (.val (eL own), .val (eL picks), .val (.int o), j6)) =
      some (.nx (rhoL d0 d1 (found ++ leadRow own o) (.val (eL own), .val (eL picks), .val (.int o), j6))) := by
  have hc : compD (fun ρ => ((fun ρ => vAt ρ 3) ρ).bind dItems) (hName 6) (fun ρ => ((do2 dNe (fun ρ => vAt ρ 6) (fun ρ => vAt ρ 5)) ρ).bind asB) (fun ρ => (shortL (aCons (fun ρ => vAt ρ 6) (aCons (fun ρ => vAt ρ 5) aNil)) ρ).map .tuple) [6] (rhoL d0 d1 found (.val (eL own), .val (eL picks), .val (.int o), j6)) =
      some ((own.filter fun a => !decide (a = o)).map fun a => ePr (a, o)) := by
    refine compD_map PyData.int (fun a => !decide (a = o)) (fun a => ePr (a, o)) own rfl (big1000 hown) fun a _ => ⟨_, rfl, ?_, fun _ => rfl⟩
    show (dNe (.int a) (.int o)).bind asB = _
    rw [ne_int]
    rfl
  unfold oExt
  rw [hc]
  have e1 : (leadRow own o).map ePr = (own.filter fun a => !decide (a = o)).map fun a => ePr (a, o) := by
    unfold leadRow
    rw [List.map_map]
    rfl
  rw [← e1]
  have hl := leadRow_len own o
  show (if (found.map ePr).length + ((leadRow own o).map ePr).length ≤ sBig then _ else _) = _
  rw [if_pos (by
    rw [List.length_map, List.length_map]
    exact Nat.le_trans (by omega : _ ≤ 1000) (by decide))]
  unfold rhoL
  rw [List.map_append]
  rfl
theorem m_leads_in (b : Bool) (r : Rule) (lot : Lot) (h : Small r) (hw : wt r < 64) : ∃ qs : List (Int × Int), F_leads_in [eRb b r, eL lot] = some (.tuple (qs.map ePr)) ∧ (∀ p, p ∈ qs ↔ p ∈ leadsL r lot) ∧ qs.length < 64 := by
  obtain ⟨qs, e1, e2, e3⟩ := dSort_pairs (leadsL r lot) (Nat.lt_of_le_of_lt (leads_len r lot) hw)
  refine ⟨qs, ?_, e2, e3⟩
  refine runF_ex rfl ?_
  have hsub : ∀ p ∈ rowsIn r lot, p ∈ r := fun p hp => (List.mem_filter.mp hp).1
  -- the loops
  have loop : ∃ j', forGo (hTup2 3 4) gi_leads ((rowsIn r lot).map (ePb false)) (rhoL (eRb b r) (eL lot) [] (.no, .no, .no, .no)) =
      some (.nx (rhoL (eRb b r) (eL lot) ((rowsIn r lot).foldl (fun f p => f ++ p.2.flatMap (leadRow p.1)) []) j')) ∧ True := by
    have hI : (∀ p ∈ rowsIn r lot, p ∈ r) ∧ ([] : List (Int × Int)).length + wt (rowsIn r lot) ≤ 500 := ⟨hsub, by
      have := wt_filter (fun p => isWithin p.1 lot) r
      show 0 + wt (r.filter _) ≤ 500
      omega⟩
    obtain ⟨j', e, _⟩ := forGo_inv (h := hTup2 3 4) (g := gi_leads) (enc := ePb false) (rhoL (eRb b r) (eL lot)) (fun f p => f ++ p.2.flatMap (leadRow p.1)) (fun (rows : Rule) f => (∀ p ∈ rows, p ∈ r) ∧ f.length + wt rows ≤ 500) (rowsIn r lot) [] (.no, .no, .no, .no) hI fun p rows f j i => by
      obtain ⟨i1, i2⟩ := i
      have hp := h.2 p (i1 p List.mem_cons_self)
      have e0 : wt (p :: rows) = p.1.length * p.2.length + wt rows := rfl
      have hfl := flat_len p.1 p.2
      refine ⟨⟨fun q hq => i1 q (List.mem_cons_of_mem _ hq), by rw [List.length_append]; omega⟩, ?_⟩
      have inner : ∃ j5 : Sl × Sl, forGo (hName 5) gx_leads (p.2.map PyData.int) (rhoL (eRb b r) (eL lot) f (.val (eL p.1), .val (eL p.2), j.2.2.1, j.2.2.2)) =
          some (.nx (rhoL (eRb b r) (eL lot) (p.2.foldl (fun f o => f ++ leadRow p.1 o) f) (.val (eL p.1), .val (eL p.2), j5.1, j5.2))) := by
        obtain ⟨j5, e5, _⟩ := forGo_inv (h := hName 5) (g := gx_leads) (J := Sl × Sl) (enc := PyData.int) (fun f j5 => rhoL (eRb b r) (eL lot) f (.val (eL p.1), .val (eL p.2), j5.1, j5.2)) (fun f o => f ++ leadRow p.1 o) (fun (os : Lot) f => f.length + p.1.length * os.length ≤ 500 ∧ (os ≠ [] → p.1.length ≤ 500)) p.2 f (j.2.2.1, j.2.2.2) ⟨by omega, fun hne => by
          have : 1 ≤ p.2.length := List.length_pos_iff.mpr hne
          have := Nat.mul_le_mul_left p.1.length this
          omega⟩ fun o os f j5 i => by
          have hl := leadRow_len p.1 o
          obtain ⟨i3, i4⟩ := i
          rw [List.length_cons, Nat.mul_succ] at i3
          refine ⟨⟨by rw [List.length_append]; omega, fun _ => i4 (by simp)⟩, ?_⟩
          refine ⟨(.val (.int o), j5.2), ?_⟩
          exact ext_row (eRb b r) (eL lot) f p.1 p.2 o j5.2 hp.1 (by omega)
        exact ⟨j5, e5⟩
      obtain ⟨j5, e5⟩ := inner
      rw [foldl_app] at e5
      refine ⟨(.val (eL p.1), .val (eL p.2), j5.1, j5.2), ?_⟩
      show gi_leads (rhoL (eRb b r) (eL lot) f (.val (eL p.1), .val (eL p.2), j.2.2.1, j.2.2.2)) = _
      exact for_ (ds := p.2.map PyData.int) rfl e5
    exact ⟨j', e, trivial⟩
  obtain ⟨j', e, _⟩ := loop
  rw [foldl_app, List.nil_append] at e
  refine ⟨_, seq_nx (ρ1 := rhoL (eRb b r) (eL lot) [] (.no, .no, .no, .no)) rfl (seq_nx (for_ ?_ e) (ret_ ?_))⟩
  · show (F_rows_within [eRb b r, eL lot]).bind dItems = _
    rw [m_rows_within b r lot h]
    rfl
  · show ((dSortSet (.list ((leadsL r lot).map ePr))).map PyData.list).bind dTuple = _
    rw [e1]
    rfl
end GY
set_option Elab.async false
set_option linter.all false
set_option maxRecDepth 100000
set_option maxHeartbeats 4000000
/-! Gm3: mirror of flooded: what is reached. -/
namespace GY
open PySem PySem.Spec PyProof.Rows L2
/-- x is reached from a along the pairs -/
inductive Rch (ps : List (Int × Int)) (a : Int) : Int → Prop
  | refl : Rch ps a a
  | step {x y : Int} : Rch ps a x → (x, y) ∈ ps → Rch ps a y
theorem Rch.trans {ps : List (Int × Int)} {a b c : Int} (h : Rch ps a b) (k : Rch ps b c) : Rch ps a c := by
  induction k with
  | refl => exact h
  | step _ e ih => exact .step ih e
theorem Rch.mono {ps qs : List (Int × Int)} {a b : Int} (h : Rch ps a b) (k : ∀ p ∈ ps, p ∈ qs) : Rch qs a b := by
  induction h with
  | refl => exact .refl
  | step _ e ih => exact .step ih (k _ e)
theorem and_ {p q : Rho → Option Bool} {ρ : Rho} {a b : Bool} (h : p ρ = some a) (k : q ρ = some b) : bAnd p q ρ = some (a && b) := by
  unfold bAnd
  rw [h]
  cases a with
  | true => exact k
  | false => rfl
def fstep (here : Int) (s : Lot × Lot) (p : Int × Int) : Lot × Lot := if p.1 = here ∧ p.2 ∉ s.1 then (s.1 ++ [p.2], s.2 ++ [p.2]) else s
def rhoF (ps : List (Int × Int)) (a : Int) (s : Lot × Lot) (j : Sl × Sl × Sl) : Rho := [.val (.list (ps.map ePr)), .val (.int a), .own (s.1.map PyData.int), .own (s.2.map PyData.int), j.1, j.2.1, j.2.2]
abbrev gc_flood : Rho → Option Out := (oIf (bAnd (fun ρ => ((do2 dEq (fun ρ => vAt ρ 5) (fun ρ => vAt ρ 4)) ρ).bind asB) (fun ρ => ((do2 dNotIn (fun ρ => vAt ρ 6) (fun ρ => bAt ρ 2)) ρ).bind asB)) (oSeq (oApp 2 (fun ρ => vAt ρ 6))
    (oApp 3 (fun ρ => vAt ρ 6))) oNext)
abbrev gp_flood : Rho → Option Bool := (fun ρ => ((do2 dGt (fun ρ => ((fun ρ => bAt ρ 3) ρ).bind dLen) (fun _ => some (.int 0))) ρ).bind asB)
abbrev gw_flood : Rho → Option Out := (oSeq (oPop 4 3) (oFor (fun ρ => ((fun ρ => vAt ρ 0) ρ).bind dItems) (hTup2 5 6) gc_flood))
theorem flood_turn (ps : List (Int × Int)) (a here : Int) (s : Lot × Lot) (p : Int × Int) (h1 : s.1.length < 1000) (h2 : s.2.length < 1000) :
    gc_flood (rhoF ps a s (.val (.int here), .val (.int p.1), .val (.int p.2))) = some (.nx (rhoF ps a (fstep here s p) (.val (.int here), .val (.int p.1), .val (.int p.2)))) := by
  have t1 : (do2 dEq (fun ρ => vAt ρ 5) (fun ρ => vAt ρ 4) (rhoF ps a s (.val (.int here), .val (.int p.1), .val (.int p.2)))).bind asB = some (decide (p.1 = here)) := by
    show (dEq (.int p.1) (.int here)).bind asB = _
    rw [eq_int]
    rfl
  have t2 : (do2 dNotIn (fun ρ => vAt ρ 6) (fun ρ => bAt ρ 2) (rhoF ps a s (.val (.int here), .val (.int p.1), .val (.int p.2)))).bind asB = some (decide (p.2 ∉ s.1)) := notin_asB p.2 true s.1
  have t : bAnd (fun ρ => ((do2 dEq (fun ρ => vAt ρ 5) (fun ρ => vAt ρ 4)) ρ).bind asB) (fun ρ => ((do2 dNotIn (fun ρ => vAt ρ 6) (fun ρ => bAt ρ 2)) ρ).bind asB) (rhoF ps a s (.val (.int here), .val (.int p.1), .val (.int p.2))) = some (decide (p.1 = here ∧ p.2 ∉ s.1)) := by
    rw [and_ (p := fun ρ => ((do2 dEq (fun ρ => vAt ρ 5) (fun ρ => vAt ρ 4)) ρ).bind asB) (q := fun ρ => ((do2 dNotIn (fun ρ => vAt ρ 6) (fun ρ => bAt ρ 2)) ρ).bind asB) t1 t2]
    simp
  unfold fstep
  by_cases c : p.1 = here ∧ p.2 ∉ s.1
  · rw [if_pos c]
    refine if_t (by rw [t, decide_eq_true c]) ?_
    refine seq_nx (ρ1 := rhoF ps a (s.1 ++ [p.2], s.2) (.val (.int here), .val (.int p.1), .val (.int p.2))) ?_ ?_
    · show (if (s.1.map PyData.int).length < sBig then _ else _) = _
      rw [if_pos (by rw [List.length_map]; exact big1000 h1)]
      unfold rhoF
      simp only [List.map_append, List.map_cons, List.map_nil]
      rfl
    · show (if (s.2.map PyData.int).length < sBig then _ else _) = _
      rw [if_pos (by rw [List.length_map]; exact big1000 h2)]
      unfold rhoF
      simp only [List.map_append, List.map_cons, List.map_nil]
      rfl
  · rw [if_neg c]
    exact if_f (by rw [t, decide_eq_false c]) rfl
/-- what a turn of the while has told -/
structure FInv (ps : List (Int × Int)) (a : Int) (U : Lot) (f l : Lot) : Prop where
  nd : f.Nodup
  at_ : a ∈ f
  sub : ∀ x ∈ l, x ∈ f
  rch : ∀ x ∈ f, Rch ps a x
  cl : ∀ x ∈ f, x ∉ l → ∀ y, (x, y) ∈ ps → y ∈ f
  un : ∀ x ∈ f, x ∈ U
theorem fold_facts (here : Int) : ∀ (qs : List (Int × Int)) (s : Lot × Lot), ∃ new : Lot, qs.foldl (fstep here) s = (s.1 ++ new, s.2 ++ new) ∧ (s.1.Nodup → (s.1 ++ new).Nodup) ∧ (∀ y ∈ new, (here, y) ∈ qs) ∧ ∀ y, (here, y) ∈ qs → y ∈ s.1 ++ new
  | [], s => ⟨[], by simp, by simp, by simp, by simp⟩
  | q :: qs, s => by
    rw [List.foldl_cons]
    by_cases c : q.1 = here ∧ q.2 ∉ s.1
    · have e : fstep here s q = (s.1 ++ [q.2], s.2 ++ [q.2]) := if_pos c
      obtain ⟨new, h1, h2, h3, h4⟩ := fold_facts here qs (fstep here s q)
      rw [e] at h1 h2 h4
      rw [e, h1]
      refine ⟨q.2 :: new, by simp, fun nd => ?_, fun y hy => ?_, fun y hy => ?_⟩
      · have := h2 (by
          show (s.1 ++ [q.2]).Nodup
          refine List.nodup_append.mpr ⟨nd, by simp, fun x hx y hy => ?_⟩
          rw [List.mem_singleton.mp hy]
          intro z
          rw [z] at hx
          exact c.2 hx)
        simpa using this
      · rcases List.mem_cons.mp hy with rfl | hy
        · rw [← c.1]
          exact List.mem_cons_self
        · exact List.mem_cons_of_mem _ (h3 y hy)
      · rcases List.mem_cons.mp hy with z | hy
        · have : y = q.2 := by rw [← z]
          rw [this]
          simp
        · have := h4 y hy
          simpa using this
    · have e : fstep here s q = s := if_neg c
      obtain ⟨new, h1, h2, h3, h4⟩ := fold_facts here qs s
      rw [e, h1]
      refine ⟨new, rfl, h2, fun y hy => List.mem_cons_of_mem _ (h3 y hy), fun y hy => ?_⟩
      rcases List.mem_cons.mp hy with z | hy
      · have e1 : q.1 = here := by rw [← z]
        have e2 : y = q.2 := by rw [← z]
        by_cases m : q.2 ∈ s.1
        · rw [e2]
          exact List.mem_append_left _ m
        · exact absurd ⟨e1, m⟩ c
      · exact h4 y hy
theorem nodup_sub_len : ∀ {l U : Lot}, l.Nodup → (∀ x ∈ l, x ∈ U) → l.length ≤ U.length
  | [], _, _, _ => Nat.zero_le _
  | x :: l, U, nd, h => by
    obtain ⟨h1, h2⟩ := List.nodup_cons.mp nd
    have hx := h x List.mem_cons_self
    have ih := nodup_sub_len (U := U.erase x) h2 fun y hy => (List.mem_erase_of_ne fun z => h1 (by rw [← z]; exact hy)).mpr (h y (List.mem_cons_of_mem _ hy))
    have := List.length_erase_of_mem hx
    have : 0 < U.length := List.length_pos_of_mem hx
    rw [List.length_cons]
    omega
theorem flood_while (ps : List (Int × Int)) (a : Int) (U : Lot) (hU : U.length ≤ 100) (hps : ps.length < 64) (hin : ∀ p ∈ ps, p.2 ∈ U) : ∀ (n : Nat) (f l : Lot) (j : Sl × Sl × Sl), FInv ps a U f l → 2 * (U.length - f.length) + l.length < n → l.length ≤ f.length →
    ∃ f' j', whileGo gp_flood gw_flood n (rhoF ps a (f, l) j) = some (.nx (rhoF ps a (f', []) j')) ∧ FInv ps a U f' []
  | 0, _, _, _, _, h, _ => absurd h (Nat.not_lt_zero _)
  | n + 1, f, l, j, I, hm, hlf => by
    have hfU := nodup_sub_len I.nd I.un
    have hp : gp_flood (rhoF ps a (f, l) j) = some (decide ((0 : Int) < (l.length : Int))) := by
      show (dGt (.int ((l.map PyData.int).length : Nat)) (.int 0)).bind asB = _
      rw [List.length_map]
      rfl
    cases hl : l.reverse with
    | nil =>
      have e : l = [] := List.reverse_eq_nil_iff.mp hl
      subst e
      refine ⟨f, j, ?_, I⟩
      show (gp_flood (rhoF ps a (f, []) j)).bind _ = _
      rw [hp]
      rfl
    | cons here rl =>
      have e : l = rl.reverse ++ [here] := by
        have := congrArg List.reverse hl
        simpa using this
      subst e
      have hlast : (((rl.reverse ++ [here]).map PyData.int)[((rl.reverse ++ [here]).map PyData.int).length - 1]?) = some (.int here) := by
        simp
      have hpop : oPop 4 3 (rhoF ps a (f, rl.reverse ++ [here]) j) = some (.nx (rhoF ps a (f, rl.reverse) (.val (.int here), j.2.1, j.2.2))) := by
        show ((((rl.reverse ++ [here]).map PyData.int)[((rl.reverse ++ [here]).map PyData.int).length - 1]?).map fun d => _) = _
        rw [hlast]
        have hd : ((rl.reverse ++ [here]).map PyData.int).dropLast = rl.reverse.map PyData.int := by simp
        show some (Out.nx ((putOwn (rhoF ps a (f, rl.reverse ++ [here]) j) 3 ((rl.reverse ++ [here]).map PyData.int).dropLast).set 4 (.val (.int here)))) = _
        rw [hd]
        rfl
      have hll : (rl.reverse ++ [here]).length = rl.reverse.length + 1 := by simp
      rw [hll] at hm hlf
      -- the for
      obtain ⟨j', e1, _⟩ := forGo_inv (J := Sl × Sl) (h := hTup2 5 6) (g := gc_flood) (enc := ePr) (fun s j' => rhoF ps a s (.val (.int here), j'.1, j'.2)) (fstep here) (fun (qs : List (Int × Int)) s => s.1.length + qs.length ≤ 400 ∧ s.2.length + qs.length ≤ 400) ps (f, rl.reverse) (j.2.1, j.2.2) ⟨by
          show f.length + ps.length ≤ 400
          omega, by
          show rl.reverse.length + ps.length ≤ 400
          omega⟩ fun p qs s j' i => by
        obtain ⟨i1, i2⟩ := i
        rw [List.length_cons] at i1 i2
        have hs : (fstep here s p).1.length ≤ s.1.length + 1 ∧ (fstep here s p).2.length ≤ s.2.length + 1 := by
          unfold fstep
          split <;> simp
        refine ⟨⟨by omega, by omega⟩, (.val (.int p.1), .val (.int p.2)), ?_⟩
        exact flood_turn ps a here s p (by omega) (by omega)
      obtain ⟨new, h1, h2, h3, h4⟩ := fold_facts here ps (f, rl.reverse)
      rw [h1] at e1
      dsimp only at e1 h2 h3 h4
      have hf' := h2 I.nd
      have hhere : here ∈ f := I.sub here (by simp)
      have I' : FInv ps a U (f ++ new) (rl.reverse ++ new) := by
        refine ⟨hf', List.mem_append_left _ I.at_, fun x hx => ?_, fun x hx => ?_, fun x hx hn y hy => ?_, fun x hx => ?_⟩
        · rcases List.mem_append.mp hx with z | z
          · exact List.mem_append_left _ (I.sub x (List.mem_append_left _ z))
          · exact List.mem_append_right _ z
        · rcases List.mem_append.mp hx with z | z
          · exact I.rch x z
          · exact .step (I.rch here hhere) (h3 x z)
        · by_cases c : x = here
          · subst c
            exact h4 y hy
          · rcases List.mem_append.mp hx with z | z
            · refine List.mem_append_left _ (I.cl x z (fun w => ?_) y hy)
              rcases List.mem_append.mp w with w | w
              · exact hn (List.mem_append_left _ w)
              · exact c (List.mem_singleton.mp w)
            · exact absurd (List.mem_append_right _ z) hn
        · rcases List.mem_append.mp hx with z | z
          · exact I.un x z
          · exact hin _ (h3 x z)
      have hfU' := nodup_sub_len hf' I'.un
      rw [List.length_append] at hfU'
      obtain ⟨f2, j2, k1, k2⟩ := flood_while ps a U hU hps hin n (f ++ new) (rl.reverse ++ new) (.val (.int here), j'.1, j'.2) I' (by rw [List.length_append, List.length_append]; omega) (by rw [List.length_append, List.length_append]; omega)
      refine ⟨f2, j2, ?_, k2⟩
      show (gp_flood (rhoF ps a (f, rl.reverse ++ [here]) j)).bind _ = _
      rw [hp, hll, decide_eq_true (by omega), Option.bind_some, if_pos rfl]
      have hw : gw_flood (rhoF ps a (f, rl.reverse ++ [here]) j) = some (.nx (rhoF ps a (f ++ new, rl.reverse ++ new) (.val (.int here), j'.1, j'.2))) :=
        seq_nx hpop (for_ (ds := ps.map ePr) rfl e1)
      rw [hw, Option.bind_some]
      exact k1
theorem m_flooded (ps : List (Int × Int)) (a : Int) (U : Lot) (hU : U.length ≤ 100) (ha : a ∈ U) (hps : ps.length < 64) (hin : ∀ p ∈ ps, p.2 ∈ U) :
    ∃ res : Lot, F_flooded [.list (ps.map ePr), .int a] = some (eL res) ∧ res.Pairwise (· < ·) ∧ (∀ x, x ∈ res ↔ Rch ps a x) ∧ ∀ x ∈ res, x ∈ U := by
  have I0 : FInv ps a U [a] [a] := ⟨by simp, by simp, fun x h => h, fun x h => by rw [List.mem_singleton.mp h]; exact .refl, fun x h n => absurd h n, fun x h => by rw [List.mem_singleton.mp h]; exact ha⟩
  obtain ⟨f, j, e, I⟩ := flood_while ps a U hU hps hin 1000 [a] [a] (.no, .no, .no) I0 (by simp; omega) (Nat.le_refl _)
  have hcl : ∀ x, Rch ps a x → x ∈ f := by
    intro x h
    induction h with
    | refl => exact I.at_
    | step _ e ih => exact I.cl _ ih (by simp) _ e
  have pm := sortI_perm f
  have nd : (sortI f).Nodup := pm.nodup_iff.mpr I.nd
  have so := sortI_sorted f
  refine ⟨sortI f, ?_, ?_, fun x => ⟨fun h => I.rch x (pm.mem_iff.mp h), fun h => pm.mem_iff.mpr (hcl x h)⟩, fun x hx => I.un x (pm.mem_iff.mp hx)⟩
  · refine runF_ex rfl ⟨_, seq_nx (ρ1 := rhoF ps a ([a], [a]) (.no, .no, .no)) rfl (seq_nx e (ret_ ?_))⟩
    show ((((intsOf (f.map PyData.int)).map fun ns => (sortI ns).map PyData.int)).map PyData.list).bind dTuple = _
    rw [intsOf_map]
    rfl
  · exact List.Pairwise.imp₂ (fun {x y} h1 h2 => by omega) so nd
end GY
set_option Elab.async false
set_option linter.all false
set_option maxRecDepth 100000
set_option maxHeartbeats 4000000
/-! Gm4: mirrors of closed_in, first_lot, chain_in, chain_of. -/
namespace GY
open PySem PySem.Spec PyProof.Rows L2
theorem eqv_lot (a b : Lot) : PyData.eqv (eL a) (eL b) = decide (a = b) := by
  rw [PyData.eqv]
  exact eqv_ints a b
theorem shaped_lot (a : Lot) : SeqAt.shaped (eL a) = true := shaped_pl (pl_lot false a) (by decide)
theorem eq_lot (a b : Lot) : dEq (eL a) (eL b) = some (.bool (decide (a = b))) := by
  unfold dEq
  rw [shaped_lot, shaped_lot, eqv_lot]
  rfl
theorem ne_lot (a b : Lot) : dNe (eL a) (eL b) = some (.bool (!decide (a = b))) := by
  unfold dNe
  rw [shaped_lot, shaped_lot, eqv_lot]
  rfl
/-- the arrows of a rule within a lot, turned round -/
def Bk (r : Rule) (lot : Lot) : List (Int × Int) := (leadsL r lot).map fun p => (p.2, p.1)
/-- S is what leads to a, within lot -/
structure BackSet (r : Rule) (lot : Lot) (a : Int) (S : Lot) : Prop where
  mem : ∀ x, x ∈ S ↔ Rch (Bk r lot) a x
  so : S.Pairwise (· < ·)
  un : ∀ x ∈ S, x ∈ lot
structure FirstOf (r : Rule) (lot : Lot) (S : Lot) : Prop where
  ex : ∃ a ∈ lot, BackSet r lot a S
  min : ∀ b ∈ lot, ∀ T, BackSet r lot b T → S.length ≤ T.length
theorem rch_same {ps qs : List (Int × Int)} (h : ∀ p, p ∈ ps ↔ p ∈ qs) (a x : Int) : Rch ps a x ↔ Rch qs a x := ⟨fun k => k.mono fun p hp => (h p).mp hp, fun k => k.mono fun p hp => (h p).mpr hp⟩
theorem sorted_ext {S T : Lot} (hS : S.Pairwise (· < ·)) (hT : T.Pairwise (· < ·)) (h : ∀ x, x ∈ S ↔ x ∈ T) : S = T := by
  have nS : S.Nodup := hS.imp fun z e => by omega
  have nT : T.Nodup := hT.imp fun z e => by omega
  exact sorted_uniq ((List.perm_ext_iff_of_nodup nS nT).mpr h) (hS.imp fun z => by omega) (hT.imp fun z => by omega)
theorem lead_one {r : Rule} {lot : Lot} {p : Int × Int} (h : p ∈ leadsL r lot) : p.1 ∈ lot := by
  unfold leadsL at h
  obtain ⟨q, h1, h2⟩ := List.mem_flatMap.mp h
  obtain ⟨o, h3, h4⟩ := List.mem_flatMap.mp h2
  unfold leadRow at h4
  obtain ⟨a, h5, rfl⟩ := List.mem_map.mp h4
  have h6 := (List.mem_filter.mp h1).2
  have h7 := (List.mem_filter.mp h5).1
  exact of_decide_eq_true (List.all_eq_true.mp h6 a h7)
theorem atI_zero {α : Type} (d : α) (ds : List α) : atI (d :: ds) 0 = some d := by
  unfold atI ixN
  rw [if_pos (by omega), if_pos (by rw [List.length_cons]; omega)]
  rfl
/-- the keys by which closed_in sorts -/
def cKey (S : Lot) : List Int := (S.length : Int) :: S
theorem m_first_lot (b : Bool) (r : Rule) (lot : Lot) (h : Small r) (hw : wt r < 64) (h4 : lot.length ≤ 4) (hne : lot ≠ []) : ∃ S, F_first_lot [eRb b r, eL lot] = some (eL S) ∧ FirstOf r lot S := by
  obtain ⟨qs, e1, e2, e3⟩ := m_leads_in b r lot h hw
  have hturn : F_turned [.tuple (qs.map ePr)] = some (.list ((qs.map fun p => (p.2, p.1)).map ePr)) := by
    rw [m_turned qs (by
      have : (64 : Nat) < sBig := by decide
      omega), List.map_map]
    rfl
  have hmem : ∀ p, p ∈ qs.map (fun p => (p.2, p.1)) ↔ p ∈ Bk r lot := fun p => by
    unfold Bk
    rw [List.mem_map, List.mem_map]
    exact ⟨fun ⟨q, h1, h2⟩ => ⟨q, (e2 q).mp h1, h2⟩, fun ⟨q, h1, h2⟩ => ⟨q, (e2 q).mpr h1, h2⟩⟩
  have fl : ∀ a ∈ lot, ∃ S : Lot, F_flooded [.list ((qs.map fun p => (p.2, p.1)).map ePr), .int a] = some (eL S) ∧ BackSet r lot a S := fun a ha => by
    obtain ⟨S, k1, k2, k3, k4⟩ := m_flooded (qs.map fun p => (p.2, p.1)) a lot (by omega) ha (by rw [List.length_map]; exact e3) fun p hp => by
      obtain ⟨q, hq, rfl⟩ := List.mem_map.mp hp
      exact lead_one ((e2 q).mp hq)
    exact ⟨S, k1, fun x => (k3 x).trans (rch_same hmem a x), k2, k4⟩
  let F : Int → Lot := fun a => if ha : a ∈ lot then (fl a ha).choose else []
  have hF : ∀ a ∈ lot, F_flooded [.list ((qs.map fun p => (p.2, p.1)).map ePr), .int a] = some (eL (F a)) ∧ BackSet r lot a (F a) := fun a ha => by
    have e : F a = (fl a ha).choose := dif_pos ha
    rw [e]
    exact (fl a ha).choose_spec
  -- closed_in
  have hbig : lot.length < sBig := Nat.lt_of_le_of_lt h4 (by decide)
  have hcl : F_closed_in [eRb b r, eL lot] = some (.list ((isU (lot.map fun a => cKey (F a))).map fun k => eL k.tail)) := by
    refine runF_rt rfl (seq_nx (ρ1 := [.val (eRb b r), .val (eL lot), .val (.list ((qs.map fun p => (p.2, p.1)).map ePr)), .no, .no, .no, .no]) ?_ (seq_nx (ρ1 := [.val (eRb b r), .val (eL lot), .val (.list ((qs.map fun p => (p.2, p.1)).map ePr)), .val (.list (lot.map fun a => eL (F a))), .no, .no, .no]) ?_ (ret_ ?_)))
    · refine set_ (s := .val (.list ((qs.map fun p => (p.2, p.1)).map ePr))) ?_
      show (((F_leads_in [eRb b r, eL lot]).bind fun d => some [d]).bind F_turned).map Sl.val = _
      rw [e1]
      show (F_turned [.tuple (qs.map ePr)]).map Sl.val = _
      rw [hturn]
      rfl
    · refine set_ (s := .val (.list (lot.map fun a => eL (F a)))) ?_
      unfold mkV
      rw [compD_all PyData.int (fun a => eL (F a)) lot rfl hbig fun a ha => ⟨_, rfl, (hF a ha).1⟩]
      rfl
    · dsimp only
      have hc : compD (fun ρ => (vAt ρ 3).bind dItems) (hName 6) (fun _ => some true) (fun ρ => (shortL (aCons (fun ρ => (vAt ρ 6).bind dLen) (aCons (fun ρ => vAt ρ 6) aNil)) ρ).map .tuple) [6] [.val (eRb b r), .val (eL lot), .val (.list ((qs.map fun p => (p.2, p.1)).map ePr)), .val (.list (lot.map fun a => eL (F a))), .no, .no, .no] =
          some (lot.map fun a => encK true (cKey (F a))) := by
        refine compD_all (fun a => eL (F a)) (fun a => encK true (cKey (F a))) lot rfl hbig fun a _ => ⟨_, rfl, ?_⟩
        show (some (PyData.tuple [.int ((((F a).map PyData.int).length : Nat) : Int), eL (F a)])) = _
        rw [List.length_map]
        rfl
      rw [show (lot.map fun a => encK true (cKey (F a))) = (lot.map fun a => cKey (F a)).map (encK true) from (List.map_map (f := fun a => cKey (F a)) (g := encK true)).symm] at hc
      have hs : dSortSetN (.list ((lot.map fun a => cKey (F a)).map (encK true))) = some ((isU (lot.map fun a => cKey (F a))).map (encK true)) := by
        show (if ((lot.map fun a => cKey (F a)).map (encK true)).length < 5 then (decAll true ((lot.map fun a => cKey (F a)).map (encK true))).map fun ks => (isU ks).map (encK true) else none) = _
        rw [if_pos (by rw [List.length_map, List.length_map]; omega), decAll_enc fun k hk => by
          obtain ⟨a, _, rfl⟩ := List.mem_map.mp hk
          simp [cKey]]
        rfl
      rw [compD_all (encK true) (fun k => eL k.tail) (isU (lot.map fun a => cKey (F a))) ?_ ?_ fun k hk => ?_]
      · rfl
      · refine (congrArg (fun t : Option (List D) => (((t.map PyData.list).bind dSortSetN).map PyData.list).bind dItems) hc).trans ?_
        show ((dSortSetN (.list ((lot.map fun a => cKey (F a)).map (encK true)))).map PyData.list).bind dItems = _
        rw [hs]
        rfl
      · have key : ∀ l : List (List Int), (isU l).length ≤ l.length := by
          intro l
          induction l with
          | nil => exact Nat.le_refl _
          | cons k l ih =>
            have ins : ∀ ms : List (List Int), (insU k ms).length ≤ ms.length + 1 := by
              intro ms
              induction ms with
              | nil => exact Nat.le_refl _
              | cons m ms ih2 =>
                unfold insU
                split
                · simp
                · split
                  · simp
                  · rw [List.length_cons, List.length_cons]
                    omega
            have := ins (isU l)
            show (insU k (isU l)).length ≤ l.length + 1
            omega
        have := key (lot.map fun a => cKey (F a))
        rw [List.length_map] at this
        exact Nat.lt_of_le_of_lt this hbig
      · obtain ⟨a, _, rfl⟩ := List.mem_map.mp (mem_isU.mp hk)
        exact ⟨_, rfl, rfl⟩
  -- the first
  obtain ⟨a0, la, rfl⟩ : ∃ a0 la, lot = a0 :: la := by
    cases lot with
    | nil => exact absurd rfl hne
    | cons a l => exact ⟨a, l, rfl⟩
  cases hU : isU ((a0 :: la).map fun a => cKey (F a)) with
  | nil =>
    have : cKey (F a0) ∈ isU ((a0 :: la).map fun a => cKey (F a)) := mem_isU.mpr (List.mem_map.mpr ⟨a0, List.mem_cons_self, rfl⟩)
    rw [hU] at this
    cases this
  | cons k0 ks =>
    have hk0 : k0 ∈ (a0 :: la).map fun a => cKey (F a) := mem_isU.mp (by rw [hU]; exact List.mem_cons_self)
    obtain ⟨a, ha, hka⟩ := List.mem_map.mp hk0
    have hs := isU_sorted ((a0 :: la).map fun a => cKey (F a))
    rw [hU] at hs hcl
    refine ⟨F a, ?_, ⟨a, ha, (hF a ha).2⟩, fun b hb T hT => ?_⟩
    · refine runF_rt rfl (ret_ ?_)
      show (F_closed_in [eRb _ r, eL (a0 :: la)]).bind (fun d => dIx d (.int 0)) = _
      rw [hcl, ← hka]
      exact atI_zero (eL (F a)) _
    · have hTF : T = F b := sorted_ext hT.so (hF b hb).2.so fun x => (hT.mem x).trans ((hF b hb).2.mem x).symm
      rw [hTF]
      have hkb : cKey (F b) ∈ k0 :: ks := by
        rw [← hU]
        exact mem_isU.mpr (List.mem_map.mpr ⟨b, hb, rfl⟩)
      rcases List.mem_cons.mp hkb with e | hkb
      · rw [← hka] at e
        unfold cKey at e
        injection e with e _
        omega
      · have hlt := (List.pairwise_cons.mp hs).1 _ hkb
        rw [← hka] at hlt
        unfold cKey at hlt
        rcases List.cons_lt_cons_iff.mp hlt with z | ⟨z, _⟩
        · omega
        · omega
/-! ### the chain -/
inductive ChainOk (r : Rule) : Lot → List Lot → Prop
  | nil : ChainOk r [] []
  | cons {lot S : Lot} {c : List Lot} : lot ≠ [] → FirstOf r lot S → ChainOk r (lot.filter fun a => decide (a ∉ S)) c → ChainOk r lot (S :: c)
abbrev gw_chain : Rho → Option Out := (oSeq (oSet 4 (cV (fun ρ => ((aCons (fun ρ => vAt ρ 0) (aCons (fun ρ => vAt ρ 3) aNil)) ρ).bind F_first_lot)))
    (oSeq (oApp 2 (fun ρ => vAt ρ 4))
    (oSet 3 (cV (fun ρ => ((fun ρ => ((compD (fun ρ => ((fun ρ => vAt ρ 3) ρ).bind dItems) (hName 5) (fun ρ => ((do2 dNotIn (fun ρ => vAt ρ 5) (fun ρ => vAt ρ 4)) ρ).bind asB) (fun ρ => vAt ρ 5) [5]) ρ).map .list) ρ).bind dTuple)))))
abbrev gp_chain : Rho → Option Bool := (fun ρ => ((do2 dNe (fun ρ => vAt ρ 3) (fun ρ => (shortL aNil ρ).map .tuple)) ρ).bind asB)
def rhoCh (d0 d1 : D) (found : List Lot) (left : Lot) (j : Sl × Sl) : Rho := [.val d0, .val d1, .own (found.map eL), .val (eL left), j.1, j.2]
theorem first_in {r : Rule} {lot S : Lot} (h : FirstOf r lot S) : ∃ a ∈ lot, a ∈ S := by
  obtain ⟨a, ha, hb⟩ := h.ex
  exact ⟨a, ha, (hb.mem a).mpr .refl⟩
theorem filter_short {lot S : Lot} (h : ∃ a ∈ lot, a ∈ S) : (lot.filter fun a => decide (a ∉ S)).length < lot.length := by
  obtain ⟨a, h1, h2⟩ := h
  refine Nat.lt_of_le_of_ne (List.length_filter_le _ _) fun e => ?_
  have := List.length_filter_eq_length_iff.mp e a h1
  simp [h2] at this
theorem chain_while (b : Bool) (r : Rule) (d1 : D) (h : Small r) (hw : wt r < 64) : ∀ (n : Nat) (found : List Lot) (left : Lot) (j : Sl × Sl), left.length < n → left.length ≤ 4 → found.length + left.length ≤ 100 →
    ∃ c j', whileGo gp_chain gw_chain n (rhoCh (eRb b r) d1 found left j) = some (.nx (rhoCh (eRb b r) d1 (found ++ c) [] j')) ∧ ChainOk r left c
  | 0, _, _, _, h, _, _ => absurd h (Nat.not_lt_zero _)
  | n + 1, found, left, j, hn, h4, hf => by
    have hp : gp_chain (rhoCh (eRb b r) d1 found left j) = some (!decide (left = [])) := by
      show (dNe (eL left) (eL [])).bind asB = _
      rw [ne_lot]
      rfl
    by_cases e : left = []
    · subst e
      refine ⟨[], j, ?_, .nil⟩
      show (gp_chain _).bind _ = _
      rw [hp, List.append_nil]
      rfl
    · obtain ⟨S, k1, k2⟩ := m_first_lot b r left h hw h4 e
      have hsh := filter_short (first_in k2)
      have hbig : left.length < sBig := Nat.lt_of_le_of_lt h4 (by decide)
      have ht : gw_chain (rhoCh (eRb b r) d1 found left j) = some (.nx (rhoCh (eRb b r) d1 (found ++ [S]) (left.filter fun a => decide (a ∉ S)) (.val (eL S), j.2))) := by
        refine seq_nx (ρ1 := rhoCh (eRb b r) d1 found left (.val (eL S), j.2)) ?_ (seq_nx (ρ1 := rhoCh (eRb b r) d1 (found ++ [S]) left (.val (eL S), j.2)) ?_ ?_)
        · refine set_ (s := .val (eL S)) ?_
          show (F_first_lot [eRb b r, eL left]).map Sl.val = _
          rw [k1]
          rfl
        · show (if (found.map eL).length < sBig then _ else _) = _
          rw [if_pos (by rw [List.length_map]; exact Nat.lt_of_le_of_lt (by omega : _ ≤ 100) (by decide))]
          unfold rhoCh
          rw [List.map_append]
          rfl
        · refine set_ (s := .val (eL (left.filter fun a => decide (a ∉ S)))) ?_
          unfold cV
          dsimp only
          rw [compD_map PyData.int (fun a => decide (a ∉ S)) PyData.int left rfl hbig fun a _ => ⟨_, rfl, notin_asB a false S, fun _ => rfl⟩]
          rfl
      obtain ⟨c, j', q1, q2⟩ := chain_while b r d1 h hw n (found ++ [S]) (left.filter fun a => decide (a ∉ S)) (.val (eL S), j.2) (by omega) (by omega) (by rw [List.length_append, List.length_singleton]; omega)
      refine ⟨S :: c, j', ?_, .cons e k2 q2⟩
      show (gp_chain _).bind _ = _
      rw [hp, decide_eq_false e, Option.bind_some, if_pos (by rfl), ht, Option.bind_some]
      rw [List.append_assoc] at q1
      exact q1
theorem m_chain_in (b : Bool) (r : Rule) (lot : Lot) (h : Small r) (hw : wt r < 64) (h4 : lot.length ≤ 4) : ∃ c, F_chain_in [eRb b r, eL lot] = some (eC c) ∧ ChainOk r lot c := by
  obtain ⟨c, j', e1, e2⟩ := chain_while b r (eL lot) h hw 1000 [] lot (.no, .no) (by omega) h4 (by show 0 + lot.length ≤ 100; omega)
  refine ⟨c, runF_ex rfl ⟨_, seq_nx (ρ1 := rhoCh (eRb b r) (eL lot) [] lot (.no, .no)) ?_ (seq_nx e1 (ret_ rfl))⟩, e2⟩
  show (((F_tuple_of [eL lot]).map Sl.val).bind fun u => some (Out.nx _)) = _
  rw [show F_tuple_of [eL lot] = some (eL lot) from m_tuple_of_lot false lot (Nat.lt_of_le_of_lt h4 (by decide))]
  rfl
end GY
set_option Elab.async false
set_option linter.all false
set_option maxRecDepth 100000
set_option maxHeartbeats 4000000
/-! Gm5: chain lots and woven lots. -/
namespace GY
open PySem PySem.Spec PyProof.Rows L2
theorem mem_leads {r : Rule} {lot : Lot} {a o : Int} : (a, o) ∈ leadsL r lot ↔ ∃ p ∈ r, (∀ x ∈ p.1, x ∈ lot) ∧ o ∈ p.2 ∧ a ∈ p.1 ∧ a ≠ o := by
  unfold leadsL leadRow rowsIn isWithin
  simp only [List.mem_flatMap, List.mem_map, List.mem_filter, List.all_eq_true, decide_eq_true_eq]
  constructor
  · rintro ⟨p, ⟨hp, hi⟩, q, hq, z, ⟨hz, hn⟩, e⟩
    injection e with e1 e2
    subst e1
    subst e2
    exact ⟨p, hp, hi, hq, hz, by simpa using hn⟩
  · rintro ⟨p, hp, hi, ho, ha, hn⟩
    exact ⟨p, ⟨hp, hi⟩, o, ho, a, ⟨ha, by simpa using hn⟩, rfl⟩
theorem mem_bk {r : Rule} {lot : Lot} {x y : Int} : (x, y) ∈ Bk r lot ↔ (y, x) ∈ leadsL r lot := by
  unfold Bk
  rw [List.mem_map]
  constructor
  · rintro ⟨⟨a, b⟩, h, e⟩
    injection e with e1 e2
    subst e1
    subst e2
    exact h
  · intro h
    exact ⟨(y, x), h, rfl⟩
theorem Rch.head {ps : List (Int × Int)} {a b c : Int} (h : (a, b) ∈ ps) (k : Rch ps b c) : Rch ps a c := Rch.trans (.step .refl h) k
theorem bk_lead {r : Rule} {lot : Lot} {a x : Int} (h : Rch (Bk r lot) a x) : Rch (leadsL r lot) x a := by
  induction h with
  | refl => exact .refl
  | step _ e ih => exact .head (mem_bk.mp e) ih
theorem lead_bk {r : Rule} {lot : Lot} {a x : Int} (h : Rch (leadsL r lot) x a) : Rch (Bk r lot) a x := by
  induction h with
  | refl => exact .refl
  | step _ e ih => exact .head (mem_bk.mpr e) ih
/-- each area of L leads to each other, by the rows within L -/
def Woven (r : Rule) (L : Lot) : Prop := ∀ a ∈ L, ∀ b ∈ L, Rch (leadsL r L) a b
theorem bk_within {r : Rule} {lot S : Lot} {a : Int} (hS : BackSet r lot a S) {b x : Int} (hb : b ∈ S) (h : Rch (Bk r lot) b x) : x ∈ S ∧ Rch (Bk r S) b x := by
  induction h with
  | refl => exact ⟨hb, .refl⟩
  | @step x y h e ih =>
    obtain ⟨p, hp, hi, ho, ha, hn⟩ := mem_leads.mp (mem_bk.mp e)
    have own : ∀ z ∈ p.1, z ∈ S := fun z hz => by
      by_cases c : z = x
      · rw [c]; exact ih.1
      · exact (hS.mem z).mpr (.step ((hS.mem x).mp ih.1) (mem_bk.mpr (mem_leads.mpr ⟨p, hp, hi, ho, hz, c⟩)))
    exact ⟨own y ha, .step ih.2 (mem_bk.mpr (mem_leads.mpr ⟨p, hp, own, ho, ha, hn⟩))⟩
theorem first_woven {r : Rule} {lot S : Lot} (h : FirstOf r lot S) : Woven r S := by
  obtain ⟨a, ha, hS⟩ := h.ex
  have key : ∀ b ∈ S, ∀ x ∈ S, Rch (Bk r lot) b x := by
    intro b hb
    let q : Int → Bool := fun x => @decide (Rch (Bk r lot) b x) (Classical.propDecidable _)
    have hT : BackSet r lot b (S.filter q) := by
      refine ⟨fun x => ⟨fun hx => ?_, fun hx => ?_⟩, hS.so.sublist List.filter_sublist, fun x hx => hS.un x (List.mem_filter.mp hx).1⟩
      · exact @of_decide_eq_true _ (Classical.propDecidable _) (List.mem_filter.mp hx).2
      · exact List.mem_filter.mpr ⟨(bk_within hS hb hx).1, @decide_eq_true _ (Classical.propDecidable _) hx⟩
    have hl := h.min b (hS.un b hb) _ hT
    have he : (S.filter q).length = S.length := Nat.le_antisymm (List.length_filter_le _ _) hl
    intro x hx
    exact @of_decide_eq_true _ (Classical.propDecidable _) (List.length_filter_eq_length_iff.mp he x hx)
  intro x hx b hb
  exact bk_lead (bk_within hS hb (key b hb x hx)).2
theorem woven_in {r : Rule} {lot S L : Lot} (h : FirstOf r lot S) (hL : ∀ x ∈ L, x ∈ lot) (w : Woven r L) {c : Int} (hc : c ∈ L) (hcS : c ∈ S) : ∀ x ∈ L, x ∈ S := by
  obtain ⟨a, ha, hS⟩ := h.ex
  intro x hx
  have h1 : Rch (leadsL r lot) x c := (w x hx c hc).mono fun p hp => by
    obtain ⟨q, h2, h3, h4⟩ := mem_leads.mp (show (p.1, p.2) ∈ leadsL r L from hp)
    exact mem_leads.mpr ⟨q, h2, fun z hz => hL z (h3 z hz), h4⟩
  exact (hS.mem x).mpr (((hS.mem c).mp hcS).trans (lead_bk h1))
structure LotIn (lot S : Lot) : Prop where
  ne : S ≠ []
  so : S.Pairwise (· < ·)
  un : ∀ x ∈ S, x ∈ lot
theorem chain_lots {r : Rule} {lot : Lot} {c : List Lot} (h : ChainOk r lot c) : (∀ S ∈ c, LotIn lot S ∧ Woven r S) ∧ (∀ L, L ≠ [] → (∀ x ∈ L, x ∈ lot) → Woven r L → ∃ S ∈ c, ∀ x ∈ L, x ∈ S) ∧ c.length ≤ lot.length := by
  induction h with
  | nil =>
    refine ⟨(fun _ h => nomatch h), fun L hn hL _ => ?_, Nat.le_refl _⟩
    cases L with
    | nil => exact absurd rfl hn
    | cons a l => cases hL a List.mem_cons_self
  | @cons lot S c hne hf _ ih =>
    obtain ⟨i1, i2, i3⟩ := ih
    obtain ⟨a, ha, hS⟩ := hf.ex
    obtain ⟨z, hz1, hz2⟩ := first_in hf
    refine ⟨fun T hT => ?_, fun L hn hL hw => ?_, ?_⟩
    · rcases List.mem_cons.mp hT with rfl | hT
      · exact ⟨⟨fun e => (by rw [e] at hz2; cases hz2), hS.so, hS.un⟩, first_woven hf⟩
      · obtain ⟨k1, k2⟩ := i1 T hT
        exact ⟨⟨k1.ne, k1.so, fun x hx => (List.mem_filter.mp (k1.un x hx)).1⟩, k2⟩
    · by_cases hh : ∃ x ∈ L, x ∈ S
      · obtain ⟨x, hx, hxS⟩ := hh
        exact ⟨S, List.mem_cons_self, woven_in hf hL hw hx hxS⟩
      · obtain ⟨T, hT, hT2⟩ := i2 L hn (fun x hx => List.mem_filter.mpr ⟨hL x hx, decide_eq_true fun hxS => hh ⟨x, hx, hxS⟩⟩) hw
        exact ⟨T, List.mem_cons_of_mem _ hT, hT2⟩
    · have := filter_short ⟨z, hz1, hz2⟩
      rw [List.length_cons]
      omega
end GY
set_option Elab.async false
set_option linter.all false
set_option maxRecDepth 100000
set_option maxHeartbeats 4000000
/-! Gm6: the search by rests. -/
namespace GY
open PySem PySem.Spec PyProof.Rows L2
/-! ### keys -/
def kL (l : Lot) : NestedKey := .tup (l.map .num)
def kC (c : List Lot) : NestedKey := .tup (c.map kL)
theorem keys_map {α : Type} {e : α → D} {k : α → NestedKey} (h : ∀ x, keyOf (e x) = some (k x)) : ∀ xs : List α, keysOf (xs.map e) = some (xs.map k)
  | [] => rfl
  | x :: xs => by
    rw [List.map_cons, keysOf, h x, keys_map h xs]
    rfl
theorem key_lot (l : Lot) : keyOf (eL l) = some (kL l) := by
  rw [keyOf, keys_map (k := NestedKey.num) (fun i => by rw [keyOf]) l]
  rfl
theorem key_course (c : List Lot) : keyOf (eC c) = some (kC c) := by
  rw [keyOf, keys_map key_lot c]
  rfl
theorem map_inj_on {α β : Type} {f : α → β} (hf : ∀ x y, f x = f y → x = y) : ∀ xs ys : List α, xs.map f = ys.map f → xs = ys
  | [], [], _ => rfl
  | [], _ :: _, h => by cases h
  | _ :: _, [], h => by cases h
  | x :: xs, y :: ys, h => by
    rw [List.map_cons, List.map_cons] at h
    injection h with h1 h2
    rw [hf x y h1, map_inj_on hf xs ys h2]
theorem kL_inj (a b : Lot) (h : kL a = kL b) : a = b := map_inj_on (f := NestedKey.num) (fun x y h => by injection h) _ _ (by injection h)
theorem kC_inj (a b : List Lot) (h : kC a = kC b) : a = b := map_inj_on (f := kL) kL_inj _ _ (by injection h)
theorem mem_kC {r : List Lot} {met : List (List Lot)} : kC r ∈ met.map kC ↔ r ∈ met := by
  rw [List.mem_map]
  exact ⟨fun ⟨a, h1, h2⟩ => by rw [← kC_inj _ _ h2]; exact h1, fun h => ⟨r, h, rfl⟩⟩
/-! ### the typed search -/
abbrev BS := List (List Lot) × List (List Lot × List Lot)
def rst (left : List Lot) (lot : Lot) : List Lot := left.filter fun own => !isWithin own lot
def bstep (st : List Lot × List Lot) (s : BS) (lot : Lot) : BS :=
  if isWithin (st.2.headD []) lot = true ∧ rst st.2 lot ∉ s.1 then (s.1 ++ [rst st.2 lot], s.2 ++ [(st.1 ++ [lot], rst st.2 lot)]) else s
def ostep (goods : List Lot) (s : BS) (st : List Lot × List Lot) : BS := goods.foldl (bstep st) s
def eS (st : List Lot × List Lot) : D := .tuple [eC st.1, eC st.2]
abbrev J5 := Sl × Sl × Sl × Sl × Sl
def rhoB (d0 d1 d2 : D) (goods : List Lot) (now : List (List Lot × List Lot)) (met : List (List Lot)) (s7 : Sl) (j : J5) : Rho :=
  [.val d0, .val d1, .val d2, .val (eCl goods), .dct (met.map kC), .val (.list (now.map eS)), j.1, s7, j.2.1, j.2.2.1, j.2.2.2.1, j.2.2.2.2]
abbrev gb_one : Rho → Option Out := (oSeq (oSet 10 (cV (fun ρ => ((fun ρ => ((compD (fun ρ => ((fun ρ => vAt ρ 9) ρ).bind dItems) (hName 11) (bNot (fun ρ => ((fun ρ => ((aCons (fun ρ => vAt ρ 11) (aCons (fun ρ => vAt ρ 6) aNil)) ρ).bind F_is_within) ρ).bind asB)) (fun ρ => vAt ρ 11) [11]) ρ).map .list) ρ).bind dTuple)))
    (oIf (bAnd (fun ρ => ((fun ρ => ((aCons (do2 dIx (fun ρ => vAt ρ 9) (fun _ => some (.int 0))) (aCons (fun ρ => vAt ρ 6) aNil)) ρ).bind F_is_within) ρ).bind asB) (bNotK 4 (fun ρ => vAt ρ 10))) (oSeq (oDput 4 (fun ρ => vAt ρ 10))
    (oApp 7 (fun ρ => (shortL (aCons (fun ρ => (shortL (aStar (fun ρ => vAt ρ 8) (aCons (fun ρ => vAt ρ 6) aNil)) ρ).map .tuple) (aCons (fun ρ => vAt ρ 10) aNil)) ρ).map .tuple))) oNext))
abbrev gb_two : Rho → Option Out := (oSeq (oIf (fun ρ => ((do2 dEq (fun ρ => ((fun ρ => vAt ρ 9) ρ).bind dLen) (fun _ => some (.int 0))) ρ).bind asB) (oRet (fun ρ => vAt ρ 8)) oNext)
    (oFor (fun ρ => ((fun ρ => vAt ρ 3) ρ).bind dItems) (hName 6) gb_one))
abbrev gb_p : Rho → Option Bool := (fun ρ => ((do2 dGt (fun ρ => ((fun ρ => vAt ρ 5) ρ).bind dLen) (fun _ => some (.int 0))) ρ).bind asB)
abbrev gb_w : Rho → Option Out := (oSeq (oSet 7 (cO (shortL aNil)))
    (oSeq (oFor (fun ρ => ((fun ρ => vAt ρ 5) ρ).bind dItems) (hTup2 8 9) gb_two)
    (fun ρ => (oSet 5 (cV (fun ρ => vAt ρ 7))) (frz ρ 7))))
/-- lots of few areas, courses of few lots -/
def Few (c : List Lot) : Prop := c.length ≤ 100 ∧ ∀ l ∈ c, l.length ≤ 100
theorem depth_all {α : Type} {k : α → NestedKey} {n : Nat} (h : ∀ x, (k x).depth ≤ n) : ∀ xs : List α, NestedKey.depthAll (xs.map k) ≤ n
  | [] => by simp [NestedKey.depthAll]
  | x :: xs => by
    have h1 := h x
    have h2 := depth_all h xs
    simp [NestedKey.depthAll]
    omega
theorem depth_kL (l : Lot) : (kL l).depth ≤ 1 := by
  have h := depth_all (k := NestedKey.num) (n := 0) (fun i => by simp [NestedKey.depth]) l
  unfold kL
  rw [NestedKey.depth]
  omega
theorem depth_kC (c : List Lot) : (kC c).depth ≤ 8 := by
  have h := depth_all depth_kL c
  unfold kC
  rw [NestedKey.depth]
  omega
theorem tup2_ {f g : Rho → Option D} {ρ : Rho} {a b : D} (h : f ρ = some a) (k : g ρ = some b) : (fun ρ => (shortL (aCons f (aCons g aNil)) ρ).map PyData.tuple) ρ = some (.tuple [a, b]) := by
  show (Option.map PyData.tuple (Option.bind ((f ρ).bind fun d => ((g ρ).bind fun e => some [e]).bind fun ds => some (d :: ds)) fun ds => if ds.length ≤ sBig then some ds else none)) = _
  rw [h, k]
  rfl
theorem b_turn (d0 d1 d2 : D) (goods : List Lot) (now : List (List Lot × List Lot)) (st : List Lot × List Lot) (h1 : st.1.length ≤ 100) (h2 : Few st.2) (hne : st.2 ≠ []) (lot : Lot) (s : BS) (hm : s.1.length < 1000) (hl : s.2.length < 1000) (j10 j11 : Sl) :
    ∃ j', gb_one (rhoB d0 d1 d2 goods now s.1 (.own (s.2.map eS)) (.val (eL lot), .val (eC st.1), .val (eC st.2), j10, j11)) =
      some (.nx (rhoB d0 d1 d2 goods now (bstep st s lot).1 (.own ((bstep st s lot).2.map eS)) (.val (eL lot), .val (eC st.1), .val (eC st.2), j', j11))) := by
  refine ⟨.val (eC (rst st.2 lot)), ?_⟩
  refine seq_nx (ρ1 := rhoB d0 d1 d2 goods now s.1 (.own (s.2.map eS)) (.val (eL lot), .val (eC st.1), .val (eC st.2), .val (eC (rst st.2 lot)), j11)) ?_ ?_
  · refine set_ (s := .val (eC (rst st.2 lot))) ?_
    unfold cV
    dsimp only
    rw [compD_map eL (fun own => !isWithin own lot) eL st.2 rfl (big1000 (Nat.lt_of_le_of_lt h2.1 (by decide))) fun own ho => ⟨_, rfl, ?_, fun _ => rfl⟩]
    · rfl
    · show (((F_is_within [eL own, eL lot]).bind asB).map (!·)) = _
      rw [show F_is_within [eL own, eL lot] = some (.bool (isWithin own lot)) from m_is_within false own lot (big1000 (Nat.lt_of_le_of_lt (h2.2 own ho) (by decide)))]
      rfl
  · obtain ⟨row, left⟩ := st
    obtain ⟨o, left, rfl⟩ : ∃ o l, left = o :: l := by
      cases left with
      | nil => exact absurd rfl hne
      | cons o l => exact ⟨o, l, rfl⟩
    have t1 : (((aCons (do2 dIx (fun ρ => vAt ρ 9) (fun _ => some (.int 0))) (aCons (fun ρ => vAt ρ 6) aNil)) (rhoB d0 d1 d2 goods now s.1 (.own (s.2.map eS)) (.val (eL lot), .val (eC row), .val (eC (o :: left)), .val (eC (rst (o :: left) lot)), j11))).bind F_is_within).bind asB = some (isWithin o lot) := by
      show ((((atI (eL o :: left.map eL) 0).bind fun d => some [d, eL lot])).bind F_is_within).bind asB = _
      rw [atI_zero]
      show (F_is_within [eL o, eL lot]).bind asB = _
      rw [show F_is_within [eL o, eL lot] = some (.bool (isWithin o lot)) from m_is_within false o lot (big1000 (Nat.lt_of_le_of_lt (h2.2 o List.mem_cons_self) (by decide)))]
      rfl
    have t2 : bNotK 4 (fun ρ => vAt ρ 10) (rhoB d0 d1 d2 goods now s.1 (.own (s.2.map eS)) (.val (eL lot), .val (eC row), .val (eC (o :: left)), .val (eC (rst (o :: left) lot)), j11)) = some (decide (rst (o :: left) lot ∉ s.1)) := by
      show ((keyOf (eC (rst (o :: left) lot))).bind fun kd => if kd.depth ≤ 8 ∧ bNotK.isTup kd then some (!decide (kd ∈ s.1.map kC)) else none) = _
      rw [key_course, Option.bind_some, if_pos ⟨depth_kC _, rfl⟩]
      simp only [mem_kC]
      simp
    have t := and_ (p := fun ρ => ((fun ρ => ((aCons (do2 dIx (fun ρ => vAt ρ 9) (fun _ => some (.int 0))) (aCons (fun ρ => vAt ρ 6) aNil)) ρ).bind F_is_within) ρ).bind asB) (q := bNotK 4 (fun ρ => vAt ρ 10)) t1 t2
    unfold bstep
    by_cases c : isWithin ((o :: left).headD []) lot = true ∧ rst (o :: left) lot ∉ s.1
    · rw [if_pos c]
      refine if_t (by rw [t]; show some (isWithin ((o :: left).headD []) lot && _) = _; rw [c.1, decide_eq_true c.2]; rfl) ?_
      refine seq_nx (ρ1 := rhoB d0 d1 d2 goods now (s.1 ++ [rst (o :: left) lot]) (.own (s.2.map eS)) (.val (eL lot), .val (eC row), .val (eC (o :: left)), .val (eC (rst (o :: left) lot)), j11)) ?_ ?_
      · show ((keyOf (eC (rst (o :: left) lot))).bind fun kd => if kd.depth ≤ 8 ∧ bNotK.isTup kd ∧ kd ∉ s.1.map kC ∧ (s.1.map kC).length < 1000 then _ else _) = _
        rw [key_course, Option.bind_some, if_pos ⟨depth_kC _, rfl, fun z => c.2 (mem_kC.mp z), by rw [List.length_map]; exact hm⟩]
        unfold rhoB
        rw [List.map_append]
        rfl
      · have hrow : shortL (aStar (fun ρ => vAt ρ 8) (aCons (fun ρ => vAt ρ 6) aNil)) (rhoB d0 d1 d2 goods now (s.1 ++ [rst (o :: left) lot]) (.own (s.2.map eS)) (.val (eL lot), .val (eC row), .val (eC (o :: left)), .val (eC (rst (o :: left) lot)), j11)) = some ((row ++ [lot]).map eL) := by
          show (if (row.map eL ++ [eL lot]).length ≤ sBig then some (row.map eL ++ [eL lot]) else none) = _
          rw [if_pos (by
            rw [List.length_append, List.length_map, List.length_singleton]
            dsimp only at h1
            exact Nat.le_trans (by omega : _ ≤ 101) (by decide)), List.map_append]
          rfl
        have hap : (fun ρ => (shortL (aCons (fun ρ => (shortL (aStar (fun ρ => vAt ρ 8) (aCons (fun ρ => vAt ρ 6) aNil)) ρ).map .tuple) (aCons (fun ρ => vAt ρ 10) aNil)) ρ).map PyData.tuple) (rhoB d0 d1 d2 goods now (s.1 ++ [rst (o :: left) lot]) (.own (s.2.map eS)) (.val (eL lot), .val (eC row), .val (eC (o :: left)), .val (eC (rst (o :: left) lot)), j11)) = some (eS (row ++ [lot], rst (o :: left) lot)) := by
          refine tup2_ ?_ rfl
          dsimp only
          rw [hrow]
          rfl
        unfold oApp
        rw [hap]
        show (if (s.2.map eS).length < sBig then _ else _) = _
        rw [if_pos (by rw [List.length_map]; exact big1000 hl)]
        unfold rhoB
        rw [List.map_append, List.map_append]
        rfl
    · rw [if_neg c]
      refine if_f ?_ rfl
      rw [t]
      show some (isWithin ((o :: left).headD []) lot && _) = _
      have : (isWithin ((o :: left).headD []) lot && decide (rst (o :: left) lot ∉ s.1)) = false := by
        rw [Bool.and_eq_false_iff]
        by_cases c1 : isWithin ((o :: left).headD []) lot = true
        · exact .inr (decide_eq_false fun z => c ⟨c1, z⟩)
        · exact .inl (Bool.eq_false_iff.mpr c1)
      rw [this]
end GY
set_option Elab.async false
set_option linter.all false
set_option maxRecDepth 100000
set_option maxHeartbeats 4000000
/-! Gm7: the search by rests finds a least row. -/
namespace GY
open PySem PySem.Spec PyProof.Rows L2
/-! ### sublists, to bound what is met -/
def subs : List Lot → List (List Lot)
  | [] => [[]]
  | l :: W => subs W ++ (subs W).map (l :: ·)
theorem subs_len : ∀ W : List Lot, (subs W).length = 2 ^ W.length
  | [] => rfl
  | l :: W => by
    show (subs W ++ (subs W).map (l :: ·)).length = _
    rw [List.length_append, List.length_map, subs_len W, List.length_cons, Nat.pow_succ]
    omega
theorem filter_subs (q : Lot → Bool) : ∀ W : List Lot, W.filter q ∈ subs W
  | [] => List.mem_singleton.mpr rfl
  | l :: W => by
    have ih := filter_subs q W
    rw [List.filter_cons]
    split
    · exact List.mem_append_right _ (List.mem_map.mpr ⟨_, ih, rfl⟩)
    · exact List.mem_append_left _ ih
theorem nodup_le {α : Type} [DecidableEq α] : ∀ {l U : List α}, l.Nodup → (∀ x ∈ l, x ∈ U) → l.length ≤ U.length
  | [], _, _, _ => Nat.zero_le _
  | x :: l, U, nd, h => by
    obtain ⟨h1, h2⟩ := List.nodup_cons.mp nd
    have hx := h x List.mem_cons_self
    have ih := nodup_le (U := U.erase x) h2 fun y hy => (List.mem_erase_of_ne fun z => h1 (by rw [← z]; exact hy)).mpr (h y (List.mem_cons_of_mem _ hy))
    have := List.length_erase_of_mem hx
    have : 0 < U.length := List.length_pos_of_mem hx
    rw [List.length_cons]
    omega
/-! ### rests -/
def restOf (W row : List Lot) : List Lot := W.filter fun own => !liesIn own row
theorem rst_rest (W row : List Lot) (lot : Lot) : rst (restOf W row) lot = restOf W (row ++ [lot]) := by
  unfold rst restOf liesIn
  rw [List.filter_filter]
  congr 1
  funext own
  rw [List.any_append, show ([lot].any fun z => isWithin own z) = isWithin own lot by simp]
  cases row.any fun z => isWithin own z <;> cases isWithin own lot <;> rfl
theorem rest_nil (W : List Lot) : restOf W [] = W := List.filter_eq_self.mpr fun _ _ => rfl
theorem rest_empty {W row : List Lot} : restOf W row = [] ↔ ∀ own ∈ W, liesIn own row = true := by
  unfold restOf
  rw [List.filter_eq_nil_iff]
  exact ⟨fun h own ho => by simpa using h own ho, fun h own ho => by simpa using h own ho⟩
/-- a state of level k -/
structure StOk (W goods : List Lot) (k : Nat) (st : List Lot × List Lot) : Prop where
  len : st.1.length = k
  good : ∀ l ∈ st.1, l ∈ goods
  rest : st.2 = restOf W st.1
  small : st.2.length + k ≤ W.length
/-- met and later within level k -/
structure SOk (W goods : List Lot) (k : Nat) (s : BS) : Prop where
  nd : s.1.Nodup
  sub : ∀ m ∈ s.1, m ∈ subs W
  le : s.2.length ≤ s.1.length
  met : ∀ m ∈ s.1, (∃ row, row.length ≤ k ∧ (∀ l ∈ row, l ∈ goods) ∧ m = restOf W row) ∨ ∃ row, (row, m) ∈ s.2
  later : ∀ st ∈ s.2, StOk W goods (k + 1) st
theorem SOk.bound {W goods : List Lot} {k : Nat} {s : BS} (h : SOk W goods k s) (hW : W.length ≤ 8) : s.1.length < 1000 ∧ s.2.length < 1000 := by
  have h1 := nodup_le h.nd h.sub
  rw [subs_len] at h1
  have h2 : 2 ^ W.length ≤ 2 ^ 8 := Nat.pow_le_pow_right (by omega) hW
  have h3 := h.le
  have : (2 : Nat) ^ 8 = 256 := by decide
  omega
theorem rst_shorter {left : List Lot} {lot : Lot} (hne : left ≠ []) (h : isWithin (left.headD []) lot = true) : (rst left lot).length + 1 ≤ left.length := by
  cases left with
  | nil => exact absurd rfl hne
  | cons o l =>
    unfold rst
    rw [List.filter_cons, if_neg (by
      have : isWithin o lot = true := h
      rw [this]
      exact Bool.false_ne_true)]
    have := List.length_filter_le (fun own => !isWithin own lot) l
    rw [List.length_cons]
    omega
theorem bstep_ok {W goods : List Lot} {k : Nat} {s : BS} {st : List Lot × List Lot} {lot : Lot} (h : SOk W goods k s) (hs : StOk W goods k st) (hne : st.2 ≠ []) (hg : lot ∈ goods) :
    SOk W goods k (bstep st s lot) ∧ (∀ m ∈ s.1, m ∈ (bstep st s lot).1) ∧ (isWithin (st.2.headD []) lot = true → rst st.2 lot ∈ (bstep st s lot).1) := by
  unfold bstep
  by_cases c : isWithin (st.2.headD []) lot = true ∧ rst st.2 lot ∉ s.1
  · rw [if_pos c]
    refine ⟨⟨?_, ?_, ?_, ?_, ?_⟩, fun m hm => List.mem_append_left _ hm, fun _ => List.mem_append_right _ (List.mem_singleton.mpr rfl)⟩
    · rw [List.nodup_append]
      refine ⟨h.nd, by simp, fun a ha b hb => ?_⟩
      rw [List.mem_singleton.mp hb]
      exact fun e => c.2 (by rw [← e]; exact ha)
    · intro m hm
      rcases List.mem_append.mp hm with z | z
      · exact h.sub m z
      · rw [List.mem_singleton.mp z, hs.rest, rst_rest]
        exact filter_subs _ W
    · dsimp only
      rw [List.length_append, List.length_append, List.length_singleton, List.length_singleton]
      have := h.le
      omega
    · intro m hm
      rcases List.mem_append.mp hm with z | z
      · rcases h.met m z with z | ⟨row, z⟩
        · exact .inl z
        · exact .inr ⟨row, List.mem_append_left _ z⟩
      · rw [List.mem_singleton.mp z]
        exact .inr ⟨st.1 ++ [lot], List.mem_append_right _ (List.mem_singleton.mpr rfl)⟩
    · intro u hu
      rcases List.mem_append.mp hu with z | z
      · exact h.later u z
      · rw [List.mem_singleton.mp z]
        refine ⟨by rw [List.length_append, List.length_singleton, hs.len], fun l hl => ?_, ?_, ?_⟩
        · rcases List.mem_append.mp hl with z | z
          · exact hs.good l z
          · rw [List.mem_singleton.mp z]; exact hg
        · dsimp only
          rw [hs.rest, rst_rest]
        · dsimp only
          have := rst_shorter hne c.1
          have := hs.small
          omega
  · rw [if_neg c]
    refine ⟨h, fun m hm => hm, fun hw => ?_⟩
    by_cases z : rst st.2 lot ∈ s.1
    · exact z
    · exact absurd ⟨hw, z⟩ c
theorem ostep_ok {W goods : List Lot} {k : Nat} {st : List Lot × List Lot} (hs : StOk W goods k st) (hne : st.2 ≠ []) : ∀ (gs : List Lot) (s : BS), (∀ l ∈ gs, l ∈ goods) → SOk W goods k s →
    SOk W goods k (gs.foldl (bstep st) s) ∧ (∀ m ∈ s.1, m ∈ (gs.foldl (bstep st) s).1) ∧ ∀ lot ∈ gs, isWithin (st.2.headD []) lot = true → rst st.2 lot ∈ (gs.foldl (bstep st) s).1
  | [], s, _, h => ⟨h, fun m hm => hm, fun _ h => nomatch h⟩
  | lot :: gs, s, hg, h => by
    obtain ⟨h1, h2, h3⟩ := bstep_ok h hs hne (hg lot List.mem_cons_self)
    obtain ⟨k1, k2, k3⟩ := ostep_ok hs hne gs (bstep st s lot) (fun l hl => hg l (List.mem_cons_of_mem _ hl)) h1
    refine ⟨k1, fun m hm => k2 m (h2 m hm), fun l hl hw => ?_⟩
    rcases List.mem_cons.mp hl with rfl | hl
    · exact k2 _ (h3 hw)
    · exact k3 l hl hw
/-! ### the loops -/
theorem few_W {W row : List Lot} (h : Few W) : Few (restOf W row) := ⟨Nat.le_trans (List.length_filter_le _ _) h.1, fun l hl => h.2 l (List.mem_filter.mp hl).1⟩
theorem b_inner (d0 d1 d2 : D) {W goods : List Lot} (hF : Few W) (hW : W.length ≤ 8) (now : List (List Lot × List Lot)) {k : Nat} {st : List Lot × List Lot} (hs : StOk W goods k st) (hne : st.2 ≠ []) : ∀ (gs : List Lot) (s : BS) (j6 j10 j11 : Sl), (∀ l ∈ gs, l ∈ goods) → SOk W goods k s →
    ∃ j6' j10', forGo (hName 6) gb_one (gs.map eL) (rhoB d0 d1 d2 goods now s.1 (.own (s.2.map eS)) (j6, .val (eC st.1), .val (eC st.2), j10, j11)) =
      some (.nx (rhoB d0 d1 d2 goods now (gs.foldl (bstep st) s).1 (.own ((gs.foldl (bstep st) s).2.map eS)) (j6', .val (eC st.1), .val (eC st.2), j10', j11)))
  | [], s, j6, j10, j11, _, _ => ⟨j6, j10, rfl⟩
  | lot :: gs, s, j6, j10, j11, hg, h => by
    have hb := h.bound hW
    have hsm := hs.small
    obtain ⟨j', e⟩ := b_turn d0 d1 d2 goods now st (by have := hs.len; omega) (by rw [hs.rest]; exact few_W hF) hne lot s hb.1 hb.2 j10 j11
    obtain ⟨j6', j10', e2⟩ := b_inner d0 d1 d2 hF hW now hs hne gs (bstep st s lot) (.val (eL lot)) j' j11 (fun l hl => hg l (List.mem_cons_of_mem _ hl)) (bstep_ok h hs hne (hg lot List.mem_cons_self)).1
    refine ⟨j6', j10', ?_⟩
    rw [List.map_cons]
    refine (forGo_cons (ρ' := rhoB d0 d1 d2 goods now (bstep st s lot).1 (.own ((bstep st s lot).2.map eS)) (.val (eL lot), .val (eC st.1), .val (eC st.2), j', j11)) ?_).trans e2
    exact e
end GY
set_option Elab.async false
set_option linter.all false
set_option maxRecDepth 100000
set_option maxHeartbeats 4000000
/-! Gm8: the search by rests, its loops. -/
namespace GY
open PySem PySem.Spec PyProof.Rows L2
theorem len0_ (c : List Lot) : (dEq (.int (((c.map eL).length : Nat) : Int)) (.int 0)).bind asB = some (decide (c = [])) := by
  rw [eq_int, List.length_map]
  cases c with
  | nil => rfl
  | cons a l =>
    show some (decide (((a :: l).length : Int) = 0)) = _
    rw [decide_eq_false (by rw [List.length_cons]; omega), decide_eq_false (by simp)]
theorem b_outer (d0 d1 d2 : D) {W goods : List Lot} (hF : Few W) (hW : W.length ≤ 8) (now : List (List Lot × List Lot)) {k : Nat} : ∀ (sts : List (List Lot × List Lot)) (s : BS) (j : J5), (∀ st ∈ sts, StOk W goods k st) → SOk W goods k s →
    (∃ st ∈ sts, st.2 = [] ∧ ∃ ρ', forGo (hTup2 8 9) gb_two (sts.map eS) (rhoB d0 d1 d2 goods now s.1 (.own (s.2.map eS)) j) = some (.rt (eC st.1) ρ')) ∨
    ((∀ st ∈ sts, st.2 ≠ []) ∧ ∃ s' j', forGo (hTup2 8 9) gb_two (sts.map eS) (rhoB d0 d1 d2 goods now s.1 (.own (s.2.map eS)) j) = some (.nx (rhoB d0 d1 d2 goods now s'.1 (.own (s'.2.map eS)) j')) ∧
      SOk W goods k s' ∧ (∀ m ∈ s.1, m ∈ s'.1) ∧ ∀ st ∈ sts, ∀ lot ∈ goods, isWithin (st.2.headD []) lot = true → rst st.2 lot ∈ s'.1)
  | [], s, j, _, h => .inr ⟨(fun _ h => nomatch h), s, j, rfl, h, fun m hm => hm, (fun _ h => nomatch h)⟩
  | st :: sts, s, j, hs, h => by
    have t : (do2 dEq (fun ρ => ((fun ρ => vAt ρ 9) ρ).bind dLen) (fun _ => some (.int 0)) (rhoB d0 d1 d2 goods now s.1 (.own (s.2.map eS)) (j.1, .val (eC st.1), .val (eC st.2), j.2.2.2.1, j.2.2.2.2))).bind asB = some (decide (st.2 = [])) := len0_ st.2
    by_cases e : st.2 = []
    · refine .inl ⟨st, List.mem_cons_self, e, rhoB d0 d1 d2 goods now s.1 (.own (s.2.map eS)) (j.1, .val (eC st.1), .val (eC st.2), j.2.2.2.1, j.2.2.2.2), ?_⟩
      rw [List.map_cons]
      refine forGo_ret ?_
      show gb_two (rhoB d0 d1 d2 goods now s.1 (.own (s.2.map eS)) (j.1, .val (eC st.1), .val (eC st.2), j.2.2.2.1, j.2.2.2.2)) = _
      exact seq_rt (if_t (by rw [t, decide_eq_true e]) (ret_ rfl))
    · have hst := hs st List.mem_cons_self
      obtain ⟨h1, h2, h3⟩ := ostep_ok hst e goods s (fun l hl => hl) h
      obtain ⟨j6, j10, e1⟩ := b_inner d0 d1 d2 hF hW now hst e goods s j.1 j.2.2.2.1 j.2.2.2.2 (fun l hl => hl) h
      have e2 : forGo (hTup2 8 9) gb_two ((st :: sts).map eS) (rhoB d0 d1 d2 goods now s.1 (.own (s.2.map eS)) j) = forGo (hTup2 8 9) gb_two (sts.map eS) (rhoB d0 d1 d2 goods now (goods.foldl (bstep st) s).1 (.own ((goods.foldl (bstep st) s).2.map eS)) (j6, .val (eC st.1), .val (eC st.2), j10, j.2.2.2.2)) := by
        rw [List.map_cons]
        refine forGo_cons ?_
        show gb_two (rhoB d0 d1 d2 goods now s.1 (.own (s.2.map eS)) (j.1, .val (eC st.1), .val (eC st.2), j.2.2.2.1, j.2.2.2.2)) = _
        exact seq_nx (if_f (by rw [t, decide_eq_false e]) rfl) (for_ (ds := goods.map eL) rfl e1)
      rw [e2]
      rcases b_outer d0 d1 d2 hF hW now sts (goods.foldl (bstep st) s) (j6, .val (eC st.1), .val (eC st.2), j10, j.2.2.2.2) (fun u hu => hs u (List.mem_cons_of_mem _ hu)) h1 with ⟨u, hu, k1, k2⟩ | ⟨k1, s', j', k2, k3, k4, k5⟩
      · exact .inl ⟨u, List.mem_cons_of_mem _ hu, k1, k2⟩
      · refine .inr ⟨fun u hu => ?_, s', j', k2, k3, fun m hm => k4 m (h2 m hm), fun u hu lot hl hw => ?_⟩
        · rcases List.mem_cons.mp hu with rfl | hu
          · exact e
          · exact k1 u hu
        · rcases List.mem_cons.mp hu with rfl | hu
          · exact k4 _ (h3 lot hl hw)
          · exact k5 u hu lot hl hw
/-! ### covers -/
def Cov (goods W cov : List Lot) : Prop := (∀ l ∈ cov, l ∈ goods) ∧ restOf W cov = []
def Best (goods W row : List Lot) : Prop := Cov goods W row ∧ ∀ cov, Cov goods W cov → row.length ≤ cov.length
theorem least_cov {goods W : List Lot} : ∀ (n : Nat) (cov : List Lot), cov.length ≤ n → Cov goods W cov → ∃ row, Best goods W row
  | 0, cov, hn, h => ⟨cov, h, fun c _ => by omega⟩
  | n + 1, cov, hn, h => by
    by_cases z : ∃ c, Cov goods W c ∧ c.length < cov.length
    · obtain ⟨c, h1, h2⟩ := z
      exact least_cov n c (by omega) h1
    · exact ⟨cov, h, fun c hc => Nat.le_of_not_lt fun hlt => z ⟨c, hc, hlt⟩⟩
theorem lies_mem {own : Lot} {c : List Lot} : liesIn own c = true ↔ ∃ g ∈ c, isWithin own g = true := by
  unfold liesIn
  rw [List.any_eq_true]
structure Lev (W goods : List Lot) (k : Nat) (now : List (List Lot × List Lot)) (met : List (List Lot)) : Prop where
  nowk : ∀ st ∈ now, StOk W goods k st
  nd : met.Nodup
  sub : ∀ m ∈ met, m ∈ subs W
  metk : ∀ m ∈ met, ∃ row, row.length ≤ k ∧ (∀ l ∈ row, l ∈ goods) ∧ m = restOf W row
  comp : ∀ cov, Best goods W cov → ∃ st ∈ now, ∃ c, Cov goods st.2 c ∧ c.length + k ≤ cov.length
theorem lev_next {W goods : List Lot} {k : Nat} {now : List (List Lot × List Lot)} {met : List (List Lot)} {s' : BS} (h : Lev W goods k now met) (hne : ∀ st ∈ now, st.2 ≠ []) (hs : SOk W goods k s') (hd : ∀ st ∈ now, ∀ lot ∈ goods, isWithin (st.2.headD []) lot = true → rst st.2 lot ∈ s'.1) : Lev W goods (k + 1) s'.2 s'.1 := by
  refine ⟨hs.later, hs.nd, hs.sub, fun m hm => ?_, fun cov hb => ?_⟩
  · rcases hs.met m hm with ⟨row, h1, h2, h3⟩ | ⟨row, hr⟩
    · exact ⟨row, by omega, h2, h3⟩
    · have := hs.later _ hr
      exact ⟨row, by have := this.len; dsimp only at this; omega, this.good, this.rest⟩
  · obtain ⟨st, hst, c, ⟨hc1, hc2⟩, hl⟩ := h.comp cov hb
    have hn := hne st hst
    obtain ⟨o, l, e⟩ : ∃ o l, st.2 = o :: l := by
      cases e : st.2 with
      | nil => exact absurd e hn
      | cons o l => exact ⟨o, l, rfl⟩
    obtain ⟨g, hg, hw⟩ := lies_mem.mp (rest_empty.mp hc2 o (by rw [e]; exact List.mem_cons_self))
    have hm := hd st hst g (hc1 g hg) (by rw [e]; exact hw)
    have hlen : (c.erase g).length + 1 = c.length := by
      have h1 := List.length_erase_of_mem hg
      have h2 : 0 < c.length := List.length_pos_of_mem hg
      omega
    have hcov : Cov goods (rst st.2 g) (c.erase g) := by
      refine ⟨fun x hx => hc1 x (List.mem_of_mem_erase hx), rest_empty.mpr fun own ho => ?_⟩
      unfold rst at ho
      obtain ⟨h1, h2⟩ := List.mem_filter.mp ho
      obtain ⟨g', h3, h4⟩ := lies_mem.mp (rest_empty.mp hc2 own h1)
      refine lies_mem.mpr ⟨g', (List.mem_erase_of_ne fun z => ?_).mpr h3, h4⟩
      rw [z] at h4
      rw [h4] at h2
      cases h2
    rcases hs.met _ hm with ⟨row, h1, h2, h3⟩ | ⟨row, hr⟩
    · exfalso
      have : Cov goods W (row ++ c.erase g) := by
        refine ⟨fun x hx => ?_, rest_empty.mpr fun own ho => ?_⟩
        · rcases List.mem_append.mp hx with z | z
          · exact h2 x z
          · exact hcov.1 x z
        · by_cases z : liesIn own row = true
          · obtain ⟨g', h4, h5⟩ := lies_mem.mp z
            exact lies_mem.mpr ⟨g', List.mem_append_left _ h4, h5⟩
          · have : own ∈ rst st.2 g := by
              rw [h3]
              exact List.mem_filter.mpr ⟨ho, by simpa using z⟩
            obtain ⟨g', h4, h5⟩ := lies_mem.mp (rest_empty.mp hcov.2 own this)
            exact lies_mem.mpr ⟨g', List.mem_append_right _ h4, h5⟩
      have := hb.2 _ this
      rw [List.length_append] at this
      omega
    · exact ⟨_, hr, c.erase g, hcov, by omega⟩
theorem b_while (d0 d1 d2 : D) {W goods : List Lot} (hF : Few W) (hW : W.length ≤ 8) : ∀ (n k : Nat) (now : List (List Lot × List Lot)) (met : List (List Lot)) (s7 : Sl) (j : J5), W.length + 2 ≤ n + k → k ≤ W.length + 1 → Lev W goods k now met →
    (∃ row ρ', whileGo gb_p gb_w n (rhoB d0 d1 d2 goods now met s7 j) = some (.rt (eC row) ρ') ∧ Best goods W row) ∨
    (∃ ρ', whileGo gb_p gb_w n (rhoB d0 d1 d2 goods now met s7 j) = some (.nx ρ') ∧ ∀ cov, ¬ Cov goods W cov)
  | 0, k, now, met, s7, j, hn, hk, h => by omega
  | n + 1, k, now, met, s7, j, hn, hk, h => by
    have hp : gb_p (rhoB d0 d1 d2 goods now met s7 j) = some (decide ((0 : Int) < (now.length : Int))) := by
      show (dGt (.int (((now.map eS).length : Nat) : Int)) (.int 0)).bind asB = _
      rw [List.length_map]
      rfl
    by_cases e : now = []
    · subst e
      refine .inr ⟨rhoB d0 d1 d2 goods [] met s7 j, ?_, fun cov hc => ?_⟩
      · show (gb_p _).bind _ = _
        rw [hp]
        rfl
      · obtain ⟨row, hb⟩ := least_cov cov.length cov (Nat.le_refl _) hc
        obtain ⟨st, hst, _⟩ := h.comp row hb
        cases hst
    · have hpos : 0 < now.length := List.length_pos_iff.mpr e
      have hkW : k ≤ W.length := by
        obtain ⟨st, hst⟩ := List.exists_mem_of_ne_nil now e
        have := (h.nowk st hst).small
        omega
      rw [decide_eq_true (by omega)] at hp
      have s0 : SOk W goods k (met, []) := ⟨h.nd, h.sub, Nat.zero_le _, fun m hm => .inl (h.metk m hm), (fun _ h => nomatch h)⟩
      have hset : oSet 7 (cO (shortL aNil)) (rhoB d0 d1 d2 goods now met s7 j) = some (.nx (rhoB d0 d1 d2 goods now met (.own (([] : List (List Lot × List Lot)).map eS)) j)) := rfl
      rcases b_outer d0 d1 d2 hF hW now now (met, []) j h.nowk s0 with ⟨st, hst, k1, ρ', k2⟩ | ⟨k1, s', j', k2, k3, k4, k5⟩
      · refine .inl ⟨st.1, ρ', ?_, ⟨(h.nowk st hst).good, by rw [← (h.nowk st hst).rest]; exact k1⟩, fun c hc => ?_⟩
        · show (gb_p _).bind _ = _
          rw [hp, Option.bind_some, if_pos rfl]
          have hw : gb_w (rhoB d0 d1 d2 goods now met s7 j) = some (.rt (eC st.1) ρ') := seq_nx hset (seq_rt (for_ (ds := now.map eS) rfl k2))
          rw [hw]
          rfl
        · obtain ⟨row, hb⟩ := least_cov c.length c (Nat.le_refl _) hc
          obtain ⟨st', hst', c', hc', hl⟩ := h.comp row hb
          have := hb.2 c hc
          have := (h.nowk st hst).len
          omega
      · have hw : gb_w (rhoB d0 d1 d2 goods now met s7 j) = some (.nx (rhoB d0 d1 d2 goods s'.2 s'.1 (.val (.list (s'.2.map eS))) j')) := seq_nx hset (seq_nx (for_ (ds := now.map eS) rfl k2) rfl)
        have e2 : whileGo gb_p gb_w (n + 1) (rhoB d0 d1 d2 goods now met s7 j) = whileGo gb_p gb_w n (rhoB d0 d1 d2 goods s'.2 s'.1 (.val (.list (s'.2.map eS))) j') := by
          show (gb_p _).bind _ = _
          rw [hp, Option.bind_some, if_pos rfl, hw]
          rfl
        rw [e2]
        exact b_while d0 d1 d2 hF hW n (k + 1) s'.2 s'.1 (.val (.list (s'.2.map eS))) j' (by omega) (by omega) (lev_next h k1 k3 k5)
theorem m_fewest_lots (b : Bool) (W lots : List Lot) (areas : Lot) (most : Int) (hF : Few W) (hW : W.length ≤ 8) (hl : F_lots_within [eL areas] = some (eCl lots)) (hls : lots.length < 1000) :
    (∃ row, F_fewest_lots [seqD b (W.map eL), eL areas, .int most] = some (eC row) ∧ Best (lots.filter fun l => decide ((l.length : Int) ≤ most)) W row) ∨
    (F_fewest_lots [seqD b (W.map eL), eL areas, .int most] = some .none ∧ ∀ cov, ¬ Cov (lots.filter fun l => decide ((l.length : Int) ≤ most)) W cov) := by
  obtain ⟨goods, hg⟩ : ∃ g, g = lots.filter fun l => decide ((l.length : Int) ≤ most) := ⟨_, rfl⟩
  rw [← hg]
  have hset : oPar3 3 4 5 (cV (fun ρ => ((compD (fun ρ => ((fun ρ => ((aCons (fun ρ => vAt ρ 1) aNil) ρ).bind F_lots_within) ρ).bind dItems) (hName 6) (fun ρ => ((do2 dLe (fun ρ => ((fun ρ => vAt ρ 6) ρ).bind dLen) (fun ρ => vAt ρ 2)) ρ).bind asB) (fun ρ => vAt ρ 6) [6]) ρ).map .list)) cDct (cV (fun ρ => ((shortL (aCons (fun ρ => (shortL (aCons (fun ρ => (shortL aNil ρ).map .tuple) (aCons (fun ρ => ((fun ρ => vAt ρ 0) ρ).bind dTuple) aNil)) ρ).map .tuple) aNil)) ρ).map .list)) (startR 3 12 [seqD b (W.map eL), eL areas, .int most]) =
      some (.nx (rhoB (seqD b (W.map eL)) (eL areas) (.int most) goods [([], W)] [] .no (.no, .no, .no, .no, .no))) := by
    unfold oPar3
    have h1 : compD (fun ρ => ((fun ρ => ((aCons (fun ρ => vAt ρ 1) aNil) ρ).bind F_lots_within) ρ).bind dItems) (hName 6) (fun ρ => ((do2 dLe (fun ρ => ((fun ρ => vAt ρ 6) ρ).bind dLen) (fun ρ => vAt ρ 2)) ρ).bind asB) (fun ρ => vAt ρ 6) [6] (startR 3 12 [seqD b (W.map eL), eL areas, .int most]) = some (goods.map eL) := by
      rw [hg]
      refine compD_map (vs := [6]) eL (fun l => decide ((l.length : Int) ≤ most)) eL lots ?_ (big1000 hls) fun l _ => ⟨_, rfl, ?_, fun _ => rfl⟩
      · have ha : (aCons (fun ρ => vAt ρ 1) aNil) (startR 3 12 [seqD b (W.map eL), eL areas, .int most]) = some [eL areas] := rfl
        dsimp only
        rw [ha, Option.bind_some, hl]
        rfl
      · show (dLe (.int (((l.map PyData.int).length : Nat) : Int)) (.int most)).bind asB = _
        rw [List.length_map]
        rfl
    unfold cV
    dsimp only
    rw [h1]
    cases b <;> rfl
  have L0 : Lev W goods 0 [([], W)] [] := by
    refine ⟨fun st hst => ?_, List.nodup_nil, (fun _ h => nomatch h), (fun _ h => nomatch h), fun cov hb => ⟨_, List.mem_singleton.mpr rfl, cov, hb.1, Nat.le_refl _⟩⟩
    rw [List.mem_singleton.mp hst]
    exact ⟨rfl, (fun _ h => nomatch h), (rest_nil W).symm, Nat.le_refl _⟩
  rcases b_while (seqD b (W.map eL)) (eL areas) (.int most) hF hW 1000 0 [([], W)] [] .no (.no, .no, .no, .no, .no) (by omega) (by omega) L0 with ⟨row, ρ', e, hb⟩ | ⟨ρ', e, hb⟩
  · exact .inl ⟨row, runF_rt rfl (seq_nx hset (seq_rt e)), hb⟩
  · exact .inr ⟨runF_ex rfl ⟨_, seq_nx hset (seq_nx e (ret_ rfl))⟩, hb⟩
end GY
set_option Elab.async false
set_option linter.all false
set_option maxRecDepth 100000
set_option maxHeartbeats 4000000
/-! Gm9: mirrors of the law's own functions. -/
namespace GY
open PySem PySem.Spec PyProof.Rows L2
theorem eq_lst {α : Type} {n : Nat} {enc : α → D} (xs : List α) (h : ∀ x ∈ xs, Pl n (enc x)) (hn : n + 1 ≤ 64) : dEq (.list (xs.map enc)) (.list []) = some (.bool (decide (xs = []))) := by
  unfold dEq
  rw [show SeqAt.shaped (.list (xs.map enc)) = true from shaped_pl (pl_map true h) hn, show SeqAt.shaped (.list []) = true from shaped_pl (pl_seq (n := 0) true (ds := []) fun _ h => nomatch h) (by decide)]
  cases xs with
  | nil => rfl
  | cons x xs =>
    show some (PyData.bool (PyData.eqv (.list (enc x :: xs.map enc)) (.list []))) = _
    rw [PyData.eqv]
    rfl
theorem ne_lst {α : Type} {n : Nat} {enc : α → D} (xs : List α) (h : ∀ x ∈ xs, Pl n (enc x)) (hn : n + 1 ≤ 64) : dNe (.list (xs.map enc)) (.list []) = some (.bool (!decide (xs = []))) := by
  have := eq_lst xs h hn
  unfold dEq at this
  unfold dNe
  split at this
  · rename_i z
    rw [if_pos z]
    injection this with this
    injection this with this
    rw [this]
  · cases this
theorem lstEq_ {α : Type} {n : Nat} {enc : α → D} {f : Rho → Option (List D)} {ρ : Rho} (xs : List α) (e : f ρ = some (xs.map enc)) (h : ∀ x ∈ xs, Pl n (enc x)) (hn : n + 1 ≤ 64) : ((do2 dEq (fun ρ => (f ρ).map PyData.list) (fun ρ => ((shortL aNil) ρ).map PyData.list)) ρ).bind asB = some (decide (xs = [])) := by
  show ((Option.bind ((f ρ).map PyData.list) fun d => Option.bind (some (.list [])) fun e => dEq d e)).bind asB = _
  rw [e]
  show (dEq (.list (xs.map enc)) (.list [])).bind asB = _
  rw [eq_lst xs h hn]
  rfl
theorem lstNe_ {α : Type} {n : Nat} {enc : α → D} {f : Rho → Option (List D)} {ρ : Rho} (xs : List α) (e : f ρ = some (xs.map enc)) (h : ∀ x ∈ xs, Pl n (enc x)) (hn : n + 1 ≤ 64) : ((do2 dNe (fun ρ => (f ρ).map PyData.list) (fun ρ => ((shortL aNil) ρ).map PyData.list)) ρ).bind asB = some (!decide (xs = [])) := by
  show ((Option.bind ((f ρ).map PyData.list) fun d => Option.bind (some (.list [])) fun e => dNe d e)).bind asB = _
  rw [e]
  show (dNe (.list (xs.map enc)) (.list [])).bind asB = _
  rw [ne_lst xs h hn]
  rfl
theorem less_empty (lot own : Lot) : decide (less lot own = []) = isWithin lot own := by
  rw [← less_nil lot own]
  cases less lot own with
  | nil => rfl
  | cons a l =>
    rw [decide_eq_false (by simp), decide_eq_false (by rw [List.length_cons]; omega)]
abbrev gl_lies : Rho → Option Out := oIf (fun ρ => ((do2 dEq (fun ρ => ((compD (fun ρ => ((fun ρ => vAt ρ 0) ρ).bind dItems) (hName 3) (fun ρ => ((do2 dNotIn (fun ρ => vAt ρ 3) (fun ρ => vAt ρ 2)) ρ).bind asB) (fun ρ => vAt ρ 3) [3]) ρ).map .list) (fun ρ => ((shortL aNil) ρ).map .list)) ρ).bind asB) (oRet (fun _ => some (.bool true))) oNext
theorem m_law_lies (b : Bool) (lot : Lot) (c : List Lot) (hl : lot.length < 1000) : F_law_lies [eL lot, seqD b (c.map eL)] = some (.bool (liesIn lot c)) := by
  obtain ⟨j', e⟩ := forGo_any (J := Sl × Sl) (h := hName 2) (g := gl_lies) (enc := eL)
    (fun j => ([.val (eL lot), .val (seqD b (c.map eL)), j.1, j.2] : Rho)) (fun own => isWithin lot own) (fun _ => .bool true) c (.no, .no) fun own _ j => by
      refine ⟨(.val (eL own), j.2), ?_⟩
      have t : ((do2 dEq (fun ρ => ((compD (fun ρ => ((fun ρ => vAt ρ 0) ρ).bind dItems) (hName 3) (fun ρ => ((do2 dNotIn (fun ρ => vAt ρ 3) (fun ρ => vAt ρ 2)) ρ).bind asB) (fun ρ => vAt ρ 3) [3]) ρ).map .list) (fun ρ => ((shortL aNil) ρ).map .list)) ([.val (eL lot), .val (seqD b (c.map eL)), .val (eL own), j.2] : Rho)).bind asB = some (isWithin lot own) := by
        rw [← less_empty]
        exact lstEq_ (n := 0) (f := compD (fun ρ => ((fun ρ => vAt ρ 0) ρ).bind dItems) (hName 3) (fun ρ => ((do2 dNotIn (fun ρ => vAt ρ 3) (fun ρ => vAt ρ 2)) ρ).bind asB) (fun ρ => vAt ρ 3) [3]) (less lot own) (compD_map PyData.int (fun a => decide (a ∉ own)) PyData.int lot rfl (big1000 hl) fun a _ => ⟨_, rfl, notin_asB a false own, fun _ => rfl⟩) (fun x _ => pl_int 0 x) (by decide)
      show gl_lies ([.val (eL lot), .val (seqD b (c.map eL)), .val (eL own), j.2] : Rho) = _
      cases e : isWithin lot own with
      | true => exact if_t (by rw [t, e]) rfl
      | false => exact if_f (by rw [t, e]) rfl
  refine runF_ex rfl ?_
  have hf : liesIn lot c = (c.find? fun own => isWithin lot own).isSome := by
    unfold liesIn
    rw [Bool.eq_iff_iff, List.find?_isSome, List.any_eq_true]
  cases z : c.find? fun own => isWithin lot own with
  | some own =>
    rw [z] at e hf
    rw [hf]
    exact ⟨_, seq_rt (for_ (ds := c.map eL) (seq_items b _) e)⟩
  | none =>
    rw [z] at e hf
    rw [hf]
    exact ⟨_, seq_nx (for_ (ds := c.map eL) (seq_items b _) e) (ret_ rfl)⟩
end GY
set_option Elab.async false
set_option linter.all false
set_option maxRecDepth 100000
set_option maxHeartbeats 4000000
/-! Gma: mirrors of law_arrows, law_from, law_woven. -/
namespace GY
open PySem PySem.Spec PyProof.Rows L2
theorem cat_ {f g : Rho → Option D} {ρ : Rho} {as bs : List D} (h : f ρ = some (.list as)) (k : g ρ = some (.list bs)) (hl : as.length + bs.length ≤ sBig) : (fun ρ => ((do2L dCat f g) ρ).map PyData.list) ρ = some (.list (as ++ bs)) := by
  show (Option.map PyData.list (Option.bind (f ρ) fun d => Option.bind (g ρ) fun e => dCat d e)) = _
  rw [h, k]
  show (Option.map PyData.list (if as.length + bs.length ≤ sBig then some (as ++ bs) else none)) = _
  rw [if_pos hl]
  rfl
abbrev gl_row : Rho → Option Out := (oSet 2 (cV (fun ρ => ((do2L dCat (fun ρ => vAt ρ 2) (fun ρ => ((compD (fun ρ => ((fun ρ => vAt ρ 3) ρ).bind dItems) (hName 5) (fun ρ => ((do2 dNe (fun ρ => vAt ρ 5) (fun ρ => vAt ρ 6)) ρ).bind asB) (fun ρ => (shortL (aCons (fun ρ => vAt ρ 5) (aCons (fun ρ => vAt ρ 6) aNil)) ρ).map .tuple) [5]) ρ).map .list)) ρ).map .list)))
abbrev gl_arr : Rho → Option Out := (oIf (fun ρ => ((do2 dEq (fun ρ => ((compD (fun ρ => ((fun ρ => vAt ρ 3) ρ).bind dItems) (hName 5) (fun ρ => ((do2 dNotIn (fun ρ => vAt ρ 5) (fun ρ => vAt ρ 1)) ρ).bind asB) (fun ρ => vAt ρ 5) [5]) ρ).map .list) (fun ρ => ((shortL aNil) ρ).map .list)) ρ).bind asB) (oFor (fun ρ => ((fun ρ => vAt ρ 4) ρ).bind dItems) (hName 6) gl_row) oNext)
def rhoA (d0 : D) (lot : Lot) (found : List (Int × Int)) (j : Sl × Sl × Sl × Sl) : Rho := [.val d0, .val (eL lot), .val (.list (found.map ePr)), j.1, j.2.1, j.2.2.1, j.2.2.2]
theorem arr_row (d0 : D) (lot own picks : Lot) (found : List (Int × Int)) (o : Int) (j5 : Sl) (hown : own.length < 1000) (hf : found.length + own.length ≤ 1000) :
    gl_row (rhoA d0 lot found (.val (eL own), .val (eL picks), j5, .val (.int o))) = some (.nx (rhoA d0 lot (found ++ leadRow own o) (.val (eL own), .val (eL picks), j5, .val (.int o)))) := by
  refine set_ (s := .val (.list ((found ++ leadRow own o).map ePr))) ?_
  have hl := leadRow_len own o
  have hc : compD (fun ρ => ((fun ρ => vAt ρ 3) ρ).bind dItems) (hName 5) (fun ρ => ((do2 dNe (fun ρ => vAt ρ 5) (fun ρ => vAt ρ 6)) ρ).bind asB) (fun ρ => (shortL (aCons (fun ρ => vAt ρ 5) (aCons (fun ρ => vAt ρ 6) aNil)) ρ).map .tuple) [5] (rhoA d0 lot found (.val (eL own), .val (eL picks), j5, .val (.int o))) = some ((leadRow own o).map ePr) := by
    unfold leadRow
    rw [List.map_map]
    refine compD_map PyData.int (fun a => !decide (a = o)) (fun a => ePr (a, o)) own rfl (big1000 hown) fun a _ => ⟨_, rfl, ?_, fun _ => rfl⟩
    show (dNe (.int a) (.int o)).bind asB = _
    rw [ne_int]
    rfl
  have h := cat_ (f := fun ρ => vAt ρ 2) (g := fun ρ => ((compD (fun ρ => ((fun ρ => vAt ρ 3) ρ).bind dItems) (hName 5) (fun ρ => ((do2 dNe (fun ρ => vAt ρ 5) (fun ρ => vAt ρ 6)) ρ).bind asB) (fun ρ => (shortL (aCons (fun ρ => vAt ρ 5) (aCons (fun ρ => vAt ρ 6) aNil)) ρ).map .tuple) [5]) ρ).map .list) (ρ := rhoA d0 lot found (.val (eL own), .val (eL picks), j5, .val (.int o))) (as := found.map ePr) (bs := (leadRow own o).map ePr) rfl (by dsimp only; rw [hc]; rfl) (by
    rw [List.length_map, List.length_map]
    exact Nat.le_trans (by omega : _ ≤ 1000) (by decide))
  unfold cV
  dsimp only at h ⊢
  rw [h, List.map_append]
  rfl
theorem leads_if (lot : Lot) (r : Rule) : (r.flatMap fun p => if isWithin p.1 lot then p.2.flatMap (leadRow p.1) else []) = leadsL r lot := by
  unfold leadsL rowsIn
  induction r with
  | nil => rfl
  | cons p r ih =>
    rw [List.flatMap_cons, ih, List.filter_cons]
    cases isWithin p.1 lot <;> rfl
theorem m_law_arrows (r : Rule) (lot : Lot) (h : Small r) (hw : wt r < 64) : F_law_arrows [eRb false r, eL lot] = some (.list ((leadsL r lot).map ePr)) := by
  refine runF_ex rfl ?_
  obtain ⟨j', e, _⟩ := forGo_inv (J := Sl × Sl × Sl × Sl) (h := hTup2 3 4) (g := gl_arr) (enc := ePb false) (rhoA (eRb false r) lot) (fun f p => f ++ if isWithin p.1 lot then p.2.flatMap (leadRow p.1) else []) (fun (rows : Rule) f => (∀ p ∈ rows, p ∈ r) ∧ f.length + wt rows ≤ 500) r [] (.no, .no, .no, .no) ⟨fun p hp => hp, by show 0 + wt r ≤ 500; omega⟩ fun p rows f j i => by
    obtain ⟨i1, i2⟩ := i
    have hp := h.2 p (i1 p List.mem_cons_self)
    have e0 : wt (p :: rows) = p.1.length * p.2.length + wt rows := rfl
    have hfl := flat_len p.1 p.2
    have t : ((do2 dEq (fun ρ => ((compD (fun ρ => ((fun ρ => vAt ρ 3) ρ).bind dItems) (hName 5) (fun ρ => ((do2 dNotIn (fun ρ => vAt ρ 5) (fun ρ => vAt ρ 1)) ρ).bind asB) (fun ρ => vAt ρ 5) [5]) ρ).map .list) (fun ρ => ((shortL aNil) ρ).map .list)) (rhoA (eRb false r) lot f (.val (eL p.1), .val (eL p.2), j.2.2.1, j.2.2.2))).bind asB = some (isWithin p.1 lot) := by
      rw [← less_empty]
      exact lstEq_ (n := 0) (f := compD (fun ρ => ((fun ρ => vAt ρ 3) ρ).bind dItems) (hName 5) (fun ρ => ((do2 dNotIn (fun ρ => vAt ρ 5) (fun ρ => vAt ρ 1)) ρ).bind asB) (fun ρ => vAt ρ 5) [5]) (less p.1 lot) (compD_map PyData.int (fun a => decide (a ∉ lot)) PyData.int p.1 rfl (big1000 hp.1) fun a _ => ⟨_, rfl, notin_asB a false lot, fun _ => rfl⟩) (fun x _ => pl_int 0 x) (by decide)
    have hle : (f ++ if isWithin p.1 lot then p.2.flatMap (leadRow p.1) else []).length + wt rows ≤ 500 := by
      rw [List.length_append]
      split
      · omega
      · show f.length + 0 + wt rows ≤ 500
        omega
    refine ⟨⟨fun q hq => i1 q (List.mem_cons_of_mem _ hq), hle⟩, ?_⟩
    cases c : isWithin p.1 lot with
    | false =>
      refine ⟨(.val (eL p.1), .val (eL p.2), j.2.2.1, j.2.2.2), ?_⟩
      show gl_arr (rhoA (eRb false r) lot f (.val (eL p.1), .val (eL p.2), j.2.2.1, j.2.2.2)) = _
      rw [if_neg Bool.false_ne_true, List.append_nil]
      exact if_f (by rw [t, c]) rfl
    | true =>
      obtain ⟨j5, e5, _⟩ := forGo_inv (h := hName 6) (g := gl_row) (J := Sl) (enc := PyData.int) (fun f j5 => rhoA (eRb false r) lot f (.val (eL p.1), .val (eL p.2), j.2.2.1, j5)) (fun f o => f ++ leadRow p.1 o) (fun (os : Lot) f => f.length + p.1.length * os.length ≤ 500 ∧ (os ≠ [] → p.1.length ≤ 500)) p.2 f j.2.2.2 ⟨by omega, fun hne => by
          have : 1 ≤ p.2.length := List.length_pos_iff.mpr hne
          have := Nat.mul_le_mul_left p.1.length this
          omega⟩ fun o os f j5 i => by
        have hl := leadRow_len p.1 o
        obtain ⟨i3, i4⟩ := i
        rw [List.length_cons, Nat.mul_succ] at i3
        refine ⟨⟨by rw [List.length_append]; omega, fun _ => i4 (by simp)⟩, .val (.int o), ?_⟩
        exact arr_row (eRb false r) lot p.1 p.2 f o j.2.2.1 hp.1 (by omega)
      rw [foldl_app] at e5
      refine ⟨(.val (eL p.1), .val (eL p.2), j.2.2.1, j5), ?_⟩
      show gl_arr (rhoA (eRb false r) lot f (.val (eL p.1), .val (eL p.2), j.2.2.1, j.2.2.2)) = _
      rw [if_pos rfl]
      exact if_t (by rw [t, c]) (for_ (ds := p.2.map PyData.int) rfl e5)
  rw [foldl_app, List.nil_append] at e
  rw [leads_if] at e
  exact ⟨_, seq_nx (ρ1 := rhoA (eRb false r) lot [] (.no, .no, .no, .no)) rfl (seq_nx (for_ (ds := r.map (ePb false)) rfl e) (ret_ rfl))⟩
end GY
set_option Elab.async false
set_option linter.all false
set_option maxRecDepth 100000
set_option maxHeartbeats 4000000
/-! Gmb: mirrors of law_from, law_woven. -/
namespace GY
open PySem PySem.Spec PyProof.Rows L2
def gstep (now : Lot) (s : Lot × Lot) (p : Int × Int) : Lot × Lot := if p.1 ∈ now ∧ p.2 ∉ s.1 then (s.1 ++ [p.2], s.2 ++ [p.2]) else s
theorem gfold (now : Lot) : ∀ (qs : List (Int × Int)) (s : Lot × Lot), ∃ new : Lot, qs.foldl (gstep now) s = (s.1 ++ new, s.2 ++ new) ∧ (s.1.Nodup → (s.1 ++ new).Nodup) ∧ (∀ y ∈ new, ∃ x ∈ now, (x, y) ∈ qs) ∧ ∀ x ∈ now, ∀ y, (x, y) ∈ qs → y ∈ s.1 ++ new
  | [], s => ⟨[], by simp, by simp, by simp, by simp⟩
  | q :: qs, s => by
    rw [List.foldl_cons]
    by_cases c : q.1 ∈ now ∧ q.2 ∉ s.1
    · obtain ⟨new, h1, h2, h3, h4⟩ := gfold now qs (s.1 ++ [q.2], s.2 ++ [q.2])
      refine ⟨q.2 :: new, ?_, fun nd => ?_, fun y hy => ?_, fun x hx y hy => ?_⟩
      · unfold gstep at h1 ⊢
        rw [if_pos c, h1]
        simp
      · have := h2 (by
          rw [List.nodup_append]
          refine ⟨nd, by simp, fun a ha b hb => ?_⟩
          rw [List.mem_singleton.mp hb]
          exact fun e => c.2 (by rw [← e]; exact ha))
        simpa using this
      · rcases List.mem_cons.mp hy with rfl | hy
        · exact ⟨q.1, c.1, List.mem_cons_self⟩
        · obtain ⟨x, hx, hq⟩ := h3 y hy
          exact ⟨x, hx, List.mem_cons_of_mem _ hq⟩
      · rcases List.mem_cons.mp hy with e | hy
        · rw [← e]
          simp
        · simpa using h4 x hx y hy
    · obtain ⟨new, h1, h2, h3, h4⟩ := gfold now qs s
      refine ⟨new, ?_, h2, fun y hy => ?_, fun x hx y hy => ?_⟩
      · unfold gstep at h1 ⊢
        rw [if_neg c, h1]
      · obtain ⟨x, hx, hq⟩ := h3 y hy
        exact ⟨x, hx, List.mem_cons_of_mem _ hq⟩
      · rcases List.mem_cons.mp hy with e | hy
        · refine List.mem_append_left _ (Classical.byContradiction fun z => c ⟨?_, ?_⟩)
          · rw [← e]; exact hx
          · rw [← e]; exact z
        · exact h4 x hx y hy
abbrev gf_one : Rho → Option Out := (oIf (bAnd (fun ρ => ((do2 dIn (fun ρ => vAt ρ 5) (fun ρ => vAt ρ 3)) ρ).bind asB) (fun ρ => ((do2 dNotIn (fun ρ => vAt ρ 6) (fun ρ => bAt ρ 2)) ρ).bind asB)) (oSeq (oApp 2 (fun ρ => vAt ρ 6))
    (oApp 4 (fun ρ => vAt ρ 6))) oNext)
abbrev gf_p : Rho → Option Bool := (fun ρ => ((do2 dNe (fun ρ => vAt ρ 3) (fun ρ => ((shortL aNil) ρ).map .list)) ρ).bind asB)
abbrev gf_w : Rho → Option Out := (oSeq (oSet 4 (cO (shortL aNil)))
    (oSeq (oFor (fun ρ => ((fun ρ => vAt ρ 0) ρ).bind dItems) (hTup2 5 6) gf_one)
    (fun ρ => (oSet 3 (cV (fun ρ => vAt ρ 4))) (frz ρ 4))))
def rhoM (ps : List (Int × Int)) (a : Int) (f now : Lot) (s4 : Sl) (j : Sl × Sl) : Rho := [.val (.list (ps.map ePr)), .val (.int a), .own (f.map PyData.int), .val (.list (now.map PyData.int)), s4, j.1, j.2]
theorem from_turn (ps : List (Int × Int)) (a : Int) (now : Lot) (s : Lot × Lot) (p : Int × Int) (h1 : s.1.length < 1000) (h2 : s.2.length < 1000) :
    gf_one (rhoM ps a s.1 now (.own (s.2.map PyData.int)) (.val (.int p.1), .val (.int p.2))) = some (.nx (rhoM ps a (gstep now s p).1 now (.own ((gstep now s p).2.map PyData.int)) (.val (.int p.1), .val (.int p.2)))) := by
  have t1 : (do2 dIn (fun ρ => vAt ρ 5) (fun ρ => vAt ρ 3) (rhoM ps a s.1 now (.own (s.2.map PyData.int)) (.val (.int p.1), .val (.int p.2)))).bind asB = some (decide (p.1 ∈ now)) := by
    show (dIn (.int p.1) (eLb true now)).bind asB = _
    rw [in_d]
    rfl
  have t2 : (do2 dNotIn (fun ρ => vAt ρ 6) (fun ρ => bAt ρ 2) (rhoM ps a s.1 now (.own (s.2.map PyData.int)) (.val (.int p.1), .val (.int p.2)))).bind asB = some (decide (p.2 ∉ s.1)) := notin_asB p.2 true s.1
  have t := and_ (p := fun ρ => ((do2 dIn (fun ρ => vAt ρ 5) (fun ρ => vAt ρ 3)) ρ).bind asB) (q := fun ρ => ((do2 dNotIn (fun ρ => vAt ρ 6) (fun ρ => bAt ρ 2)) ρ).bind asB) t1 t2
  unfold gstep
  by_cases c : p.1 ∈ now ∧ p.2 ∉ s.1
  · rw [if_pos c]
    refine if_t (by rw [t, decide_eq_true c.1, decide_eq_true c.2]; rfl) ?_
    refine seq_nx (ρ1 := rhoM ps a (s.1 ++ [p.2]) now (.own (s.2.map PyData.int)) (.val (.int p.1), .val (.int p.2))) ?_ ?_
    · show (if (s.1.map PyData.int).length < sBig then _ else _) = _
      rw [if_pos (by rw [List.length_map]; exact big1000 h1)]
      unfold rhoM
      simp only [List.map_append, List.map_cons, List.map_nil]
      rfl
    · show (if (s.2.map PyData.int).length < sBig then _ else _) = _
      rw [if_pos (by rw [List.length_map]; exact big1000 h2)]
      unfold rhoM
      simp only [List.map_append, List.map_cons, List.map_nil]
      rfl
  · rw [if_neg c]
    refine if_f ?_ rfl
    rw [t]
    have : (decide (p.1 ∈ now) && decide (p.2 ∉ s.1)) = false := by
      rw [Bool.and_eq_false_iff]
      by_cases c1 : p.1 ∈ now
      · exact .inr (decide_eq_false fun z => c ⟨c1, z⟩)
      · exact .inl (decide_eq_false c1)
    rw [this]
theorem from_while (ps : List (Int × Int)) (a : Int) (U : Lot) (hU : U.length ≤ 100) (hps : ps.length < 64) (hin : ∀ p ∈ ps, p.2 ∈ U) : ∀ (n : Nat) (f now : Lot) (s4 : Sl) (j : Sl × Sl), FInv ps a U f now → 2 * (U.length - f.length) + now.length < n →
    ∃ f' s4' j', whileGo gf_p gf_w n (rhoM ps a f now s4 j) = some (.nx (rhoM ps a f' [] s4' j')) ∧ FInv ps a U f' []
  | 0, _, _, _, _, _, h => absurd h (Nat.not_lt_zero _)
  | n + 1, f, now, s4, j, I, hm => by
    have hfU := nodup_sub_len I.nd I.un
    have hp : gf_p (rhoM ps a f now s4 j) = some (!decide (now = [])) := by
      show (dNe (.list (now.map PyData.int)) (.list [])).bind asB = _
      rw [ne_lst (n := 0) now (fun x _ => pl_int 0 x) (by decide)]
      rfl
    by_cases e : now = []
    · subst e
      refine ⟨f, s4, j, ?_, I⟩
      show (gf_p _).bind _ = _
      rw [hp]
      rfl
    · have hpos : 0 < now.length := List.length_pos_iff.mpr e
      obtain ⟨j', e1, _⟩ := forGo_inv (J := Sl × Sl) (h := hTup2 5 6) (g := gf_one) (enc := ePr) (fun s j' => rhoM ps a s.1 now (.own (s.2.map PyData.int)) j') (gstep now) (fun (qs : List (Int × Int)) s => s.1.length + qs.length ≤ 400 ∧ s.2.length + qs.length ≤ 400) ps (f, []) j ⟨by
          show f.length + ps.length ≤ 400
          omega, by
          show 0 + ps.length ≤ 400
          omega⟩ fun p qs s j' i => by
        obtain ⟨i1, i2⟩ := i
        rw [List.length_cons] at i1 i2
        have hs : (gstep now s p).1.length ≤ s.1.length + 1 ∧ (gstep now s p).2.length ≤ s.2.length + 1 := by
          unfold gstep
          split <;> simp
        refine ⟨⟨by omega, by omega⟩, (.val (.int p.1), .val (.int p.2)), ?_⟩
        exact from_turn ps a now s p (by omega) (by omega)
      obtain ⟨new, h1, h2, h3, h4⟩ := gfold now ps (f, [])
      rw [h1] at e1
      dsimp only at e1 h2 h3 h4
      rw [List.nil_append] at e1
      have hf' := h2 I.nd
      have I' : FInv ps a U (f ++ new) new := by
        refine ⟨hf', List.mem_append_left _ I.at_, fun x hx => List.mem_append_right _ hx, fun x hx => ?_, fun x hx hn y hy => ?_, fun x hx => ?_⟩
        · rcases List.mem_append.mp hx with z | z
          · exact I.rch x z
          · obtain ⟨w, hw, hq⟩ := h3 x z
            exact .step (I.rch w (I.sub w hw)) hq
        · rcases List.mem_append.mp hx with z | z
          · by_cases c : x ∈ now
            · exact h4 x c y hy
            · exact List.mem_append_left _ (I.cl x z c y hy)
          · exact absurd z hn
        · rcases List.mem_append.mp hx with z | z
          · exact I.un x z
          · obtain ⟨w, hw, hq⟩ := h3 x z
            exact hin _ hq
      have hfU' := nodup_sub_len hf' I'.un
      rw [List.length_append] at hfU'
      obtain ⟨f2, s2, j2, k1, k2⟩ := from_while ps a U hU hps hin n (f ++ new) new (.val (.list (new.map PyData.int))) j' I' (by rw [List.length_append]; omega)
      refine ⟨f2, s2, j2, ?_, k2⟩
      show (gf_p (rhoM ps a f now s4 j)).bind _ = _
      rw [hp, decide_eq_false e, Option.bind_some, if_pos (by rfl)]
      have hw : gf_w (rhoM ps a f now s4 j) = some (.nx (rhoM ps a (f ++ new) new (.val (.list (new.map PyData.int))) j')) :=
        seq_nx (ρ1 := rhoM ps a f now (.own []) j) rfl (seq_nx (for_ (ds := ps.map ePr) rfl e1) rfl)
      rw [hw, Option.bind_some]
      exact k1
theorem m_law_from (ps : List (Int × Int)) (a : Int) (U : Lot) (hU : U.length ≤ 100) (ha : a ∈ U) (hps : ps.length < 64) (hin : ∀ p ∈ ps, p.2 ∈ U) :
    ∃ f : Lot, F_law_from [.list (ps.map ePr), .int a] = some (.list (f.map .int)) ∧ f.Nodup ∧ (∀ x, x ∈ f ↔ Rch ps a x) ∧ ∀ x ∈ f, x ∈ U := by
  have I0 : FInv ps a U [a] [a] := ⟨by simp, by simp, fun x h => h, fun x h => by rw [List.mem_singleton.mp h]; exact .refl, fun x h n => absurd h n, fun x h => by rw [List.mem_singleton.mp h]; exact ha⟩
  obtain ⟨f, s4, j, e, I⟩ := from_while ps a U hU hps hin 1000 [a] [a] .no (.no, .no) I0 (by simp; omega)
  have hcl : ∀ x, Rch ps a x → x ∈ f := by
    intro x h
    induction h with
    | refl => exact I.at_
    | step _ e ih => exact I.cl _ ih (by simp) _ e
  refine ⟨f, ?_, I.nd, fun x => ⟨fun h => I.rch x h, hcl x⟩, I.un⟩
  exact runF_ex rfl ⟨_, seq_nx (ρ1 := rhoM ps a [a] [a] .no (.no, .no)) rfl (seq_nx e (ret_ rfl))⟩
end GY
set_option Elab.async false
set_option linter.all false
set_option maxRecDepth 100000
set_option maxHeartbeats 4000000
/-! Gmc: mirrors of law_woven, law_missed. -/
namespace GY
open PySem PySem.Spec PyProof.Rows L2
/-- picks lie in their lot -/
def PicksIn (r : Rule) : Prop := ∀ p ∈ r, ∀ o ∈ p.2, o ∈ p.1
theorem nodup_all {f lot : Lot} (nd : f.Nodup) (h : ∀ x ∈ f, x ∈ lot) (hl : lot.length ≤ f.length) : ∀ x ∈ lot, x ∈ f := fun x hx => Classical.byContradiction fun z => by
  have h1 := nodup_le (U := lot.erase x) nd fun y hy => (List.mem_erase_of_ne fun e => z (by rw [← e]; exact hy)).mpr (h y hy)
  have := List.length_erase_of_mem hx
  have : 0 < lot.length := List.length_pos_of_mem hx
  omega
theorem m_law_woven (r : Rule) (lot : Lot) (h : Small r) (hw : wt r < 64) (hp : PicksIn r) (h4 : lot.length ≤ 100) (nd : lot.Nodup) : ∃ b, F_law_woven [eRb false r, eL lot] = some (.bool b) ∧ (b = true ↔ 1 < lot.length ∧ Woven r lot) := by
  have hin : ∀ p ∈ leadsL r lot, p.2 ∈ lot := fun p hq => by
    obtain ⟨q, h1, h2, h3, _⟩ := mem_leads.mp (show (p.1, p.2) ∈ leadsL r lot from hq)
    exact h2 _ (hp q h1 _ h3)
  have fr : ∀ a ∈ lot, ∃ f : Lot, F_law_from [.list ((leadsL r lot).map ePr), .int a] = some (.list (f.map .int)) ∧ (f.length < lot.length ↔ ¬ ∀ b ∈ lot, Rch (leadsL r lot) a b) := fun a ha => by
    obtain ⟨f, k1, k2, k3, k4⟩ := m_law_from (leadsL r lot) a lot h4 ha (Nat.lt_of_le_of_lt (leads_len r lot) hw) hin
    refine ⟨f, k1, fun hl hall => ?_, fun hn => Nat.lt_of_not_le fun hl => hn fun b hb => (k3 b).mp (nodup_all k2 k4 hl b hb)⟩
    have := nodup_le nd fun b hb => (k3 b).mpr (hall b hb)
    omega
  let F : Int → Lot := fun a => if ha : a ∈ lot then (fr a ha).choose else []
  have hF : ∀ a ∈ lot, F_law_from [.list ((leadsL r lot).map ePr), .int a] = some (.list ((F a).map .int)) ∧ ((F a).length < lot.length ↔ ¬ ∀ b ∈ lot, Rch (leadsL r lot) a b) := fun a ha => by
    have e : F a = (fr a ha).choose := dif_pos ha
    rw [e]
    exact (fr a ha).choose_spec
  obtain ⟨short, hs⟩ : ∃ s, s = lot.filter fun a => decide (((F a).length : Int) < (lot.length : Int)) := ⟨_, rfl⟩
  refine ⟨decide ((1 : Int) < (lot.length : Int)) && decide (short = []), ?_, ?_⟩
  · refine runF_rt rfl (seq_nx (ρ1 := [.val (eRb false r), .val (eL lot), .val (.list ((leadsL r lot).map ePr)), .no, .no]) ?_ (seq_nx (ρ1 := [.val (eRb false r), .val (eL lot), .val (.list ((leadsL r lot).map ePr)), .val (.list (short.map PyData.int)), .no]) ?_ (ret_ ?_)))
    · refine set_ (s := .val (.list ((leadsL r lot).map ePr))) ?_
      show (F_law_arrows [eRb false r, eL lot]).map Sl.val = _
      rw [m_law_arrows r lot h hw]
      rfl
    · refine set_ (s := .val (.list (short.map PyData.int))) ?_
      unfold mkV
      rw [hs, compD_map PyData.int (fun a => decide (((F a).length : Int) < (lot.length : Int))) PyData.int lot rfl (Nat.lt_of_le_of_lt h4 (by decide)) fun a ha => ⟨_, rfl, ?_, fun _ => rfl⟩]
      · rfl
      · show (((F_law_from [.list ((leadsL r lot).map ePr), .int a]).bind dLen).bind fun d => dLt d (.int (((lot.map PyData.int).length : Nat) : Int))).bind asB = _
        rw [(hF a ha).1]
        show (dLt (.int ((((F a).map PyData.int).length : Nat) : Int)) (.int (((lot.map PyData.int).length : Nat) : Int))).bind asB = _
        rw [List.length_map, List.length_map]
        rfl
    · have t1 : do2 dGt (fun ρ => ((fun ρ => vAt ρ 1) ρ).bind dLen) (fun _ => some (.int 1)) ([.val (eRb false r), .val (eL lot), .val (.list ((leadsL r lot).map ePr)), .val (.list (short.map PyData.int)), .no] : Rho) = some (.bool (decide ((1 : Int) < (lot.length : Int)))) := by
        show dGt (.int (((lot.map PyData.int).length : Nat) : Int)) (.int 1) = _
        rw [List.length_map]
        rfl
      have t2 : do2 dEq (fun ρ => vAt ρ 3) (fun ρ => ((shortL aNil) ρ).map .list) ([.val (eRb false r), .val (eL lot), .val (.list ((leadsL r lot).map ePr)), .val (.list (short.map PyData.int)), .no] : Rho) = some (.bool (decide (short = []))) := by
        show dEq (.list (short.map PyData.int)) (.list []) = _
        exact eq_lst (n := 0) short (fun x _ => pl_int 0 x) (by decide)
      unfold dAndV
      rw [t1]
      cases decide ((1 : Int) < (lot.length : Int)) with
      | true => exact t2
      | false => rfl
  · rw [Bool.and_eq_true, decide_eq_true_eq, decide_eq_true_eq, hs, List.filter_eq_nil_iff]
    constructor
    · rintro ⟨k1, k2⟩
      refine ⟨by omega, fun a ha => Classical.byContradiction fun z => ?_⟩
      have := (hF a ha).2.mpr z
      exact k2 a ha (decide_eq_true (by omega))
    · rintro ⟨k1, k2⟩
      refine ⟨by omega, fun a ha z => ?_⟩
      have := of_decide_eq_true z
      exact (hF a ha).2.mp (by omega) (k2 a ha)
end GY
set_option Elab.async false
set_option linter.all false
set_option maxRecDepth 100000
set_option maxHeartbeats 4000000
/-! Gmd: mirrors of law_missed, law_wanted. -/
namespace GY
open PySem PySem.Spec PyProof.Rows L2
/-- the law's lots of a width, as the law makes them -/
structure Lots (w : Int) (U : Lot) (lots : List Lot) : Prop where
  run : F_law_lots [.int w] = some (eCl lots)
  lot : ∀ L ∈ lots, LotIn U L
  all : ∀ L, LotIn U L → L ∈ lots
  nd : lots.Nodup
  few : lots.length ≤ 100
  u4 : U.length ≤ 4
  unm : U.Nodup
theorem LotIn.nd {U L : Lot} (h : LotIn U L) : L.Nodup := h.so.imp fun {a b} (z : a < b) (e : a = b) => by omega
theorem LotIn.len {U L : Lot} (h : LotIn U L) : L.length ≤ U.length := nodup_le h.nd h.un
theorem or_ {p q : Rho → Option Bool} {ρ : Rho} {a b : Bool} (h : p ρ = some a) (k : q ρ = some b) : bOr p q ρ = some (a || b) := by
  unfold bOr
  rw [h]
  cases a with
  | true => rfl
  | false => exact k
theorem not_ {p : Rho → Option Bool} {ρ : Rho} {a : Bool} (h : p ρ = some a) : bNot p ρ = some (!a) := by
  unfold bNot
  rw [h]
  rfl
theorem m_law_missed {w : Int} {U : Lot} {lots : List Lot} (hL : Lots w U lots) (r : Rule) (h : Small r) (hw : wt r < 64) (hp : PicksIn r) :
    ∃ q : Lot → Bool, F_law_missed [eRb false r, .int w, .tuple []] = some (eCl (lots.filter q)) ∧ ∀ L ∈ lots, (q L = true ↔ Woven r L) := by
  have hu := hL.u4
  have wv : ∀ L ∈ lots, ∃ b, F_law_woven [eRb false r, eL L] = some (.bool b) ∧ (b = true ↔ 1 < L.length ∧ Woven r L) := fun L hl => by
    have := (hL.lot L hl).len
    exact m_law_woven r L h hw hp (by omega) (hL.lot L hl).nd
  let B : Lot → Bool := fun L => if hl : L ∈ lots then (wv L hl).choose else false
  have hB : ∀ L ∈ lots, F_law_woven [eRb false r, eL L] = some (.bool (B L)) ∧ (B L = true ↔ 1 < L.length ∧ Woven r L) := fun L hl => by
    have e : B L = (wv L hl).choose := dif_pos hl
    rw [e]
    exact (wv L hl).choose_spec
  have hbig : lots.length < sBig := Nat.lt_of_le_of_lt hL.few (by decide)
  refine ⟨fun L => decide ((L.length : Int) = 1) || B L, ?_, fun L hl => ?_⟩
  · refine runF_rt rfl (seq_nx (ρ1 := [.val (eRb false r), .val (.int w), .val (.tuple []), .val (eCl lots), .no]) ?_ (ret_ ?_))
    · refine set_ (s := .val (eCl lots)) ?_
      unfold mkV
      rw [compD_map eL (fun _ => true) eL lots ?_ hbig fun L hl => ⟨_, rfl, ?_, fun _ => rfl⟩]
      · rw [List.filter_eq_self.mpr fun _ _ => rfl]
        rfl
      · have ha : (aCons (fun ρ => vAt ρ 1) aNil) (startR 3 5 [eRb false r, .int w, .tuple []]) = some [.int w] := rfl
        dsimp only
        rw [ha, Option.bind_some, hL.run]
        rfl
      · refine not_ (a := false) ?_
        show (F_law_lies [eL L, seqD false (([] : List Lot).map eL)]).bind asB = _
        have := (hL.lot L hl).len
        rw [m_law_lies false L [] (by omega)]
        rfl
    · dsimp only
      rw [compD_map eL (fun L => decide ((L.length : Int) = 1) || B L) eL lots rfl hbig fun L hl => ⟨_, rfl, or_ ?_ ?_, fun _ => rfl⟩]
      · rfl
      · show (dEq (.int (((L.map PyData.int).length : Nat) : Int)) (.int 1)).bind asB = _
        rw [eq_int, List.length_map]
        rfl
      · show (F_law_woven [eRb false r, eL L]).bind asB = _
        rw [(hB L hl).1]
        rfl
  · rw [Bool.or_eq_true, decide_eq_true_eq, (hB L hl).2]
    constructor
    · rintro (e | e)
      · match L, e with
        | [x], _ =>
          intro a ha b hb
          rw [List.mem_singleton.mp ha, List.mem_singleton.mp hb]
          exact .refl
      · exact e.2
    · intro z
      have := (hL.lot L hl).ne
      have : 0 < L.length := List.length_pos_iff.mpr this
      by_cases e : L.length = 1
      · exact .inl (by omega)
      · exact .inr ⟨by omega, z⟩
end GY
set_option Elab.async false
set_option linter.all false
set_option maxRecDepth 100000
set_option maxHeartbeats 4000000
/-! Gme: mirror of law_wanted. -/
namespace GY
open PySem PySem.Spec PyProof.Rows L2
theorem any_lots (a : Lot) : ∀ c : List Lot, ((c.map eL).any fun z => PyData.eqv z (eL a)) = decide (a ∈ c)
  | [] => rfl
  | x :: c => by
    show (PyData.eqv (eL x) (eL a) || (c.map eL).any _) = _
    rw [any_lots a c, eqv_lot]
    by_cases h : x = a
    · simp [h]
    · simp [h, Ne.symm h]
theorem notin_lots (a : Lot) (c : List Lot) : (dNotIn (eL a) (eCl c)).bind asB = some (decide (a ∉ c)) := by
  have hs : SeqAt.shaped (eCl c) = true := shaped_pl (pl_map (n := 1) true fun x _ => pl_lot false x) (by decide)
  show (((if SeqAt.shaped (eL a) && SeqAt.shaped (eCl c) then some ((c.map eL).any fun z => PyData.eqv z (eL a)) else none).map fun b => PyData.bool (!b)).bind asB) = _
  rw [shaped_lot, hs, any_lots]
  show some (!decide (a ∈ c)) = _
  simp
abbrev gq_one : Rho → Option Out := (oSet 2 (cV (fun ρ => ((do2L dCat (fun ρ => vAt ρ 2) (fun ρ => ((compD (fun ρ => ((fun ρ => ((aCons (fun ρ => vAt ρ 3) (aCons (fun ρ => vAt ρ 1) (aCons (fun ρ => (shortL aNil ρ).map .tuple) aNil))) ρ).bind F_law_missed) ρ).bind dItems) (hName 4) (fun ρ => ((do2 dNotIn (fun ρ => vAt ρ 4) (fun ρ => vAt ρ 2)) ρ).bind asB) (fun ρ => vAt ρ 4) [4]) ρ).map .list)) ρ).map .list)))
abbrev gq_two : Rho → Option Out := (oSeq (oSet 6 (mkV (compD (fun ρ => ((fun ρ => vAt ρ 2) ρ).bind dItems) (hName 7) (fun ρ => ((do2 dNe (fun ρ => vAt ρ 7) (fun ρ => vAt ρ 4)) ρ).bind asB) (fun ρ => vAt ρ 7) [7])))
    (oIf (bNot (fun ρ => ((fun ρ => ((aCons (fun ρ => vAt ρ 4) (aCons (fun ρ => vAt ρ 6) aNil)) ρ).bind F_law_lies) ρ).bind asB)) (oApp 5 (fun ρ => vAt ρ 4)) oNext))
structure GoodR (r : Rule) : Prop where
  small : Small r
  wt : wt r < 64
  picks : PicksIn r
theorem wanted_one {w : Int} {U : Lot} {lots : List Lot} (hL : Lots w U lots) (d0 : D) : ∀ (rs : List Rule) (found : List Lot) (j3 j4 : Sl), (∀ r ∈ rs, GoodR r) → found.Nodup → (∀ L ∈ found, L ∈ lots) →
    ∃ found' j3' j4', forGo (hName 3) gq_one (rs.map (eRb false)) ([.val d0, .val (.int w), .val (eCl found), j3, j4, .no, .no, .no] : Rho) = some (.nx ([.val d0, .val (.int w), .val (eCl found'), j3', j4', .no, .no, .no] : Rho)) ∧ found'.Nodup ∧ (∀ L ∈ found', L ∈ lots) ∧
      ∀ L, L ∈ found' ↔ L ∈ found ∨ ∃ r ∈ rs, L ∈ lots ∧ Woven r L
  | [], found, j3, j4, _, nd, hf => ⟨found, j3, j4, rfl, nd, hf, fun L => ⟨.inl, fun z => z.elim id fun ⟨_, h, _⟩ => nomatch h⟩⟩
  | r :: rs, found, j3, j4, hr, nd, hf => by
    have gr := hr r List.mem_cons_self
    obtain ⟨q, e1, e2⟩ := m_law_missed hL r gr.small gr.wt gr.picks
    have hfew := hL.few
    have hfl := nodup_le nd hf
    have hc : compD (fun ρ => ((fun ρ => ((aCons (fun ρ => vAt ρ 3) (aCons (fun ρ => vAt ρ 1) (aCons (fun ρ => (shortL aNil ρ).map .tuple) aNil))) ρ).bind F_law_missed) ρ).bind dItems) (hName 4) (fun ρ => ((do2 dNotIn (fun ρ => vAt ρ 4) (fun ρ => vAt ρ 2)) ρ).bind asB) (fun ρ => vAt ρ 4) [4] ([.val d0, .val (.int w), .val (eCl found), .val (eRb false r), j4, .no, .no, .no] : Rho) = some (((lots.filter q).filter fun L => decide (L ∉ found)).map eL) := by
      have hlen : (lots.filter q).length < sBig := Nat.lt_of_le_of_lt (Nat.le_trans (List.length_filter_le _ _) hfew) (by decide)
      refine compD_map eL (fun L => decide (L ∉ found)) eL (lots.filter q) ?_ hlen fun L _ => ⟨_, rfl, notin_lots L found, fun _ => rfl⟩
      have ha : (aCons (fun ρ => vAt ρ 3) (aCons (fun ρ => vAt ρ 1) (aCons (fun ρ => (shortL aNil ρ).map PyData.tuple) aNil))) ([.val d0, .val (.int w), .val (eCl found), .val (eRb false r), j4, .no, .no, .no] : Rho) = some [eRb false r, .int w, .tuple []] := rfl
      dsimp only
      rw [ha, Option.bind_some, e1]
      rfl
    have hfl2 := Nat.le_trans (List.length_filter_le (fun L => decide (L ∉ found)) (lots.filter q)) (List.length_filter_le q lots)
    have h := cat_ (f := fun ρ => vAt ρ 2) (g := fun ρ => ((compD (fun ρ => ((fun ρ => ((aCons (fun ρ => vAt ρ 3) (aCons (fun ρ => vAt ρ 1) (aCons (fun ρ => (shortL aNil ρ).map .tuple) aNil))) ρ).bind F_law_missed) ρ).bind dItems) (hName 4) (fun ρ => ((do2 dNotIn (fun ρ => vAt ρ 4) (fun ρ => vAt ρ 2)) ρ).bind asB) (fun ρ => vAt ρ 4) [4]) ρ).map .list) (ρ := ([.val d0, .val (.int w), .val (eCl found), .val (eRb false r), j4, .no, .no, .no] : Rho)) (as := found.map eL) (bs := ((lots.filter q).filter fun L => decide (L ∉ found)).map eL) rfl (by dsimp only; rw [hc]; rfl) (by
      rw [List.length_map, List.length_map]
      exact Nat.le_trans (by omega : _ ≤ 200) (by decide))
    have hone : gq_one ([.val d0, .val (.int w), .val (eCl found), .val (eRb false r), j4, .no, .no, .no] : Rho) = some (.nx ([.val d0, .val (.int w), .val (eCl (found ++ (lots.filter q).filter fun L => decide (L ∉ found))), .val (eRb false r), j4, .no, .no, .no] : Rho)) := by
      refine set_ (s := .val (eCl (found ++ (lots.filter q).filter fun L => decide (L ∉ found)))) ?_
      unfold cV
      dsimp only at h ⊢
      rw [h, ← List.map_append]
      rfl
    have nd' : (found ++ (lots.filter q).filter fun L => decide (L ∉ found)).Nodup := by
      rw [List.nodup_append]
      refine ⟨nd, (hL.nd.sublist List.filter_sublist).sublist List.filter_sublist, fun a ha b hb e => ?_⟩
      exact of_decide_eq_true (List.mem_filter.mp hb).2 (by rw [← e]; exact ha)
    have hf' : ∀ L ∈ found ++ (lots.filter q).filter fun L => decide (L ∉ found), L ∈ lots := fun L hl => by
      rcases List.mem_append.mp hl with z | z
      · exact hf L z
      · exact (List.mem_filter.mp (List.mem_filter.mp z).1).1
    obtain ⟨found', j3', j4', k1, k2, k3, k4⟩ := wanted_one hL d0 rs _ (.val (eRb false r)) j4 (fun x hx => hr x (List.mem_cons_of_mem _ hx)) nd' hf'
    refine ⟨found', j3', j4', ?_, k2, k3, fun L => (k4 L).trans ⟨fun z => ?_, fun z => ?_⟩⟩
    · rw [List.map_cons]
      refine (forGo_cons (ρ' := ([.val d0, .val (.int w), .val (eCl (found ++ (lots.filter q).filter fun L => decide (L ∉ found))), .val (eRb false r), j4, .no, .no, .no] : Rho)) ?_).trans k1
      exact hone
    · rcases z with z | ⟨r', h1, h2⟩
      · rcases List.mem_append.mp z with z | z
        · exact .inl z
        · have := List.mem_filter.mp (List.mem_filter.mp z).1
          exact .inr ⟨r, List.mem_cons_self, this.1, (e2 L this.1).mp this.2⟩
      · exact .inr ⟨r', List.mem_cons_of_mem _ h1, h2⟩
    · rcases z with z | ⟨r', h1, h2, h3⟩
      · exact .inl (List.mem_append_left _ z)
      · rcases List.mem_cons.mp h1 with rfl | h1
        · by_cases c : L ∈ found
          · exact .inl (List.mem_append_left _ c)
          · exact .inl (List.mem_append_right _ (List.mem_filter.mpr ⟨List.mem_filter.mpr ⟨h2, (e2 L h2).mpr h3⟩, decide_eq_true c⟩))
        · exact .inr ⟨r', h1, h2, h3⟩
/-- not within another of them -/
def mxq (found : List Lot) (own : Lot) : Bool := !liesIn own (found.filter fun far => !decide (far = own))
def rhoW (d0 d1 : D) (found least : List Lot) (j3 : Sl) (j : Sl × Sl × Sl) : Rho := [.val d0, .val d1, .val (eCl found), j3, j.1, .own (least.map eL), j.2.1, j.2.2]
theorem wanted_two (d0 d1 : D) (found : List Lot) (j3 : Sl) (hf : found.length ≤ 100) (hl : ∀ L ∈ found, L.length < 1000) : ∀ (xs least : List Lot) (j : Sl × Sl × Sl), (∀ L ∈ xs, L ∈ found) → least.length + xs.length ≤ 500 →
    ∃ j', forGo (hName 4) gq_two (xs.map eL) (rhoW d0 d1 found least j3 j) = some (.nx (rhoW d0 d1 found (least ++ xs.filter (mxq found)) j3 j'))
  | [], least, j, _, _ => ⟨j, by rw [List.filter_nil, List.append_nil]; rfl⟩
  | L :: xs, least, j, hx, hb => by
    rw [List.length_cons] at hb
    have hLf := hx L List.mem_cons_self
    obtain ⟨oth, ho⟩ : ∃ o, o = found.filter fun far => !decide (far = L) := ⟨_, rfl⟩
    have hset : oSet 6 (mkV (compD (fun ρ => ((fun ρ => vAt ρ 2) ρ).bind dItems) (hName 7) (fun ρ => ((do2 dNe (fun ρ => vAt ρ 7) (fun ρ => vAt ρ 4)) ρ).bind asB) (fun ρ => vAt ρ 7) [7])) (rhoW d0 d1 found least j3 (.val (eL L), j.2.1, j.2.2)) = some (.nx (rhoW d0 d1 found least j3 (.val (eL L), .val (eCl oth), j.2.2))) := by
      refine set_ (s := .val (eCl oth)) ?_
      unfold mkV
      rw [ho, compD_map eL (fun far => !decide (far = L)) eL found rfl (Nat.lt_of_le_of_lt hf (by decide)) fun far _ => ⟨_, rfl, ?_, fun _ => rfl⟩]
      · rfl
      · show (dNe (eL far) (eL L)).bind asB = _
        rw [ne_lot]
        rfl
    have t : bNot (fun ρ => ((fun ρ => ((aCons (fun ρ => vAt ρ 4) (aCons (fun ρ => vAt ρ 6) aNil)) ρ).bind F_law_lies) ρ).bind asB) (rhoW d0 d1 found least j3 (.val (eL L), .val (eCl oth), j.2.2)) = some (mxq found L) := by
      unfold mxq
      rw [← ho]
      refine not_ ?_
      show (F_law_lies [eL L, seqD true (oth.map eL)]).bind asB = _
      rw [m_law_lies true L oth (hl L hLf)]
      rfl
    cases c : mxq found L with
    | true =>
      have e1 : gq_two (rhoW d0 d1 found least j3 (.val (eL L), j.2.1, j.2.2)) = some (.nx (rhoW d0 d1 found (least ++ [L]) j3 (.val (eL L), .val (eCl oth), j.2.2))) := by
        refine seq_nx hset (if_t (by rw [t, c]) ?_)
        show (if (least.map eL).length < sBig then _ else _) = _
        rw [if_pos (by rw [List.length_map]; exact Nat.lt_of_le_of_lt (by omega : _ ≤ 500) (by decide))]
        unfold rhoW
        rw [List.map_append]
        rfl
      obtain ⟨j', k⟩ := wanted_two d0 d1 found j3 hf hl xs (least ++ [L]) (.val (eL L), .val (eCl oth), j.2.2) (fun M hM => hx M (List.mem_cons_of_mem _ hM)) (by rw [List.length_append, List.length_singleton]; omega)
      refine ⟨j', ?_⟩
      rw [List.filter_cons, c, if_pos rfl, List.map_cons]
      rw [List.append_assoc] at k
      refine (forGo_cons (ρ' := rhoW d0 d1 found (least ++ [L]) j3 (.val (eL L), .val (eCl oth), j.2.2)) ?_).trans k
      exact e1
    | false =>
      have e1 : gq_two (rhoW d0 d1 found least j3 (.val (eL L), j.2.1, j.2.2)) = some (.nx (rhoW d0 d1 found least j3 (.val (eL L), .val (eCl oth), j.2.2))) :=
        seq_nx hset (if_f (by rw [t, c]) rfl)
      obtain ⟨j', k⟩ := wanted_two d0 d1 found j3 hf hl xs least (.val (eL L), .val (eCl oth), j.2.2) (fun M hM => hx M (List.mem_cons_of_mem _ hM)) (by omega)
      refine ⟨j', ?_⟩
      rw [List.filter_cons, c, if_neg Bool.false_ne_true, List.map_cons]
      refine (forGo_cons (ρ' := rhoW d0 d1 found least j3 (.val (eL L), .val (eCl oth), j.2.2)) ?_).trans k
      exact e1
theorem m_law_wanted {w : Int} {U : Lot} {lots : List Lot} (hL : Lots w U lots) (rs : List Rule) (hr : ∀ r ∈ rs, GoodR r) :
    ∃ found : List Lot, F_law_wanted [eRsb false rs, .int w] = some (eCl (isL (found.filter (mxq found)))) ∧ found.Nodup ∧ (∀ L ∈ found, L ∈ lots) ∧ ∀ L, L ∈ found ↔ ∃ r ∈ rs, L ∈ lots ∧ Woven r L := by
  obtain ⟨found, j3, j4, e1, nd, hf, hm⟩ := wanted_one hL (eRsb false rs) rs [] .no .no hr List.nodup_nil (fun _ h => nomatch h)
  have hfl := nodup_le nd hf
  have hfew := hL.few
  have hu := hL.u4
  have hlen : ∀ L ∈ found, L.length < 1000 := fun L hl => by
    have := (hL.lot L (hf L hl)).len
    omega
  obtain ⟨j', e2⟩ := wanted_two (eRsb false rs) (.int w) found j3 (by omega) hlen found [] (j4, .no, .no) (fun L h => h) (by show 0 + found.length ≤ 500; omega)
  rw [List.nil_append] at e2
  refine ⟨found, ?_, nd, hf, fun L => (hm L).trans ⟨fun z => z.elim (fun h => nomatch h) id, .inr⟩⟩
  refine runF_ex rfl ⟨_, seq_nx (ρ1 := [.val (eRsb false rs), .val (.int w), .val (eCl []), .no, .no, .no, .no, .no]) rfl (seq_nx (for_ (ds := rs.map (eRb false)) rfl e1) (seq_nx (ρ1 := rhoW (eRsb false rs) (.int w) found [] j3 (j4, .no, .no)) rfl (seq_nx (for_ (ds := found.map eL) rfl e2) (ret_ ?_))))⟩
  show (dSortD (.list ((found.filter (mxq found)).map eL))).map PyData.list = _
  have hs : dSortD (.list ((found.filter (mxq found)).map eL)) = some ((isL (found.filter (mxq found))).map eL) := by
    show (if ((found.filter (mxq found)).map eL).length ≤ sBig then (decAll false ((found.filter (mxq found)).map (encK false))).map fun ks => (isL ks).map (encK false) else none) = _
    rw [if_pos (by
      rw [List.length_map]
      have := List.length_filter_le (mxq found) found
      exact Nat.le_trans (by omega : _ ≤ 100) (by decide)), decAll_enc fun k hk => (hL.lot k (hf k (List.mem_filter.mp hk).1)).ne]
    rfl
  rw [hs]
  rfl
end GY
set_option Elab.async false
set_option linter.all false
set_option maxRecDepth 100000
set_option maxHeartbeats 4000000
/-! Gmf: mirrors of law_sets, law_fewest. -/
namespace GY
open PySem PySem.Spec PyProof.Rows L2
def sstep (size : Nat) (found : List (List Lot)) (own : Lot) : List (List Lot) := found ++ (found.filter fun row => decide ((row.length : Int) < (size : Int))).map fun row => row ++ [own]
def setsL (goods : List Lot) (size : Nat) : List (List Lot) := (goods.foldl (sstep size) [[]]).filter fun row => decide ((row.length : Int) = (size : Int))
abbrev gs_one : Rho → Option Out := (oSet 2 (cV (fun ρ => ((do2L dCat (fun ρ => vAt ρ 2) (fun ρ => ((compD (fun ρ => ((fun ρ => vAt ρ 2) ρ).bind dItems) (hName 4) (fun ρ => ((do2 dLt (fun ρ => ((fun ρ => vAt ρ 4) ρ).bind dLen) (fun ρ => vAt ρ 1)) ρ).bind asB) (do2 dAdd (fun ρ => vAt ρ 4) (fun ρ => (shortL (aCons (fun ρ => vAt ρ 3) aNil) ρ).map .tuple)) [4]) ρ).map .list)) ρ).map .list)))
theorem sets_len (size : Nat) : ∀ (gs : List Lot) (found : List (List Lot)), (gs.foldl (sstep size) found).length ≤ found.length * 2 ^ gs.length
  | [], found => by simp
  | g :: gs, found => by
    rw [List.foldl_cons]
    have h := sets_len size gs (sstep size found g)
    have h2 : (sstep size found g).length ≤ found.length * 2 := by
      unfold sstep
      rw [List.length_append, List.length_map]
      have := List.length_filter_le (fun row : List Lot => decide ((row.length : Int) < (size : Int))) found
      omega
    rw [List.length_cons, Nat.pow_succ, Nat.mul_comm (2 ^ gs.length) 2, ← Nat.mul_assoc]
    exact Nat.le_trans h (Nat.mul_le_mul_right _ h2)
theorem sets_run (d0 : D) (size : Nat) (j4 : Sl) : ∀ (gs : List Lot) (found : List (List Lot)) (j3 : Sl), found.length * 2 ^ gs.length ≤ 50000 → (∀ row ∈ found, row.length + gs.length ≤ 100) →
    ∃ j3', forGo (hName 3) gs_one (gs.map eL) ([.val d0, .val (.int (size : Int)), .val (.list (found.map eC)), j3, j4] : Rho) = some (.nx ([.val d0, .val (.int (size : Int)), .val (.list ((gs.foldl (sstep size) found).map eC)), j3', j4] : Rho))
  | [], found, j3, _, _ => ⟨j3, rfl⟩
  | g :: gs, found, j3, hb, hr => by
    rw [List.length_cons, Nat.pow_succ, Nat.mul_comm (2 ^ gs.length) 2, ← Nat.mul_assoc] at hb
    have hpos : 1 ≤ 2 ^ gs.length := Nat.one_le_two_pow
    have hfb : found.length * 2 ≤ 50000 := Nat.le_trans (Nat.le_mul_of_pos_right _ hpos) hb
    have h2 : (sstep size found g).length ≤ found.length * 2 := by
      unfold sstep
      rw [List.length_append, List.length_map]
      have := List.length_filter_le (fun row : List Lot => decide ((row.length : Int) < (size : Int))) found
      omega
    have hc : compD (fun ρ => ((fun ρ => vAt ρ 2) ρ).bind dItems) (hName 4) (fun ρ => ((do2 dLt (fun ρ => ((fun ρ => vAt ρ 4) ρ).bind dLen) (fun ρ => vAt ρ 1)) ρ).bind asB) (do2 dAdd (fun ρ => vAt ρ 4) (fun ρ => (shortL (aCons (fun ρ => vAt ρ 3) aNil) ρ).map .tuple)) [4] ([.val d0, .val (.int (size : Int)), .val (.list (found.map eC)), .val (eL g), j4] : Rho) = some (((found.filter fun row => decide ((row.length : Int) < (size : Int))).map fun row => row ++ [g]).map eC) := by
      rw [List.map_map]
      refine compD_map eC (fun row => decide ((row.length : Int) < (size : Int))) (eC ∘ fun row => row ++ [g]) found rfl (Nat.lt_of_le_of_lt (by omega : _ ≤ 50000) (by decide)) fun row hrow => ⟨_, rfl, ?_, fun _ => ?_⟩
      · show (dLt (.int (((row.map eL).length : Nat) : Int)) (.int (size : Int))).bind asB = _
        rw [List.length_map]
        rfl
      · show dAdd (eC row) (.tuple [eL g]) = _
        show (if (row.map eL).length + 1 ≤ sBig then some (PyData.tuple (row.map eL ++ [eL g])) else none) = _
        have := hr row hrow
        rw [if_pos (by rw [List.length_map]; exact Nat.le_trans (by omega : _ ≤ 101) (by decide))]
        show _ = some (PyData.tuple ((row ++ [g]).map eL))
        rw [List.map_append]
        rfl
    have h := cat_ (f := fun ρ => vAt ρ 2) (g := fun ρ => ((compD (fun ρ => ((fun ρ => vAt ρ 2) ρ).bind dItems) (hName 4) (fun ρ => ((do2 dLt (fun ρ => ((fun ρ => vAt ρ 4) ρ).bind dLen) (fun ρ => vAt ρ 1)) ρ).bind asB) (do2 dAdd (fun ρ => vAt ρ 4) (fun ρ => (shortL (aCons (fun ρ => vAt ρ 3) aNil) ρ).map .tuple)) [4]) ρ).map .list) (ρ := ([.val d0, .val (.int (size : Int)), .val (.list (found.map eC)), .val (eL g), j4] : Rho)) (as := found.map eC) (bs := ((found.filter fun row => decide ((row.length : Int) < (size : Int))).map fun row => row ++ [g]).map eC) rfl (by dsimp only; rw [hc]; rfl) (by
      rw [List.length_map, List.length_map, List.length_map]
      have := List.length_filter_le (fun row : List Lot => decide ((row.length : Int) < (size : Int))) found
      exact Nat.le_trans (by omega : _ ≤ 50000) (by decide))
    have hone : gs_one ([.val d0, .val (.int (size : Int)), .val (.list (found.map eC)), .val (eL g), j4] : Rho) = some (.nx ([.val d0, .val (.int (size : Int)), .val (.list ((sstep size found g).map eC)), .val (eL g), j4] : Rho)) := by
      refine set_ (s := .val (.list ((sstep size found g).map eC))) ?_
      unfold cV
      dsimp only at h ⊢
      rw [h, ← List.map_append]
      rfl
    obtain ⟨j3', k⟩ := sets_run d0 size j4 gs (sstep size found g) (.val (eL g)) (Nat.le_trans (Nat.mul_le_mul_right _ h2) hb) (fun row hrow => by
      unfold sstep at hrow
      rcases List.mem_append.mp hrow with z | z
      · have := hr row z
        rw [List.length_cons] at this
        omega
      · obtain ⟨row', h1, rfl⟩ := List.mem_map.mp z
        have := hr row' (List.mem_filter.mp h1).1
        rw [List.length_cons] at this
        rw [List.length_append, List.length_singleton]
        omega)
    refine ⟨j3', ?_⟩
    rw [List.map_cons, List.foldl_cons]
    refine (forGo_cons (ρ' := ([.val d0, .val (.int (size : Int)), .val (.list ((sstep size found g).map eC)), .val (eL g), j4] : Rho)) ?_).trans k
    exact hone
theorem m_law_sets (goods : List Lot) (size : Nat) (h15 : goods.length ≤ 15) : F_law_sets [eCl goods, .int (size : Int)] = some (.list ((setsL goods size).map eC)) ∧ (setsL goods size).length ≤ 50000 := by
  have hp : 2 ^ goods.length ≤ 2 ^ 15 := Nat.pow_le_pow_right (by omega) h15
  have e15 : (2 : Nat) ^ 15 = 32768 := by decide
  have hsl := sets_len size goods [[]]
  have hb : ([[]] : List (List Lot)).length * 2 ^ goods.length ≤ 50000 := by
    show 1 * 2 ^ goods.length ≤ 50000
    omega
  obtain ⟨j3, e⟩ := sets_run (eCl goods) size .no goods [[]] .no hb (fun row hr => by rw [List.mem_singleton.mp hr]; show 0 + goods.length ≤ 100; omega)
  have hle : (setsL goods size).length ≤ 50000 := Nat.le_trans (List.length_filter_le _ _) (Nat.le_trans hsl hb)
  refine ⟨runF_ex rfl ⟨_, seq_nx (ρ1 := [.val (eCl goods), .val (.int (size : Int)), .val (.list (([[]] : List (List Lot)).map eC)), .no, .no]) rfl (seq_nx (for_ (ds := goods.map eL) rfl e) (ret_ ?_))⟩, hle⟩
  dsimp only
  rw [compD_map eC (fun row => decide ((row.length : Int) = (size : Int))) eC (goods.foldl (sstep size) [[]]) rfl (Nat.lt_of_le_of_lt (Nat.le_trans hsl hb) (by decide)) fun row _ => ⟨_, rfl, ?_, fun _ => rfl⟩]
  · rfl
  · show (dEq (.int (((row.map eL).length : Nat) : Int)) (.int (size : Int))).bind asB = _
    rw [eq_int, List.length_map]
    rfl
end GY
set_option Elab.async false
set_option linter.all false
set_option maxRecDepth 100000
set_option maxHeartbeats 4000000
/-! Gmg: law_fewest. -/
namespace GY
open PySem PySem.Spec PyProof.Rows L2
theorem fold_sound (size : Nat) : ∀ (gs : List Lot) (found : List (List Lot)) (row : List Lot), row ∈ gs.foldl (sstep size) found → ∃ r0 ∈ found, ∃ r1, row = r0 ++ r1 ∧ r1.Sublist gs
  | [], found, row, h => ⟨row, h, [], by simp, List.Sublist.refl _⟩
  | g :: gs, found, row, h => by
    obtain ⟨r0, h1, r1, h2, h3⟩ := fold_sound size gs (sstep size found g) row h
    unfold sstep at h1
    rcases List.mem_append.mp h1 with z | z
    · exact ⟨r0, z, r1, h2, h3.cons g⟩
    · obtain ⟨r, hr, rfl⟩ := List.mem_map.mp z
      exact ⟨r, (List.mem_filter.mp hr).1, g :: r1, by rw [h2]; simp, h3.cons_cons g⟩
theorem fold_all (size : Nat) : ∀ (gs : List Lot) (found : List (List Lot)) (r0 r1 : List Lot), r0 ∈ found → r1.Sublist gs → r0.length + r1.length ≤ size → r0 ++ r1 ∈ gs.foldl (sstep size) found
  | [], found, r0, r1, h, hs, _ => by
    rw [List.sublist_nil.mp hs, List.append_nil]
    exact h
  | g :: gs, found, r0, r1, h, hs, hl => by
    rw [List.foldl_cons]
    cases hs with
    | cons _ hs => exact fold_all size gs (sstep size found g) r0 r1 (List.mem_append_left _ h) hs hl
    | @cons_cons r1 _ _ hs =>
      rw [List.length_cons] at hl
      have h2 : r0 ++ [g] ∈ sstep size found g := List.mem_append_right _ (List.mem_map.mpr ⟨r0, List.mem_filter.mpr ⟨h, decide_eq_true (by omega)⟩, rfl⟩)
      have := fold_all size gs (sstep size found g) (r0 ++ [g]) r1 h2 hs (by rw [List.length_append, List.length_singleton]; omega)
      simpa using this
theorem mem_setsL {goods : List Lot} {size : Nat} {row : List Lot} : row ∈ setsL goods size ↔ row.Sublist goods ∧ row.length = size := by
  unfold setsL
  rw [List.mem_filter, decide_eq_true_eq]
  constructor
  · rintro ⟨h1, h2⟩
    obtain ⟨r0, h3, r1, h4, h5⟩ := fold_sound size goods [[]] row h1
    rw [List.mem_singleton.mp h3, List.nil_append] at h4
    rw [h4] at h2 ⊢
    exact ⟨h5, by omega⟩
  · rintro ⟨h1, h2⟩
    have := fold_all size goods [[]] [] row (List.mem_singleton.mpr rfl) h1 (by show 0 + row.length ≤ size; omega)
    exact ⟨this, by omega⟩
/-- a least row as a sublist of the goods -/
theorem best_sub {goods W row : List Lot} (hnd : goods.Nodup) (hb : Best goods W row) : ∃ r, r.Sublist goods ∧ Best goods W r := by
  have hc : Cov goods W (goods.filter fun g => decide (g ∈ row)) := by
    refine ⟨fun l hl => (List.mem_filter.mp hl).1, rest_empty.mpr fun own ho => ?_⟩
    obtain ⟨g, h1, h2⟩ := lies_mem.mp (rest_empty.mp hb.1.2 own ho)
    exact lies_mem.mpr ⟨g, List.mem_filter.mpr ⟨hb.1.1 g h1, decide_eq_true h1⟩, h2⟩
  have hl : (goods.filter fun g => decide (g ∈ row)).length ≤ row.length := nodup_le (hnd.sublist List.filter_sublist) fun x hx => of_decide_eq_true (List.mem_filter.mp hx).2
  exact ⟨_, List.filter_sublist, hc, fun c h => Nat.le_trans hl (hb.2 c h)⟩
theorem best_len {goods W a b : List Lot} (ha : Best goods W a) (hb : Best goods W b) : a.length = b.length := Nat.le_antisymm (ha.2 b hb.1) (hb.2 a ha.1)
end GY
set_option Elab.async false
set_option linter.all false
set_option maxRecDepth 100000
set_option maxHeartbeats 4000000
/-! Gmh: mirror of law_fewest. -/
namespace GY
open PySem PySem.Spec PyProof.Rows L2
abbrev gh_one : Rho → Option Out := (oIf (fun ρ => ((do2 dEq (fun ρ => ((compD (fun ρ => ((fun ρ => vAt ρ 1) ρ).bind dItems) (hName 4) (bNot (fun ρ => ((fun ρ => ((aCons (fun ρ => vAt ρ 4) (aCons (fun ρ => vAt ρ 6) aNil)) ρ).bind F_law_lies) ρ).bind asB)) (fun _ => some (.int 1)) [4]) ρ).map .list) (fun ρ => ((shortL aNil) ρ).map .list)) ρ).bind asB) (oRet (fun ρ => vAt ρ 5)) oNext)
abbrev gh_two : Rho → Option Out := (oFor (fun ρ => ((fun ρ => ((aCons (fun ρ => vAt ρ 3) (aCons (fun ρ => vAt ρ 5) aNil)) ρ).bind F_law_sets) ρ).bind dItems) (hName 6) gh_one)
def rhoH (w most : Int) (W goods : List Lot) (j : Sl × Sl) : Rho := [.val (.int w), .val (eCl W), .val (.int most), .val (eCl goods), .no, j.1, j.2]
theorem fewest_row (w most : Int) (W goods : List Lot) (hW : W.length ≤ 100) (hl : ∀ L ∈ W, L.length ≤ 100) (n : Nat) (row : List Lot) : 
    gh_one (rhoH w most W goods (.val (.int (n : Int)), .val (eC row))) = some (if decide (restOf W row = []) then .rt (.int (n : Int)) (rhoH w most W goods (.val (.int (n : Int)), .val (eC row))) else .nx (rhoH w most W goods (.val (.int (n : Int)), .val (eC row)))) := by
  have hc : compD (fun ρ => ((fun ρ => vAt ρ 1) ρ).bind dItems) (hName 4) (bNot (fun ρ => ((fun ρ => ((aCons (fun ρ => vAt ρ 4) (aCons (fun ρ => vAt ρ 6) aNil)) ρ).bind F_law_lies) ρ).bind asB)) (fun _ => some (.int 1)) [4] (rhoH w most W goods (.val (.int (n : Int)), .val (eC row))) = some ((restOf W row).map fun _ => PyData.int 1) := by
    refine compD_map eL (fun own => !liesIn own row) (fun _ => .int 1) W rfl (Nat.lt_of_le_of_lt hW (by decide)) fun own ho => ⟨_, rfl, not_ ?_, fun _ => rfl⟩
    show (F_law_lies [eL own, seqD false (row.map eL)]).bind asB = _
    have := hl own ho
    rw [m_law_lies false own row (by omega)]
    rfl
  have t := lstEq_ (n := 0) (restOf W row) hc (fun _ _ => pl_int 0 1) (by decide)
  cases c : decide (restOf W row = []) with
  | true => exact if_t (by rw [t, c]) rfl
  | false => exact if_f (by rw [t, c]) rfl
theorem fewest_size (w most : Int) (W goods : List Lot) (hW : W.length ≤ 100) (hl : ∀ L ∈ W, L.length ≤ 100) (hg : goods.length ≤ 15) (n : Nat) (j6 : Sl) :
    ∃ j', gh_two (rhoH w most W goods (.val (.int (n : Int)), j6)) = some (if (setsL goods n).any (fun row => decide (restOf W row = [])) then .rt (.int (n : Int)) (rhoH w most W goods j') else .nx (rhoH w most W goods j')) := by
  obtain ⟨e1, e2⟩ := m_law_sets goods n hg
  obtain ⟨j6', e⟩ := forGo_any (J := Sl) (h := hName 6) (g := gh_one) (enc := eC) (fun j6 => rhoH w most W goods (.val (.int (n : Int)), j6)) (fun row => decide (restOf W row = [])) (fun _ => .int (n : Int)) (setsL goods n) j6 fun row _ j => ⟨.val (eC row), fewest_row w most W goods hW hl n row⟩
  refine ⟨(.val (.int (n : Int)), j6'), ?_⟩
  have hd : (fun ρ => ((fun ρ => ((aCons (fun ρ => vAt ρ 3) (aCons (fun ρ => vAt ρ 5) aNil)) ρ).bind F_law_sets) ρ).bind dItems) (rhoH w most W goods (.val (.int (n : Int)), j6)) = some ((setsL goods n).map eC) := by
    have ha : (aCons (fun ρ => vAt ρ 3) (aCons (fun ρ => vAt ρ 5) aNil)) (rhoH w most W goods (.val (.int (n : Int)), j6)) = some [eCl goods, .int (n : Int)] := rfl
    dsimp only
    rw [ha, Option.bind_some, e1]
    rfl
  have hf : (setsL goods n).any (fun row => decide (restOf W row = [])) = ((setsL goods n).find? fun row => decide (restOf W row = [])).isSome := by
    rw [Bool.eq_iff_iff, List.find?_isSome, List.any_eq_true]
  rw [hf]
  cases z : (setsL goods n).find? fun row => decide (restOf W row = []) with
  | some row =>
    rw [z] at e
    exact for_ hd e
  | none =>
    rw [z] at e
    exact for_ hd e
end GY
set_option Elab.async false
set_option linter.all false
set_option maxRecDepth 100000
set_option maxHeartbeats 4000000
/-! Gmi: law_fewest gives the length of a least row. -/
namespace GY
open PySem PySem.Spec PyProof.Rows L2
abbrev goodsOf (lots : List Lot) (most : Int) : List Lot := lots.filter fun l => decide ((l.length : Int) ≤ most)
theorem within_len {L M : Lot} (nd : L.Nodup) (h : isWithin L M = true) : L.length ≤ M.length := nodup_le nd fun x hx => of_decide_eq_true (List.all_eq_true.mp h x hx)
theorem within_self (L : Lot) : isWithin L L = true := List.all_eq_true.mpr fun x hx => decide_eq_true hx
theorem m_law_fewest {w : Int} {U : Lot} {lots : List Lot} (hL : Lots w U lots) (h15 : lots.length ≤ 15) (W : List Lot) (most : Int) (hW : ∀ L ∈ W, LotIn U L) (hWl : W.length ≤ 100) :
    (∃ row, F_law_fewest [.int w, eCl W, .int most] = some (.int (row.length : Int)) ∧ Best (goodsOf lots most) W row) ∨
    (F_law_fewest [.int w, eCl W, .int most] = some .none ∧ ∀ cov, ¬ Cov (goodsOf lots most) W cov) := by
  have hu := hL.u4
  have hl : ∀ L ∈ W, L.length ≤ 100 := fun L h => by
    have := (hW L h).len
    omega
  obtain ⟨goods, hg⟩ : ∃ g, g = goodsOf lots most := ⟨_, rfl⟩
  rw [← hg]
  have hgl : goods.length ≤ 15 := by
    rw [hg]
    exact Nat.le_trans (List.length_filter_le _ _) h15
  have hgnd : goods.Nodup := by
    rw [hg]
    exact hL.nd.sublist List.filter_sublist
  have hset : oSet 3 (mkV (compD (fun ρ => ((fun ρ => ((aCons (fun ρ => vAt ρ 0) aNil) ρ).bind F_law_lots) ρ).bind dItems) (hName 4) (fun ρ => ((do2 dLe (fun ρ => ((fun ρ => vAt ρ 4) ρ).bind dLen) (fun ρ => vAt ρ 2)) ρ).bind asB) (fun ρ => vAt ρ 4) [4])) (startR 3 7 [.int w, eCl W, .int most]) = some (.nx (rhoH w most W goods (.no, .no))) := by
    refine set_ (s := .val (eCl goods)) ?_
    unfold mkV
    rw [hg, compD_map eL (fun l => decide ((l.length : Int) ≤ most)) eL lots ?_ (Nat.lt_of_le_of_lt h15 (by decide)) fun L _ => ⟨_, rfl, ?_, fun _ => rfl⟩]
    · rfl
    · have ha : (aCons (fun ρ => vAt ρ 0) aNil) (startR 3 7 [.int w, eCl W, .int most]) = some [.int w] := rfl
      dsimp only
      rw [ha, Option.bind_some, hL.run]
      rfl
    · show (dLe (.int (((L.map PyData.int).length : Nat) : Int)) (.int most)).bind asB = _
      rw [List.length_map]
      rfl
  obtain ⟨long, hlong⟩ : ∃ s, s = W.filter fun L => decide (most < (L.length : Int)) := ⟨_, rfl⟩
  have hc : compD (fun ρ => ((fun ρ => vAt ρ 1) ρ).bind dItems) (hName 4) (fun ρ => ((do2 dGt (fun ρ => ((fun ρ => vAt ρ 4) ρ).bind dLen) (fun ρ => vAt ρ 2)) ρ).bind asB) (fun _ => some (.int 1)) [4] (rhoH w most W goods (.no, .no)) = some (long.map fun _ => PyData.int 1) := by
    rw [hlong]
    refine compD_map eL (fun L => decide (most < (L.length : Int))) (fun _ => .int 1) W rfl (Nat.lt_of_le_of_lt hWl (by decide)) fun L _ => ⟨_, rfl, ?_, fun _ => rfl⟩
    show (dGt (.int (((L.map PyData.int).length : Nat) : Int)) (.int most)).bind asB = _
    rw [List.length_map]
    rfl
  have t := lstNe_ (n := 0) long hc (fun _ _ => pl_int 0 1) (by decide)
  by_cases c : long = []
  · have hin : Cov goods W W := by
      refine ⟨fun L hL' => ?_, rest_empty.mpr fun own ho => lies_mem.mpr ⟨own, ho, within_self own⟩⟩
      rw [hg]
      refine List.mem_filter.mpr ⟨hL.all L (hW L hL'), decide_eq_true ?_⟩
      rw [hlong, List.filter_eq_nil_iff] at c
      have := c L hL'
      simp at this
      exact this
    obtain ⟨row0, hb0⟩ := least_cov W.length W (Nat.le_refl _) hin
    obtain ⟨row, hsub, hb⟩ := best_sub hgnd hb0
    refine .inl ⟨row, ?_, hb⟩
    have hlen := hb.2 W hin
    obtain ⟨j', e⟩ := forGo_any (J := Sl × Sl) (h := hName 5) (g := gh_two) (enc := fun n : Nat => .int (0 + (n : Int))) (rhoH w most W goods) (fun n => (setsL goods n).any fun row => decide (restOf W row = [])) (fun n => .int (n : Int)) (List.range (W.length + 1)) (.no, .no) fun n _ j => by
      obtain ⟨j', k⟩ := fewest_size w most W goods hWl hl hgl n j.2
      refine ⟨j', ?_⟩
      rw [Int.zero_add]
      exact k
    have hfind : (List.range (W.length + 1)).find? (fun n => (setsL goods n).any fun row => decide (restOf W row = [])) = some row.length := by
      rw [List.find?_range_eq_some]
      refine ⟨List.any_eq_true.mpr ⟨row, mem_setsL.mpr ⟨hsub, rfl⟩, decide_eq_true hb.1.2⟩, List.mem_range.mpr (by omega), fun n hn => ?_⟩
      rw [Bool.not_eq_true', Bool.eq_false_iff]
      intro z
      obtain ⟨r, h1, h2⟩ := List.any_eq_true.mp z
      obtain ⟨h3, h4⟩ := mem_setsL.mp h1
      have := hb.2 r ⟨fun l hl => h3.subset hl, of_decide_eq_true h2⟩
      omega
    rw [hfind] at e
    refine runF_ex rfl ⟨_, seq_nx hset (seq_nx (if_f (by rw [t, decide_eq_true c]; rfl) rfl) (seq_rt (for_ (ds := (List.range (W.length + 1)).map fun n : Nat => .int (0 + (n : Int))) ?_ e)))⟩
    have ha : (aCons (do2 dAdd (fun ρ => ((fun ρ => vAt ρ 1) ρ).bind dLen) (fun _ => some (.int 1))) aNil) (rhoH w most W goods (.no, .no)) = some [.int ((W.length : Int) + 1)] := by
      show some [PyData.int ((((W.map eL).length : Nat) : Int) + 1)] = _
      rw [List.length_map]
    dsimp only
    rw [ha, Option.bind_some]
    unfold dRng1
    dsimp only
    have hok : okR ((W.length : Int) + 1) = true := by
      unfold okR
      rw [Bool.and_eq_true, decide_eq_true_eq, decide_eq_true_eq]
      omega
    have htn : ((W.length : Int) + 1).toNat = W.length + 1 := by omega
    rw [if_pos hok, htn]
    unfold rngD
    rfl
  · refine .inr ⟨?_, fun cov hcov => ?_⟩
    · exact runF_ex rfl ⟨_, seq_nx hset (seq_rt (if_t (by rw [t, decide_eq_false c]; rfl) (ret_ rfl)))⟩
    · obtain ⟨L, hL'⟩ := List.exists_mem_of_ne_nil long c
      rw [hlong] at hL'
      obtain ⟨h1, h2⟩ := List.mem_filter.mp hL'
      obtain ⟨g, h3, h4⟩ := lies_mem.mp (rest_empty.mp hcov.2 L h1)
      have h5 := within_len (hW L h1).nd h4
      have h6 := hcov.1 g h3
      rw [hg] at h6
      have h7 := of_decide_eq_true (List.mem_filter.mp h6).2
      have h8 := of_decide_eq_true h2
      omega
end GY
set_option Elab.async false
set_option linter.all false
set_option maxRecDepth 100000
set_option maxHeartbeats 4000000
/-! Gmj: all_areas, chain_of, frees_all, demands. -/
namespace GY
open PySem PySem.Spec PyProof.Rows L2
theorem atI_last {l : Lot} (h : l ≠ []) : atI (l.map PyData.int) (-1) = some (.int (l.getLastD 0)) := by
  have hp : 0 < l.length := List.length_pos_iff.mpr h
  unfold atI ixN
  rw [if_neg (by omega), List.length_map, if_pos (by omega), Option.bind_some, List.getElem?_map]
  have e : (-1 + (l.length : Int)).toNat = l.length - 1 := by omega
  rw [e, ← List.getLast?_eq_getElem?, List.getLast?_eq_some_getLast h]
  show some (PyData.int _) = _
  rw [List.getLastD_eq_getLast?, List.getLast?_eq_some_getLast h]
  rfl
end GY
set_option Elab.async false
set_option linter.all false
set_option maxRecDepth 100000
set_option maxHeartbeats 4000000
/-! Gmk: all_areas, chain_of. -/
namespace GY
open PySem PySem.Spec PyProof.Rows L2
theorem m_all_areas (b : Bool) (r : Rule) (h : Small r) (hne : ∀ p ∈ r, p.1 ≠ []) (m : Nat) (hm : maxI (0 :: r.map fun p => p.1.getLastD 0) = (m : Int)) (hm2 : m < 1000) : F_all_areas [eRb b r] = some (eL ((List.range (m + 1)).map fun (i : Nat) => (0 : Int) + (i : Int))) := by
  have hc : compD (fun ρ => ((fun ρ => vAt ρ 0) ρ).bind dItems) (hTup2 1 2) (fun _ => some true) (do2 dIx (fun ρ => vAt ρ 1) (fun ρ => ((fun _ => some (.int 1)) ρ).bind dNeg)) [1, 2] (startR 1 3 [eRb b r]) = some ((r.map fun p => p.1.getLastD 0).map PyData.int) := by
    rw [List.map_map]
    refine compD_all (ePb b) (PyData.int ∘ fun p => p.1.getLastD 0) r (seq_items b _) (big1000 h.1) fun p hp => ⟨[.val (eRb b r), .val (eLb b p.1), .val (eLb b p.2)], ?_, ?_⟩
    · cases b <;> rfl
    · have : dIx (eLb b p.1) (.int (-1)) = some (.int (p.1.getLastD 0)) := by
        cases b
        · exact atI_last (hne p hp)
        · exact atI_last (hne p hp)
      exact this
  have h2 : (fun ρ => ((do2L dCat (fun ρ => ((shortL (aCons (fun _ => some (.int 0)) aNil)) ρ).map .list) (fun ρ => ((compD (fun ρ => ((fun ρ => vAt ρ 0) ρ).bind dItems) (hTup2 1 2) (fun _ => some true) (do2 dIx (fun ρ => vAt ρ 1) (fun ρ => ((fun _ => some (.int 1)) ρ).bind dNeg)) [1, 2]) ρ).map .list)) ρ).map PyData.list) (startR 1 3 [eRb b r]) = some (.list ([PyData.int 0] ++ (r.map fun p => p.1.getLastD 0).map PyData.int)) := by
    refine cat_ rfl (by dsimp only; rw [hc]; rfl) ?_
    rw [List.length_map, List.length_map]
    have := h.1
    exact Nat.le_trans (by show 1 + r.length ≤ 1001; omega) (by decide)
  refine runF_rt rfl (ret_ ?_)
  refine (congrArg (fun t : Option D => ((((t.bind dMax).bind fun d => (some (.int 1) : Option D).bind fun e => dAdd d e).bind dRgT).map PyData.tuple)) h2).trans ?_
  have hmx : dMax (.list ([PyData.int 0] ++ (r.map fun p => p.1.getLastD 0).map PyData.int)) = some (.int (m : Int)) := by
    show ((intsOf ((0 :: r.map fun p => p.1.getLastD 0).map PyData.int)).bind fun ns => if ns = [] then none else some (PyData.int (maxI ns))) = _
    rw [intsOf_map, Option.bind_some, if_neg (by simp), hm]
  rw [Option.bind_some, hmx]
  have h3 : dAdd (.int (m : Int)) (.int 1) = some (.int ((m : Int) + 1)) := rfl
  rw [Option.bind_some, Option.bind_some, h3, Option.bind_some]
  unfold dRgT
  dsimp only
  have htn : ((m : Int) + 1).toNat = m + 1 := by omega
  rw [if_pos (by omega), htn]
  unfold rngD
  show some (PyData.tuple _) = some (PyData.tuple (List.map PyData.int _))
  rw [List.map_map]
  rfl
end GY
set_option Elab.async false
set_option linter.all false
set_option maxRecDepth 100000
set_option maxHeartbeats 4000000
/-! Gml: chain_of, frees_all, demands. -/
namespace GY
open PySem PySem.Spec PyProof.Rows L2
/-- a rule over the areas U -/
structure RuleOn (U : Lot) (r : Rule) : Prop extends GoodR r where
  areas : ∀ b, F_all_areas [eRb b r] = some (eL U)
theorem m_chain_of (b : Bool) {U : Lot} {r : Rule} (hr : RuleOn U r) (h4 : U.length ≤ 4) : ∃ c, F_chain_of [eRb b r] = some (eC c) ∧ ChainOk r U c := by
  obtain ⟨c, e, h⟩ := m_chain_in b r U hr.small hr.wt h4
  refine ⟨c, runF_rt rfl (ret_ ?_), h⟩
  have ha : (aCons (fun ρ => vAt ρ 0) (aCons (fun ρ => ((aCons (fun ρ => vAt ρ 0) aNil) ρ).bind F_all_areas) aNil)) (startR 1 1 [eRb b r]) = some [eRb b r, eL U] := by
    show (Option.bind (some (eRb b r)) fun d => Option.bind (Option.bind (F_all_areas [eRb b r]) fun e => some [e]) fun ds => some (d :: ds)) = _
    rw [hr.areas b]
    rfl
  rw [ha, Option.bind_some, e]
end GY
set_option Elab.async false
set_option linter.all false
set_option maxRecDepth 100000
set_option maxHeartbeats 4000000
/-! Gmm: frees_all. -/
namespace GY
open PySem PySem.Spec PyProof.Rows L2
theorem m_frees_all (b : Bool) {r : Rule} {c : List Lot} (hc : F_chain_of [eRb b r] = some (eC c)) (course : List Lot) (h1 : c.length < 1000) (h2 : ∀ L ∈ c, L.length < 1000) (h3 : course.length < 1000) : F_frees_all [eRb b r, eC course] = some (.bool (c.all fun L => liesIn L course)) := by
  refine runF_rt rfl (ret_ ?_)
  have hd : (fun ρ => ((fun ρ => ((aCons (fun ρ => vAt ρ 0) aNil) ρ).bind F_chain_of) ρ).bind dItems) (startR 2 3 [eRb b r, eC course]) = some (c.map eL) := by
    have ha : (aCons (fun ρ => vAt ρ 0) aNil) (startR 2 3 [eRb b r, eC course]) = some [eRb b r] := rfl
    dsimp only
    rw [ha, Option.bind_some, hc]
    rfl
  dsimp only
  rw [compD_all eL (fun L => .bool (liesIn L course)) c hd (big1000 h1) fun L hL => ⟨_, rfl, ?_⟩]
  · exact all_bools (fun L => liesIn L course) c
  · exact m_lies_in false L course (big1000 (h2 L hL)) (big1000 h3)
end GY
set_option Elab.async false
set_option linter.all false
set_option maxRecDepth 100000
set_option maxHeartbeats 4000000
/-! Gmn: the lots of three and four areas; demands. -/
namespace GY
open PySem PySem.Spec PyProof.Rows L2
def U3 : Lot := [0, 1, 2]
def U4 : Lot := [0, 1, 2, 3]
def lots3 : List Lot := [[0], [0, 1], [0, 1, 2], [0, 2], [1], [1, 2], [2]]
def lots4 : List Lot := [[0], [0, 1], [0, 1, 2], [0, 1, 2, 3], [0, 1, 3], [0, 2], [0, 2, 3], [0, 3], [1], [1, 2], [1, 2, 3], [1, 3], [2], [2, 3], [3]]
theorem filt3 (q : Int → Bool) : U3.filter q = [] ∨ U3.filter q ∈ lots3 := by
  unfold U3
  simp only [List.filter_cons, List.filter_nil]
  cases q 0 <;> cases q 1 <;> cases q 2 <;> decide
theorem filt4 (q : Int → Bool) : U4.filter q = [] ∨ U4.filter q ∈ lots4 := by
  unfold U4
  simp only [List.filter_cons, List.filter_nil]
  cases q 0 <;> cases q 1 <;> cases q 2 <;> cases q 3 <;> decide
theorem lot_filter {U L : Lot} (hU : U.Pairwise (· < ·)) (h : LotIn U L) : L = U.filter fun x => decide (x ∈ L) :=
  sorted_ext h.so (hU.sublist List.filter_sublist) fun x => by
    rw [List.mem_filter, decide_eq_true_eq]
    exact ⟨fun z => ⟨h.un x z, z⟩, fun z => z.2⟩
/-- all that is used of a width -/
structure Wide (w : Int) (U : Lot) (lots : List Lot) : Prop extends Lots w U lots where
  within : F_lots_within [eL U] = some (eCl lots)
  isl : ∀ L ∈ lots, F_is_lot [eL L, .int w] = some (.bool true)
  wlen : (U.length : Int) = w
  le15 : lots.length ≤ 15
  so : U.Pairwise (· < ·)
  rng : rngD 0 w.toNat = U.map .int
theorem wide3 : Wide 3 U3 lots3 where
  run := by kernel_rfl
  lot := fun L hL => by
    have h : ∀ L ∈ lots3, L ≠ [] ∧ L.Pairwise (· < ·) ∧ ∀ x ∈ L, x ∈ U3 := by decide
    exact ⟨(h L hL).1, (h L hL).2.1, (h L hL).2.2⟩
  all := fun L h => by
    have e := lot_filter (U := U3) (by decide) h
    rcases filt3 fun x => decide (x ∈ L) with z | z
    · rw [← e] at z
      exact absurd z h.ne
    · rw [← e] at z
      exact z
  nd := by decide
  few := by decide
  u4 := by decide
  unm := by decide
  within := by kernel_rfl
  isl := fun L hL => by
    simp only [lots3, List.mem_cons, List.not_mem_nil, or_false] at hL
    rcases hL with rfl | rfl | rfl | rfl | rfl | rfl | rfl <;> kernel_rfl
  wlen := rfl
  le15 := by decide
  so := by decide
  rng := by kernel_rfl
theorem wide4 : Wide 4 U4 lots4 where
  run := by kernel_rfl
  lot := fun L hL => by
    have h : ∀ L ∈ lots4, L ≠ [] ∧ L.Pairwise (· < ·) ∧ ∀ x ∈ L, x ∈ U4 := by decide
    exact ⟨(h L hL).1, (h L hL).2.1, (h L hL).2.2⟩
  all := fun L h => by
    have e := lot_filter (U := U4) (by decide) h
    rcases filt4 fun x => decide (x ∈ L) with z | z
    · rw [← e] at z
      exact absurd z h.ne
    · rw [← e] at z
      exact z
  nd := by decide
  few := by decide
  u4 := by decide
  unm := by decide
  within := by kernel_rfl
  isl := fun L hL => by
    simp only [lots4, List.mem_cons, List.not_mem_nil, or_false] at hL
    rcases hL with rfl | rfl | rfl | rfl | rfl | rfl | rfl | rfl | rfl | rfl | rfl | rfl | rfl | rfl | rfl <;> kernel_rfl
  wlen := rfl
  le15 := by decide
  so := by decide
  rng := by kernel_rfl
/-! ### demands -/
theorem comp2Go_map {α β : Type} {enc : α → D} {enc1 : β → D} {ρ : Rho} {h h1 : D → Rho → Option Rho} {f1 : Rho → Option (List D)} {vs1 : List Nat} {el : Rho → Option D} (k : α → List β) : ∀ (xs : List α),
    (∀ x ∈ xs, ∃ ρ1, h (enc x) ρ = some ρ1 ∧ f1 ρ1 = some ((k x).map enc1) ∧ ∀ y ∈ k x, ∃ ρ2, h1 (enc1 y) (wipeR ρ1 vs1) = some ρ2 ∧ el ρ2 = some (enc1 y)) → comp2Go ρ h f1 vs1 h1 el (xs.map enc) = some ((xs.flatMap k).map enc1)
  | [], _ => rfl
  | x :: xs, H => by
    obtain ⟨ρ1, e1, e2, e3⟩ := H x List.mem_cons_self
    have ih := comp2Go_map (enc := enc) (ρ := ρ) (h := h) (f1 := f1) (vs1 := vs1) (h1 := h1) (el := el) k xs fun y hy => H y (List.mem_cons_of_mem _ hy)
    have hin : compGo (wipeR ρ1 vs1) h1 (fun _ => some true) el ((k x).map enc1) = some ((k x).map enc1) := by
      have := compGo_map (enc := enc1) (ρ := wipeR ρ1 vs1) (h := h1) (p := fun _ => some true) (el := el) (fun _ => true) enc1 (k x) fun y hy => by
        obtain ⟨ρ2, k1, k2⟩ := e3 y hy
        exact ⟨ρ2, k1, rfl, fun _ => k2⟩
      rw [List.filter_eq_self.mpr fun _ _ => rfl] at this
      exact this
    show ((h (enc x) ρ).bind fun ρ1 => (f1 ρ1).bind fun es => (compGo (wipeR ρ1 vs1) h1 (fun _ => some true) el es).bind fun ys => (comp2Go ρ h f1 vs1 h1 el (xs.map enc)).bind fun zs => some (ys ++ zs)) = _
    rw [e1, Option.bind_some, e2, Option.bind_some, hin, Option.bind_some, ih, Option.bind_some, List.flatMap_cons, List.map_append]
theorem m_lies_any (b b' : Bool) (lot : Lot) (c : List Lot) (hl : lot.length < sBig) (hc : c.length < sBig) : F_lies_in [eL lot, seqD b (c.map (eLb b'))] = some (.bool (liesIn lot c)) := by
  refine runF_rt rfl (ret_ ?_)
  dsimp only
  rw [compD_all (eLb b') (fun own => PyData.bool (isWithin lot own)) c (seq_items b _) hc fun own _ => ⟨_, rfl, ?_⟩]
  · exact any_bools (isWithin lot) c
  · show ((F_less [eL lot, eLb b' own]).bind dLen).bind (fun d => dEq d (.int 0)) = _
    rw [m_less b' lot own hl]
    show dEq (.int ((((less lot own).map PyData.int).length : Nat) : Int)) (.int 0) = _
    rw [eq_int, List.length_map, less_nil]
theorem isU_len (l : List (List Int)) : (isU l).length ≤ l.length := nodup_le (ltL_nodup (isU_sorted l)) fun x hx => mem_isU.mp hx
/-- the chains of some rules -/
structure Chains (b : Bool) (U : Lot) (rs : List Rule) (C : Rule → List Lot) : Prop where
  run : ∀ r ∈ rs, F_chain_of [eRb b r] = some (eC (C r))
  ok : ∀ r ∈ rs, ChainOk r U (C r)
theorem chains_of (b : Bool) {U : Lot} (h4 : U.length ≤ 4) (rs : List Rule) (hr : ∀ r ∈ rs, RuleOn U r) : ∃ C, Chains b U rs C := by
  let C : Rule → List Lot := fun r => if h : r ∈ rs then (m_chain_of b (hr r h) h4).choose else []
  have hC : ∀ r ∈ rs, F_chain_of [eRb b r] = some (eC (C r)) ∧ ChainOk r U (C r) := fun r h => by
    have e : C r = (m_chain_of b (hr r h) h4).choose := dif_pos h
    rw [e]
    exact (m_chain_of b (hr r h) h4).choose_spec
  exact ⟨C, fun r h => (hC r h).1, fun r h => (hC r h).2⟩
theorem flat_le {rs : List Rule} {C : Rule → List Lot} {n : Nat} : (∀ r ∈ rs, (C r).length ≤ n) → (rs.flatMap C).length ≤ rs.length * n := by
  induction rs with
  | nil => intro _; exact Nat.zero_le _
  | cons r rs ih =>
    intro h
    have h1 := h r List.mem_cons_self
    have h2 := ih fun x hx => h x (List.mem_cons_of_mem _ hx)
    rw [List.flatMap_cons, List.length_append, List.length_cons, Nat.succ_mul]
    omega
def allC (rs : List Rule) (C : Rule → List Lot) : List Lot := isU (rs.flatMap C)
def demL (rs : List Rule) (C : Rule → List Lot) : List Lot := (allC rs C).filter (mxq (allC rs C))
theorem allC_lot {b : Bool} {U : Lot} {rs : List Rule} {C : Rule → List Lot} (h : Chains b U rs C) : ∀ L ∈ allC rs C, LotIn U L ∧ ∃ r ∈ rs, Woven r L := fun L hL => by
  obtain ⟨r, hr, h1⟩ := List.mem_flatMap.mp (mem_isU.mp hL)
  obtain ⟨k1, k2⟩ := (chain_lots (h.ok r hr)).1 L h1
  exact ⟨k1, r, hr, k2⟩
theorem allC_len {b : Bool} {U : Lot} {rs : List Rule} {C : Rule → List Lot} (h : Chains b U rs C) (h4 : U.length ≤ 4) (h2 : rs.length ≤ 2) : (rs.flatMap C).length ≤ 8 ∧ (allC rs C).length ≤ 8 := by
  have h1 := flat_le (rs := rs) (C := C) (n := U.length) fun r hr => (chain_lots (h.ok r hr)).2.2
  have h3 : rs.length * U.length ≤ 2 * 4 := Nat.mul_le_mul h2 h4
  have h5 := isU_len (rs.flatMap C)
  unfold allC
  omega
theorem m_demands {b : Bool} {U : Lot} {rs : List Rule} {C : Rule → List Lot} (h : Chains b U rs C) (h4 : U.length ≤ 4) (h2 : rs.length ≤ 2) : F_demands [eRsb b rs] = some (eC (demL rs C)) := by
  obtain ⟨l1, l2⟩ := allC_len h h4 h2
  have hlot : ∀ L ∈ allC rs C, L.length < sBig := fun L hL => by
    have := (allC_lot h L hL).1.len
    exact Nat.lt_of_le_of_lt (by omega : L.length ≤ 4) (by decide)
  have hc : comp2D (fun ρ => ((fun ρ => vAt ρ 0) ρ).bind dItems) (hName 2) (fun ρ => ((fun ρ => ((aCons (fun ρ => vAt ρ 2) aNil) ρ).bind F_chain_of) ρ).bind dItems) [3] (hName 3) (fun ρ => vAt ρ 3) [2, 3] (startR 1 5 [eRsb b rs]) = some ((rs.flatMap C).map eL) := by
    have hf : (fun ρ => ((fun ρ => vAt ρ 0) ρ).bind dItems) (startR 1 5 [eRsb b rs]) = some (rs.map (eRb b)) := seq_items b _
    unfold comp2D
    rw [hf, Option.bind_some, comp2Go_map (enc := eRb b) (enc1 := eL) C rs fun r hr => ⟨_, rfl, ?_, fun L _ => ⟨_, rfl, rfl⟩⟩]
    · rw [Option.bind_some, if_pos (by rw [List.length_map]; exact Nat.lt_of_le_of_lt l1 (by decide))]
    · show ((F_chain_of [eRb b r]).bind dItems) = _
      rw [h.run r hr]
      rfl
  have hs : dSortSet (.list ((rs.flatMap C).map eL)) = some ((allC rs C).map eL) := by
    show (if ((rs.flatMap C).map eL).length < 64 then (decAll false ((rs.flatMap C).map (encK false))).map fun ks => (isU ks).map (encK false) else none) = _
    rw [if_pos (by rw [List.length_map]; omega), decAll_enc fun k hk => (allC_lot h k (mem_isU.mpr hk)).1.ne]
    rfl
  refine runF_rt rfl (seq_nx (ρ1 := [.val (eRsb b rs), .val (eCl (allC rs C)), .no, .no, .no]) ?_ (ret_ ?_))
  · refine set_ (s := .val (eCl (allC rs C))) ?_
    unfold cV
    dsimp only
    rw [hc]
    show (((dSortSet (.list ((rs.flatMap C).map eL))).map PyData.list).map Sl.val) = _
    rw [hs]
    rfl
  · dsimp only
    rw [compD_map eL (mxq (allC rs C)) eL (allC rs C) rfl (Nat.lt_of_le_of_lt l2 (by decide)) fun L hL => ⟨_, rfl, ?_, fun _ => rfl⟩]
    · rfl
    · refine not_ (a := liesIn L ((allC rs C).filter fun far => !decide (far = L))) ?_
      have hin : compD (fun ρ => ((fun ρ => vAt ρ 1) ρ).bind dItems) (hName 4) (fun ρ => ((do2 dNe (fun ρ => vAt ρ 4) (fun ρ => vAt ρ 3)) ρ).bind asB) (fun ρ => vAt ρ 4) [4] ([.val (eRsb b rs), .val (eCl (allC rs C)), .no, .val (eL L), .no] : Rho) = some (((allC rs C).filter fun far => !decide (far = L)).map eL) := by
        refine compD_map eL (fun far => !decide (far = L)) eL (allC rs C) rfl (Nat.lt_of_le_of_lt l2 (by decide)) fun far _ => ⟨_, rfl, ?_, fun _ => rfl⟩
        show (dNe (eL far) (eL L)).bind asB = _
        rw [ne_lot]
        rfl
      have ha : (aCons (fun ρ => vAt ρ 3) (aCons (fun ρ => ((compD (fun ρ => ((fun ρ => vAt ρ 1) ρ).bind dItems) (hName 4) (fun ρ => ((do2 dNe (fun ρ => vAt ρ 4) (fun ρ => vAt ρ 3)) ρ).bind asB) (fun ρ => vAt ρ 4) [4]) ρ).map .list) aNil)) ([.val (eRsb b rs), .val (eCl (allC rs C)), .no, .val (eL L), .no] : Rho) = some [eL L, eCl ((allC rs C).filter fun far => !decide (far = L))] := by
        show (Option.bind (some (eL L)) fun d => Option.bind (Option.bind ((compD (fun ρ => ((fun ρ => vAt ρ 1) ρ).bind dItems) (hName 4) (fun ρ => ((do2 dNe (fun ρ => vAt ρ 4) (fun ρ => vAt ρ 3)) ρ).bind asB) (fun ρ => vAt ρ 4) [4] ([.val (eRsb b rs), .val (eCl (allC rs C)), .no, .val (eL L), .no] : Rho)).map PyData.list) fun e => some [e]) fun ds => some (d :: ds)) = _
        rw [hin]
        rfl
      show (((aCons (fun ρ => vAt ρ 3) (aCons (fun ρ => ((compD (fun ρ => ((fun ρ => vAt ρ 1) ρ).bind dItems) (hName 4) (fun ρ => ((do2 dNe (fun ρ => vAt ρ 4) (fun ρ => vAt ρ 3)) ρ).bind asB) (fun ρ => vAt ρ 4) [4]) ρ).map .list) aNil)) ([.val (eRsb b rs), .val (eCl (allC rs C)), .no, .val (eL L), .no] : Rho)).bind F_lies_in).bind asB = _
      rw [ha, Option.bind_some]
      have := m_lies_any true false L ((allC rs C).filter fun far => !decide (far = L)) (hlot L hL) (Nat.lt_of_le_of_lt (Nat.le_trans (List.length_filter_le _ _) l2) (by decide))
      rw [show F_lies_in [eL L, eCl ((allC rs C).filter fun far => !decide (far = L))] = some (.bool (liesIn L ((allC rs C).filter fun far => !decide (far = L)))) from this]
      rfl
end GY
set_option Elab.async false
set_option linter.all false
set_option maxRecDepth 100000
set_option maxHeartbeats 4000000
/-! Gmo: demands are what the law wants; covers of both. -/
namespace GY
open PySem PySem.Spec PyProof.Rows L2
theorem within_trans {A B C : Lot} (h : isWithin A B = true) (k : isWithin B C = true) : isWithin A C = true := List.all_eq_true.mpr fun x hx => List.all_eq_true.mp k x (of_decide_eq_true (List.all_eq_true.mp h x hx))
theorem within_anti {U A B : Lot} (hA : LotIn U A) (hB : LotIn U B) (h : isWithin A B = true) (k : isWithin B A = true) : A = B :=
  sorted_ext hA.so hB.so fun x => ⟨fun z => of_decide_eq_true (List.all_eq_true.mp h x z), fun z => of_decide_eq_true (List.all_eq_true.mp k x z)⟩
theorem mem_mxq {A : List Lot} {L : Lot} : mxq A L = true ↔ ∀ far ∈ A, far ≠ L → ¬ isWithin L far = true := by
  unfold mxq
  rw [Bool.not_eq_true']
  constructor
  · intro h far hf hn hw
    have : liesIn L (A.filter fun far => !decide (far = L)) = true := lies_mem.mpr ⟨far, List.mem_filter.mpr ⟨hf, by simp [hn]⟩, hw⟩
    rw [h] at this
    cases this
  · intro h
    rw [Bool.eq_false_iff]
    intro z
    obtain ⟨far, h1, h2⟩ := lies_mem.mp z
    obtain ⟨h3, h4⟩ := List.mem_filter.mp h1
    exact h far h3 (by simpa using h4) h2
/-- within each lot's reach there is a greatest one -/
theorem top_of {U : Lot} {A : List Lot} (hA : ∀ L ∈ A, LotIn U L) : ∀ (n : Nat) (L : Lot), L ∈ A → U.length - L.length ≤ n → ∃ M ∈ A.filter (mxq A), isWithin L M = true
  | n, L, hL, hn => by
    by_cases c : mxq A L = true
    · exact ⟨L, List.mem_filter.mpr ⟨hL, c⟩, within_self L⟩
    · have c2 : ∃ far ∈ A, far ≠ L ∧ isWithin L far = true := Classical.byContradiction fun z => c (mem_mxq.mpr fun far h1 h2 h3 => z ⟨far, h1, h2, h3⟩)
      obtain ⟨far, h1, h2, h3⟩ := c2
      have l1 := within_len (hA L hL).nd h3
      have l2 := (hA far h1).len
      have l3 : L.length ≠ far.length := fun e => by
        refine h2 (within_anti (hA far h1) (hA L hL) (List.all_eq_true.mpr fun x hx => decide_eq_true ?_) h3)
        exact nodup_all (hA L hL).nd (fun y hy => of_decide_eq_true (List.all_eq_true.mp h3 y hy)) (by omega) x hx
      match n, hn with
      | 0, hn => omega
      | n + 1, hn =>
        obtain ⟨M, h4, h5⟩ := top_of hA n far h1 (by omega)
        exact ⟨M, h4, within_trans h3 h5⟩
theorem top {U : Lot} {A : List Lot} (hA : ∀ L ∈ A, LotIn U L) {L : Lot} (hL : L ∈ A) : ∃ M ∈ A.filter (mxq A), isWithin L M = true := top_of hA _ L hL (Nat.le_refl _)
theorem lies_within {L M : Lot} {c : List Lot} (h : isWithin L M = true) (k : liesIn M c = true) : liesIn L c = true := by
  obtain ⟨g, h1, h2⟩ := lies_mem.mp k
  exact lies_mem.mpr ⟨g, h1, within_trans h h2⟩
/-- A's own, and A's greatest, lie in the same courses -/
theorem rest_top {U : Lot} {A : List Lot} (hA : ∀ L ∈ A, LotIn U L) (c row : List Lot) : restOf (restOf A c) row = [] ↔ restOf (restOf (A.filter (mxq A)) c) row = [] := by
  rw [rest_empty, rest_empty]
  constructor
  · intro h own ho
    obtain ⟨h1, h2⟩ := List.mem_filter.mp ho
    exact h own (List.mem_filter.mpr ⟨(List.mem_filter.mp h1).1, h2⟩)
  · intro h own ho
    obtain ⟨h1, h2⟩ := List.mem_filter.mp ho
    obtain ⟨M, h3, h4⟩ := top hA h1
    refine lies_within h4 (h M (List.mem_filter.mpr ⟨h3, ?_⟩))
    cases e : liesIn M c with
    | false => rfl
    | true =>
      rw [lies_within h4 e] at h2
      cases h2
theorem cov_top {U : Lot} {A : List Lot} (hA : ∀ L ∈ A, LotIn U L) (goods c : List Lot) {cov : List Lot} : Cov goods (restOf A c) cov ↔ Cov goods (restOf (A.filter (mxq A)) c) cov := ⟨fun h => ⟨h.1, (rest_top hA c cov).mp h.2⟩, fun h => ⟨h.1, (rest_top hA c cov).mpr h.2⟩⟩
theorem best_iff {goods W W' row : List Lot} (h : ∀ cov, Cov goods W cov ↔ Cov goods W' cov) : Best goods W row ↔ Best goods W' row := ⟨fun b => ⟨(h _).mp b.1, fun c hc => b.2 c ((h c).mpr hc)⟩, fun b => ⟨(h _).mpr b.1, fun c hc => b.2 c ((h c).mp hc)⟩⟩
/-- same lots, in any order -/
theorem cov_mem {goods W W' : List Lot} (h : ∀ L, L ∈ W ↔ L ∈ W') (cov : List Lot) : Cov goods W cov ↔ Cov goods W' cov := by
  unfold Cov
  rw [rest_empty, rest_empty]
  exact ⟨fun z => ⟨z.1, fun o ho => z.2 o ((h o).mpr ho)⟩, fun z => ⟨z.1, fun o ho => z.2 o ((h o).mp ho)⟩⟩
/-- the chains' lots and the woven ones -/
theorem chain_found {b : Bool} {w : Int} {U : Lot} {lots : List Lot} (hL : Lots w U lots) {rs : List Rule} {C : Rule → List Lot} (h : Chains b U rs C) {found : List Lot} (hm : ∀ L, L ∈ found ↔ ∃ r ∈ rs, L ∈ lots ∧ Woven r L) :
    (∀ L ∈ allC rs C, L ∈ found) ∧ ∀ L ∈ found, ∃ S ∈ allC rs C, isWithin L S = true := by
  refine ⟨fun L hl => ?_, fun L hl => ?_⟩
  · obtain ⟨h1, r, h2, h3⟩ := allC_lot h L hl
    exact (hm L).mpr ⟨r, h2, hL.all L h1, h3⟩
  · obtain ⟨r, h1, h2, h3⟩ := (hm L).mp hl
    have h4 := hL.lot L h2
    obtain ⟨S, h5, h6⟩ := (chain_lots (h.ok r h1)).2.1 L h4.ne h4.un h3
    exact ⟨S, mem_isU.mpr (List.mem_flatMap.mpr ⟨r, h1, h5⟩), List.all_eq_true.mpr fun x hx => decide_eq_true (h6 x hx)⟩
theorem dem_wanted {b : Bool} {w : Int} {U : Lot} {lots : List Lot} (hL : Lots w U lots) {rs : List Rule} {C : Rule → List Lot} (h : Chains b U rs C) {found : List Lot} (nd : found.Nodup) (hf : ∀ L ∈ found, L ∈ lots) (hm : ∀ L, L ∈ found ↔ ∃ r ∈ rs, L ∈ lots ∧ Woven r L) : demL rs C = isL (found.filter (mxq found)) := by
  obtain ⟨h1, h2⟩ := chain_found hL h hm
  have hB : ∀ L ∈ found, LotIn U L := fun L hl => hL.lot L (hf L hl)
  rw [isL_isU (ks := found.filter (mxq found)) (nd.sublist List.filter_sublist) fun k => Iff.rfl]
  refine uniqLt ((isU_sorted _).sublist List.filter_sublist) (isU_sorted _) fun L => ?_
  rw [mem_isU]
  unfold demL
  rw [List.mem_filter, List.mem_filter, mem_mxq, mem_mxq]
  constructor
  · rintro ⟨k1, k2⟩
    refine ⟨h1 L k1, fun far k3 k4 k5 => ?_⟩
    obtain ⟨S, k6, k7⟩ := h2 far k3
    have k8 := within_trans k5 k7
    by_cases e : S = L
    · rw [e] at k7
      exact k4 (within_anti (hB far k3) (hB L (h1 L k1)) k7 k5)
    · exact k2 S k6 e k8
  · rintro ⟨k1, k2⟩
    obtain ⟨S, k6, k7⟩ := h2 L k1
    have e : S = L := Classical.byContradiction fun z => k2 S (h1 S k6) z k7
    rw [e] at k6
    exact ⟨k6, fun far k3 k4 k5 => k2 far (h1 far k3) k4 k5⟩
/-! ### law_same -/
theorem same_int (n : Nat) (i j : Int) : Fr_law_same (n + 1) [.int i, .int j] = some (.bool (decide (i = j))) := by
  refine runF_rt rfl (seq_nx (if_f rfl rfl) (seq_nx (if_f rfl rfl) (ret_ ?_)))
  show (dEq (.int i) (.int j)) = _
  exact eq_int i j
theorem same_bool (n : Nat) (b : Bool) : Fr_law_same (n + 1) [.bool b, .bool b] = some (.bool true) := by
  cases b <;> rfl
theorem same_seq {α : Type} (n : Nat) (b : Bool) (enc : α → D) (q : α → α → Bool) (xs ys : List α) (hl : xs.length < 1000) (H : ∀ x ∈ xs, ∀ y ∈ ys, Fr_law_same n [enc x, enc y] = some (.bool (q x y))) :
    Fr_law_same (n + 1) [seqD b (xs.map enc), seqD b (ys.map enc)] = some (.bool (decide (xs.length = ys.length) && (xs.zip ys).all fun p => q p.1 p.2)) := by
  have hz : ∀ xs ys : List α, zipD (xs.map enc) (ys.map enc) = (xs.zip ys).map fun p => PyData.tuple [enc p.1, enc p.2] := by
    intro xs
    induction xs with
    | nil => intro ys; simp [zipD]
    | cons x xs ih =>
      intro ys
      cases ys with
      | nil => simp [zipD]
      | cons y ys => simp [zipD, ih ys]
  have hzl : (xs.zip ys).length < 1000 := by
    rw [List.length_zip]
    omega
  have hc : compD (fun ρ => ((aCons (fun ρ => vAt ρ 0) (aCons (fun ρ => vAt ρ 1) aNil)) ρ).bind dZip) (hTup2 2 3) (fun _ => some true) (fun ρ => ((aCons (fun ρ => vAt ρ 2) (aCons (fun ρ => vAt ρ 3) aNil)) ρ).bind (Fr_law_same n)) [2, 3] ([.val (seqD b (xs.map enc)), .val (seqD b (ys.map enc)), .no, .no] : Rho) = some ((xs.zip ys).map fun p => PyData.bool (q p.1 p.2)) := by
    refine compD_all (fun p : α × α => PyData.tuple [enc p.1, enc p.2]) (fun p => PyData.bool (q p.1 p.2)) (xs.zip ys) ?_ (big1000 hzl) fun p hp => ⟨_, rfl, ?_⟩
    · rw [← hz]
      cases b <;> rfl
    · exact H p.1 (List.of_mem_zip hp).1 p.2 (List.of_mem_zip hp).2
  refine runF_rt rfl (seq_rt (if_t ?_ (seq_nx (if_f ?_ rfl) (ret_ ?_))))
  · cases b <;> rfl
  · cases b <;> rfl
  · have t1 : do2 dEq (fun ρ => ((fun ρ => vAt ρ 0) ρ).bind dLen) (fun ρ => ((fun ρ => vAt ρ 1) ρ).bind dLen) ([.val (seqD b (xs.map enc)), .val (seqD b (ys.map enc)), .no, .no] : Rho) = some (.bool (decide (xs.length = ys.length))) := by
      have e1 : ∀ zs : List α, dLen (seqD b (zs.map enc)) = some (.int (zs.length : Int)) := fun zs => by
        cases b
        · show some (PyData.int (((zs.map enc).length : Nat) : Int)) = _
          rw [List.length_map]
        · show some (PyData.int (((zs.map enc).length : Nat) : Int)) = _
          rw [List.length_map]
      show ((dLen (seqD b (xs.map enc))).bind fun d => (dLen (seqD b (ys.map enc))).bind fun e => dEq d e) = _
      rw [e1, e1, Option.bind_some, Option.bind_some, eq_int]
      congr 2
      rw [decide_eq_decide]
      omega
    have t2 : (fun ρ => ((fun ρ => ((compD (fun ρ => ((aCons (fun ρ => vAt ρ 0) (aCons (fun ρ => vAt ρ 1) aNil)) ρ).bind dZip) (hTup2 2 3) (fun _ => some true) (fun ρ => ((aCons (fun ρ => vAt ρ 2) (aCons (fun ρ => vAt ρ 3) aNil)) ρ).bind (Fr_law_same n)) [2, 3]) ρ).map .list) ρ).bind dAll) ([.val (seqD b (xs.map enc)), .val (seqD b (ys.map enc)), .no, .no] : Rho) = some (.bool ((xs.zip ys).all fun p => q p.1 p.2)) := by
      dsimp only
      rw [hc]
      exact all_bools (fun p : α × α => q p.1 p.2) (xs.zip ys)
    show dAndV _ _ ([.val (seqD b (xs.map enc)), .val (seqD b (ys.map enc)), .no, .no] : Rho) = _
    unfold dAndV
    rw [t1]
    cases decide (xs.length = ys.length) with
    | true => exact t2
    | false => rfl
theorem zip_eq {α : Type} [DecidableEq α] : ∀ xs ys : List α, (decide (xs.length = ys.length) && (xs.zip ys).all fun p => decide (p.1 = p.2)) = decide (xs = ys)
  | [], [] => rfl
  | [], y :: ys => by simp
  | x :: xs, [] => by simp
  | x :: xs, y :: ys => by
    have ih := zip_eq xs ys
    rw [List.zip_cons_cons, List.all_cons, List.length_cons, List.length_cons]
    by_cases e : x = y
    · subst e
      simp only [decide_true, Bool.true_and, List.cons.injEq, true_and]
      rw [← ih]
      congr 1
      rw [decide_eq_decide]
      omega
    · simp [e]
theorem same_seq_eq {α : Type} [DecidableEq α] (n : Nat) (b : Bool) (enc : α → D) (xs ys : List α) (hl : xs.length < 1000) (H : ∀ x ∈ xs, ∀ y ∈ ys, Fr_law_same n [enc x, enc y] = some (.bool (decide (x = y)))) :
    Fr_law_same (n + 1) [seqD b (xs.map enc), seqD b (ys.map enc)] = some (.bool (decide (xs = ys))) := by
  rw [same_seq n b enc (fun x y => decide (x = y)) xs ys hl H, zip_eq]
theorem same_lot (n : Nat) (a c : Lot) (hl : a.length < 1000) : Fr_law_same (n + 2) [eL a, eL c] = some (.bool (decide (a = c))) := same_seq_eq (n + 1) false PyData.int a c hl fun x _ y _ => same_int n x y
theorem same_course (n : Nat) (a c : List Lot) (hl : a.length < 1000) (hs : ∀ L ∈ a, L.length < 1000) : Fr_law_same (n + 3) [eC a, eC c] = some (.bool (decide (a = c))) := same_seq_eq (n + 2) false eL a c hl fun x hx y _ => same_lot n x y (hs x hx)
/-- a sequence and itself -/
theorem zip_self {α : Type} (q : α → α → Bool) : ∀ xs : List α, (∀ x ∈ xs, q x x = true) → ((xs.zip xs).all fun p => q p.1 p.2) = true
  | [], _ => rfl
  | x :: xs, h => by
    rw [List.zip_cons_cons, List.all_cons, h x List.mem_cons_self, zip_self q xs fun y hy => h y (List.mem_cons_of_mem _ hy)]
    rfl
theorem same_bools (n : Nat) (bs : List Bool) (hl : bs.length < 1000) : Fr_law_same (n + 2) [.list (bs.map PyData.bool), .list (bs.map PyData.bool)] = some (.bool true) := by
  have := same_seq (n + 1) true PyData.bool (fun x y => decide (x = y)) bs bs hl fun x _ y _ => by
    cases x <;> cases y <;> rfl
  rw [zip_eq, decide_eq_true rfl] at this
  exact this
end GY
set_option Elab.async false
set_option linter.all false
set_option maxRecDepth 100000
set_option maxHeartbeats 4000000
/-! Gmp: is_course, law_is_course. -/
namespace GY
open PySem PySem.Spec PyProof.Rows L2
theorem eqv_tup0 {α : Type} (enc : α → D) (xs : List α) : PyData.eqv (.tuple (xs.map enc)) (.tuple []) = decide (xs = []) := by
  cases xs with
  | nil => rfl
  | cons x xs =>
    show PyData.eqv (.tuple (enc x :: xs.map enc)) (.tuple []) = _
    rw [PyData.eqv]
    rfl
theorem eq_tup0 {α : Type} {n : Nat} {enc : α → D} (xs : List α) (h : ∀ x ∈ xs, Pl n (enc x)) (hn : n + 1 ≤ 64) : dEq (.tuple (xs.map enc)) (.tuple []) = some (.bool (decide (xs = []))) := by
  unfold dEq
  rw [show SeqAt.shaped (.tuple (xs.map enc)) = true from shaped_pl (pl_map false h) hn, show SeqAt.shaped (.tuple []) = true from shaped_pl (pl_seq (n := 0) false (ds := []) fun _ h => nomatch h) (by decide), eqv_tup0]
  rfl
theorem ne_tup0 {α : Type} {n : Nat} {enc : α → D} (xs : List α) (h : ∀ x ∈ xs, Pl n (enc x)) (hn : n + 1 ≤ 64) : dNe (.tuple (xs.map enc)) (.tuple []) = some (.bool (!decide (xs = []))) := by
  unfold dNe
  rw [show SeqAt.shaped (.tuple (xs.map enc)) = true from shaped_pl (pl_map false h) hn, show SeqAt.shaped (.tuple []) = true from shaped_pl (pl_seq (n := 0) false (ds := []) fun _ h => nomatch h) (by decide), eqv_tup0]
  rfl
theorem ne_course0 (c : List Lot) : dNe (eC c) (.tuple []) = some (.bool (!decide (c = []))) := ne_tup0 (n := 1) c (fun x _ => pl_lot false x) (by decide)
theorem eq_course0 (c : List Lot) : dEq (eC c) (.tuple []) = some (.bool (decide (c = []))) := eq_tup0 (n := 1) c (fun x _ => pl_lot false x) (by decide)
theorem andV_t {f g : Rho → Option D} {ρ : Rho} {d : D} (h : f ρ = some (.bool true)) (k : g ρ = some d) : dAndV f g ρ = some d := by
  unfold dAndV
  rw [h]
  exact k
theorem andV_f {f g : Rho → Option D} {ρ : Rho} (h : f ρ = some (.bool false)) : dAndV f g ρ = some (.bool false) := by
  unfold dAndV
  rw [h]
  rfl
theorem m_is_course (b : Bool) (w : Int) (c : List Lot) (hl : c.length < 1000) (hc : ∀ L ∈ c, F_is_lot [eL L, .int w] = some (.bool true)) : F_is_course [seqD b (c.map eL), .int w] = some (.bool (!b && !decide (c = []))) := by
  refine runF_rt rfl (ret_ ?_)
  cases b with
  | true => exact andV_f rfl
  | false =>
    refine andV_t rfl ?_
    have t1 : (do2 dNe (fun ρ => vAt ρ 0) (fun ρ => (shortL aNil ρ).map .tuple)) (startR 2 3 [seqD false (c.map eL), .int w]) = some (.bool (!decide (c = []))) := ne_course0 c
    by_cases e : c = []
    · rw [decide_eq_true e] at t1 ⊢
      exact andV_f t1
    · rw [decide_eq_false e] at t1 ⊢
      refine andV_t t1 ?_
      dsimp only
      rw [compD_all eL (fun _ => .bool true) c rfl (big1000 hl) fun L hL => ⟨_, rfl, hc L hL⟩]
      show dAll (.list (c.map fun _ => PyData.bool true)) = _
      rw [all_bools (fun _ => true) c]
      simp
def shortAll (most : Int) (c : List Lot) : Bool := c.all fun L => decide ((L.length : Int) ≤ most)
abbrev gk_one : Rho → Option Out := (oIf (fun ρ => ((do2 dEq (fun ρ => ((compD (fun ρ => ((fun ρ => vAt ρ 3) ρ).bind dItems) (hName 5) (fun ρ => ((fun ρ => ((aCons (fun ρ => vAt ρ 4) (aCons (fun ρ => vAt ρ 5) aNil)) ρ).bind F_law_same) ρ).bind asB) (fun ρ => vAt ρ 5) [5]) ρ).map .list) (fun ρ => ((shortL aNil) ρ).map .list)) ρ).bind asB) (oRet (fun _ => some (.bool false))) oNext)
theorem m_law_is_course {w : Int} {U : Lot} {lots : List Lot} (hL : Lots w U lots) (b : Bool) (most : Int) (c : List Lot) (hc : ∀ L ∈ c, L ∈ lots) : F_law_is_course [seqD b (c.map eL), .int w, .int most] = some (.bool (!b && !decide (c = []) && shortAll most c)) := by
  have hu := hL.u4
  have hfew := hL.few
  obtain ⟨goods, hg⟩ : ∃ g, g = goodsOf lots most := ⟨_, rfl⟩
  have hgl : goods.length ≤ 100 := by
    rw [hg]
    exact Nat.le_trans (List.length_filter_le _ _) hfew
  cases b with
  | true => exact runF_rt (ρ' := _) rfl (seq_rt (if_t rfl (ret_ rfl)))
  | false =>
    have t1 : (bOr (bNot (fun ρ => ((fun ρ => ((fun ρ => vAt ρ 0) ρ).bind (isiD "tuple")) ρ).bind asB)) (fun ρ => ((do2 dEq (fun ρ => vAt ρ 0) (fun ρ => (shortL aNil ρ).map .tuple)) ρ).bind asB)) (startR 3 6 [eC c, .int w, .int most]) = some (decide (c = [])) := by
      refine (or_ (a := false) (b := decide (c = [])) rfl ?_)
      show (dEq (eC c) (.tuple [])).bind asB = _
      rw [eq_course0]
      rfl
    by_cases e : c = []
    · rw [decide_eq_true e] at t1 ⊢
      exact runF_rt (ρ' := _) rfl (seq_rt (if_t t1 (ret_ rfl)))
    · rw [decide_eq_false e] at t1 ⊢
      have hset : oSet 3 (mkV (compD (fun ρ => ((fun ρ => ((aCons (fun ρ => vAt ρ 1) aNil) ρ).bind F_law_lots) ρ).bind dItems) (hName 4) (fun ρ => ((do2 dLe (fun ρ => ((fun ρ => vAt ρ 4) ρ).bind dLen) (fun ρ => vAt ρ 2)) ρ).bind asB) (fun ρ => vAt ρ 4) [4])) (startR 3 6 [eC c, .int w, .int most]) = some (.nx ([.val (eC c), .val (.int w), .val (.int most), .val (eCl goods), .no, .no] : Rho)) := by
        refine set_ (s := .val (eCl goods)) ?_
        unfold mkV
        rw [hg, compD_map eL (fun l => decide ((l.length : Int) ≤ most)) eL lots ?_ (Nat.lt_of_le_of_lt hfew (by decide)) fun L _ => ⟨_, rfl, ?_, fun _ => rfl⟩]
        · rfl
        · have ha : (aCons (fun ρ => vAt ρ 1) aNil) (startR 3 6 [eC c, .int w, .int most]) = some [.int w] := rfl
          dsimp only
          rw [ha, Option.bind_some, hL.run]
          rfl
        · show (dLe (.int (((L.map PyData.int).length : Nat) : Int)) (.int most)).bind asB = _
          rw [List.length_map]
          rfl
      obtain ⟨j', k⟩ := forGo_any (J := Sl × Sl) (h := hName 4) (g := gk_one) (enc := eL) (fun j => ([.val (eC c), .val (.int w), .val (.int most), .val (eCl goods), j.1, j.2] : Rho)) (fun L => !decide ((L.length : Int) ≤ most)) (fun _ => .bool false) c (.no, .no) fun L hLc j => by
        refine ⟨(.val (eL L), j.2), ?_⟩
        have hLl := hc L hLc
        have hlen := (hL.lot L hLl).len
        have hcc : compD (fun ρ => ((fun ρ => vAt ρ 3) ρ).bind dItems) (hName 5) (fun ρ => ((fun ρ => ((aCons (fun ρ => vAt ρ 4) (aCons (fun ρ => vAt ρ 5) aNil)) ρ).bind F_law_same) ρ).bind asB) (fun ρ => vAt ρ 5) [5] ([.val (eC c), .val (.int w), .val (.int most), .val (eCl goods), .val (eL L), j.2] : Rho) = some ((goods.filter fun far => decide (L = far)).map eL) := by
          refine compD_map eL (fun far => decide (L = far)) eL goods rfl (Nat.lt_of_le_of_lt hgl (by decide)) fun far _ => ⟨_, rfl, ?_, fun _ => rfl⟩
          show (F_law_same [eL L, eL far]).bind asB = _
          rw [show F_law_same [eL L, eL far] = some (.bool (decide (L = far))) from same_lot 4 L far (by omega)]
          rfl
        have t := lstEq_ (n := 1) (goods.filter fun far => decide (L = far)) hcc (fun x _ => pl_lot false x) (by decide)
        have te : decide ((goods.filter fun far => decide (L = far)) = []) = !decide ((L.length : Int) ≤ most) := by
          by_cases z : (L.length : Int) ≤ most
          · rw [decide_eq_true z]
            refine decide_eq_false fun y => ?_
            rw [List.filter_eq_nil_iff] at y
            refine y L ?_ (decide_eq_true rfl)
            rw [hg]
            exact List.mem_filter.mpr ⟨hLl, decide_eq_true z⟩
          · rw [decide_eq_false z]
            refine decide_eq_true (List.filter_eq_nil_iff.mpr fun far hf y => z ?_)
            rw [hg] at hf
            have := of_decide_eq_true (List.mem_filter.mp hf).2
            rw [of_decide_eq_true y]
            exact this
        rw [te] at t
        show gk_one ([.val (eC c), .val (.int w), .val (.int most), .val (eCl goods), .val (eL L), j.2] : Rho) = _
        cases z : !decide ((L.length : Int) ≤ most) with
        | true => exact if_t (by rw [t, z]) (ret_ rfl)
        | false => exact if_f (by rw [t, z]) rfl
      have hall : shortAll most c = !(c.find? fun L => !decide ((L.length : Int) ≤ most)).isSome := by
        unfold shortAll
        rw [Bool.eq_iff_iff, Bool.not_eq_true', List.all_eq_true, Bool.eq_false_iff]
        constructor
        · intro h z
          rw [List.find?_isSome] at z
          obtain ⟨x, h1, h2⟩ := z
          rw [h x h1] at h2
          cases h2
        · intro h x hx
          refine Classical.byContradiction fun z => h ?_
          rw [List.find?_isSome]
          exact ⟨x, hx, by simpa using z⟩
      rw [hall]
      refine runF_ex rfl ?_
      cases z : c.find? fun L => !decide ((L.length : Int) ≤ most) with
      | some L =>
        rw [z] at k
        exact ⟨_, seq_nx (if_f t1 rfl) (seq_nx hset (seq_rt (for_ (ds := c.map eL) rfl k)))⟩
      | none =>
        rw [z] at k
        exact ⟨_, seq_nx (if_f t1 rfl) (seq_nx hset (seq_nx (for_ (ds := c.map eL) rfl k) (ret_ rfl)))⟩
end GY
set_option Elab.async false
set_option linter.all false
set_option maxRecDepth 100000
set_option maxHeartbeats 4000000
/-! Gmq: fewest_course, lots_added, law_asked, is_fewest_course. -/
namespace GY
open PySem PySem.Spec PyProof.Rows L2
def oD : Option (List Lot) → D
  | some row => eC row
  | none => .none
def oN : Option (List Lot) → D
  | some row => .int (row.length : Int)
  | none => .none
/-- what a search finds -/
def Srch (goods W : List Lot) : Option (List Lot) → Prop
  | some row => Best goods W row
  | none => ∀ cov, ¬ Cov goods W cov
theorem srch_same {goods W W' : List Lot} {o o' : Option (List Lot)} (h : Srch goods W o) (h' : Srch goods W' o') (hc : ∀ cov, Cov goods W cov ↔ Cov goods W' cov) : o.map List.length = o'.map List.length := by
  cases o with
  | none =>
    cases o' with
    | none => rfl
    | some r' => exact absurd ((hc _).mpr h'.1) (h _)
  | some r =>
    cases o' with
    | none => exact absurd ((hc _).mp h.1) (h' _)
    | some r' =>
      have := best_len ((best_iff hc).mp h) h'
      simp [this]
theorem m_search {w : Int} {U : Lot} {lots : List Lot} (hL : Wide w U lots) (b : Bool) (W : List Lot) (most : Int) (hW : ∀ L ∈ W, LotIn U L) (h8 : W.length ≤ 8) : ∃ o, F_fewest_lots [seqD b (W.map eL), eL U, .int most] = some (oD o) ∧ Srch (goodsOf lots most) W o := by
  have hu := hL.u4
  have hF : Few W := ⟨by omega, fun L h => by
    have := (hW L h).len
    omega⟩
  rcases m_fewest_lots b W lots U most hF h8 hL.within (by have := hL.le15; omega) with ⟨row, e, h⟩ | ⟨e, h⟩
  · exact ⟨some row, e, h⟩
  · exact ⟨none, e, h⟩
theorem m_law_search {w : Int} {U : Lot} {lots : List Lot} (hL : Wide w U lots) (W : List Lot) (most : Int) (hW : ∀ L ∈ W, LotIn U L) (hl : W.length ≤ 100) : ∃ o, F_law_fewest [.int w, eCl W, .int most] = some (oN o) ∧ Srch (goodsOf lots most) W o := by
  rcases m_law_fewest hL.toLots hL.le15 W most hW hl with ⟨row, e, h⟩ | ⟨e, h⟩
  · exact ⟨some row, e, h⟩
  · exact ⟨none, e, h⟩
theorem runR_rt {n m : Nat} {g : Rho → Option Out} {ds : List D} {d : D} {ρ' : Rho} (hl : ds.length = n) (h : g (startR n m ds) = some (.rt d ρ')) : runR n m g ds = some (some d) := by
  unfold runR
  rw [if_pos hl, h]
  rfl
theorem runR_ex {n m : Nat} {g : Rho → Option Out} {ds : List D} {ρ' : Rho} (hl : ds.length = n) (h : g (startR n m ds) = some (.ex ρ')) : runR n m g ds = some none := by
  unfold runR
  rw [if_pos hl, h]
  rfl
theorem seq_ex {g k : Rho → Option Out} {ρ ρ1 : Rho} (h : g ρ = some (.ex ρ1)) : oSeq g k ρ = some (.ex ρ1) := by
  unfold oSeq
  rw [h]
  rfl
theorem isN_oD (o : Option (List Lot)) : (dIsN (oD o) .none).bind asB = some o.isNone := by
  cases o <;> rfl
theorem dem_lot {b : Bool} {U : Lot} {rs : List Rule} {C : Rule → List Lot} (h : Chains b U rs C) : ∀ L ∈ demL rs C, LotIn U L := fun L hL => (allC_lot h L (List.mem_filter.mp hL).1).1
theorem dem_len {b : Bool} {U : Lot} {rs : List Rule} {C : Rule → List Lot} (h : Chains b U rs C) (h4 : U.length ≤ 4) (h2 : rs.length ≤ 2) : (demL rs C).length ≤ 8 := Nat.le_trans (List.length_filter_le _ _) (allC_len h h4 h2).2
theorem ix0 (b : Bool) (d : D) (ds : List D) : dIx (seqD b (d :: ds)) (.int 0) = some d := by
  cases b
  · exact atI_zero d ds
  · exact atI_zero d ds
theorem m_fewest_course {w : Int} {U : Lot} {lots : List Lot} (hL : Wide w U lots) (b : Bool) {rs : List Rule} {C : Rule → List Lot} (h : Chains b U rs C) (hr : ∀ r ∈ rs, RuleOn U r) (hne : rs ≠ []) (h2 : rs.length ≤ 2) (most : Int) :
    ∃ o, F_fewest_course [eRsb b rs, .int most] = some (o.map eC) ∧ Srch (goodsOf lots most) (demL rs C) o := by
  obtain ⟨o, e, hs⟩ := m_search hL false (demL rs C) most (dem_lot h) (dem_len h hL.u4 h2)
  refine ⟨o, ?_, hs⟩
  obtain ⟨r, rt, rfl⟩ : ∃ r rt, rs = r :: rt := by
    cases rs with
    | nil => exact absurd rfl hne
    | cons r rt => exact ⟨r, rt, rfl⟩
  have ha : (aCons (fun ρ => ((aCons (fun ρ => vAt ρ 0) aNil) ρ).bind F_demands) (aCons (fun ρ => ((aCons (do2 dIx (fun ρ => vAt ρ 0) (fun _ => some (.int 0))) aNil) ρ).bind F_all_areas) (aCons (fun ρ => vAt ρ 1) aNil))) (startR 2 3 [eRsb b (r :: rt), .int most]) = some [eC (demL (r :: rt) C), eL U, .int most] := by
    show (Option.bind (F_demands [eRsb b (r :: rt)]) fun d => Option.bind (Option.bind (Option.bind (Option.bind (dIx (eRsb b (r :: rt)) (.int 0)) fun d => some [d]) F_all_areas) fun e => some [e, .int most]) fun ds => some (d :: ds)) = _
    rw [m_demands h hL.u4 h2, show dIx (eRsb b (r :: rt)) (.int 0) = some (eRb b r) from ix0 b _ _, Option.bind_some, Option.bind_some, Option.bind_some, (hr r List.mem_cons_self).areas b]
    rfl
  have hset : oSet 2 (cV (fun ρ => ((aCons (fun ρ => ((aCons (fun ρ => vAt ρ 0) aNil) ρ).bind F_demands) (aCons (fun ρ => ((aCons (do2 dIx (fun ρ => vAt ρ 0) (fun _ => some (.int 0))) aNil) ρ).bind F_all_areas) (aCons (fun ρ => vAt ρ 1) aNil))) ρ).bind F_fewest_lots)) (startR 2 3 [eRsb b (r :: rt), .int most]) = some (.nx ([.val (eRsb b (r :: rt)), .val (.int most), .val (oD o)] : Rho)) := by
    refine set_ (s := .val (oD o)) ?_
    unfold cV
    dsimp only
    rw [ha, Option.bind_some, show F_fewest_lots [eC (demL (r :: rt) C), eL U, .int most] = some (oD o) from e]
    rfl
  cases o with
  | none => exact runR_ex (ρ' := _) rfl (seq_nx hset (seq_ex (if_t rfl rfl)))
  | some row => exact runR_rt (ρ' := _) rfl (seq_nx hset (seq_nx (if_f rfl rfl) (ret_ rfl)))
theorem m_asked0 {b : Bool} {rs : List Rule} {most : Int} {o : Option (List Lot)} (h : F_fewest_course [eRsb b rs, .int most] = some (o.map eC)) : F_law_asked [.int 0, eRsb b rs, .none, .int most] = some ((o.map eC).getD (.str "cannot")) := by
  have hp : (fun ρ => ((do2 dEq (fun ρ => vAt ρ 0) (fun _ => some (.int 0))) ρ).bind asB) (startR 4 4 [.int 0, eRsb b rs, .none, .int most]) = some true := by
    show (dEq (.int 0) (.int 0)).bind asB = _
    rw [eq_int]
    rfl
  refine runF_rt (ρ' := startR 4 4 [.int 0, eRsb b rs, .none, .int most]) rfl ?_
  show oAsk _ _ _ _ _ _ _ = _
  unfold oAsk
  rw [hp, Option.bind_some, if_pos rfl]
  show ((F_fewest_course [eRsb b rs, .int most]).map _) = _
  rw [h]
  rfl
theorem m_lots_added {w : Int} {U : Lot} {lots : List Lot} (hL : Wide w U lots) (b : Bool) {r : Rule} {c : List Lot} (hr : RuleOn U r) (hc : F_chain_of [eRb false r] = some (eC c)) (hk : ChainOk r U c) (course : List Lot) (h3 : course.length < 1000) (most : Int) :
    ∃ o, F_lots_added [eRb false r, eCb b course, .int most] = some (o.map fun row : List Lot => .int (row.length : Int)) ∧ Srch (goodsOf lots most) (restOf c course) o := by
  have hu := hL.u4
  obtain ⟨c1, _, c3⟩ := chain_lots hk
  have hin : ∀ L ∈ restOf c course, LotIn U L := fun L h => (c1 L (List.mem_filter.mp h).1).1
  have hl : (restOf c course).length ≤ 4 := Nat.le_trans (List.length_filter_le _ _) (by omega)
  obtain ⟨o, e, hs⟩ := m_search hL true (restOf c course) most hin (by omega)
  refine ⟨o, ?_, hs⟩
  have h1 : oSet 3 (mkV (compD (fun ρ => ((fun ρ => ((aCons (fun ρ => vAt ρ 0) aNil) ρ).bind F_chain_of) ρ).bind dItems) (hName 4) (bNot (fun ρ => ((fun ρ => ((aCons (fun ρ => vAt ρ 4) (aCons (fun ρ => vAt ρ 1) aNil)) ρ).bind F_lies_in) ρ).bind asB)) (fun ρ => vAt ρ 4) [4])) (startR 3 6 [eRb false r, eCb b course, .int most]) = some (.nx ([.val (eRb false r), .val (eCb b course), .val (.int most), .val (eCl (restOf c course)), .no, .no] : Rho)) := by
    refine set_ (s := .val (eCl (restOf c course))) ?_
    have hd : (fun ρ => ((fun ρ => ((aCons (fun ρ => vAt ρ 0) aNil) ρ).bind F_chain_of) ρ).bind dItems) (startR 3 6 [eRb false r, eCb b course, .int most]) = some (c.map eL) := by
      have ha : (aCons (fun ρ => vAt ρ 0) aNil) (startR 3 6 [eRb false r, eCb b course, .int most]) = some [eRb false r] := rfl
      dsimp only
      rw [ha, Option.bind_some, hc]
      rfl
    unfold mkV
    rw [compD_map eL (fun own => !liesIn own course) eL c hd (Nat.lt_of_le_of_lt (by omega : c.length ≤ 4) (by decide)) fun L hLc => ⟨_, rfl, not_ ?_, fun _ => rfl⟩]
    · rfl
    · show (F_lies_in [eL L, eCb b course]).bind asB = _
      have := (c1 L hLc).1.len
      rw [m_lies_in b L course (Nat.lt_of_le_of_lt (by omega : L.length ≤ 4) (by decide)) (big1000 h3)]
      rfl
  have h2 : oSet 5 (cV (fun ρ => ((aCons (fun ρ => vAt ρ 3) (aCons (fun ρ => ((aCons (fun ρ => vAt ρ 0) aNil) ρ).bind F_all_areas) (aCons (fun ρ => vAt ρ 2) aNil))) ρ).bind F_fewest_lots)) ([.val (eRb false r), .val (eCb b course), .val (.int most), .val (eCl (restOf c course)), .no, .no] : Rho) = some (.nx ([.val (eRb false r), .val (eCb b course), .val (.int most), .val (eCl (restOf c course)), .no, .val (oD o)] : Rho)) := by
    refine set_ (s := .val (oD o)) ?_
    have ha : (aCons (fun ρ => vAt ρ 3) (aCons (fun ρ => ((aCons (fun ρ => vAt ρ 0) aNil) ρ).bind F_all_areas) (aCons (fun ρ => vAt ρ 2) aNil))) ([.val (eRb false r), .val (eCb b course), .val (.int most), .val (eCl (restOf c course)), .no, .no] : Rho) = some [eCl (restOf c course), eL U, .int most] := by
      show (Option.bind (some (eCl (restOf c course))) fun d => Option.bind (Option.bind (F_all_areas [eRb false r]) fun e => some [e, .int most]) fun ds => some (d :: ds)) = _
      rw [hr.areas false]
      rfl
    unfold cV
    dsimp only
    rw [ha, Option.bind_some, show F_fewest_lots [eCl (restOf c course), eL U, .int most] = some (oD o) from e]
    rfl
  cases o with
  | none => exact runR_ex (ρ' := _) rfl (seq_nx h1 (seq_nx h2 (seq_ex (if_t rfl rfl))))
  | some row =>
    refine runR_rt (ρ' := _) rfl (seq_nx h1 (seq_nx h2 (seq_nx (if_f rfl rfl) (ret_ ?_))))
    show some (PyData.int (((row.map eL).length : Nat) : Int)) = _
    rw [List.length_map]
theorem m_asked1 {b : Bool} {r : Rule} {course : List Lot} {most : Int} {o : Option (List Lot)} (h : F_lots_added [eRb false r, eCb b course, .int most] = some (o.map fun row : List Lot => .int (row.length : Int))) : F_law_asked [.int 1, eRb false r, eCb b course, .int most] = some ((o.map fun row : List Lot => PyData.int (row.length : Int)).getD (.str "cannot")) := by
  have hp : (fun ρ => ((do2 dEq (fun ρ => vAt ρ 0) (fun _ => some (.int 0))) ρ).bind asB) (startR 4 4 [.int 1, eRb false r, eCb b course, .int most]) = some false := by
    show (dEq (.int 1) (.int 0)).bind asB = _
    rw [eq_int]
    rfl
  refine runF_rt (ρ' := startR 4 4 [.int 1, eRb false r, eCb b course, .int most]) rfl ?_
  show oAsk _ _ _ _ _ _ _ = _
  unfold oAsk
  rw [hp, Option.bind_some, if_neg Bool.false_ne_true]
  show ((F_lots_added [eRb false r, eCb b course, .int most]).map _) = _
  rw [h]
  rfl
/-! ### is_fewest_course -/
theorem frees_dem {b : Bool} {U : Lot} {rs : List Rule} {C : Rule → List Lot} (h : Chains b U rs C) (c : List Lot) : (rs.all fun r => (C r).all fun L => liesIn L c) = decide (restOf (demL rs C) c = []) := by
  have hA : ∀ L ∈ allC rs C, LotIn U L := fun L hL => (allC_lot h L hL).1
  have e := rest_top hA [] c
  rw [rest_nil, rest_nil] at e
  rw [Bool.eq_iff_iff, List.all_eq_true, decide_eq_true_eq]
  refine Iff.trans ?_ e
  rw [rest_empty]
  constructor
  · intro k own ho
    obtain ⟨r, h1, h2⟩ := List.mem_flatMap.mp (mem_isU.mp ho)
    exact List.all_eq_true.mp (k r h1) own h2
  · intro k r hr
    exact List.all_eq_true.mpr fun L hL => k L (mem_isU.mpr (List.mem_flatMap.mpr ⟨r, hr, hL⟩))
/-- what makes a thing a course of fewest lots -/
def isBest (b : Bool) (most : Int) (W c : List Lot) : Option (List Lot) → Bool
  | some row => !b && !decide (c = []) && decide (c.length = row.length) && shortAll most c && decide (restOf W c = [])
  | none => false
theorem len_ne (c row : List Lot) : (dNe (.int (c.length : Int)) (.int (row.length : Int))).bind asB = some (!decide (c.length = row.length)) := by
  rw [ne_int]
  show some _ = _
  congr 2
  rw [decide_eq_decide]
  omega
theorem m_is_fewest {w : Int} {U : Lot} {lots : List Lot} (hL : Wide w U lots) {rs : List Rule} {C : Rule → List Lot} (h : Chains false U rs C) (hr : ∀ r ∈ rs, RuleOn U r) (hne : rs ≠ []) (h2 : rs.length ≤ 2) (most : Int) :
    ∃ o, Srch (goodsOf lots most) (demL rs C) o ∧ ∀ (b : Bool) (c : List Lot), c.length < 1000 → (∀ L ∈ c, L ∈ lots) → F_is_fewest_course [eRsb false rs, .int most, seqD b (c.map eL)] = some (.bool (isBest b most (demL rs C) c o)) := by
  obtain ⟨o, e, hs⟩ := m_search hL false (demL rs C) most (dem_lot h) (dem_len h hL.u4 h2)
  refine ⟨o, hs, fun b c hcl hc => ?_⟩
  have hu := hL.u4
  obtain ⟨r, rt, hrs⟩ : ∃ r rt, rs = r :: rt := by
    cases rs with
    | nil => exact absurd rfl hne
    | cons r rt => exact ⟨r, rt, rfl⟩
  have hset1 : oSet 3 (cV (fun ρ => ((aCons (do2 dIx (fun ρ => vAt ρ 0) (fun _ => some (.int 0))) aNil) ρ).bind F_all_areas)) (startR 3 7 [eRsb false rs, .int most, seqD b (c.map eL)]) = some (.nx ([.val (eRsb false rs), .val (.int most), .val (seqD b (c.map eL)), .val (eL U), .no, .no, .no] : Rho)) := by
    refine set_ (s := .val (eL U)) ?_
    show (Option.map Sl.val (Option.bind (Option.bind (dIx (eRsb false rs) (.int 0)) fun d => some [d]) F_all_areas)) = _
    rw [show dIx (eRsb false rs) (.int 0) = some (eRb false r) by rw [hrs]; exact ix0 false _ _, Option.bind_some, Option.bind_some, (hr r (by rw [hrs]; exact List.mem_cons_self)).areas false]
    rfl
  have hset2 : oSet 4 (cV (fun ρ => ((aCons (fun ρ => ((aCons (fun ρ => vAt ρ 0) aNil) ρ).bind F_demands) (aCons (fun ρ => vAt ρ 3) (aCons (fun ρ => vAt ρ 1) aNil))) ρ).bind F_fewest_lots)) ([.val (eRsb false rs), .val (.int most), .val (seqD b (c.map eL)), .val (eL U), .no, .no, .no] : Rho) = some (.nx ([.val (eRsb false rs), .val (.int most), .val (seqD b (c.map eL)), .val (eL U), .val (oD o), .no, .no] : Rho)) := by
    refine set_ (s := .val (oD o)) ?_
    have ha : (aCons (fun ρ => ((aCons (fun ρ => vAt ρ 0) aNil) ρ).bind F_demands) (aCons (fun ρ => vAt ρ 3) (aCons (fun ρ => vAt ρ 1) aNil))) ([.val (eRsb false rs), .val (.int most), .val (seqD b (c.map eL)), .val (eL U), .no, .no, .no] : Rho) = some [eC (demL rs C), eL U, .int most] := by
      show (Option.bind (F_demands [eRsb false rs]) fun d => Option.bind (some [eL U, .int most]) fun ds => some (d :: ds)) = _
      rw [m_demands h hL.u4 h2]
      rfl
    unfold cV
    dsimp only
    rw [ha, Option.bind_some, show F_fewest_lots [eC (demL rs C), eL U, .int most] = some (oD o) from e]
    rfl
  refine runF_ex rfl ?_
  cases o with
  | none => exact ⟨_, seq_nx hset1 (seq_nx hset2 (seq_rt (if_t rfl (ret_ rfl))))⟩
  | some row =>
    have tc : (bNot (fun ρ => ((fun ρ => ((aCons (fun ρ => vAt ρ 2) (aCons (fun ρ => ((fun ρ => vAt ρ 3) ρ).bind dLen) aNil)) ρ).bind F_is_course) ρ).bind asB)) ([.val (eRsb false rs), .val (.int most), .val (seqD b (c.map eL)), .val (eL U), .val (oD (some row)), .no, .no] : Rho) = some (!(!b && !decide (c = []))) := by
      refine not_ ?_
      show (F_is_course [seqD b (c.map eL), .int (((U.map PyData.int).length : Nat) : Int)]).bind asB = _
      rw [List.length_map, hL.wlen, m_is_course b w c hcl fun L hLc => hL.isl L (hc L hLc)]
      rfl
    have tn : (fun ρ => ((do2 dNe (fun ρ => ((fun ρ => vAt ρ 2) ρ).bind dLen) (fun ρ => ((fun ρ => vAt ρ 4) ρ).bind dLen)) ρ).bind asB) ([.val (eRsb false rs), .val (.int most), .val (seqD b (c.map eL)), .val (eL U), .val (oD (some row)), .no, .no] : Rho) = some (!decide (c.length = row.length)) := by
      have e1 : dLen (seqD b (c.map eL)) = some (.int (c.length : Int)) := by
        cases b
        · show some (PyData.int (((c.map eL).length : Nat) : Int)) = _
          rw [List.length_map]
        · show some (PyData.int (((c.map eL).length : Nat) : Int)) = _
          rw [List.length_map]
      have e2 : dLen (eC row) = some (.int (row.length : Int)) := by
        show some (PyData.int (((row.map eL).length : Nat) : Int)) = _
        rw [List.length_map]
      show (Option.bind (dLen (seqD b (c.map eL))) fun d => Option.bind (dLen (eC row)) fun e => dNe d e).bind asB = _
      rw [e1, e2]
      exact len_ne c row
    have t := or_ (p := (fun ρ => ((do2 dIsN (fun ρ => vAt ρ 4) (fun _ => some .none)) ρ).bind asB)) (ρ := ([.val (eRsb false rs), .val (.int most), .val (seqD b (c.map eL)), .val (eL U), .val (oD (some row)), .no, .no] : Rho)) (a := false) rfl (or_ (p := (bNot (fun ρ => ((fun ρ => ((aCons (fun ρ => vAt ρ 2) (aCons (fun ρ => ((fun ρ => vAt ρ 3) ρ).bind dLen) aNil)) ρ).bind F_is_course) ρ).bind asB))) (q := (fun ρ => ((do2 dNe (fun ρ => ((fun ρ => vAt ρ 2) ρ).bind dLen) (fun ρ => ((fun ρ => vAt ρ 4) ρ).bind dLen)) ρ).bind asB)) tc tn)
    rw [Bool.false_or] at t
    show ∃ ρ', _ = some (Out.rt (.bool (!b && !decide (c = []) && decide (c.length = row.length) && shortAll most c && decide (restOf (demL rs C) c = []))) ρ')
    cases c1 : (!b && !decide (c = [])) with
    | false =>
      rw [c1] at t
      exact ⟨_, seq_nx hset1 (seq_nx hset2 (seq_rt (if_t t (ret_ rfl))))⟩
    | true =>
      cases c2 : decide (c.length = row.length) with
      | false =>
        rw [c1, c2] at t
        exact ⟨_, seq_nx hset1 (seq_nx hset2 (seq_rt (if_t t (ret_ rfl))))⟩
      | true =>
        rw [c1, c2] at t
        have hb : b = false := by
          cases b
          · rfl
          · cases c1
        subst hb
        refine ⟨_, seq_nx hset1 (seq_nx hset2 (seq_nx (if_f t rfl) (ret_ ?_)))⟩
        have k1 : (fun ρ => ((fun ρ => ((compD (fun ρ => ((fun ρ => vAt ρ 2) ρ).bind dItems) (hName 5) (fun _ => some true) (do2 dLe (fun ρ => ((fun ρ => vAt ρ 5) ρ).bind dLen) (fun ρ => vAt ρ 1)) [5]) ρ).map .list) ρ).bind dAll) ([.val (eRsb false rs), .val (.int most), .val (seqD false (c.map eL)), .val (eL U), .val (oD (some row)), .no, .no] : Rho) = some (.bool (shortAll most c)) := by
          dsimp only
          rw [compD_all eL (fun L => .bool (decide ((L.length : Int) ≤ most))) c rfl (big1000 hcl) fun L _ => ⟨_, rfl, ?_⟩]
          · exact all_bools (fun L : Lot => decide ((L.length : Int) ≤ most)) c
          · show dLe (.int (((L.map PyData.int).length : Nat) : Int)) (.int most) = _
            rw [List.length_map]
            rfl
        have k2 : (fun ρ => ((fun ρ => ((compD (fun ρ => ((fun ρ => vAt ρ 0) ρ).bind dItems) (hName 6) (fun _ => some true) (fun ρ => ((aCons (fun ρ => vAt ρ 6) (aCons (fun ρ => vAt ρ 2) aNil)) ρ).bind F_frees_all) [6]) ρ).map .list) ρ).bind dAll) ([.val (eRsb false rs), .val (.int most), .val (seqD false (c.map eL)), .val (eL U), .val (oD (some row)), .no, .no] : Rho) = some (.bool (decide (restOf (demL rs C) c = []))) := by
          dsimp only
          rw [compD_all (eRb false) (fun r => .bool ((C r).all fun L => liesIn L c)) rs rfl (Nat.lt_of_le_of_lt h2 (by decide)) fun r hr' => ⟨_, rfl, ?_⟩]
          · rw [← frees_dem h c]
            exact all_bools (fun r => (C r).all fun L => liesIn L c) rs
          · obtain ⟨c1, _, c3⟩ := chain_lots (h.ok r hr')
            exact m_frees_all false (h.run r hr') c (by omega) (fun L hLc => by
              have := (c1 L hLc).1.len
              omega) hcl
        show dAndV _ _ ([.val (eRsb false rs), .val (.int most), .val (seqD false (c.map eL)), .val (eL U), .val (oD (some row)), .no, .no] : Rho) = _
        cases c3 : shortAll most c with
        | false =>
          rw [c3] at k1
          exact andV_f k1
        | true =>
          rw [c3] at k1
          exact andV_t k1 k2
end GY
set_option Elab.async false
set_option linter.all false
set_option maxRecDepth 100000
set_option maxHeartbeats 4000000
/-! Gmr: law_take, law_pick. -/
namespace GY
open PySem PySem.Spec PyProof.Rows L2
/-- the source of draws, after k draws at most -/
def Tin (k : Nat) (zs : List D) : Prop := ∃ a b n : Int, zs = [.int a, .int b, .int n] ∧ 0 ≤ n ∧ n ≤ (k : Int)
theorem Tin.mono {k m : Nat} {zs : List D} (h : Tin k zs) (hm : k ≤ m) : Tin m zs := by
  obtain ⟨a, b, n, e, h1, h2⟩ := h
  exact ⟨a, b, n, e, h1, by omega⟩
theorem runE_rt {n m : Nat} {g : Rho → Option Out} {es ds es' : List D} {d : D} {ρ' : Rho} (hl : ds.length + 1 = n) (hm : 1 ≤ m) (h : g (startE n m es ds) = some (.rt d (.rf es' :: ρ'))) : runE n m g es ds = some (d, es') := by
  unfold runE
  rw [if_pos ⟨hl, hm⟩, h]
  rfl
theorem two_ {h : D → D → Option D} {f g : Rho → Option D} {ρ : Rho} {d e z : D} (hf : f ρ = some d) (hg : g ρ = some e) (hz : h d e = some z) : do2 h f g ρ = some z := by
  unfold do2
  rw [hf, Option.bind_some, hg]
  exact hz
theorem bnd_ {α β : Type} {o : Option α} {h : α → Option β} {d : α} {z : β} (ho : o = some d) (hz : h d = some z) : o.bind h = some z := by
  rw [ho]
  exact hz
theorem dMod_ {i j : Int} (h : 0 < j) : dMod (.int i) (.int j) = some (.int (i % j)) := if_pos h
theorem dDiv_ {i j : Int} (h : 0 < j) (k : j < 1073741824) : dDiv (.int i) (.int j) = some (.int (i / j)) := if_pos ⟨h, k⟩
theorem fits_ {i : Int} (h : -(2 ^ 64) < i) (k : i < 2 ^ 64) : fitsM i = true := by
  unfold fitsM
  rw [decide_eq_true h, decide_eq_true k]
  rfl
theorem dMulL {i j : Int} (h : fitsM i = true) : dMul (.int i) (.int j) = some (.int (i * j)) := if_pos (by rw [h]; rfl)
theorem dMulR {i j : Int} (h : fitsM j = true) : dMul (.int i) (.int j) = some (.int (i * j)) := if_pos (by rw [h, Bool.or_true])
theorem at0 (x y z : D) : dIx (.list [x, y, z]) (.int 0) = some x := by
  show atI [x, y, z] 0 = _
  unfold atI ixN
  rw [if_pos (by omega), if_pos (by simp)]
  rfl
theorem at1 (x y z : D) : dIx (.list [x, y, z]) (.int 1) = some y := by
  show atI [x, y, z] 1 = _
  unfold atI ixN
  rw [if_pos (by omega), if_pos (by simp)]
  rfl
theorem at2 (x y z : D) : dIx (.list [x, y, z]) (.int 2) = some z := by
  show atI [x, y, z] 2 = _
  unfold atI ixN
  rw [if_pos (by omega), if_pos (by simp)]
  rfl
theorem ix30 : ixN 3 0 = some 0 := by decide
theorem ix32 : ixN 3 2 = some 2 := by decide
theorem sub_ {k : Nat} {fi fd : Rho → Option D} {ρ : Rho} {d : D} {z : Int} {ds : List D} {j : Nat} (h1 : fd ρ = some d) (h2 : fi ρ = some (.int z)) (h3 : ownAt ρ k = some ds) (h4 : ixN ds.length z = some j) : oSub k fi fd ρ = some (.nx (putOwn ρ k (ds.set j d))) := by
  unfold oSub
  rw [h1, Option.bind_some, h2, Option.bind_some, h3, Option.bind_some]
  show ((ixN ds.length z).map fun j => Out.nx (putOwn ρ k (ds.set j d))) = _
  rw [h4]
  rfl
abbrev rhoT (a b n m : Int) (s2 s3 s4 s5 : Sl) : Rho := [.rf [.int a, .int b, .int n], .val (.int m), s2, s3, s4, s5]
def onceN (b n : Int) : Int := (b + 48271 * n) * (39373 + n) % 2147483647
def wideN (b n : Int) : Int := onceN b n % 40009 + 7
def twiceN (b n : Int) : Int := (onceN b n + n + b / 1000003) * wideN b n % 2147483629
theorem m_take {k : Nat} {zs : List D} (h : Tin k zs) (hk : k ≤ 1000000) (m : Int) (h1 : 0 < m) (h2 : m < 1000) : ∃ (i : Int) (zs' : List D), F_law_take zs [.int m] = some (.int i, zs') ∧ 0 ≤ i ∧ i < m ∧ Tin (k + 1) zs' := by
  obtain ⟨a, b, n, rfl, n0, nk⟩ := h
  have hc : (fun ρ => ((do2 dGt (do2 dIx (fun ρ => bAt ρ 0) (fun _ => some (.int 0))) (fun _ => some (.int 0))) ρ).bind asB) (rhoT a b n m .no .no .no .no) = some (decide (0 < a)) :=
    bnd_ (two_ (two_ (d := .list [.int a, .int b, .int n]) rfl rfl (at0 _ _ _)) rfl rfl) rfl
  by_cases c : 0 < a
  · rw [decide_eq_true c] at hc
    refine ⟨a % m, [.int (a / m), .int b, .int n], ?_, Int.emod_nonneg _ (by omega), Int.emod_lt_of_pos _ h1, ⟨_, _, _, rfl, n0, by omega⟩⟩
    refine runE_rt (ρ' := [.val (.int m), .val (.int (a % m)), .no, .no, .no]) rfl (by decide) ?_
    refine seq_rt (if_t hc (seq_nx (ρ1 := rhoT a b n m (.val (.int (a % m))) .no .no .no) ?_ (seq_nx (ρ1 := rhoT (a / m) b n m (.val (.int (a % m))) .no .no .no) ?_ (ret_ rfl))))
    · refine set_ (s := .val (.int (a % m))) ?_
      have e : (do2 dMod (fun ρ => ((do2 dIx (fun ρ => bAt ρ 0) (fun _ => some (.int 0))) ρ).bind dInt) (fun ρ => vAt ρ 1)) (rhoT a b n m .no .no .no .no) = some (.int (a % m)) :=
        two_ (d := .int a) (bnd_ (two_ (d := .list [.int a, .int b, .int n]) rfl rfl (at0 _ _ _)) rfl) rfl (dMod_ h1)
      exact congrArg (Option.map Sl.val) e
    · have e : (do2 dDiv (do2 dIx (fun ρ => bAt ρ 0) (fun _ => some (.int 0))) (fun ρ => vAt ρ 1)) (rhoT a b n m (.val (.int (a % m))) .no .no .no) = some (.int (a / m)) :=
        two_ (d := .int a) (two_ (d := .list [.int a, .int b, .int n]) rfl rfl (at0 _ _ _)) rfl (dDiv_ h1 (by omega))
      exact sub_ (j := 0) (z := 0) (ds := [.int a, .int b, .int n]) e rfl rfl ix30
  · rw [decide_eq_false c] at hc
    have hn1 : fitsM (39373 + (n + 1)) = true := fits_ (by omega) (by omega)
    have hw : fitsM (wideN b (n + 1)) = true := by
      have w1 := Int.emod_nonneg (onceN b (n + 1)) (show (40009 : Int) ≠ 0 by decide)
      have w2 := Int.emod_lt_of_pos (onceN b (n + 1)) (show (0 : Int) < 40009 by decide)
      exact fits_ (by unfold wideN; omega) (by unfold wideN; omega)
    refine ⟨(twiceN b (n + 1) * 48271 + onceN b (n + 1)) % 2147483587 / 64 % m, [.int a, .int b, .int (n + 1)], ?_, Int.emod_nonneg _ (by omega), Int.emod_lt_of_pos _ h1, ⟨_, _, _, rfl, by omega, by omega⟩⟩
    refine runE_rt (ρ' := [.val (.int m), .no, .val (.int (onceN b (n + 1))), .val (.int (wideN b (n + 1))), .val (.int (twiceN b (n + 1)))]) rfl (by decide) ?_
    refine seq_nx (if_f hc rfl) (seq_nx (ρ1 := rhoT a b (n + 1) m .no .no .no .no) ?_ (seq_nx (ρ1 := rhoT a b (n + 1) m .no (.val (.int (onceN b (n + 1)))) .no .no) ?_ (seq_nx (ρ1 := rhoT a b (n + 1) m .no (.val (.int (onceN b (n + 1)))) (.val (.int (wideN b (n + 1)))) .no) ?_ (seq_nx (ρ1 := rhoT a b (n + 1) m .no (.val (.int (onceN b (n + 1)))) (.val (.int (wideN b (n + 1)))) (.val (.int (twiceN b (n + 1))))) ?_ (ret_ ?_)))))
    · have e : (do2 dAdd (do2 dIx (fun ρ => bAt ρ 0) (fun _ => some (.int 2))) (fun _ => some (.int 1))) (rhoT a b n m .no .no .no .no) = some (.int (n + 1)) :=
        two_ (d := .int n) (two_ (d := .list [.int a, .int b, .int n]) rfl rfl (at2 _ _ _)) rfl rfl
      exact sub_ (j := 2) (z := 2) (ds := [.int a, .int b, .int n]) e rfl rfl ix32
    · refine set_ (s := .val (.int (onceN b (n + 1)))) ?_
      have e : (do2 dMod (fun ρ => ((do2 dMul (do2 dAdd (do2 dIx (fun ρ => bAt ρ 0) (fun _ => some (.int 1))) (do2 dMul (fun _ => some (.int 48271)) (do2 dIx (fun ρ => bAt ρ 0) (fun _ => some (.int 2))))) (do2 dAdd (fun _ => some (.int 39373)) (do2 dIx (fun ρ => bAt ρ 0) (fun _ => some (.int 2))))) ρ).bind dInt) (fun _ => some (.int 2147483647))) (rhoT a b (n + 1) m .no .no .no .no) = some (.int (onceN b (n + 1))) :=
        two_ (d := .int ((b + 48271 * (n + 1)) * (39373 + (n + 1)))) (bnd_ (two_ (d := .int (b + 48271 * (n + 1))) (e := .int (39373 + (n + 1))) (two_ (d := .int b) (e := .int (48271 * (n + 1))) (two_ (d := .list [.int a, .int b, .int (n + 1)]) rfl rfl (at1 _ _ _)) (two_ (e := .int (n + 1)) rfl (two_ (d := .list [.int a, .int b, .int (n + 1)]) rfl rfl (at2 _ _ _)) (dMulL (by decide))) rfl) (two_ (e := .int (n + 1)) rfl (two_ (d := .list [.int a, .int b, .int (n + 1)]) rfl rfl (at2 _ _ _)) rfl) (dMulR hn1)) rfl) rfl (dMod_ (by decide))
      exact congrArg (Option.map Sl.val) e
    · refine set_ (s := .val (.int (wideN b (n + 1)))) ?_
      have e : (do2 dAdd (do2 dMod (fun ρ => ((fun ρ => vAt ρ 3) ρ).bind dInt) (fun _ => some (.int 40009))) (fun _ => some (.int 7))) (rhoT a b (n + 1) m .no (.val (.int (onceN b (n + 1)))) .no .no) = some (.int (wideN b (n + 1))) :=
        two_ (d := .int (onceN b (n + 1) % 40009)) (two_ (d := .int (onceN b (n + 1))) rfl rfl (dMod_ (by decide))) rfl rfl
      exact congrArg (Option.map Sl.val) e
    · refine set_ (s := .val (.int (twiceN b (n + 1)))) ?_
      have e : (do2 dMod (fun ρ => ((do2 dMul (do2 dAdd (do2 dAdd (fun ρ => vAt ρ 3) (do2 dIx (fun ρ => bAt ρ 0) (fun _ => some (.int 2)))) (do2 dDiv (do2 dIx (fun ρ => bAt ρ 0) (fun _ => some (.int 1))) (fun _ => some (.int 1000003)))) (fun ρ => vAt ρ 4)) ρ).bind dInt) (fun _ => some (.int 2147483629))) (rhoT a b (n + 1) m .no (.val (.int (onceN b (n + 1)))) (.val (.int (wideN b (n + 1)))) .no) = some (.int (twiceN b (n + 1))) :=
        two_ (d := .int ((onceN b (n + 1) + (n + 1) + b / 1000003) * wideN b (n + 1))) (bnd_ (two_ (d := .int (onceN b (n + 1) + (n + 1) + b / 1000003)) (two_ (d := .int (onceN b (n + 1) + (n + 1))) (e := .int (b / 1000003)) (two_ (d := .int (onceN b (n + 1))) (e := .int (n + 1)) rfl (two_ (d := .list [.int a, .int b, .int (n + 1)]) rfl rfl (at2 _ _ _)) rfl) (two_ (d := .int b) (two_ (d := .list [.int a, .int b, .int (n + 1)]) rfl rfl (at1 _ _ _)) rfl (dDiv_ (by decide) (by decide))) rfl) rfl (dMulR hw)) rfl) rfl (dMod_ (by decide))
      exact congrArg (Option.map Sl.val) e
    · exact two_ (d := .int ((twiceN b (n + 1) * 48271 + onceN b (n + 1)) % 2147483587 / 64)) (bnd_ (two_ (d := .int ((twiceN b (n + 1) * 48271 + onceN b (n + 1)) % 2147483587)) (two_ (d := .int (twiceN b (n + 1) * 48271 + onceN b (n + 1))) (bnd_ (two_ (d := .int (twiceN b (n + 1) * 48271)) (two_ rfl rfl (dMulR (by decide))) rfl rfl) rfl) rfl (dMod_ (by decide))) rfl (dDiv_ (by decide) (by decide))) rfl) rfl (dMod_ h1)
/-! ### pick -/
theorem erase_map {α β : Type} (f : α → β) : ∀ (l : List α) (i : Nat), (l.map f).eraseIdx i = (l.eraseIdx i).map f
  | [], i => by simp
  | a :: l, 0 => by simp
  | a :: l, i + 1 => by simp [erase_map f l i]
theorem cons_erase {α : Type} : ∀ (l : List α) (i : Nat) (h : i < l.length), (l[i] :: l.eraseIdx i).Perm l
  | a :: l, 0, h => by simp
  | a :: l, i + 1, h => by
    have ih := cons_erase l i (by simpa using h)
    simp only [List.getElem_cons_succ, List.eraseIdx_cons_succ]
    exact (List.Perm.swap _ _ _).trans (ih.cons a)
abbrev gp_pick : Rho → Option Out := (oAppPop 0 4 3 (xCall 0 (xCons 0 (xPure 0 (fun ρ => ((fun ρ => bAt ρ 3) ρ).bind dLen)) (xNil 0)) F_law_take))
abbrev rhoK (zs : List D) (d1 d2 : D) (pool found : Lot) (s5 : Sl) : Rho := [.rf zs, .val d1, .val d2, .own (pool.map .int), .own (found.map .int), s5]
theorem pick_turn {k : Nat} {zs : List D} (h : Tin k zs) (hk : k ≤ 1000000) (d1 d2 : D) (pool found : Lot) (s5 : Sl) (hp : 0 < pool.length) (hp2 : pool.length < 1000) (hf : found.length < 1000) :
    ∃ (zs' : List D) (z : Int) (pool' : Lot), gp_pick (rhoK zs d1 d2 pool found s5) = some (.nx (rhoK zs' d1 d2 pool' (found ++ [z]) s5)) ∧ Tin (k + 1) zs' ∧ (z :: pool').Perm pool := by
  obtain ⟨i, zs', e, i0, i1, t⟩ := m_take h hk (pool.length : Int) (by omega) (by omega)
  have hi : i.toNat < pool.length := by omega
  refine ⟨zs', pool[i.toNat], pool.eraseIdx i.toNat, ?_, t, cons_erase pool i.toNat hi⟩
  have hx : xCall 0 (xCons 0 (xPure 0 (fun ρ => ((fun ρ => bAt ρ 3) ρ).bind dLen)) (xNil 0)) F_law_take (rhoK zs d1 d2 pool found s5) = some (.int i, zs') := by
    show F_law_take zs [.int (((pool.map PyData.int).length : Nat) : Int)] = _
    rw [List.length_map]
    exact e
  have hs : seqIndex? i (pool.map PyData.int).length = some i.toNat := by
    unfold seqIndex?
    rw [List.length_map]
    simp only [if_neg (show ¬ i < 0 by omega)]
    rw [if_pos (by simp; omega)]
  have hg : (pool.map PyData.int)[i.toNat]? = some (.int pool[i.toNat]) := by
    rw [List.getElem?_map, List.getElem?_eq_getElem hi]
    rfl
  unfold gp_pick oAppPop
  show (Option.bind (some zs) fun _ => Option.bind (some (found.map PyData.int)) fun xs => Option.bind (some (pool.map PyData.int)) fun ys => Option.bind (xCall 0 (xCons 0 (xPure 0 (fun ρ => ((fun ρ => bAt ρ 3) ρ).bind dLen)) (xNil 0)) F_law_take (rhoK zs d1 d2 pool found s5)) _) = _
  rw [hx]
  show (if -(2 ^ 63) ≤ i ∧ i < 2 ^ 63 then (seqIndex? i (pool.map PyData.int).length).bind _ else none) = _
  rw [if_pos (by omega), hs]
  show (((pool.map PyData.int)[i.toNat]?).bind _) = _
  rw [hg]
  show (if (found.map PyData.int).length < sBig then _ else _) = _
  rw [if_pos (by rw [List.length_map]; exact big1000 hf)]
  rw [erase_map]
  unfold rhoK
  rw [List.map_append]
  rfl
theorem pick_loop (d1 d2 : D) : ∀ (ds : List D) (k : Nat) (zs : List D) (pool found : Lot) (s5 : Sl), Tin k zs → k + ds.length ≤ 1000000 → ds.length ≤ pool.length → pool.length < 1000 → found.length + ds.length < 1000 →
    ∃ (zs' : List D) (pool' found' : Lot) (s5' : Sl), forGo (hName 5) gp_pick ds (rhoK zs d1 d2 pool found s5) = some (.nx (rhoK zs' d1 d2 pool' found' s5')) ∧ Tin (k + ds.length) zs' ∧ (found' ++ pool').Perm (found ++ pool) ∧ found'.length = found.length + ds.length
  | [], k, zs, pool, found, s5, h, _, _, _, _ => ⟨zs, pool, found, s5, rfl, h, List.Perm.refl _, rfl⟩
  | d :: ds, k, zs, pool, found, s5, h, hk, hd, hp, hf => by
    rw [List.length_cons] at hk hd hf
    obtain ⟨zs1, z, pool1, e1, t1, p1⟩ := pick_turn h (by omega) d1 d2 pool found (.val d) (by omega) hp (by omega)
    have hl := p1.length_eq
    rw [List.length_cons] at hl
    obtain ⟨zs', pool', found', s5', e2, t2, p2, l2⟩ := pick_loop d1 d2 ds (k + 1) zs1 pool1 (found ++ [z]) (.val d) t1 (by omega) (by omega) (by omega) (by rw [List.length_append, List.length_singleton]; omega)
    refine ⟨zs', pool', found', s5', ?_, ?_, ?_, ?_⟩
    · refine (forGo_cons (ρ' := rhoK zs1 d1 d2 pool1 (found ++ [z]) (.val d)) ?_).trans e2
      exact e1
    · rw [List.length_cons, show k + (ds.length + 1) = k + 1 + ds.length by omega]
      exact t2
    · refine p2.trans ?_
      rw [List.append_assoc]
      exact (p1.append_left found)
    · rw [l2, List.length_append, List.length_singleton, List.length_cons]
      omega
theorem m_pick {k : Nat} {zs : List D} (h : Tin k zs) (hk : k ≤ 900000) (b : Bool) (goods : Lot) (count : Int) (hc : 0 ≤ count) (hc2 : count < 1000) (hg : goods.length < 900) :
    ∃ (zs' : List D) (found pool : Lot), F_law_pick zs [seqD b (goods.map .int), .int count] = some (.list (found.map .int), zs') ∧ Tin (k + 900) zs' ∧ (found ++ pool).Perm goods ∧ (found.length : Int) = min count goods.length := by
  obtain ⟨n, hn⟩ : ∃ n : Int, n = if (goods.length : Int) < count then (goods.length : Int) else count := ⟨_, rfl⟩
  have n0 : 0 ≤ n := by
    rw [hn]
    split <;> omega
  have n1 : n ≤ goods.length := by
    rw [hn]
    split <;> omega
  have nm : n = min count goods.length := by
    rw [hn]
    split <;> omega
  have hrl : (rngD 0 n.toNat).length = n.toNat := rngD_len _ _
  obtain ⟨zs', pool', found', s5', e, t, p, l⟩ := pick_loop (seqD b (goods.map .int)) (.int count) (rngD 0 n.toNat) k zs goods [] .no h (by omega) (by omega) (by omega) (by rw [hrl]; show 0 + n.toNat < 1000; omega)
  refine ⟨zs', found', pool', ?_, t.mono (by omega), p, ?_⟩
  · have hpar : oPar 3 4 (cO (fun ρ => ((fun ρ => vAt ρ 1) ρ).bind dItems)) (cO (shortL aNil)) (startE 3 6 zs [seqD b (goods.map .int), .int count]) = some (.nx (rhoK zs (seqD b (goods.map .int)) (.int count) goods [] .no)) := by
      unfold oPar
      have e1 : cO (fun ρ => ((fun ρ => vAt ρ 1) ρ).bind dItems) (startE 3 6 zs [seqD b (goods.map .int), .int count]) = some (.own (goods.map .int)) := by
        show ((dItems (seqD b (goods.map .int))).map Sl.own) = _
        rw [seq_items]
        rfl
      rw [e1]
      rfl
    refine runE_rt (ρ' := [.val (seqD b (goods.map .int)), .val (.int count), .own (pool'.map .int), .val (.list (found'.map .int)), s5']) rfl (by decide) (seq_nx hpar (seq_nx (for_ (ds := rngD 0 n.toNat) ?_ e) rfl))
    show ((dMin2 [.int count, .int (((goods.map PyData.int).length : Nat) : Int)]).bind fun d => some [d]).bind dRng1 = _
    rw [List.length_map]
    show dRng1 [.int (if (goods.length : Int) < count then (goods.length : Int) else count)] = _
    rw [← hn]
    unfold dRng1
    dsimp only
    have hok : okR n = true := by
      unfold okR
      rw [Bool.and_eq_true, decide_eq_true_eq, decide_eq_true_eq]
      omega
    rw [if_pos hok]
  · rw [l, hrl, ← nm]
    show ((0 + n.toNat : Nat) : Int) = n
    omega
end GY
set_option Elab.async false
set_option linter.all false
set_option maxRecDepth 100000
set_option maxHeartbeats 4000000
/-! Gms: law_rule, law_course, law_lists. -/
namespace GY
open PySem PySem.Spec PyProof.Rows L2
theorem xpure_ {k : Nat} {f : Rho → Option D} {ρ : Rho} {d : D} {es : List D} (h : f ρ = some d) (ho : ownAt ρ k = some es) : xPure k f ρ = some (d, es) := by
  unfold xPure
  rw [h, Option.bind_some, ho]
  rfl
theorem xtwo_ {k : Nat} {h : D → D → Option D} {f g : Rho → Option (D × List D)} {ρ : Rho} {a b c : D} {y z : List D} (h1 : f ρ = some (a, y)) (h2 : g (putOwn ρ k y) = some (b, z)) (h3 : h a b = some c) : xTwo k h f g ρ = some (c, z) := by
  unfold xTwo
  rw [h1, Option.bind_some]
  dsimp only
  rw [h2, Option.bind_some]
  dsimp only
  rw [h3]
  rfl
theorem xcall1_ {k : Nat} {A : Rho → Option (D × List D)} {Fn : List D → List D → Option (D × List D)} {ρ : Rho} {a : D} {y : List D} {r : D × List D} (h1 : A ρ = some (a, y)) (h2 : ownAt (putOwn ρ k y) k = some y) (h3 : Fn y [a] = some r) : xCall k (xCons k A (xNil k)) Fn ρ = some r := by
  unfold xCall xCons xNil
  rw [h1, Option.bind_some]
  dsimp only
  rw [h2]
  exact h3
theorem xcall2_ {k : Nat} {A B : Rho → Option (D × List D)} {Fn : List D → List D → Option (D × List D)} {ρ : Rho} {a b : D} {y z : List D} {r : D × List D} (h1 : A ρ = some (a, y)) (h2 : B (putOwn ρ k y) = some (b, z)) (h3 : ownAt (putOwn (putOwn ρ k y) k z) k = some z) (h4 : Fn z [a, b] = some r) : xCall k (xCons k A (xCons k B (xNil k))) Fn ρ = some r := by
  unfold xCall xCons xNil
  rw [h1, Option.bind_some]
  dsimp only
  rw [h2, Option.bind_some]
  dsimp only
  rw [h3]
  exact h4
/-- c + a draw below m -/
theorem xtake_ {ρ : Rho} {zs zs' : List D} {f : Rho → Option D} {m i : Int} (c : Int) (ho : ownAt ρ 0 = some zs) (hp : putOwn ρ 0 zs = ρ) (hf : f ρ = some (.int m)) (e : F_law_take zs [.int m] = some (.int i, zs')) :
    xTwo 0 dAdd (xPure 0 (fun _ => some (.int c))) (xCall 0 (xCons 0 (xPure 0 f) (xNil 0)) F_law_take) ρ = some (.int (c + i), zs') := by
  refine xtwo_ (b := .int i) (xpure_ rfl ho) ?_ rfl
  rw [hp]
  exact xcall1_ (xpure_ hf ho) (by rw [hp]; exact ho) e
/-! ### picks of a lot -/
theorem picks_lot {goods found pool : Lot} (nd : goods.Nodup) (p : (found ++ pool).Perm goods) : (sortI found).Pairwise (· < ·) ∧ (∀ x ∈ sortI found, x ∈ goods) ∧ (sortI found).length = found.length := by
  have pm := sortI_perm found
  have n2 : (sortI found).Nodup := pm.nodup_iff.mpr (p.nodup_iff.mpr nd |>.sublist (List.sublist_append_left _ _))
  refine ⟨List.Pairwise.imp₂ (fun {x y} h1 h2 => by omega) (sortI_sorted found) n2, fun x hx => p.mem_iff.mp (List.mem_append_left _ (pm.mem_iff.mp hx)), pm.length_eq⟩
theorem sort_run (found : Lot) : ((dSortI (.list (found.map .int))).map PyData.list).bind dTuple = some (eL (sortI found)) := by
  show ((((intsOf (found.map PyData.int)).map fun ns => (sortI ns).map PyData.int)).map PyData.list).bind dTuple = _
  rw [intsOf_map]
  rfl
/-! ### law_rule -/
/-- a drawn rule -/
structure RuleOf (rows : List Lot) (r : Rule) : Prop where
  fst : r.map Prod.fst = rows
  picks : ∀ p ∈ r, (∀ o ∈ p.2, o ∈ p.1) ∧ p.2.length ≤ 2
abbrev gr_row : Rho → Option Out := (oIf (fun ρ => ((do2 dGt (fun ρ => ((fun ρ => vAt ρ 4) ρ).bind dLen) (fun _ => some (.int 1))) ρ).bind asB) (oSeq (oSetX 0 5 (xCall 0 (xCons 0 (xPure 0 (fun ρ => vAt ρ 4)) (xCons 0 (xTwo 0 dAdd (xPure 0 (fun _ => some (.int 1))) (xCall 0 (xCons 0 (xPure 0 (fun ρ => vAt ρ 2)) (xNil 0)) F_law_take)) (xNil 0))) F_law_pick))
    (oApp 3 (fun ρ => (shortL (aCons (fun ρ => vAt ρ 4) (aCons (fun ρ => ((fun ρ => ((fun ρ => ((fun ρ => vAt ρ 5) ρ).bind dSortI) ρ).map .list) ρ).bind dTuple) aNil)) ρ).map .tuple))) oNext)
abbrev rhoR (zs : List D) (w most : Int) (r : Rule) (s4 s5 : Sl) : Rho := [.rf zs, .val (.int w), .val (.int most), .own (r.map (ePb false)), s4, s5]
theorem rule_turn {k : Nat} {zs : List D} (h : Tin k zs) (hk : k ≤ 800000) (w most : Int) (hm : 0 < most) (hm2 : most ≤ 2) (r : Rule) (L : Lot) (s5 : Sl) (hL : L.length ≤ 4) (nd : L.Nodup) (hr : r.length < 1000) :
    ∃ zs' s5' r', gr_row (rhoR zs w most r (.val (eL L)) s5) = some (.nx (rhoR zs' w most (r ++ r') (.val (eL L)) s5')) ∧ Tin (k + 1000) zs' ∧ RuleOf (if 1 < L.length then [L] else []) r' := by
  have t : (fun ρ => ((do2 dGt (fun ρ => ((fun ρ => vAt ρ 4) ρ).bind dLen) (fun _ => some (.int 1))) ρ).bind asB) (rhoR zs w most r (.val (eL L)) s5) = some (decide (1 < L.length)) := by
    show (dGt (.int (((L.map PyData.int).length : Nat) : Int)) (.int 1)).bind asB = _
    rw [List.length_map]
    show some (decide ((1 : Int) < (L.length : Int))) = _
    congr 1
    rw [decide_eq_decide]
    omega
  by_cases c : 1 < L.length
  · rw [decide_eq_true c] at t
    obtain ⟨i, zs1, e1, i0, i1, t1⟩ := m_take h (by omega) most hm (by omega)
    obtain ⟨zs2, found, pool, e2, t2, p2, l2⟩ := m_pick t1 (by omega) false L (1 + i) (by omega) (by omega) (by omega)
    obtain ⟨q1, q2, q3⟩ := picks_lot nd p2
    refine ⟨zs2, .val (.list (found.map .int)), [(L, sortI found)], ?_, t2.mono (by omega), ?_⟩
    · refine if_t t (seq_nx (ρ1 := rhoR zs2 w most r (.val (eL L)) (.val (.list (found.map .int)))) ?_ ?_)
      · have hx : xCall 0 (xCons 0 (xPure 0 (fun ρ => vAt ρ 4)) (xCons 0 (xTwo 0 dAdd (xPure 0 (fun _ => some (.int 1))) (xCall 0 (xCons 0 (xPure 0 (fun ρ => vAt ρ 2)) (xNil 0)) F_law_take)) (xNil 0))) F_law_pick (rhoR zs w most r (.val (eL L)) s5) = some (.list (found.map .int), zs2) :=
          xcall2_ (a := eL L) (y := zs) (b := .int (1 + i)) (z := zs1) (xpure_ rfl rfl) (xtake_ (zs := zs) 1 rfl rfl rfl e1) rfl e2
        show (Option.bind (some zs) fun _ => (xCall 0 (xCons 0 (xPure 0 (fun ρ => vAt ρ 4)) (xCons 0 (xTwo 0 dAdd (xPure 0 (fun _ => some (.int 1))) (xCall 0 (xCons 0 (xPure 0 (fun ρ => vAt ρ 2)) (xNil 0)) F_law_take)) (xNil 0))) F_law_pick (rhoR zs w most r (.val (eL L)) s5)).map _) = _
        rw [hx]
        rfl
      · have ht : (fun ρ => (shortL (aCons (fun ρ => vAt ρ 4) (aCons (fun ρ => ((fun ρ => ((fun ρ => ((fun ρ => vAt ρ 5) ρ).bind dSortI) ρ).map .list) ρ).bind dTuple) aNil)) ρ).map PyData.tuple) (rhoR zs2 w most r (.val (eL L)) (.val (.list (found.map .int)))) = some (ePb false (L, sortI found)) :=
          tup2_ (f := fun ρ => vAt ρ 4) (g := fun ρ => ((fun ρ => ((fun ρ => ((fun ρ => vAt ρ 5) ρ).bind dSortI) ρ).map .list) ρ).bind dTuple) rfl (sort_run found)
        unfold oApp
        rw [ht]
        show (if (r.map (ePb false)).length < sBig then _ else _) = _
        rw [if_pos (by rw [List.length_map]; exact big1000 hr)]
        unfold rhoR
        rw [List.map_append]
        rfl
    · rw [if_pos c]
      refine ⟨rfl, fun p hp => ?_⟩
      rw [List.mem_singleton.mp hp]
      refine ⟨q2, ?_⟩
      show (sortI found).length ≤ 2
      rw [q3]
      omega
  · rw [decide_eq_false c] at t
    refine ⟨zs, s5, [], ?_, h.mono (by omega), ?_⟩
    · rw [List.append_nil]
      exact if_f t rfl
    · rw [if_neg c]
      exact ⟨rfl, fun _ h => nomatch h⟩
theorem rule_loop (w most : Int) (hm : 0 < most) (hm2 : most ≤ 2) : ∀ (Ls : List Lot) (k : Nat) (zs : List D) (r : Rule) (s4 s5 : Sl), Tin k zs → k + 1000 * Ls.length ≤ 800000 → (∀ L ∈ Ls, L.length ≤ 4 ∧ L.Nodup) → r.length + Ls.length < 1000 →
    ∃ zs' s4' s5' r', forGo (hName 4) gr_row (Ls.map eL) (rhoR zs w most r s4 s5) = some (.nx (rhoR zs' w most (r ++ r') s4' s5')) ∧ Tin (k + 1000 * Ls.length) zs' ∧ RuleOf (Ls.filter fun L => decide (1 < L.length)) r'
  | [], k, zs, r, s4, s5, h, _, _, _ => ⟨zs, s4, s5, [], by rw [List.append_nil]; rfl, h, rfl, fun _ h => nomatch h⟩
  | L :: Ls, k, zs, r, s4, s5, h, hk, hL, hr => by
    rw [List.length_cons] at hk hr
    obtain ⟨zs1, s51, r1, e1, t1, o1⟩ := rule_turn h (by omega) w most hm hm2 r L s5 (hL L List.mem_cons_self).1 (hL L List.mem_cons_self).2 (by omega)
    have hl1 : r1.length ≤ 1 := by
      have := congrArg List.length o1.fst
      rw [List.length_map] at this
      rw [this]
      split <;> simp
    obtain ⟨zs', s4', s5', r', e2, t2, o2⟩ := rule_loop w most hm hm2 Ls (k + 1000) zs1 (r ++ r1) (.val (eL L)) s51 t1 (by omega) (fun M hM => hL M (List.mem_cons_of_mem _ hM)) (by rw [List.length_append]; omega)
    refine ⟨zs', s4', s5', r1 ++ r', ?_, ?_, ?_, ?_⟩
    · rw [List.map_cons, ← List.append_assoc]
      refine (forGo_cons (ρ' := rhoR zs1 w most (r ++ r1) (.val (eL L)) s51) ?_).trans e2
      exact e1
    · rw [List.length_cons, show k + 1000 * (Ls.length + 1) = k + 1000 + 1000 * Ls.length by omega]
      exact t2
    · rw [List.map_append, o1.fst, o2.fst, List.filter_cons]
      by_cases c : 1 < L.length
      · rw [if_pos c, if_pos (decide_eq_true c)]
        rfl
      · rw [if_neg c, if_neg (by simp [c])]
        rfl
    · intro p hp
      rcases List.mem_append.mp hp with z | z
      · exact o1.picks p z
      · exact o2.picks p z
theorem m_law_rule {w : Int} {U : Lot} {lots : List Lot} (hL : Wide w U lots) {k : Nat} {zs : List D} (h : Tin k zs) (hk : k ≤ 700000) (most : Int) (hm : 0 < most) (hm2 : most ≤ 2) :
    ∃ zs' r, F_law_rule zs [.int w, .int most] = some (eRb false r, zs') ∧ Tin (k + 20000) zs' ∧ RuleOf (lots.filter fun L => decide (1 < L.length)) r := by
  have h15 := hL.le15
  have hu := hL.u4
  obtain ⟨zs', s4', s5', r, e, t, o⟩ := rule_loop w most hm hm2 lots k zs [] .no .no h (by omega) (fun L hl => ⟨by have := (hL.lot L hl).len; omega, (hL.lot L hl).nd⟩) (by show 0 + lots.length < 1000; omega)
  refine ⟨zs', r, ?_, t.mono (by omega), o⟩
  rw [List.nil_append] at e
  refine runE_rt (ρ' := [.val (.int w), .val (.int most), .own (r.map (ePb false)), s4', s5']) rfl (by decide) (seq_nx (ρ1 := rhoR zs w most [] .no .no) rfl (seq_nx (for_ (ds := lots.map eL) ?_ e) (ret_ rfl)))
  show (F_law_lots [.int w]).bind dItems = _
  rw [hL.run]
  rfl
/-! ### a drawn rule is one over U -/
theorem wt_le {r : Rule} (h : ∀ p ∈ r, p.2.length ≤ 2) : wt r ≤ 2 * ((r.map Prod.fst).map List.length).sum := by
  induction r with
  | nil => exact Nat.le_refl _
  | cons p r ih =>
    have h1 := h p List.mem_cons_self
    have h2 := ih fun q hq => h q (List.mem_cons_of_mem _ hq)
    have e : wt (p :: r) = p.1.length * p.2.length + wt r := rfl
    have h3 := Nat.mul_le_mul_left p.1.length h1
    rw [e, List.map_cons, List.map_cons, List.sum_cons]
    omega
theorem rule_on {U : Lot} {rows : List Lot} {r : Rule} (o : RuleOf rows r) (m : Nat) (hU : U = (List.range (m + 1)).map fun (i : Nat) => (0 : Int) + (i : Int)) (hm : m < 1000) (hmx : maxI (0 :: rows.map fun L => L.getLastD 0) = (m : Int)) (h1 : rows.length < 1000) (h2 : ∀ L ∈ rows, L ≠ [] ∧ L.length < 1000) (h3 : 2 * (rows.map List.length).sum < 64) : RuleOn U r := by
  have hmem : ∀ p ∈ r, p.1 ∈ rows := fun p hp => by
    rw [← o.fst]
    exact List.mem_map.mpr ⟨p, hp, rfl⟩
  have hsm : Small r := ⟨by
    have := congrArg List.length o.fst
    rw [List.length_map] at this
    omega, fun p hp => ⟨(h2 p.1 (hmem p hp)).2, by have := (o.picks p hp).2; omega⟩⟩
  refine ⟨⟨hsm, ?_, fun p hp => (o.picks p hp).1⟩, fun b => ?_⟩
  · have := wt_le fun p hp => (o.picks p hp).2
    rw [o.fst] at this
    omega
  · rw [hU]
    refine m_all_areas b r hsm (fun p hp => (h2 p.1 (hmem p hp)).1) m ?_ hm
    have e : (r.map fun p => p.1.getLastD 0) = rows.map fun L => L.getLastD 0 := by
      rw [← o.fst, List.map_map]
      rfl
    rw [e]
    exact hmx
theorem rule3 {r : Rule} (o : RuleOf (lots3.filter fun L => decide (1 < L.length)) r) : RuleOn U3 r :=
  rule_on o 2 (by decide) (by decide) (by decide) (by decide) (by decide) (by decide)
theorem rule4 {r : Rule} (o : RuleOf (lots4.filter fun L => decide (1 < L.length)) r) : RuleOn U4 r :=
  rule_on o 3 (by decide) (by decide) (by decide) (by decide) (by decide) (by decide)
/-! ### law_course -/
abbrev gc_turn : Rho → Option Out := (oSeq (oSetX 0 5 (xCall 0 (xCons 0 (xPure 0 (fun ρ => ((fun ρ => ((fun ρ => vAt ρ 1) ρ).bind dRgT) ρ).map .list)) (xCons 0 (xTwo 0 dAdd (xPure 0 (fun _ => some (.int 1))) (xCall 0 (xCons 0 (xPure 0 (fun ρ => vAt ρ 1)) (xNil 0)) F_law_take)) (xNil 0))) F_law_pick))
    (oApp 3 (fun ρ => ((fun ρ => ((fun ρ => ((fun ρ => vAt ρ 5) ρ).bind dSortI) ρ).map .list) ρ).bind dTuple)))
abbrev rhoU (zs : List D) (w many : Int) (c : List Lot) (s4 s5 : Sl) : Rho := [.rf zs, .val (.int w), .val (.int many), .own (c.map eL), s4, s5]
theorem course_turn {w : Int} {U : Lot} {lots : List Lot} (hL : Wide w U lots) {k : Nat} {zs : List D} (h : Tin k zs) (hk : k ≤ 800000) (many : Int) (c : List Lot) (s4 s5 : Sl) (hw : 0 < w) (hc : c.length < 1000) :
    ∃ zs' s5' L, gc_turn (rhoU zs w many c s4 s5) = some (.nx (rhoU zs' w many (c ++ [L]) s4 s5')) ∧ Tin (k + 1000) zs' ∧ LotIn U L := by
  have hu := hL.u4
  have hwl := hL.wlen
  obtain ⟨i, zs1, e1, i0, i1, t1⟩ := m_take h (by omega) w hw (by omega)
  obtain ⟨zs2, found, pool, e2, t2, p2, l2⟩ := m_pick t1 (by omega) true U (1 + i) (by omega) (by omega) (by omega)
  obtain ⟨q1, q2, q3⟩ := picks_lot hL.unm p2
  refine ⟨zs2, .val (.list (found.map .int)), sortI found, ?_, t2.mono (by omega), fun e => ?_, q1, q2⟩
  · refine seq_nx (ρ1 := rhoU zs2 w many c s4 (.val (.list (found.map .int)))) ?_ ?_
    · have hr : (fun ρ => ((fun ρ => ((fun ρ => vAt ρ 1) ρ).bind dRgT) ρ).map PyData.list) (rhoU zs w many c s4 s5) = some (seqD true (U.map .int)) := by
        show ((dRgT (.int w)).map PyData.list) = _
        unfold dRgT
        dsimp only
        rw [if_pos (by omega), hL.rng]
        rfl
      have hx : xCall 0 (xCons 0 (xPure 0 (fun ρ => ((fun ρ => ((fun ρ => vAt ρ 1) ρ).bind dRgT) ρ).map .list)) (xCons 0 (xTwo 0 dAdd (xPure 0 (fun _ => some (.int 1))) (xCall 0 (xCons 0 (xPure 0 (fun ρ => vAt ρ 1)) (xNil 0)) F_law_take)) (xNil 0))) F_law_pick (rhoU zs w many c s4 s5) = some (.list (found.map .int), zs2) :=
        xcall2_ (a := seqD true (U.map .int)) (y := zs) (b := .int (1 + i)) (z := zs1) (xpure_ hr rfl) (xtake_ (zs := zs) 1 rfl rfl rfl e1) rfl e2
      show (Option.bind (some zs) fun _ => (xCall 0 (xCons 0 (xPure 0 (fun ρ => ((fun ρ => ((fun ρ => vAt ρ 1) ρ).bind dRgT) ρ).map .list)) (xCons 0 (xTwo 0 dAdd (xPure 0 (fun _ => some (.int 1))) (xCall 0 (xCons 0 (xPure 0 (fun ρ => vAt ρ 1)) (xNil 0)) F_law_take)) (xNil 0))) F_law_pick (rhoU zs w many c s4 s5)).map _) = _
      rw [hx]
      rfl
    · have ht : (fun ρ => ((fun ρ => ((fun ρ => ((fun ρ => vAt ρ 5) ρ).bind dSortI) ρ).map .list) ρ).bind dTuple) (rhoU zs2 w many c s4 (.val (.list (found.map .int)))) = some (eL (sortI found)) := sort_run found
      unfold oApp
      rw [ht]
      show (if (c.map eL).length < sBig then _ else _) = _
      rw [if_pos (by rw [List.length_map]; exact big1000 hc)]
      unfold rhoU
      rw [List.map_append]
      rfl
  · rw [e] at q3
    rw [← q3] at l2
    rw [List.length_nil] at l2
    omega
theorem course_loop {w : Int} {U : Lot} {lots : List Lot} (hL : Wide w U lots) (hw : 0 < w) (many : Int) : ∀ (ds : List D) (k : Nat) (zs : List D) (c : List Lot) (s4 s5 : Sl), Tin k zs → k + 1000 * ds.length ≤ 800000 → c.length + ds.length < 1000 →
    ∃ zs' s4' s5' c', forGo (hName 4) gc_turn ds (rhoU zs w many c s4 s5) = some (.nx (rhoU zs' w many (c ++ c') s4' s5')) ∧ Tin (k + 1000 * ds.length) zs' ∧ (∀ L ∈ c', LotIn U L) ∧ c'.length = ds.length
  | [], k, zs, c, s4, s5, h, _, _ => ⟨zs, s4, s5, [], by rw [List.append_nil]; rfl, h, (fun _ h => nomatch h), rfl⟩
  | d :: ds, k, zs, c, s4, s5, h, hk, hc => by
    rw [List.length_cons] at hk hc
    obtain ⟨zs1, s51, L, e1, t1, o1⟩ := course_turn hL h (by omega) many c (.val d) s5 hw (by omega)
    obtain ⟨zs', s4', s5', c', e2, t2, o2, l2⟩ := course_loop hL hw many ds (k + 1000) zs1 (c ++ [L]) (.val d) s51 t1 (by omega) (by rw [List.length_append, List.length_singleton]; omega)
    refine ⟨zs', s4', s5', L :: c', ?_, ?_, ?_, ?_⟩
    · rw [List.append_assoc] at e2
      refine (forGo_cons (ρ' := rhoU zs1 w many (c ++ [L]) (.val d) s51) ?_).trans e2
      exact e1
    · rw [List.length_cons, show k + 1000 * (ds.length + 1) = k + 1000 + 1000 * ds.length by omega]
      exact t2
    · intro M hM
      rcases List.mem_cons.mp hM with rfl | hM
      · exact o1
      · exact o2 M hM
    · rw [List.length_cons, List.length_cons, l2]
theorem m_law_course {w : Int} {U : Lot} {lots : List Lot} (hL : Wide w U lots) (hw : 0 < w) {k : Nat} {zs : List D} (h : Tin k zs) (hk : k ≤ 700000) (many : Int) (hm : 0 ≤ many) (hm2 : many ≤ 10) :
    ∃ zs' c, F_law_course zs [.int w, .int many] = some (eC c, zs') ∧ Tin (k + 10000) zs' ∧ (∀ L ∈ c, LotIn U L) ∧ (c.length : Int) = many := by
  have hrl : (rngD 0 many.toNat).length = many.toNat := rngD_len _ _
  obtain ⟨zs', s4', s5', c, e, t, o, l⟩ := course_loop hL hw many (rngD 0 many.toNat) k zs [] .no .no h (by omega) (by rw [hrl]; show 0 + many.toNat < 1000; omega)
  rw [hrl] at t l
  refine ⟨zs', c, ?_, t.mono (by omega), o, by omega⟩
  rw [List.nil_append] at e
  refine runE_rt (ρ' := [.val (.int w), .val (.int many), .own (c.map eL), s4', s5']) rfl (by decide) (seq_nx (ρ1 := rhoU zs w many [] .no .no) rfl (seq_nx (for_ (ds := rngD 0 many.toNat) ?_ e) (ret_ rfl)))
  show dRng1 [.int many] = _
  unfold dRng1
  dsimp only
  have hok : okR many = true := by
    unfold okR
    rw [Bool.and_eq_true, decide_eq_true_eq, decide_eq_true_eq]
    omega
  rw [if_pos hok]
/-! ### law_lists -/
theorem lists_int (n : Nat) (i : Int) : Fr_law_lists (n + 1) [.int i] = some (.int i) := runF_rt (ρ' := _) rfl (ret_ rfl)
theorem lists_seq {α : Type} (n : Nat) (b : Bool) (enc enc' : α → D) (xs : List α) (hl : xs.length < sBig) (H : ∀ x ∈ xs, Fr_law_lists n [enc x] = some (enc' x)) : Fr_law_lists (n + 1) [seqD b (xs.map enc)] = some (.list (xs.map enc')) := by
  have hc : compD (fun ρ => ((fun ρ => vAt ρ 0) ρ).bind dItems) (hName 1) (fun _ => some true) (fun ρ => ((aCons (fun ρ => vAt ρ 1) aNil) ρ).bind (Fr_law_lists n)) [1] (startR 1 2 [seqD b (xs.map enc)]) = some (xs.map enc') :=
    compD_all enc enc' xs (seq_items b _) hl fun x hx => ⟨_, rfl, H x hx⟩
  refine runF_rt (ρ' := _) rfl (ret_ ?_)
  show dIf _ _ _ (startR 1 2 [seqD b (xs.map enc)]) = _
  unfold dIf
  rw [show (fun ρ => ((fun ρ => ((fun ρ => vAt ρ 0) ρ).bind (isiD2 "list" "tuple")) ρ).bind asB) (startR 1 2 [seqD b (xs.map enc)]) = some true by cases b <;> rfl, Option.bind_some, if_pos rfl]
  dsimp only
  rw [hc]
  rfl
theorem lists_lot (n : Nat) (l : Lot) (hl : l.length < sBig) : Fr_law_lists (n + 2) [eLb false l] = some (eLb true l) := lists_seq (n + 1) false PyData.int PyData.int l hl fun x _ => lists_int n x
theorem m_lists_course (c : List Lot) (h1 : c.length < sBig) (h2 : ∀ L ∈ c, L.length < sBig) : F_law_lists [eC c] = some (eCb true c) := lists_seq 5 false (eLb false) (eLb true) c h1 fun L hL => lists_lot 3 L (h2 L hL)
theorem lists_pair (n : Nat) (p : Lot × Lot) (h1 : p.1.length < sBig) (h2 : p.2.length < sBig) : Fr_law_lists (n + 3) [ePb false p] = some (ePb true p) :=
  lists_seq (n + 2) false (eLb false) (eLb true) [p.1, p.2] (by show 2 < sBig; decide) fun x hx => by
    rcases List.mem_cons.mp hx with rfl | hx
    · exact lists_lot n _ h1
    · rw [List.mem_singleton.mp hx]
      exact lists_lot n _ h2
theorem lists_rule (n : Nat) (r : Rule) (h : Small r) : Fr_law_lists (n + 4) [eRb false r] = some (eRb true r) :=
  lists_seq (n + 3) false (ePb false) (ePb true) r (big1000 h.1) fun p hp => lists_pair n p (big1000 (h.2 p hp).1) (big1000 (h.2 p hp).2)
theorem m_lists_rules (rs : List Rule) (h : ∀ r ∈ rs, Small r) (hl : rs.length < sBig) : F_law_lists [eRsb false rs] = some (eRsb true rs) :=
  lists_seq 5 false (eRb false) (eRb true) rs hl fun r hr => lists_rule 1 r (h r hr)
end GY
set_option Elab.async false
set_option linter.all false
set_option maxRecDepth 100000
set_option maxHeartbeats 4000000
/-! Gmt: the stages of law_right (printed by genr.py). -/
namespace GY
open PySem PySem.Spec PyProof.Rows L2
abbrev r1 : Rho → Option Out := (oAsgX 0 (hTup2 1 2) (xTup (xCons 0 (xTwo 0 dAdd (xPure 0 (fun _ => some (.int 3))) (xCall 0 (xCons 0 (xPure 0 (fun _ => some (.int 2))) (xNil 0)) F_law_take)) (xCons 0 (xTwo 0 dAdd (xPure 0 (fun _ => some (.int 1))) (xCall 0 (xCons 0 (xPure 0 (fun _ => some (.int 3))) (xNil 0)) F_law_take)) (xNil 0)))))
abbrev r2 : Rho → Option Out := (oSet 3 (cV (fun ρ => (shortL aNil ρ).map .tuple)))
abbrev r3 : Rho → Option Out := (oForX 0 (xCons 0 (xTwo 0 dAdd (xPure 0 (fun _ => some (.int 1))) (xCall 0 (xCons 0 (xPure 0 (fun _ => some (.int 2))) (xNil 0)) F_law_take)) (xNil 0)) (hName 4) (oSetX 0 3 (xTwo 0 dAdd (xPure 0 (fun ρ => vAt ρ 3)) (xTup (xCons 0 (xCall 0 (xCons 0 (xPure 0 (fun ρ => vAt ρ 1)) (xCons 0 (xTwo 0 dAdd (xPure 0 (fun _ => some (.int 1))) (xMap dInt (xTwo 0 dEq (xCall 0 (xCons 0 (xPure 0 (fun _ => some (.int 4))) (xNil 0)) F_law_take) (xPure 0 (fun _ => some (.int 0)))))) (xNil 0))) F_law_rule) (xNil 0))))))
abbrev r4 : Rho → Option Out := (oSet 5 (cV (fun ρ => ((aCons (fun ρ => vAt ρ 3) (aCons (fun ρ => vAt ρ 1) aNil)) ρ).bind F_law_wanted)))
abbrev r5 : Rho → Option Out := (oAsg (hTup2 6 7) (fun ρ => (shortL (aCons (fun ρ => ((aCons (fun ρ => vAt ρ 1) (aCons (fun ρ => vAt ρ 5) (aCons (fun ρ => vAt ρ 2) aNil))) ρ).bind F_law_fewest) (aCons (fun ρ => ((aCons (fun _ => some (.int 0)) (aCons (fun ρ => ((aCons (fun ρ => vAt ρ 3) aNil) ρ).bind F_law_lists) (aCons (fun _ => some .none) (aCons (fun ρ => vAt ρ 2) aNil)))) ρ).bind F_law_asked) aNil)) ρ).map .tuple))
abbrev r6 : Rho → Option Out := (oIf (bNot (fun ρ => ((fun ρ => ((aCons (fun ρ => ((aCons (fun ρ => vAt ρ 3) aNil) ρ).bind F_demands) (aCons (fun ρ => ((fun ρ => vAt ρ 5) ρ).bind dTuple) aNil)) ρ).bind F_law_same) ρ).bind asB)) (oRet (fun _ => some (.bool false))) oNext)
abbrev r7 : Rho → Option Out := (oIf (fun ρ => ((do2 dIsN (fun ρ => vAt ρ 6) (fun _ => some .none)) ρ).bind asB) (oIf (fun ρ => ((do2 dNe (fun ρ => vAt ρ 7) (fun _ => some (.str "cannot"))) ρ).bind asB) (oRet (fun _ => some (.bool false))) oNext) (oIf (bOr (bNot (fun ρ => ((fun ρ => ((aCons (fun ρ => vAt ρ 7) (aCons (fun ρ => vAt ρ 1) (aCons (fun ρ => vAt ρ 2) aNil))) ρ).bind F_law_is_course) ρ).bind asB)) (fun ρ => ((do2 dNe (fun ρ => ((fun ρ => vAt ρ 7) ρ).bind dLen) (fun ρ => vAt ρ 6)) ρ).bind asB)) (oRet (fun _ => some (.bool false))) (oIf (fun ρ => ((do2 dNe (fun ρ => ((compD (fun ρ => ((fun ρ => vAt ρ 5) ρ).bind dItems) (hName 8) (bNot (fun ρ => ((fun ρ => ((aCons (fun ρ => vAt ρ 8) (aCons (fun ρ => vAt ρ 7) aNil)) ρ).bind F_law_lies) ρ).bind asB)) (fun ρ => vAt ρ 8) [8]) ρ).map .list) (fun ρ => ((shortL aNil) ρ).map .list)) ρ).bind asB) (oRet (fun _ => some (.bool false))) oNext)))
abbrev r8 : Rho → Option Out := (oSetXC 0 9 4 (fun ρ => ((aCons (fun _ => some (.int 2)) aNil) ρ).bind dRng1) [4] (xCall 0 (xCons 0 (xPure 0 (fun ρ => vAt ρ 1)) (xCons 0 (xTwo 0 dAdd (xPure 0 (fun _ => some (.int 1))) (xCall 0 (xCons 0 (xPure 0 (fun _ => some (.int 3))) (xNil 0)) F_law_take)) (xNil 0))) F_law_course))
abbrev r9 : Rho → Option Out := (oIf (fun ρ => ((do2 dNotN (fun ρ => vAt ρ 6) (fun _ => some .none)) ρ).bind asB) (oSet 9 (cV (fun ρ => ((do2L dCat (fun ρ => vAt ρ 9) (fun ρ => ((shortL (aCons (fun ρ => vAt ρ 7) (aCons (fun ρ => ((fun ρ => vAt ρ 7) ρ).bind dRev) (aCons (do2 dAdd (fun ρ => vAt ρ 7) (fun ρ => ((fun ρ => vAt ρ 7) ρ).bind (dSl none (some 1)))) (aCons (fun ρ => ((fun ρ => vAt ρ 7) ρ).bind (dSl (some 1) none)) (aCons (fun ρ => ((fun ρ => ((fun ρ => vAt ρ 7) ρ).bind dItems) ρ).map .list) aNil)))))) ρ).map .list)) ρ).map .list))) oNext)
abbrev r10 : Rho → Option Out := (oSet 10 (cO (shortL aNil)))
abbrev r11 : Rho → Option Out := (oFor (fun ρ => ((fun ρ => vAt ρ 9) ρ).bind dItems) (hName 8) (oSeq (oSet 11 (cV (dAndV (do2 dNotN (fun ρ => vAt ρ 6) (fun _ => some .none)) (dAndV (do2 dEq (fun ρ => ((fun ρ => vAt ρ 8) ρ).bind dLen) (fun ρ => vAt ρ 6)) (fun ρ => ((aCons (fun ρ => vAt ρ 8) (aCons (fun ρ => vAt ρ 1) (aCons (fun ρ => vAt ρ 2) aNil))) ρ).bind F_law_is_course))))) (oApp 10 (dAndV (fun ρ => vAt ρ 11) (do2 dEq (fun ρ => ((compD (fun ρ => ((fun ρ => vAt ρ 5) ρ).bind dItems) (hName 12) (bNot (fun ρ => ((fun ρ => ((aCons (fun ρ => vAt ρ 12) (aCons (fun ρ => vAt ρ 8) aNil)) ρ).bind F_law_lies) ρ).bind asB)) (fun ρ => vAt ρ 12) [12]) ρ).map .list) (fun ρ => ((shortL aNil) ρ).map .list))))))
abbrev r12 : Rho → Option Out := (fun ρ => (oIf (bNot (fun ρ => ((fun ρ => ((aCons (fun ρ => ((compD (fun ρ => ((fun ρ => vAt ρ 9) ρ).bind dItems) (hName 8) (fun _ => some true) (fun ρ => ((aCons (fun ρ => vAt ρ 3) (aCons (fun ρ => vAt ρ 2) (aCons (fun ρ => vAt ρ 8) aNil))) ρ).bind F_is_fewest_course) [8]) ρ).map .list) (aCons (fun ρ => vAt ρ 10) aNil)) ρ).bind F_law_same) ρ).bind asB)) (oRet (fun _ => some (.bool false))) oNext) (frz ρ 10))
abbrev r13 : Rho → Option Out := (oSetX 0 13 (xCall 0 (xCons 0 (xPure 0 (fun ρ => vAt ρ 1)) (xCons 0 (xPure 0 (fun _ => some (.int 1))) (xNil 0))) F_law_course))
abbrev r14 : Rho → Option Out := (oSet 14 (mkV (compD (fun ρ => ((fun ρ => ((aCons (fun ρ => ((fun ρ => vAt ρ 3) ρ).bind (dSl none (some 1))) (aCons (fun ρ => vAt ρ 1) aNil)) ρ).bind F_law_wanted) ρ).bind dItems) (hName 8) (bNot (fun ρ => ((fun ρ => ((aCons (fun ρ => vAt ρ 8) (aCons (fun ρ => vAt ρ 13) aNil)) ρ).bind F_law_lies) ρ).bind asB)) (fun ρ => vAt ρ 8) [8])))
abbrev r15 : Rho → Option Out := (oSet 6 (cV (fun ρ => ((aCons (fun ρ => vAt ρ 1) (aCons (fun ρ => vAt ρ 14) (aCons (fun ρ => vAt ρ 2) aNil))) ρ).bind F_law_fewest)))
abbrev r16 : Rho → Option Out := (oSet 15 (cO (shortL (aCons (fun ρ => ((aCons (fun _ => some (.int 1)) (aCons (do2 dIx (fun ρ => vAt ρ 3) (fun _ => some (.int 0))) (aCons (fun ρ => vAt ρ 13) (aCons (fun ρ => vAt ρ 2) aNil)))) ρ).bind F_law_asked) aNil))))
abbrev r17 : Rho → Option Out := (oApp 15 (fun ρ => ((aCons (fun _ => some (.int 1)) (aCons (do2 dIx (fun ρ => vAt ρ 3) (fun _ => some (.int 0))) (aCons (fun ρ => ((aCons (fun ρ => vAt ρ 13) aNil) ρ).bind F_law_lists) (aCons (fun ρ => vAt ρ 2) aNil)))) ρ).bind F_law_asked))
abbrev r18 : Rho → Option Out := (fun ρ => (oRet (fun ρ => ((aCons (fun ρ => vAt ρ 15) (aCons (fun ρ => ((do2L dRep (fun ρ => ((shortL (aCons (dIf (fun ρ => ((do2 dIsN (fun ρ => vAt ρ 6) (fun _ => some .none)) ρ).bind asB) (fun _ => some (.str "cannot")) (fun ρ => vAt ρ 6)) aNil)) ρ).map .list) (fun _ => some (.int 2))) ρ).map .list) aNil)) ρ).bind F_law_same)) (frz ρ 15))
theorem right_stages : g_law_right = (oSeq r1 (oSeq r2 (oSeq r3 (oSeq r4 (oSeq r5 (oSeq r6 (oSeq r7 (oSeq r8 (oSeq r9 (oSeq r10 (oSeq r11 (oSeq r12 (oSeq r13 (oSeq r14 (oSeq r15 (oSeq r16 (oSeq r17 r18))))))))))))))))) := rfl
end GY
set_option Elab.async false
set_option linter.all false
set_option maxRecDepth 100000
set_option maxHeartbeats 4000000
/-! Gmu: law_right, stages 1 to 7. -/
namespace GY
open PySem PySem.Spec PyProof.Rows L2
abbrev rG (zs : List D) (s1 s2 s3 s4 s5 s6 s7 s8 s9 s10 s11 s12 s13 s14 s15 : Sl) : Rho := [.rf zs, s1, s2, s3, s4, s5, s6, s7, s8, s9, s10, s11, s12, s13, s14, s15]
theorem xcons1_ {k : Nat} {A : Rho → Option (D × List D)} {ρ : Rho} {a : D} {y : List D} (h1 : A ρ = some (a, y)) (h2 : ownAt (putOwn ρ k y) k = some y) : xCons k A (xNil k) ρ = some ([a], y) := by
  unfold xCons xNil
  rw [h1, Option.bind_some]
  dsimp only
  rw [h2]
  rfl
theorem xtup1_ {k : Nat} {A : Rho → Option (D × List D)} {ρ : Rho} {a : D} {y : List D} (h1 : A ρ = some (a, y)) (h2 : ownAt (putOwn ρ k y) k = some y) : xTup (xCons k A (xNil k)) ρ = some (.tuple [a], y) := by
  unfold xTup xCons xNil
  rw [h1, Option.bind_some]
  dsimp only
  rw [h2]
  rfl
theorem xtup2_ {k : Nat} {A B : Rho → Option (D × List D)} {ρ : Rho} {a b : D} {y z : List D} (h1 : A ρ = some (a, y)) (h2 : B (putOwn ρ k y) = some (b, z)) (h3 : ownAt (putOwn (putOwn ρ k y) k z) k = some z) : xTup (xCons k A (xCons k B (xNil k))) ρ = some (.tuple [a, b], z) := by
  unfold xTup xCons xNil
  rw [h1, Option.bind_some]
  dsimp only
  rw [h2, Option.bind_some]
  dsimp only
  rw [h3]
  rfl
theorem xmap_ {h : D → Option D} {f : Rho → Option (D × List D)} {ρ : Rho} {a c : D} {y : List D} (h1 : f ρ = some (a, y)) (h2 : h a = some c) : xMap h f ρ = some (c, y) := by
  unfold xMap
  rw [h1, Option.bind_some]
  dsimp only
  rw [h2]
  rfl
theorem setX_ {k i : Nat} {f : Rho → Option (D × List D)} {ρ : Rho} {d : D} {es es' : List D} (ho : ownAt ρ k = some es) (h : f ρ = some (d, es')) : oSetX k i f ρ = some (.nx ((putOwn ρ k es').set i (.val d))) := by
  unfold oSetX
  rw [ho, Option.bind_some, h]
  rfl
/-! ### stage 1 -/
theorem st1 {k : Nat} {zs : List D} (h : Tin k zs) (hk : k ≤ 1000) : ∃ (i j : Int) (zs' : List D), r1 (rG zs .no .no .no .no .no .no .no .no .no .no .no .no .no .no .no) = some (.nx (rG zs' (.val (.int (3 + i))) (.val (.int (1 + j))) .no .no .no .no .no .no .no .no .no .no .no .no .no)) ∧ 0 ≤ i ∧ i < 2 ∧ 0 ≤ j ∧ j < 3 ∧ Tin (k + 2) zs' := by
  obtain ⟨i, zs1, e1, i0, i1, t1⟩ := m_take h (by omega) 2 (by omega) (by omega)
  obtain ⟨j, zs2, e2, j0, j1, t2⟩ := m_take t1 (by omega) 3 (by omega) (by omega)
  refine ⟨i, j, zs2, ?_, i0, i1, j0, j1, t2⟩
  have hx : xTup (xCons 0 (xTwo 0 dAdd (xPure 0 (fun _ => some (.int 3))) (xCall 0 (xCons 0 (xPure 0 (fun _ => some (.int 2))) (xNil 0)) F_law_take)) (xCons 0 (xTwo 0 dAdd (xPure 0 (fun _ => some (.int 1))) (xCall 0 (xCons 0 (xPure 0 (fun _ => some (.int 3))) (xNil 0)) F_law_take)) (xNil 0))) (rG zs .no .no .no .no .no .no .no .no .no .no .no .no .no .no .no) = some (.tuple [.int (3 + i), .int (1 + j)], zs2) :=
    xtup2_ (y := zs1) (xtake_ (zs := zs) 3 rfl rfl rfl e1) (xtake_ (zs := zs1) 1 rfl rfl rfl e2) rfl
  unfold r1 oAsgX
  rw [hx]
  rfl
/-! ### stage 3 -/
abbrev r3one : Rho → Option Out := (oSetX 0 3 (xTwo 0 dAdd (xPure 0 (fun ρ => vAt ρ 3)) (xTup (xCons 0 (xCall 0 (xCons 0 (xPure 0 (fun ρ => vAt ρ 1)) (xCons 0 (xTwo 0 dAdd (xPure 0 (fun _ => some (.int 1))) (xMap dInt (xTwo 0 dEq (xCall 0 (xCons 0 (xPure 0 (fun _ => some (.int 4))) (xNil 0)) F_law_take) (xPure 0 (fun _ => some (.int 0)))))) (xNil 0))) F_law_rule) (xNil 0)))))
abbrev r3x : Rho → Option (List D × List D) := (xCons 0 (xTwo 0 dAdd (xPure 0 (fun _ => some (.int 1))) (xCall 0 (xCons 0 (xPure 0 (fun _ => some (.int 2))) (xNil 0)) F_law_take)) (xNil 0))
theorem r3_eq : r3 = oForX 0 r3x (hName 4) r3one := rfl
theorem st3one {w : Int} {U : Lot} {lots : List Lot} (hL : Wide w U lots) {k : Nat} {zs : List D} (h : Tin k zs) (hk : k ≤ 600000) (m : D) (rs : List Rule) (s4 : Sl) (hrs : rs.length < 1000) :
    ∃ zs' r, r3one (rG zs (.val (.int w)) (.val m) (.val (eRsb false rs)) s4 .no .no .no .no .no .no .no .no .no .no .no) = some (.nx (rG zs' (.val (.int w)) (.val m) (.val (eRsb false (rs ++ [r]))) s4 .no .no .no .no .no .no .no .no .no .no .no)) ∧ Tin (k + 30000) zs' ∧ RuleOf (lots.filter fun L => decide (1 < L.length)) r := by
  obtain ⟨i, zs1, e1, i0, i1, t1⟩ := m_take h (by omega) 4 (by omega) (by omega)
  obtain ⟨c, hc⟩ : ∃ c : Int, c = if decide (i = 0) then 1 else 0 := ⟨_, rfl⟩
  have c0 : 0 ≤ c ∧ c ≤ 1 := by
    rw [hc]
    split <;> omega
  obtain ⟨zs2, r, e2, t2, o⟩ := m_law_rule hL t1 (by omega) (1 + c) (by omega) (by omega)
  refine ⟨zs2, r, ?_, t2.mono (by omega), o⟩
  have hb : (xTwo 0 dAdd (xPure 0 (fun _ => some (.int 1))) (xMap dInt (xTwo 0 dEq (xCall 0 (xCons 0 (xPure 0 (fun _ => some (.int 4))) (xNil 0)) F_law_take) (xPure 0 (fun _ => some (.int 0)))))) (rG zs (.val (.int w)) (.val m) (.val (eRsb false rs)) s4 .no .no .no .no .no .no .no .no .no .no .no) = some (.int (1 + c), zs1) := by
    refine xtwo_ (a := .int 1) (y := zs) (b := .int c) (xpure_ rfl rfl) ?_ rfl
    refine xmap_ (a := .bool (decide (i = 0))) ?_ (by rw [hc]; rfl)
    exact xtwo_ (a := .int i) (y := zs1) (b := .int 0) (xcall1_ (a := .int 4) (y := zs) (xpure_ rfl rfl) rfl e1) (xpure_ rfl rfl) (eq_int i 0)
  have hcall : (xCall 0 (xCons 0 (xPure 0 (fun ρ => vAt ρ 1)) (xCons 0 (xTwo 0 dAdd (xPure 0 (fun _ => some (.int 1))) (xMap dInt (xTwo 0 dEq (xCall 0 (xCons 0 (xPure 0 (fun _ => some (.int 4))) (xNil 0)) F_law_take) (xPure 0 (fun _ => some (.int 0)))))) (xNil 0))) F_law_rule) (rG zs (.val (.int w)) (.val m) (.val (eRsb false rs)) s4 .no .no .no .no .no .no .no .no .no .no .no) = some (eRb false r, zs2) :=
    xcall2_ (a := .int w) (y := zs) (b := .int (1 + c)) (z := zs1) (xpure_ rfl rfl) hb rfl e2
  refine setX_ (es := zs) (es' := zs2) (d := eRsb false (rs ++ [r])) rfl ?_
  refine xtwo_ (a := eRsb false rs) (y := zs) (b := .tuple [eRb false r]) (z := zs2) (xpure_ rfl rfl) (xtup1_ hcall rfl) ?_
  show (if (rs.map (eRb false)).length + 1 ≤ sBig then some (PyData.tuple (rs.map (eRb false) ++ [eRb false r])) else none) = _
  rw [if_pos (by rw [List.length_map]; exact Nat.le_trans (by omega : _ ≤ 1001) (by decide))]
  show _ = some (PyData.tuple ((rs ++ [r]).map (eRb false)))
  rw [List.map_append]
  rfl
theorem st3go {w : Int} {U : Lot} {lots : List Lot} (hL : Wide w U lots) (m : D) : ∀ (ds : List D) (k : Nat) (zs : List D) (rs : List Rule) (s4 : Sl), Tin k zs → k + 30000 * ds.length ≤ 600000 → rs.length + ds.length < 1000 →
    ∃ zs' rs' s4', forGo (hName 4) r3one ds (rG zs (.val (.int w)) (.val m) (.val (eRsb false rs)) s4 .no .no .no .no .no .no .no .no .no .no .no) = some (.nx (rG zs' (.val (.int w)) (.val m) (.val (eRsb false (rs ++ rs'))) s4' .no .no .no .no .no .no .no .no .no .no .no)) ∧ Tin (k + 30000 * ds.length) zs' ∧ (∀ r ∈ rs', RuleOf (lots.filter fun L => decide (1 < L.length)) r) ∧ rs'.length = ds.length
  | [], k, zs, rs, s4, h, _, _ => ⟨zs, [], s4, by rw [List.append_nil]; rfl, h, (fun _ h => nomatch h), rfl⟩
  | d :: ds, k, zs, rs, s4, h, hk, hl => by
    rw [List.length_cons] at hk hl
    obtain ⟨zs1, r, e1, t1, o1⟩ := st3one hL h (by omega) m rs (.val d) (by omega)
    obtain ⟨zs', rs', s4', e2, t2, o2, l2⟩ := st3go hL m ds (k + 30000) zs1 (rs ++ [r]) (.val d) t1 (by omega) (by rw [List.length_append, List.length_singleton]; omega)
    refine ⟨zs', r :: rs', s4', ?_, ?_, fun x hx => ?_, ?_⟩
    · rw [List.append_assoc] at e2
      refine (forGo_cons (ρ' := rG zs1 (.val (.int w)) (.val m) (.val (eRsb false (rs ++ [r]))) (.val d) .no .no .no .no .no .no .no .no .no .no .no) ?_).trans e2
      exact e1
    · rw [List.length_cons, show k + 30000 * (ds.length + 1) = k + 30000 + 30000 * ds.length by omega]
      exact t2
    · rcases List.mem_cons.mp hx with rfl | hx
      · exact o1
      · exact o2 x hx
    · rw [List.length_cons, List.length_cons, l2]
theorem st3 {w : Int} {U : Lot} {lots : List Lot} (hL : Wide w U lots) {k : Nat} {zs : List D} (h : Tin k zs) (hk : k ≤ 1000) (m : D) :
    ∃ zs' rs s4, r3 (rG zs (.val (.int w)) (.val m) (.val (eRsb false [])) .no .no .no .no .no .no .no .no .no .no .no .no) = some (.nx (rG zs' (.val (.int w)) (.val m) (.val (eRsb false rs)) s4 .no .no .no .no .no .no .no .no .no .no .no)) ∧ Tin 100000 zs' ∧ (∀ r ∈ rs, RuleOf (lots.filter fun L => decide (1 < L.length)) r) ∧ rs ≠ [] ∧ rs.length ≤ 2 := by
  obtain ⟨i, zs1, e1, i0, i1, t1⟩ := m_take h (by omega) 2 (by omega) (by omega)
  have hrl : (rngD 0 (1 + i).toNat).length = (1 + i).toNat := rngD_len _ _
  obtain ⟨zs', rs, s4, e, t, o, l⟩ := st3go hL m (rngD 0 (1 + i).toNat) (k + 1) zs1 [] .no t1 (by omega) (by rw [hrl]; show 0 + (1 + i).toNat < 1000; omega)
  rw [List.nil_append] at e
  rw [hrl] at t l
  refine ⟨zs', rs, s4, ?_, t.mono (by omega), o, fun z => ?_, by omega⟩
  · have hx : r3x (rG zs (.val (.int w)) (.val m) (.val (eRsb false [])) .no .no .no .no .no .no .no .no .no .no .no .no) = some ([.int (1 + i)], zs1) := by
      have := xtake_ (ρ := rG zs (.val (.int w)) (.val m) (.val (eRsb false [])) .no .no .no .no .no .no .no .no .no .no .no .no) (f := fun _ => some (.int 2)) (zs := zs) 1 rfl rfl rfl e1
      exact xcons1_ this rfl
    rw [r3_eq]
    unfold oForX
    rw [hx]
    show ((dRng1 [.int (1 + i)]).bind fun ds => forGo (hName 4) r3one ds _) = _
    have hok : okR (1 + i) = true := by
      unfold okR
      rw [Bool.and_eq_true, decide_eq_true_eq, decide_eq_true_eq]
      omega
    have hr : dRng1 [.int (1 + i)] = some (rngD 0 (1 + i).toNat) := if_pos hok
    rw [hr, Option.bind_some]
    exact e
  · rw [z, List.length_nil] at l
    omega
/-! ### wanted, fewest, asked -/
theorem m_wanted {b : Bool} {w : Int} {U : Lot} {lots : List Lot} (hL : Lots w U lots) {rs : List Rule} (hr : ∀ r ∈ rs, RuleOn U r) {C : Rule → List Lot} (h : Chains b U rs C) : F_law_wanted [eRsb false rs, .int w] = some (eCl (demL rs C)) := by
  obtain ⟨found, e, nd, hf, hm⟩ := m_law_wanted hL rs fun r hx => (hr r hx).toGoodR
  rw [dem_wanted hL h nd hf hm]
  exact e
theorem dem_same {b b' : Bool} {w : Int} {U : Lot} {lots : List Lot} (hL : Lots w U lots) {rs : List Rule} (hr : ∀ r ∈ rs, RuleOn U r) {C C' : Rule → List Lot} (h : Chains b U rs C) (h' : Chains b' U rs C') : demL rs C = demL rs C' := by
  obtain ⟨found, e, nd, hf, hm⟩ := m_law_wanted hL rs fun r hx => (hr r hx).toGoodR
  rw [dem_wanted hL h nd hf hm, dem_wanted hL h' nd hf hm]
theorem dem_ne {b : Bool} {U : Lot} {rs : List Rule} {C : Rule → List Lot} (h : Chains b U rs C) (hne : rs ≠ []) (hU : U ≠ []) : demL rs C ≠ [] := by
  obtain ⟨r, hr⟩ := List.exists_mem_of_ne_nil rs hne
  have hk := h.ok r hr
  have : C r ≠ [] := by
    intro e
    rw [e] at hk
    cases hk
    exact hU rfl
  obtain ⟨L, hLr⟩ := List.exists_mem_of_ne_nil _ this
  have hA : ∀ L ∈ allC rs C, LotIn U L := fun L hL => (allC_lot h L hL).1
  obtain ⟨M, hM, _⟩ := top hA (mem_isU.mpr (List.mem_flatMap.mpr ⟨r, hr, hLr⟩))
  exact List.ne_nil_of_mem hM
theorem st4 {b : Bool} {w : Int} {U : Lot} {lots : List Lot} (hL : Lots w U lots) {rs : List Rule} (hr : ∀ r ∈ rs, RuleOn U r) {C : Rule → List Lot} (h : Chains b U rs C) (zs : List D) (m : D) (s4 : Sl) :
    r4 (rG zs (.val (.int w)) (.val m) (.val (eRsb false rs)) s4 .no .no .no .no .no .no .no .no .no .no .no) = some (.nx (rG zs (.val (.int w)) (.val m) (.val (eRsb false rs)) s4 (.val (eCl (demL rs C))) .no .no .no .no .no .no .no .no .no .no)) := by
  refine set_ (s := .val (eCl (demL rs C))) ?_
  show (F_law_wanted [eRsb false rs, .int w]).map Sl.val = _
  rw [m_wanted hL hr h]
  rfl
def toldD (o : Option (List Lot)) : D := (o.map eC).getD (.str "cannot")
theorem st5 {w : Int} {U : Lot} {lots : List Lot} (hL : Wide w U lots) {rs : List Rule} (hr : ∀ r ∈ rs, RuleOn U r) (hne : rs ≠ []) (h2 : rs.length ≤ 2) {C : Rule → List Lot} (h : Chains false U rs C) (zs : List D) (most : Int) (s4 : Sl) :
    ∃ o1 o2, r5 (rG zs (.val (.int w)) (.val (.int most)) (.val (eRsb false rs)) s4 (.val (eCl (demL rs C))) .no .no .no .no .no .no .no .no .no .no) = some (.nx (rG zs (.val (.int w)) (.val (.int most)) (.val (eRsb false rs)) s4 (.val (eCl (demL rs C))) (.val (oN o1)) (.val (toldD o2)) .no .no .no .no .no .no .no .no)) ∧ Srch (goodsOf lots most) (demL rs C) o1 ∧ Srch (goodsOf lots most) (demL rs C) o2 := by
  have h4 := hL.u4
  obtain ⟨o1, e1, k1⟩ := m_law_search hL (demL rs C) most (dem_lot h) (Nat.le_trans (dem_len h h4 h2) (by decide))
  obtain ⟨C', h'⟩ := chains_of true h4 rs hr
  obtain ⟨o2, e2, k2⟩ := m_fewest_course hL true h' hr hne h2 most
  rw [← dem_same hL.toLots hr h h'] at k2
  refine ⟨o1, o2, ?_, k1, k2⟩
  have hask : F_law_asked [.int 0, eRsb true rs, .none, .int most] = some (toldD o2) := m_asked0 e2
  have hlists : F_law_lists [eRsb false rs] = some (eRsb true rs) := m_lists_rules rs (fun r hx => (hr r hx).small) (Nat.lt_of_le_of_lt h2 (by decide))
  have ht : (fun ρ => (shortL (aCons (fun ρ => ((aCons (fun ρ => vAt ρ 1) (aCons (fun ρ => vAt ρ 5) (aCons (fun ρ => vAt ρ 2) aNil))) ρ).bind F_law_fewest) (aCons (fun ρ => ((aCons (fun _ => some (.int 0)) (aCons (fun ρ => ((aCons (fun ρ => vAt ρ 3) aNil) ρ).bind F_law_lists) (aCons (fun _ => some .none) (aCons (fun ρ => vAt ρ 2) aNil)))) ρ).bind F_law_asked) aNil)) ρ).map PyData.tuple) (rG zs (.val (.int w)) (.val (.int most)) (.val (eRsb false rs)) s4 (.val (eCl (demL rs C))) .no .no .no .no .no .no .no .no .no .no) = some (.tuple [oN o1, toldD o2]) := by
    refine tup2_ e1 ?_
    show (Option.bind (Option.bind (some (PyData.int 0)) fun d => Option.bind (Option.bind (F_law_lists [eRsb false rs]) fun e => some [e, .none, .int most]) fun ds => some (d :: ds)) F_law_asked) = _
    rw [hlists]
    exact hask
  unfold r5 oAsg
  rw [ht]
  rfl
/-! ### stage 6: demands -/
theorem st6 {w : Int} {U : Lot} {lots : List Lot} (hL : Wide w U lots) {rs : List Rule} (h2 : rs.length ≤ 2) {C : Rule → List Lot} (h : Chains false U rs C) (zs : List D) (most : Int) (s4 s6 s7 : Sl) :
    r6 (rG zs (.val (.int w)) (.val (.int most)) (.val (eRsb false rs)) s4 (.val (eCl (demL rs C))) s6 s7 .no .no .no .no .no .no .no .no) = some (.nx (rG zs (.val (.int w)) (.val (.int most)) (.val (eRsb false rs)) s4 (.val (eCl (demL rs C))) s6 s7 .no .no .no .no .no .no .no .no)) := by
  have h4 := hL.u4
  refine if_f (not_ (a := true) ?_) rfl
  have ha : (aCons (fun ρ => ((aCons (fun ρ => vAt ρ 3) aNil) ρ).bind F_demands) (aCons (fun ρ => ((fun ρ => vAt ρ 5) ρ).bind dTuple) aNil)) (rG zs (.val (.int w)) (.val (.int most)) (.val (eRsb false rs)) s4 (.val (eCl (demL rs C))) s6 s7 .no .no .no .no .no .no .no .no) = some [eC (demL rs C), eC (demL rs C)] := by
    show (Option.bind (F_demands [eRsb false rs]) fun d => Option.bind (some [eC (demL rs C)]) fun ds => some (d :: ds)) = _
    rw [m_demands h h4 h2]
    rfl
  dsimp only
  rw [ha, Option.bind_some]
  have hd := dem_len h h4 h2
  have := same_course 3 (demL rs C) (demL rs C) (by omega) fun L hl => by
    have := (dem_lot h L hl).len
    omega
  rw [show F_law_same [eC (demL rs C), eC (demL rs C)] = some (.bool (decide (demL rs C = demL rs C))) from this, decide_eq_true rfl]
  rfl
/-! ### stage 7: what is told -/
theorem goods_lots {lots : List Lot} {most : Int} {L : Lot} (h : L ∈ goodsOf lots most) : L ∈ lots ∧ (L.length : Int) ≤ most := ⟨(List.mem_filter.mp h).1, of_decide_eq_true (List.mem_filter.mp h).2⟩
theorem best_short {lots W row : List Lot} {most : Int} (h : Best (goodsOf lots most) W row) : shortAll most row = true := List.all_eq_true.mpr fun L hL => decide_eq_true (goods_lots (h.1.1 L hL)).2
theorem best_ne {goods W row : List Lot} (h : Best goods W row) (hW : W ≠ []) : row ≠ [] := by
  intro e
  have := h.1.2
  rw [e, rest_nil] at this
  exact hW this
theorem st7 {w : Int} {U : Lot} {lots : List Lot} (hL : Wide w U lots) {W : List Lot} (hW : W ≠ []) (hWl : W.length ≤ 100) (hWin : ∀ L ∈ W, LotIn U L) {most : Int} {o1 o2 : Option (List Lot)} (k1 : Srch (goodsOf lots most) W o1) (k2 : Srch (goodsOf lots most) W o2) (zs : List D) (s3 s4 : Sl) :
    r7 (rG zs (.val (.int w)) (.val (.int most)) s3 s4 (.val (eCl W)) (.val (oN o1)) (.val (toldD o2)) .no .no .no .no .no .no .no .no) = some (.nx (rG zs (.val (.int w)) (.val (.int most)) s3 s4 (.val (eCl W)) (.val (oN o1)) (.val (toldD o2)) .no .no .no .no .no .no .no .no)) := by
  have hs := srch_same k1 k2 fun _ => Iff.rfl
  have h4 := hL.u4
  cases o1 with
  | none =>
    cases o2 with
    | some row => cases hs
    | none =>
      refine if_t rfl (if_f ?_ rfl)
      show (dNe (.str "cannot") (.str "cannot")).bind asB = _
      kernel_rfl
  | some a =>
    cases o2 with
    | none => cases hs
    | some row =>
      have hlen : a.length = row.length := by
        injection hs
      have hne := best_ne k2 hW
      have t1 : (bOr (bNot (fun ρ => ((fun ρ => ((aCons (fun ρ => vAt ρ 7) (aCons (fun ρ => vAt ρ 1) (aCons (fun ρ => vAt ρ 2) aNil))) ρ).bind F_law_is_course) ρ).bind asB)) (fun ρ => ((do2 dNe (fun ρ => ((fun ρ => vAt ρ 7) ρ).bind dLen) (fun ρ => vAt ρ 6)) ρ).bind asB)) (rG zs (.val (.int w)) (.val (.int most)) s3 s4 (.val (eCl W)) (.val (oN (some a))) (.val (toldD (some row))) .no .no .no .no .no .no .no .no) = some false := by
        refine or_ (a := false) (b := false) (not_ (a := true) ?_) ?_
        · show (F_law_is_course [seqD false (row.map eL), .int w, .int most]).bind asB = _
          rw [m_law_is_course hL.toLots false most row fun L hl => (goods_lots (k2.1.1 L hl)).1, decide_eq_false hne, best_short k2]
          rfl
        · show (dNe (.int (((row.map eL).length : Nat) : Int)) (.int (a.length : Int))).bind asB = _
          rw [List.length_map, len_ne, decide_eq_true hlen.symm]
          rfl
      have t2 : (fun ρ => ((do2 dNe (fun ρ => ((compD (fun ρ => ((fun ρ => vAt ρ 5) ρ).bind dItems) (hName 8) (bNot (fun ρ => ((fun ρ => ((aCons (fun ρ => vAt ρ 8) (aCons (fun ρ => vAt ρ 7) aNil)) ρ).bind F_law_lies) ρ).bind asB)) (fun ρ => vAt ρ 8) [8]) ρ).map .list) (fun ρ => ((shortL aNil) ρ).map .list)) ρ).bind asB) (rG zs (.val (.int w)) (.val (.int most)) s3 s4 (.val (eCl W)) (.val (oN (some a))) (.val (toldD (some row))) .no .no .no .no .no .no .no .no) = some false := by
        have hc : compD (fun ρ => ((fun ρ => vAt ρ 5) ρ).bind dItems) (hName 8) (bNot (fun ρ => ((fun ρ => ((aCons (fun ρ => vAt ρ 8) (aCons (fun ρ => vAt ρ 7) aNil)) ρ).bind F_law_lies) ρ).bind asB)) (fun ρ => vAt ρ 8) [8] (rG zs (.val (.int w)) (.val (.int most)) s3 s4 (.val (eCl W)) (.val (oN (some a))) (.val (toldD (some row))) .no .no .no .no .no .no .no .no) = some ((restOf W row).map eL) := by
          refine compD_map eL (fun own => !liesIn own row) eL W rfl (Nat.lt_of_le_of_lt hWl (by decide)) fun own ho => ⟨_, rfl, not_ ?_, fun _ => rfl⟩
          show (F_law_lies [eL own, seqD false (row.map eL)]).bind asB = _
          have := (hWin own ho).len
          rw [m_law_lies false own row (by omega)]
          rfl
        have := lstNe_ (n := 1) (restOf W row) hc (fun x _ => pl_lot false x) (by decide)
        rw [decide_eq_true k2.1.2] at this
        exact this
      exact if_f rfl (if_f t1 (if_f t2 rfl))
end GY
set_option Elab.async false
set_option linter.all false
set_option maxRecDepth 100000
set_option maxHeartbeats 4000000
/-! Gmv: law_right, stages 8 to 12. -/
namespace GY
open PySem PySem.Spec PyProof.Rows L2
/-- a thing that is judged: a list or a tuple of lots -/
abbrev Thing := Bool × List Lot
def eT (p : Thing) : D := seqD p.1 (p.2.map eL)
def TOk (lots : List Lot) (p : Thing) : Prop := p.2.length < 1000 ∧ ∀ L ∈ p.2, L ∈ lots
theorem acons_ {f : Rho → Option D} {g : Rho → Option (List D)} {ρ : Rho} {d : D} {ds : List D} (h : f ρ = some d) (k : g ρ = some ds) : aCons f g ρ = some (d :: ds) := by
  unfold aCons
  rw [h, Option.bind_some, k]
  rfl
/-! ### stage 8: two courses -/
abbrev r8el : Rho → Option (D × List D) := (xCall 0 (xCons 0 (xPure 0 (fun ρ => vAt ρ 1)) (xCons 0 (xTwo 0 dAdd (xPure 0 (fun _ => some (.int 1))) (xCall 0 (xCons 0 (xPure 0 (fun _ => some (.int 3))) (xNil 0)) F_law_take)) (xNil 0))) F_law_course)
theorem r8_eq : r8 = oSetXC 0 9 4 (fun ρ => ((aCons (fun _ => some (.int 2)) aNil) ρ).bind dRng1) [4] r8el := rfl
theorem st8one {w : Int} {U : Lot} {lots : List Lot} (hL : Wide w U lots) (hw : 0 < w) {k : Nat} {zs : List D} (h : Tin k zs) (hk : k ≤ 600000) (s2 s3 s4 s5 s6 s7 s8 s9 s10 s11 s12 s13 s14 s15 : Sl) :
    ∃ zs' c, r8el (rG zs (.val (.int w)) s2 s3 s4 s5 s6 s7 s8 s9 s10 s11 s12 s13 s14 s15) = some (eT (false, c), zs') ∧ Tin (k + 20000) zs' ∧ TOk lots (false, c) := by
  obtain ⟨i, zs1, e1, i0, i1, t1⟩ := m_take h (by omega) 3 (by omega) (by omega)
  obtain ⟨zs2, c, e2, t2, o2, l2⟩ := m_law_course hL hw t1 (by omega) (1 + i) (by omega) (by omega)
  refine ⟨zs2, c, ?_, t2.mono (by omega), ?_, fun L hl => hL.all L (o2 L hl)⟩
  · exact xcall2_ (a := .int w) (y := zs) (b := .int (1 + i)) (z := zs1) (xpure_ rfl rfl) (xtake_ (zs := zs) 1 rfl rfl rfl e1) rfl e2
  · show c.length < 1000
    omega
theorem st8 {w : Int} {U : Lot} {lots : List Lot} (hL : Wide w U lots) (hw : 0 < w) {k : Nat} {zs : List D} (h : Tin k zs) (hk : k ≤ 200000) (s2 s3 s4 s5 s6 s7 : Sl) :
    ∃ zs' p q, r8 (rG zs (.val (.int w)) s2 s3 s4 s5 s6 s7 .no .no .no .no .no .no .no .no) = some (.nx (rG zs' (.val (.int w)) s2 s3 s4 s5 s6 s7 .no (.val (.list ([p, q].map eT))) .no .no .no .no .no .no)) ∧ Tin (k + 40000) zs' ∧ TOk lots p ∧ TOk lots q := by
  obtain ⟨zs1, c1, e1, t1, o1⟩ := st8one hL hw h (by omega) s2 s3 (.val (.int 0)) s5 s6 s7 .no .no .no .no .no .no .no .no
  obtain ⟨zs2, c2, e2, t2, o2⟩ := st8one hL hw t1 (by omega) s2 s3 (.val (.int 1)) s5 s6 s7 .no .no .no .no .no .no .no .no
  refine ⟨zs2, (false, c1), (false, c2), ?_, t2.mono (by omega), o1, o2⟩
  have hg : xGo 0 4 (rG zs (.val (.int w)) s2 s3 s4 s5 s6 s7 .no .no .no .no .no .no .no .no) [4] r8el [.int 0, .int 1] zs = some ([eT (false, c1), eT (false, c2)], zs2) := by
    show ((r8el (rG zs (.val (.int w)) s2 s3 (.val (.int 0)) s5 s6 s7 .no .no .no .no .no .no .no .no)).bind fun ze => (xGo 0 4 (rG zs (.val (.int w)) s2 s3 s4 s5 s6 s7 .no .no .no .no .no .no .no .no) [4] r8el [.int 1] ze.2).map fun w => (ze.1 :: w.1, w.2)) = _
    rw [e1, Option.bind_some]
    show (((r8el (rG zs1 (.val (.int w)) s2 s3 (.val (.int 1)) s5 s6 s7 .no .no .no .no .no .no .no .no)).bind fun ze => (xGo 0 4 (rG zs (.val (.int w)) s2 s3 s4 s5 s6 s7 .no .no .no .no .no .no .no .no) [4] r8el [] ze.2).map fun w => (ze.1 :: w.1, w.2)).map fun w => (eT (false, c1) :: w.1, w.2)) = _
    rw [e2, Option.bind_some]
    rfl
  have hr : (fun ρ => ((aCons (fun _ => some (.int 2)) aNil) ρ).bind dRng1) (rG zs (.val (.int w)) s2 s3 s4 s5 s6 s7 .no .no .no .no .no .no .no .no) = some [.int 0, .int 1] := by
    show dRng1 [.int 2] = _
    kernel_rfl
  rw [r8_eq]
  unfold oSetXC
  rw [hr]
  show (if (2 : Nat) < sBig then (xGo 0 4 (rG zs (.val (.int w)) s2 s3 s4 s5 s6 s7 .no .no .no .no .no .no .no .no) [4] r8el [.int 0, .int 1] zs).map _ else none) = _
  rw [if_pos (by decide), hg]
  rfl
/-! ### stage 9: what is told, and things near it -/
theorem cut_map {α β : Type} (f : α → β) (xs : List α) (lo hi : Option Int) : cutD (xs.map f) lo hi = (cutD xs lo hi).map f := by
  unfold cutD
  rw [List.length_map, List.map_take, List.map_drop]
theorem cut_mem {α : Type} {xs : List α} {lo hi : Option Int} {x : α} (h : x ∈ cutD xs lo hi) : x ∈ xs := by
  unfold cutD at h
  exact List.mem_of_mem_drop (List.mem_of_mem_take h)
theorem cut_len {α : Type} (xs : List α) (lo hi : Option Int) : (cutD xs lo hi).length ≤ xs.length := by
  unfold cutD
  rw [List.length_take, List.length_drop]
  omega
def nearOf (row : List Lot) : List Thing := [(false, row), (false, row.reverse), (false, row ++ cutD row none (some 1)), (false, cutD row (some 1) none), (true, row)]
def thingsOf (p q : Thing) : Option (List Lot) → List Thing
  | some row => [p, q] ++ nearOf row
  | none => [p, q]
abbrev r9list : Rho → Option (List D) := shortL (aCons (fun ρ => vAt ρ 7) (aCons (fun ρ => ((fun ρ => vAt ρ 7) ρ).bind dRev) (aCons (do2 dAdd (fun ρ => vAt ρ 7) (fun ρ => ((fun ρ => vAt ρ 7) ρ).bind (dSl none (some 1)))) (aCons (fun ρ => ((fun ρ => vAt ρ 7) ρ).bind (dSl (some 1) none)) (aCons (fun ρ => ((fun ρ => ((fun ρ => vAt ρ 7) ρ).bind dItems) ρ).map .list) aNil)))))
theorem near_run {zs : List D} {s1 s2 s3 s4 s5 s6 s8 s9 s10 s11 s12 s13 s14 s15 : Sl} (row : List Lot) (hl : row.length < 400) : r9list (rG zs s1 s2 s3 s4 s5 s6 (.val (eC row)) s8 s9 s10 s11 s12 s13 s14 s15) = some ((nearOf row).map eT) := by
  have e3 : (do2 dAdd (fun ρ => vAt ρ 7) (fun ρ => ((fun ρ => vAt ρ 7) ρ).bind (dSl none (some 1)))) (rG zs s1 s2 s3 s4 s5 s6 (.val (eC row)) s8 s9 s10 s11 s12 s13 s14 s15) = some (eT (false, row ++ cutD row none (some 1))) := by
    refine two_ (d := eC row) (e := eC (cutD row none (some 1))) rfl ?_ ?_
    · show some (PyData.tuple (cutD (row.map eL) none (some 1))) = _
      rw [cut_map]
    · show (if (row.map eL).length + ((cutD row none (some 1)).map eL).length ≤ sBig then some (PyData.tuple (row.map eL ++ (cutD row none (some 1)).map eL)) else none) = _
      have := cut_len row none (some 1)
      rw [if_pos (by rw [List.length_map, List.length_map]; exact Nat.le_trans (by omega : _ ≤ 1000) (by decide)), ← List.map_append]
      rfl
  have e4 : (fun ρ => ((fun ρ => vAt ρ 7) ρ).bind (dSl (some 1) none)) (rG zs s1 s2 s3 s4 s5 s6 (.val (eC row)) s8 s9 s10 s11 s12 s13 s14 s15) = some (eT (false, cutD row (some 1) none)) := by
    show some (PyData.tuple (cutD (row.map eL) (some 1) none)) = _
    rw [cut_map]
    rfl
  have e2 : (fun ρ => ((fun ρ => vAt ρ 7) ρ).bind dRev) (rG zs s1 s2 s3 s4 s5 s6 (.val (eC row)) s8 s9 s10 s11 s12 s13 s14 s15) = some (eT (false, row.reverse)) := by
    show some (PyData.tuple (row.map eL).reverse) = _
    rw [← List.map_reverse]
    rfl
  have ha : (aCons (fun ρ => vAt ρ 7) (aCons (fun ρ => ((fun ρ => vAt ρ 7) ρ).bind dRev) (aCons (do2 dAdd (fun ρ => vAt ρ 7) (fun ρ => ((fun ρ => vAt ρ 7) ρ).bind (dSl none (some 1)))) (aCons (fun ρ => ((fun ρ => vAt ρ 7) ρ).bind (dSl (some 1) none)) (aCons (fun ρ => ((fun ρ => ((fun ρ => vAt ρ 7) ρ).bind dItems) ρ).map .list) aNil))))) (rG zs s1 s2 s3 s4 s5 s6 (.val (eC row)) s8 s9 s10 s11 s12 s13 s14 s15) = some ((nearOf row).map eT) := by
    exact acons_ (d := eC row) rfl (acons_ e2 (acons_ e3 (acons_ e4 (acons_ (d := eT (true, row)) rfl rfl))))
  unfold r9list shortL
  rw [ha]
  rfl
theorem st9 {lots W : List Lot} {most : Int} {o1 o2 : Option (List Lot)} (k1 : Srch (goodsOf lots most) W o1) (k2 : Srch (goodsOf lots most) W o2) (p q : Thing) (hp : TOk lots p) (hq : TOk lots q) (hl : ∀ row, o2 = some row → row.length < 400) (zs : List D) (s1 s2 s3 s4 s5 : Sl) :
    r9 (rG zs s1 s2 s3 s4 s5 (.val (oN o1)) (.val (toldD o2)) .no (.val (.list ([p, q].map eT))) .no .no .no .no .no .no) = some (.nx (rG zs s1 s2 s3 s4 s5 (.val (oN o1)) (.val (toldD o2)) .no (.val (.list ((thingsOf p q o2).map eT))) .no .no .no .no .no .no)) ∧ (∀ t ∈ thingsOf p q o2, TOk lots t) ∧ (thingsOf p q o2).length < 1000 := by
  have hs := srch_same k1 k2 fun _ => Iff.rfl
  cases o1 with
  | none =>
    cases o2 with
    | some row => cases hs
    | none =>
      refine ⟨if_f rfl rfl, fun t ht => ?_, by show 2 < 1000; decide⟩
      rcases List.mem_cons.mp ht with rfl | ht
      · exact hp
      · rw [List.mem_singleton.mp ht]
        exact hq
  | some a =>
    cases o2 with
    | none => cases hs
    | some row =>
      have hrl := hl row rfl
      have hin : ∀ L ∈ row, L ∈ lots := fun L h => (goods_lots (k2.1.1 L h)).1
      refine ⟨if_t rfl (set_ (s := .val (.list ((thingsOf p q (some row)).map eT))) ?_), fun t ht => ?_, by show 7 < 1000; decide⟩
      · have hc := cat_ (f := fun ρ => vAt ρ 9) (g := fun ρ => (r9list ρ).map .list) (ρ := rG zs s1 s2 s3 s4 s5 (.val (oN (some a))) (.val (toldD (some row))) .no (.val (.list ([p, q].map eT))) .no .no .no .no .no .no) (as := [p, q].map eT) (bs := (nearOf row).map eT) rfl (congrArg (Option.map PyData.list) (near_run row hrl)) (by show 7 ≤ sBig; decide)
        exact congrArg (Option.map Sl.val) hc
      · have hc1 := cut_len row none (some 1)
        have hc2 := cut_len row (some 1) none
        rcases List.mem_append.mp ht with ht | ht
        · rcases List.mem_cons.mp ht with rfl | ht
          · exact hp
          · rw [List.mem_singleton.mp ht]
            exact hq
        · unfold nearOf at ht
          simp only [List.mem_cons, List.not_mem_nil, or_false] at ht
          rcases ht with rfl | rfl | rfl | rfl | rfl
          · exact ⟨by dsimp only; omega, hin⟩
          · exact ⟨by dsimp only; rw [List.length_reverse]; omega, fun L h => hin L (List.mem_reverse.mp h)⟩
          · refine ⟨by dsimp only; rw [List.length_append]; omega, fun L h => ?_⟩
            rcases List.mem_append.mp h with z | z
            · exact hin L z
            · exact hin L (cut_mem z)
          · exact ⟨by dsimp only; omega, fun L h => hin L (cut_mem h)⟩
          · exact ⟨by dsimp only; omega, hin⟩
/-! ### stage 11: which things are good -/
abbrev r11a : Rho → Option Out := (oSet 11 (cV (dAndV (do2 dNotN (fun ρ => vAt ρ 6) (fun _ => some .none)) (dAndV (do2 dEq (fun ρ => ((fun ρ => vAt ρ 8) ρ).bind dLen) (fun ρ => vAt ρ 6)) (fun ρ => ((aCons (fun ρ => vAt ρ 8) (aCons (fun ρ => vAt ρ 1) (aCons (fun ρ => vAt ρ 2) aNil))) ρ).bind F_law_is_course)))))
abbrev r11b : Rho → Option Out := (oApp 10 (dAndV (fun ρ => vAt ρ 11) (do2 dEq (fun ρ => ((compD (fun ρ => ((fun ρ => vAt ρ 5) ρ).bind dItems) (hName 12) (bNot (fun ρ => ((fun ρ => ((aCons (fun ρ => vAt ρ 12) (aCons (fun ρ => vAt ρ 8) aNil)) ρ).bind F_law_lies) ρ).bind asB)) (fun ρ => vAt ρ 12) [12]) ρ).map .list) (fun ρ => ((shortL aNil) ρ).map .list))))
theorem r11_eq : r11 = oFor (fun ρ => ((fun ρ => vAt ρ 9) ρ).bind dItems) (hName 8) (oSeq r11a r11b) := rfl
theorem len_eT (p : Thing) : dLen (eT p) = some (.int (p.2.length : Int)) := by
  obtain ⟨b, c⟩ := p
  cases b
  · show some (PyData.int (((c.map eL).length : Nat) : Int)) = _
    rw [List.length_map]
  · show some (PyData.int (((c.map eL).length : Nat) : Int)) = _
    rw [List.length_map]
def goodA (most : Int) (p : Thing) : Option (List Lot) → Bool
  | some row => decide (p.2.length = row.length) && (!p.1 && !decide (p.2 = []) && shortAll most p.2)
  | none => false
theorem good_best {goods W : List Lot} {most : Int} {o1 o : Option (List Lot)} (h : o1.map List.length = o.map List.length) (p : Thing) : (goodA most p o1 && decide (restOf W p.2 = [])) = isBest p.1 most W p.2 o := by
  cases o1 with
  | none =>
    cases o with
    | none => rfl
    | some _ => cases h
  | some a =>
    cases o with
    | none => cases h
    | some row =>
      have hl : a.length = row.length := by
        injection h
      unfold goodA isBest
      dsimp only
      rw [hl]
      cases !p.1 && !decide (p.2 = []) <;> cases decide (p.2.length = row.length) <;> cases shortAll most p.2 <;> rfl
abbrev rho11 (zs : List D) (w most : Int) (s3 s4 : Sl) (W : List Lot) (o1 : Option (List Lot)) (s7 s9 : Sl) (gs : List Bool) (j : Sl × Sl × Sl) : Rho := rG zs (.val (.int w)) (.val (.int most)) s3 s4 (.val (eCl W)) (.val (oN o1)) s7 j.1 s9 (.own (gs.map PyData.bool)) j.2.1 j.2.2 .no .no .no
theorem st11one {w : Int} {U : Lot} {lots : List Lot} (hL : Lots w U lots) {W : List Lot} (hWl : W.length ≤ 100) (hWin : ∀ L ∈ W, LotIn U L) (zs : List D) (most : Int) (s3 s4 s7 s9 : Sl) (o1 : Option (List Lot)) (p : Thing) (hp : TOk lots p) (gs : List Bool) (hg : gs.length < 1000) (j : Sl × Sl) :
    ∃ j' : Sl × Sl, oSeq r11a r11b (rho11 zs w most s3 s4 W o1 s7 s9 gs (.val (eT p), j.1, j.2)) = some (.nx (rho11 zs w most s3 s4 W o1 s7 s9 (gs ++ [goodA most p o1 && decide (restOf W p.2 = [])]) (.val (eT p), j'.1, j'.2))) := by
  have h4 := hL.u4
  refine ⟨(.val (.bool (goodA most p o1)), j.2), seq_nx (ρ1 := rho11 zs w most s3 s4 W o1 s7 s9 gs (.val (eT p), .val (.bool (goodA most p o1)), j.2)) ?_ ?_⟩
  · refine set_ (s := .val (.bool (goodA most p o1))) ?_
    have e : dAndV (do2 dNotN (fun ρ => vAt ρ 6) (fun _ => some .none)) (dAndV (do2 dEq (fun ρ => ((fun ρ => vAt ρ 8) ρ).bind dLen) (fun ρ => vAt ρ 6)) (fun ρ => ((aCons (fun ρ => vAt ρ 8) (aCons (fun ρ => vAt ρ 1) (aCons (fun ρ => vAt ρ 2) aNil))) ρ).bind F_law_is_course)) (rho11 zs w most s3 s4 W o1 s7 s9 gs (.val (eT p), j.1, j.2)) = some (.bool (goodA most p o1)) := by
      cases o1 with
      | none => exact andV_f rfl
      | some a =>
        refine andV_t rfl ?_
        have t1 : (do2 dEq (fun ρ => ((fun ρ => vAt ρ 8) ρ).bind dLen) (fun ρ => vAt ρ 6)) (rho11 zs w most s3 s4 W (some a) s7 s9 gs (.val (eT p), j.1, j.2)) = some (.bool (decide (p.2.length = a.length))) := by
          refine two_ (d := .int (p.2.length : Int)) (e := .int (a.length : Int)) (len_eT p) rfl ?_
          rw [eq_int]
          congr 2
          rw [decide_eq_decide]
          omega
        have t2 : (fun ρ => ((aCons (fun ρ => vAt ρ 8) (aCons (fun ρ => vAt ρ 1) (aCons (fun ρ => vAt ρ 2) aNil))) ρ).bind F_law_is_course) (rho11 zs w most s3 s4 W (some a) s7 s9 gs (.val (eT p), j.1, j.2)) = some (.bool (!p.1 && !decide (p.2 = []) && shortAll most p.2)) := m_law_is_course hL p.1 most p.2 hp.2
        unfold goodA
        dsimp only
        cases c : decide (p.2.length = a.length) with
        | false =>
          rw [c] at t1
          exact andV_f t1
        | true =>
          rw [c] at t1
          exact andV_t t1 t2
    exact congrArg (Option.map Sl.val) e
  · have hc : compD (fun ρ => ((fun ρ => vAt ρ 5) ρ).bind dItems) (hName 12) (bNot (fun ρ => ((fun ρ => ((aCons (fun ρ => vAt ρ 12) (aCons (fun ρ => vAt ρ 8) aNil)) ρ).bind F_law_lies) ρ).bind asB)) (fun ρ => vAt ρ 12) [12] (rho11 zs w most s3 s4 W o1 s7 s9 gs (.val (eT p), .val (.bool (goodA most p o1)), j.2)) = some ((restOf W p.2).map eL) := by
      refine compD_map eL (fun own => !liesIn own p.2) eL W rfl (Nat.lt_of_le_of_lt hWl (by decide)) fun own ho => ⟨_, rfl, not_ ?_, fun _ => rfl⟩
      show (F_law_lies [eL own, seqD p.1 (p.2.map eL)]).bind asB = _
      have := (hWin own ho).len
      rw [m_law_lies p.1 own p.2 (by omega)]
      rfl
    have t : (do2 dEq (fun ρ => ((compD (fun ρ => ((fun ρ => vAt ρ 5) ρ).bind dItems) (hName 12) (bNot (fun ρ => ((fun ρ => ((aCons (fun ρ => vAt ρ 12) (aCons (fun ρ => vAt ρ 8) aNil)) ρ).bind F_law_lies) ρ).bind asB)) (fun ρ => vAt ρ 12) [12]) ρ).map .list) (fun ρ => ((shortL aNil) ρ).map .list)) (rho11 zs w most s3 s4 W o1 s7 s9 gs (.val (eT p), .val (.bool (goodA most p o1)), j.2)) = some (.bool (decide (restOf W p.2 = []))) := by
      refine two_ (d := .list ((restOf W p.2).map eL)) (e := .list []) (by dsimp only; rw [hc]; rfl) rfl ?_
      exact eq_lst (n := 1) (restOf W p.2) (fun x _ => pl_lot false x) (by decide)
    have ht : dAndV (fun ρ => vAt ρ 11) (do2 dEq (fun ρ => ((compD (fun ρ => ((fun ρ => vAt ρ 5) ρ).bind dItems) (hName 12) (bNot (fun ρ => ((fun ρ => ((aCons (fun ρ => vAt ρ 12) (aCons (fun ρ => vAt ρ 8) aNil)) ρ).bind F_law_lies) ρ).bind asB)) (fun ρ => vAt ρ 12) [12]) ρ).map .list) (fun ρ => ((shortL aNil) ρ).map .list)) (rho11 zs w most s3 s4 W o1 s7 s9 gs (.val (eT p), .val (.bool (goodA most p o1)), j.2)) = some (.bool (goodA most p o1 && decide (restOf W p.2 = []))) := by
      cases c : goodA most p o1 with
      | false => exact andV_f rfl
      | true =>
        rw [c] at t
        exact andV_t rfl t
    unfold r11b oApp
    rw [ht]
    show (if (gs.map PyData.bool).length < sBig then _ else _) = _
    rw [if_pos (by rw [List.length_map]; exact big1000 hg)]
    unfold rho11 rG
    rw [List.map_append]
    rfl
theorem st11go {w : Int} {U : Lot} {lots : List Lot} (hL : Lots w U lots) {W : List Lot} (hWl : W.length ≤ 100) (hWin : ∀ L ∈ W, LotIn U L) (zs : List D) (most : Int) (s3 s4 s7 s9 : Sl) (o1 : Option (List Lot)) : ∀ (ps : List Thing) (gs : List Bool) (j : Sl × Sl × Sl), (∀ p ∈ ps, TOk lots p) → gs.length + ps.length < 1000 →
    ∃ j' : Sl × Sl × Sl, forGo (hName 8) (oSeq r11a r11b) (ps.map eT) (rho11 zs w most s3 s4 W o1 s7 s9 gs j) = some (.nx (rho11 zs w most s3 s4 W o1 s7 s9 (gs ++ ps.map fun p => goodA most p o1 && decide (restOf W p.2 = [])) j'))
  | [], gs, j, _, _ => ⟨j, by rw [List.map_nil, List.map_nil, List.append_nil]; rfl⟩
  | p :: ps, gs, j, hp, hg => by
    rw [List.length_cons] at hg
    obtain ⟨j1, e1⟩ := st11one hL hWl hWin zs most s3 s4 s7 s9 o1 p (hp p List.mem_cons_self) gs (by omega) j.2
    obtain ⟨j', e2⟩ := st11go hL hWl hWin zs most s3 s4 s7 s9 o1 ps (gs ++ [goodA most p o1 && decide (restOf W p.2 = [])]) (.val (eT p), j1.1, j1.2) (fun q hq => hp q (List.mem_cons_of_mem _ hq)) (by rw [List.length_append, List.length_singleton]; omega)
    refine ⟨j', ?_⟩
    rw [List.append_assoc] at e2
    rw [List.map_cons, List.map_cons]
    refine (forGo_cons (ρ' := rho11 zs w most s3 s4 W o1 s7 s9 (gs ++ [goodA most p o1 && decide (restOf W p.2 = [])]) (.val (eT p), j1.1, j1.2)) ?_).trans e2
    exact e1
/-! ### stage 12: is_fewest_course -/
theorem st12 {w : Int} {U : Lot} {lots : List Lot} (hL : Wide w U lots) {rs : List Rule} {C : Rule → List Lot} (h : Chains false U rs C) (hr : ∀ r ∈ rs, RuleOn U r) (hne : rs ≠ []) (h2 : rs.length ≤ 2) {most : Int} {o1 : Option (List Lot)} (k1 : Srch (goodsOf lots most) (demL rs C) o1) (ps : List Thing) (hp : ∀ p ∈ ps, TOk lots p) (hpl : ps.length < 1000) (zs : List D) (s1 s4 s5 s6 s7 s8 s11 s12 : Sl) :
    r12 (rG zs s1 (.val (.int most)) (.val (eRsb false rs)) s4 s5 s6 s7 s8 (.val (.list (ps.map eT))) (.own ((ps.map fun p => goodA most p o1 && decide (restOf (demL rs C) p.2 = [])).map PyData.bool)) s11 s12 .no .no .no) =
      some (.nx (rG zs s1 (.val (.int most)) (.val (eRsb false rs)) s4 s5 s6 s7 s8 (.val (.list (ps.map eT))) (.val (.list ((ps.map fun p => goodA most p o1 && decide (restOf (demL rs C) p.2 = [])).map PyData.bool))) s11 s12 .no .no .no)) := by
  obtain ⟨o, k, hfew⟩ := m_is_fewest hL h hr hne h2 most
  have hs := srch_same k1 k fun _ => Iff.rfl
  have hb : (fun p : Thing => goodA most p o1 && decide (restOf (demL rs C) p.2 = [])) = fun p => isBest p.1 most (demL rs C) p.2 o := funext fun p => good_best (goods := goodsOf lots most) hs p
  rw [hb]
  obtain ⟨gs, hgs⟩ : ∃ gs : List Bool, gs = ps.map fun p => isBest p.1 most (demL rs C) p.2 o := ⟨_, rfl⟩
  rw [← hgs]
  have hc : compD (fun ρ => ((fun ρ => vAt ρ 9) ρ).bind dItems) (hName 8) (fun _ => some true) (fun ρ => ((aCons (fun ρ => vAt ρ 3) (aCons (fun ρ => vAt ρ 2) (aCons (fun ρ => vAt ρ 8) aNil))) ρ).bind F_is_fewest_course) [8] (rG zs s1 (.val (.int most)) (.val (eRsb false rs)) s4 s5 s6 s7 s8 (.val (.list (ps.map eT))) (.val (.list (gs.map PyData.bool))) s11 s12 .no .no .no) = some (gs.map PyData.bool) := by
    rw [hgs, List.map_map]
    exact compD_all eT (PyData.bool ∘ fun p : Thing => isBest p.1 most (demL rs C) p.2 o) ps rfl (big1000 hpl) fun p hpp => ⟨_, rfl, hfew p.1 p.2 (hp p hpp).1 (hp p hpp).2⟩
  have hgl : gs.length < 1000 := by
    rw [hgs, List.length_map]
    exact hpl
  show oIf _ _ _ (rG zs s1 (.val (.int most)) (.val (eRsb false rs)) s4 s5 s6 s7 s8 (.val (.list (ps.map eT))) (.val (.list (gs.map PyData.bool))) s11 s12 .no .no .no) = _
  refine if_f (not_ (a := true) ?_) rfl
  have ha : (aCons (fun ρ => ((compD (fun ρ => ((fun ρ => vAt ρ 9) ρ).bind dItems) (hName 8) (fun _ => some true) (fun ρ => ((aCons (fun ρ => vAt ρ 3) (aCons (fun ρ => vAt ρ 2) (aCons (fun ρ => vAt ρ 8) aNil))) ρ).bind F_is_fewest_course) [8]) ρ).map .list) (aCons (fun ρ => vAt ρ 10) aNil)) (rG zs s1 (.val (.int most)) (.val (eRsb false rs)) s4 s5 s6 s7 s8 (.val (.list (ps.map eT))) (.val (.list (gs.map PyData.bool))) s11 s12 .no .no .no) = some [.list (gs.map PyData.bool), .list (gs.map PyData.bool)] := by
    exact acons_ (d := .list (gs.map PyData.bool)) (by dsimp only; rw [hc]; rfl) (acons_ (d := .list (gs.map PyData.bool)) rfl rfl)
  dsimp only
  rw [ha, Option.bind_some, show F_law_same [.list (gs.map PyData.bool), .list (gs.map PyData.bool)] = some (.bool true) from same_bools 4 gs hgl]
  rfl
end GY
set_option Elab.async false
set_option linter.all false
set_option maxRecDepth 100000
set_option maxHeartbeats 4000000
/-! Gmw: law_right, stages 13 to 18; the plain law. -/
namespace GY
open PySem PySem.Spec PyProof.Rows L2
theorem app_ {k : Nat} {f : Rho → Option D} {ρ : Rho} {d : D} {ds : List D} (h1 : ownAt ρ k = some ds) (h2 : f ρ = some d) (h3 : ds.length < sBig) : oApp k f ρ = some (.nx (putOwn ρ k (ds ++ [d]))) := by
  unfold oApp
  rw [h1, Option.bind_some, h2, Option.bind_some, if_pos h3]
theorem twoL_ {h : D → D → Option (List D)} {f g : Rho → Option D} {ρ : Rho} {d e : D} {z : List D} (hf : f ρ = some d) (hg : g ρ = some e) (hz : h d e = some z) : do2L h f g ρ = some z := by
  unfold do2L
  rw [hf, Option.bind_some, hg]
  exact hz
theorem runL_ {n m : Nat} {g : Rho → Option Out} {f : Rho → Option (List D)} {ds zs : List D} {ρ : Rho} (h1 : ds.length = n) (h2 : g (startR n m ds) = some (.nx ρ)) (h3 : f ρ = some zs) : runL n m g f ds = some zs := by
  unfold runL
  rw [if_pos h1, h2]
  exact h3
theorem st13 {w : Int} {U : Lot} {lots : List Lot} (hL : Wide w U lots) (hw : 0 < w) {k : Nat} {zs : List D} (h : Tin k zs) (hk : k ≤ 600000) (s2 s3 s4 s5 s6 s7 s8 s9 s10 s11 s12 : Sl) :
    ∃ zs' c, r13 (rG zs (.val (.int w)) s2 s3 s4 s5 s6 s7 s8 s9 s10 s11 s12 .no .no .no) = some (.nx (rG zs' (.val (.int w)) s2 s3 s4 s5 s6 s7 s8 s9 s10 s11 s12 (.val (eC c)) .no .no)) ∧ (∀ L ∈ c, LotIn U L) ∧ c.length < 1000 := by
  obtain ⟨zs', c, e, t, o, l⟩ := m_law_course hL hw h (by omega) 1 (by omega) (by omega)
  refine ⟨zs', c, ?_, o, by omega⟩
  exact setX_ (es := zs) (es' := zs') (d := eC c) rfl (xcall2_ (a := .int w) (y := zs) (b := .int 1) (z := zs) (xpure_ rfl rfl) (xpure_ rfl rfl) rfl e)
theorem cut_one {α : Type} (x : α) (xs : List α) : cutD (x :: xs) none (some 1) = [x] := by
  unfold cutD
  have h1 : HT.sIx (x :: xs).length 0 none = 0 := rfl
  have h2 : HT.sIx (x :: xs).length (x :: xs).length (some 1) = 1 := by
    have := HT.sIx_nat (x :: xs).length (x :: xs).length 1
    rw [show ((1 : Nat) : Int) = 1 from rfl] at this
    rw [this, List.length_cons]
    omega
  rw [h1, h2]
  simp
theorem st14 {b : Bool} {w : Int} {U : Lot} {lots : List Lot} (hL : Lots w U lots) {r : Rule} {rt : List Rule} (hr : RuleOn U r) {C : Rule → List Lot} (h : Chains b U [r] C) (c : List Lot) (zs : List D) (s2 s4 s5 s6 s7 s8 s9 s10 s11 s12 : Sl) :
    r14 (rG zs (.val (.int w)) s2 (.val (eRsb false (r :: rt))) s4 s5 s6 s7 s8 s9 s10 s11 s12 (.val (eC c)) .no .no) = some (.nx (rG zs (.val (.int w)) s2 (.val (eRsb false (r :: rt))) s4 s5 s6 s7 s8 s9 s10 s11 s12 (.val (eC c)) (.val (eCl (restOf (demL [r] C) c))) .no)) := by
  have h4 := hL.u4
  refine set_ (s := .val (eCl (restOf (demL [r] C) c))) ?_
  have ha : (aCons (fun ρ => ((fun ρ => vAt ρ 3) ρ).bind (dSl none (some 1))) (aCons (fun ρ => vAt ρ 1) aNil)) (rG zs (.val (.int w)) s2 (.val (eRsb false (r :: rt))) s4 s5 s6 s7 s8 s9 s10 s11 s12 (.val (eC c)) .no .no) = some [eRsb false [r], .int w] := by
    show (Option.bind (some (PyData.tuple (cutD ((r :: rt).map (eRb false)) none (some 1)))) fun d => Option.bind (some [PyData.int w]) fun ds => some (d :: ds)) = _
    rw [cut_map, cut_one]
    rfl
  have hd : (fun ρ => ((fun ρ => ((aCons (fun ρ => ((fun ρ => vAt ρ 3) ρ).bind (dSl none (some 1))) (aCons (fun ρ => vAt ρ 1) aNil)) ρ).bind F_law_wanted) ρ).bind dItems) (rG zs (.val (.int w)) s2 (.val (eRsb false (r :: rt))) s4 s5 s6 s7 s8 s9 s10 s11 s12 (.val (eC c)) .no .no) = some ((demL [r] C).map eL) := by
    dsimp only
    rw [ha, Option.bind_some, m_wanted hL (rs := [r]) (fun x hx => by rw [List.mem_singleton.mp hx]; exact hr) h]
    rfl
  have hdl := dem_len h h4 (by show 1 ≤ 2; decide)
  unfold mkV
  rw [compD_map eL (fun own => !liesIn own c) eL (demL [r] C) hd (Nat.lt_of_le_of_lt hdl (by decide)) fun own ho => ⟨_, rfl, not_ ?_, fun _ => rfl⟩]
  · rfl
  · show (F_law_lies [eL own, seqD false (c.map eL)]).bind asB = _
    have := (dem_lot h own ho).len
    rw [m_law_lies false own c (by omega)]
    rfl
theorem st15 {w : Int} {U : Lot} {lots : List Lot} (hL : Wide w U lots) (W : List Lot) (hW : ∀ L ∈ W, LotIn U L) (hWl : W.length ≤ 100) (most : Int) (zs : List D) (s3 s4 s5 s6 s7 s8 s9 s10 s11 s12 s13 : Sl) :
    ∃ o, r15 (rG zs (.val (.int w)) (.val (.int most)) s3 s4 s5 s6 s7 s8 s9 s10 s11 s12 s13 (.val (eCl W)) .no) = some (.nx (rG zs (.val (.int w)) (.val (.int most)) s3 s4 s5 (.val (oN o)) s7 s8 s9 s10 s11 s12 s13 (.val (eCl W)) .no)) ∧ Srch (goodsOf lots most) W o := by
  obtain ⟨o, e, k⟩ := m_law_search hL W most hW hWl
  refine ⟨o, set_ (s := .val (oN o)) ?_, k⟩
  show (F_law_fewest [.int w, eCl W, .int most]).map Sl.val = _
  rw [e]
  rfl
def addD (o : Option (List Lot)) : D := (o.map fun row : List Lot => PyData.int (row.length : Int)).getD (.str "cannot")
theorem addD_same {o o' : Option (List Lot)} (h : o.map List.length = o'.map List.length) : addD o = addD o' := by
  cases o with
  | none =>
    cases o' with
    | none => rfl
    | some _ => cases h
  | some a =>
    cases o' with
    | none => cases h
    | some b =>
      have : a.length = b.length := by
        injection h
      show PyData.int (a.length : Int) = PyData.int (b.length : Int)
      rw [this]
theorem st16 {r : Rule} {rt : List Rule} {c : List Lot} {most : Int} {o : Option (List Lot)} (h : F_law_asked [.int 1, eRb false r, eCb false c, .int most] = some (addD o)) (zs : List D) (s1 s4 s5 s6 s7 s8 s9 s10 s11 s12 s14 : Sl) :
    r16 (rG zs s1 (.val (.int most)) (.val (eRsb false (r :: rt))) s4 s5 s6 s7 s8 s9 s10 s11 s12 (.val (eC c)) s14 .no) = some (.nx (rG zs s1 (.val (.int most)) (.val (eRsb false (r :: rt))) s4 s5 s6 s7 s8 s9 s10 s11 s12 (.val (eC c)) s14 (.own [addD o]))) := by
  refine set_ (s := .own [addD o]) ?_
  have ha : (aCons (fun _ => some (.int 1)) (aCons (do2 dIx (fun ρ => vAt ρ 3) (fun _ => some (.int 0))) (aCons (fun ρ => vAt ρ 13) (aCons (fun ρ => vAt ρ 2) aNil)))) (rG zs s1 (.val (.int most)) (.val (eRsb false (r :: rt))) s4 s5 s6 s7 s8 s9 s10 s11 s12 (.val (eC c)) s14 .no) = some [.int 1, eRb false r, eCb false c, .int most] := by
    show (Option.bind (some (PyData.int 1)) fun d => Option.bind (Option.bind (dIx (eRsb false (r :: rt)) (.int 0)) fun e => some [e, eC c, .int most]) fun ds => some (d :: ds)) = _
    rw [show dIx (eRsb false (r :: rt)) (.int 0) = some (eRb false r) from ix0 false _ _]
    rfl
  have hg : shortL (aCons (fun ρ => ((aCons (fun _ => some (.int 1)) (aCons (do2 dIx (fun ρ => vAt ρ 3) (fun _ => some (.int 0))) (aCons (fun ρ => vAt ρ 13) (aCons (fun ρ => vAt ρ 2) aNil)))) ρ).bind F_law_asked) aNil) (rG zs s1 (.val (.int most)) (.val (eRsb false (r :: rt))) s4 s5 s6 s7 s8 s9 s10 s11 s12 (.val (eC c)) s14 .no) = some [addD o] := by
    show (Option.bind (Option.bind (Option.bind ((aCons (fun _ => some (.int 1)) (aCons (do2 dIx (fun ρ => vAt ρ 3) (fun _ => some (.int 0))) (aCons (fun ρ => vAt ρ 13) (aCons (fun ρ => vAt ρ 2) aNil)))) (rG zs s1 (.val (.int most)) (.val (eRsb false (r :: rt))) s4 s5 s6 s7 s8 s9 s10 s11 s12 (.val (eC c)) s14 .no)) F_law_asked) fun d => some [d]) fun ds => if ds.length ≤ sBig then some ds else none) = _
    rw [ha, Option.bind_some, h]
    rfl
  unfold cO
  rw [hg]
  rfl
theorem st17 {r : Rule} {rt : List Rule} {c : List Lot} {most : Int} {o : Option (List Lot)} (h : F_law_asked [.int 1, eRb false r, eCb true c, .int most] = some (addD o)) (hc : c.length < 1000) (hc2 : ∀ L ∈ c, L.length < 1000) (x : D) (zs : List D) (s1 s4 s5 s6 s7 s8 s9 s10 s11 s12 s14 : Sl) :
    r17 (rG zs s1 (.val (.int most)) (.val (eRsb false (r :: rt))) s4 s5 s6 s7 s8 s9 s10 s11 s12 (.val (eC c)) s14 (.own [x])) = some (.nx (rG zs s1 (.val (.int most)) (.val (eRsb false (r :: rt))) s4 s5 s6 s7 s8 s9 s10 s11 s12 (.val (eC c)) s14 (.own [x, addD o]))) := by
  have hl : F_law_lists [eC c] = some (eCb true c) := m_lists_course c (big1000 hc) fun L hL => big1000 (hc2 L hL)
  have ha : (aCons (fun _ => some (.int 1)) (aCons (do2 dIx (fun ρ => vAt ρ 3) (fun _ => some (.int 0))) (aCons (fun ρ => ((aCons (fun ρ => vAt ρ 13) aNil) ρ).bind F_law_lists) (aCons (fun ρ => vAt ρ 2) aNil)))) (rG zs s1 (.val (.int most)) (.val (eRsb false (r :: rt))) s4 s5 s6 s7 s8 s9 s10 s11 s12 (.val (eC c)) s14 (.own [x])) = some [.int 1, eRb false r, eCb true c, .int most] := by
    show (Option.bind (some (PyData.int 1)) fun d => Option.bind (Option.bind (dIx (eRsb false (r :: rt)) (.int 0)) fun e => Option.bind (Option.bind (F_law_lists [eC c]) fun f => some [f, .int most]) fun es => some (e :: es)) fun ds => some (d :: ds)) = _
    rw [show dIx (eRsb false (r :: rt)) (.int 0) = some (eRb false r) from ix0 false _ _, hl]
    rfl
  exact app_ (ds := [x]) rfl (bnd_ ha h) (by show 1 < sBig; decide)
theorem same_add (o : Option (List Lot)) : F_law_same [.list [addD o, addD o], .list [addD o, addD o]] = some (.bool true) := by
  cases o with
  | none =>
    show F_law_same [.list [.str "cannot", .str "cannot"], .list [.str "cannot", .str "cannot"]] = _
    kernel_rfl
  | some a =>
    have := same_seq_eq 5 true PyData.int [(a.length : Int), (a.length : Int)] [(a.length : Int), (a.length : Int)] (by show 2 < 1000; decide) fun x _ y _ => same_int 4 x y
    rw [decide_eq_true rfl] at this
    exact this
theorem st18 (o : Option (List Lot)) (zs : List D) (s1 s2 s3 s4 s5 s7 s8 s9 s10 s11 s12 s13 s14 : Sl) :
    r18 (rG zs s1 s2 s3 s4 s5 (.val (oN o)) s7 s8 s9 s10 s11 s12 s13 s14 (.own [addD o, addD o])) = some (.rt (.bool true) (rG zs s1 s2 s3 s4 s5 (.val (oN o)) s7 s8 s9 s10 s11 s12 s13 s14 (.val (.list [addD o, addD o])))) := by
  refine ret_ (ρ := rG zs s1 s2 s3 s4 s5 (.val (oN o)) s7 s8 s9 s10 s11 s12 s13 s14 (.val (.list [addD o, addD o]))) ?_
  have hi : (dIf (fun ρ => ((do2 dIsN (fun ρ => vAt ρ 6) (fun _ => some .none)) ρ).bind asB) (fun _ => some (.str "cannot")) (fun ρ => vAt ρ 6)) (rG zs s1 s2 s3 s4 s5 (.val (oN o)) s7 s8 s9 s10 s11 s12 s13 s14 (.val (.list [addD o, addD o]))) = some (addD o) := by
    cases o <;> rfl
  have hrep : dRep (.list [addD o]) (.int 2) = some [addD o, addD o] := by
    unfold dRep
    dsimp only
    rw [if_pos ⟨by decide, by decide, by show 1 * 2 ≤ sBig; decide⟩]
    rfl
  have ha : (aCons (fun ρ => vAt ρ 15) (aCons (fun ρ => ((do2L dRep (fun ρ => ((shortL (aCons (dIf (fun ρ => ((do2 dIsN (fun ρ => vAt ρ 6) (fun _ => some .none)) ρ).bind asB) (fun _ => some (.str "cannot")) (fun ρ => vAt ρ 6)) aNil)) ρ).map .list) (fun _ => some (.int 2))) ρ).map .list) aNil)) (rG zs s1 s2 s3 s4 s5 (.val (oN o)) s7 s8 s9 s10 s11 s12 s13 s14 (.val (.list [addD o, addD o]))) = some [.list [addD o, addD o], .list [addD o, addD o]] := by
    have e1 : shortL (aCons (dIf (fun ρ => ((do2 dIsN (fun ρ => vAt ρ 6) (fun _ => some .none)) ρ).bind asB) (fun _ => some (.str "cannot")) (fun ρ => vAt ρ 6)) aNil) (rG zs s1 s2 s3 s4 s5 (.val (oN o)) s7 s8 s9 s10 s11 s12 s13 s14 (.val (.list [addD o, addD o]))) = some [addD o] := by
      unfold shortL aCons
      rw [hi]
      rfl
    exact acons_ (d := .list [addD o, addD o]) rfl (acons_ (d := .list [addD o, addD o]) (congrArg (Option.map PyData.list) (twoL_ (h := dRep) (f := fun ρ => ((shortL (aCons (dIf (fun ρ => ((do2 dIsN (fun ρ => vAt ρ 6) (fun _ => some .none)) ρ).bind asB) (fun _ => some (.str "cannot")) (fun ρ => vAt ρ 6)) aNil)) ρ).map .list) (g := fun _ => some (.int 2)) (congrArg (Option.map PyData.list) e1) rfl hrep)) rfl)
  exact bnd_ ha (same_add o)
/-! ### the whole -/
theorem wide_of (i : Int) (h0 : 0 ≤ i) (h1 : i < 2) : ∃ U lots, Wide (3 + i) U lots ∧ U ≠ [] ∧ ∀ r, RuleOf (lots.filter fun L => decide (1 < L.length)) r → RuleOn U r := by
  obtain rfl | rfl : i = 0 ∨ i = 1 := by omega
  · rw [show (3 : Int) + 0 = 3 by decide]
    exact ⟨U3, lots3, wide3, by decide, fun r o => rule3 o⟩
  · rw [show (3 : Int) + 1 = 4 by decide]
    exact ⟨U4, lots4, wide4, by decide, fun r o => rule4 o⟩
theorem best_le {lots W row : List Lot} {most : Int} (nd : lots.Nodup) (h15 : lots.length ≤ 15) (h : Best (goodsOf lots most) W row) : row.length ≤ 15 := by
  obtain ⟨r, h1, h2⟩ := best_sub (nd.sublist List.filter_sublist) h
  rw [best_len h h2]
  exact Nat.le_trans h1.length_le (Nat.le_trans (List.length_filter_le _ _) h15)
theorem right_ok {zs : List D} (h : Tin 0 zs) : ∃ es', F_law_right zs [] = some (.bool true, es') := by
  obtain ⟨i, j, zs1, e1, i0, i1, j0, j1, t1⟩ := st1 h (by omega)
  obtain ⟨U, lots, hL, hU, hrule⟩ := wide_of i i0 i1
  have hw : (0 : Int) < 3 + i := by omega
  have h4 := hL.u4
  obtain ⟨most, hmost⟩ : ∃ m : Int, m = 1 + j := ⟨_, rfl⟩
  rw [← hmost] at e1
  obtain ⟨zs3, rs, s4, e3, t3, o3, hne, h2⟩ := st3 hL t1 (by omega) (.int most)
  have hr : ∀ r ∈ rs, RuleOn U r := fun r hx => hrule r (o3 r hx)
  obtain ⟨C, hC⟩ := chains_of false h4 rs hr
  have e4 := st4 hL.toLots hr hC zs3 (.int most) s4
  obtain ⟨o1, o2, e5, k1, k2⟩ := st5 hL hr hne h2 hC zs3 most s4
  have hWne := dem_ne hC hne hU
  have hWl := dem_len hC h4 h2
  have hWin := dem_lot hC
  have e6 := st6 hL h2 hC zs3 most s4 (.val (oN o1)) (.val (toldD o2))
  have e7 := st7 hL hWne (by omega) hWin k1 k2 zs3 (.val (eRsb false rs)) s4
  obtain ⟨zs8, p, q, e8, t8, hp, hq⟩ := st8 hL hw t3 (by omega) (.val (.int most)) (.val (eRsb false rs)) s4 (.val (eCl (demL rs C))) (.val (oN o1)) (.val (toldD o2))
  obtain ⟨e9, hth, hthl⟩ := st9 k1 k2 p q hp hq (fun row hrow => by
    rw [hrow] at k2
    have := best_le hL.nd hL.le15 k2
    omega) zs8 (.val (.int (3 + i))) (.val (.int most)) (.val (eRsb false rs)) s4 (.val (eCl (demL rs C)))
  obtain ⟨j11, e11⟩ := st11go hL.toLots (by omega) hWin zs8 most (.val (eRsb false rs)) s4 (.val (toldD o2)) (.val (.list ((thingsOf p q o2).map eT))) o1 (thingsOf p q o2) [] (.no, .no, .no) hth (by show 0 + _ < 1000; omega)
  rw [List.nil_append] at e11
  have e12 := st12 hL hC hr hne h2 k1 (thingsOf p q o2) hth hthl zs8 (.val (.int (3 + i))) s4 (.val (eCl (demL rs C))) (.val (oN o1)) (.val (toldD o2)) j11.1 j11.2.1 j11.2.2
  obtain ⟨r, rt, hrs⟩ : ∃ r rt, rs = r :: rt := by
    cases rs with
    | nil => exact absurd rfl hne
    | cons r rt => exact ⟨r, rt, rfl⟩
  have hrr : RuleOn U r := hr r (by rw [hrs]; exact List.mem_cons_self)
  have hC1 : Chains false U [r] C := ⟨fun x hx => by
    rw [List.mem_singleton.mp hx]
    exact hC.run r (by rw [hrs]; exact List.mem_cons_self), fun x hx => by
    rw [List.mem_singleton.mp hx]
    exact hC.ok r (by rw [hrs]; exact List.mem_cons_self)⟩
  obtain ⟨zs13, c, e13, hcin, hcl⟩ := st13 hL hw t8 (by omega) (.val (.int most)) (.val (eRsb false rs)) s4 (.val (eCl (demL rs C))) (.val (oN o1)) (.val (toldD o2)) j11.1 (.val (.list ((thingsOf p q o2).map eT))) (.val (.list (((thingsOf p q o2).map fun p => goodA most p o1 && decide (restOf (demL rs C) p.2 = [])).map PyData.bool))) j11.2.1 j11.2.2
  have e14 := st14 (rt := rt) hL.toLots hrr hC1 c zs13 (.val (.int most)) s4 (.val (eCl (demL rs C))) (.val (oN o1)) (.val (toldD o2)) j11.1 (.val (.list ((thingsOf p q o2).map eT))) (.val (.list (((thingsOf p q o2).map fun p => goodA most p o1 && decide (restOf (demL rs C) p.2 = [])).map PyData.bool))) j11.2.1 j11.2.2
  have hdl := dem_len hC1 h4 (by show 1 ≤ 2; decide)
  obtain ⟨o, e15, k15⟩ := st15 hL (restOf (demL [r] C) c) (fun L hl => dem_lot hC1 L (List.mem_filter.mp hl).1) (Nat.le_trans (List.length_filter_le _ _) (by omega)) most zs13 (.val (eRsb false (r :: rt))) s4 (.val (eCl (demL rs C))) (.val (oN o1)) (.val (toldD o2)) j11.1 (.val (.list ((thingsOf p q o2).map eT))) (.val (.list (((thingsOf p q o2).map fun p => goodA most p o1 && decide (restOf (demL rs C) p.2 = [])).map PyData.bool))) j11.2.1 j11.2.2 (.val (eC c))
  -- lots_added, of tuples and of lists
  have hmem : ∀ L, L ∈ restOf (C r) c ↔ L ∈ restOf (allC [r] C) c := fun L => by
    unfold restOf allC
    rw [List.mem_filter, List.mem_filter, mem_isU]
    simp
  have hA : ∀ L ∈ allC [r] C, LotIn U L := fun L hl => (allC_lot hC1 L hl).1
  have hcov : ∀ cov, Cov (goodsOf lots most) (restOf (C r) c) cov ↔ Cov (goodsOf lots most) (restOf (demL [r] C) c) cov := fun cov => (cov_mem hmem cov).trans (cov_top hA _ c)
  have hadd : ∀ b : Bool, F_law_asked [.int 1, eRb false r, eCb b c, .int most] = some (addD o) := fun b => by
    obtain ⟨o', a1, a2⟩ := m_lots_added hL b hrr (hC1.run r List.mem_cons_self) (hC1.ok r List.mem_cons_self) c hcl most
    rw [m_asked1 a1]
    exact congrArg some (addD_same (srch_same a2 k15 hcov))
  have e16 := st16 (rt := rt) (hadd false) zs13 (.val (.int (3 + i))) s4 (.val (eCl (demL rs C))) (.val (oN o)) (.val (toldD o2)) j11.1 (.val (.list ((thingsOf p q o2).map eT))) (.val (.list (((thingsOf p q o2).map fun p => goodA most p o1 && decide (restOf (demL rs C) p.2 = [])).map PyData.bool))) j11.2.1 j11.2.2 (.val (eCl (restOf (demL [r] C) c)))
  have e17 := st17 (rt := rt) (hadd true) hcl (fun L hl => by
    have := (hcin L hl).len
    omega) (addD o) zs13 (.val (.int (3 + i))) s4 (.val (eCl (demL rs C))) (.val (oN o)) (.val (toldD o2)) j11.1 (.val (.list ((thingsOf p q o2).map eT))) (.val (.list (((thingsOf p q o2).map fun p => goodA most p o1 && decide (restOf (demL rs C) p.2 = [])).map PyData.bool))) j11.2.1 j11.2.2 (.val (eCl (restOf (demL [r] C) c)))
  have e18 := st18 o zs13 (.val (.int (3 + i))) (.val (.int most)) (.val (eRsb false (r :: rt))) s4 (.val (eCl (demL rs C))) (.val (toldD o2)) j11.1 (.val (.list ((thingsOf p q o2).map eT))) (.val (.list (((thingsOf p q o2).map fun p => goodA most p o1 && decide (restOf (demL rs C) p.2 = [])).map PyData.bool))) j11.2.1 j11.2.2 (.val (eC c)) (.val (eCl (restOf (demL [r] C) c)))
  rw [← hrs] at e14 e15 e16 e17 e18
  refine ⟨zs13, ?_⟩
  have hfin : g_law_right (startE 1 16 zs []) = some (.rt (.bool true) (rG zs13 (.val (.int (3 + i))) (.val (.int most)) (.val (eRsb false rs)) s4 (.val (eCl (demL rs C))) (.val (oN o)) (.val (toldD o2)) j11.1 (.val (.list ((thingsOf p q o2).map eT))) (.val (.list (((thingsOf p q o2).map fun p => goodA most p o1 && decide (restOf (demL rs C) p.2 = [])).map PyData.bool))) j11.2.1 j11.2.2 (.val (eC c)) (.val (eCl (restOf (demL [r] C) c))) (.val (.list [addD o, addD o])))) := by
    rw [right_stages]
    refine seq_nx e1 (seq_nx (ρ1 := rG zs1 (.val (.int (3 + i))) (.val (.int most)) (.val (eRsb false [])) .no .no .no .no .no .no .no .no .no .no .no .no) rfl (seq_nx e3 (seq_nx e4 (seq_nx e5 (seq_nx e6 (seq_nx e7 (seq_nx e8 (seq_nx e9 ?_))))))))
    refine seq_nx (ρ1 := rho11 zs8 (3 + i) most (.val (eRsb false rs)) s4 (demL rs C) o1 (.val (toldD o2)) (.val (.list ((thingsOf p q o2).map eT))) [] (.no, .no, .no)) rfl ?_
    refine seq_nx (ρ1 := rho11 zs8 (3 + i) most (.val (eRsb false rs)) s4 (demL rs C) o1 (.val (toldD o2)) (.val (.list ((thingsOf p q o2).map eT))) ((thingsOf p q o2).map fun p => goodA most p o1 && decide (restOf (demL rs C) p.2 = [])) j11) ?_ (seq_nx e12 (seq_nx e13 (seq_nx e14 (seq_nx e15 (seq_nx e16 (seq_nx e17 e18))))))
    rw [r11_eq]
    exact for_ (ds := (thingsOf p q o2).map eT) rfl e11
  exact runE_rt rfl (by decide) hfin
theorem box_ok (c : Int) : ∃ zs, F_law_box [.list [.int c], .int 0] = some zs ∧ Tin 0 zs := by
  obtain ⟨a, ha⟩ : ∃ a : Int, a = if c < 0 then -c else c := ⟨_, rfl⟩
  obtain ⟨d, hd⟩ : ∃ d : Int, d = if decide ((10 : Int) ^ (18 : Int).toNat ≤ a) then 1 else 0 := ⟨_, rfl⟩
  have hdf : fitsM d = true := by
    rw [hd]
    split
    · decide
    · decide
  refine ⟨[.int (a * d), .int (c % 2305843009213693951 + 39373 * 0 + 3168074), .int 0], ?_, ⟨_, _, _, rfl, by omega, by omega⟩⟩
  have hg : g_law_box (startR 2 3 [.list [.int c], .int 0]) = some (.nx ([.val (.list [.int c]), .val (.int 0), .val (.int c)] : Rho)) := by
    refine set_ (s := .val (.int c)) ?_
    have e : dIf (fun ρ => ((do2 dLt (fun ρ => vAt ρ 1) (fun ρ => ((fun ρ => vAt ρ 0) ρ).bind dLen)) ρ).bind asB) (do2 dIx (fun ρ => vAt ρ 0) (fun ρ => vAt ρ 1)) (fun _ => some (.int 0)) (startR 2 3 [.list [.int c], .int 0]) = some (.int c) := by
      have hp : (fun ρ => ((do2 dLt (fun ρ => vAt ρ 1) (fun ρ => ((fun ρ => vAt ρ 0) ρ).bind dLen)) ρ).bind asB) (startR 2 3 [.list [.int c], .int 0]) = some true := rfl
      unfold dIf
      rw [hp, Option.bind_some, if_pos rfl]
      exact ix0 true (.int c) []
    exact congrArg (Option.map Sl.val) e
  have habs : (fun ρ => ((fun ρ => vAt ρ 2) ρ).bind dAbs) ([.val (.list [.int c]), .val (.int 0), .val (.int c)] : Rho) = some (.int a) := by
    rw [ha]
    rfl
  have hpow : dPow (.int 10) (.int 18) = some (.int ((10 : Int) ^ (18 : Int).toNat)) := by
    unfold dPow
    exact if_pos (by decide)
  have h1 : (do2 dMul (fun ρ => ((fun ρ => vAt ρ 2) ρ).bind dAbs) (fun ρ => ((do2 dGe (fun ρ => ((fun ρ => vAt ρ 2) ρ).bind dAbs) (do2 dPow (fun _ => some (.int 10)) (fun _ => some (.int 18)))) ρ).bind dInt)) ([.val (.list [.int c]), .val (.int 0), .val (.int c)] : Rho) = some (.int (a * d)) := by
    refine two_ (d := .int a) (e := .int d) habs (bnd_ (d := .bool (decide ((10 : Int) ^ (18 : Int).toNat ≤ a))) (two_ (d := .int a) (e := .int ((10 : Int) ^ (18 : Int).toNat)) habs (two_ rfl rfl hpow) rfl) ?_) (dMulR hdf)
    rw [hd]
    rfl
  have h2 : (do2 dAdd (do2 dAdd (do2 dMod (fun ρ => ((fun ρ => vAt ρ 2) ρ).bind dInt) (fun _ => some (.int 2305843009213693951))) (do2 dMul (fun _ => some (.int 39373)) (fun ρ => vAt ρ 1))) (fun _ => some (.int 3168074))) ([.val (.list [.int c]), .val (.int 0), .val (.int c)] : Rho) = some (.int (c % 2305843009213693951 + 39373 * 0 + 3168074)) :=
    two_ (d := .int (c % 2305843009213693951 + 39373 * 0)) (two_ (d := .int (c % 2305843009213693951)) (e := .int (39373 * 0)) (two_ (d := .int c) rfl rfl (dMod_ (by decide))) (two_ (d := .int 39373) (e := .int 0) rfl rfl (dMulL (by decide))) rfl) rfl rfl
  have hh : h_law_box ([.val (.list [.int c]), .val (.int 0), .val (.int c)] : Rho) = some [.int (a * d), .int (c % 2305843009213693951 + 39373 * 0 + 3168074), .int 0] := by
    unfold h_law_box shortL
    have he : (aCons (do2 dMul (fun ρ => ((fun ρ => vAt ρ 2) ρ).bind dAbs) (fun ρ => ((do2 dGe (fun ρ => ((fun ρ => vAt ρ 2) ρ).bind dAbs) (do2 dPow (fun _ => some (.int 10)) (fun _ => some (.int 18)))) ρ).bind dInt)) (aCons (do2 dAdd (do2 dAdd (do2 dMod (fun ρ => ((fun ρ => vAt ρ 2) ρ).bind dInt) (fun _ => some (.int 2305843009213693951))) (do2 dMul (fun _ => some (.int 39373)) (fun ρ => vAt ρ 1))) (fun _ => some (.int 3168074))) (aCons (fun _ => some (.int 0)) aNil))) ([.val (.list [.int c]), .val (.int 0), .val (.int c)] : Rho) = some [.int (a * d), .int (c % 2305843009213693951 + 39373 * 0 + 3168074), .int 0] := by
      unfold aCons
      rw [h1, h2]
      rfl
    rw [he]
    rfl
  exact runL_ rfl hg hh
theorem plain : ∀ c : Int, ∃ zs es', F_law_box [.list [.int c], .int 0] = some zs ∧ F_law_right zs [] = some (.bool true, es') := fun c => by
  obtain ⟨zs, e, t⟩ := box_ok c
  obtain ⟨es', h⟩ := right_ok t
  exact ⟨zs, es', e, h⟩
end GY
set_option Elab.async false
set_option linter.all false
set_option maxRecDepth 100000
set_option maxHeartbeats 4000000
/-! Gt5: the cells of a script; law. -/
namespace GY
open PySem PySem.Spec PyProof.Rows L2
/-- what the one cell holds -/
def cellsGo : Nat → Int → List Int → Int
  | _, c, [] => c
  | k, c, b :: bs => cellsGo (k + 1) (c + b * ((k : Int) + 2)) bs
def cellsOf : List Int → Int
  | [] => 0
  | n :: ns => cellsGo 0 n ns
def spCells (K : PySem.W.Frag) : Sp := fun vs H Q _ => ∃ (a : Addr) (ns : List Int), vs = [.ref a, .int 1] ∧ SqL K H a (ns.map V.int) ∧ ns.length ≤ 63 ∧ ∀ p H', Same H H' → H p = none → H' p = some (HO.lst [V.int (cellsOf ns)]) → Q (.ref p) H'
abbrev s_law_cells : Stmt := topS 38
abbrev N_law_cells : List Str := ["_law_script", "_law_most_so", "_law_cells_so", "_law_k", "_law_bit_so", "_law_at_so"]
theorem sc_law_cells : FnScope N_law_cells ["_law_script", "_law_most_so"] (defScope s_law_cells) := ⟨rfl, rfl, rfl, by decide +kernel, rfl, by decide +kernel, by decide +kernel⟩
def gb_law_cells : Rho → Option Out := oSeq (oSet 5 (cV (do2 dMod (fun ρ => ((fun ρ => vAt ρ 3) ρ).bind dInt) (fun ρ => vAt ρ 1)))) (oSub 2 (fun ρ => vAt ρ 5) (do2 dAdd (do2 dIx (fun ρ => bAt ρ 2) (fun ρ => vAt ρ 5)) (do2 dMul (fun ρ => vAt ρ 4) (do2 dAdd (fun ρ => vAt ρ 3) (fun _ => some (.int 2))))))
def sbody2 : Stmt → List Stmt
  | .For _ _ b _ _ => b
  | _ => []
/-- the pairs that enumerate gives -/
def enumD : Nat → List Int → List D
  | _, [] => []
  | k, b :: bs => .tuple [.int k, .int b] :: enumD (k + 1) bs
def rhoC (c : Int) (x y z : Sl) : Rho := [.no, .val (.int 1), .own [.int c], x, y, z]
theorem body_cells (c b : Int) (k : Nat) (hk : k < 1000) (x y z : Sl) : (hTup2 3 4 (.tuple [.int k, .int b]) (rhoC c x y z)).bind gb_law_cells = some (.nx (rhoC (c + b * ((k : Int) + 2)) (.val (.int k)) (.val (.int b)) (.val (.int 0)))) := by
  have e : ((k : Int) % 1) = 0 := by omega
  have hf : (fitsM b || fitsM ((k : Int) + 2)) = true := by
    have : fitsM ((k : Int) + 2) = true := by
      unfold fitsM
      rw [Bool.and_eq_true, decide_eq_true_eq, decide_eq_true_eq]
      omega
    rw [this, Bool.or_true]
  have h1 : (oSet 5 (cV (do2 dMod (fun ρ => ((fun ρ => vAt ρ 3) ρ).bind dInt) (fun ρ => vAt ρ 1)))) (rhoC c (.val (.int k)) (.val (.int b)) z) = some (.nx (rhoC c (.val (.int k)) (.val (.int b)) (.val (.int 0)))) := by
    show (((if (0 : Int) < 1 then some (PyData.int ((k : Int) % 1)) else none).map Sl.val).map fun s => Out.nx ((rhoC c (.val (.int k)) (.val (.int b)) z).set 5 s)) = _
    rw [if_pos (by decide), e]
    rfl
  show gb_law_cells (rhoC c (.val (.int k)) (.val (.int b)) z) = _
  unfold gb_law_cells oSeq
  rw [h1]
  show (do2 dAdd (do2 dIx (fun ρ => bAt ρ 2) (fun ρ => vAt ρ 5)) (do2 dMul (fun ρ => vAt ρ 4) (do2 dAdd (fun ρ => vAt ρ 3) (fun _ => some (.int 2)))) (rhoC c (.val (.int k)) (.val (.int b)) (.val (.int 0)))).bind _ = _
  have h2 : do2 dAdd (do2 dIx (fun ρ => bAt ρ 2) (fun ρ => vAt ρ 5)) (do2 dMul (fun ρ => vAt ρ 4) (do2 dAdd (fun ρ => vAt ρ 3) (fun _ => some (.int 2)))) (rhoC c (.val (.int k)) (.val (.int b)) (.val (.int 0))) = some (.int (c + b * ((k : Int) + 2))) := by
    show ((if (fitsM b || fitsM ((k : Int) + 2)) = true then some (PyData.int (b * ((k : Int) + 2))) else none).bind fun d => dAdd (.int c) d) = _
    rw [if_pos hf]
    rfl
  rw [h2]
  rfl
theorem for_cells : ∀ (bs : List Int) (k : Nat) (c : Int) (x y z : Sl), k + bs.length < 1000 → ∃ x' y' z', forGo (hTup2 3 4) gb_law_cells (enumD k bs) (rhoC c x y z) = some (.nx (rhoC (cellsGo k c bs) x' y' z'))
  | [], _, _, x, y, z, _ => ⟨x, y, z, rfl⟩
  | b :: bs, k, c, x, y, z, h => by
    have hk : k < 1000 := by omega
    obtain ⟨x', y', z', e⟩ := for_cells bs (k + 1) (c + b * ((k : Int) + 2)) (.val (.int k)) (.val (.int b)) (.val (.int 0)) (by rw [List.length_cons] at h; omega)
    refine ⟨x', y', z', ?_⟩
    have h1 := body_cells c b k hk x y z
    obtain ⟨ρ1, h2, h3⟩ := bind_some h1
    show ((hTup2 3 4 (.tuple [.int k, .int b]) (rhoC c x y z)).bind fun ρ1 => (gb_law_cells ρ1).bind _) = _
    rw [h2, Option.bind_some, h3, Option.bind_some]
    exact e
theorem sqL_same {K : PySem.W.Frag} {H H' : Hp} {a : Addr} {xs : List V} (h : SqL K H a xs) (e : Same H H') : SqL K H' a xs := by
  rcases h with (h | ⟨o, h⟩) | h
  · exact .inl (.inl (e _ _ h))
  · exact .inl (.inr ⟨o, e _ _ h⟩)
  · exact .inr h
theorem enum_get : ∀ (bs : List Int) (k i : Nat), (enumD k bs)[i]? = (bs[i]?).map fun b => PyData.tuple [.int (k + i : Nat), .int b]
  | [], _, _ => rfl
  | b :: bs, k, 0 => rfl
  | b :: bs, k, i + 1 => by
    show (enumD (k + 1) bs)[i]? = _
    rw [enum_get bs (k + 1) i]
    show _ = (bs[i]?).map _
    rw [show k + 1 + i = k + (i + 1) by omega]
theorem enum_len : ∀ (bs : List Int) (k : Nat), (enumD k bs).length = bs.length
  | [], _ => rfl
  | b :: bs, k => by
    show (enumD (k + 1) bs).length + 1 = _
    rw [enum_len bs (k + 1)] <;> rfl
theorem wd_enum {K : PySem.W.Frag} {F0 : Hp} {a : Addr} {bs : List Int} (h : F0 a = some (HO.lst (bs.map V.int))) : WalkD (Ite K a) (enumD 0 bs) F0 where
  goes := fun i H hi sm => by
    rw [enum_len] at hi
    exact ⟨_, V.int bs[i], SqL.of (sm _ _ h), by rw [List.getElem?_map, List.getElem?_eq_getElem hi] <;> rfl⟩
  stops := fun H sm => ⟨_, SqL.of (sm _ _ h), by rw [List.length_map, enum_len]; exact Nat.le_refl _⟩
  yld := fun i F H x H' d hd s0 sm y => by
    obtain ⟨T, v, rfl, hn, rfl, hx⟩ := y
    rw [enum_get] at hd
    obtain ⟨b, e1, e2⟩ := map_some hd
    subst e2
    have e3 := hx _ (SqL.of (sm _ _ (s0 _ _ h)))
    rw [List.getElem?_map, e1] at e3
    cases e3
    have g : Grow N0 F H (upd F T (.tup [.int (i : Nat), .int b])) (upd H T (.tup [.int (i : Nat), .int b])) := Grow.newF sm hn
    refine ⟨_, g, .tup upd_same ?_⟩
    rw [Nat.zero_add]
    exact .cons (.int _) (.cons (.int _) .nil)
section
variable {P : Program} {w : World} {K : PySem.W.Frag} {mg : Str → Option Value} {base : Heap}
abbrev eSl (lo hi : TO) : TE := tSl (rSlL K) (tVar 0) lo hi
theorem ok_cells {f : Addr} {fd : FuncData} (T : Tx mg) (F : Fun K "_law_cells" "_law_cells" s_law_cells f fd) : FnOk P w K mg base CX0 1 f fd ["_law_script", "_law_most_so"] (spCells K) := by
  refine F.ok sc_law_cells (fun vs H Q E h => ?_) (fun cdv A outer s H vs Q E hr h => ?_)
  · obtain ⟨a, ns, rfl, _⟩ := h
    rfl
  · have b : DSS (cxOf CX0 P w K mg base N_law_cells "_law_cells" (defScope s_law_cells) f cdv A outer s H E).nox R0 (sbody2 ((defBody s_law_cells).getD 1 (.Pass ⟨0, 0, 0, 0⟩))) gb_law_cells := by
      exact (dss_cons (ds_set (i := 5) sc_law_cells.nd (dc_v (de_mod (DE.db (de_T1 call_int1 ca_int (by decide +kernel) rfl T.int (DE.db (de_var 3)))) (DE.db (de_var 1))))) (dss_one (ds_sub (k := 2) (de_add (DE.db (de_ix (db_var 2) (DE.db (de_var 5)))) (DE.db (de_mul (DE.db (de_var 4)) (DE.db (de_add (DE.db (de_var 3)) (DE.db de_int)))))) (de_var 5))))
    obtain ⟨a, ns, rfl, hS, h63, q⟩ := h
    refine ⟨_, pss_cons (ps_set (i := 2) sc_law_cells.nd rfl (Or.inl rfl) (pe_orT (pe_callTy call_list_of rfl T.list (by decide +kernel) (pa_cons (pe_slice sl_list (pe_var (i := 0) rfl (Or.inl rfl)) po_none (po_some (pe_var (i := 1) rfl (Or.inl rfl)))) pa_nil)) (pe_one (pe_lst (pa_cons pe_int pa_nil)))))
      (pss_cons (ps_for PassesOwn.never rfl (pi_enum rfl T.enumerate (pa_cons (pe_slice sl_list (pe_var (i := 0) rfl (Or.inl rfl)) (po_some (pe_var (i := 1) rfl (Or.inl rfl))) (po_some pe_int)) pa_nil)) (dg_tup2 (i := 3) (j := 4) rfl sc_law_cells.nd).pe b.pe) (pss_one (ps_ret (pe_var (i := 2) rfl (Or.inl rfl))))), ?_⟩
    have F0s : ∀ H1 : Hp, Same (fun _ => none) H1 := fun H1 _ _ e => nomatch e
    have r0 : Rel ⟨P, w, K⟩ ⟨N0, fun _ => none, H⟩ (fun _ => none) H (L2.start N_law_cells [V.ref a, V.int 1]) [.no, .val (.int 1), .no, .no, .no, .no] := by
      refine ⟨Grow.refl (F0s H), rfl, fun i d e => ?_, fun i s e m => ?_, fun i j s t p e1 e2 m1 m2 _ _ => ?_⟩
      · match i, e with
        | 0, e => cases e
        | 1, e =>
          cases e
          exact ⟨_, rfl, .int 1⟩
        | 2, e => cases e
        | 3, e => cases e
        | 4, e => cases e
        | 5, e => cases e
      · exfalso
        match i, e with
        | 0, e => cases e; cases m
        | 1, e => cases e; cases m
        | 2, e => cases e; cases m
        | 3, e => cases e; cases m
        | 4, e => cases e; cases m
        | 5, e => cases e; cases m
      · exfalso
        match i, e1 with
        | 0, e1 => cases e1; cases m1
        | 1, e1 => cases e1; cases m1
        | 2, e1 => cases e1; cases m1
        | 3, e1 => cases e1; cases m1
        | 4, e1 => cases e1; cases m1
        | 5, e1 => cases e1; cases m1
    -- from the cell's list on
    have after : ∀ (c : Int) (bs : List Int) (p : Addr) (H1 : Hp) (Dn : Ends), cellsOf ns = cellsGo 0 c bs → cutV (ns.map V.int) (some 1) (some 63) = bs.map V.int → bs.length ≤ 63 → Same H H1 → H p = none → H1 p = some (HO.lst [V.int c]) → Dn.rt = Q →
        tSeq (tFor (iEnum K (tCons (tSl (rSlL K) (tVar 0) (tPart (tVar 1)) (tPart (tC (.int 63)))) tNil)) (canG ⟨P, w, K⟩ (hTup2 3 4) [3, 4]) (canS ⟨P, w, K⟩ R0 gb_law_cells)) (tRet (tVar 2)) Dn ((L2.start N_law_cells [V.ref a, V.int 1]).set 2 (some (V.ref p))) H1 := by
      intro c bs p H1 Dn hc hcut hb63 sm hp h1 hDn
      have g1 : Grow N0 (fun _ => none) H (fun _ => none) H1 := ⟨Same.refl _, F0s H1, fun a o e _ => sm a o e, fun a o e => ⟨o, sm a o e⟩, fun _ _ _ e => e⟩
      have r1 : Rel ⟨P, w, K⟩ ⟨N0, fun _ => none, H⟩ (fun _ => none) H1 ((L2.start N_law_cells [V.ref a, V.int 1]).set 2 (some (V.ref p))) (rhoC c .no .no .no) :=
        r0.put (s := .own [.int c]) g1 2 ⟨p, rfl, hp, rfl, _, h1, .cons (.int c) .nil⟩
      refine ⟨_, rfl, _, rfl, 1, rfl, 63, rfl, a, _, rfl, sqL_same hS sm, fun p4 hp4 => ⟨p4, _, rfl, SqL.of upd_same, ?_⟩⟩
      rw [hcut]
      have g2 : Grow N0 (fun _ => none) H1 (upd (fun _ => none) p4 (HO.lst (bs.map V.int))) (upd H1 p4 (HO.lst (bs.map V.int))) := Grow.newF (F0s H1) hp4
      have r2 := r1.grow g2
      obtain ⟨x', y', z', e⟩ := for_cells bs 0 c .no .no .no (by omega)
      refine for_core (W := ⟨P, w, K⟩) (R := R0) canG_de canS_de r2 (wd_enum upd_same) e ?_
      intro σ' F' H' r'
      obtain ⟨p', k1, k2, ⟨vs', k3, k4⟩, k5⟩ := r'.own 2 _ rfl rfl
      have ev := ints_dq (ns := [cellsGo 0 c bs]) k4
      subst ev
      have hQ := q p' H' r'.gr.hh k5 (by rw [hc]; exact k3)
      refine ⟨_, k1, ?_⟩
      show Dn.rt _ _
      rw [hDn]
      exact hQ
    cases ns with
    | nil =>
      refine ⟨_, rfl, _, rfl, 1, rfl, a, _, rfl, hS, fun p1 hp1 => ⟨p1, _, rfl, .inl (SqL.of upd_same), fun p2 hp2 => ⟨false, .inl ⟨_, SqL.of upd_same, rfl⟩, ?_⟩⟩⟩
      have s1 : Same H (upd H p1 (HO.lst (cutV ([] : List V) none (some 1)))) := (Grow.newO (S := N0) (F := fun _ => none) (F0s H) hp1).hh
      have s2 := (Grow.newO (S := N0) (F := fun _ => none) (o := HO.lst (cutV ([] : List V) none (some 1))) (F0s _) hp2).hh
      refine ⟨by show 1 ≤ sizeLine; decide, fun p3 hp3 => ?_⟩
      have s3 := (Grow.newO (S := N0) (F := fun _ => none) (o := HO.lst [V.int 0]) (F0s _) hp3).hh
      exact after 0 [] p3 _ _ rfl rfl (by decide) ((s1.trans s2).trans s3) ((s1.trans s2).free hp3) upd_same rfl
    | cons n ns =>
      have hcut1 : cutV ((n :: ns).map V.int) none (some 1) = [V.int n] := by
        unfold cutV
        have e1 : HT.sIx ((n :: ns).map V.int).length 0 none = 0 := rfl
        have e2 : HT.sIx ((n :: ns).map V.int).length ((n :: ns).map V.int).length (some 1) = 1 := by
          rw [show (1 : Int) = ((1 : Nat) : Int) from rfl, HT.sIx_nat, List.length_map, List.length_cons]
          omega
        rw [e1, e2]
        rfl
      have hcut2 : cutV ((n :: ns).map V.int) (some 1) (some 63) = ns.map V.int := by
        unfold cutV
        have hl : ((n :: ns).map V.int).length = ns.length + 1 := by rw [List.length_map, List.length_cons]
        have e1 : HT.sIx ((n :: ns).map V.int).length 0 (some 1) = 1 := by
          rw [show (1 : Int) = ((1 : Nat) : Int) from rfl, HT.sIx_nat, hl]
          omega
        have e2 : HT.sIx ((n :: ns).map V.int).length ((n :: ns).map V.int).length (some 63) = ns.length + 1 := by
          rw [show (63 : Int) = ((63 : Nat) : Int) from rfl, HT.sIx_nat, hl]
          rw [List.length_cons] at h63
          omega
        rw [e1, e2, List.map_cons, List.drop_succ_cons, List.drop_zero]
        exact List.take_of_length_le (by rw [List.length_map]; omega)
      refine ⟨_, rfl, _, rfl, 1, rfl, a, _, rfl, hS, fun p1 hp1 => ⟨p1, _, rfl, .inl (SqL.of upd_same), fun p2 hp2 => ⟨true, .inl ⟨_, SqL.of upd_same, by rw [hcut1]; rfl⟩, ?_⟩⟩⟩
      have s1 := (Grow.newO (S := N0) (F := fun _ => none) (o := HO.lst (cutV ((n :: ns).map V.int) none (some 1))) (F0s H) hp1).hh
      have s2 := (Grow.newO (S := N0) (F := fun _ => none) (o := HO.lst (cutV ((n :: ns).map V.int) none (some 1))) (F0s _) hp2).hh
      exact after n ns p2 _ _ rfl hcut2 (by rw [List.length_cons] at h63; omega) (s1.trans s2) (s1.free hp2) (by rw [← hcut1]; exact upd_same) rfl
end
end GY
set_option Elab.async false
set_option linter.all false
set_option maxRecDepth 100000
set_option maxHeartbeats 4000000
/-! Gt6: law. -/
namespace GY
open PySem PySem.Spec PyProof.Rows L2
theorem hand_true : F_law_by_hand_right [] = some (.bool true) := by kernel_rfl
/-- the plain law -/
def PlainLaw : Prop := ∀ c : Int, ∃ zs es', F_law_box [.list [.int c], .int 0] = some zs ∧ F_law_right zs [] = some (.bool true, es')
def spLaw (K : PySem.W.Frag) : Sp := fun vs H Q _ => ∃ (a : Addr) (ns : List Int), vs = [.ref a] ∧ SqL K H a (ns.map V.int) ∧ ns.length ≤ 63 ∧ ∀ H', Q (.bl true) H'
abbrev s_law : Stmt := topS 58
abbrev N_law : List Str := ["_law_script"]
theorem sc_law : FnScope N_law ["_law_script"] (defScope s_law) := ⟨rfl, rfl, rfl, by decide +kernel, rfl, by decide +kernel, by decide +kernel⟩
section
variable {P : Program} {w : World} {K : PySem.W.Frag} {mg : Str → Option Value} {base : Heap}
theorem ok_law {f fc : Addr} {fd fdc : FuncData} (T : Tx mg) (PL : PlainLaw) (F : Fun K "law" "law" s_law f fd) (GH : DefD P w K mg base "_law_by_hand_right" 16 F_law_by_hand_right) (GR : DefE P w K mg base "_law_right" 16 F_law_right) (GB : DefL P w K mg base "_law_box" 1 F_law_box)
    (FC : Fun K "_law_cells" "_law_cells" s_law_cells fc fdc) (bc : Binds K fdc ["_law_script", "_law_most_so"] []) (mc : mg "_law_cells" = some (.ref fc)) : FnOk P w K mg base CX0 17 f fd ["_law_script"] (spLaw K) := by
  refine F.ok sc_law (fun vs H Q E h => ?_) (fun cdv A outer s H vs Q E hr h => ?_)
  · obtain ⟨a, ns, rfl, _⟩ := h
    rfl
  · obtain ⟨a, ns, rfl, hS, h63, q⟩ := h
    obtain ⟨fr, fdr, pr, mr, kr, br, FR⟩ := GR.ex
    obtain ⟨fb, fdb, pb, mb, kb, bb, FB⟩ := GB.ex
    have GC : FnOk P w K mg base CX0 1 fc fdc ["_law_script", "_law_most_so"] (spCells K) := ok_cells T FC
    have hT : DT (cxOf CX0 P w K mg base N_law "law" (defScope s_law) f cdv A outer s H E).nox (skid ((defBody s_law).getD 0 (.Pass ⟨0, 0, 0, 0⟩)) 0) (bNot (fun ρ => ((fun _ => F_law_by_hand_right []) ρ).bind asB)) := (dT_not (dT_val (de_call0 GH (hr.mono (by omega)) rfl)))
    refine ⟨_, pss_cons (ps_if hT.pe (pss_one (ps_ret pe_bl)) pss_nil) (pss_one (ps_ret (pe_call FR (hr.mono (by omega)) rfl mr kr br .nil pass0 (pa_cons (pe_call FB (hr.mono (by omega)) rfl mb kb bb .nil pass0 (pa_cons (pe_call GC (hr.mono (by omega)) rfl mc FC.kp bc .nil pass0 (pa_cons (pe_var (i := 0) rfl (Or.inl rfl)) (pa_cons pe_int pa_nil))) (pa_cons pe_int pa_nil))) pa_nil)))), ?_⟩
    have F0s : ∀ H1 : Hp, Same (fun _ => none) H1 := fun H1 _ _ e => nomatch e
    have r0 : Rel ⟨P, w, K⟩ ⟨N0, fun _ => none, H⟩ (fun _ => none) H (L2.start N_law [V.ref a]) [.no] := by
      refine ⟨Grow.refl (F0s H), rfl, fun i d e => ?_, fun i s e m => ?_, fun i j s t p e1 e2 m1 m2 _ _ => ?_⟩
      · exfalso
        match i, e with
        | 0, e => cases e
      · exfalso
        match i, e with
        | 0, e => cases e; cases m
      · exfalso
        match i, e1 with
        | 0, e1 => cases e1; cases m1
    have hb : (bNot (fun ρ => ((fun _ => F_law_by_hand_right []) ρ).bind asB)) [.no] = some false := by
      show (((F_law_by_hand_right []).bind asB).map fun b => !b) = _
      rw [hand_true]
      rfl
    refine canT_de.go r0 hb _ fun F1 H1 g1 => ?_
    obtain ⟨zs, es', hbox, hright⟩ := PL (cellsOf ns)
    refine ⟨_, rfl, a, ns, rfl, sqL_same hS g1.hh, h63, fun p H2 sm hp h2 => ?_⟩
    have hf1 : F1 p = none := none_of_same g1.fh hp
    have s2 : Same (upd F1 p (HO.lst [V.int (cellsOf ns)])) H2 := fun b o e => by
      by_cases c : b = p
      · subst c
        rw [upd_same] at e
        cases e
        exact h2
      · rw [upd_ne c] at e
        exact sm _ _ (g1.fh _ _ e)
    refine ⟨upd F1 p (HO.lst [V.int (cellsOf ns)]), [.list [.int (cellsOf ns)], .int 0], zs, s2, .cons (.lst upd_same (.cons (.int _) .nil)) (.cons (.int _) .nil), hbox, fun p2 ws F3 H3 g3 n1 n2 h3 a3 => ?_⟩
    exact ⟨F3, p2, [], ws, zs, [], es', .bool true, rfl, g3.fh, n2, h3, a3, .nil, hright, fun v F4 H4 e4 dv => by
      cases dv
      exact q H4⟩
end
end GY
set_option Elab.async false
set_option linter.all false
set_option maxRecDepth 100000
set_option maxHeartbeats 0
/-! Gh0: the head's data. -/
namespace GY
open PySem PySem.Spec PyProof.Rows L2
def d_is_number : He.DefD := ⟨("is_number", none), "is_number", "is_number", defArgs (topS 4), defBody (topS 4), defScope (topS 4), [], []⟩
def d_tuple_of : He.DefD := ⟨("tuple_of", none), "tuple_of", "tuple_of", defArgs (topS 5), defBody (topS 5), defScope (topS 5), [], []⟩
def d_is_set : He.DefD := ⟨("is_set", none), "is_set", "is_set", defArgs (topS 7), defBody (topS 7), defScope (topS 7), [], []⟩
def d_is_lot : He.DefD := ⟨("is_lot", none), "is_lot", "is_lot", defArgs (topS 8), defBody (topS 8), defScope (topS 8), [], []⟩
def d_all_areas : He.DefD := ⟨("all_areas", none), "all_areas", "all_areas", defArgs (topS 10), defBody (topS 10), defScope (topS 10), [], []⟩
def d_lots_within : He.DefD := ⟨("lots_within", none), "lots_within", "lots_within", defArgs (topS 11), defBody (topS 11), defScope (topS 11), [], []⟩
def d_rows_within : He.DefD := ⟨("rows_within", none), "rows_within", "rows_within", defArgs (topS 12), defBody (topS 12), defScope (topS 12), [], []⟩
def d_leads_in : He.DefD := ⟨("leads_in", none), "leads_in", "leads_in", defArgs (topS 13), defBody (topS 13), defScope (topS 13), [], []⟩
def d_flooded : He.DefD := ⟨("flooded", none), "flooded", "flooded", defArgs (topS 14), defBody (topS 14), defScope (topS 14), [], []⟩
def d_turned : He.DefD := ⟨("turned", none), "turned", "turned", defArgs (topS 15), defBody (topS 15), defScope (topS 15), [], []⟩
def d_closed_in : He.DefD := ⟨("closed_in", none), "closed_in", "closed_in", defArgs (topS 16), defBody (topS 16), defScope (topS 16), [], []⟩
def d_first_lot : He.DefD := ⟨("first_lot", none), "first_lot", "first_lot", defArgs (topS 17), defBody (topS 17), defScope (topS 17), [], []⟩
def d_chain_in : He.DefD := ⟨("chain_in", none), "chain_in", "chain_in", defArgs (topS 19), defBody (topS 19), defScope (topS 19), [], []⟩
def d_chain_of : He.DefD := ⟨("chain_of", none), "chain_of", "chain_of", defArgs (topS 20), defBody (topS 20), defScope (topS 20), [], []⟩
def d_is_within : He.DefD := ⟨("is_within", none), "is_within", "is_within", defArgs (topS 22), defBody (topS 22), defScope (topS 22), [], []⟩
def d_is_course : He.DefD := ⟨("is_course", none), "is_course", "is_course", defArgs (topS 24), defBody (topS 24), defScope (topS 24), [], []⟩
def d_less : He.DefD := ⟨("less", none), "less", "less", defArgs (topS 26), defBody (topS 26), defScope (topS 26), [], []⟩
def d_lies_in : He.DefD := ⟨("lies_in", none), "lies_in", "lies_in", defArgs (topS 27), defBody (topS 27), defScope (topS 27), [], []⟩
def d_frees_all : He.DefD := ⟨("frees_all", none), "frees_all", "frees_all", defArgs (topS 29), defBody (topS 29), defScope (topS 29), [], []⟩
def d_demands : He.DefD := ⟨("demands", none), "demands", "demands", defArgs (topS 30), defBody (topS 30), defScope (topS 30), [], []⟩
def d_fewest_lots : He.DefD := ⟨("fewest_lots", none), "fewest_lots", "fewest_lots", defArgs (topS 31), defBody (topS 31), defScope (topS 31), [], []⟩
def d_fewest_course : He.DefD := ⟨("fewest_course", none), "fewest_course", "fewest_course", defArgs (topS 32), defBody (topS 32), defScope (topS 32), [], []⟩
def d_is_fewest_course : He.DefD := ⟨("is_fewest_course", none), "is_fewest_course", "is_fewest_course", defArgs (topS 33), defBody (topS 33), defScope (topS 33), [], []⟩
def d_lots_added : He.DefD := ⟨("lots_added", none), "lots_added", "lots_added", defArgs (topS 34), defBody (topS 34), defScope (topS 34), [], []⟩
def d_law_box : He.DefD := ⟨("_law_box", none), "_law_box", "_law_box", defArgs (topS 36), defBody (topS 36), defScope (topS 36), [], []⟩
def d_law_take : He.DefD := ⟨("_law_take", none), "_law_take", "_law_take", defArgs (topS 37), defBody (topS 37), defScope (topS 37), [], []⟩
def d_law_cells : He.DefD := ⟨("_law_cells", none), "_law_cells", "_law_cells", defArgs (topS 38), defBody (topS 38), defScope (topS 38), [], []⟩
def d_law_pick : He.DefD := ⟨("_law_pick", none), "_law_pick", "_law_pick", defArgs (topS 39), defBody (topS 39), defScope (topS 39), [], []⟩
def d_law_lists : He.DefD := ⟨("_law_lists", none), "_law_lists", "_law_lists", defArgs (topS 40), defBody (topS 40), defScope (topS 40), [], []⟩
def d_law_same : He.DefD := ⟨("_law_same", none), "_law_same", "_law_same", defArgs (topS 41), defBody (topS 41), defScope (topS 41), [], []⟩
def d_law_lots : He.DefD := ⟨("_law_lots", none), "_law_lots", "_law_lots", defArgs (topS 42), defBody (topS 42), defScope (topS 42), [], []⟩
def d_law_rule : He.DefD := ⟨("_law_rule", none), "_law_rule", "_law_rule", defArgs (topS 43), defBody (topS 43), defScope (topS 43), [], []⟩
def d_law_course : He.DefD := ⟨("_law_course", none), "_law_course", "_law_course", defArgs (topS 44), defBody (topS 44), defScope (topS 44), [], []⟩
def d_law_trio : He.DefD := ⟨("_law_trio", none), "_law_trio", "_law_trio", defArgs (topS 45), defBody (topS 45), defScope (topS 45), [], []⟩
def d_law_arrows : He.DefD := ⟨("_law_arrows", none), "_law_arrows", "_law_arrows", defArgs (topS 46), defBody (topS 46), defScope (topS 46), [], []⟩
def d_law_from : He.DefD := ⟨("_law_from", none), "_law_from", "_law_from", defArgs (topS 47), defBody (topS 47), defScope (topS 47), [], []⟩
def d_law_woven : He.DefD := ⟨("_law_woven", none), "_law_woven", "_law_woven", defArgs (topS 48), defBody (topS 48), defScope (topS 48), [], []⟩
def d_law_lies : He.DefD := ⟨("_law_lies", none), "_law_lies", "_law_lies", defArgs (topS 49), defBody (topS 49), defScope (topS 49), [], []⟩
def d_law_missed : He.DefD := ⟨("_law_missed", none), "_law_missed", "_law_missed", defArgs (topS 50), defBody (topS 50), defScope (topS 50), [], []⟩
def d_law_sets : He.DefD := ⟨("_law_sets", none), "_law_sets", "_law_sets", defArgs (topS 51), defBody (topS 51), defScope (topS 51), [], []⟩
def d_law_fewest : He.DefD := ⟨("_law_fewest", none), "_law_fewest", "_law_fewest", defArgs (topS 52), defBody (topS 52), defScope (topS 52), [], []⟩
def d_law_wanted : He.DefD := ⟨("_law_wanted", none), "_law_wanted", "_law_wanted", defArgs (topS 53), defBody (topS 53), defScope (topS 53), [], []⟩
def d_law_asked : He.DefD := ⟨("_law_asked", none), "_law_asked", "_law_asked", defArgs (topS 54), defBody (topS 54), defScope (topS 54), [], []⟩
def d_law_is_course : He.DefD := ⟨("_law_is_course", none), "_law_is_course", "_law_is_course", defArgs (topS 55), defBody (topS 55), defScope (topS 55), [], []⟩
def d_law_by_hand_right : He.DefD := ⟨("_law_by_hand_right", none), "_law_by_hand_right", "_law_by_hand_right", defArgs (topS 56), defBody (topS 56), defScope (topS 56), [], []⟩
def d_law_right : He.DefD := ⟨("_law_right", none), "_law_right", "_law_right", defArgs (topS 57), defBody (topS 57), defScope (topS 57), [], []⟩
def d_law : He.DefD := ⟨("law", none), "law", "law", defArgs (topS 58), defBody (topS 58), defScope (topS 58), [], []⟩
def fn0 : List He.DefD := [d_is_number, d_tuple_of, d_is_set, d_is_lot, d_all_areas, d_lots_within, d_rows_within, d_leads_in, d_flooded, d_turned, d_closed_in, d_first_lot, d_chain_in, d_chain_of, d_is_within, d_is_course, d_less, d_lies_in, d_frees_all, d_demands, d_fewest_lots, d_fewest_course, d_is_fewest_course]
def fn1 : List He.DefD := [d_lots_added, d_law_box, d_law_take, d_law_cells, d_law_pick, d_law_lists, d_law_same, d_law_lots, d_law_rule, d_law_course, d_law_trio, d_law_arrows, d_law_from, d_law_woven, d_law_lies, d_law_missed, d_law_sets, d_law_fewest, d_law_wanted, d_law_asked, d_law_is_course, d_law_by_hand_right, d_law_right, d_law]
def fn : List He.DefD := fn0 ++ fn1
def fg0 : List He.Fa := [.glo "is_number", .glo "tuple_of", .glo "is_set", .glo "is_lot", .glo "all_areas", .glo "lots_within", .glo "rows_within", .glo "leads_in", .glo "flooded", .glo "turned", .glo "closed_in", .glo "first_lot", .glo "chain_in", .glo "chain_of", .glo "is_within", .glo "is_course", .glo "less", .glo "lies_in", .glo "frees_all", .glo "demands", .glo "fewest_lots", .glo "fewest_course", .glo "is_fewest_course"]
def fg1 : List He.Fa := [.glo "lots_added", .glo "_law_box", .glo "_law_take", .glo "_law_cells", .glo "_law_pick", .glo "_law_lists", .glo "_law_same", .glo "_law_lots", .glo "_law_rule", .glo "_law_course", .glo "_law_trio", .glo "_law_arrows", .glo "_law_from", .glo "_law_woven", .glo "_law_lies", .glo "_law_missed", .glo "_law_sets", .glo "_law_fewest", .glo "_law_wanted", .glo "_law_asked", .glo "_law_is_course", .glo "_law_by_hand_right", .glo "_law_right", .glo "law"]
def ff : List He.Fa := [.free "isinstance", .free "int", .free "bool", .free "list", .free "tuple", .free "str", .free "all", .free "any", .free "len", .free "range", .free "max", .free "min", .free "sorted", .free "set", .free "abs", .free "zip", .free "enumerate"]
def fe : List He.Fa := [.glo "CanNot", .exc "CanNot", .exm "CanNot" "CanNot" true]
def fa : List He.Fa := fg0 ++ (fg1 ++ (ff ++ fe))
def loose0 : List PySem.Str := ["combinations", "CanNot", "is_number", "tuple_of", "is_set", "is_lot", "all_areas", "lots_within", "rows_within", "leads_in", "flooded", "turned", "closed_in", "first_lot", "chain_in", "chain_of", "is_within", "is_course", "less", "lies_in", "frees_all", "demands", "fewest_lots", "fewest_course"]
def loose1 : List PySem.Str := ["is_fewest_course", "lots_added", "_law_box", "_law_take", "_law_cells", "_law_pick", "_law_lists", "_law_same", "_law_lots", "_law_rule", "_law_course", "_law_trio", "_law_arrows", "_law_from", "_law_woven", "_law_lies", "_law_missed", "_law_sets", "_law_fewest", "_law_wanted", "_law_asked", "_law_is_course", "_law_by_hand_right", "_law_right"]
def loose : List PySem.Str := loose0 ++ loose1
theorem tx_of {K : PySem.W.Frag} {h : Heap} {mg : Str → Option Value} (X : K.In h) (G : h.Ns mainGlobals mg) (c : He.SaysD fa fn K) : Tx mg := ⟨He.free_ok X G (c.fact 47 (f := .free "isinstance") rfl), He.free_ok X G (c.fact 48 (f := .free "int") rfl), He.free_ok X G (c.fact 49 (f := .free "bool") rfl), He.free_ok X G (c.fact 50 (f := .free "list") rfl), He.free_ok X G (c.fact 51 (f := .free "tuple") rfl), He.free_ok X G (c.fact 52 (f := .free "str") rfl), He.free_ok X G (c.fact 53 (f := .free "all") rfl), He.free_ok X G (c.fact 54 (f := .free "any") rfl), He.free_ok X G (c.fact 55 (f := .free "len") rfl), He.free_ok X G (c.fact 56 (f := .free "range") rfl), He.free_ok X G (c.fact 57 (f := .free "max") rfl), He.free_ok X G (c.fact 58 (f := .free "min") rfl), He.free_ok X G (c.fact 59 (f := .free "sorted") rfl), He.free_ok X G (c.fact 60 (f := .free "set") rfl), He.free_ok X G (c.fact 61 (f := .free "abs") rfl), He.free_ok X G (c.fact 62 (f := .free "zip") rfl), He.free_ok X G (c.fact 63 (f := .free "enumerate") rfl)⟩
/-! ### the hook: the library's, and what combinations names -/
def combB (K : PySem.W.Frag) : Bool := He.eqO (PySem.W.nsIn K mainGlobals "combinations") (some (some (.type "itertools.combinations")))
abbrev AlC : Type := He.AlD × Bool
def obC (g : Addr → Option Obj) : AlC := (He.obsDG 4 fa fn g, combB (He.frG g (He.asD g 4)))
def hkC : PySem.W.Hook where
  α := AlC
  obs := fun s => obC s.heap.get?
  val := fun _ => (He.valD fn, true)
  says := fun _ h => ∃ K : PySem.W.Frag, K.In h ∧ He.SaysD fa fn K ∧ combB K = true
  of := fun _ _ e => ⟨_, He.frG_in, congrArg (fun z : AlC => z.1) e, congrArg (fun z : AlC => z.2) e⟩
  keeps := fun _ _ _ ⟨K, hK, c⟩ k => ⟨K, PySem.W.Frag.In.keeps hK k, c⟩
def ob (s : PySem.W.SharedT) : AlC := obC (HandSHeadRun.getT s)
theorem ob_eq (s : PySem.W.SharedT) : ob s = hkC.obs s.abs := by
  have e : HandSHeadRun.getT s = s.abs.heap.get? := funext (HandSHeadRun.getT_eq s)
  show obC _ = obC _
  rw [e]
abbrev RowR : PySem.W.OpenRow := PySem.W.OpenLaw.row PySem.Challenge.rw_gatheryard_k74_whole_fewest_courses
end GY
set_option Elab.async false
set_option linter.all false
set_option maxRecDepth 100000
set_option maxHeartbeats 0
/-! Gh1: the head; the law under its plain law. -/
namespace GY
open PySem PySem.Spec PyProof.Rows L2
theorem run (w : World) : HandSHeadRun.RunEqI RowR (PySem.W.view RowR.prog [0, 58]) hkC ob 8000 loose w := by
  unfold HandSHeadRun.RunEqI
  kernel_rfl
theorem fun_of {K : PySem.W.Frag} {x qual : Str} {st : Stmt} {f : Addr} {fd : FuncData} (F : FunD K x qual (defArgs st) (defBody st) (defScope st) [] [] f fd) : Fun K x qual st f fd := by
  obtain ⟨⟨oc, od, dV, kV, doc, pm, an, cdv, ct, osl, h1, h2, h3, h4, h5⟩, kp⟩ := F
  rcases h4 with ⟨_, rfl⟩ | ⟨h, _⟩
  · exact ⟨⟨oc, od, kV, doc, pm, an, cdv, ct, osl, h1, h2, h3⟩, kp⟩
  · exact absurd rfl h
theorem def_zero {P : Program} {w : World} {K : PySem.W.Frag} {mg : Str → Option Value} {base : Heap} {x : Str} {f : Addr} {fd : FuncData} {ps : List Str} (hm : mg x = some (.ref f)) (hk : PySem.W.keepIn K (.ref f) = true) (bd : Binds K fd ps []) : DefD P w K mg base x 0 (fun _ => none) :=
  ⟨f, fd, ps, hm, hk, bd, ⟨(fun vs H Q E h => nomatch (show (none : Option D) = some _ from h.choose_spec.choose_spec.choose_spec.2.2.1)), (fun A outer s H args us vs Q E _ _ _ _ h => nomatch (show (none : Option D) = some _ from h.choose_spec.choose_spec.choose_spec.2.2.1))⟩⟩
theorem facts {P : Program} {w : World} {K : PySem.W.Frag} {h : Heap} {mg : Str → Option Value} {f : Addr} (X : K.In h) (G : h.Ns mainGlobals mg) (hfa : mg ("law" : Str) = some (.ref f)) (c : He.SaysD fa fn K) (cb : combB K = true) (PL : PlainLaw) :
    ∃ fd : FuncData, (∀ (s : Shared) (v : Value), BindsTo s fd ⟨[v], []⟩ [("_law_script", v)]) ∧ ∀ base : Heap, K.In base → base.Ns mainGlobals mg → FnOk P w K mg base CX0 17 f fd ["_law_script"] (spLaw K) := by
  have T : Tx mg := tx_of X G c
  have TC : Comb K mg := ⟨PySem.W.mg_of X G (He.eqO_ok cb)⟩
  obtain ⟨x1, x2, x3, x4⟩ := He.exc_ok (c.fact 65 (f := .exc "CanNot") rfl)
  have TX : CanT K mg (He.ga K "CanNot") := ⟨He.glo_ok X G (c.fact 64 (f := .glo "CanNot") rfl), x1, x2, x3, x4, He.exm_ok (c.fact 66 (f := .exm "CanNot" "CanNot" true) rfl)⟩
  obtain ⟨fd, D⟩ := c.def_ 46 (d := d_law) rfl
  have e := hfa.symm.trans (He.glo_ok X G (c.fact 46 (f := .glo "law") rfl))
  cases e
  have F : Fun K "law" "law" s_law (He.ga K "law") fd := fun_of D
  have b := FunD.bindsA (ps := ["_law_script"]) D fun _ _ _ _ _ _ us hl => match us, hl with | [_], _ => rfl
  refine ⟨fd, fun s v => b s [v] rfl, fun base _ _ => ?_⟩
  obtain ⟨fdc, Dc⟩ := c.def_ 26 (d := d_law_cells) rfl
  have FC : Fun K "_law_cells" "_law_cells" s_law_cells (He.ga K "_law_cells") fdc := fun_of Dc
  have mc := He.glo_ok X G (c.fact 26 (f := .glo "_law_cells") rfl)
  have bc : Binds K fdc ["_law_script", "_law_most_so"] [] := FC.binds fun _ _ _ _ _ _ us hl => match us, hl with | [_, _], _ => rfl
  obtain ⟨fd_is_number, D_is_number⟩ := c.def_ 0 (d := d_is_number) rfl
  have H_is_number : Fun K "is_number" "is_number" s_is_number (He.ga K "is_number") fd_is_number := fun_of D_is_number
  have m_is_number := He.glo_ok X G (c.fact 0 (f := .glo "is_number") rfl)
  have B_is_number : Binds K fd_is_number ["thing"] [] := H_is_number.binds fun _ _ _ _ _ _ us hl => match us, hl with | [_], _ => rfl
  have G_is_number : DefD P w K mg base "is_number" 1 F_is_number := def_mk H_is_number sc_is_number B_is_number m_is_number rfl (b_is_number T)
  obtain ⟨fd_tuple_of, D_tuple_of⟩ := c.def_ 1 (d := d_tuple_of) rfl
  have H_tuple_of : Fun K "tuple_of" "tuple_of" s_tuple_of (He.ga K "tuple_of") fd_tuple_of := fun_of D_tuple_of
  have m_tuple_of := He.glo_ok X G (c.fact 1 (f := .glo "tuple_of") rfl)
  have B_tuple_of : Binds K fd_tuple_of ["thing"] [] := H_tuple_of.binds fun _ _ _ _ _ _ us hl => match us, hl with | [_], _ => rfl
  have G_tuple_of_0 : DefD P w K mg base "tuple_of" 0 (Fr_tuple_of 0) := def_zero m_tuple_of H_tuple_of.kp B_tuple_of
  have G_tuple_of_1 : DefD P w K mg base "tuple_of" 1 (Fr_tuple_of 1) := def_mk H_tuple_of sc_tuple_of B_tuple_of m_tuple_of rfl (b_tuple_of T G_tuple_of_0)
  have G_tuple_of_2 : DefD P w K mg base "tuple_of" 2 (Fr_tuple_of 2) := def_mk H_tuple_of sc_tuple_of B_tuple_of m_tuple_of rfl (b_tuple_of T G_tuple_of_1)
  have G_tuple_of_3 : DefD P w K mg base "tuple_of" 3 (Fr_tuple_of 3) := def_mk H_tuple_of sc_tuple_of B_tuple_of m_tuple_of rfl (b_tuple_of T G_tuple_of_2)
  have G_tuple_of_4 : DefD P w K mg base "tuple_of" 4 (Fr_tuple_of 4) := def_mk H_tuple_of sc_tuple_of B_tuple_of m_tuple_of rfl (b_tuple_of T G_tuple_of_3)
  have G_tuple_of_5 : DefD P w K mg base "tuple_of" 5 (Fr_tuple_of 5) := def_mk H_tuple_of sc_tuple_of B_tuple_of m_tuple_of rfl (b_tuple_of T G_tuple_of_4)
  have G_tuple_of_6 : DefD P w K mg base "tuple_of" 6 (Fr_tuple_of 6) := def_mk H_tuple_of sc_tuple_of B_tuple_of m_tuple_of rfl (b_tuple_of T G_tuple_of_5)
  have G_tuple_of : DefD P w K mg base "tuple_of" 6 F_tuple_of := G_tuple_of_6
  obtain ⟨fd_is_set, D_is_set⟩ := c.def_ 2 (d := d_is_set) rfl
  have H_is_set : Fun K "is_set" "is_set" s_is_set (He.ga K "is_set") fd_is_set := fun_of D_is_set
  have m_is_set := He.glo_ok X G (c.fact 2 (f := .glo "is_set") rfl)
  have B_is_set : Binds K fd_is_set ["thing", "many"] [] := H_is_set.binds fun _ _ _ _ _ _ us hl => match us, hl with | [_, _], _ => rfl
  have G_is_set : DefD P w K mg base "is_set" 2 F_is_set := def_mk H_is_set sc_is_set B_is_set m_is_set rfl (b_is_set T G_is_number)
  obtain ⟨fd_is_lot, D_is_lot⟩ := c.def_ 3 (d := d_is_lot) rfl
  have H_is_lot : Fun K "is_lot" "is_lot" s_is_lot (He.ga K "is_lot") fd_is_lot := fun_of D_is_lot
  have m_is_lot := He.glo_ok X G (c.fact 3 (f := .glo "is_lot") rfl)
  have B_is_lot : Binds K fd_is_lot ["thing", "m"] [] := H_is_lot.binds fun _ _ _ _ _ _ us hl => match us, hl with | [_, _], _ => rfl
  have G_is_lot : DefD P w K mg base "is_lot" 3 F_is_lot := def_mk H_is_lot sc_is_lot B_is_lot m_is_lot rfl (b_is_lot T G_is_set)
  obtain ⟨fd_all_areas, D_all_areas⟩ := c.def_ 4 (d := d_all_areas) rfl
  have H_all_areas : Fun K "all_areas" "all_areas" s_all_areas (He.ga K "all_areas") fd_all_areas := fun_of D_all_areas
  have m_all_areas := He.glo_ok X G (c.fact 4 (f := .glo "all_areas") rfl)
  have B_all_areas : Binds K fd_all_areas ["rule"] [] := H_all_areas.binds fun _ _ _ _ _ _ us hl => match us, hl with | [_], _ => rfl
  have G_all_areas : DefD P w K mg base "all_areas" 1 F_all_areas := def_mk H_all_areas sc_all_areas B_all_areas m_all_areas rfl (b_all_areas T)
  obtain ⟨fd_lots_within, D_lots_within⟩ := c.def_ 5 (d := d_lots_within) rfl
  have H_lots_within : Fun K "lots_within" "lots_within" s_lots_within (He.ga K "lots_within") fd_lots_within := fun_of D_lots_within
  have m_lots_within := He.glo_ok X G (c.fact 5 (f := .glo "lots_within") rfl)
  have B_lots_within : Binds K fd_lots_within ["lot"] [] := H_lots_within.binds fun _ _ _ _ _ _ us hl => match us, hl with | [_], _ => rfl
  have G_lots_within : DefD P w K mg base "lots_within" 1 F_lots_within := def_mk H_lots_within sc_lots_within B_lots_within m_lots_within rfl (b_lots_within T TC)
  obtain ⟨fd_rows_within, D_rows_within⟩ := c.def_ 6 (d := d_rows_within) rfl
  have H_rows_within : Fun K "rows_within" "rows_within" s_rows_within (He.ga K "rows_within") fd_rows_within := fun_of D_rows_within
  have m_rows_within := He.glo_ok X G (c.fact 6 (f := .glo "rows_within") rfl)
  have B_rows_within : Binds K fd_rows_within ["rule", "lot"] [] := H_rows_within.binds fun _ _ _ _ _ _ us hl => match us, hl with | [_, _], _ => rfl
  have G_rows_within : DefD P w K mg base "rows_within" 7 F_rows_within := def_mk H_rows_within sc_rows_within B_rows_within m_rows_within rfl (b_rows_within T G_tuple_of)
  obtain ⟨fd_leads_in, D_leads_in⟩ := c.def_ 7 (d := d_leads_in) rfl
  have H_leads_in : Fun K "leads_in" "leads_in" s_leads_in (He.ga K "leads_in") fd_leads_in := fun_of D_leads_in
  have m_leads_in := He.glo_ok X G (c.fact 7 (f := .glo "leads_in") rfl)
  have B_leads_in : Binds K fd_leads_in ["rule", "lot"] [] := H_leads_in.binds fun _ _ _ _ _ _ us hl => match us, hl with | [_, _], _ => rfl
  have G_leads_in : DefD P w K mg base "leads_in" 8 F_leads_in := def_mk H_leads_in sc_leads_in B_leads_in m_leads_in rfl (b_leads_in T G_rows_within)
  obtain ⟨fd_flooded, D_flooded⟩ := c.def_ 8 (d := d_flooded) rfl
  have H_flooded : Fun K "flooded" "flooded" s_flooded (He.ga K "flooded") fd_flooded := fun_of D_flooded
  have m_flooded := He.glo_ok X G (c.fact 8 (f := .glo "flooded") rfl)
  have B_flooded : Binds K fd_flooded ["pairs", "area"] [] := H_flooded.binds fun _ _ _ _ _ _ us hl => match us, hl with | [_, _], _ => rfl
  have G_flooded : DefD P w K mg base "flooded" 1 F_flooded := def_mk H_flooded sc_flooded B_flooded m_flooded rfl (b_flooded T)
  obtain ⟨fd_turned, D_turned⟩ := c.def_ 9 (d := d_turned) rfl
  have H_turned : Fun K "turned" "turned" s_turned (He.ga K "turned") fd_turned := fun_of D_turned
  have m_turned := He.glo_ok X G (c.fact 9 (f := .glo "turned") rfl)
  have B_turned : Binds K fd_turned ["pairs"] [] := H_turned.binds fun _ _ _ _ _ _ us hl => match us, hl with | [_], _ => rfl
  have G_turned : DefD P w K mg base "turned" 1 F_turned := def_mk H_turned sc_turned B_turned m_turned rfl (b_turned T)
  obtain ⟨fd_closed_in, D_closed_in⟩ := c.def_ 10 (d := d_closed_in) rfl
  have H_closed_in : Fun K "closed_in" "closed_in" s_closed_in (He.ga K "closed_in") fd_closed_in := fun_of D_closed_in
  have m_closed_in := He.glo_ok X G (c.fact 10 (f := .glo "closed_in") rfl)
  have B_closed_in : Binds K fd_closed_in ["rule", "lot"] [] := H_closed_in.binds fun _ _ _ _ _ _ us hl => match us, hl with | [_, _], _ => rfl
  have G_closed_in : DefD P w K mg base "closed_in" 9 F_closed_in := def_mk H_closed_in sc_closed_in B_closed_in m_closed_in rfl (b_closed_in T G_turned G_leads_in G_flooded)
  obtain ⟨fd_first_lot, D_first_lot⟩ := c.def_ 11 (d := d_first_lot) rfl
  have H_first_lot : Fun K "first_lot" "first_lot" s_first_lot (He.ga K "first_lot") fd_first_lot := fun_of D_first_lot
  have m_first_lot := He.glo_ok X G (c.fact 11 (f := .glo "first_lot") rfl)
  have B_first_lot : Binds K fd_first_lot ["rule", "lot"] [] := H_first_lot.binds fun _ _ _ _ _ _ us hl => match us, hl with | [_, _], _ => rfl
  have G_first_lot : DefD P w K mg base "first_lot" 10 F_first_lot := def_mk H_first_lot sc_first_lot B_first_lot m_first_lot rfl (b_first_lot T G_closed_in)
  obtain ⟨fd_chain_in, D_chain_in⟩ := c.def_ 12 (d := d_chain_in) rfl
  have H_chain_in : Fun K "chain_in" "chain_in" s_chain_in (He.ga K "chain_in") fd_chain_in := fun_of D_chain_in
  have m_chain_in := He.glo_ok X G (c.fact 12 (f := .glo "chain_in") rfl)
  have B_chain_in : Binds K fd_chain_in ["rule", "lot"] [] := H_chain_in.binds fun _ _ _ _ _ _ us hl => match us, hl with | [_, _], _ => rfl
  have G_chain_in : DefD P w K mg base "chain_in" 11 F_chain_in := def_mk H_chain_in sc_chain_in B_chain_in m_chain_in rfl (b_chain_in T G_tuple_of G_first_lot)
  obtain ⟨fd_chain_of, D_chain_of⟩ := c.def_ 13 (d := d_chain_of) rfl
  have H_chain_of : Fun K "chain_of" "chain_of" s_chain_of (He.ga K "chain_of") fd_chain_of := fun_of D_chain_of
  have m_chain_of := He.glo_ok X G (c.fact 13 (f := .glo "chain_of") rfl)
  have B_chain_of : Binds K fd_chain_of ["rule"] [] := H_chain_of.binds fun _ _ _ _ _ _ us hl => match us, hl with | [_], _ => rfl
  have G_chain_of : DefD P w K mg base "chain_of" 12 F_chain_of := def_mk H_chain_of sc_chain_of B_chain_of m_chain_of rfl (b_chain_of T G_chain_in G_all_areas)
  obtain ⟨fd_is_within, D_is_within⟩ := c.def_ 14 (d := d_is_within) rfl
  have H_is_within : Fun K "is_within" "is_within" s_is_within (He.ga K "is_within") fd_is_within := fun_of D_is_within
  have m_is_within := He.glo_ok X G (c.fact 14 (f := .glo "is_within") rfl)
  have B_is_within : Binds K fd_is_within ["lot", "other"] [] := H_is_within.binds fun _ _ _ _ _ _ us hl => match us, hl with | [_, _], _ => rfl
  have G_is_within : DefD P w K mg base "is_within" 1 F_is_within := def_mk H_is_within sc_is_within B_is_within m_is_within rfl (b_is_within T)
  obtain ⟨fd_is_course, D_is_course⟩ := c.def_ 15 (d := d_is_course) rfl
  have H_is_course : Fun K "is_course" "is_course" s_is_course (He.ga K "is_course") fd_is_course := fun_of D_is_course
  have m_is_course := He.glo_ok X G (c.fact 15 (f := .glo "is_course") rfl)
  have B_is_course : Binds K fd_is_course ["thing", "m"] [] := H_is_course.binds fun _ _ _ _ _ _ us hl => match us, hl with | [_, _], _ => rfl
  have G_is_course : DefD P w K mg base "is_course" 4 F_is_course := def_mk H_is_course sc_is_course B_is_course m_is_course rfl (b_is_course T G_is_lot)
  obtain ⟨fd_less, D_less⟩ := c.def_ 16 (d := d_less) rfl
  have H_less : Fun K "less" "less" s_less (He.ga K "less") fd_less := fun_of D_less
  have m_less := He.glo_ok X G (c.fact 16 (f := .glo "less") rfl)
  have B_less : Binds K fd_less ["lot", "inner"] [] := H_less.binds fun _ _ _ _ _ _ us hl => match us, hl with | [_, _], _ => rfl
  have G_less : DefD P w K mg base "less" 1 F_less := def_mk H_less sc_less B_less m_less rfl (b_less T)
  obtain ⟨fd_lies_in, D_lies_in⟩ := c.def_ 17 (d := d_lies_in) rfl
  have H_lies_in : Fun K "lies_in" "lies_in" s_lies_in (He.ga K "lies_in") fd_lies_in := fun_of D_lies_in
  have m_lies_in := He.glo_ok X G (c.fact 17 (f := .glo "lies_in") rfl)
  have B_lies_in : Binds K fd_lies_in ["lot", "course"] [] := H_lies_in.binds fun _ _ _ _ _ _ us hl => match us, hl with | [_, _], _ => rfl
  have G_lies_in : DefD P w K mg base "lies_in" 2 F_lies_in := def_mk H_lies_in sc_lies_in B_lies_in m_lies_in rfl (b_lies_in T G_less)
  obtain ⟨fd_frees_all, D_frees_all⟩ := c.def_ 18 (d := d_frees_all) rfl
  have H_frees_all : Fun K "frees_all" "frees_all" s_frees_all (He.ga K "frees_all") fd_frees_all := fun_of D_frees_all
  have m_frees_all := He.glo_ok X G (c.fact 18 (f := .glo "frees_all") rfl)
  have B_frees_all : Binds K fd_frees_all ["rule", "course"] [] := H_frees_all.binds fun _ _ _ _ _ _ us hl => match us, hl with | [_, _], _ => rfl
  have G_frees_all : DefD P w K mg base "frees_all" 13 F_frees_all := def_mk H_frees_all sc_frees_all B_frees_all m_frees_all rfl (b_frees_all T G_chain_of G_lies_in)
  obtain ⟨fd_demands, D_demands⟩ := c.def_ 19 (d := d_demands) rfl
  have H_demands : Fun K "demands" "demands" s_demands (He.ga K "demands") fd_demands := fun_of D_demands
  have m_demands := He.glo_ok X G (c.fact 19 (f := .glo "demands") rfl)
  have B_demands : Binds K fd_demands ["rules"] [] := H_demands.binds fun _ _ _ _ _ _ us hl => match us, hl with | [_], _ => rfl
  have G_demands : DefD P w K mg base "demands" 13 F_demands := def_mk H_demands sc_demands B_demands m_demands rfl (b_demands T G_chain_of G_lies_in)
  obtain ⟨fd_fewest_lots, D_fewest_lots⟩ := c.def_ 20 (d := d_fewest_lots) rfl
  have H_fewest_lots : Fun K "fewest_lots" "fewest_lots" s_fewest_lots (He.ga K "fewest_lots") fd_fewest_lots := fun_of D_fewest_lots
  have m_fewest_lots := He.glo_ok X G (c.fact 20 (f := .glo "fewest_lots") rfl)
  have B_fewest_lots : Binds K fd_fewest_lots ["wanted", "areas", "most"] [] := H_fewest_lots.binds fun _ _ _ _ _ _ us hl => match us, hl with | [_, _, _], _ => rfl
  have G_fewest_lots : DefD P w K mg base "fewest_lots" 2 F_fewest_lots := def_mk H_fewest_lots sc_fewest_lots B_fewest_lots m_fewest_lots rfl (b_fewest_lots T G_lots_within G_is_within)
  obtain ⟨fd_is_fewest_course, D_is_fewest_course⟩ := c.def_ 22 (d := d_is_fewest_course) rfl
  have H_is_fewest_course : Fun K "is_fewest_course" "is_fewest_course" s_is_fewest_course (He.ga K "is_fewest_course") fd_is_fewest_course := fun_of D_is_fewest_course
  have m_is_fewest_course := He.glo_ok X G (c.fact 22 (f := .glo "is_fewest_course") rfl)
  have B_is_fewest_course : Binds K fd_is_fewest_course ["rules", "most", "thing"] [] := H_is_fewest_course.binds fun _ _ _ _ _ _ us hl => match us, hl with | [_, _, _], _ => rfl
  have G_is_fewest_course : DefD P w K mg base "is_fewest_course" 14 F_is_fewest_course := def_mk H_is_fewest_course sc_is_fewest_course B_is_fewest_course m_is_fewest_course rfl (b_is_fewest_course T G_all_areas G_fewest_lots G_demands G_is_course G_frees_all)
  obtain ⟨fd_law_lists, D_law_lists⟩ := c.def_ 28 (d := d_law_lists) rfl
  have H_law_lists : Fun K "_law_lists" "_law_lists" s_law_lists (He.ga K "_law_lists") fd_law_lists := fun_of D_law_lists
  have m_law_lists := He.glo_ok X G (c.fact 28 (f := .glo "_law_lists") rfl)
  have B_law_lists : Binds K fd_law_lists ["_law_matter"] [] := H_law_lists.binds fun _ _ _ _ _ _ us hl => match us, hl with | [_], _ => rfl
  have G_law_lists_0 : DefD P w K mg base "_law_lists" 0 (Fr_law_lists 0) := def_zero m_law_lists H_law_lists.kp B_law_lists
  have G_law_lists_1 : DefD P w K mg base "_law_lists" 1 (Fr_law_lists 1) := def_mk H_law_lists sc_law_lists B_law_lists m_law_lists rfl (b_law_lists T G_law_lists_0)
  have G_law_lists_2 : DefD P w K mg base "_law_lists" 2 (Fr_law_lists 2) := def_mk H_law_lists sc_law_lists B_law_lists m_law_lists rfl (b_law_lists T G_law_lists_1)
  have G_law_lists_3 : DefD P w K mg base "_law_lists" 3 (Fr_law_lists 3) := def_mk H_law_lists sc_law_lists B_law_lists m_law_lists rfl (b_law_lists T G_law_lists_2)
  have G_law_lists_4 : DefD P w K mg base "_law_lists" 4 (Fr_law_lists 4) := def_mk H_law_lists sc_law_lists B_law_lists m_law_lists rfl (b_law_lists T G_law_lists_3)
  have G_law_lists_5 : DefD P w K mg base "_law_lists" 5 (Fr_law_lists 5) := def_mk H_law_lists sc_law_lists B_law_lists m_law_lists rfl (b_law_lists T G_law_lists_4)
  have G_law_lists_6 : DefD P w K mg base "_law_lists" 6 (Fr_law_lists 6) := def_mk H_law_lists sc_law_lists B_law_lists m_law_lists rfl (b_law_lists T G_law_lists_5)
  have G_law_lists : DefD P w K mg base "_law_lists" 6 F_law_lists := G_law_lists_6
  obtain ⟨fd_law_same, D_law_same⟩ := c.def_ 29 (d := d_law_same) rfl
  have H_law_same : Fun K "_law_same" "_law_same" s_law_same (He.ga K "_law_same") fd_law_same := fun_of D_law_same
  have m_law_same := He.glo_ok X G (c.fact 29 (f := .glo "_law_same") rfl)
  have B_law_same : Binds K fd_law_same ["_law_got", "_law_due"] [] := H_law_same.binds fun _ _ _ _ _ _ us hl => match us, hl with | [_, _], _ => rfl
  have G_law_same_0 : DefD P w K mg base "_law_same" 0 (Fr_law_same 0) := def_zero m_law_same H_law_same.kp B_law_same
  have G_law_same_1 : DefD P w K mg base "_law_same" 1 (Fr_law_same 1) := def_mk H_law_same sc_law_same B_law_same m_law_same rfl (b_law_same T G_law_same_0)
  have G_law_same_2 : DefD P w K mg base "_law_same" 2 (Fr_law_same 2) := def_mk H_law_same sc_law_same B_law_same m_law_same rfl (b_law_same T G_law_same_1)
  have G_law_same_3 : DefD P w K mg base "_law_same" 3 (Fr_law_same 3) := def_mk H_law_same sc_law_same B_law_same m_law_same rfl (b_law_same T G_law_same_2)
  have G_law_same_4 : DefD P w K mg base "_law_same" 4 (Fr_law_same 4) := def_mk H_law_same sc_law_same B_law_same m_law_same rfl (b_law_same T G_law_same_3)
  have G_law_same_5 : DefD P w K mg base "_law_same" 5 (Fr_law_same 5) := def_mk H_law_same sc_law_same B_law_same m_law_same rfl (b_law_same T G_law_same_4)
  have G_law_same_6 : DefD P w K mg base "_law_same" 6 (Fr_law_same 6) := def_mk H_law_same sc_law_same B_law_same m_law_same rfl (b_law_same T G_law_same_5)
  have G_law_same : DefD P w K mg base "_law_same" 6 F_law_same := G_law_same_6
  obtain ⟨fd_law_lots, D_law_lots⟩ := c.def_ 30 (d := d_law_lots) rfl
  have H_law_lots : Fun K "_law_lots" "_law_lots" s_law_lots (He.ga K "_law_lots") fd_law_lots := fun_of D_law_lots
  have m_law_lots := He.glo_ok X G (c.fact 30 (f := .glo "_law_lots") rfl)
  have B_law_lots : Binds K fd_law_lots ["_law_wide_so"] [] := H_law_lots.binds fun _ _ _ _ _ _ us hl => match us, hl with | [_], _ => rfl
  have G_law_lots : DefD P w K mg base "_law_lots" 1 F_law_lots := def_mk H_law_lots sc_law_lots B_law_lots m_law_lots rfl (b_law_lots T)
  obtain ⟨fd_law_trio, D_law_trio⟩ := c.def_ 33 (d := d_law_trio) rfl
  have H_law_trio : Fun K "_law_trio" "_law_trio" s_law_trio (He.ga K "_law_trio") fd_law_trio := fun_of D_law_trio
  have m_law_trio := He.glo_ok X G (c.fact 33 (f := .glo "_law_trio") rfl)
  have B_law_trio : Binds K fd_law_trio [] [] := H_law_trio.binds fun _ _ _ _ _ _ us hl => match us, hl with | [], _ => rfl
  have G_law_trio : DefD P w K mg base "_law_trio" 1 F_law_trio := def_mk H_law_trio sc_law_trio B_law_trio m_law_trio rfl (b_law_trio T)
  obtain ⟨fd_law_arrows, D_law_arrows⟩ := c.def_ 34 (d := d_law_arrows) rfl
  have H_law_arrows : Fun K "_law_arrows" "_law_arrows" s_law_arrows (He.ga K "_law_arrows") fd_law_arrows := fun_of D_law_arrows
  have m_law_arrows := He.glo_ok X G (c.fact 34 (f := .glo "_law_arrows") rfl)
  have B_law_arrows : Binds K fd_law_arrows ["_law_rule_so", "_law_lot_so"] [] := H_law_arrows.binds fun _ _ _ _ _ _ us hl => match us, hl with | [_, _], _ => rfl
  have G_law_arrows : DefD P w K mg base "_law_arrows" 1 F_law_arrows := def_mk H_law_arrows sc_law_arrows B_law_arrows m_law_arrows rfl (b_law_arrows T)
  obtain ⟨fd_law_from, D_law_from⟩ := c.def_ 35 (d := d_law_from) rfl
  have H_law_from : Fun K "_law_from" "_law_from" s_law_from (He.ga K "_law_from") fd_law_from := fun_of D_law_from
  have m_law_from := He.glo_ok X G (c.fact 35 (f := .glo "_law_from") rfl)
  have B_law_from : Binds K fd_law_from ["_law_arrows_so", "_law_start_so"] [] := H_law_from.binds fun _ _ _ _ _ _ us hl => match us, hl with | [_, _], _ => rfl
  have G_law_from : DefD P w K mg base "_law_from" 1 F_law_from := def_mk H_law_from sc_law_from B_law_from m_law_from rfl (b_law_from T)
  obtain ⟨fd_law_woven, D_law_woven⟩ := c.def_ 36 (d := d_law_woven) rfl
  have H_law_woven : Fun K "_law_woven" "_law_woven" s_law_woven (He.ga K "_law_woven") fd_law_woven := fun_of D_law_woven
  have m_law_woven := He.glo_ok X G (c.fact 36 (f := .glo "_law_woven") rfl)
  have B_law_woven : Binds K fd_law_woven ["_law_rule_so", "_law_lot_so"] [] := H_law_woven.binds fun _ _ _ _ _ _ us hl => match us, hl with | [_, _], _ => rfl
  have G_law_woven : DefD P w K mg base "_law_woven" 2 F_law_woven := def_mk H_law_woven sc_law_woven B_law_woven m_law_woven rfl (b_law_woven T G_law_arrows G_law_from)
  obtain ⟨fd_law_lies, D_law_lies⟩ := c.def_ 37 (d := d_law_lies) rfl
  have H_law_lies : Fun K "_law_lies" "_law_lies" s_law_lies (He.ga K "_law_lies") fd_law_lies := fun_of D_law_lies
  have m_law_lies := He.glo_ok X G (c.fact 37 (f := .glo "_law_lies") rfl)
  have B_law_lies : Binds K fd_law_lies ["_law_lot_so", "_law_course_so"] [] := H_law_lies.binds fun _ _ _ _ _ _ us hl => match us, hl with | [_, _], _ => rfl
  have G_law_lies : DefD P w K mg base "_law_lies" 1 F_law_lies := def_mk H_law_lies sc_law_lies B_law_lies m_law_lies rfl (b_law_lies T)
  obtain ⟨fd_law_missed, D_law_missed⟩ := c.def_ 38 (d := d_law_missed) rfl
  have H_law_missed : Fun K "_law_missed" "_law_missed" s_law_missed (He.ga K "_law_missed") fd_law_missed := fun_of D_law_missed
  have m_law_missed := He.glo_ok X G (c.fact 38 (f := .glo "_law_missed") rfl)
  have B_law_missed : Binds K fd_law_missed ["_law_rule_so", "_law_wide_so", "_law_course_so"] [] := H_law_missed.binds fun _ _ _ _ _ _ us hl => match us, hl with | [_, _, _], _ => rfl
  have G_law_missed : DefD P w K mg base "_law_missed" 3 F_law_missed := def_mk H_law_missed sc_law_missed B_law_missed m_law_missed rfl (b_law_missed T G_law_lots G_law_lies G_law_woven)
  obtain ⟨fd_law_sets, D_law_sets⟩ := c.def_ 39 (d := d_law_sets) rfl
  have H_law_sets : Fun K "_law_sets" "_law_sets" s_law_sets (He.ga K "_law_sets") fd_law_sets := fun_of D_law_sets
  have m_law_sets := He.glo_ok X G (c.fact 39 (f := .glo "_law_sets") rfl)
  have B_law_sets : Binds K fd_law_sets ["_law_goods_so", "_law_size_so"] [] := H_law_sets.binds fun _ _ _ _ _ _ us hl => match us, hl with | [_, _], _ => rfl
  have G_law_sets : DefD P w K mg base "_law_sets" 1 F_law_sets := def_mk H_law_sets sc_law_sets B_law_sets m_law_sets rfl (b_law_sets T)
  obtain ⟨fd_law_fewest, D_law_fewest⟩ := c.def_ 40 (d := d_law_fewest) rfl
  have H_law_fewest : Fun K "_law_fewest" "_law_fewest" s_law_fewest (He.ga K "_law_fewest") fd_law_fewest := fun_of D_law_fewest
  have m_law_fewest := He.glo_ok X G (c.fact 40 (f := .glo "_law_fewest") rfl)
  have B_law_fewest : Binds K fd_law_fewest ["_law_wide_so", "_law_wanted_so", "_law_most_so"] [] := H_law_fewest.binds fun _ _ _ _ _ _ us hl => match us, hl with | [_, _, _], _ => rfl
  have G_law_fewest : DefD P w K mg base "_law_fewest" 2 F_law_fewest := def_mk H_law_fewest sc_law_fewest B_law_fewest m_law_fewest rfl (b_law_fewest T G_law_lots G_law_sets G_law_lies)
  obtain ⟨fd_law_wanted, D_law_wanted⟩ := c.def_ 41 (d := d_law_wanted) rfl
  have H_law_wanted : Fun K "_law_wanted" "_law_wanted" s_law_wanted (He.ga K "_law_wanted") fd_law_wanted := fun_of D_law_wanted
  have m_law_wanted := He.glo_ok X G (c.fact 41 (f := .glo "_law_wanted") rfl)
  have B_law_wanted : Binds K fd_law_wanted ["_law_rules_so", "_law_wide_so"] [] := H_law_wanted.binds fun _ _ _ _ _ _ us hl => match us, hl with | [_, _], _ => rfl
  have G_law_wanted : DefD P w K mg base "_law_wanted" 4 F_law_wanted := def_mk H_law_wanted sc_law_wanted B_law_wanted m_law_wanted rfl (b_law_wanted T G_law_missed G_law_lies)
  obtain ⟨fd_law_is_course, D_law_is_course⟩ := c.def_ 43 (d := d_law_is_course) rfl
  have H_law_is_course : Fun K "_law_is_course" "_law_is_course" s_law_is_course (He.ga K "_law_is_course") fd_law_is_course := fun_of D_law_is_course
  have m_law_is_course := He.glo_ok X G (c.fact 43 (f := .glo "_law_is_course") rfl)
  have B_law_is_course : Binds K fd_law_is_course ["_law_told", "_law_wide_so", "_law_most_so"] [] := H_law_is_course.binds fun _ _ _ _ _ _ us hl => match us, hl with | [_, _, _], _ => rfl
  have G_law_is_course : DefD P w K mg base "_law_is_course" 7 F_law_is_course := def_mk H_law_is_course sc_law_is_course B_law_is_course m_law_is_course rfl (b_law_is_course T G_law_lots G_law_same)
  obtain ⟨fd_fewest_course, D_fewest_course⟩ := c.def_ 21 (d := d_fewest_course) rfl
  have H_fewest_course : Fun K "fewest_course" "fewest_course" s_fewest_course (He.ga K "fewest_course") fd_fewest_course := fun_of D_fewest_course
  have m_fewest_course := He.glo_ok X G (c.fact 21 (f := .glo "fewest_course") rfl)
  have B_fewest_course : Binds K fd_fewest_course ["rules", "most"] [] := H_fewest_course.binds fun _ _ _ _ _ _ us hl => match us, hl with | [_, _], _ => rfl
  have G_fewest_course : DefR P w K mg base (He.ga K "CanNot") "fewest_course" 14 F_fewest_course := def_mkX H_fewest_course sc_fewest_course B_fewest_course m_fewest_course rfl (b_fewest_course T TX G_fewest_lots G_demands G_all_areas)
  obtain ⟨fd_lots_added, D_lots_added⟩ := c.def_ 23 (d := d_lots_added) rfl
  have H_lots_added : Fun K "lots_added" "lots_added" s_lots_added (He.ga K "lots_added") fd_lots_added := fun_of D_lots_added
  have m_lots_added := He.glo_ok X G (c.fact 23 (f := .glo "lots_added") rfl)
  have B_lots_added : Binds K fd_lots_added ["rule", "course", "most"] [] := H_lots_added.binds fun _ _ _ _ _ _ us hl => match us, hl with | [_, _, _], _ => rfl
  have G_lots_added : DefR P w K mg base (He.ga K "CanNot") "lots_added" 13 F_lots_added := def_mkX H_lots_added sc_lots_added B_lots_added m_lots_added rfl (b_lots_added T TX G_chain_of G_lies_in G_fewest_lots G_all_areas)
  obtain ⟨fd_law_asked, D_law_asked⟩ := c.def_ 42 (d := d_law_asked) rfl
  have H_law_asked : Fun K "_law_asked" "_law_asked" s_law_asked (He.ga K "_law_asked") fd_law_asked := fun_of D_law_asked
  have m_law_asked := He.glo_ok X G (c.fact 42 (f := .glo "_law_asked") rfl)
  have B_law_asked : Binds K fd_law_asked ["_law_door_so", "_law_one_so", "_law_two_so", "_law_most_so"] [] := H_law_asked.binds fun _ _ _ _ _ _ us hl => match us, hl with | [_, _, _, _], _ => rfl
  have G_law_asked : DefD P w K mg base "_law_asked" 15 F_law_asked := def_mk H_law_asked sc_law_asked B_law_asked m_law_asked rfl (b_law_asked T TX G_fewest_course G_lots_added)
  obtain ⟨fd_law_by_hand_right, D_law_by_hand_right⟩ := c.def_ 44 (d := d_law_by_hand_right) rfl
  have H_law_by_hand_right : Fun K "_law_by_hand_right" "_law_by_hand_right" s_law_by_hand_right (He.ga K "_law_by_hand_right") fd_law_by_hand_right := fun_of D_law_by_hand_right
  have m_law_by_hand_right := He.glo_ok X G (c.fact 44 (f := .glo "_law_by_hand_right") rfl)
  have B_law_by_hand_right : Binds K fd_law_by_hand_right [] [] := H_law_by_hand_right.binds fun _ _ _ _ _ _ us hl => match us, hl with | [], _ => rfl
  have G_law_by_hand_right : DefD P w K mg base "_law_by_hand_right" 16 F_law_by_hand_right := def_mk H_law_by_hand_right sc_law_by_hand_right B_law_by_hand_right m_law_by_hand_right rfl (b_law_by_hand_right T G_law_trio G_law_asked G_law_same G_demands)
  obtain ⟨fd_law_take, D_law_take⟩ := c.def_ 25 (d := d_law_take) rfl
  have H_law_take : Fun K "_law_take" "_law_take" s_law_take (He.ga K "_law_take") fd_law_take := fun_of D_law_take
  have m_law_take := He.glo_ok X G (c.fact 25 (f := .glo "_law_take") rfl)
  have B_law_take : Binds K fd_law_take ["_law_tin", "_law_below_so"] [] := H_law_take.binds fun _ _ _ _ _ _ us hl => match us, hl with | [_, _], _ => rfl
  have G_law_take : DefE P w K mg base "_law_take" 1 F_law_take := def_mkE H_law_take sc_law_take B_law_take m_law_take rfl (b_law_take T)
  obtain ⟨fd_law_pick, D_law_pick⟩ := c.def_ 27 (d := d_law_pick) rfl
  have H_law_pick : Fun K "_law_pick" "_law_pick" s_law_pick (He.ga K "_law_pick") fd_law_pick := fun_of D_law_pick
  have m_law_pick := He.glo_ok X G (c.fact 27 (f := .glo "_law_pick") rfl)
  have B_law_pick : Binds K fd_law_pick ["_law_tin", "_law_goods_so", "_law_count_so"] [] := H_law_pick.binds fun _ _ _ _ _ _ us hl => match us, hl with | [_, _, _], _ => rfl
  have G_law_pick : DefE P w K mg base "_law_pick" 2 F_law_pick := def_mkE H_law_pick sc_law_pick B_law_pick m_law_pick rfl (b_law_pick T G_law_take)
  obtain ⟨fd_law_rule, D_law_rule⟩ := c.def_ 31 (d := d_law_rule) rfl
  have H_law_rule : Fun K "_law_rule" "_law_rule" s_law_rule (He.ga K "_law_rule") fd_law_rule := fun_of D_law_rule
  have m_law_rule := He.glo_ok X G (c.fact 31 (f := .glo "_law_rule") rfl)
  have B_law_rule : Binds K fd_law_rule ["_law_tin", "_law_wide_so", "_law_most_so"] [] := H_law_rule.binds fun _ _ _ _ _ _ us hl => match us, hl with | [_, _, _], _ => rfl
  have G_law_rule : DefE P w K mg base "_law_rule" 3 F_law_rule := def_mkE H_law_rule sc_law_rule B_law_rule m_law_rule rfl (b_law_rule T G_law_lots G_law_pick G_law_take)
  obtain ⟨fd_law_course, D_law_course⟩ := c.def_ 32 (d := d_law_course) rfl
  have H_law_course : Fun K "_law_course" "_law_course" s_law_course (He.ga K "_law_course") fd_law_course := fun_of D_law_course
  have m_law_course := He.glo_ok X G (c.fact 32 (f := .glo "_law_course") rfl)
  have B_law_course : Binds K fd_law_course ["_law_tin", "_law_wide_so", "_law_many_so"] [] := H_law_course.binds fun _ _ _ _ _ _ us hl => match us, hl with | [_, _, _], _ => rfl
  have G_law_course : DefE P w K mg base "_law_course" 3 F_law_course := def_mkE H_law_course sc_law_course B_law_course m_law_course rfl (b_law_course T G_law_pick G_law_take)
  obtain ⟨fd_law_right, D_law_right⟩ := c.def_ 45 (d := d_law_right) rfl
  have H_law_right : Fun K "_law_right" "_law_right" s_law_right (He.ga K "_law_right") fd_law_right := fun_of D_law_right
  have m_law_right := He.glo_ok X G (c.fact 45 (f := .glo "_law_right") rfl)
  have B_law_right : Binds K fd_law_right ["_law_tin"] [] := H_law_right.binds fun _ _ _ _ _ _ us hl => match us, hl with | [_], _ => rfl
  have G_law_right : DefE P w K mg base "_law_right" 16 F_law_right := def_mkE H_law_right sc_law_right B_law_right m_law_right rfl (b_law_right T G_law_take G_law_rule G_law_wanted G_law_fewest G_law_asked G_law_lists G_law_same G_demands G_law_is_course G_law_lies G_law_course G_is_fewest_course)
  obtain ⟨fd_law_box, D_law_box⟩ := c.def_ 24 (d := d_law_box) rfl
  have H_law_box : Fun K "_law_box" "_law_box" s_law_box (He.ga K "_law_box") fd_law_box := fun_of D_law_box
  have m_law_box := He.glo_ok X G (c.fact 24 (f := .glo "_law_box") rfl)
  have B_law_box : Binds K fd_law_box ["_law_script", "_law_k"] [] := H_law_box.binds fun _ _ _ _ _ _ us hl => match us, hl with | [_, _], _ => rfl
  have G_law_box : DefL P w K mg base "_law_box" 1 F_law_box := def_mkL H_law_box sc_law_box B_law_box m_law_box rfl rfl (b_law_box T)
  exact ok_law T PL F G_law_by_hand_right G_law_right G_law_box FC bc mc
end GY
open PySem PySem.W PySem.Calls PyProof.Rows
theorem GY.holds (PL : GY.PlainLaw) : PySem.Challenge.rw_gatheryard_k74_whole_fewest_courses.Holds := by
  w_on; o_law
  refine HandSHeadRun.head_imp (r := OpenLaw.row PySem.Challenge.rw_gatheryard_k74_whole_fewest_courses) (q := view (OpenLaw.row PySem.Challenge.rw_gatheryard_k74_whole_fewest_courses).prog [0, 58]) (H := GY.hkC) (ob := GY.ob) (M := 8000) (loose := GY.loose) (d := HandSHeadRun.topDef (OpenLaw.row PySem.Challenge.rw_gatheryard_k74_whole_fewest_courses).prog 58) (kwd := []) GY.ob_eq
    GY.run (by kernel_rfl) (by kernel_rfl) (by kernel_rfl) (by rfl) (by first | assumption | decide +kernel) (by decide +kernel) ⟨rfl, rfl, rfl, rfl, rfl, by decide +kernel⟩ ?hw ?hc
  case hw => w_witness2
  case hc =>
    refine L2.walk_ofE (l := PySem.Challenge.rw_gatheryard_k74_whole_fewest_courses) (n := 63) (k := 17) (x := "_law_script") (CX := L2.CX0) rfl (by decide) (by kernel_rfl) ⟨rfl, by decide, by decide⟩ ?F (fun _ _ _ _ z => z)
    intro w mg fa h Y G hmg0
    obtain ⟨K, KX, c, cb⟩ := Y
    have hmg : mg ("law" : PySem.Str) = some (.ref fa) := by
      have e : (HandSHeadRun.topDef (OpenLaw.row PySem.Challenge.rw_gatheryard_k74_whole_fewest_courses).prog 58).name = ("law" : PySem.Str) := by kernel_rfl
      rw [← e]
      exact hmg0
    obtain ⟨fd, hb, hF⟩ := GY.facts (P := (PySem.Challenge.rw_gatheryard_k74_whole_fewest_courses).prog) (w := w) KX G hmg c cb PL
    exact ⟨K, fd, GY.spLaw K, KX, hb, fun H a ns hl _ hS => ⟨a, ns, rfl, hS, hl, fun _ => rfl⟩, hF⟩
theorem PySem.Challenge.cw_gatheryard_k74_whole_fewest_courses_holds : PySem.Challenge.rw_gatheryard_k74_whole_fewest_courses.Holds := by
  exact GY.holds GY.plain
