import PyProof.Rows.All
import Wide.All
import OpenK.AllK
import Wide.FinOn
import HandS.ForMost
import HandS.Star
import HandS.WideBits
import HandS.TupAny
import HandS.Deep
import HandS.Zip
import HandS.Style
import HandS.IsInst
import HandS.More
import HandS.WordsDict
import KE.SortData
import HandS.TupMul
import HandS.TupSets
import HandS.SetFor
import PySem.Challenge.RW_eithersums_k09_sums_on_a_flat
import KE.BitLaws
import KE.KBits
import KE.OsArith
set_option Elab.async false
set_option linter.all false
set_option maxRecDepth 100000
set_option maxHeartbeats 1000000
/-! DL1: data that values stand for, heaps that grow, the relation between slots and data. -/
namespace DL
open PySem PySem.Spec PyProof.Rows L2
def Ex (H H' : Hp) : Prop := ∀ a o, H a = some o → H' a = some o
theorem Ex.refl (H : Hp) : Ex H H := fun _ _ h => h
theorem Ex.trans {H H1 H2 : Hp} (p : Ex H H1) (q : Ex H1 H2) : Ex H H2 := fun a o h => q a o (p a o h)
theorem Ex.new {H : Hp} {p : Addr} {o : HO} (h : H p = none) : Ex H (upd H p o) := fun a u e => by
  by_cases q : a = p
  · subst q; rw [h] at e; cases e
  · rw [upd_ne q]; exact e
theorem Ex.none {H H' : Hp} (e : Ex H H') {a : Addr} (h : H' a = none) : H a = none := by
  cases q : H a with
  | none => rfl
  | some o => rw [e a o q] at h; cases h
theorem Ex.both {H H' : Hp} {p : Addr} {o : HO} (e : Ex H H') (h : H' p = Option.none) : Ex (upd H p o) (upd H' p o) := fun a u q => by
  by_cases r : a = p
  · subst r; rw [upd_same] at q ⊢; exact q
  · rw [upd_ne r] at q ⊢; exact e a u q
theorem Ex.side {H H' : Hp} {p : Addr} {o : HO} (e : Ex H H') (h : H p = Option.none) : Ex H (upd H' p o) := fun a u q => by
  by_cases r : a = p
  · subst r; rw [h] at q; cases q
  · rw [upd_ne r]; exact e a u q
theorem Ex.rd {H H' : Hp} (e : Ex H H') {a : Addr} {u : HO} (h : Rd H a u) : Rd H' a u := by
  rcases h with h | ⟨o, h⟩
  · exact .inl (e _ _ h)
  · exact .inr ⟨o, e _ _ h⟩
theorem Ex.sqL {K : PySem.W.Frag} {H H' : Hp} (e : Ex H H') {a : Addr} {xs : List V} (h : SqL K H a xs) : SqL K H' a xs := by
  rcases h with h | h
  · exact .inl (e.rd h)
  · exact .inr h
theorem Ex.sqT {K : PySem.W.Frag} {H H' : Hp} (e : Ex H H') {a : Addr} {xs : List V} (h : SqT K H a xs) : SqT K H' a xs := by
  rcases h with h | h
  · exact .inl (e.rd h)
  · exact .inr h
/-- the data of a key -/
def kD : Key → PyData
  | .inl i => .int i
  | .inr x => .str x
mutual
inductive Dr (K : PySem.W.Frag) (H : Hp) : V → PyData → Prop
  | non : Dr K H .non .none
  | bl (b : Bool) : Dr K H (.bl b) (.bool b)
  | int (i : Int) : Dr K H (.int i) (.int i)
  | str (x : Str) : Dr K H (.str x) (.str x)
  | lst {a : Addr} {xs : List V} {ds : List PyData} : H a = some (.lst xs) → xs.length ≤ sizeLine → DrAll K H xs ds → Dr K H (.ref a) (.list ds)
  | tup {a : Addr} {xs : List V} {ds : List PyData} : SqT K H a xs → xs.length ≤ sizeLine → DrAll K H xs ds → Dr K H (.ref a) (.tuple ds)
  | dk {a : Addr} {kvs : List (Key × V)} {ps : List (PyData × PyData)} : Rd H a (.dK kvs) → kvs.length ≤ sizeLine → DrKv K H kvs ps → Dr K H (.ref a) (.dict ps)
inductive DrAll (K : PySem.W.Frag) (H : Hp) : List V → List PyData → Prop
  | nil : DrAll K H [] []
  | cons {v : V} {vs : List V} {d : PyData} {ds : List PyData} : Dr K H v d → DrAll K H vs ds → DrAll K H (v :: vs) (d :: ds)
inductive DrKv (K : PySem.W.Frag) (H : Hp) : List (Key × V) → List (PyData × PyData) → Prop
  | nil : DrKv K H [] []
  | cons {k : Key} {v : V} {kvs : List (Key × V)} {d : PyData} {ps : List (PyData × PyData)} : Dr K H v d → DrKv K H kvs ps → DrKv K H ((k, v) :: kvs) ((kD k, d) :: ps)
end
section
variable {K : PySem.W.Frag} {H H' : Hp}
mutual
theorem Dr.mono (e : Ex H H') : ∀ {v : V} {d : PyData}, Dr K H v d → Dr K H' v d
  | _, _, .non => .non
  | _, _, .bl b => .bl b
  | _, _, .int i => .int i
  | _, _, .str x => .str x
  | _, _, .lst h z t => .lst (e _ _ h) z (DrAll.mono e t)
  | _, _, .tup h z t => .tup (e.sqT h) z (DrAll.mono e t)
  | _, _, .dk h z t => .dk (e.rd h) z (DrKv.mono e t)
theorem DrAll.mono (e : Ex H H') : ∀ {vs : List V} {ds : List PyData}, DrAll K H vs ds → DrAll K H' vs ds
  | _, _, .nil => .nil
  | _, _, .cons h t => .cons (Dr.mono e h) (DrAll.mono e t)
theorem DrKv.mono (e : Ex H H') : ∀ {kvs : List (Key × V)} {ps : List (PyData × PyData)}, DrKv K H kvs ps → DrKv K H' kvs ps
  | _, _, .nil => .nil
  | _, _, .cons h t => .cons (Dr.mono e h) (DrKv.mono e t)
end
theorem DrAll.len : ∀ {vs : List V} {ds : List PyData}, DrAll K H vs ds → vs.length = ds.length
  | _, _, .nil => rfl
  | _, _, .cons _ t => congrArg (· + 1) (DrAll.len t)
theorem DrAll.get : ∀ {vs : List V} {ds : List PyData} {i : Nat} {d : PyData}, DrAll K H vs ds → ds[i]? = some d → ∃ v, vs[i]? = some v ∧ Dr K H v d
  | _, _, i, d, .nil, e => by simp at e
  | _, _, 0, d, .cons h t, e => by
    simp only [List.getElem?_cons_zero] at e ⊢
    cases e
    exact ⟨_, rfl, h⟩
  | _, _, i + 1, d, .cons h t, e => by
    simp only [List.getElem?_cons_succ] at e ⊢
    exact DrAll.get t e
theorem DrAll.got : ∀ {vs : List V} {ds : List PyData} {i : Nat} {v : V}, DrAll K H vs ds → vs[i]? = some v → ∃ d, ds[i]? = some d ∧ Dr K H v d
  | _, _, i, d, .nil, e => by simp at e
  | _, _, 0, d, .cons h t, e => by
    simp only [List.getElem?_cons_zero] at e ⊢
    cases e
    exact ⟨_, rfl, h⟩
  | _, _, i + 1, d, .cons h t, e => by
    simp only [List.getElem?_cons_succ] at e ⊢
    exact DrAll.got t e
theorem DrAll.append : ∀ {vs ws : List V} {ds es : List PyData}, DrAll K H vs ds → DrAll K H ws es → DrAll K H (vs ++ ws) (ds ++ es)
  | _, _, _, _, .nil, s => s
  | _, _, _, _, .cons h t, s => .cons h (DrAll.append t s)
theorem DrAll.take : ∀ {vs : List V} {ds : List PyData} (n : Nat), DrAll K H vs ds → DrAll K H (vs.take n) (ds.take n)
  | _, _, 0, _ => .nil
  | _, _, _ + 1, .nil => .nil
  | _, _, n + 1, .cons h t => .cons h (DrAll.take n t)
theorem DrAll.drop : ∀ {vs : List V} {ds : List PyData} (n : Nat), DrAll K H vs ds → DrAll K H (vs.drop n) (ds.drop n)
  | _, _, 0, r => r
  | _, _, _ + 1, .nil => .nil
  | _, _, n + 1, .cons _ t => DrAll.drop n t
theorem DrAll.set {v : V} {d : PyData} (r : Dr K H v d) : ∀ {vs : List V} {ds : List PyData} (i : Nat), DrAll K H vs ds → DrAll K H (vs.set i v) (ds.set i d)
  | _, _, _, .nil => .nil
  | _, _, 0, .cons _ t => .cons r t
  | _, _, i + 1, .cons q t => .cons q (DrAll.set r i t)
theorem DrAll.ints : ∀ ns : List Int, DrAll K H (ns.map V.int) (ns.map PyData.int)
  | [] => .nil
  | n :: ns => .cons (.int n) (DrAll.ints ns)
theorem DrAll.of_ints : ∀ {vs : List V} {ns : List Int}, DrAll K H vs (ns.map PyData.int) → vs = ns.map V.int
  | vs, [], h => by
    have h' : DrAll K H vs [] := h
    cases h'
    rfl
  | vs, n :: ns, h => by
    have h' : DrAll K H vs (.int n :: ns.map PyData.int) := h
    cases h' with
    | cons a t =>
      cases a
      rw [DrAll.of_ints t]
      rfl
theorem DrAll.bools : ∀ bs : List Bool, DrAll K H (bs.map V.bl) (bs.map PyData.bool)
  | [] => .nil
  | b :: bs => .cons (.bl b) (DrAll.bools bs)
theorem DrAll.of_bools : ∀ {vs : List V} {bs : List Bool}, DrAll K H vs (bs.map PyData.bool) → vs = bs.map V.bl
  | vs, [], h => by
    have h' : DrAll K H vs [] := h
    cases h'
    rfl
  | vs, b :: bs, h => by
    have h' : DrAll K H vs (.bool b :: bs.map PyData.bool) := h
    cases h' with
    | cons a t =>
      cases a
      rw [DrAll.of_bools t]
      rfl
mutual
theorem Dr.dp : ∀ {v : V} {d : PyData}, Dr K H v d → d.hasDict = false → Dp K H v d
  | _, _, .non, _ => .non
  | _, _, .bl b, _ => .bl b
  | _, _, .int i, _ => .int i
  | _, _, .str x, _ => .str x
  | _, _, .lst h z t, q => .lst (.inl (.inl h)) (DrAll.dp t (by simpa [PyData.hasDict] using q))
  | _, _, .tup h z t, q => .tup h (DrAll.dp t (by simpa [PyData.hasDict] using q))
  | _, _, .dk h z t, q => by simp [PyData.hasDict] at q
theorem DrAll.dp : ∀ {vs : List V} {ds : List PyData}, DrAll K H vs ds → PyData.hasDictAll ds = false → DpAll K H vs ds
  | _, _, .nil, _ => .nil
  | _, _, .cons h t, q => by
    have q' := q
    simp only [PyData.hasDictAll, Bool.or_eq_false_iff] at q'
    exact .cons (Dr.dp h q'.1) (DrAll.dp t q'.2)
end
end
/-! ### slots -/
inductive Sl where
  | u | d (x : PyData) | o (x : PyData) | b (x : PyData)
def Sl.own : Sl → Option PyData
  | .o x => some x
  | .b x => some x
  | _ => none
abbrev En := List Sl
/-- a list or a dict that stands at a, written, its parts in the frozen heap -/
def OwnAt (K : PySem.W.Frag) (G H : Hp) (a : Addr) : PyData → Prop
  | .list ds => ∃ vs, H a = some (.lst vs) ∧ vs.length ≤ sizeLine ∧ DrAll K G vs ds
  | .dict ps => ∃ kvs, H a = some (.dK kvs) ∧ kvs.length ≤ sizeLine ∧ DrKv K G kvs ps
  | _ => False
structure Zn where
  G : Hp
  H : Hp
  pin : Nat → Option Addr
  io : Addr → Prop
def Owned (ρ : En) (i : Nat) : Prop := ∃ (s : Sl) (x : PyData), ρ[i]? = some s ∧ s.own = some x
structure SR (K : PySem.W.Frag) (Z : Zn) (G H : Hp) (σ : L2.St) (ρ : En) : Prop where
  len : ρ.length = σ.length
  gh : Ex G H
  zg : Ex Z.G G
  g0 : ∀ a o, Z.H a = some o → G a = Z.G a
  h0 : ∀ a o, Z.H a = some o → ¬ Z.io a → H a = some o
  h1 : ∀ a o, Z.H a = some o → ∃ o', H a = some o'
  str : ∀ (i : Nat) (x : PyData), ρ[i]? = some (.d x) → ∃ v, σ[i]? = some (some v) ∧ Dr K G v x
  own : ∀ (i : Nat) (s : Sl) (x : PyData), ρ[i]? = some s → s.own = some x → ∃ a, σ[i]? = some (some (.ref a)) ∧ G a = none ∧ OwnAt K G H a x ∧ (Z.io a ∨ Z.H a = none)
  bor : ∀ (i : Nat) (x : PyData), ρ[i]? = some (.b x) → ∃ a, Z.pin i = some a ∧ σ[i]? = some (some (.ref a))
  opin : ∀ (i : Nat) (x : PyData) (a : Addr), ρ[i]? = some (.o x) → σ[i]? = some (some (.ref a)) → ∀ j, Z.pin j ≠ some a
  zpin : ∀ (j : Nat) (a : Addr), Z.pin j = some a → ∃ o, Z.H a = some o
  inj : ∀ (i j : Nat) (a : Addr), Owned ρ i → Owned ρ j → σ[i]? = some (some (.ref a)) → σ[j]? = some (some (.ref a)) → i = j
section
variable {K : PySem.W.Frag} {Z : Zn} {G H G' H' : Hp} {σ σ' : L2.St} {ρ ρ' : En}
theorem OwnAt.mono {a : Addr} {x : PyData} (e : Ex G G') (h : H' a = H a) (o : OwnAt K G H a x) : OwnAt K G' H' a x := by
  cases x with
  | list ds => obtain ⟨vs, p, z, q⟩ := o; exact ⟨vs, h.trans p, z, q.mono e⟩
  | dict ps => obtain ⟨vs, p, z, q⟩ := o; exact ⟨vs, h.trans p, z, q.mono e⟩
  | _ => exact o
theorem OwnAt.some {a : Addr} {x : PyData} (o : OwnAt K G H a x) : ∃ u, H a = some u := by
  cases x with
  | list ds => obtain ⟨vs, p, _⟩ := o; exact ⟨_, p⟩
  | dict ps => obtain ⟨vs, p, _⟩ := o; exact ⟨_, p⟩
  | _ => exact o.elim
/-- frozen: the object joins the frozen heap -/
theorem OwnAt.frz {a : Addr} {x : PyData} {u : HO} (hg : G a = none) (hu : H a = Option.some u) (o : OwnAt K G H a x) : Dr K (upd G a u) (.ref a) x := by
  cases x with
  | list ds => obtain ⟨vs, p, z, q⟩ := o; rw [hu] at p; cases p; exact .lst upd_same z (q.mono (Ex.new hg))
  | dict ps => obtain ⟨vs, p, z, q⟩ := o; rw [hu] at p; cases p; exact .dk (.inl upd_same) z (q.mono (Ex.new hg))
  | _ => exact o.elim
/-- objects that are new to both heaps -/
inductive Al : Hp → Hp → Hp → Hp → Prop
  | refl {G H : Hp} : Al G H G H
  | one {G H : Hp} {p : Addr} {o : HO} : H p = none → Al G H (upd G p o) (upd H p o)
theorem Al.ex (e : Ex G H) (a : Al G H G' H') : Ex G G' ∧ Ex H H' ∧ Ex G' H' := by
  cases a with
  | refl => exact ⟨Ex.refl _, Ex.refl _, e⟩
  | one h => exact ⟨Ex.new (e.none h), Ex.new h, e.both h⟩
theorem SR.al (R : SR K Z G H σ ρ) (a : Al G H G' H') : SR K Z G' H' σ ρ := by
  cases a with
  | refl => exact R
  | one h =>
    rename_i p o
    have hg : G p = none := R.gh.none h
    have hz : Z.H p = none := by
      cases q : Z.H p with
      | none => rfl
      | some u => obtain ⟨u', e⟩ := R.h1 p u q; rw [h] at e; cases e
    refine ⟨R.len, R.gh.both h, R.zg.trans (Ex.new hg), fun a u e => ?_, fun a u e n => ?_, fun a u e => ?_, fun i x e => ?_, fun i s x e e2 => ?_, R.bor, R.opin, R.zpin, R.inj⟩
    · have ne : a ≠ p := fun z => by rw [z, hz] at e; cases e
      rw [upd_ne ne]; exact R.g0 a u e
    · have ne : a ≠ p := fun z => by rw [z, hz] at e; cases e
      rw [upd_ne ne]; exact R.h0 a u e n
    · have ne : a ≠ p := fun z => by rw [z, hz] at e; cases e
      rw [upd_ne ne]; exact R.h1 a u e
    · obtain ⟨v, h1, h2⟩ := R.str i x e
      exact ⟨v, h1, h2.mono (Ex.new hg)⟩
    · obtain ⟨a, h1, h2, h3, h4⟩ := R.own i s x e e2
      obtain ⟨u, hu⟩ := h3.some
      have ne : a ≠ p := fun z => by rw [z, h] at hu; cases hu
      exact ⟨a, h1, by rw [upd_ne ne]; exact h2, h3.mono (Ex.new hg) (upd_ne ne), h4⟩
theorem getElem?_set_cases {α : Type} {l : List α} {i j : Nat} {x y : α} (h : (l.set i x)[j]? = some y) : (j = i ∧ y = x) ∨ (j ≠ i ∧ l[j]? = some y) := by
  by_cases e : j = i
  · subst e
    by_cases hl : j < l.length
    · rw [List.getElem?_set_self hl] at h
      exact .inl ⟨rfl, (Option.some.inj h).symm⟩
    · rw [List.getElem?_eq_none (by rw [List.length_set]; omega)] at h
      cases h
  · rw [List.getElem?_set_ne (Ne.symm e)] at h
    exact .inr ⟨e, h⟩
/-- a slot takes data -/
theorem SR.setD {i : Nat} {v : V} {x : PyData} (R : SR K Z G H σ ρ) (r : Dr K G v x) : SR K Z G H (σ.set i (some v)) (ρ.set i (.d x)) := by
  refine ⟨by rw [List.length_set, List.length_set]; exact R.len, R.gh, R.zg, R.g0, R.h0, R.h1, fun j y e => ?_, fun j s y e e2 => ?_, fun j y e => ?_, fun j y b e e2 => ?_, R.zpin, fun j k a hj hk e1 e2 => ?_⟩
  · rcases getElem?_set_cases e with ⟨rfl, q⟩ | ⟨ne, q⟩
    · cases q
      have hl : j < ρ.length := by
        rcases Nat.lt_or_ge j ρ.length with h | h
        · exact h
        · rw [List.getElem?_eq_none (by rw [List.length_set]; exact h)] at e; cases e
      exact ⟨v, by rw [List.getElem?_set_self (by rw [← R.len]; exact hl)], r⟩
    · obtain ⟨v', h1, h2⟩ := R.str j y q
      exact ⟨v', by rw [List.getElem?_set_ne (Ne.symm ne)]; exact h1, h2⟩
  · rcases getElem?_set_cases e with ⟨rfl, q⟩ | ⟨ne, q⟩
    · subst q; cases e2
    · obtain ⟨a, h1, h2⟩ := R.own j s y q e2
      exact ⟨a, by rw [List.getElem?_set_ne (Ne.symm ne)]; exact h1, h2⟩
  · rcases getElem?_set_cases e with ⟨rfl, q⟩ | ⟨ne, q⟩
    · cases q
    · obtain ⟨a, h1, h2⟩ := R.bor j y q
      exact ⟨a, h1, by rw [List.getElem?_set_ne (Ne.symm ne)]; exact h2⟩
  · rcases getElem?_set_cases e with ⟨rfl, q⟩ | ⟨ne, q⟩
    · cases q
    · rw [List.getElem?_set_ne (Ne.symm ne)] at e2
      exact R.opin j y b q e2
  · obtain ⟨s1, x1, p1, q1⟩ := hj
    obtain ⟨s2, x2, p2, q2⟩ := hk
    rcases getElem?_set_cases p1 with ⟨rfl, q⟩ | ⟨n1, w1⟩
    · subst q; cases q1
    · rcases getElem?_set_cases p2 with ⟨rfl, q⟩ | ⟨n2, w2⟩
      · subst q; cases q2
      · rw [List.getElem?_set_ne (Ne.symm n1)] at e1
        rw [List.getElem?_set_ne (Ne.symm n2)] at e2
        exact R.inj j k a ⟨_, _, w1, q1⟩ ⟨_, _, w2, q2⟩ e1 e2
/-- a slot takes a fresh list or dict -/
theorem SR.setO {i : Nat} {a : Addr} {x : PyData} (R : SR K Z G H σ ρ) (hg : G a = none) (hz : Z.H a = none) (hn : ∀ j, Owned ρ j → σ[j]? ≠ some (some (.ref a))) (o : OwnAt K G H a x) :
    SR K Z G H (σ.set i (some (.ref a))) (ρ.set i (.o x)) := by
  refine ⟨by rw [List.length_set, List.length_set]; exact R.len, R.gh, R.zg, R.g0, R.h0, R.h1, fun j y e => ?_, fun j s y e e2 => ?_, fun j y e => ?_, fun j y c e e2 => ?_, R.zpin, fun j k b hj hk e1 e2 => ?_⟩
  · rcases getElem?_set_cases e with ⟨rfl, q⟩ | ⟨ne, q⟩
    · cases q
    · obtain ⟨v', h1, h2⟩ := R.str j y q
      exact ⟨v', by rw [List.getElem?_set_ne (Ne.symm ne)]; exact h1, h2⟩
  · rcases getElem?_set_cases e with ⟨rfl, q⟩ | ⟨ne, q⟩
    · subst q
      cases e2
      have hl : j < ρ.length := by
        rcases Nat.lt_or_ge j ρ.length with h | h
        · exact h
        · rw [List.getElem?_eq_none (by rw [List.length_set]; exact h)] at e; cases e
      exact ⟨a, by rw [List.getElem?_set_self (by rw [← R.len]; exact hl)], hg, o, .inr hz⟩
    · obtain ⟨a, h1, h2⟩ := R.own j s y q e2
      exact ⟨a, by rw [List.getElem?_set_ne (Ne.symm ne)]; exact h1, h2⟩
  · rcases getElem?_set_cases e with ⟨rfl, q⟩ | ⟨ne, q⟩
    · cases q
    · obtain ⟨a, h1, h2⟩ := R.bor j y q
      exact ⟨a, h1, by rw [List.getElem?_set_ne (Ne.symm ne)]; exact h2⟩
  · intro m hm
    rcases getElem?_set_cases e with ⟨rfl, q⟩ | ⟨ne, q⟩
    · cases q
      have hl : j < σ.length := by
        rcases Nat.lt_or_ge j σ.length with h | h
        · exact h
        · rw [List.getElem?_eq_none (by rw [List.length_set]; exact h)] at e2; cases e2
      rw [List.getElem?_set_self hl] at e2
      cases e2
      obtain ⟨o', ho'⟩ := R.zpin m _ hm
      rw [hz] at ho'; cases ho'
    · rw [List.getElem?_set_ne (Ne.symm ne)] at e2
      exact R.opin j y c q e2 m hm
  · obtain ⟨s1, x1, p1, q1⟩ := hj
    obtain ⟨s2, x2, p2, q2⟩ := hk
    rcases getElem?_set_cases p1 with ⟨r1, q⟩ | ⟨n1, w1⟩
    · rcases getElem?_set_cases p2 with ⟨r2, q'⟩ | ⟨n2, w2⟩
      · rw [r1, r2]
      · subst r1
        have hl : j < σ.length := by
          rcases Nat.lt_or_ge j σ.length with h | h
          · exact h
          · rw [List.getElem?_eq_none (by rw [List.length_set]; exact h)] at e1; cases e1
        rw [List.getElem?_set_self hl] at e1
        cases e1
        rw [List.getElem?_set_ne (Ne.symm n2)] at e2
        exact absurd e2 (hn k ⟨_, _, w2, q2⟩)
    · rcases getElem?_set_cases p2 with ⟨r2, q'⟩ | ⟨n2, w2⟩
      · subst r2
        have hl : k < σ.length := by
          rcases Nat.lt_or_ge k σ.length with h | h
          · exact h
          · rw [List.getElem?_eq_none (by rw [List.length_set]; exact h)] at e2; cases e2
        rw [List.getElem?_set_self hl] at e2
        cases e2
        rw [List.getElem?_set_ne (Ne.symm n1)] at e1
        exact absurd e1 (hn j ⟨_, _, w1, q1⟩)
      · rw [List.getElem?_set_ne (Ne.symm n1)] at e1
        rw [List.getElem?_set_ne (Ne.symm n2)] at e2
        exact R.inj j k b ⟨_, _, w1, q1⟩ ⟨_, _, w2, q2⟩ e1 e2
/-- the same kind with other content -/
def Sl.put (s : Sl) (y : PyData) : Sl := match s with
  | .o _ => .o y
  | .b _ => .b y
  | s => s
theorem Sl.put_own {s : Sl} {x : PyData} (h : s.own = some x) (y : PyData) : (s.put y).own = some y := by cases s <;> first | rfl | cases h
/-- the content of an owned slot changes, its object with it -/
theorem SR.mut {i : Nat} {s : Sl} {x y : PyData} {a : Addr} {u : HO} (R : SR K Z G H σ ρ) (hi : ρ[i]? = some s) (hs : s.own = some x) (ha : σ[i]? = some (some (.ref a))) (o : OwnAt K G (upd H a u) a y) :
    SR K Z G (upd H a u) σ (ρ.set i (s.put y)) := by
  obtain ⟨a', h1, h2, h3, h4⟩ := R.own i s x hi hs
  rw [ha] at h1; cases h1
  refine ⟨by rw [List.length_set]; exact R.len, R.gh.side h2, R.zg, R.g0, fun b w e n => ?_, fun b w e => ?_, fun j y' e => ?_, fun j s' y' e e2 => ?_, fun j y' e => ?_, fun j y' c e e2 => ?_, R.zpin, fun j k b hj hk e1 e2 => ?_⟩
  · have ne : b ≠ a := fun z => by
      subst z
      rcases h4 with h4 | h4
      · exact n h4
      · rw [h4] at e; cases e
    rw [upd_ne ne]; exact R.h0 b w e n
  · by_cases z : b = a
    · subst z; exact ⟨_, upd_same⟩
    · rw [upd_ne z]; exact R.h1 b w e
  · rcases getElem?_set_cases e with ⟨rfl, q⟩ | ⟨ne, q⟩
    · have := Sl.put_own hs y
      rw [← q] at this; cases this
    · exact R.str j y' q
  · rcases getElem?_set_cases e with ⟨rfl, q⟩ | ⟨ne, q⟩
    · have e3 := Sl.put_own hs y
      rw [← q, e2] at e3
      cases e3
      exact ⟨a, ha, h2, o, h4⟩
    · obtain ⟨b, q1, q2, q3, q4⟩ := R.own j s' y' q e2
      have nb : b ≠ a := fun z => by
        subst z
        exact ne (R.inj j i b ⟨_, _, q, e2⟩ ⟨_, _, hi, hs⟩ q1 ha)
      exact ⟨b, q1, q2, q3.mono (Ex.refl _) (upd_ne nb), q4⟩
  · rcases getElem?_set_cases e with ⟨rfl, q⟩ | ⟨ne, q⟩
    · cases s with
      | b z => exact R.bor j z hi
      | o z => cases q
      | d z => cases hs
      | u => cases hs
    · exact R.bor j y' q
  · rcases getElem?_set_cases e with ⟨rfl, q⟩ | ⟨ne, q⟩
    · cases s with
      | o z => exact R.opin j z c hi e2
      | b z => cases q
      | d z => cases hs
      | u => cases hs
    · exact R.opin j y' c q e2
  · obtain ⟨s1, x1, p1, q1⟩ := hj
    obtain ⟨s2, x2, p2, q2⟩ := hk
    have back : ∀ {m : Nat} {s3 : Sl} {x3 : PyData}, (ρ.set i (s.put y))[m]? = some s3 → s3.own = some x3 → Owned ρ m := fun {m s3 x3} p q => by
      rcases getElem?_set_cases p with ⟨rfl, _⟩ | ⟨_, w⟩
      · exact ⟨s, x, hi, hs⟩
      · exact ⟨_, _, w, q⟩
    exact R.inj j k b (back p1 q1) (back p2 q2) e1 e2
/-- forgotten slots -/
theorem SR.less {ρ2 : En} (R : SR K Z G H σ ρ) (hl : ρ2.length = ρ.length) (h : ∀ (i : Nat) (s : Sl), ρ2[i]? = some s → s = .u ∨ ρ[i]? = some s) : SR K Z G H σ ρ2 := by
  have own : ∀ i, Owned ρ2 i → Owned ρ i := fun i ⟨s, x, e, q⟩ => by
    rcases h i s e with z | z
    · subst z; cases q
    · exact ⟨s, x, z, q⟩
  refine ⟨hl.trans R.len, R.gh, R.zg, R.g0, R.h0, R.h1, fun i x e => ?_, fun i s x e q => ?_, fun i x e => ?_, fun i x a e => ?_, R.zpin, fun i j a hi hj => R.inj i j a (own i hi) (own j hj)⟩
  · rcases h i _ e with z | z
    · cases z
    · exact R.str i x z
  · rcases h i _ e with z | z
    · subst z; cases q
    · exact R.own i s x z q
  · rcases h i _ e with z | z
    · cases z
    · exact R.bor i x z
  · rcases h i _ e with z | z
    · cases z
    · exact R.opin i x a z
/-- other slots' values, the same data -/
theorem SR.slots {σ2 : L2.St} (R : SR K Z G H σ ρ) (hl : σ2.length = σ.length) (h : ∀ (i : Nat) (s : Sl) (v : Option V), ρ[i]? = some s → s ≠ .u → σ[i]? = some v → σ2[i]? = some v) : SR K Z G H σ2 ρ := by
  have ne : ∀ {s : Sl} {x : PyData}, s.own = some x → s ≠ .u := fun {s x} q z => by subst z; cases q
  refine ⟨R.len.trans hl.symm, R.gh, R.zg, R.g0, R.h0, R.h1, fun i x e => ?_, fun i s x e q => ?_, fun i x e => ?_, fun i x a e e1 => ?_, R.zpin, fun i j a hi hj e1 e2 => ?_⟩
  · obtain ⟨v, h1, h2⟩ := R.str i x e
    exact ⟨v, h i _ _ e (by intro z; cases z) h1, h2⟩
  · obtain ⟨a, h1, h2⟩ := R.own i s x e q
    exact ⟨a, h i _ _ e (ne q) h1, h2⟩
  · obtain ⟨a, h1, h2⟩ := R.bor i x e
    exact ⟨a, h1, h i _ _ e (by intro z; cases z) h2⟩
  · obtain ⟨b, h1, _⟩ := R.own i _ x e rfl
    rw [h i _ _ e (by intro z; cases z) h1] at e1
    cases e1
    exact R.opin i x _ e h1
  · obtain ⟨s1, x1, p1, q1⟩ := hi
    obtain ⟨s2, x2, p2, q2⟩ := hj
    obtain ⟨a1, r1, _⟩ := R.own i _ _ p1 q1
    obtain ⟨a2, r2, _⟩ := R.own j _ _ p2 q2
    rw [h i _ _ p1 (ne q1) r1] at e1
    rw [h j _ _ p2 (ne q2) r2] at e2
    cases e1
    cases e2
    exact R.inj i j _ ⟨_, _, p1, q1⟩ ⟨_, _, p2, q2⟩ r1 r2
/-- the zone as it stands now: what is owned may change -/
def snap (Z : Zn) (G H : Hp) (σ : L2.St) (ρ : En) : Zn := ⟨G, H, Z.pin, fun a => ∃ i, Owned ρ i ∧ σ[i]? = some (some (.ref a))⟩
theorem SR.snap (R : SR K Z G H σ ρ) : SR K (DL.snap Z G H σ ρ) G H σ ρ :=
  ⟨R.len, R.gh, Ex.refl _, fun _ _ _ => rfl, fun _ _ e _ => e, fun _ _ e => ⟨_, e⟩, R.str, fun i s x e q => by
    obtain ⟨a, h1, h2, h3, _⟩ := R.own i s x e q
    exact ⟨a, h1, h2, h3, .inl ⟨i, ⟨s, x, e, q⟩, h1⟩⟩, R.bor, R.opin, fun j a e => by
    obtain ⟨o, h⟩ := R.zpin j a e
    exact R.h1 a o h, R.inj⟩
theorem SR.back (R : SR K Z G H σ ρ) (R' : SR K (DL.snap Z G H σ ρ) G' H' σ' ρ') : SR K Z G' H' σ' ρ' := by
  refine ⟨R'.len, R'.gh, R.zg.trans R'.zg, fun a o e => ?_, fun a o e n => ?_, fun a o e => ?_, R'.str, fun i s x e q => ?_, R'.bor, R'.opin, R.zpin, R'.inj⟩
  · obtain ⟨o', e'⟩ := R.h1 a o e
    exact (R'.g0 a o' e').trans (R.g0 a o e)
  · refine R'.h0 a o (R.h0 a o e n) fun ⟨i, ⟨s, x, p, q⟩, h⟩ => ?_
    obtain ⟨a', h1, _, _, h4⟩ := R.own i s x p q
    rw [h] at h1; cases h1
    rcases h4 with h4 | h4
    · exact n h4
    · rw [e] at h4; cases h4
  · obtain ⟨o', e'⟩ := R.h1 a o e
    exact R'.h1 a o' e'
  · obtain ⟨a, h1, h2, h3, h4⟩ := R'.own i s x e q
    refine ⟨a, h1, h2, h3, ?_⟩
    rcases h4 with ⟨j, ⟨s2, x2, p, r⟩, h⟩ | h4
    · obtain ⟨a', g1, _, _, g4⟩ := R.own j s2 x2 p r
      rw [h] at g1; cases g1
      exact g4
    · refine .inr ?_
      cases w : Z.H a with
      | none => rfl
      | some o =>
        obtain ⟨o', e'⟩ := R.h1 a o w
        have h4' : H a = none := h4
        rw [h4'] at e'; cases e'
/-- a fresh object laid beside: not in the frozen heap -/
theorem SR.beside {p : Addr} {u : HO} (R : SR K Z G H σ ρ) (h : H p = none) : SR K Z G (upd H p u) σ ρ := by
  have hz : Z.H p = none := by
    cases q : Z.H p with
    | none => rfl
    | some u => obtain ⟨u', e⟩ := R.h1 p u q; rw [h] at e; cases e
  have hg : G p = none := R.gh.none h
  refine ⟨R.len, R.gh.side hg, R.zg, R.g0, fun a o e n => ?_, fun a o e => ?_, R.str, fun i s x e q => ?_, R.bor, R.opin, R.zpin, R.inj⟩
  · have ne : a ≠ p := fun z => by rw [z, hz] at e; cases e
    rw [upd_ne ne]; exact R.h0 a o e n
  · have ne : a ≠ p := fun z => by rw [z, hz] at e; cases e
    rw [upd_ne ne]; exact R.h1 a o e
  · obtain ⟨a, h1, h2, h3, h4⟩ := R.own i s x e q
    obtain ⟨w, hw⟩ := h3.some
    have ne : a ≠ p := fun z => by rw [z, h] at hw; cases hw
    exact ⟨a, h1, h2, h3.mono (Ex.refl _) (upd_ne ne), h4⟩
theorem SR.znone (R : SR K Z G H σ ρ) {p : Addr} (h : H p = none) : Z.H p = none := by
  cases q : Z.H p with
  | none => rfl
  | some u => obtain ⟨u', e⟩ := R.h1 p u q; rw [h] at e; cases e
theorem SR.notOwned (R : SR K Z G H σ ρ) {p : Addr} (h : H p = none) : ∀ j, Owned ρ j → σ[j]? ≠ some (some (.ref p)) := fun j ⟨s, x, e, q⟩ z => by
  obtain ⟨a, h1, _, h3, _⟩ := R.own j s x e q
  rw [z] at h1; cases h1
  obtain ⟨w, hw⟩ := h3.some
  rw [h] at hw; cases hw
/-- an object outside of the frozen heap that no slot owns joins the frozen heap -/
theorem SR.frz {a : Addr} {u : HO} (R : SR K Z G H σ ρ) (hg : G a = none) (hz : Z.H a = none) (hn : ∀ j, Owned ρ j → σ[j]? ≠ some (some (.ref a))) (hu : H a = some u) : SR K Z (upd G a u) H σ ρ := by
  refine ⟨R.len, fun b o e => ?_, R.zg.trans (Ex.new hg), fun b o e => ?_, R.h0, R.h1, fun i x e => ?_, fun i s x e q => ?_, R.bor, R.opin, R.zpin, R.inj⟩
  · by_cases z : b = a
    · subst z; rw [upd_same] at e; cases e; exact hu
    · rw [upd_ne z] at e; exact R.gh b o e
  · have ne : b ≠ a := fun z => by rw [z, hz] at e; cases e
    rw [upd_ne ne]; exact R.g0 b o e
  · obtain ⟨v, h1, h2⟩ := R.str i x e
    exact ⟨v, h1, h2.mono (Ex.new hg)⟩
  · obtain ⟨b, h1, h2, h3, h4⟩ := R.own i s x e q
    have ne : b ≠ a := fun z => by subst z; exact hn i ⟨s, x, e, q⟩ h1
    exact ⟨b, h1, by rw [upd_ne ne]; exact h2, h3.mono (Ex.new hg) rfl, h4⟩
end
end DL
/-! DL2: expressions that come to data. -/
namespace DL
open PySem PySem.Spec PyProof.Rows L2
abbrev Ev := En → Option (PyData × En)
abbrev Es := En → Option (List PyData × En)
abbrev Eq := En → Option (Bool × En)
/-- comes to data of the frozen heap -/
def tS (K : PySem.W.Frag) (φ : Ev) : TE := fun σ H Q => ∃ Z G ρ d ρ', SR K Z G H σ ρ ∧ φ ρ = some (d, ρ') ∧ ∀ v G' H', Ex G G' → SR K Z G' H' σ ρ' → Dr K G' v d → Q v H'
/-- comes to a new list or dict that nobody knows yet -/
def tF (K : PySem.W.Frag) (φ : Ev) : TE := fun σ H Q => ∃ Z G ρ d ρ', SR K Z G H σ ρ ∧ φ ρ = some (d, ρ') ∧
  ∀ a G' H', Ex G G' → SR K Z G' H' σ ρ' → G' a = none → Z.H a = none → (∀ j, Owned ρ' j → σ[j]? ≠ some (some (.ref a))) → OwnAt K G' H' a d → Q (.ref a) H'
def tQ (K : PySem.W.Frag) (φ : Eq) : TT := fun σ H Q => ∃ Z G ρ b ρ', SR K Z G H σ ρ ∧ φ ρ = some (b, ρ') ∧ ∀ G' H', Ex G G' → SR K Z G' H' σ ρ' → Q b H'
def tAs (K : PySem.W.Frag) (φ : Es) : TA := fun σ H Q => ∃ Z G ρ ds ρ', SR K Z G H σ ρ ∧ φ ρ = some (ds, ρ') ∧ ∀ vs G' H', Ex G G' → SR K Z G' H' σ ρ' → DrAll K G' vs ds → Q vs H'
/-- a part of a slice -/
def tPt (K : PySem.W.Frag) (φ : En → Option (Option Int × En)) : TO := fun σ H Q => ∃ Z G ρ o ρ', SR K Z G H σ ρ ∧ φ ρ = some (o, ρ') ∧ ∀ G' H', Ex G G' → SR K Z G' H' σ ρ' → Q o H'
section
variable {X : Cx} {e ea eb : Expr} {es : List Expr} {t t' : TE} {K : PySem.W.Frag}
theorem _root_.L2.PE.conv (h : PE X e t) (c : ∀ σ H Q, t' σ H Q → t σ H Q) : PE X e t' := ⟨fun pins s σ H Q I q => h.run pins s σ H Q I (c σ H Q q)⟩
theorem _root_.L2.PT.conv {t t' : TT} (h : PT X e t) (c : ∀ σ H Q, t' σ H Q → t σ H Q) : PT X e t' := ⟨fun pins s σ H Q I q => h.run pins s σ H Q I (c σ H Q q)⟩
theorem _root_.L2.PW.conv {t t' : TT} (h : PW X e t) (c : ∀ σ H Q, t' σ H Q → t σ H Q) : PW X e t' := ⟨fun w pins s σ H Q I q => h.run w pins s σ H Q I (c σ H Q q)⟩
theorem _root_.L2.PA.conv {t t' : TA} (h : PA X es t) (c : ∀ σ H Q, t' σ H Q → t σ H Q) : PA X es t' := ⟨fun pos pins s σ H Q I q => h.run pos pins s σ H Q I (c σ H Q q)⟩
theorem _root_.L2.PO.conv {o : Option Expr} {t t' : TO} (h : PO X o t) (c : ∀ σ H Q, t' σ H Q → t σ H Q) : PO X o t' := ⟨fun pins s σ H Q I q => h.run pins s σ H Q I (c σ H Q q)⟩
theorem _root_.L2.PE.alt (h : PE X e t) (h' : PE X e t') : PE X e (fun σ H Q => t σ H Q ∨ t' σ H Q) := ⟨fun pins s σ H Q I q => q.elim (h.run pins s σ H Q I) (h'.run pins s σ H Q I)⟩
/-! ### names, constants -/
def eV (i : Nat) : Ev := fun ρ => match ρ[i]? with
  | some (.d x) => some (x, ρ)
  | _ => none
def eC (d : PyData) : Ev := fun ρ => some (d, ρ)
theorem r_var {i : Nat} (h : PE X e (tVar i)) : PE X e (tS K (eV i)) := h.conv fun σ H Q ⟨Z, G, ρ, d, ρ', R, q, k⟩ => by
  unfold eV at q
  split at q
  · rename_i x e
    cases q
    obtain ⟨v, h1, h2⟩ := R.str i _ e
    exact ⟨v, h1, k v G H (Ex.refl _) R h2⟩
  · cases q
inductive Lit : V → PyData → Prop
  | non : Lit .non .none
  | bl (b : Bool) : Lit (.bl b) (.bool b)
  | int (i : Int) : Lit (.int i) (.int i)
  | str (x : Str) : Lit (.str x) (.str x)
theorem Lit.dr {v : V} {d : PyData} {G : Hp} (l : Lit v d) : Dr K G v d := by
  cases l with
  | non => exact .non
  | bl b => exact .bl b
  | int i => exact .int i
  | str x => exact .str x
theorem r_c {v : V} {d : PyData} (h : PE X e (tC v)) (l : Lit v d) : PE X e (tS K (eC d)) := h.conv fun σ H Q ⟨Z, G, ρ, d', ρ', R, q, k⟩ => by
  cases q
  exact k v G H (Ex.refl _) R l.dr
theorem r_int {i : Int} (h : PE X e (tC (.int i))) : PE X e (tS K (eC (.int i))) := r_c h (.int i)
theorem r_bl {b : Bool} (h : PE X e (tC (.bl b))) : PE X e (tS K (eC (.bool b))) := r_c h (.bl b)
theorem r_non (h : PE X e (tC .non)) : PE X e (tS K (eC .none)) := r_c h .non
theorem r_str {x : Str} (h : PE X e (tC (.str x))) : PE X e (tS K (eC (.str x))) := r_c h (.str x)
/-! ### fresh things -/
/-- a fresh thing is data, too -/
theorem r_fz {φ : Ev} (h : PE X e (tF K φ)) : PE X e (tS K φ) := h.conv fun σ H Q ⟨Z, G, ρ, d, ρ', R, q, k⟩ => ⟨Z, G, ρ, d, ρ', R, q, fun a G' H' ex R' ha hz hn o => by
  obtain ⟨u, hu⟩ := o.some
  exact k (.ref a) (upd G' a u) H' (ex.trans (Ex.new ha)) (R'.frz ha hz hn hu) (o.frz ha hu)⟩
/-! ### operations -/
def e1 (f : PyData → Option PyData) (a : Ev) : Ev := fun ρ => match a ρ with
  | some (x, ρ1) => (match f x with
    | some d => some (d, ρ1)
    | none => none)
  | none => none
def e2 (f : PyData → PyData → Option PyData) (a b : Ev) : Ev := fun ρ => match a ρ with
  | some (x, ρ1) => (match b ρ1 with
    | some (y, ρ2) => (match f x y with
      | some d => some (d, ρ2)
      | none => none)
    | none => none)
  | none => none
def eN (f : List PyData → Option PyData) (a : Es) : Ev := fun ρ => match a ρ with
  | some (xs, ρ1) => (match f xs with
    | some d => some (d, ρ1)
    | none => none)
  | none => none
/-- what an operation on values does, said by data -/
def Prim2 (K : PySem.W.Frag) (f : PyData → PyData → Option PyData) (r : R2) : Prop := ∀ G H v u x y d, Ex G H → Dr K G v x → Dr K G u y → f x y = some d →
  ∀ Q : VK, (∀ w G' H', Al G H G' H' → Dr K G' w d → Q w H') → r v u H Q
def Prim1 (K : PySem.W.Frag) (f : PyData → Option PyData) (r : V → Hp → VK → Prop) : Prop := ∀ G H v x d, Ex G H → Dr K G v x → f x = some d →
  ∀ Q : VK, (∀ w G' H', Al G H G' H' → Dr K G' w d → Q w H') → r v H Q
def PrimN (K : PySem.W.Frag) (f : List PyData → Option PyData) (r : List V → Hp → VK → Prop) : Prop := ∀ G H vs xs d, Ex G H → DrAll K G vs xs → f xs = some d →
  ∀ Q : VK, (∀ w G' H', Al G H G' H' → Dr K G' w d → Q w H') → r vs H Q
/-- .. a new list -/
def Fr1 (K : PySem.W.Frag) (G H : Hp) (d : PyData) (Q : VK) : Prop := ∀ p u, H p = none → OwnAt K G (upd H p u) p d → Q (.ref p) (upd H p u)
def PrimNF (K : PySem.W.Frag) (f : List PyData → Option PyData) (r : List V → Hp → VK → Prop) : Prop := ∀ G H vs xs d, Ex G H → DrAll K G vs xs → f xs = some d →
  ∀ Q : VK, Fr1 K G H d Q → r vs H Q
def Prim2F (K : PySem.W.Frag) (f : PyData → PyData → Option PyData) (r : R2) : Prop := ∀ G H v u x y d, Ex G H → Dr K G v x → Dr K G u y → f x y = some d →
  ∀ Q : VK, Fr1 K G H d Q → r v u H Q
theorem fr1_of {Z : Zn} {G H : Hp} {σ : L2.St} {ρ' : En} {d : PyData} {Q : VK} (R : SR K Z G H σ ρ')
    (k : ∀ a G' H', Ex G G' → SR K Z G' H' σ ρ' → G' a = none → Z.H a = none → (∀ j, Owned ρ' j → σ[j]? ≠ some (some (.ref a))) → OwnAt K G' H' a d → Q (.ref a) H') : Fr1 K G H d Q := fun p u hp o =>
  k p G (upd H p u) (Ex.refl _) (R.beside hp) (R.gh.none hp) (R.znone hp) (R.notOwned hp) o
variable {a b : Ev} {f2 : PyData → PyData → Option PyData} {f1 : PyData → Option PyData} {fn : List PyData → Option PyData}
theorem t_op2 {r : R2} (hf : Prim2 K f2 r) {σ : L2.St} {H : Hp} {Q : VK} (h : tS K (e2 f2 a b) σ H Q) : tOp r (tS K a) (tS K b) σ H Q := by
  obtain ⟨Z, G, ρ, d, ρ', R, q, k⟩ := h
  unfold e2 at q
  split at q
  · rename_i x ρ1 qa
    split at q
    · rename_i y ρ2 qb
      split at q
      · rename_i d' qf
        cases q
        refine ⟨Z, G, ρ, x, ρ1, R, qa, fun v G1 H1 ex1 R1 d1 => ?_⟩
        refine ⟨Z, G1, ρ1, y, _, R1, qb, fun u G2 H2 ex2 R2 d2 => ?_⟩
        refine hf G2 H2 v u x y d R2.gh (d1.mono ex2) d2 qf Q fun w G3 H3 al dw => ?_
        exact k w G3 H3 ((ex1.trans ex2).trans (al.ex R2.gh).1) (R2.al al) dw
      · cases q
    · cases q
  · cases q
theorem r_bin {op : Operator} {r : R2} {pos : Pos} (ho : OpR X (binaryOp op) r) (hf : Prim2 K f2 r) (h1 : PE X ea (tS K a)) (h2 : PE X eb (tS K b)) : PE X (.BinOp ea op eb pos) (tS K (e2 f2 a b)) :=
  (pe_op ho h1 h2).conv fun _ _ _ h => t_op2 hf h
theorem r_cmp {op : CmpOp} {r : R2} {pos : Pos} (ho : OpR X (compareOp op) r) (hf : Prim2 K f2 r) (h1 : PE X ea (tS K a)) (h2 : PE X eb (tS K b)) (hm : behindInMarks op eb = false) : PE X (.Compare ea [op] [eb] pos) (tS K (e2 f2 a b)) :=
  (pe_cmpR ho h1 h2 hm).conv fun _ _ _ h => t_op2 hf h
theorem r_binF {op : Operator} {r : R2} {pos : Pos} (ho : OpR X (binaryOp op) r) (hf : Prim2F K f2 r) (h1 : PE X ea (tS K a)) (h2 : PE X eb (tS K b)) : PE X (.BinOp ea op eb pos) (tF K (e2 f2 a b)) :=
  (pe_op ho h1 h2).conv fun σ H Q h => by
    obtain ⟨Z, G, ρ, d, ρ', R, q, k⟩ := h
    unfold e2 at q
    split at q
    · rename_i x ρ1 qa
      split at q
      · rename_i y ρ2 qb
        split at q
        · rename_i d' qf
          cases q
          refine ⟨Z, G, ρ, x, ρ1, R, qa, fun v G1 H1 ex1 R1 d1 => ?_⟩
          refine ⟨Z, G1, ρ1, y, _, R1, qb, fun u G2 H2 ex2 R2 d2 => ?_⟩
          exact hf G2 H2 v u x y d R2.gh (d1.mono ex2) d2 qf Q (fr1_of R2 fun a G' H' ex => k a G' H' ((ex1.trans ex2).trans ex))
        · cases q
      · cases q
    · cases q
theorem r_un {op : UnaryOp} {r : V → Hp → VK → Prop} {pos : Pos} (ho : UnR X (unaryOp op) r) (hf : Prim1 K f1 r) (h1 : PE X ea (tS K a)) : PE X (.UnaryOp op ea pos) (tS K (e1 f1 a)) :=
  (pe_un ho h1).conv fun σ H Q h => by
    obtain ⟨Z, G, ρ, d, ρ', R, q, k⟩ := h
    unfold e1 at q
    split at q
    · rename_i x ρ1 qa
      split at q
      · rename_i d' qf
        cases q
        refine ⟨Z, G, ρ, x, _, R, qa, fun v G1 H1 ex1 R1 d1 => ?_⟩
        exact hf G1 H1 v x d R1.gh d1 qf Q fun w G3 H3 al dw => k w G3 H3 (ex1.trans (al.ex R1.gh).1) (R1.al al) dw
      · cases q
    · cases q
/-! ### argument lists, displays -/
def aN : Es := fun ρ => some ([], ρ)
def aC (a : Ev) (r : Es) : Es := fun ρ => match a ρ with
  | some (x, ρ1) => (match r ρ1 with
    | some (xs, ρ2) => some (x :: xs, ρ2)
    | none => none)
  | none => none
def seqOf : PyData → Option (List PyData)
  | .list xs => some xs
  | .tuple xs => some xs
  | _ => none
/-- .. a starred one -/
def aX (a : Ev) (r : Es) : Es := fun ρ => match a ρ with
  | some (x, ρ1) => (match seqOf x with
    | some ys => (match r ρ1 with
      | some (xs, ρ2) => some (ys ++ xs, ρ2)
      | none => none)
    | none => none)
  | none => none
theorem ra_nil : PA X [] (tAs K aN) := pa_nil.conv fun σ H Q ⟨Z, G, ρ, d, ρ', R, q, k⟩ => by
  cases q
  exact k [] G H (Ex.refl _) R .nil
theorem ra_cons {r : Es} (h : PE X e (tS K a)) (hr : PA X es (tAs K r)) (hs : starEach (e :: es) X.env = (false, eval e X.env) :: starEach es X.env := by rfl) : PA X (e :: es) (tAs K (aC a r)) :=
  (pa_cons h hr hs).conv fun σ H Q ⟨Z, G, ρ, d, ρ', R, q, k⟩ => by
    unfold aC at q
    split at q
    · rename_i x ρ1 qa
      split at q
      · rename_i xs ρ2 qb
        cases q
        refine ⟨Z, G, ρ, x, ρ1, R, qa, fun v G1 H1 ex1 R1 d1 => ?_⟩
        exact ⟨Z, G1, ρ1, xs, _, R1, qb, fun vs G2 H2 ex2 R2 d2 => k (v :: vs) G2 H2 (ex1.trans ex2) R2 (.cons (d1.mono ex2) d2)⟩
      · cases q
    · cases q
theorem seqOf_at {G H : Hp} {v : V} {x : PyData} {ys : List PyData} (hx : Dr K G v x) (h : seqOf x = some ys) (ex : Ex G H) : ∃ p xs, v = .ref p ∧ (SqT K H p xs ∨ SqL K H p xs) ∧ DrAll K G xs ys ∧ xs.length ≤ sizeLine := by
  cases hx with
  | lst h1 z t => cases h; exact ⟨_, _, rfl, .inr (.inl (.inl (ex _ _ h1))), t, z⟩
  | tup h1 z t => cases h; exact ⟨_, _, rfl, .inl (ex.sqT h1), t, z⟩
  | non => cases h
  | bl b => cases h
  | int i => cases h
  | str x => cases h
  | dk _ _ _ => cases h
theorem ra_star {r : Es} {p : Pos} (h : PE X e (tS X.K a)) (hr : PA X es (tAs X.K r)) (hs : starEach (.Starred e p :: es) X.env = (true, eval e X.env) :: starEach es X.env := by rfl) : PA X (.Starred e p :: es) (tAs X.K (aX a r)) :=
  (StX.pa_star h hr hs).conv fun σ H Q ⟨Z, G, ρ, d, ρ', R, q, k⟩ => by
    unfold aX at q
    split at q
    · rename_i x ρ1 qa
      split at q
      · rename_i ys qs
        split at q
        · rename_i xs ρ2 qb
          cases q
          refine ⟨Z, G, ρ, x, ρ1, R, qa, fun v G1 H1 ex1 R1 d1 => ?_⟩
          obtain ⟨p, vs, rfl, sq, t, _⟩ := seqOf_at d1 qs R1.gh
          exact ⟨p, vs, rfl, sq, Z, G1, ρ1, xs, _, R1, qb, fun ws G2 H2 ex2 R2 d2 => k (vs ++ ws) G2 H2 (ex1.trans ex2) R2 ((t.mono ex2).append d2)⟩
        · cases q
      · cases q
    · cases q
def lenOk (xs : List PyData) : Bool := decide (xs.length ≤ sizeLine)
def mkT (xs : List PyData) : Option PyData := if xs.length ≤ sizeLine then some (.tuple xs) else none
def mkL (xs : List PyData) : Option PyData := if xs.length ≤ sizeLine then some (.list xs) else none
theorem r_tup {as : Es} {x1 : Nat} {pos : Pos} (h : PA X es (tAs K as)) : PE X (.Tuple es x1 pos) (tS K (eN mkT as)) := (pe_tup h).conv fun σ H Q ⟨Z, G, ρ, d, ρ', R, q, k⟩ => by
  unfold eN at q
  split at q
  · rename_i xs ρ1 qa
    split at q
    · rename_i d' qf
      cases q
      unfold mkT at qf
      split at qf
      · rename_i hz
        cases qf
        refine ⟨Z, G, ρ, xs, _, R, qa, fun vs G1 H1 ex1 R1 d1 => ⟨by rw [d1.len]; exact hz, fun p hp => ?_⟩⟩
        have al : Al G1 H1 (upd G1 p (.tup vs)) (upd H1 p (.tup vs)) := .one hp
        exact k (.ref p) _ _ (ex1.trans (al.ex R1.gh).1) (R1.al al) (.tup (.inl (.inl upd_same)) (by rw [d1.len]; exact hz) (d1.mono (al.ex R1.gh).1))
      · cases qf
    · cases q
  · cases q
theorem r_lst {as : Es} {pos : Pos} (h : PA X es (tAs K as)) : PE X (.List es pos) (tF K (eN mkL as)) := (pe_lst h).conv fun σ H Q ⟨Z, G, ρ, d, ρ', R, q, k⟩ => by
  unfold eN at q
  split at q
  · rename_i xs ρ1 qa
    split at q
    · rename_i d' qf
      cases q
      unfold mkL at qf
      split at qf
      · rename_i hz
        cases qf
        refine ⟨Z, G, ρ, xs, _, R, qa, fun vs G1 H1 ex1 R1 d1 => ⟨by rw [d1.len]; exact hz, fun p hp => ?_⟩⟩
        exact fr1_of R1 (fun a G' H' ex => k a G' H' (ex1.trans ex)) p _ hp ⟨vs, upd_same, by rw [d1.len]; exact hz, d1⟩
      · cases qf
    · cases q
  · cases q
/-! ### calls of what is built in -/
theorem t_callB {r : List V → Hp → VK → Prop} {as : Es} (hf : PrimN K fn r) {σ : L2.St} {H : Hp} {Q : VK} (h : tS K (eN fn as) σ H Q) : tCB r (tAs K as) σ H Q := by
  obtain ⟨Z, G, ρ, d, ρ', R, q, k⟩ := h
  unfold eN at q
  split at q
  · rename_i xs ρ1 qa
    split at q
    · rename_i d' qf
      cases q
      refine ⟨Z, G, ρ, xs, _, R, qa, fun vs G1 H1 ex1 R1 d1 => ?_⟩
      exact hf G1 H1 vs xs d R1.gh d1 qf Q fun w G3 H3 al dw => k w G3 H3 (ex1.trans (al.ex R1.gh).1) (R1.al al) dw
    · cases q
  · cases q
theorem t_callBF {r : List V → Hp → VK → Prop} {as : Es} (hf : PrimNF K fn r) {σ : L2.St} {H : Hp} {Q : VK} (h : tF K (eN fn as) σ H Q) : tCB r (tAs K as) σ H Q := by
  obtain ⟨Z, G, ρ, d, ρ', R, q, k⟩ := h
  unfold eN at q
  split at q
  · rename_i xs ρ1 qa
    split at q
    · rename_i d' qf
      cases q
      refine ⟨Z, G, ρ, xs, _, R, qa, fun vs G1 H1 ex1 R1 d1 => ?_⟩
      exact hf G1 H1 vs xs d R1.gh d1 qf Q (fr1_of R1 fun a G' H' ex => k a G' H' (ex1.trans ex))
    · cases q
  · cases q
/-- an expression that is read so (a call of a built-in, made by pe_callB, pe_callTy) -/
theorem r_cb {r : List V → Hp → VK → Prop} {as : Es} (h : PE X e (tCB r (tAs K as))) (hf : PrimN K fn r) : PE X e (tS K (eN fn as)) := h.conv fun _ _ _ q => t_callB hf q
theorem r_cbF {r : List V → Hp → VK → Prop} {as : Es} (h : PE X e (tCB r (tAs K as))) (hf : PrimNF K fn r) : PE X e (tF K (eN fn as)) := h.conv fun _ _ _ q => t_callBF hf q
/-! ### subscripts, slices -/
theorem r_ix {r : R2} {pos : Pos} (hr : IxR X r) (hf : Prim2 K f2 r) (h1 : PE X ea (tS K a)) (h2 : PE X eb (tS K b)) (hs : PlainIx eb := by intro _ _; rfl) : PE X (.Subscript ea eb pos) (tS K (e2 f2 a b)) :=
  (pe_ix hr h1 h2 hs).conv fun _ _ _ h => t_op2 hf h
def oN : En → Option (Option Int × En) := fun ρ => some (none, ρ)
def oS (a : Ev) : En → Option (Option Int × En) := fun ρ => match a ρ with
  | some (.int i, ρ1) => some (some i, ρ1)
  | _ => none
theorem ro_none : PO X none (tPt K oN) := po_none.conv fun σ H Q ⟨Z, G, ρ, d, ρ', R, q, k⟩ => by
  cases q
  exact k G H (Ex.refl _) R
theorem ro_some (h : PE X e (tS K a)) : PO X (some e) (tPt K (oS a)) := (po_some h).conv fun σ H Q ⟨Z, G, ρ, d, ρ', R, q, k⟩ => by
  unfold oS at q
  split at q
  · rename_i i ρ1 qa
    cases q
    exact ⟨Z, G, ρ, .int i, _, R, qa, fun v G1 H1 ex1 R1 d1 => by cases d1; exact ⟨i, rfl, k G1 H1 ex1 R1⟩⟩
  · cases q
/-- xs[lo:hi] of a list is new; of a tuple it is data -/
def eSl (f : PyData → Option Int → Option Int → Option PyData) (a : Ev) (lo hi : En → Option (Option Int × En)) : Ev := fun ρ => match a ρ with
  | some (x, ρ1) => (match lo ρ1 with
    | some (l, ρ2) => (match hi ρ2 with
      | some (h, ρ3) => (match f x l h with
        | some d => some (d, ρ3)
        | none => none)
      | none => none)
    | none => none)
  | none => none
def cutD (xs : List PyData) (lo hi : Option Int) : List PyData := (xs.drop (HT.sIx xs.length 0 lo)).take (HT.sIx xs.length xs.length hi - HT.sIx xs.length 0 lo)
theorem DrAll.cut {G : Hp} {vs : List V} {ds : List PyData} (h : DrAll K G vs ds) (lo hi : Option Int) : DrAll K G (cutV vs lo hi) (cutD ds lo hi) := by
  unfold cutV cutD
  rw [h.len]
  exact (h.drop _).take _
def slD : PyData → Option Int → Option Int → Option PyData
  | .list xs, lo, hi => some (.list (cutD xs lo hi))
  | .tuple xs, lo, hi => some (.tuple (cutD xs lo hi))
  | _, _, _ => none
def slL : PyData → Option Int → Option Int → Option PyData
  | .list xs, lo, hi => some (.list (cutD xs lo hi))
  | _, _, _ => none
def rSlX (K : PySem.W.Frag) : V → Option Int → Option Int → Hp → VK → Prop := fun x lo hi H Q => rSlL K x lo hi H Q ∨ rSlA K x lo hi H Q
theorem sl_any : SlR X (rSlX X.K) := sl_list.or sl_tupA
end
end DL
/-! DL3: tests, operations on data. -/
namespace DL
open PySem PySem.Spec PyProof.Rows L2
section
variable {X : Cx} {e ea eb ec : Expr} {es : List Expr} {K : PySem.W.Frag} {a b : Ev} {f2 : PyData → PyData → Option PyData} {f1 : PyData → Option PyData} {fn : List PyData → Option PyData}
/-! ### tests -/
def qB (a : Ev) : Eq := fun ρ => match a ρ with
  | some (.bool b, ρ1) => some (b, ρ1)
  | _ => none
theorem tS_bool {σ : L2.St} {H : Hp} {Q : Bool → Hp → Prop} (h : tQ K (qB a) σ H Q) : tS K a σ H (fun x H' => ∃ k, x = .bl k ∧ Q k H') := by
  obtain ⟨Z, G, ρ, d, ρ', R, q, k⟩ := h
  unfold qB at q
  split at q
  · rename_i qa
    cases q
    exact ⟨Z, G, ρ, _, _, R, qa, fun v G' H' ex R' d' => by cases d'; exact ⟨_, rfl, k G' H' ex R'⟩⟩
  · cases q
theorem r_tcmp {op : CmpOp} {r : R2} {pos : Pos} (ho : OpR X (compareOp op) r) (hf : Prim2 K f2 r) (h1 : PE X ea (tS K a)) (h2 : PE X eb (tS K b)) (hm : behindInMarks op eb = false) : PT X (.Compare ea [op] [eb] pos) (tQ K (qB (e2 f2 a b))) :=
  (pt_cmpR ho h1 h2 hm).conv fun _ _ _ h => t_op2 hf (tS_bool h)
theorem r_tval (h : PE X e (tS K a)) (he : ∀ whole, isTrue e X.env whole = (do let v ← whole; standAt e.pos; holding [v] (truthy v)) := by intro _; rfl) : PT X e (tQ K (qB a)) := (pt_val h he).conv fun _ _ _ h => tS_bool h
def qAnd (a b : Eq) : Eq := fun ρ => match a ρ with
  | some (true, ρ1) => b ρ1
  | some (false, ρ1) => some (false, ρ1)
  | none => none
def qOr (a b : Eq) : Eq := fun ρ => match a ρ with
  | some (true, ρ1) => some (true, ρ1)
  | some (false, ρ1) => b ρ1
  | none => none
def qNot (a : Eq) : Eq := fun ρ => match a ρ with
  | some (b, ρ1) => some (!b, ρ1)
  | none => none
section
variable {qa qb : Eq} {rest : List Expr} {pos : Pos}
theorem t_and {σ : L2.St} {H : Hp} {Q : Bool → Hp → Prop} (h : tQ K (qAnd qa qb) σ H Q) : tAnd (tQ K qa) (tQ K qb) σ H Q := by
  obtain ⟨Z, G, ρ, d, ρ', R, q, k⟩ := h
  unfold qAnd at q
  split at q
  · rename_i ρ1 q1
    refine ⟨Z, G, ρ, true, ρ1, R, q1, fun G' H' ex R' => ?_⟩
    refine iteT ?_
    exact ⟨Z, G', ρ1, d, ρ', R', q, fun G2 H2 ex2 R2 => k G2 H2 (ex.trans ex2) R2⟩
  · rename_i ρ1 q1
    cases q
    refine ⟨Z, G, ρ, false, _, R, q1, fun G' H' ex R' => ?_⟩
    refine iteF ?_
    exact k G' H' ex R'
  · cases q
theorem t_or {σ : L2.St} {H : Hp} {Q : Bool → Hp → Prop} (h : tQ K (qOr qa qb) σ H Q) : tOr (tQ K qa) (tQ K qb) σ H Q := by
  obtain ⟨Z, G, ρ, d, ρ', R, q, k⟩ := h
  unfold qOr at q
  split at q
  · rename_i ρ1 q1
    cases q
    refine ⟨Z, G, ρ, true, _, R, q1, fun G' H' ex R' => ?_⟩
    refine iteT ?_
    exact k G' H' ex R'
  · rename_i ρ1 q1
    refine ⟨Z, G, ρ, false, ρ1, R, q1, fun G' H' ex R' => ?_⟩
    refine iteF ?_
    exact ⟨Z, G', ρ1, d, ρ', R', q, fun G2 H2 ex2 R2 => k G2 H2 (ex.trans ex2) R2⟩
  · cases q
theorem rw_and1 (h : PT X ea (tQ K qa)) : PW X (.BoolOp .And [ea] pos) (tQ K qa) := pw_and1 h
theorem rw_or1 (h : PT X ea (tQ K qa)) : PW X (.BoolOp .Or [ea] pos) (tQ K qa) := pw_or1 h
theorem rw_and (ha : PT X ea (tQ K qa)) (hb : PW X (.BoolOp .And (eb :: rest) pos) (tQ K qb)) : PW X (.BoolOp .And (ea :: eb :: rest) pos) (tQ K (qAnd qa qb)) := (pw_and ha hb).conv fun _ _ _ h => t_and h
theorem rw_or (ha : PT X ea (tQ K qa)) (hb : PW X (.BoolOp .Or (eb :: rest) pos) (tQ K qb)) : PW X (.BoolOp .Or (ea :: eb :: rest) pos) (tQ K (qOr qa qb)) := (pw_or ha hb).conv fun _ _ _ h => t_or h
theorem r_tnot (h : PT X ea (tQ K qa)) : PT X (.UnaryOp .Not ea pos) (tQ K (qNot qa)) := (pt_not h).conv fun σ H Q ⟨Z, G, ρ, d, ρ', R, q, k⟩ => by
  unfold qNot at q
  split at q
  · rename_i b ρ1 q1
    cases q
    exact ⟨Z, G, ρ, b, _, R, q1, k⟩
  · cases q
/-- a if t else b -/
def eIf (c : Eq) (a b : Ev) : Ev := fun ρ => match c ρ with
  | some (true, ρ1) => a ρ1
  | some (false, ρ1) => b ρ1
  | none => none
theorem r_if (hc : PT X ec (tQ K qa)) (h1 : PE X ea (tS K a)) (h2 : PE X eb (tS K b)) : PE X (.IfExp ec ea eb pos) (tS K (eIf qa a b)) := (pe_ifExp hc h1 h2).conv fun σ H Q ⟨Z, G, ρ, d, ρ', R, q, k⟩ => by
  unfold eIf at q
  split at q
  · rename_i ρ1 q1
    refine ⟨Z, G, ρ, true, ρ1, R, q1, fun G' H' ex R' => ?_⟩
    refine iteT ?_
    exact ⟨Z, G', ρ1, d, ρ', R', q, fun v G2 H2 ex2 R2 => k v G2 H2 (ex.trans ex2) R2⟩
  · rename_i ρ1 q1
    refine ⟨Z, G, ρ, false, ρ1, R, q1, fun G' H' ex R' => ?_⟩
    refine iteF ?_
    exact ⟨Z, G', ρ1, d, ρ', R', q, fun v G2 H2 ex2 R2 => k v G2 H2 (ex.trans ex2) R2⟩
  · cases q
/-- and, or of truths, as values (the last one of any kind) -/
def eAnd (a b : Ev) : Ev := fun ρ => match a ρ with
  | some (.bool true, ρ1) => b ρ1
  | some (.bool false, ρ1) => some (.bool false, ρ1)
  | _ => none
def eOr (a b : Ev) : Ev := fun ρ => match a ρ with
  | some (.bool true, ρ1) => some (.bool true, ρ1)
  | some (.bool false, ρ1) => b ρ1
  | _ => none
def notD : PyData → Option PyData
  | .bool b => some (.bool (!b))
  | _ => none
theorem r_one {op} {t : TE} (h : PE X ea t) : PE X (.BoolOp op [ea] pos) t := pe_one h
theorem r_and (ha : PE X ea (tS K a)) (hb : PE X (.BoolOp .And (eb :: rest) pos) (tS K b)) : PE X (.BoolOp .And (ea :: eb :: rest) pos) (tS K (eAnd a b)) := (pe_and ha hb).conv fun σ H Q ⟨Z, G, ρ, d, ρ', R, q, k⟩ => by
  unfold eAnd at q
  split at q
  · rename_i ρ1 q1
    refine ⟨Z, G, ρ, _, ρ1, R, q1, fun v G' H' ex R' dv => ?_⟩
    cases dv
    refine ⟨true, rfl, ?_⟩
    refine iteT ?_
    exact ⟨Z, G', ρ1, d, ρ', R', q, fun v G2 H2 ex2 R2 => k v G2 H2 (ex.trans ex2) R2⟩
  · rename_i ρ1 q1
    cases q
    refine ⟨Z, G, ρ, _, _, R, q1, fun v G' H' ex R' dv => ?_⟩
    cases dv
    refine ⟨false, rfl, ?_⟩
    refine iteF ?_
    exact k _ G' H' ex R' (.bl false)
  · cases q
theorem r_or (ha : PE X ea (tS K a)) (hb : PE X (.BoolOp .Or (eb :: rest) pos) (tS K b)) : PE X (.BoolOp .Or (ea :: eb :: rest) pos) (tS K (eOr a b)) := (pe_or ha hb).conv fun σ H Q ⟨Z, G, ρ, d, ρ', R, q, k⟩ => by
  unfold eOr at q
  split at q
  · rename_i ρ1 q1
    cases q
    refine ⟨Z, G, ρ, _, _, R, q1, fun v G' H' ex R' dv => ?_⟩
    cases dv
    refine ⟨true, rfl, ?_⟩
    refine iteT ?_
    exact k _ G' H' ex R' (.bl true)
  · rename_i ρ1 q1
    refine ⟨Z, G, ρ, _, ρ1, R, q1, fun v G' H' ex R' dv => ?_⟩
    cases dv
    refine ⟨false, rfl, ?_⟩
    refine iteF ?_
    exact ⟨Z, G', ρ1, d, ρ', R', q, fun v G2 H2 ex2 R2 => k v G2 H2 (ex.trans ex2) R2⟩
  · cases q
theorem r_not (h : PE X ea (tS K a)) : PE X (.UnaryOp .Not ea pos) (tS K (e1 notD a)) := (pe_not h).conv fun σ H Q ⟨Z, G, ρ, d, ρ', R, q, k⟩ => by
  unfold e1 at q
  split at q
  · rename_i x ρ1 qa
    split at q
    · rename_i d' qf
      cases q
      refine ⟨Z, G, ρ, x, _, R, qa, fun v G1 H1 ex1 R1 d1 => ?_⟩
      unfold notD at qf
      split at qf
      · rename_i bb
        cases qf
        cases d1
        exact ⟨bb, rfl, k _ G1 H1 ex1 R1 (.bl _)⟩
      · cases qf
    · cases q
  · cases q
end
/-! ### slices -/
theorem fin_al {Z : Zn} {G0 G H : Hp} {σ : L2.St} {ρ : En} {d : PyData} {Q : VK} {p : Addr} {o : HO} (R : SR K Z G H σ ρ) (ex : Ex G0 G) (k : ∀ v G' H', Ex G0 G' → SR K Z G' H' σ ρ → Dr K G' v d → Q v H')
    (hp : H p = none) (dr : Ex G (upd G p o) → Dr K (upd G p o) (.ref p) d) : Q (.ref p) (upd H p o) :=
  k (.ref p) _ _ (ex.trans (Ex.new (R.gh.none hp))) (R.al (.one hp)) (dr (Ex.new (R.gh.none hp)))
section
variable {lo hi : Option Expr} {l h : En → Option (Option Int × En)} {pos p2 : Pos}
theorem r_sl (he : PE X ea (tS X.K a)) (hl : PO X lo (tPt X.K l)) (hh : PO X hi (tPt X.K h)) : PE X (.Subscript ea (.Slice lo hi none p2) pos) (tS X.K (eSl slD a l h)) :=
  (pe_slice sl_any he hl hh).conv fun σ H Q ⟨Z, G, ρ, d, ρ', R, q, k⟩ => by
    unfold eSl at q
    split at q
    · rename_i x ρ1 qa
      split at q
      · rename_i ol ρ2 ql
        split at q
        · rename_i oh ρ3 qh
          split at q
          · rename_i d' qf
            cases q
            refine ⟨Z, G, ρ, x, ρ1, R, qa, fun v G1 H1 ex1 R1 d1 => ?_⟩
            refine ⟨Z, G1, ρ1, ol, ρ2, R1, ql, fun G2 H2 ex2 R2 => ?_⟩
            refine ⟨Z, G2, ρ2, oh, _, R2, qh, fun G3 H3 ex3 R3 => ?_⟩
            have d3 := d1.mono (ex2.trans ex3)
            have ex : Ex G G3 := (ex1.trans ex2).trans ex3
            cases d3 with
            | lst h1 z t =>
              cases qf
              refine .inl ⟨_, _, rfl, .inl (.inl (R3.gh _ _ h1)), fun p hp => ?_⟩
              exact fin_al R3 ex k hp fun e' => .lst upd_same (Nat.le_trans (cutV_length _ _ _) z) ((t.cut ol oh).mono e')
            | tup h1 z t =>
              cases qf
              refine .inr ⟨_, _, rfl, R3.gh.sqT h1, fun w => ?_, fun w p hp => ?_⟩
              · refine k (.ref _) G3 H3 ex R3 (.tup h1 z ?_)
                have := t.cut ol oh
                unfold cutV at this
                rw [w.1, w.2, List.drop_zero, Nat.sub_zero, List.take_length] at this
                exact this
              · exact fin_al R3 ex k hp fun e' => .tup (.inl (.inl upd_same)) (Nat.le_trans (cutV_length _ _ _) z) ((t.cut ol oh).mono e')
            | _ => cases qf
          · cases q
        · cases q
      · cases q
    · cases q
theorem r_slF (he : PE X ea (tS X.K a)) (hl : PO X lo (tPt X.K l)) (hh : PO X hi (tPt X.K h)) : PE X (.Subscript ea (.Slice lo hi none p2) pos) (tF X.K (eSl slL a l h)) :=
  (pe_slice sl_list he hl hh).conv fun σ H Q ⟨Z, G, ρ, d, ρ', R, q, k⟩ => by
    unfold eSl at q
    split at q
    · rename_i x ρ1 qa
      split at q
      · rename_i ol ρ2 ql
        split at q
        · rename_i oh ρ3 qh
          split at q
          · rename_i d' qf
            cases q
            refine ⟨Z, G, ρ, x, ρ1, R, qa, fun v G1 H1 ex1 R1 d1 => ?_⟩
            refine ⟨Z, G1, ρ1, ol, ρ2, R1, ql, fun G2 H2 ex2 R2 => ?_⟩
            refine ⟨Z, G2, ρ2, oh, _, R2, qh, fun G3 H3 ex3 R3 => ?_⟩
            have d3 := d1.mono (ex2.trans ex3)
            have ex : Ex G G3 := (ex1.trans ex2).trans ex3
            cases d3 with
            | lst h1 z t =>
              cases qf
              refine ⟨_, _, rfl, .inl (.inl (R3.gh _ _ h1)), fun p hp => ?_⟩
              exact fr1_of R3 (fun a G' H' e' => k a G' H' (ex.trans e')) p _ hp ⟨_, upd_same, Nat.le_trans (cutV_length _ _ _) z, t.cut ol oh⟩
            | _ => cases qf
          · cases q
        · cases q
      · cases q
    · cases q
end
/-! ### operations on data -/
def iI (f : Int → Int → Option Int) : PyData → PyData → Option PyData
  | .int i, .int j => (f i j).map .int
  | _, _ => none
theorem prim_I {C : Int → Int → Prop} {g : Int → Int → Int} {f : Int → Int → Option Int} (hf : ∀ i j k, f i j = some k → C i j ∧ k = g i j) : Prim2 K (iI f) (rI C fun i j => .int (g i j)) := by
  intro G H v u x y d ex dx dy q Q k
  unfold iI at q
  split at q
  · rename_i i j
    cases dx
    cases dy
    cases e : f i j with
    | none => rw [e] at q; cases q
    | some m =>
      rw [e] at q
      cases q
      obtain ⟨c, rfl⟩ := hf i j m e
      exact ⟨i, j, rfl, rfl, c, k _ G H .refl (.int _)⟩
  · cases q
theorem prim_I0 {g : Int → Int → Int} : Prim2 K (iI fun i j => some (g i j)) (rI0 fun i j => .int (g i j)) := by
  intro G H v u x y d ex dx dy q Q k
  unfold iI at q
  split at q
  · rename_i i j
    cases dx
    cases dy
    cases q
    exact ⟨i, j, rfl, rfl, k _ G H .refl (.int _)⟩
  · cases q
def subD := iI fun i j => some (i - j)
def andD := iI fun i j => some (Builtin.bitAnd i j)
def orD := iI fun i j => some (Builtin.bitOr i j)
def xorD := iI fun i j => some (Builtin.bitXor i j)
def modD := iI fun i j => if j = 0 then none else some (i.fmod j)
def fdivD := iI fun i j => if j ≠ 0 ∧ j.natAbs < 1073741824 then some (i.fdiv j) else none
def mulI := iI fun i j => if (-(2 ^ 64) < i ∧ i < 2 ^ 64) ∨ (-(2 ^ 64) < j ∧ j < 2 ^ 64) then some (i * j) else none
def powD := iI fun i j => if 0 ≤ j ∧ j ≤ 1000000 ∧ i.natAbs < 2 ^ 64 then some (i ^ j.toNat) else none
def shlD := iI fun i j => if 0 ≤ j ∧ j ≤ 1000000 ∧ i.natAbs < 2 ^ 64 then some (i * 2 ^ j.toNat) else none
def shrD := iI fun i j => if 0 ≤ j then some (i / 2 ^ j.toNat) else none
theorem p_sub : Prim2 K subD (rI0 fun i j => .int (i - j)) := prim_I0
theorem p_and : Prim2 K andD (rI0 fun i j => .int (Builtin.bitAnd i j)) := prim_I0
theorem p_or : Prim2 K orD (rI0 fun i j => .int (Builtin.bitOr i j)) := prim_I0
theorem p_xor : Prim2 K xorD (rI0 fun i j => .int (Builtin.bitXor i j)) := prim_I0
theorem p_mod : Prim2 K modD (rI (fun _ j => j ≠ 0) fun i j => .int (i.fmod j)) := prim_I fun i j k q => by
  split at q
  · cases q
  · rename_i h; cases q; exact ⟨h, rfl⟩
theorem p_fdiv : Prim2 K fdivD (rI CDivN fun i j => .int (i.fdiv j)) := prim_I fun i j k q => by
  split at q
  · rename_i h; cases q; exact ⟨h, rfl⟩
  · cases q
theorem p_pow : Prim2 K powD (rI CPow fun i j => .int (i ^ j.toNat)) := prim_I fun i j k q => by
  split at q
  · rename_i h; cases q; exact ⟨h, rfl⟩
  · cases q
theorem p_shl : Prim2 K shlD (rI CPow fun i j => .int (i * 2 ^ j.toNat)) := prim_I fun i j k q => by
  split at q
  · rename_i h; cases q; exact ⟨h, rfl⟩
  · cases q
theorem p_shr : Prim2 K shrD (rI (fun _ j => 0 ≤ j) fun i j => .int (i / 2 ^ j.toNat)) := prim_I fun i j k q => by
  split at q
  · rename_i h; cases q; exact ⟨h, rfl⟩
  · cases q
theorem p_mulI : Prim2 K mulI (rI CMul fun i j => .int (i * j)) := prim_I fun i j k q => by
  split at q
  · rename_i h; cases q; exact ⟨h, rfl⟩
  · cases q
/-- + -/
def addD : PyData → PyData → Option PyData
  | .int i, .int j => some (.int (i + j))
  | .str x, .str y => if x.length + y.length ≤ sizeLine then some (.str (x ++ y)) else none
  | .tuple xs, .tuple ys => if xs.length + ys.length ≤ sizeLine then some (.tuple (xs ++ ys)) else none
  | .list xs, .list ys => if xs.length + ys.length ≤ sizeLine then some (.list (xs ++ ys)) else none
  | _, _ => none
def rAddX (K : PySem.W.Frag) : R2 := fun x y H Q => (∃ i j, x = .int i ∧ y = .int j ∧ Q (.int (i + j)) H) ∨ ((∃ i j, x = .str i ∧ y = .str j ∧ i.length + j.length ≤ sizeLine ∧ Q (.str (i ++ j)) H) ∨ (rCatA K x y H Q ∨ rCat x y H Q))
theorem o_add : OpR X (binaryOp .Add) (rAddX X.K) := op_add.or (op_add_str.or (op_catA.or op_cat))
theorem p_add : Prim2 K addD (rAddX K) := by
  intro G H v u x y d ex dx dy q Q k
  unfold addD at q
  split at q
  · cases dx; cases dy; cases q
    exact .inl ⟨_, _, rfl, rfl, k _ G H .refl (.int _)⟩
  · split at q
    · rename_i hz
      cases dx; cases dy; cases q
      exact .inr (.inl ⟨_, _, rfl, rfl, hz, k _ G H .refl (.str _)⟩)
    · cases q
  · split at q
    · rename_i xs ys hz
      cases q
      cases dx with
      | tup h1 z1 t1 =>
        cases dy with
        | tup h2 z2 t2 =>
          refine .inr (.inr (.inl ⟨_, _, _, _, rfl, rfl, ex.sqT h1, ex.sqT h2, by rw [t1.len, t2.len]; exact hz, fun e => ?_, fun n e => ?_, fun n1 n2 p hp => ?_⟩))
          · subst e
            cases t1
            exact k _ G H .refl (.tup h2 z2 t2)
          · subst e
            cases t2
            exact k _ G H .refl (by rw [List.append_nil]; exact .tup h1 z1 t1)
          · exact k (.ref p) _ _ (.one hp) (.tup (.inl (.inl upd_same)) (by rw [List.length_append, t1.len, t2.len]; exact hz) ((t1.append t2).mono (Ex.new (ex.none hp))))
    · cases q
  · split at q
    · rename_i xs ys hz
      cases q
      cases dx with
      | lst h1 z1 t1 =>
        cases dy with
        | lst h2 z2 t2 =>
          refine .inr (.inr (.inr ⟨_, _, _, _, rfl, rfl, ex _ _ h1, ex _ _ h2, by rw [t1.len, t2.len]; exact hz, fun p hp => ?_⟩))
          exact k (.ref p) _ _ (.one hp) (.lst upd_same (by rw [List.length_append, t1.len, t2.len]; exact hz) ((t1.append t2).mono (Ex.new (ex.none hp))))
    · cases q
  · cases q
/-- list + list, a new one -/
def catF : PyData → PyData → Option PyData
  | .list xs, .list ys => if xs.length + ys.length ≤ sizeLine then some (.list (xs ++ ys)) else none
  | _, _ => none
theorem p_catF : Prim2F K catF rCat := by
  intro G H v u x y d ex dx dy q Q k
  unfold catF at q
  split at q
  · split at q
    · rename_i xs ys hz
      cases q
      cases dx with
      | lst h1 z1 t1 =>
        cases dy with
        | lst h2 z2 t2 =>
          refine ⟨_, _, _, _, rfl, rfl, ex _ _ h1, ex _ _ h2, by rw [t1.len, t2.len]; exact hz, fun p hp => ?_⟩
          exact k p _ hp ⟨_, upd_same, by rw [List.length_append, t1.len, t2.len]; exact hz, t1.append t2⟩
    · cases q
  · cases q
/-- -x -/
def negD : PyData → Option PyData
  | .int i => some (.int (-i))
  | _ => none
theorem p_neg : Prim1 K negD (rU fun i => .int (-i)) := by
  intro G H v x d ex dx q Q k
  unfold negD at q
  split at q
  · cases dx; cases q; exact ⟨_, rfl, k _ G H .refl (.int _)⟩
  · cases q
/-- < <= > >= of ints -/
def iB (g : Int → Int → Bool) : PyData → PyData → Option PyData
  | .int i, .int j => some (.bool (g i j))
  | _, _ => none
theorem p_iB {g : Int → Int → Bool} : Prim2 K (iB g) (rI0 fun i j => .bl (g i j)) := by
  intro G H v u x y d ex dx dy q Q k
  unfold iB at q
  split at q
  · cases dx; cases dy; cases q
    exact ⟨_, _, rfl, rfl, k _ G H .refl (.bl _)⟩
  · cases q
def ltI := iB fun i j => decide (i < j)
def leI := iB fun i j => decide (i ≤ j)
def gtI := iB fun i j => decide (j < i)
def geI := iB fun i j => decide (j ≤ i)
theorem p_lt : Prim2 K ltI (rI0 fun i j => .bl (decide (i < j))) := p_iB
theorem p_le : Prim2 K leI (rI0 fun i j => .bl (decide (i ≤ j))) := p_iB
theorem p_gt : Prim2 K gtI (rI0 fun i j => .bl (decide (j < i))) := p_iB
theorem p_ge : Prim2 K geI (rI0 fun i j => .bl (decide (j ≤ i))) := p_iB
/-- is None -/
def isN (x y : PyData) : Option PyData := match y with
  | .none => some (.bool (match x with | .none => true | _ => false))
  | _ => none
def isNotN (x y : PyData) : Option PyData := match y with
  | .none => some (.bool (match x with | .none => false | _ => true))
  | _ => none
theorem p_isN : Prim2 K isN (fun x y H Q => y = .non ∧ Q (.bl (decide (x = .non))) H) := by
  intro G H v u x y d ex dx dy q Q k
  unfold isN at q
  split at q
  · cases dy; cases q
    refine ⟨rfl, ?_⟩
    cases dx <;> exact k _ G H .refl (.bl _)
  · cases q
theorem p_isNotN : Prim2 K isNotN (fun x y H Q => y = .non ∧ Q (.bl (!decide (x = .non))) H) := by
  intro G H v u x y d ex dx dy q Q k
  unfold isNotN at q
  split at q
  · cases dy; cases q
    refine ⟨rfl, ?_⟩
    cases dx <;> exact k _ G H .refl (.bl _)
  · cases q
/-- == of texts, and of data of any depth -/
def eqD (x y : PyData) : Option PyData := match x, y with
  | .str a, .str b => some (.bool (a == b))
  | x, y => if SeqAt.shaped x = true ∧ SeqAt.shaped y = true then some (.bool (PyData.eqv x y)) else none
def neD (x y : PyData) : Option PyData := match x, y with
  | .str a, .str b => some (.bool (!(a == b)))
  | x, y => if SeqAt.shaped x = true ∧ SeqAt.shaped y = true then some (.bool (!PyData.eqv x y)) else none
def rEqX (K : PySem.W.Frag) : R2 := fun x y H Q => rEqD K x y H Q ∨ rEq x y H Q
def rNeX (K : PySem.W.Frag) : R2 := fun x y H Q => rNeD K x y H Q ∨ rNe x y H Q
theorem op_eqX {X : Cx} (hu : X.A.units + 64 < cLine) : OpR X (compareOp .Eq) (rEqX X.K) := (op_eqD hu).or op_eq
theorem op_neX {X : Cx} (hu : X.A.units + 64 < cLine) : OpR X (compareOp .NotEq) (rNeX X.K) := (op_neD hu).or op_ne
theorem p_eq : Prim2 K eqD (rEqX K) := by
  intro G H v u x y d ex dx dy q Q k
  unfold eqD at q
  split at q
  · cases q
    cases dx
    cases dy
    refine .inr ⟨rfl, ?_⟩
    rw [dec_str]
    exact k _ G H .refl (.bl _)
  · split at q
    · rename_i h
      cases q
      exact .inl ⟨x, y, (dx.mono ex).dp (PyData.hasDict_of_canLay x (SeqAt.canLay_of_shaped h.1)), (dy.mono ex).dp (PyData.hasDict_of_canLay y (SeqAt.canLay_of_shaped h.2)), h.1, h.2, k _ G H .refl (.bl _)⟩
    · cases q
theorem p_ne : Prim2 K neD (rNeX K) := by
  intro G H v u x y d ex dx dy q Q k
  unfold neD at q
  split at q
  · cases q
    cases dx
    cases dy
    refine .inr ⟨rfl, ?_⟩
    rw [dec_str]
    exact k _ G H .refl (.bl _)
  · split at q
    · rename_i h
      cases q
      exact .inl ⟨x, y, (dx.mono ex).dp (PyData.hasDict_of_canLay x (SeqAt.canLay_of_shaped h.1)), (dy.mono ex).dp (PyData.hasDict_of_canLay y (SeqAt.canLay_of_shaped h.2)), h.1, h.2, k _ G H .refl (.bl _)⟩
    · cases q
/-- in, not in -/
def inData (x : PyData) (ds : List PyData) : Bool := ds.any fun z => PyData.eqv z x
def inD (x y : PyData) : Option PyData := match seqOf y with
  | some ds => if x.hasDict = false ∧ PyData.hasDictAll ds = false ∧ SeqAt.shaped x = true ∧ PyData.canLayAll0 ds = true then some (.bool (inData x ds)) else none
  | none => none
def ninD (x y : PyData) : Option PyData := match seqOf y with
  | some ds => if x.hasDict = false ∧ PyData.hasDictAll ds = false ∧ SeqAt.shaped x = true ∧ PyData.canLayAll0 ds = true then some (.bool (!inData x ds)) else none
  | none => none
def rInX (K : PySem.W.Frag) (neg : Bool) : R2 := fun x y H Q => ∃ d e ds, Dp K H x d ∧ Dp K H y e ∧ seqOf e = some ds ∧ SeqAt.shaped d = true ∧ PyData.canLayAll0 ds = true ∧ Q (.bl (if neg then !inData d ds else inData d ds)) H
theorem room_in {A : Around} {d : PyData} {n : Nat} (hd : SeqAt.shaped d = true) (hu : A.units + 65 < cLine) : A.units + 1 + min n d.depth < cLine := by
  have h1 := SeqAt.depth_of_shaped hd
  have h2 : min n d.depth ≤ d.depth := Nat.min_le_right _ _
  omega
theorem o_in (hu : X.A.units + 65 < cLine) : OpR X (compareOp .In) (rInX X.K false) := by
  intro pins s σ H x y v u Q I rx ry h
  obtain ⟨d, e, ds, hd, he, hs, sd, se, q⟩ := h
  obtain ⟨as, r1⟩ := Dp.reads I d x v hd rx
  obtain ⟨bs, r2⟩ := Dp.reads I e y u he ry
  cases e with
  | list zs => cases hs; exact SeqAt.in_list_reads r2 r1 se (SeqAt.canLay_of_shaped sd) (room_in sd hu) ⟨.bl _, H, I, rfl, q⟩
  | tuple zs => cases hs; exact SeqAt.in_tuple_reads r2 r1 se (SeqAt.canLay_of_shaped sd) (room_in sd hu) ⟨.bl _, H, I, rfl, q⟩
  | _ => cases hs
theorem o_nin (hu : X.A.units + 65 < cLine) : OpR X (compareOp .NotIn) (rInX X.K true) := by
  intro pins s σ H x y v u Q I rx ry h
  obtain ⟨d, e, ds, hd, he, hs, sd, se, q⟩ := h
  obtain ⟨as, r1⟩ := Dp.reads I d x v hd rx
  obtain ⟨bs, r2⟩ := Dp.reads I e y u he ry
  cases e with
  | list zs => cases hs; exact SeqAt.notIn_list_reads r2 r1 se (SeqAt.canLay_of_shaped sd) (room_in sd hu) ⟨.bl _, H, I, rfl, q⟩
  | tuple zs => cases hs; exact SeqAt.notIn_tuple_reads r2 r1 se (SeqAt.canLay_of_shaped sd) (room_in sd hu) ⟨.bl _, H, I, rfl, q⟩
  | _ => cases hs
theorem hasDict_seq {e : PyData} {ds : List PyData} (h : seqOf e = some ds) : e.hasDict = PyData.hasDictAll ds := by
  cases e with
  | list xs => cases h; simp [PyData.hasDict]
  | tuple xs => cases h; simp [PyData.hasDict]
  | _ => cases h
theorem p_in : Prim2 K inD (rInX K false) := by
  intro G H v u x y d ex dx dy q Q k
  unfold inD at q
  split at q
  · rename_i ds hs
    split at q
    · rename_i h
      cases q
      exact ⟨x, y, ds, (dx.mono ex).dp h.1, (dy.mono ex).dp (by rw [hasDict_seq hs]; exact h.2.1), hs, h.2.2.1, h.2.2.2, k _ G H .refl (.bl _)⟩
    · cases q
  · cases q
theorem p_nin : Prim2 K ninD (rInX K true) := by
  intro G H v u x y d ex dx dy q Q k
  unfold ninD at q
  split at q
  · rename_i ds hs
    split at q
    · rename_i h
      cases q
      exact ⟨x, y, ds, (dx.mono ex).dp h.1, (dy.mono ex).dp (by rw [hasDict_seq hs]; exact h.2.1), hs, h.2.2.1, h.2.2.2, k _ G H .refl (.bl _)⟩
    · cases q
  · cases q
/-- xs[i] of lists, tuples, texts -/
def ixD : PyData → PyData → Option PyData
  | .list xs, .int i => atI xs i
  | .tuple xs, .int i => atI xs i
  | .str z, .int i => if z.length ≤ sizeLine then (atI z.cps.toList i).map fun c => .str ⟨#[c]⟩ else none
  | _, _ => none
theorem DrAll.at {G : Hp} {vs : List V} {ds : List PyData} {i : Int} {d : PyData} (h : DrAll K G vs ds) (e : atI ds i = some d) : ∃ v, atI vs i = some v ∧ Dr K G v d := by
  unfold atI at e ⊢
  rw [h.len]
  cases q : ixN ds.length i with
  | none => rw [q] at e; cases e
  | some j =>
    rw [q] at e
    exact h.get e
theorem p_ix : Prim2 K ixD (rIx K) := by
  intro G H v u x y d ex dx dy q Q k
  unfold ixD at q
  split at q
  · cases dy
    cases dx with
    | lst h1 z t =>
      obtain ⟨w, e1, e2⟩ := t.at q
      exact .inl ⟨_, _, _, w, rfl, rfl, .inl (.inl (ex _ _ h1)), e1, k _ G H .refl e2⟩
  · cases dy
    cases dx with
    | tup h1 z t =>
      obtain ⟨w, e1, e2⟩ := t.at q
      exact .inr (.inl ⟨_, _, _, w, rfl, rfl, ex.sqT h1, e1, k _ G H .refl e2⟩)
  · split at q
    · rename_i z i hz
      cases dy
      cases dx
      cases e : atI z.cps.toList i with
      | none => rw [e] at q; cases q
      | some c =>
        rw [e] at q
        cases q
        exact .inr (.inr ⟨z, i, c, rfl, rfl, hz, e, k _ G H .refl (.str _)⟩)
    · cases q
  · cases q
theorem seqOf_eq {e : PyData} {ds : List PyData} (h : seqOf e = some ds) : e = .list ds ∨ e = .tuple ds := by
  cases e with
  | list xs => cases h; exact .inl rfl
  | tuple xs => cases h; exact .inr rfl
  | _ => cases h
end
end DL
/-! DL4: statements, loops, comprehensions. -/
namespace DL
open PySem PySem.Spec PyProof.Rows L2
inductive Fw where
  | nx (ρ : En) | ret (d : PyData) (ρ : En) | brk (ρ : En) | ct (ρ : En)
abbrev Sv := En → Option Fw
def ZP (Z : Zn) : Prop := ∀ a, Z.io a → ∃ j, Z.pin j = some a
/-- what a def hands back -/
def RetR (K : PySem.W.Frag) (fr : Bool) (Z : Zn) (G H : Hp) (v : V) (d : PyData) : Prop :=
  if fr = true then ∃ a, v = .ref a ∧ G a = none ∧ Z.H a = none ∧ OwnAt K G H a d else Dr K G v d
/-- what follows a flow -/
def KT (K : PySem.W.Frag) (fr : Bool) (Z : Zn) (G : Hp) (D : Ends) : Fw → Prop
  | .nx ρ' => ∀ σ' G' H', Ex G G' → SR K Z G' H' σ' ρ' → D.nx σ' H'
  | .ret d ρ' => ∀ v σ' G' H', Ex G G' → SR K Z G' H' σ' ρ' → RetR K fr Z G' H' v d → D.rt v H'
  | .brk ρ' => ∀ σ' G' H', Ex G G' → SR K Z G' H' σ' ρ' → D.bk σ' H'
  | .ct ρ' => ∀ σ' G' H', Ex G G' → SR K Z G' H' σ' ρ' → D.ct σ' H'
theorem KT.mono {K : PySem.W.Frag} {fr : Bool} {Z : Zn} {G G1 : Hp} {D : Ends} {w : Fw} (ex : Ex G G1) (k : KT K fr Z G D w) : KT K fr Z G1 D w := by
  cases w with
  | nx ρ2 => exact fun σ' G' H' ex' R' => k σ' G' H' (ex.trans ex') R'
  | brk ρ2 => exact fun σ' G' H' ex' R' => k σ' G' H' (ex.trans ex') R'
  | ct ρ2 => exact fun σ' G' H' ex' R' => k σ' G' H' (ex.trans ex') R'
  | ret d ρ2 => exact fun v σ' G' H' ex' R' => k v σ' G' H' (ex.trans ex') R'
def tT (K : PySem.W.Frag) (fr : Bool) (ψ : Sv) : TS := fun D σ H => ∃ Z G ρ w, ZP Z ∧ SR K Z G H σ ρ ∧ ψ ρ = some w ∧ KT K fr Z G D w
theorem _root_.L2.PS.conv {X : Cx} {st : Stmt} {t t' : TS} (h : PS X st t) (c : ∀ D σ H, t' D σ H → t D σ H) : PS X st t' := ⟨fun pins s σ H D I q => h.run pins s σ H D I (c D σ H q)⟩
theorem _root_.L2.PSs.conv {X : Cx} {st : List Stmt} {t t' : TS} (h : PSs X st t) (c : ∀ D σ H, t' D σ H → t D σ H) : PSs X st t' := ⟨fun pins s σ H D I q => h.run pins s σ H D I (c D σ H q)⟩
theorem _root_.L2.PI.conv {X : Cx} {tg e : Expr} {t t' : TI} (h : PI X tg e t) (c : ∀ σ H Q, t' σ H Q → t σ H Q) : PI X tg e t' := ⟨fun pins s σ H Q I q => h.run pins s σ H Q I (c σ H Q q)⟩
theorem _root_.L2.PI.alt {X : Cx} {tg e : Expr} {t t' : TI} (h : PI X tg e t) (h' : PI X tg e t') : PI X tg e (fun σ H R => t σ H R ∨ t' σ H R) := ⟨fun pins s σ H Q I q => q.elim (h.run pins s σ H Q I) (h'.run pins s σ H Q I)⟩
theorem _root_.L2.PG.conv {X : Cx} {tg : Expr} {t t' : TG} (h : PG X tg t) (c : ∀ v σ H Q, t' v σ H Q → t v σ H Q) : PG X tg t' := ⟨fun pins s σ H v u Q I r q => h.run pins s σ H v u Q I r (c v σ H Q q)⟩
theorem _root_.L2.PGs.conv {X : Cx} {tg : List Expr} {t t' : TGs} (h : PGs X tg t) (c : ∀ v σ H Q, t' v σ H Q → t v σ H Q) : PGs X tg t' := ⟨fun pins s σ H v u Q I r q => h.run pins s σ H v u Q I r (c v σ H Q q)⟩
theorem _root_.L2.PTs.conv {X : Cx} {es : List Expr} {t t' : TT} (h : PTs X es t) (c : ∀ σ H Q, t' σ H Q → t σ H Q) : PTs X es t' := ⟨fun pins s σ H Q I q => h.run pins s σ H Q I (c σ H Q q)⟩
section
variable {X : Cx} {K : PySem.W.Frag} {fr : Bool} {st : Stmt} {sts : List Stmt} {e : Expr} {a : Ev} {q : Eq} {ψ φ : Sv} {pos : Pos}
/-! ### blocks -/
def sN : Sv := fun ρ => some (.nx ρ)
def sQ (ψ φ : Sv) : Sv := fun ρ => match ψ ρ with
  | some (.nx ρ1) => φ ρ1
  | r => r
theorem rs_nil : PSs X [] (tT K fr sN) := pss_nil.conv fun D σ H ⟨Z, G, ρ, w, zp, R, q, k⟩ => by
  cases q
  exact k σ G H (Ex.refl _) R
theorem rs_cons (h1 : PS X st (tT K fr ψ)) (h2 : PSs X sts (tT K fr φ)) : PSs X (st :: sts) (tT K fr (sQ ψ φ)) := (pss_cons h1 h2).conv fun D σ H ⟨Z, G, ρ, w, zp, R, q, k⟩ => by
  unfold sQ at q
  split at q
  · rename_i ρ1 q1
    exact ⟨Z, G, ρ, .nx ρ1, zp, R, q1, fun σ1 G1 H1 ex R1 => ⟨Z, G1, ρ1, w, zp, R1, q, k.mono ex⟩⟩
  · rename_i hne
    refine ⟨Z, G, ρ, w, zp, R, q, ?_⟩
    cases w with
    | nx ρ2 => exact absurd q (hne ρ2)
    | brk ρ2 => exact k
    | ct ρ2 => exact k
    | ret d ρ2 => exact k
theorem rs_one (h1 : PS X st (tT K fr ψ)) : PSs X [st] (tT K fr ψ) := pss_one h1
/-! ### small statements -/
def sAsg (i : Nat) (a : Ev) : Sv := fun ρ => match a ρ with
  | some (d, ρ1) => some (.nx (ρ1.set i (.d d)))
  | none => none
def sAsgO (i : Nat) (a : Ev) : Sv := fun ρ => match a ρ with
  | some (d, ρ1) => some (.nx (ρ1.set i (.o d)))
  | none => none
theorem r_asg {i : Nat} (h : PS X st (tAsg (tS K a) (gName i))) : PS X st (tT K fr (sAsg i a)) := h.conv fun D σ H ⟨Z, G, ρ, w, zp, R, q, k⟩ => by
  unfold sAsg at q
  split at q
  · rename_i d ρ1 qa
    cases q
    exact ⟨Z, G, ρ, d, ρ1, R, qa, fun v G' H' ex R' dr => k _ G' H' ex (R'.setD dr)⟩
  · cases q
theorem r_asgO {i : Nat} (h : PS X st (tAsg (tF K a) (gName i))) : PS X st (tT K fr (sAsgO i a)) := h.conv fun D σ H ⟨Z, G, ρ, w, zp, R, q, k⟩ => by
  unfold sAsgO at q
  split at q
  · rename_i d ρ1 qa
    cases q
    exact ⟨Z, G, ρ, d, ρ1, R, qa, fun p G' H' ex R' hg hz hn o => k _ G' H' ex (R'.setO hg hz hn o)⟩
  · cases q
/-- the reading of what is assigned, changed -/
theorem asg_conv {te te' : TE} {g : TG} (h : PS X st (tAsg te g)) (c : ∀ σ H Q, te' σ H Q → te σ H Q) : PS X st (tAsg te' g) := h.conv fun D σ H q => c σ H _ q
def sDrop (a : Ev) : Sv := fun ρ => match a ρ with
  | some (_, ρ1) => some (.nx ρ1)
  | none => none
theorem r_drop (h : PS X st (tDrop (tS K a))) : PS X st (tT K fr (sDrop a)) := h.conv fun D σ H ⟨Z, G, ρ, w, zp, R, q, k⟩ => by
  unfold sDrop at q
  split at q
  · rename_i d ρ1 qa
    cases q
    exact ⟨Z, G, ρ, d, _, R, qa, fun v G' H' ex R' dr => k σ G' H' ex R'⟩
  · cases q
def sRet (a : Ev) : Sv := fun ρ => match a ρ with
  | some (d, ρ1) => some (.ret d ρ1)
  | none => none
theorem r_ret (h : PE X e (tS K a)) : PS X (.Return (some e) pos) (tT K false (sRet a)) := (ps_ret h).conv fun D σ H ⟨Z, G, ρ, w, zp, R, q, k⟩ => by
  unfold sRet at q
  split at q
  · rename_i d ρ1 qa
    cases q
    exact ⟨Z, G, ρ, d, _, R, qa, fun v G' H' ex R' dr => k v σ G' H' ex R' dr⟩
  · cases q
theorem r_retF (h : PE X e (tF K a)) : PS X (.Return (some e) pos) (tT K true (sRet a)) := (ps_ret h).conv fun D σ H ⟨Z, G, ρ, w, zp, R, q, k⟩ => by
  unfold sRet at q
  split at q
  · rename_i d ρ1 qa
    cases q
    exact ⟨Z, G, ρ, d, _, R, qa, fun p G' H' ex R' hg hz hn o => k (.ref p) σ G' H' ex R' ⟨p, rfl, hg, hz, o⟩⟩
  · cases q
/-- return x, x a list or dict of the def's own -/
def sRetO (i : Nat) : Sv := fun ρ => match ρ[i]? with
  | some (.o d) => some (.ret d (ρ.set i .u))
  | _ => none
theorem ret_own {Z : Zn} {G H : Hp} {σ : L2.St} {ρ : En} {i : Nat} {d : PyData} (zp : ZP Z) (R : SR K Z G H σ ρ) (e : ρ[i]? = some (.o d)) :
    ∃ p, σ[i]? = some (some (.ref p)) ∧ G p = none ∧ Z.H p = none ∧ OwnAt K G H p d ∧ SR K Z G H σ (ρ.set i .u) ∧ ∀ j, Owned (ρ.set i .u) j → σ[j]? ≠ some (some (.ref p)) := by
  obtain ⟨p, h1, h2, h3, h4⟩ := R.own i _ d e rfl
  refine ⟨p, h1, h2, ?_, h3, R.less (by rw [List.length_set]) fun j s hj => ?_, fun j ⟨s, x, hj, hs⟩ hp => ?_⟩
  · rcases h4 with h4 | h4
    · obtain ⟨j, hj⟩ := zp _ h4
      exact absurd hj (R.opin i d p e h1 j)
    · exact h4
  · rcases getElem?_set_cases hj with ⟨_, z⟩ | ⟨_, z⟩
    · exact .inl z
    · exact .inr z
  · rcases getElem?_set_cases hj with ⟨_, z⟩ | ⟨n, z⟩
    · subst z; cases hs
    · exact n (R.inj j i p ⟨s, x, z, hs⟩ ⟨_, d, e, rfl⟩ hp h1)
theorem r_retOF {i : Nat} (h : PE X e (tVar i)) : PS X (.Return (some e) pos) (tT K true (sRetO i)) := (ps_ret h).conv fun D σ H ⟨Z, G, ρ, w, zp, R, q, k⟩ => by
  unfold sRetO at q
  split at q
  · rename_i d hd
    cases q
    obtain ⟨p, h1, h2, h3, h4, h5, _⟩ := ret_own zp R hd
    exact ⟨.ref p, h1, k (.ref p) σ G H (Ex.refl _) h5 ⟨p, rfl, h2, h3, h4⟩⟩
  · cases q
theorem r_retO {i : Nat} (h : PE X e (tVar i)) : PS X (.Return (some e) pos) (tT K false (sRetO i)) := (ps_ret h).conv fun D σ H ⟨Z, G, ρ, w, zp, R, q, k⟩ => by
  unfold sRetO at q
  split at q
  · rename_i d hd
    cases q
    obtain ⟨p, h1, h2, h3, h4, h5, h6⟩ := ret_own zp R hd
    obtain ⟨u, hu⟩ := h4.some
    exact ⟨.ref p, h1, k (.ref p) σ (upd G p u) H (Ex.new h2) (h5.frz h2 h3 h6 hu) (h4.frz h2 hu)⟩
  · cases q
def sRetN : Sv := fun ρ => some (.ret .none ρ)
theorem r_retN : PS X (.Return none pos) (tT K false sRetN) := ps_retN.conv fun D σ H ⟨Z, G, ρ, w, zp, R, q, k⟩ => by
  cases q
  exact k .non σ G H (Ex.refl _) R .non
def sBrk : Sv := fun ρ => some (.brk ρ)
def sCt : Sv := fun ρ => some (.ct ρ)
theorem r_brk : PS X (.Break pos) (tT K fr sBrk) := ps_break.conv fun D σ H ⟨Z, G, ρ, w, zp, R, q, k⟩ => by
  cases q
  exact k σ G H (Ex.refl _) R
theorem r_ct : PS X (.Continue pos) (tT K fr sCt) := ps_continue.conv fun D σ H ⟨Z, G, ρ, w, zp, R, q, k⟩ => by
  cases q
  exact k σ G H (Ex.refl _) R
theorem r_pass : PS X (.Pass pos) (tT K fr sN) := ps_pass.conv fun D σ H ⟨Z, G, ρ, w, zp, R, q, k⟩ => by
  cases q
  exact k σ G H (Ex.refl _) R
def sIf (c : Eq) (ψ φ : Sv) : Sv := fun ρ => match c ρ with
  | some (true, ρ1) => ψ ρ1
  | some (false, ρ1) => φ ρ1
  | none => none
theorem weakT {Z : Zn} {G G1 H1 : Hp} {σ1 : L2.St} {ρ1 : En} {w : Fw} {D : Ends} (zp : ZP Z) (R1 : SR K Z G1 H1 σ1 ρ1) (q : ψ ρ1 = some w) (ex : Ex G G1) (k : KT K fr Z G D w) : tT K fr ψ D σ1 H1 :=
  ⟨Z, G1, ρ1, w, zp, R1, q, k.mono ex⟩
theorem r_ifS {c : Expr} {sa sb : List Stmt} (hc : PT X c (tQ K q)) (ha : PSs X sa (tT K fr ψ)) (hb : PSs X sb (tT K fr φ)) : PS X (.If c sa sb pos) (tT K fr (sIf q ψ φ)) := (ps_if hc ha hb).conv fun D σ H ⟨Z, G, ρ, w, zp, R, hq, k⟩ => by
  unfold sIf at hq
  split at hq
  · rename_i ρ1 q1
    exact ⟨Z, G, ρ, true, ρ1, R, q1, fun G' H' ex R' => iteT (weakT zp R' hq ex k)⟩
  · rename_i ρ1 q1
    exact ⟨Z, G, ρ, false, ρ1, R, q1, fun G' H' ex R' => iteF (weakT zp R' hq ex k)⟩
  · cases hq
/-! ### targets -/
abbrev Gv := PyData → En → Option En
abbrev Gvs := List PyData → En → Option En
/-- a target that stores to the slots vs alone -/
def gD (K : PySem.W.Frag) (vs : List Nat) (g : Gv) : TG := fun v σ H Q => ∃ Z G ρ x ρ', SR K Z G H σ ρ ∧ Dr K G v x ∧ g x ρ = some ρ' ∧ ∀ σ', SR K Z G H σ' ρ' → wipe σ' vs = wipe σ vs → Q σ' H
def gDs (K : PySem.W.Frag) (vs : List Nat) (g : Gvs) : TGs := fun us σ H Q => ∃ Z G ρ xs ρ', SR K Z G H σ ρ ∧ DrAll K G us xs ∧ g xs ρ = some ρ' ∧ ∀ σ', SR K Z G H σ' ρ' → wipe σ' vs = wipe σ vs → Q σ' H
theorem wipe_set {σ : L2.St} {i : Nat} {x : Option V} : ∀ {vs : List Nat}, i ∈ vs → wipe (σ.set i x) vs = wipe σ vs
  | v :: vs, h => by
    by_cases e : i = v
    · subst e
      unfold wipe
      by_cases h' : i ∈ vs
      · rw [wipe_set h']
      · have : ∀ vs : List Nat, i ∉ vs → wipe (σ.set i x) vs = (wipe σ vs).set i x := by
          intro ws hw
          induction ws with
          | nil => rfl
          | cons w ws ih =>
            unfold wipe
            rw [ih (fun z => hw (List.mem_cons_of_mem _ z)), List.set_comm _ _ (fun z => hw (by rw [z]; exact List.mem_cons_self))]
        rw [this vs h', List.set_set]
    · have h' : i ∈ vs := by
        rcases List.mem_cons.mp h with z | z
        · exact absurd z e
        · exact z
      unfold wipe
      rw [wipe_set h']
def gN (i : Nat) : Gv := fun x ρ => some (ρ.set i (.d x))
def gT (n : Nat) (g : Gvs) : Gv := fun x ρ => match x with
  | .tuple xs => if xs.length = n then g xs ρ else none
  | _ => none
def gZ : Gvs := fun xs ρ => match xs with
  | [] => some ρ
  | _ :: _ => none
def gC (g : Gv) (h : Gvs) : Gvs := fun xs ρ => match xs with
  | x :: r => (match g x ρ with
    | some ρ1 => h r ρ1
    | none => none)
  | [] => none
section
variable {tg : Expr} {tgs : List Expr} {g : Gv} {gs : Gvs} {vs : List Nat} {i n : Nat}
theorem rg_name (h : PG X tg (gName i)) (hi : i ∈ vs) : PG X tg (gD K vs (gN i)) := h.conv fun v σ H Q ⟨Z, G, ρ, x, ρ', R, dx, q, k⟩ => by
  cases q
  exact k _ (R.setD dx) (wipe_set hi)
theorem rg_nil : PGs X [] (gDs K vs gZ) := pgs_nil.conv fun us σ H Q ⟨Z, G, ρ, xs, ρ', R, dx, q, k⟩ => by
  unfold gZ at q
  split at q
  · cases q
    cases dx
    exact ⟨rfl, k σ R rfl⟩
  · cases q
theorem rg_cons {e : Expr} {es : List Expr} (h1 : PG X e (gD K vs g)) (h2 : PGs X es (gDs K vs gs)) (hs : (assignEach (e :: es) X.env).map (·.2) = assign e X.env :: (assignEach es X.env).map (·.2) := by rfl) : PGs X (e :: es) (gDs K vs (gC g gs)) :=
  (pgs_cons h1 h2 hs).conv fun us σ H Q ⟨Z, G, ρ, xs, ρ', R, dx, q, k⟩ => by
    unfold gC at q
    split at q
    · split at q
      · rename_i x r ρ1 q1
        cases dx with
        | cons d1 d2 =>
          exact ⟨_, _, rfl, Z, G, ρ, _, ρ1, R, d1, q1, fun σ1 R1 w1 => ⟨Z, G, ρ1, _, ρ', R1, d2, q, fun σ2 R2 w2 => k σ2 R2 (w2.trans w1)⟩⟩
      · cases q
    · cases q
theorem rg_tup {es : List Expr} {k : Nat} (h : PG X (.Tuple es k pos) (gTup X.K n (gDs X.K vs gs))) : PG X (.Tuple es k pos) (gD X.K vs (gT n gs)) := h.conv fun v σ H Q ⟨Z, G, ρ, x, ρ', R, dx, q, k⟩ => by
  unfold gT at q
  split at q
  · split at q
    · rename_i xs hl
      cases dx with
      | tup h1 z t => exact ⟨_, _, rfl, R.gh.sqT h1, by rw [t.len]; exact hl, Z, G, ρ, _, ρ', R, t, q, k⟩
    · cases q
  · cases q
end
end
end DL
/-! DL5: walks, loops, comprehensions. -/
namespace DL
open PySem PySem.Spec PyProof.Rows L2
/-- a walk over data -/
structure ItD (K : PySem.W.Frag) (J : It) (G : Hp) (ds : List PyData) : Prop where
  len : ds.length ≤ sizeLine
  turn : ∀ (i : Nat) (G' H' : Hp), Ex G G' → Ex G' H' →
    (∀ d, ds[i]? = some d → J.go i H' ∧ ∀ x H'', J.yld i H' x H'' → ∃ G'', Al G' H' G'' H'' ∧ Dr K G'' x d) ∧ (ds.length ≤ i → J.stop i H')
def tI (K : PySem.W.Frag) (φ : Es) : TI := fun σ H R => ∃ Z G ρ ds ρ', SR K Z G H σ ρ ∧ φ ρ = some (ds, ρ') ∧ ∀ J G' H', Ex G G' → SR K Z G' H' σ ρ' → ItD K J G' ds → R J H'
def iSeq (a : Ev) : Es := fun ρ => match a ρ with
  | some (x, ρ1) => (match seqOf x with
    | some ds => some (ds, ρ1)
    | none => none)
  | none => none
section
variable {X : Cx} {K : PySem.W.Frag} {tg iter e : Expr} {es : List Expr} {a : Ev} {as : Es} {pos : Pos}
theorem itD_list {G : Hp} {p : Addr} {vs : List V} {ds : List PyData} (h : G p = some (.lst vs)) (z : vs.length ≤ sizeLine) (t : DrAll K G vs ds) : ItD K (Itl K p) G ds := ⟨by rw [← t.len]; exact z, fun i G' H' ex gh => by
  have hq : SqL K H' p vs := .inl (.inl (gh _ _ (ex _ _ h)))
  refine ⟨fun d hd => ?_, fun hl => ⟨vs, hq, by rw [t.len]; exact hl⟩⟩
  obtain ⟨v, e1, e2⟩ := t.get hd
  refine ⟨⟨vs, v, hq, e1⟩, fun x H'' y => ?_⟩
  obtain ⟨rfl, f⟩ := y
  have := f vs hq
  rw [e1] at this
  cases this
  exact ⟨G', .refl, e2.mono ex⟩⟩
theorem itD_tup {G : Hp} {p : Addr} {vs : List V} {ds : List PyData} (h : SqT K G p vs) (z : vs.length ≤ sizeLine) (t : DrAll K G vs ds) : ItD K (Itt K p) G ds := ⟨by rw [← t.len]; exact z, fun i G' H' ex gh => by
  have hq : SqT K H' p vs := gh.sqT (ex.sqT h)
  refine ⟨fun d hd => ?_, fun hl => ⟨vs, hq, by rw [t.len]; exact hl⟩⟩
  obtain ⟨v, e1, e2⟩ := t.get hd
  refine ⟨⟨vs, v, hq, e1⟩, fun x H'' y => ?_⟩
  obtain ⟨rfl, f⟩ := y
  have := f vs hq
  rw [e1] at this
  cases this
  exact ⟨G', .refl, e2.mono ex⟩⟩
theorem ri_seq (h : PE X e (tS X.K a)) : PI X tg e (tI X.K (iSeq a)) := ((pi_list h).alt (pi_tup h)).conv fun σ H Rc ⟨Z, G, ρ, ds, ρ', R, q, k⟩ => by
  unfold iSeq at q
  split at q
  · rename_i x ρ1 qa
    split at q
    · rename_i ds' hs
      cases q
      rcases seqOf_eq hs with rfl | rfl
      · refine .inl ⟨Z, G, ρ, _, _, R, qa, fun v G' H' ex R' dv => ?_⟩
        cases dv with
        | lst h1 z t => exact ⟨_, rfl, ⟨_, .inl (.inl (R'.gh _ _ h1))⟩, k _ G' H' ex R' (itD_list h1 z t)⟩
      · refine .inr ⟨Z, G, ρ, _, _, R, qa, fun v G' H' ex R' dv => ?_⟩
        cases dv with
        | tup h1 z t => exact ⟨_, rfl, ⟨_, R'.gh.sqT h1⟩, k _ G' H' ex R' (itD_tup h1 z t)⟩
    · cases q
  · cases q
/-- range -/
def iN (f : List PyData → Option (List PyData)) (as : Es) : Es := fun ρ => match as ρ with
  | some (xs, ρ1) => (match f xs with
    | some ds => some (ds, ρ1)
    | none => none)
  | none => none
def upI (lo : Int) (n : Nat) : List PyData := (List.range n).map fun (i : Nat) => PyData.int (lo + i)
def rng1 : List PyData → Option (List PyData)
  | [.int n] => if -(2 ^ 62) ≤ n ∧ n ≤ 16777216 then some (upI 0 n.toNat) else none
  | _ => none
def rng2 : List PyData → Option (List PyData)
  | [.int i, .int j] => if -(2 ^ 62) ≤ i ∧ i < 2 ^ 62 ∧ -(2 ^ 62) ≤ j ∧ j < 2 ^ 62 ∧ j - i ≤ 16777216 then some (upI i (j - i).toNat) else none
  | _ => none
theorem itD_rng {G : Hp} {lo : Int} {n : Nat} (hn : n ≤ sizeLine) : ItD K (Itr lo n) G (upI lo n) := ⟨by unfold upI; rw [List.length_map, List.length_range]; exact hn, fun i G' H' ex gh => by
  refine ⟨fun d hd => ?_, fun hl => ?_⟩
  · unfold upI at hd
    rw [List.getElem?_map] at hd
    by_cases hi : i < n
    · rw [List.getElem?_range hi] at hd
      cases hd
      refine ⟨hi, fun x H'' y => ?_⟩
      obtain ⟨rfl, rfl⟩ := y
      exact ⟨G', .refl, .int _⟩
    · rw [List.getElem?_eq_none (by rw [List.length_range]; omega)] at hd
      cases hd
  · unfold upI at hl
    rw [List.length_map, List.length_range] at hl
    exact hl⟩
/-- the opening of a walk made by arguments -/
theorem iN_open {f : List PyData → Option (List PyData)} {Z : Zn} {G H : Hp} {σ : L2.St} {ρ ρ' : En} {ds : List PyData} (R : SR K Z G H σ ρ) (q : iN f as ρ = some (ds, ρ'))
    {Rc : It → Hp → Prop} (k : ∀ J G' H', Ex G G' → SR K Z G' H' σ ρ' → ItD K J G' ds → Rc J H') {Q : List V → Hp → Prop}
    (h : ∀ xs vs G' H', f xs = some ds → Ex G G' → SR K Z G' H' σ ρ' → DrAll K G' vs xs → (∀ J G'' H'', Ex G' G'' → SR K Z G'' H'' σ ρ' → ItD K J G'' ds → Rc J H'') → Q vs H') : tAs K as σ H Q := by
  unfold iN at q
  split at q
  · rename_i xs ρ1 qa
    split at q
    · rename_i ds' hf
      cases q
      exact ⟨Z, G, ρ, xs, _, R, qa, fun vs G' H' ex R' dvs => h xs vs G' H' hf ex R' dvs fun J G'' H'' e2 => k J G'' H'' (ex.trans e2)⟩
    · cases q
  · cases q
theorem ri_range1 {e1 : Expr} {p : Pos} (hg : Gl X "range") (hm : X.mg "range" = none) (ha : PA X [e1] (tAs K as)) (hs : starEach [e1] X.env = [(false, eval e1 X.env)] := by rfl) :
    PI X tg (.Call (.Name "range" p) [e1] [] pos) (tI K (iN rng1 as)) := (pi_range1 hg hm ha hs).conv fun σ H Rc ⟨Z, G, ρ, ds, ρ', R, q, k⟩ => iN_open R q k fun xs vs G' H' hf ex R' dvs k' => by
  unfold rng1 at hf
  split at hf
  · split at hf
    · rename_i n hn
      cases hf
      cases dvs with
      | cons d1 d2 =>
        cases d1
        cases d2
        exact ⟨n, rfl, hn.1, by omega, k' _ G' H' (Ex.refl _) R' (itD_rng (by rw [sizeLine_eq]; omega))⟩
    · cases hf
  · cases hf
theorem ri_range2 {e1 e2 : Expr} {p : Pos} (hg : Gl X "range") (hm : X.mg "range" = none) (ha : PA X [e1, e2] (tAs K as)) (hs : starEach [e1, e2] X.env = [(false, eval e1 X.env), (false, eval e2 X.env)] := by rfl) (hs2 : starEach [e2] X.env = [(false, eval e2 X.env)] := by rfl) :
    PI X tg (.Call (.Name "range" p) [e1, e2] [] pos) (tI K (iN rng2 as)) := (pi_range2 hg hm ha hs hs2).conv fun σ H Rc ⟨Z, G, ρ, ds, ρ', R, q, k⟩ => iN_open R q k fun xs vs G' H' hf ex R' dvs k' => by
  unfold rng2 at hf
  split at hf
  · split at hf
    · rename_i i j hn
      cases hf
      cases dvs with
      | cons d1 d2 =>
        cases d2 with
        | cons d2 d3 =>
          cases d1
          cases d2
          cases d3
          exact ⟨i, j, rfl, ⟨hn.1, hn.2.1, hn.2.2.1, hn.2.2.2.1⟩, k' _ G' H' (Ex.refl _) R' (itD_rng (by rw [sizeLine_eq]; omega))⟩
    · cases hf
  · cases hf
/-- enumerate of a list -/
def enumD : List PyData → Option (List PyData)
  | [.list xs] => some (xs.mapIdx fun i x => .tuple [.int i, x])
  | _ => none
theorem itD_enum {G : Hp} {p : Addr} {vs : List V} {ds : List PyData} (h : G p = some (.lst vs)) (z : vs.length ≤ sizeLine) (t : DrAll K G vs ds) : ItD K (Ite K p) G (ds.mapIdx fun i x => .tuple [.int i, x]) := ⟨by rw [List.length_mapIdx, ← t.len]; exact z, fun i G' H' ex gh => by
  have hq : SqL K H' p vs := .inl (.inl (gh _ _ (ex _ _ h)))
  refine ⟨fun d hd => ?_, fun hl => ⟨vs, hq, by rw [t.len]; rw [List.length_mapIdx] at hl; exact hl⟩⟩
  rw [List.getElem?_mapIdx] at hd
  cases e : ds[i]? with
  | none => rw [e] at hd; cases hd
  | some y =>
    rw [e] at hd
    cases hd
    obtain ⟨v, e1, e2⟩ := t.get e
    refine ⟨⟨vs, v, hq, e1⟩, fun x H'' yl => ?_⟩
    obtain ⟨T, z, rfl, hT, rfl, f⟩ := yl
    have := f vs hq
    rw [e1] at this
    cases this
    exact ⟨_, .one hT, .tup (.inl (.inl upd_same)) (by show 2 ≤ sizeLine; decide) (.cons (.int _) (.cons (e2.mono (ex.trans (Ex.new (gh.none hT)))) .nil))⟩⟩
theorem ri_enum {e1 : Expr} {p tpos : Pos} {elts : List Expr} {kk : Nat} (hg : Gl X "enumerate") (hm : X.mg "enumerate" = none) (ha : PA X [e1] (tAs X.K as)) (hs : starEach [e1] X.env = [(false, eval e1 X.env)] := by rfl) :
    PI X (.Tuple elts kk tpos) (.Call (.Name "enumerate" p) [e1] [] pos) (tI X.K (iN enumD as)) := (pi_enum hg hm ha hs).conv fun σ H Rc ⟨Z, G, ρ, ds, ρ', R, q, k⟩ => iN_open R q k fun xs vs G' H' hf ex R' dvs k' => by
  unfold enumD at hf
  split at hf
  · cases hf
    cases dvs with
    | cons d1 d2 =>
      cases d2
      cases d1 with
      | lst h1 z t => exact ⟨_, _, rfl, .inl (.inl (R'.gh _ _ h1)), k' _ G' H' (Ex.refl _) R' (itD_enum h1 z t)⟩
  · cases hf
/-! ### for -/
def forD (g : Gv) (ψ : Sv) : List PyData → En → Option Fw
  | [], ρ => some (.nx ρ)
  | x :: xs, ρ => match g x ρ with
    | some ρ1 => (match ψ ρ1 with
      | some (.nx ρ2) => forD g ψ xs ρ2
      | some (.ct ρ2) => forD g ψ xs ρ2
      | some (.brk ρ2) => some (.nx ρ2)
      | some (.ret d ρ2) => some (.ret d ρ2)
      | none => none)
    | none => none
def sFor (it : Es) (g : Gv) (ψ : Sv) : Sv := fun ρ => match it ρ with
  | some (ds, ρ1) => forD g ψ ds ρ1
  | none => none
variable {fr : Bool} {it : Es} {g : Gv} {ψ : Sv} {vs : List Nat}
theorem r_for {body : List Stmt} (hp : PassesOwn (model X.prog X.w) X.A X.env X.xe) (hc : X.calm = true) (hi : PI X tg iter (tI K it)) (hg : PG X tg (gD K vs g)) (hb : PSs X body (tT K fr ψ))
    (hs : ∀ x, foldedSetIterable iter X.env x = pure x := by intro _; rfl) : PS X (.For tg iter body [] pos) (tT K fr (sFor it g ψ)) := (ps_for hp hc hi hg hb hs).conv fun D σ H ⟨Z, G, ρ, w, zp, R, q, k⟩ => by
  unfold sFor at q
  split at q
  · rename_i ds ρ1 qi
    refine ⟨Z, G, ρ, ds, ρ1, R, qi, fun J G1 H1 ex R1 it1 => ?_⟩
    refine ⟨fun i m σ H => m = ds.length - i ∧ i ≤ ds.length ∧ ∃ G' ρ', Ex G1 G' ∧ SR K Z G' H σ ρ' ∧ forD g ψ (ds.drop i) ρ' = some w, ⟨_, rfl, Nat.zero_le _, G1, ρ1, Ex.refl _, R1, q⟩, ?_⟩
    rintro i m σ2 H2 ⟨rfl, hi, G2, ρ2, ex2, R2, q2⟩
    obtain ⟨f1, f2⟩ := it1.turn i G2 H2 ex2 R2.gh
    by_cases hlt : i < ds.length
    · have e0 : ds[i]? = some ds[i] := List.getElem?_eq_getElem hlt
      obtain ⟨go, fy⟩ := f1 _ e0
      rw [List.drop_eq_getElem_cons hlt] at q2
      unfold forD at q2
      refine .inr ⟨go, fun σ' H' => ∃ G' ρ', Ex G1 G' ∧ SR K Z G' H' σ' ρ' ∧ forD g ψ (ds.drop (i + 1)) ρ' = some w, fun σ' H' hN => ⟨ds.length - (i + 1), by omega, rfl, hlt, hN⟩, fun x H3 yl => ?_⟩
      obtain ⟨G3, al, dx⟩ := fy x H3 yl
      have R3 := R2.al al
      have e3 := (al.ex R2.gh).1
      split at q2
      · rename_i ρ4 qg
        refine ⟨Z, G3, ρ2, _, ρ4, R3, dx, qg, fun σ4 R4 _ => ?_⟩
        have e13 : Ex G1 G3 := ex2.trans e3
        split at q2
        · rename_i ρ5 qb
          exact ⟨Z, G3, ρ4, .nx ρ5, zp, R4, qb, fun σ' G' H' e' R' => ⟨G', ρ5, e13.trans e', R', q2⟩⟩
        · rename_i ρ5 qb
          exact ⟨Z, G3, ρ4, .ct ρ5, zp, R4, qb, fun σ' G' H' e' R' => ⟨G', ρ5, e13.trans e', R', q2⟩⟩
        · rename_i ρ5 qb
          cases q2
          exact ⟨Z, G3, ρ4, .brk ρ5, zp, R4, qb, fun σ' G' H' e' R' => k σ' G' H' ((ex.trans e13).trans e') R'⟩
        · rename_i d ρ5 qb
          cases q2
          exact ⟨Z, G3, ρ4, .ret d ρ5, zp, R4, qb, fun v σ' G' H' e' R' => k v σ' G' H' ((ex.trans e13).trans e') R'⟩
        · cases q2
      · cases q2
    · have e0 : i = ds.length := by omega
      subst e0
      rw [List.drop_length] at q2
      unfold forD at q2
      cases q2
      exact .inl ⟨f2 (Nat.le_refl _), k σ2 G2 H2 (ex.trans ex2) R2⟩
  · cases q
/-! ### while -/
def whileD (c : Eq) (ψ : Sv) : Nat → En → Option Fw
  | 0, _ => none
  | n + 1, ρ => match c ρ with
    | some (true, ρ1) => (match ψ ρ1 with
      | some (.nx ρ2) => whileD c ψ n ρ2
      | some (.ct ρ2) => whileD c ψ n ρ2
      | some (.brk ρ2) => some (.nx ρ2)
      | some (.ret d ρ2) => some (.ret d ρ2)
      | none => none)
    | some (false, ρ1) => some (.nx ρ1)
    | none => none
variable {c : Eq}
theorem r_while {ce : Expr} {body : List Stmt} (n : Nat) (hp : PassesOwn (model X.prog X.w) X.A X.env X.xe) (hc : PT X ce (tQ K c)) (hb : PSs X body (tT K fr ψ)) : PS X (.While ce body [] pos) (tT K fr (whileD c ψ n)) :=
  (ps_while hp hc hb).conv fun D σ H ⟨Z, G, ρ, w, zp, R, q, k⟩ => by
    refine ⟨fun m σ H => ∃ G' ρ', Ex G G' ∧ SR K Z G' H σ ρ' ∧ whileD c ψ m ρ' = some w, ⟨n, G, ρ, Ex.refl _, R, q⟩, ?_⟩
    rintro m σ2 H2 ⟨G2, ρ2, ex2, R2, q2⟩
    cases m with
    | zero => cases q2
    | succ m =>
      unfold whileD at q2
      split at q2
      · rename_i ρ3 qc
        refine ⟨Z, G2, ρ2, true, ρ3, R2, qc, fun G3 H3 e3 R3 => ?_⟩
        have e13 := ex2.trans e3
        refine iteT ⟨fun σ' H' => ∃ G' ρ', Ex G G' ∧ SR K Z G' H' σ' ρ' ∧ whileD c ψ m ρ' = some w, fun σ' H' hN => ⟨m, Nat.lt_succ_self _, hN⟩, ?_⟩
        split at q2
        · rename_i ρ5 qb
          exact ⟨Z, G3, ρ3, .nx ρ5, zp, R3, qb, fun σ' G' H' e' R' => ⟨G', ρ5, e13.trans e', R', q2⟩⟩
        · rename_i ρ5 qb
          exact ⟨Z, G3, ρ3, .ct ρ5, zp, R3, qb, fun σ' G' H' e' R' => ⟨G', ρ5, e13.trans e', R', q2⟩⟩
        · rename_i ρ5 qb
          cases q2
          exact ⟨Z, G3, ρ3, .brk ρ5, zp, R3, qb, fun σ' G' H' e' R' => k σ' G' H' (e13.trans e') R'⟩
        · rename_i d ρ5 qb
          cases q2
          exact ⟨Z, G3, ρ3, .ret d ρ5, zp, R3, qb, fun v σ' G' H' e' R' => k v σ' G' H' (e13.trans e') R'⟩
        · cases q2
      · rename_i ρ3 qc
        cases q2
        exact ⟨Z, G2, ρ2, false, ρ3, R2, qc, fun G3 H3 e3 R3 => iteF (k σ2 G3 H3 (ex2.trans e3) R3)⟩
      · cases q2
/-! ### comprehensions -/
def wipeE (ρ : En) : List Nat → En
  | [] => ρ
  | v :: vs => (wipeE ρ vs).set v .u
/-- behind a comprehension: its own slots as they were (data alone), the others as they are -/
def mixE (vs : List Nat) (ρ1 ρ2 : En) : En := ρ2.mapIdx fun i s => if vs.contains i then (match ρ1[i]? with
  | some (.d x) => .d x
  | _ => .u) else s
def lcD (vs : List Nat) (g : Gv) (q : Eq) (a : Ev) : List PyData → En → Option (List PyData × En)
  | [], ρ => some ([], ρ)
  | x :: xs, ρ => match g x ρ with
    | some ρ1 => (match q ρ1 with
      | some (true, ρ2) => (match a ρ2 with
        | some (d, ρ3) => (match lcD vs g q a xs (wipeE ρ3 vs) with
          | some (r, ρ4) => some (d :: r, ρ4)
          | none => none)
        | none => none)
      | some (false, ρ2) => lcD vs g q a xs (wipeE ρ2 vs)
      | none => none)
    | none => none
def eLc (vs : List Nat) (it : Es) (g : Gv) (q : Eq) (a : Ev) : Ev := fun ρ => match it ρ with
  | some (ds, ρ1) => (match lcD vs g q a ds (wipeE ρ1 vs) with
    | some (out, ρ2) => some (.list out, mixE vs ρ1 ρ2)
    | none => none)
  | none => none
def qYes : Eq := fun ρ => some (true, ρ)
theorem rt_nil : PTs X [] (tQ K qYes) := pts_nil.conv fun σ H Q ⟨Z, G, ρ, b, ρ', R, q, k⟩ => by
  cases q
  exact k G H (Ex.refl _) R
theorem rt_one {q : Eq} (h : PT X e (tQ K q)) : PTs X [e] (tQ K q) := pts_one h
theorem wipe_wipe {σ : L2.St} {vs : List Nat} : L2.wipe (L2.wipe σ vs) vs = L2.wipe σ vs := by
  have : ∀ ws : List Nat, (∀ i ∈ ws, i ∈ vs) → L2.wipe (L2.wipe σ vs) ws = L2.wipe σ vs := by
    intro ws
    induction ws with
    | nil => intro _; rfl
    | cons w ws ih =>
      intro h
      show (L2.wipe (L2.wipe σ vs) ws).set w none = L2.wipe σ vs
      rw [ih fun i hi => h i (List.mem_cons_of_mem _ hi)]
      have hw := h w List.mem_cons_self
      have : ∀ us : List Nat, w ∈ us → (L2.wipe σ us).set w none = L2.wipe σ us := by
        intro us
        induction us with
        | nil => intro z; cases z
        | cons u us ih2 =>
          intro z
          show ((L2.wipe σ us).set u none).set w none = (L2.wipe σ us).set u none
          by_cases e : w = u
          · subst e; rw [List.set_set]
          · rw [List.set_comm _ _ (Ne.symm e), ih2 (by rcases List.mem_cons.mp z with q | q; exact absurd q e; exact q)]
      exact this vs hw
  exact this vs fun _ h => h
theorem wipeE_len (ρ : En) : ∀ vs : List Nat, (wipeE ρ vs).length = ρ.length
  | [] => rfl
  | v :: vs => by unfold wipeE; rw [List.length_set, wipeE_len ρ vs]
theorem wipeE_at {ρ : En} {i : Nat} {s : Sl} : ∀ {vs : List Nat}, (wipeE ρ vs)[i]? = some s → s = .u ∨ (i ∉ vs ∧ ρ[i]? = some s)
  | [], h => .inr ⟨by simp, h⟩
  | v :: vs, h => by
    unfold wipeE at h
    rcases getElem?_set_cases h with ⟨_, z⟩ | ⟨n, z⟩
    · exact .inl z
    · rcases wipeE_at z with z | ⟨z1, z2⟩
      · exact .inl z
      · exact .inr ⟨fun m => by rcases List.mem_cons.mp m with q | q; exact n q; exact z1 q, z2⟩
theorem SR.wipe {Z : Zn} {G H : Hp} {σ : L2.St} {ρ : En} (R : SR K Z G H σ ρ) (vs : List Nat) : SR K Z G H (wipe σ vs) (wipeE ρ vs) := by
  have R1 : SR K Z G H σ (wipeE ρ vs) := R.less (wipeE_len ρ vs) fun i s h => by
    rcases wipeE_at h with z | z
    · exact .inl z
    · exact .inr z.2
  refine R1.slots (wipe_length σ vs) fun i s v h hu hv => ?_
  rcases wipeE_at h with z | z
  · exact absurd z hu
  · rw [wipe_out z.1]; exact hv
theorem mixE_at {vs : List Nat} {ρ1 ρ2 : En} {i : Nat} {s : Sl} (h : (mixE vs ρ1 ρ2)[i]? = some s) : (i ∈ vs ∧ (s = .u ∨ ∃ x, s = .d x ∧ ρ1[i]? = some (.d x))) ∨ (i ∉ vs ∧ ρ2[i]? = some s) := by
  unfold mixE at h
  rw [List.getElem?_mapIdx] at h
  cases e : ρ2[i]? with
  | none => rw [e] at h; cases h
  | some t =>
    rw [e] at h
    simp only [Option.map_some, Option.some.injEq] at h
    by_cases hv : i ∈ vs
    · refine .inl ⟨hv, ?_⟩
      rw [if_pos (by simpa using hv)] at h
      split at h
      · rename_i x hx; exact .inr ⟨x, h.symm, hx⟩
      · exact .inl h.symm
    · rw [if_neg (by simpa using hv)] at h
      subst h
      exact .inr ⟨hv, rfl⟩
theorem SR.mix {Z : Zn} {G1 H1 G2 H2 : Hp} {σ : L2.St} {ρ1 ρ2 : En} (vs : List Nat) (R1 : SR K Z G1 H1 σ ρ1) (R2 : SR K Z G2 H2 (L2.wipe σ vs) ρ2) (ex : Ex G1 G2) : SR K Z G2 H2 σ (mixE vs ρ1 ρ2) := by
  have out : ∀ {i : Nat}, i ∉ vs → (L2.wipe σ vs)[i]? = σ[i]? := fun h => wipe_out h
  have own : ∀ {i : Nat} {s : Sl} {x : PyData}, (mixE vs ρ1 ρ2)[i]? = some s → s.own = some x → i ∉ vs ∧ ρ2[i]? = some s := fun {i s x} h q => by
    rcases mixE_at h with ⟨_, z | ⟨y, z, _⟩⟩ | z
    · subst z; cases q
    · subst z; cases q
    · exact z
  refine ⟨?_, R2.gh, R2.zg, R2.g0, R2.h0, R2.h1, fun i x e => ?_, fun i s x e q => ?_, fun i x e => ?_, fun i x a e e2 => ?_, R2.zpin, fun i j a hi hj e1 e2 => ?_⟩
  · unfold mixE; rw [List.length_mapIdx, R2.len, wipe_length]
  · rcases mixE_at e with ⟨_, z | ⟨y, z, h⟩⟩ | ⟨n, h⟩
    · cases z
    · cases z
      obtain ⟨v, h1, h2⟩ := R1.str i x h
      exact ⟨v, h1, h2.mono ex⟩
    · obtain ⟨v, h1, h2⟩ := R2.str i x h
      rw [out n] at h1
      exact ⟨v, h1, h2⟩
  · obtain ⟨n, h⟩ := own e q
    obtain ⟨a, h1, h2⟩ := R2.own i s x h q
    rw [out n] at h1
    exact ⟨a, h1, h2⟩
  · obtain ⟨n, h⟩ := own e rfl
    obtain ⟨a, h1, h2⟩ := R2.bor i x h
    rw [out n] at h2
    exact ⟨a, h1, h2⟩
  · obtain ⟨n, h⟩ := own e rfl
    rw [← out n] at e2
    exact R2.opin i x a h e2
  · obtain ⟨s1, x1, p1, q1⟩ := hi
    obtain ⟨s2, x2, p2, q2⟩ := hj
    obtain ⟨n1, r1⟩ := own p1 q1
    obtain ⟨n2, r2⟩ := own p2 q2
    rw [← out n1] at e1
    rw [← out n2] at e2
    exact R2.inj i j a ⟨_, _, r1, q1⟩ ⟨_, _, r2, q2⟩ e1 e2
/-- an object that is nobody's changes -/
theorem SR.other {Z : Zn} {G H : Hp} {σ : L2.St} {ρ : En} {D : Addr} {u : HO} (R : SR K Z G H σ ρ) (hg : G D = none) (hz : Z.H D = none) (hn : ∀ j, Owned ρ j → σ[j]? ≠ some (some (.ref D))) : SR K Z G (upd H D u) σ ρ := by
  have ne : ∀ {a : Addr} {o : HO}, Z.H a = some o → a ≠ D := fun e z => by rw [z, hz] at e; cases e
  refine ⟨R.len, R.gh.side hg, R.zg, R.g0, fun a o e n => ?_, fun a o e => ?_, R.str, fun i s x e q => ?_, R.bor, R.opin, R.zpin, R.inj⟩
  · rw [upd_ne (ne e)]; exact R.h0 a o e n
  · rw [upd_ne (ne e)]; exact R.h1 a o e
  · obtain ⟨a, h1, h2, h3, h4⟩ := R.own i s x e q
    have na : a ≠ D := fun z => by subst z; exact hn i ⟨s, x, e, q⟩ h1
    exact ⟨a, h1, h2, h3.mono (Ex.refl _) (upd_ne na), h4⟩
theorem notOwned_wipe {σ : L2.St} {ρ : En} {D : Addr} {vs : List Nat} (hn : ∀ j, Owned ρ j → σ[j]? ≠ some (some (.ref D))) : ∀ j, Owned (wipeE ρ vs) j → (L2.wipe σ vs)[j]? ≠ some (some (.ref D)) := fun j ⟨s, x, e, q⟩ => by
  rcases wipeE_at e with z | ⟨z1, z2⟩
  · subst z; cases q
  · rw [wipe_out z1]; exact hn j ⟨s, x, z2, q⟩
theorem notOwned_snap {Z : Zn} {G H G' H' : Hp} {σ σ' : L2.St} {ρ ρ' : En} {D : Addr} {u : HO} (hn : ∀ j, Owned ρ j → σ[j]? ≠ some (some (.ref D))) (hD : H D = some u) (R' : SR K (snap Z G H σ ρ) G' H' σ' ρ') :
    ∀ j, Owned ρ' j → σ'[j]? ≠ some (some (.ref D)) := fun j ⟨s, x, e, q⟩ z => by
  obtain ⟨a, h1, _, _, h4⟩ := R'.own j s x e q
  rw [z] at h1; cases h1
  rcases h4 with ⟨i, hi, hs⟩ | h4
  · exact hn i hi hs
  · have h4' : H D = none := h4
    rw [hD] at h4'; cases h4'
theorem t_lc {q : Eq} {σ : L2.St} {H : Hp} {Q : VK} (h : tF K (eLc vs it g q a) σ H Q) : tLc (tI K it) (gD K vs g) (tQ K q) (tS K a) vs σ H Q := by
  obtain ⟨Z, G, ρ, d, ρ', R, hq, k⟩ := h
  unfold eLc at hq
  split at hq
  · rename_i ds ρ1 qi
    split at hq
    · rename_i out ρ2 ql
      cases hq
      refine ⟨Z, G, ρ, ds, ρ1, R, qi, fun J G1 H1 ex1 R1 it1 D hD => ?_⟩
      have hgD : G1 D = none := R1.gh.none hD
      have hzD : Z.H D = none := R1.znone hD
      refine ⟨fun i m H => m = ds.length - i ∧ i ≤ ds.length ∧ ∃ G' ρ' acc ac rest, Ex G1 G' ∧ SR K Z G' H (L2.wipe σ vs) ρ' ∧ G' D = none ∧ (∀ j, Owned ρ' j → (L2.wipe σ vs)[j]? ≠ some (some (.ref D))) ∧
        H D = some (.lst acc) ∧ DrAll K G' acc ac ∧ acc.length ≤ i ∧ lcD vs g q a (ds.drop i) ρ' = some (rest, ρ2) ∧ out = ac ++ rest,
        ⟨_, rfl, Nat.zero_le _, G1, wipeE ρ1 vs, [], [], out, Ex.refl _, (R1.beside hD).wipe vs, hgD, notOwned_wipe (R1.notOwned hD), upd_same, .nil, Nat.zero_le _, ql, rfl⟩, ?_⟩
      rintro i m H2 ⟨rfl, hi, G2, ρ3, acc, ac, rest, ex2, R2, g2, n2, hD2, da, hal, q2, ho⟩
      obtain ⟨f1, f2⟩ := it1.turn i G2 H2 ex2 R2.gh
      by_cases hlt : i < ds.length
      · obtain ⟨go, fy⟩ := f1 _ (List.getElem?_eq_getElem hlt)
        rw [List.drop_eq_getElem_cons hlt] at q2
        unfold lcD at q2
        refine .inr ⟨go, fun H' => ∃ G' ρ' acc ac rest, Ex G1 G' ∧ SR K Z G' H' (L2.wipe σ vs) ρ' ∧ G' D = none ∧ (∀ j, Owned ρ' j → (L2.wipe σ vs)[j]? ≠ some (some (.ref D))) ∧
          H' D = some (.lst acc) ∧ DrAll K G' acc ac ∧ acc.length ≤ i + 1 ∧ lcD vs g q a (ds.drop (i + 1)) ρ' = some (rest, ρ2) ∧ out = ac ++ rest, fun H' hN => ⟨ds.length - (i + 1), by omega, rfl, hlt, hN⟩, fun x H3 yl => ?_⟩
        obtain ⟨G3, al, dx⟩ := fy x H3 yl
        have R3 := R2.al al
        have e3 := (al.ex R2.gh).1
        have hD3 : H3 D = some (.lst acc) := (al.ex R2.gh).2.1 _ _ hD2
        have g3 : G3 D = none := by
          cases al with
          | refl => exact g2
          | one hp => rw [upd_ne (fun z => by rw [z, hp] at hD2; cases hD2)]; exact g2
        split at q2
        · rename_i ρ4 qg
          -- a turn's zone
          refine ⟨snap Z G3 H3 (L2.wipe σ vs) ρ3, G3, ρ3, _, ρ4, R3.snap, dx, qg, fun σ4 R4 hw => ⟨by rw [hw]; exact wipe_wipe, ?_⟩⟩
          have keep : ∀ {σ' : L2.St} {G' H' : Hp} {ρ' : En}, SR K (snap Z G3 H3 (L2.wipe σ vs) ρ3) G' H' σ' ρ' → H' D = some (.lst acc) ∧ G' D = none := fun {σ' G' H' ρ'} R' => by
            refine ⟨R'.h0 D _ hD3 fun ⟨j, hj, hs⟩ => n2 j hj hs, (R'.g0 D _ hD3).trans g3⟩
          split at q2
          · rename_i ρ5 qq
            refine ⟨_, G3, ρ4, true, ρ5, R4, qq, fun G5 H5 ex5 R5 => iteT ?_⟩
            split at q2
            · rename_i y ρ6 qa
              split at q2
              · rename_i r ρ7 qr
                cases q2
                refine ⟨_, G5, ρ5, y, ρ6, R5, qa, fun v G6 H6 ex6 R6 dv => ?_⟩
                obtain ⟨hD6, g6⟩ := keep R6
                refine ⟨acc, hD6, by have := it1.len; omega, G6, wipeE ρ6 vs, acc ++ [v], ac ++ [y], r, ((ex2.trans e3).trans ex5).trans ex6, ?_, g6, ?_, upd_same, ?_, ?_, qr, ?_⟩
                · have RB := R3.back R6
                  have R7 := (RB.other (D := D) (u := .lst (acc ++ [v])) g6 hzD (notOwned_snap n2 hD3 R6)).wipe vs
                  rw [hw, wipe_wipe] at R7
                  exact R7
                · have n7 := notOwned_wipe (vs := vs) (notOwned_snap n2 hD3 R6)
                  rw [hw, wipe_wipe] at n7
                  exact n7
                · exact (da.mono ((e3.trans ex5).trans ex6)).append (.cons dv .nil)
                · rw [List.length_append, List.length_singleton]; omega
                · rw [ho, List.append_assoc]; rfl
              · cases q2
            · cases q2
          · rename_i ρ5 qq
            refine ⟨_, G3, ρ4, false, ρ5, R4, qq, fun G5 H5 ex5 R5 => iteF ?_⟩
            obtain ⟨hD5, g5⟩ := keep R5
            refine ⟨G5, wipeE ρ5 vs, acc, ac, rest, (ex2.trans e3).trans ex5, ?_, g5, ?_, hD5, da.mono (e3.trans ex5), by omega, q2, ho⟩
            · have R7 := (R3.back R5).wipe vs
              rw [hw, wipe_wipe] at R7
              exact R7
            · have n7 := notOwned_wipe (vs := vs) (notOwned_snap n2 hD3 R5)
              rw [hw, wipe_wipe] at n7
              exact n7
          · cases q2
        · cases q2
      · have e0 : i = ds.length := by omega
        subst e0
        rw [List.drop_length] at q2
        unfold lcD at q2
        cases q2
        rw [List.append_nil] at ho
        subst ho
        refine .inl ⟨f2 (Nat.le_refl _), ?_⟩
        refine k D G2 H2 (ex1.trans ex2) (R1.mix vs R2 ex2) g2 hzD (fun j hj => ?_) ⟨acc, hD2, Nat.le_trans hal it1.len, da⟩
        obtain ⟨s, x, e, qo⟩ := hj
        rcases mixE_at e with ⟨_, z | ⟨y, z, _⟩⟩ | ⟨n, z⟩
        · subst z; cases qo
        · subst z; cases qo
        · have := n2 j ⟨s, x, z, qo⟩
          rw [wipe_out n] at this
          exact this
    · cases hq
  · cases hq
theorem r_lc {elt : Expr} {ifs : List Expr} {scope : Scope} {own : List (Str × Nat)} {q : Eq} (hc : X.calm = true) (hN : X.N.Nodup) (hi : PI X tg iter (tI K it)) (ok : BlkOk X.N X.env.scope scope own)
    (hg : ∀ (s : Shared) (H : Hp) (C : Addr) (cl : List (Str × Addr)) (fp : List Addr), PG (X.blk s H scope (compEnvC scope cl C X.env) fp) tg (gD K (own.map (·.2)) g))
    (ht : ∀ (s : Shared) (H : Hp) (C : Addr) (cl : List (Str × Addr)) (fp : List Addr), PTs (X.blk s H scope (compEnvC scope cl C X.env) fp) ifs (tQ K q))
    (he : ∀ (s : Shared) (H : Hp) (C : Addr) (cl : List (Str × Addr)) (fp : List Addr), PE (X.blk s H scope (compEnvC scope cl C X.env) fp) elt (tS K a)) (hs : ∀ x, foldedSetIterable iter X.env x = pure x := by intro _; rfl) :
    PE X (.ListComp elt [⟨tg, iter, ifs, 0⟩] scope pos) (tF K (eLc (own.map (·.2)) it g q a)) := (pe_lc hc hN hi ok hg ht he hs).conv fun _ _ _ h => t_lc h
end
end DL
/-! DL6: defs, their promises, their calls; where nothing is being shown (guards). -/
namespace DL
open PySem PySem.Spec PyProof.Rows L2
/-- as FnOk, for callers under whom no container is being shown -/
structure FnG (P : Program) (w : World) (K : PySem.W.Frag) (mg : Str → Option Value) (base : Heap) (k : Nat) (f : Addr) (fd : FuncData) (ps : List Str) (sp : Sp) : Prop where
  len : ∀ vs H Q E, sp vs H Q E → vs.length = ps.length
  run : ∀ (A : Around) (outer : List Env) (s : Shared) (H : Hp) (args : Args) (us : List Value) (vs : List V) (Q : VK) (E : XK), Room k A → A.guards = some [] →
    Env0 P w K mg base A outer s H → BindsTo s fd args (ps.zip us) → Vals vs us → sp vs H Q E → codeAny (model P w) A (.call (.ref f) args) (CR CX0 outer P w H s Q E) s
section
variable {P : Program} {w : World} {K : PySem.W.Frag} {mg : Str → Option Value} {base : Heap}
theorem FnG.mono {j k : Nat} {f : Addr} {fd : FuncData} {ps : List Str} {sp : Sp} (F : FnG P w K mg base j f fd ps sp) (h : j ≤ k) : FnG P w K mg base k f fd ps sp :=
  ⟨F.len, fun A outer s H args us vs Q E hr hg => F.run A outer s H args us vs Q E (hr.mono h) hg⟩
theorem FnG.imp {k : Nat} {f : Addr} {fd : FuncData} {ps : List Str} {sp sp' : Sp} (F : FnG P w K mg base k f fd ps sp) (h : ∀ vs H Q E, sp' vs H Q E → sp vs H Q E) : FnG P w K mg base k f fd ps sp' :=
  ⟨fun vs H Q E q => F.len vs H Q E (h _ _ _ _ q), fun A outer s H args us vs Q E hr hg he hb hv hs => F.run A outer s H args us vs Q E hr hg he hb hv (h _ _ _ _ hs)⟩
theorem FnG.of {k : Nat} {f : Addr} {fd : FuncData} {ps : List Str} {sp : Sp} (F : FnOk P w K mg base CX0 k f fd ps sp) : FnG P w K mg base k f fd ps sp :=
  ⟨F.len, fun A outer s H args us vs Q E hr _ => F.run A outer s H args us vs Q E hr⟩
/-- the context of a def's body -/
abbrev cxG (P : Program) (w : World) (K : PySem.W.Frag) (mg : Str → Option Value) (base : Heap) (N : List Str) (qual : Str) (st : Stmt) (f : Addr) (cdv : Value) (A : Around) (outer : List Env) (s : Shared) (H : Hp) (E : XK) : Cx :=
  (cxOf CX0 P w K mg base N qual (defScope st) f cdv A outer s H E).nox
theorem fnG_ok {x qual : Str} {st : Stmt} {f : Addr} {fd : FuncData} {N ps : List Str} {k : Nat} {sp : Sp} (F : Fun K x qual st f fd) (S : FnScope N ps (defScope st)) (len : ∀ vs H Q E, sp vs H Q E → vs.length = ps.length)
    (body : ∀ (cdv : Value) (A : Around) (outer : List Env) (s : Shared) (H : Hp) (vs : List V) (Q : VK) (E : XK), Room k (A.deeper (envOfC qual (defScope st) s.heap.objs.size f cdv)) → A.guards = some [] → sp vs H Q E →
      ∃ t, PSs (cxG P w K mg base N qual st f cdv A outer s H E) (defBody st) t ∧ t { nx := fun _ H' => Q .non H', rt := Q } (start N vs) H) : FnG P w K mg base (k + 1) f fd ps sp := by
  obtain ⟨oc, od, kV, doc, pm, an, cdv, ct, osl, rfl, lk, hcd⟩ := F.ex
  refine ⟨len, ?_⟩
  intro A outer s H args us vs Q E hr hg e0 hb rv hsp
  have keepB : ∀ b o, base.get? b = some o → s.heap.get? b = some o := fun b o e => (e0.bs b o e).1
  have KX : K.In s.heap := e0.mod.kin.keeps keepB
  have kinds : ∀ y ∈ ps.zip us, (defScope st).names.lookup y.1 = some .local ∨ ((defScope st).names.lookup y.1 = some .cell ∧ ((cellsFrom (s.heap.objs.size + 1) (defScope st).names []).lookup y.1).isSome = true) := by
    intro y hy
    rcases S.par y.1 (List.of_mem_zip (show (y.1, y.2) ∈ ps.zip us from hy)).1 with loc | cel
    · exact .inl loc
    · exact .inr ⟨cel, PySem.W.cellsFrom_some _ _ _ (.inl cel)⟩
  refine codeAny_call_function hr.depth (KX _ _ lk) rfl S.co S.gen rfl (PySem.W.codeRec_of KX hcd) (hb _ _ _ _ ?_)
  refine wpAny_newFunctionEnv_cells S.kind kinds fun env he s1 x1 => ?_
  subst he
  refine ⟨(e0.mod.nolimit.keeps keepB).keeps x1.toInCall.keep, codeAny_func ?_⟩
  obtain ⟨t, ht, hq⟩ := body cdv A outer s H vs Q E (hr.deeper _) hg hsp
  have I0 := inv_start (CX := CX0) (E := E) S hr.hd e0 (len _ _ _ _ hsp) rv x1
  refine wpAny_mono (ht.nox.run [] s1 (start N vs) H _ I0 hq) (fun fl s2 h2 => ?_) fun e s2 h2 => h2
  cases fl with
  | ret u =>
    obtain ⟨v, σ2, H2, J, r2, q2⟩ := h2
    exact ⟨v, H2, J.os, J.bare, J.base, J.hok, r2, q2⟩
  | next =>
    obtain ⟨σ2, H2, J, q2⟩ := h2
    exact ⟨V.non, H2, J.os, J.bare, J.base, J.hok, rfl, q2⟩
  | brk =>
    obtain ⟨_, _, _, q2⟩ := h2
    exact q2.elim
  | cont =>
    obtain ⟨_, _, _, q2⟩ := h2
    exact q2.elim
end
section
variable {X : Cx} {k : Nat} {f : Addr} {fd : FuncData} {ps : List Str} {sp : Sp} {x : Str} {p pos : Pos} {e : Expr} {es : List Expr} {t : TA}
theorem runG {pins : List (Addr × Obj)} {σ : L2.St} {H : Hp} {s : Shared} {Q : VK} {us : List Value} {vs : List V} (F : FnG X.prog X.w X.K X.mg X.base k f fd ps sp) (hr : Room k X.A) (hg : X.A.guards = some []) (hb : Binds X.K fd ps [])
    (I : Inv X pins σ H s) (r : Vals vs us) (h : sp vs H Q E0) : wpAny (model X.prog X.w) X.A (call (.ref f) us) (EP X pins σ Q) X.xe s := by
  have hl : (us ++ []).length = ps.length := by rw [List.append_nil, ← r.length]; exact F.len _ _ _ _ h
  have hb' := hb s us I.kIn hl
  rw [List.append_nil] at hb'
  refine wpAny_call (codeAny_mono (F.run X.A X.stack s H ⟨us, []⟩ us vs Q E0 hr hg I.env0 hb' r h) fun res s' hq => ?_)
  cases res with
  | error er => exact False.elim hq
  | ok fl =>
    cases fl with
    | ret u => exact I.after hq
    | next => exact False.elim hq
    | brk => exact False.elim hq
    | cont => exact False.elim hq
def tCallG (sp : Sp) (t : TA) : TE := fun σ H Q => t σ H fun vs H1 => sp vs H1 Q E0
theorem pe_callG (F : FnG X.prog X.w X.K X.mg X.base k f fd ps sp) (hr : Room k X.A) (hgd : X.A.guards = some []) (hg : Gl X x) (hm : X.mg x = some (.ref f)) (hk : PySem.W.keepIn X.K (.ref f) = true) (hb : Binds X.K fd ps [])
    (ha : PA X (e :: es) t) (hdb : (x == ("__debug__" : Str)) = false := by decide) (he : starEach (e :: es) X.env = (false, eval e X.env) :: starEach es X.env := by rfl) (hpl : (backTo pos (starEach es X.env)).any (·.1) = false := by rfl) :
    PE X (.Call (.Name x p) (e :: es) [] pos) (tCallG sp t) := by
  refine ⟨fun pins s σ H Q I h => wpAny_Call_Name_kw (ld_glob I hg hm ?_ hdb)⟩
  refine PySem.W.callWith_K (h₀ := X.base) I.ok.mod.kin hk (thn (ha.run pos pins s σ H _ I h) ?_) he hpl
  rintro us s1 ⟨vs, H1, I1, r, q⟩
  exact ⟨I1.kIn, runG F hr hgd hb I1 r q⟩
end
/-! ### promises -/
/-- all arguments data, the answer data -/
def SpP (K : PySem.W.Frag) (f : List PyData → Option PyData) : Sp := fun vs H Q _ => ∃ G ds d, Ex G H ∧ DrAll K G vs ds ∧ f ds = some d ∧
  ∀ v G' H', Ex G G' → Ex G' H' → Ex H H' → (∀ a o, H a = some o → G' a = G a) → Dr K G' v d → Q v H'
/-- .. a new list or dict -/
def SpF (K : PySem.W.Frag) (f : List PyData → Option PyData) : Sp := fun vs H Q _ => ∃ G ds d, Ex G H ∧ DrAll K G vs ds ∧ f ds = some d ∧
  ∀ p G' H', Ex G G' → Ex G' H' → Ex H H' → (∀ a o, H a = some o → G' a = G a) → H p = none → G' p = none → OwnAt K G' H' p d → Q (.ref p) H'
/-- the first argument a list or dict that the def changes -/
def SpI (K : PySem.W.Frag) (f : PyData → List PyData → Option (PyData × PyData)) : Sp := fun vs H Q _ => ∃ G a ws x ds d y, vs = .ref a :: ws ∧ Ex G H ∧ G a = none ∧ OwnAt K G H a x ∧ DrAll K G ws ds ∧ f x ds = some (d, y) ∧
  ∀ v G' H', Ex G G' → Ex G' H' → (∀ b o, H b = some o → b ≠ a → H' b = some o) → (∀ b o, H b = some o → G' b = G b) → OwnAt K G' H' a y → Dr K G' v d → Q v H'
section
variable {K : PySem.W.Frag} {Z : Zn} {G H G' H' : Hp} {σ : L2.St} {ρ : En}
theorem SR.frame (R : SR K Z G H σ ρ) (e1 : Ex G G') (e2 : Ex G' H') (e3 : Ex H H') (e4 : ∀ a o, H a = some o → G' a = G a) : SR K Z G' H' σ ρ := by
  refine ⟨R.len, e2, R.zg.trans e1, fun a o e => ?_, fun a o e n => e3 a o (R.h0 a o e n), fun a o e => ?_, fun i y e => ?_, fun i s y e q => ?_, R.bor, R.opin, R.zpin, R.inj⟩
  · obtain ⟨o', h'⟩ := R.h1 a o e
    exact (e4 a o' h').trans (R.g0 a o e)
  · obtain ⟨o', h'⟩ := R.h1 a o e
    exact ⟨o', e3 a o' h'⟩
  · obtain ⟨v, h1, h2⟩ := R.str i y e
    exact ⟨v, h1, h2.mono e1⟩
  · obtain ⟨a, h1, h2, h3, h4⟩ := R.own i s y e q
    obtain ⟨u, hu⟩ := h3.some
    exact ⟨a, h1, (e4 a u hu).trans h2, h3.mono e1 ((e3 a u hu).trans hu.symm), h4⟩
theorem SR.inout {i : Nat} {s : Sl} {x y : PyData} {a : Addr} (R : SR K Z G H σ ρ) (hi : ρ[i]? = some s) (hs : s.own = some x) (ha : σ[i]? = some (some (.ref a))) (e1 : Ex G G') (e2 : Ex G' H')
    (e3 : ∀ b o, H b = some o → b ≠ a → H' b = some o) (e4 : ∀ b o, H b = some o → G' b = G b) (o : OwnAt K G' H' a y) : SR K Z G' H' σ (ρ.set i (s.put y)) := by
  obtain ⟨a', h1, h2, h3, h4⟩ := R.own i s x hi hs
  rw [ha] at h1; cases h1
  have nz : ∀ b w, Z.H b = some w → ¬ Z.io b → b ≠ a := fun b w e n z => by
    subst z
    rcases h4 with h4 | h4
    · exact n h4
    · rw [h4] at e; cases e
  have own : ∀ {j : Nat} {t : Sl} {z : PyData}, (ρ.set i (s.put y))[j]? = some t → t.own = some z → Owned ρ j := fun {j t z} p q => by
    rcases getElem?_set_cases p with ⟨rfl, _⟩ | ⟨_, w⟩
    · exact ⟨s, x, hi, hs⟩
    · exact ⟨_, _, w, q⟩
  obtain ⟨ua, hua⟩ := h3.some
  obtain ⟨ub, hub⟩ := o.some
  refine ⟨by rw [List.length_set]; exact R.len, e2, R.zg.trans e1, fun b w e => ?_, fun b w e n => e3 b w (R.h0 b w e n) (nz b w e n), fun b w e => ?_, fun j z e => ?_, fun j t z e q => ?_, fun j z e => ?_, fun j z c e e5 => ?_, R.zpin, fun j m c hj hm e5 e6 => ?_⟩
  · obtain ⟨o', h'⟩ := R.h1 b w e
    exact (e4 b o' h').trans (R.g0 b w e)
  · by_cases z : b = a
    · subst z; exact ⟨ub, hub⟩
    · obtain ⟨o', h'⟩ := R.h1 b w e
      exact ⟨o', e3 b o' h' z⟩
  · rcases getElem?_set_cases e with ⟨rfl, q⟩ | ⟨_, q⟩
    · have := Sl.put_own hs y
      rw [← q] at this; cases this
    · obtain ⟨v, g1, g2⟩ := R.str j z q
      exact ⟨v, g1, g2.mono e1⟩
  · rcases getElem?_set_cases e with ⟨rfl, q'⟩ | ⟨ne, q'⟩
    · have e7 := Sl.put_own hs y
      rw [← q', q] at e7
      cases e7
      exact ⟨a, ha, (e4 a ua hua).trans h2, o, h4⟩
    · obtain ⟨b, g1, g2, g3, g4⟩ := R.own j t z q' q
      obtain ⟨u, hu⟩ := g3.some
      have nb : b ≠ a := fun w => by
        subst w
        exact ne (R.inj j i b ⟨_, _, q', q⟩ ⟨_, _, hi, hs⟩ g1 ha)
      exact ⟨b, g1, (e4 b u hu).trans g2, g3.mono e1 ((e3 b u hu nb).trans hu.symm), g4⟩
  · rcases getElem?_set_cases e with ⟨rfl, q⟩ | ⟨_, q⟩
    · cases s with
      | b z' => exact R.bor j z' hi
      | o z' => cases q
      | d z' => cases hs
      | u => cases hs
    · exact R.bor j z q
  · rcases getElem?_set_cases e with ⟨rfl, q⟩ | ⟨_, q⟩
    · cases s with
      | o z' => exact R.opin j z' c hi e5
      | b z' => cases q
      | d z' => cases hs
      | u => cases hs
    · exact R.opin j z c q e5
  · obtain ⟨s1, x1, p1, q1⟩ := hj
    obtain ⟨s2, x2, p2, q2⟩ := hm
    exact R.inj j m c (own p1 q1) (own p2 q2) e5 e6
end
section
variable {X : Cx} {k : Nat} {f : Addr} {fd : FuncData} {ps : List Str} {x : Str} {p pos : Pos} {e : Expr} {es : List Expr} {as : Es} {m : List PyData → Option PyData}
theorem t_callP {σ : L2.St} {H : Hp} {Q : VK} {K : PySem.W.Frag} (h : tS K (eN m as) σ H Q) : tCallG (SpP K m) (tAs K as) σ H Q := by
  obtain ⟨Z, G, ρ, d, ρ', R, q, k⟩ := h
  unfold eN at q
  split at q
  · rename_i xs ρ1 qa
    split at q
    · rename_i d' qf
      cases q
      exact ⟨Z, G, ρ, xs, _, R, qa, fun vs G1 H1 ex1 R1 d1 => ⟨G1, xs, d, R1.gh, d1, qf, fun v G' H' e1 e2 e3 e4 dv => k v G' H' (ex1.trans e1) (R1.frame e1 e2 e3 e4) dv⟩⟩
    · cases q
  · cases q
theorem t_callF {σ : L2.St} {H : Hp} {Q : VK} {K : PySem.W.Frag} (h : tF K (eN m as) σ H Q) : tCallG (SpF K m) (tAs K as) σ H Q := by
  obtain ⟨Z, G, ρ, d, ρ', R, q, k⟩ := h
  unfold eN at q
  split at q
  · rename_i xs ρ1 qa
    split at q
    · rename_i d' qf
      cases q
      exact ⟨Z, G, ρ, xs, _, R, qa, fun vs G1 H1 ex1 R1 d1 => ⟨G1, xs, d, R1.gh, d1, qf, fun p G' H' e1 e2 e3 e4 hp gp o =>
        k p G' H' (ex1.trans e1) (R1.frame e1 e2 e3 e4) gp (R1.znone hp) (R1.notOwned hp) o⟩⟩
    · cases q
  · cases q
def eI (m : PyData → List PyData → Option (PyData × PyData)) (i : Nat) (as : Es) : Ev := fun ρ => match ρ[i]? with
  | some s0 => (match s0.own with
    | some _ => (match as ρ with
      | some (ds, ρ1) => (match ρ1[i]? with
        | some s => (match s.own with
          | some x => (match m x ds with
            | some (d, y) => some (d, ρ1.set i (s.put y))
            | none => none)
          | none => none)
        | none => none)
      | none => none)
    | none => none)
  | none => none
theorem t_callI {m : PyData → List PyData → Option (PyData × PyData)} {i : Nat} {σ : L2.St} {H : Hp} {Q : VK} {K : PySem.W.Frag} (h : tS K (eI m i as) σ H Q) : tCallG (SpI K m) (tCons (tVar i) (tAs K as)) σ H Q := by
  obtain ⟨Z, G, ρ, d, ρ', R, q, k⟩ := h
  unfold eI at q
  split at q
  · rename_i s0 e0
    split at q
    · rename_i x0 o0
      split at q
      · rename_i ds ρ1 qa
        split at q
        · rename_i s es
          split at q
          · rename_i x ox
            split at q
            · rename_i d' y qf
              cases q
              obtain ⟨a, ha, _⟩ := R.own i s0 x0 e0 o0
              refine ⟨.ref a, ha, Z, G, ρ, ds, ρ1, R, qa, fun vs G1 H1 ex1 R1 d1 => ?_⟩
              obtain ⟨a', ha', g1, o1, _⟩ := R1.own i s x es ox
              rw [ha] at ha'; cases ha'
              exact ⟨G1, a, vs, x, ds, d, y, rfl, R1.gh, g1, o1, d1, qf, fun v G' H' e1 e2 e3 e4 oy dv => k v G' H' (ex1.trans e1) (R1.inout es ox ha e1 e2 e3 e4 oy) dv⟩
            · cases q
          · cases q
        · cases q
      · cases q
    · cases q
  · cases q
variable {sp : Sp}
theorem r_callP {K : PySem.W.Frag} (h : PE X e (tCallG (SpP K m) (tAs K as))) : PE X e (tS K (eN m as)) := h.conv fun _ _ _ q => t_callP q
theorem r_callF {K : PySem.W.Frag} (h : PE X e (tCallG (SpF K m) (tAs K as))) : PE X e (tF K (eN m as)) := h.conv fun _ _ _ q => t_callF q
theorem r_callI {K : PySem.W.Frag} {m : PyData → List PyData → Option (PyData × PyData)} {i : Nat} (h : PE X e (tCallG (SpI K m) (tCons (tVar i) (tAs K as)))) : PE X e (tS K (eI m i as)) := h.conv fun _ _ _ q => t_callI q
end
/-! ### bodies -/
def en0 (n : Nat) (ds : List PyData) : En := ds.map Sl.d ++ List.replicate (n - ds.length) .u
def outP : Option Fw → Option PyData
  | some (.ret d _) => some d
  | some (.nx _) => some .none
  | _ => none
def outF : Option Fw → Option PyData
  | some (.ret d _) => some d
  | _ => none
def outI : Option Fw → Option (PyData × PyData)
  | some (.ret d ρ) => (match ρ[(0 : Nat)]? with
    | some (.b y) => some (d, y)
    | _ => none)
  | some (.nx ρ) => (match ρ[(0 : Nat)]? with
    | some (.b y) => some (.none, y)
    | _ => none)
  | _ => none
/-- n: how many slots, m: how many parameters -/
def runP (n m : Nat) (ψ : Sv) (ds : List PyData) : Option PyData := if ds.length = m then outP (ψ (en0 n ds)) else none
def runF (n m : Nat) (ψ : Sv) (ds : List PyData) : Option PyData := if ds.length = m then outF (ψ (en0 n ds)) else none
def runI (n m : Nat) (ψ : Sv) (x : PyData) (ds : List PyData) : Option (PyData × PyData) := if ds.length + 1 = m then outI (ψ (.b x :: en0 (n - 1) ds)) else none
section
variable {K : PySem.W.Frag} {G H : Hp} {vs : List V} {ds : List PyData} {N : List Str}
theorem start_at {i : Nat} {v : V} (h : vs[i]? = some v) : (start N vs)[i]? = some (some v) := by
  unfold L2.start
  rw [List.getElem?_append_left (by rw [List.length_map]; exact (List.getElem?_eq_some_iff.mp h).1), List.getElem?_map, h]
  rfl
theorem en0_at {n i : Nat} {s : Sl} (h : (en0 n ds)[i]? = some s) : s = .u ∨ ∃ d, s = .d d ∧ ds[i]? = some d := by
  unfold en0 at h
  by_cases hi : i < ds.length
  · rw [List.getElem?_append_left (by rw [List.length_map]; exact hi), List.getElem?_map] at h
    cases e : ds[i]? with
    | none => rw [e] at h; cases h
    | some d => rw [e] at h; cases h; exact .inr ⟨d, rfl, rfl⟩
  · rw [List.getElem?_append_right (by rw [List.length_map]; omega), List.getElem?_replicate] at h
    split at h
    · cases h; exact .inl rfl
    · cases h
theorem start_len (hl : vs.length ≤ N.length) : (start N vs).length = N.length := by
  unfold L2.start
  rw [List.length_append, List.length_map, List.length_replicate]
  omega
theorem en0_len {n : Nat} (hl : ds.length ≤ n) : (en0 n ds).length = n := by
  unfold en0
  rw [List.length_append, List.length_map, List.length_replicate]
  omega
theorem SR.entry (hl : vs.length ≤ N.length) (gh : Ex G H) (da : DrAll K G vs ds) : SR K ⟨G, H, fun _ => none, fun _ => False⟩ G H (start N vs) (en0 N.length ds) := by
  have no : ∀ {i : Nat} {s : Sl} {x : PyData}, (en0 N.length ds)[i]? = some s → s.own = some x → False := fun {i s x} h q => by
    rcases en0_at h with z | ⟨d, z, _⟩
    · subst z; cases q
    · subst z; cases q
  refine ⟨by rw [start_len hl, en0_len (by rw [← da.len]; exact hl)], gh, Ex.refl _, fun _ _ _ => rfl, fun _ _ e _ => e, fun _ _ e => ⟨_, e⟩, fun i x e => ?_, fun i s x e q => (no e q).elim, fun i x e => (no e rfl).elim, fun i x a e => (no e rfl).elim, fun j a e => (by cases e), fun i j a ⟨s, x, e, q⟩ => (no e q).elim⟩
  rcases en0_at e with z | ⟨d, z, h⟩
  · cases z
  · cases z
    obtain ⟨v, h1, h2⟩ := da.get h
    exact ⟨v, start_at h1, h2⟩
theorem SR.entryI {a : Addr} {x : PyData} (hl : vs.length + 1 ≤ N.length) (gh : Ex G H) (hg : G a = none) (o : OwnAt K G H a x) (da : DrAll K G vs ds) :
    SR K ⟨G, H, fun i => if i = 0 then some a else none, fun b => b = a⟩ G H (start N (.ref a :: vs)) (.b x :: en0 (N.length - 1) ds) := by
  have cs : ∀ {i : Nat} {s : Sl}, (Sl.b x :: en0 (N.length - 1) ds)[i]? = some s → (i = 0 ∧ s = .b x) ∨ s = .u ∨ ∃ j d, i = j + 1 ∧ s = .d d ∧ ds[j]? = some d := fun {i s} h => by
    cases i with
    | zero =>
      rw [List.getElem?_cons_zero] at h
      cases h
      exact .inl ⟨rfl, rfl⟩
    | succ j =>
      rw [List.getElem?_cons_succ] at h
      rcases en0_at h with z | ⟨d, z, e⟩
      · exact .inr (.inl z)
      · exact .inr (.inr ⟨j, d, rfl, z, e⟩)
  have ow : ∀ {i : Nat} {s : Sl} {y : PyData}, (Sl.b x :: en0 (N.length - 1) ds)[i]? = some s → s.own = some y → i = 0 ∧ s = .b x := fun {i s y} h q => by
    rcases cs h with z | z | ⟨j, d, _, z, _⟩
    · exact z
    · subst z; cases q
    · subst z; cases q
  have s0 : (start N (.ref a :: vs))[0]? = some (some (.ref a)) := start_at rfl
  obtain ⟨u, hu⟩ := o.some
  refine ⟨?_, gh, Ex.refl _, fun _ _ _ => rfl, fun _ _ e _ => e, fun _ _ e => ⟨_, e⟩, fun i y e => ?_, fun i s y e q => ?_, fun i y e => ?_, fun i y b e => ?_, fun j b e => ?_, fun i j b hi hj _ _ => ?_⟩
  · rw [start_len (by rw [List.length_cons]; exact hl), List.length_cons, en0_len (by rw [← da.len]; omega)]
    omega
  · rcases cs e with ⟨_, z⟩ | z | ⟨j, d, rfl, z, h⟩
    · cases z
    · cases z
    · cases z
      obtain ⟨v, h1, h2⟩ := da.get h
      exact ⟨v, start_at (by rw [List.getElem?_cons_succ]; exact h1), h2⟩
  · obtain ⟨rfl, rfl⟩ := ow e q
    cases q
    exact ⟨a, s0, hg, o, .inl rfl⟩
  · obtain ⟨rfl, z⟩ := ow e rfl
    exact ⟨a, rfl, s0⟩
  · obtain ⟨_, z⟩ := ow e rfl
    cases z
  · by_cases hj : j = 0
    · have e' : (if j = 0 then some a else none) = some b := e
      rw [if_pos hj] at e'
      cases e'
      exact ⟨u, hu⟩
    · have e' : (if j = 0 then some a else none) = some b := e
      rw [if_neg hj] at e'
      cases e'
  · obtain ⟨s1, x1, p1, q1⟩ := hi
    obtain ⟨s2, x2, p2, q2⟩ := hj
    rw [(ow p1 q1).1, (ow p2 q2).1]
end
section
variable {P : Program} {w : World} {K : PySem.W.Frag} {mg : Str → Option Value} {base : Heap} {x qual : Str} {st : Stmt} {f : Addr} {fd : FuncData} {N ps : List Str} {k : Nat} {ψ : Sv}
theorem fnP (F : Fun K x qual st f fd) (S : FnScope N ps (defScope st)) (hN : ps.length ≤ N.length)
    (body : ∀ (cdv : Value) (A : Around) (outer : List Env) (s : Shared) (H : Hp) (E : XK), Room k (A.deeper (envOfC qual (defScope st) s.heap.objs.size f cdv)) → A.guards = some [] →
      PSs (cxG P w K mg base N qual st f cdv A outer s H E) (defBody st) (tT K false ψ)) : FnG P w K mg base (k + 1) f fd ps (SpP K (runP N.length ps.length ψ)) := by
  have hlen : ∀ vs H Q E, SpP K (runP N.length ps.length ψ) vs H Q E → vs.length = ps.length := fun vs H Q E ⟨G, ds, d, gh, da, hf, _⟩ => by
    unfold runP at hf
    split at hf
    · rename_i e; rw [da.len]; exact e
    · cases hf
  refine fnG_ok F S hlen fun cdv A outer s H vs Q E hr hg hsp => ⟨_, body cdv A outer s H E hr hg, ?_⟩
  have hl := hlen _ _ _ _ hsp
  obtain ⟨G, ds, d, gh, da, hf, kk⟩ := hsp
  unfold runP at hf
  rw [if_pos (by rw [← da.len]; exact hl)] at hf
  have R0 := SR.entry (N := N) (by omega) gh da
  have fin : ∀ {σ' : L2.St} {G' H' : Hp} {ρ' : En} {v : V}, Ex G G' → SR K ⟨G, H, fun _ => none, fun _ => False⟩ G' H' σ' ρ' → Dr K G' v d → Q v H' := fun {σ' G' H' ρ' v} ex R' dv =>
    kk v G' H' ex R'.gh (fun a o e => R'.h0 a o e fun z => z) (fun a o e => R'.g0 a o e) dv
  cases e : ψ (en0 N.length ds) with
  | none => rw [e] at hf; cases hf
  | some r =>
    rw [e] at hf
    refine ⟨_, G, _, r, fun a z => (show False from z).elim, R0, e, ?_⟩
    cases r with
    | nx ρ' => cases hf; exact fun σ' G' H' ex R' => fin ex R' .non
    | ret d' ρ' => cases hf; exact fun v σ' G' H' ex R' dv => fin ex R' dv
    | brk ρ' => cases hf
    | ct ρ' => cases hf
theorem fnF (F : Fun K x qual st f fd) (S : FnScope N ps (defScope st)) (hN : ps.length ≤ N.length)
    (body : ∀ (cdv : Value) (A : Around) (outer : List Env) (s : Shared) (H : Hp) (E : XK), Room k (A.deeper (envOfC qual (defScope st) s.heap.objs.size f cdv)) → A.guards = some [] →
      PSs (cxG P w K mg base N qual st f cdv A outer s H E) (defBody st) (tT K true ψ)) : FnG P w K mg base (k + 1) f fd ps (SpF K (runF N.length ps.length ψ)) := by
  have hlen : ∀ vs H Q E, SpF K (runF N.length ps.length ψ) vs H Q E → vs.length = ps.length := fun vs H Q E ⟨G, ds, d, gh, da, hf, _⟩ => by
    unfold runF at hf
    split at hf
    · rename_i e; rw [da.len]; exact e
    · cases hf
  refine fnG_ok F S hlen fun cdv A outer s H vs Q E hr hg hsp => ⟨_, body cdv A outer s H E hr hg, ?_⟩
  have hl := hlen _ _ _ _ hsp
  obtain ⟨G, ds, d, gh, da, hf, kk⟩ := hsp
  unfold runF at hf
  rw [if_pos (by rw [← da.len]; exact hl)] at hf
  have R0 := SR.entry (N := N) (by omega) gh da
  cases e : ψ (en0 N.length ds) with
  | none => rw [e] at hf; cases hf
  | some r =>
    rw [e] at hf
    refine ⟨_, G, _, r, fun a z => (show False from z).elim, R0, e, ?_⟩
    cases r with
    | nx ρ' => cases hf
    | ret d' ρ' =>
      cases hf
      rintro v σ' G' H' ex R' ⟨p, rfl, h1, h2, h3⟩
      exact kk p G' H' ex R'.gh (fun a o e => R'.h0 a o e fun z => z) (fun a o e => R'.g0 a o e) h2 h1 h3
    | brk ρ' => cases hf
    | ct ρ' => cases hf
theorem fnI (F : Fun K x qual st f fd) (S : FnScope N ps (defScope st)) (hN : ps.length ≤ N.length)
    (body : ∀ (cdv : Value) (A : Around) (outer : List Env) (s : Shared) (H : Hp) (E : XK), Room k (A.deeper (envOfC qual (defScope st) s.heap.objs.size f cdv)) → A.guards = some [] →
      PSs (cxG P w K mg base N qual st f cdv A outer s H E) (defBody st) (tT K false ψ)) : FnG P w K mg base (k + 1) f fd ps (SpI K (runI N.length ps.length ψ)) := by
  have hlen : ∀ vs H Q E, SpI K (runI N.length ps.length ψ) vs H Q E → vs.length = ps.length := fun vs H Q E ⟨G, a, ws, x, ds, d, y, hv, gh, hga, o, da, hf, _⟩ => by
    unfold runI at hf
    split at hf
    · rename_i e; rw [hv, List.length_cons, da.len]; exact e
    · cases hf
  refine fnG_ok F S hlen fun cdv A outer s H vs Q E hr hg hsp => ⟨_, body cdv A outer s H E hr hg, ?_⟩
  have hl := hlen _ _ _ _ hsp
  obtain ⟨G, a, ws, xx, ds, d, y, rfl, gh, hga, o, da, hf, kk⟩ := hsp
  rw [List.length_cons] at hl
  unfold runI at hf
  rw [if_pos (by rw [← da.len]; exact hl)] at hf
  have R0 := SR.entryI (N := N) (by omega) gh hga o da
  have fin : ∀ {σ' : L2.St} {G' H' : Hp} {ρ' : En} {v : V}, Ex G G' → SR K ⟨G, H, fun i => if i = 0 then some a else none, fun b => b = a⟩ G' H' σ' ρ' → ρ'[0]? = some (.b y) → Dr K G' v d → Q v H' := fun {σ' G' H' ρ' v} ex R' h0 dv => by
    obtain ⟨a1, g1, g2⟩ := R'.bor 0 y h0
    have g1' : (if (0 : Nat) = 0 then some a else none) = some a1 := g1
    rw [if_pos rfl] at g1'
    cases g1'
    obtain ⟨a2, g3, g4, g5, _⟩ := R'.own 0 _ y h0 rfl
    rw [g2] at g3; cases g3
    exact kk v G' H' ex R'.gh (fun b o' e n => R'.h0 b o' e n) (fun b o' e => R'.g0 b o' e) g5 dv
  cases e : ψ (.b xx :: en0 (N.length - 1) ds) with
  | none => rw [e] at hf; cases hf
  | some r =>
    rw [e] at hf
    refine ⟨_, G, _, r, fun b z => ⟨0, by subst z; exact (show (if (0 : Nat) = 0 then some b else none) = some b from if_pos rfl)⟩, R0, e, ?_⟩
    cases r with
    | nx ρ' =>
      simp only [outI] at hf
      split at hf
      · rename_i z e3; cases hf; exact fun σ' G' H' ex R' => fin ex R' e3 .non
      · cases hf
    | ret d' ρ' =>
      simp only [outI] at hf
      split at hf
      · rename_i z e3; cases hf; exact fun v σ' G' H' ex R' dv => fin ex R' e3 dv
      · cases hf
    | brk ρ' => cases hf
    | ct ρ' => cases hf
end
end DL
/-! DL7: what changes lists, what is built in. -/
namespace DL
open PySem PySem.Spec PyProof.Rows L2
section
variable {X : Cx} {K : PySem.W.Frag} {fr : Bool} {st : Stmt} {e : Expr} {a ix : Ev} {as : Es} {pos : Pos} {i : Nat}
/-! ### lists that are changed -/
/-- x.m(..), x an owned list, by what its items become -/
def sMut (i : Nat) (m : List PyData → List PyData → Option (List PyData)) (as : Es) : Sv := fun ρ => match ρ[i]? with
  | some s0 => (match s0.own with
    | some (.list _) => (match as ρ with
      | some (ds, ρ1) => (match ρ1[i]? with
        | some s => (match s.own with
          | some (.list xs) => (match m xs ds with
            | some ys => some (.nx (ρ1.set i (s.put (.list ys))))
            | none => none)
          | _ => none)
        | none => none)
      | none => none)
    | _ => none)
  | none => none
def MutR (K : PySem.W.Frag) (m : List PyData → List PyData → Option (List PyData)) (r : V → List V → Hp → VK → Prop) : Prop := ∀ G H p vs us xs ds ys, Ex G H → H p = some (.lst vs) → vs.length ≤ sizeLine → DrAll K G vs xs → DrAll K G us ds → m xs ds = some ys →
  ∀ Q : VK, (∀ ws v, ws.length ≤ sizeLine → DrAll K G ws ys → Q v (upd H p (.lst ws))) → r (.ref p) us H Q
theorem r_mut {m : List PyData → List PyData → Option (List PyData)} {r : V → List V → Hp → VK → Prop} (h : PS X st (tDrop (tBM K "list" r (tVar i) (tAs K as)))) (hm : MutR K m r) : PS X st (tT K fr (sMut i m as)) :=
  h.conv fun D σ H ⟨Z, G, ρ, w, zp, R, q, k⟩ => by
    unfold sMut at q
    split at q
    · rename_i s0 e0
      split at q
      · rename_i o0
        split at q
        · rename_i ds ρ1 qa
          split at q
          · rename_i s es
            split at q
            · rename_i xs ox
              split at q
              · rename_i ys qm
                cases q
                obtain ⟨p, hp, _, o1, _⟩ := R.own i s0 _ e0 o0
                obtain ⟨vs0, hv0, _⟩ := o1
                refine ⟨.ref p, hp, .inl ⟨rfl, vs0, .inl (.inl hv0)⟩, Z, G, ρ, ds, ρ1, R, qa, fun us G1 H1 ex1 R1 d1 => ?_⟩
                obtain ⟨p', hp', g1, o2, _⟩ := R1.own i s _ es ox
                rw [hp] at hp'; cases hp'
                obtain ⟨vs, hv, z, da⟩ := o2
                exact hm G1 H1 p vs us xs ds ys R1.gh hv z da d1 qm _ fun ws v hz dw => k σ G1 _ ex1 (R1.mut es ox hp ⟨ws, upd_same, hz, dw⟩)
              · cases q
            · cases q
          · cases q
        · cases q
      · cases q
    · cases q
def appD (xs ds : List PyData) : Option (List PyData) := match ds with
  | [d] => if xs.length < 16777216 then some (xs ++ [d]) else none
  | _ => none
theorem m_app : MutR K appD rAppend := by
  intro G H p vs us xs ds ys ex hv z da du q Q k
  unfold appD at q
  split at q
  · rename_i d
    split at q
    · rename_i hz
      cases q
      cases du with
      | cons d1 d2 =>
        cases d2
        have hl := da.len
        have hs := sizeLine_eq
        exact ⟨p, vs, _, rfl, rfl, hv, by omega, k _ _ (by rw [List.length_append, List.length_singleton]; omega) (da.append (.cons d1 .nil))⟩
    · cases q
  · cases q
def insD (xs ds : List PyData) : Option (List PyData) := match ds with
  | [.int j, d] => if xs.length < 16777216 ∧ 0 ≤ j ∧ j < 2 ^ 63 then some (xs.take j.toNat ++ [d] ++ xs.drop j.toNat) else none
  | _ => none
def rIns : V → List V → Hp → VK → Prop := fun x vs H Q => ∃ (l : Addr) (xs : List V) (i : Int) (y : V), x = .ref l ∧ vs = [.int i, y] ∧ H l = some (.lst xs) ∧ xs.length < sizeLine ∧ 0 ≤ i ∧ i < 2 ^ 63 ∧
  Q .non (upd H l (.lst (xs.take i.toNat ++ [y] ++ xs.drop i.toNat)))
theorem m_ins : MutR K insD rIns := by
  intro G H p vs us xs ds ys ex hv z da du q Q k
  unfold insD at q
  split at q
  · rename_i j d
    split at q
    · rename_i hz
      cases q
      cases du with
      | cons d1 d2 =>
        cases d2 with
        | cons d2 d3 =>
          cases d3
          cases d1
          have hl := da.len
          have hs := sizeLine_eq
          refine ⟨p, vs, j, _, rfl, rfl, hv, by omega, hz.2.1, hz.2.2, k _ _ ?_ (((da.take _).append (.cons d2 .nil)).append (da.drop _))⟩
          rw [List.length_append, List.length_append, List.length_singleton, List.length_take, List.length_drop]
          omega
    · cases q
  · cases q
def extD (xs ds : List PyData) : Option (List PyData) := match ds with
  | [.list zs] => if xs.length + zs.length ≤ 16777216 then some (xs ++ zs) else none
  | _ => none
theorem m_ext : MutR K extD rExtend := by
  intro G H p vs us xs ds ys ex hv z da du q Q k
  unfold extD at q
  split at q
  · rename_i zs
    split at q
    · rename_i hz
      cases q
      cases du with
      | cons d1 d2 =>
        cases d2
        cases d1 with
        | lst h1 z1 t1 =>
          have hl := da.len
          have hl1 := t1.len
          have hs := sizeLine_eq
          exact ⟨p, _, vs, _, rfl, rfl, hv, ex _ _ h1, by omega, k _ _ (by rw [List.length_append]; omega) (da.append t1)⟩
    · cases q
  · cases q
/-- x[k] = e, x an owned list -/
def setLD (x : PyData) (k d : PyData) : Option PyData := match x, k with
  | .list xs, .int n => (match ixN xs.length n with
    | some j => some (.list (xs.set j d))
    | none => none)
  | _, _ => none
def sSet (i : Nat) (ix a : Ev) : Sv := fun ρ => match a ρ with
  | some (d, ρ1) => (match ρ1[i]? with
    | some s0 => (match s0.own with
      | some _ => (match ix ρ1 with
        | some (k, ρ2) => (match ρ2[i]? with
          | some s => (match s.own with
            | some x => (match setLD x k d with
              | some y => some (.nx (ρ2.set i (s.put y)))
              | none => none)
            | none => none)
          | none => none)
        | none => none)
      | none => none)
    | none => none)
  | none => none
theorem r_set (h : PS X st (tAsg (tS K a) (gSub (tVar i) (tS K ix) rSetL))) : PS X st (tT K fr (sSet i ix a)) := h.conv fun D σ H ⟨Z, G, ρ, w, zp, R, q, k⟩ => by
  unfold sSet at q
  split at q
  · rename_i d ρ1 qa
    split at q
    · rename_i s0 e0
      split at q
      · rename_i x0 o0
        split at q
        · rename_i kd ρ2 qi
          split at q
          · rename_i s es
            split at q
            · rename_i x ox
              split at q
              · rename_i y qs
                cases q
                refine ⟨Z, G, ρ, d, ρ1, R, qa, fun v G1 H1 ex1 R1 dv => ?_⟩
                obtain ⟨p, hp, _⟩ := R1.own i s0 x0 e0 o0
                refine ⟨.ref p, hp, Z, G1, ρ1, kd, ρ2, R1, qi, fun u G2 H2 ex2 R2 du => ?_⟩
                obtain ⟨p', hp', g1, o2, _⟩ := R2.own i s x es ox
                rw [hp] at hp'; cases hp'
                unfold setLD at qs
                split at qs
                · rename_i xs n
                  split at qs
                  · rename_i j hj
                    cases qs
                    cases du
                    obtain ⟨vs, hv, z, da⟩ := o2
                    exact ⟨p, vs, n, j, rfl, rfl, hv, by rw [da.len]; exact hj, k σ G2 _ (ex1.trans ex2) (R2.mut es ox hp ⟨_, upd_same, by rw [List.length_set]; exact z, da.set (dv.mono ex2) j⟩)⟩
                  · cases qs
                · cases qs
              · cases q
            · cases q
          · cases q
        · cases q
      · cases q
    · cases q
  · cases q
/-- x[k], x a list, by values -/
theorem get_list : PGet X (rIxL X.K) := by
  intro pins s σ H o i ov iv Q I ro ri h
  obtain ⟨p, xs, n, v, rfl, rfl, hq, he, q⟩ := h
  cases ro
  obtain ⟨t, rfl⟩ := ri
  obtain ⟨its, r, pl, hz⟩ := I.list hq
  obtain ⟨j, h1, h2, h3, h4, h5⟩ := atI_get he
  obtain ⟨w, ew, rw'⟩ := r.get h2
  have hl := r.length
  have hn := line63
  by_cases h0 : 0 ≤ n
  · have hj : n.toNat = j := by
      rw [seqIndex_of h0 h5] at h1
      exact Option.some.inj h1
    exact wpAny_getItem_list pl.isList h0 (by omega) (by rw [hj]; simpa using ew) ⟨v, H, I, rw', q⟩
  · have hj : (n + (its.toArray.size : Int)).toNat = j := by
      rw [seqIndex_neg (by omega) h4] at h1
      rw [List.size_toArray, ← hl]
      exact Option.some.inj h1
    exact wpAny_getItem_list_neg pl.isList (by omega) (by rw [List.size_toArray]; omega) (by omega) (by rw [hj]; simpa using ew) ⟨v, H, I, rw', q⟩
/-- x[k] += e of ints, x an owned list -/
def sAugI (i : Nat) (ix a : Ev) : Sv := fun ρ => match ρ[i]? with
  | some s0 => (match s0.own with
    | some _ => (match ix ρ with
      | some (.int n, ρ1) => (match ρ1[i]? with
        | some s1 => (match s1.own with
          | some (.list xs1) => (match atI xs1 n with
            | some (.int old) => (match a ρ1 with
              | some (.int d, ρ2) => (match ρ2[i]? with
                | some s => (match s.own with
                  | some (.list xs) => (match ixN xs.length n with
                    | some j => some (.nx (ρ2.set i (s.put (.list (xs.set j (.int (old + d)))))))
                    | none => none)
                  | _ => none)
                | none => none)
              | _ => none)
            | _ => none)
          | _ => none)
        | none => none)
      | _ => none)
    | none => none)
  | none => none
theorem r_augI (h : PS X st (tAugS (tVar i) (tS K ix) (tS K a) (rIxL K) (fun x y H Q => ∃ m n, x = .int m ∧ y = .int n ∧ Q (.int (m + n)) H) rSetL)) : PS X st (tT K fr (sAugI i ix a)) := h.conv fun D σ H ⟨Z, G, ρ, w, zp, R, q, k⟩ => by
  unfold sAugI at q
  split at q
  · rename_i s0 e0
    split at q
    · rename_i x0 o0
      split at q
      · rename_i n ρ1 qi
        split at q
        · rename_i s1 e1
          split at q
          · rename_i xs1 o1
            split at q
            · rename_i old qo
              split at q
              · rename_i d ρ2 qa
                split at q
                · rename_i s es
                  split at q
                  · rename_i xs ox
                    split at q
                    · rename_i j qj
                      cases q
                      obtain ⟨p, hp, _⟩ := R.own i s0 x0 e0 o0
                      refine ⟨.ref p, hp, Z, G, ρ, .int n, ρ1, R, qi, fun u G1 H1 ex1 R1 du => ?_⟩
                      cases du
                      obtain ⟨p', hp', g1, oo, _⟩ := R1.own i s1 _ e1 o1
                      rw [hp] at hp'; cases hp'
                      obtain ⟨vs, hv, z, da⟩ := oo
                      obtain ⟨vo, ho, dvo⟩ := da.at qo
                      cases dvo
                      refine ⟨p, vs, n, .int old, rfl, rfl, .inl (.inl hv), ho, Z, G1, ρ1, .int d, ρ2, R1, qa, fun v G2 H2 ex2 R2 dv => ?_⟩
                      cases dv
                      obtain ⟨p', hp', g2, oo2, _⟩ := R2.own i s _ es ox
                      rw [hp] at hp'; cases hp'
                      obtain ⟨vs2, hv2, z2, da2⟩ := oo2
                      exact ⟨old, d, rfl, rfl, p, vs2, n, j, rfl, rfl, hv2, by rw [da2.len]; exact qj, k σ G2 _ (ex1.trans ex2) (R2.mut es ox hp ⟨_, upd_same, by rw [List.length_set]; exact z2, da2.set (.int _) j⟩)⟩
                    · cases q
                  · cases q
                · cases q
              · cases q
            · cases q
          · cases q
        · cases q
      · cases q
    · cases q
  · cases q
/-! ### what is built in -/
def p1 (f : PyData → Option PyData) : List PyData → Option PyData
  | [x] => f x
  | _ => none
def lenD : PyData → Option PyData
  | .list xs => some (.int xs.length)
  | .tuple xs => some (.int xs.length)
  | .str z => if z.length ≤ sizeLine then some (.int z.length) else none
  | .dict ps => some (.int ps.length)
  | _ => none
theorem drkv_len {G : Hp} : ∀ {kvs : List (Key × V)} {ps : List (PyData × PyData)}, DrKv K G kvs ps → kvs.length = ps.length
  | _, _, .nil => rfl
  | _, _, .cons _ t => congrArg (· + 1) (drkv_len t)
def absD : PyData → Option PyData
  | .int i => some (.int (if i < 0 then -i else i))
  | _ => none
theorem b_abs : PrimN K (p1 absD) (fun xs H Q => ∃ i, xs = [.int i] ∧ Q (.int (if i < 0 then -i else i)) H) := by
  intro G H vs xs d ex da q Q k
  unfold p1 at q
  split at q
  · unfold absD at q
    split at q
    · cases q
      cases da with
      | cons d1 d2 => cases d2; cases d1; exact ⟨_, rfl, k _ G H .refl (.int _)⟩
    · cases q
  · cases q
def intD : PyData → Option PyData
  | .int i => some (.int i)
  | .bool b => some (.int (if b then 1 else 0))
  | _ => none
theorem b_int : PrimN K (p1 intD) (fun xs H Q => (∃ i, xs = [.int i] ∧ Q (.int i) H) ∨ ∃ k, xs = [.bl k] ∧ Q (.int (if k then 1 else 0)) H) := by
  intro G H vs xs d ex da q Q k
  unfold p1 at q
  split at q
  · unfold intD at q
    split at q
    · cases q
      cases da with
      | cons d1 d2 => cases d2; cases d1; exact .inl ⟨_, rfl, k _ G H .refl (.int _)⟩
    · cases q
      cases da with
      | cons d1 d2 => cases d2; cases d1; exact .inr ⟨_, rfl, k _ G H .refl (.int _)⟩
    · cases q
  · cases q
def lenS : PyData → Option PyData
  | .list xs => some (.int xs.length)
  | .tuple xs => some (.int xs.length)
  | _ => none
theorem b_len : PrimN K (p1 lenS) (fun xs H Q => ∃ p ys, xs = [.ref p] ∧ (SqL K H p ys ∨ SqT K H p ys) ∧ Q (.int ys.length) H) := by
  intro G H vs xs d ex da q Q k
  unfold p1 at q
  split at q
  · unfold lenS at q
    split at q
    · cases q
      cases da with
      | cons d1 d2 =>
        cases d2
        cases d1 with
        | lst h z t => exact ⟨_, _, rfl, .inl (.inl (.inl (ex _ _ h))), k _ G H .refl (by rw [t.len]; exact .int _)⟩
    · cases q
      cases da with
      | cons d1 d2 =>
        cases d2
        cases d1 with
        | tup h z t => exact ⟨_, _, rfl, .inr (ex.sqT h), k _ G H .refl (by rw [t.len]; exact .int _)⟩
    · cases q
  · cases q
def max2D : List PyData → Option PyData
  | [.int i, .int j] => some (.int (if j > i then j else i))
  | _ => none
def min2D : List PyData → Option PyData
  | [.int i, .int j] => some (.int (if j < i then j else i))
  | _ => none
theorem b_max2 : PrimN K max2D (fun xs H Q => ∃ i j, xs = [.int i, .int j] ∧ Q (.int (if j > i then j else i)) H) := by
  intro G H vs xs d ex da q Q k
  unfold max2D at q
  split at q
  · cases q
    cases da with
    | cons d1 d2 =>
      cases d2 with
      | cons d2 d3 => cases d3; cases d1; cases d2; exact ⟨_, _, rfl, k _ G H .refl (.int _)⟩
  · cases q
theorem b_min2 : PrimN K min2D (fun xs H Q => ∃ i j, xs = [.int i, .int j] ∧ Q (.int (if j < i then j else i)) H) := by
  intro G H vs xs d ex da q Q k
  unfold min2D at q
  split at q
  · cases q
    cases da with
    | cons d1 d2 =>
      cases d2 with
      | cons d2 d3 => cases d3; cases d1; cases d2; exact ⟨_, _, rfl, k _ G H .refl (.int _)⟩
  · cases q
def tupD : PyData → Option PyData
  | .list xs => some (.tuple xs)
  | .tuple xs => some (.tuple xs)
  | _ => none
theorem b_tuple : PrimN K (p1 tupD) (fun xs H Q => ∃ p ys, xs = [.ref p] ∧ ((SqL K H p ys ∧ ∀ l, H l = none → Q (.ref l) (upd H l (.tup ys))) ∨ (SqT K H p ys ∧ Q (.ref p) H))) := by
  intro G H vs xs d ex da q Q k
  unfold p1 at q
  split at q
  · unfold tupD at q
    split at q
    · cases q
      cases da with
      | cons d1 d2 =>
        cases d2
        cases d1 with
        | lst h z t => exact ⟨_, _, rfl, .inl ⟨.inl (.inl (ex _ _ h)), fun l hl => k _ _ _ (.one hl) (.tup (.inl (.inl upd_same)) z (t.mono (Ex.new (ex.none hl))))⟩⟩
    · cases q
      cases da with
      | cons d1 d2 =>
        cases d2
        cases d1 with
        | tup h z t => exact ⟨_, _, rfl, .inr ⟨ex.sqT h, k _ G H .refl (.tup h z t)⟩⟩
    · cases q
  · cases q
def lstD : PyData → Option PyData
  | .list xs => some (.list xs)
  | .tuple xs => some (.list xs)
  | _ => none
theorem b_list : PrimNF K (p1 lstD) (fun xs H Q => ∃ p ys, xs = [.ref p] ∧ (SqL K H p ys ∨ SqT K H p ys) ∧ ∀ l, H l = none → Q (.ref l) (upd H l (.lst ys))) := by
  intro G H vs xs d ex da q Q k
  unfold p1 at q
  split at q
  · unfold lstD at q
    split at q
    · cases q
      cases da with
      | cons d1 d2 =>
        cases d2
        cases d1 with
        | lst h z t => exact ⟨_, _, rfl, .inl (.inl (.inl (ex _ _ h))), fun l hl => k l _ hl ⟨_, upd_same, z, t⟩⟩
    · cases q
      cases da with
      | cons d1 d2 =>
        cases d2
        cases d1 with
        | tup h z t => exact ⟨_, _, rfl, .inr (ex.sqT h), fun l hl => k l _ hl ⟨_, upd_same, z, t⟩⟩
    · cases q
  · cases q
def intsOf : List PyData → Option (List Int)
  | [] => some []
  | .int b :: r => (intsOf r).map (b :: ·)
  | _ :: _ => none
theorem intsOf_eq : ∀ {xs : List PyData} {bs : List Int}, intsOf xs = some bs → xs = bs.map PyData.int
  | [], bs, h => by cases h; rfl
  | .int b :: r, bs, h => by
    simp only [intsOf] at h
    cases e : intsOf r with
    | none => rw [e] at h; cases h
    | some cs => rw [e] at h; cases h; rw [intsOf_eq e]; rfl
  | .none :: _, _, h => by cases h
  | .bool _ :: _, _, h => by cases h
  | .str _ :: _, _, h => by cases h
  | .list _ :: _, _, h => by cases h
  | .tuple _ :: _, _, h => by cases h
  | .dict _ :: _, _, h => by cases h
theorem intsOf_map : ∀ bs : List Int, intsOf (bs.map PyData.int) = some bs
  | [] => rfl
  | b :: bs => by
    show (intsOf (bs.map PyData.int)).map (b :: ·) = some (b :: bs)
    rw [intsOf_map bs]
    rfl
def sumD : PyData → Option PyData
  | .list xs => (intsOf xs).map fun ns => .int ns.sum
  | _ => none
theorem b_sum : PrimN K (p1 sumD) (rSum K) := by
  intro G H vs xs d ex da q Q k
  unfold p1 at q
  split at q
  · rename_i x
    cases x with
    | list zs =>
      simp only [sumD] at q
      cases e : intsOf zs with
      | none => rw [e] at q; cases q
      | some bs =>
        rw [e] at q
        cases q
        cases da with
        | cons d1 d2 =>
          cases d2
          cases d1 with
          | lst h z t =>
            have e2 := intsOf_eq e
            subst e2
            have e3 := t.of_ints
            subst e3
            exact ⟨_, bs, rfl, .inl (.inl (ex _ _ h)), k _ G H .refl (.int _)⟩
    | _ => cases q
  · cases q
def bitsD : PyData → Option PyData
  | .int i => some (.int (Builtin.Int.intBits i : Nat))
  | _ => none
theorem r_bits (h : PE X e (tBits (tS K a))) : PE X e (tS K (e1 bitsD a)) := h.conv fun σ H Q ⟨Z, G, ρ, d, ρ', R, q, k⟩ => by
  unfold e1 at q
  split at q
  · rename_i x ρ1 qa
    split at q
    · rename_i d' qf
      cases q
      refine ⟨Z, G, ρ, x, _, R, qa, fun v G1 H1 ex1 R1 d1 => ?_⟩
      unfold bitsD at qf
      split at qf
      · cases qf
        cases d1
        exact ⟨_, rfl, k _ G1 H1 ex1 R1 (.int _)⟩
      · cases qf
    · cases q
  · cases q
/-- repr -/
def reprOk (d : PyData) : Prop := d.canLay0 = true ∧ d.depth ≤ 64 ∧ d.showable = true ∧ d.shown.length ≤ sizeLine
open Classical in
noncomputable def reprD (d : PyData) : Option PyData := if reprOk d then some (.str d.shown) else none
def rRepr (K : PySem.W.Frag) : List V → Hp → VK → Prop := fun vs H Q => ∃ v d, vs = [v] ∧ Dp K H v d ∧ reprOk d ∧ Q (.str d.shown) H
theorem c_repr (hg : X.A.guards = some []) (hu : X.A.units + 66 < cLine) : CallR X (.builtin "repr") (rRepr X.K) := by
  intro pins s σ H vs us Q I r h
  obtain ⟨v, d, rfl, dp, ok, q⟩ := h
  obtain ⟨u, rfl, rv⟩ := vals1 r
  obtain ⟨h1, h2, h3, h4⟩ := ok
  have hd := PyData.hasDict_of_canLay d h1
  obtain ⟨as, rd⟩ := Dp.reads I d v u dp rv
  cases dp with
  | non => cases rv; exact PySem.P.repr_of_none ⟨.str _, H, I.tok _, ⟨_, rfl⟩, by simpa [PyData.shown] using q⟩
  | bl b => cases rv; exact PySem.P.repr_of_bool ⟨.str _, H, I.tok _, ⟨_, rfl⟩, by simpa [PyData.shown] using q⟩
  | int i => obtain ⟨t, rfl⟩ := rv; exact PySem.P.repr_of_int (by simpa [PyData.showable] using h3) ⟨.str _, H, I.tok _, ⟨_, rfl⟩, by simpa [PyData.shown] using q⟩
  | str x => obtain ⟨t, rfl⟩ := rv; exact PySem.P.repr_of_str ⟨.str _, H, I.tok _, ⟨_, rfl⟩, by simpa [PyData.shown] using q⟩ (by simpa [PyData.shown] using h4)
  | lst h5 h6 => cases rv; exact repr_of_reads' rd h3 (PyData.noDict_hsm hd) hg (by omega) (fun _ _ e => e) (fun h' u tk hk => ⟨.str _, H, I.kept hk, ⟨_, rfl⟩, q⟩) h4
  | tup h5 h6 => cases rv; exact repr_of_reads' rd h3 (PyData.noDict_hsm hd) hg (by omega) (fun _ _ e => e) (fun h' u tk hk => ⟨.str _, H, I.kept hk, ⟨_, rfl⟩, q⟩) h4
theorem b_repr : PrimN K (p1 reprD) (rRepr K) := by
  intro G H vs xs d ex da q Q k
  unfold p1 at q
  split at q
  · unfold reprD at q
    split at q
    · rename_i x ok
      cases q
      cases da with
      | cons d1 d2 =>
        cases d2
        exact ⟨_, x, rfl, (d1.mono ex).dp (PyData.hasDict_of_canLay x ok.1), ok, k _ G H .refl (.str _)⟩
    · cases q
  · cases q
/-- any, all of truths -/
def boolsOf : List PyData → Option (List Bool)
  | [] => some []
  | .bool b :: r => (boolsOf r).map (b :: ·)
  | _ :: _ => none
theorem boolsOf_eq : ∀ {xs : List PyData} {bs : List Bool}, boolsOf xs = some bs → xs = bs.map PyData.bool
  | [], bs, h => by cases h; rfl
  | .bool b :: r, bs, h => by
    simp only [boolsOf] at h
    cases e : boolsOf r with
    | none => rw [e] at h; cases h
    | some cs => rw [e] at h; cases h; rw [boolsOf_eq e]; rfl
  | .none :: _, _, h => by cases h
  | .int _ :: _, _, h => by cases h
  | .str _ :: _, _, h => by cases h
  | .list _ :: _, _, h => by cases h
  | .tuple _ :: _, _, h => by cases h
  | .dict _ :: _, _, h => by cases h
theorem boolsOf_map : ∀ bs : List Bool, boolsOf (bs.map PyData.bool) = some bs
  | [] => rfl
  | b :: bs => by
    show (boolsOf (bs.map PyData.bool)).map (b :: ·) = some (b :: bs)
    rw [boolsOf_map bs]
    rfl
def anyD : PyData → Option PyData
  | .list xs => (boolsOf xs).map fun bs => .bool (bs.any id)
  | _ => none
def allD : PyData → Option PyData
  | .list xs => (boolsOf xs).map fun bs => .bool (bs.all id)
  | _ => none
theorem b_any : PrimN K (p1 anyD) (rAny K) := by
  intro G H vs xs d ex da q Q k
  unfold p1 at q
  split at q
  · rename_i x
    cases x with
    | list zs =>
      simp only [anyD] at q
      cases e : boolsOf zs with
      | none => rw [e] at q; cases q
      | some bs =>
        rw [e] at q
        cases q
        cases da with
        | cons d1 d2 =>
          cases d2
          cases d1 with
          | lst h z t =>
            have e2 := boolsOf_eq e
            subst e2
            have e3 := t.of_bools
            subst e3
            exact ⟨_, bs, rfl, .inl (.inl (ex _ _ h)), k _ G H .refl (.bl _)⟩
    | _ => cases q
  · cases q
theorem b_all : PrimN K (p1 allD) (rAll K) := by
  intro G H vs xs d ex da q Q k
  unfold p1 at q
  split at q
  · rename_i x
    cases x with
    | list zs =>
      simp only [allD] at q
      cases e : boolsOf zs with
      | none => rw [e] at q; cases q
      | some bs =>
        rw [e] at q
        cases q
        cases da with
        | cons d1 d2 =>
          cases d2
          cases d1 with
          | lst h z t =>
            have e2 := boolsOf_eq e
            subst e2
            have e3 := t.of_bools
            subst e3
            exact ⟨_, bs, rfl, .inl (.inl (ex _ _ h)), k _ G H .refl (.bl _)⟩
    | _ => cases q
  · cases q
end
end DL
/-! DL8: the law's def, the end of a row. -/
namespace DL
open PySem PySem.Spec PyProof.Rows L2
/-- the heap behind the top, the script known as it stands -/
structure Top0 (P : Program) (w : World) (K : PySem.W.Frag) (h : Heap) (a : Addr) (ns : List Int) (H : Hp) : Prop where
  only : Only H
  seq : SqL K H a (ns.map V.int)
  ok : HOk P w H h
  at_ : ∀ b, H b ≠ none → b = a
  free : H a ≠ none → K.lookup a = none
theorem top0 {P : Program} {w : World} {K : PySem.W.Frag} {h : Heap} {a : Addr} {vs : List Value} {ns : List Int} (KX : K.In h) (ha : h.get? a = some { cls := .type "list", data := .seq vs.toArray }) (hi : IntsAre vs ns) (hl : ns.length ≤ sizeLine) : ∃ H, Top0 P w K h a ns H := by
  have rv := vals_ints hi
  have hlen := hi.length
  cases hk : K.lookup a with
  | some o =>
    have e := KX a o hk
    rw [ha] at e
    cases e
    refine ⟨fun _ => none, fun _ => .inl rfl, .inr ⟨_, vs.toArray, _, hk, rfl, rfl, rfl, ?_, ?_⟩, ?_, ?_, ?_⟩
    · rw [List.size_toArray, hlen]; exact hl
    · simpa using rv
    · intro b u z
      cases z
    · intro b z
      exact absurd rfl z
    · intro z
      exact absurd rfl z
  | none =>
    let ob : Obj := { cls := .type "list", data := .seq vs.toArray }
    have at1 : ∀ {b : Addr} {u : HO}, (if b = a then some (HO.frz ob (.lst (ns.map V.int))) else none) = some u → b = a ∧ u = HO.frz ob (.lst (ns.map V.int)) := by
      intro b u z
      by_cases q : b = a
      · rw [if_pos q] at z; exact ⟨q, (Option.some.inj z).symm⟩
      · rw [if_neg q] at z; cases z
    refine ⟨fun b => if b = a then some (.frz ob (.lst (ns.map V.int))) else none, fun b => ?_, .inl (.inr ⟨ob, if_pos rfl⟩), fun b u z => ?_, fun b z => ?_, fun _ => hk⟩
    · by_cases q : b = a
      · exact .inr ⟨_, _, if_pos q⟩
      · exact .inl (if_neg q)
    · obtain ⟨rfl, rfl⟩ := at1 z
      exact ⟨ha, by rw [List.length_map]; exact hl, vs, _, rv, ha⟩
    · by_cases q : b = a
      · exact q
      · exact absurd (if_neg q) z
theorem callG {P : Program} {w : World} {K : PySem.W.Frag} {mg mb : Str → Option Value} {k : Nat} {fa a : Addr} {fd : FuncData} {x : Str} {sp : Sp} {s1 : Shared} {vs : List Value} {ns : List Int}
    (KX : K.In s1.heap) (hns : s1.heap.Ns mainGlobals mg) (hb : s1.heap.Ns builtinsNs mb) (hbb : ∀ x : Str, x ≠ "__name__" → mb x = bootBuiltins x) (hlim : s1.heap.NoLimit) (hg : s1.gens = #[])
    (ha : s1.heap.get? a = some { cls := .type "list", data := .seq vs.toArray }) (hi : IntsAre vs ns) (hl : ns.length ≤ sizeLine) (hr : Room k callerA)
    (F : ∀ base : Heap, K.In base → base.Ns mainGlobals mg → FnG P w K mg base k fa fd [x] sp) (hbind : ∀ (s : Shared) (u : Value), BindsTo s fd ⟨[u], []⟩ [(x, u)])
    (hsp : ∀ H : Hp, Only H → SqL K H a (ns.map V.int) → sp [.ref a] H (fun v _ => v = .bl true) E0) :
    codeAny (model P w) callerA (.call (.ref fa) ⟨[.ref a], []⟩) (fun r s' => r = .ok (.ret (.bool true)) ∧ OldK s1.heap s'.heap ∧ s'.os = s1.os ∧ AllBare s'.gens) s1 := by
  obtain ⟨H, T⟩ := top0 (P := P) (w := w) KX ha hi hl
  have onlyA : ∀ {b : Addr} {u : HO}, H b = some u → b = a := fun {b u} e => T.at_ b fun z => by rw [z] at e; cases e
  -- what is a dict is not tracked
  have dictFree : ∀ {b : Addr} {o : Obj} {es : Array DictEntry} {ep : Nat}, s1.heap.get? b = some o → o.data = .dict es ep → H b = none := by
    intro b o es ep e d
    cases q : H b with
    | none => rfl
    | some u =>
      have eb := onlyA q
      rw [eb, ha] at e
      cases e
      exact nomatch d
  have ns0 : ∀ {b : Addr} {m : Str → Option Value}, s1.heap.Ns b m → (hidT s1.heap H).Ns b m := by
    rintro b m ⟨o, es, ep, e, d, r⟩
    exact ⟨o, es, ep, hidT_get e (dictFree e d), d, r⟩
  have KB : K.In (hidT s1.heap H) := by
    intro b o e
    refine hidT_get (KX b o e) ?_
    cases q : H b with
    | none => rfl
    | some u =>
      have eb := onlyA q
      subst eb
      rw [T.free (by rw [q]; intro z; cases z)] at e
      cases e
  have lim0 : (hidT s1.heap H).NoLimit := by
    obtain ⟨mc, c1, c2⟩ := hlim
    exact ⟨mc, ns0 c1, c2⟩
  have none0 : ∀ b ∈ frs ([] : List Env), H b = none := by
    intro b z
    have z' : b ∈ ([] : List Addr) := z
    cases z'
  have e0 : Env0 P w K mg (hidT s1.heap H) callerA [] s1 H := { frames := rfl, mod := ⟨KB, ns0 hns, ⟨mb, ns0 hb, hbb⟩, lim0⟩, bs := fun b o e => of_hidT e, bsz := Nat.le_of_eq (hidT_size _ _), funs := trivial, frf := none0, hok := T.ok, bare := .of_eq hg }
  have run := (F _ KB (ns0 hns)).run callerA [] s1 H ⟨[.ref a], []⟩ [.ref a] [.ref a] _ E0 hr rfl e0 (hbind s1 (.ref a)) (.cons rfl .nil) (hsp H T.only T.seq)
  refine codeAny_mono run fun r s2 h2 => ?_
  cases r with
  | error e => exact False.elim h2
  | ok fl =>
    cases fl with
    | next => exact False.elim h2
    | brk => exact False.elim h2
    | cont => exact False.elim h2
    | ret u =>
      obtain ⟨v, H2, os, bare, un, hok2, rv, qv⟩ := h2
      have ev : v = .bl true := qv
      subst ev
      have eu : u = Value.bool true := rv
      subst eu
      have nofr : ∀ b : Addr, b ∉ frs ([] : List Env) := by
        intro b z
        have z' : b ∈ ([] : List Addr) := z
        cases z'
      refine ⟨rfl, OldK.of_keep fun b o e => ?_, os, bare⟩
      cases q : H b with
      | none => exact un.keep b o e q (nofr b) (by simp)
      | some u =>
        rcases T.only b with z | ⟨ob, xs, z⟩
        · rw [q] at z; cases z
        · obtain ⟨g1, _⟩ := T.ok b _ z
          obtain ⟨g2, _⟩ := hok2 b _ (un.frzs b ob _ z)
          rw [e] at g1
          cases g1
          exact g2
/-- what a law promises -/
def spLaw (K : PySem.W.Frag) : Sp := fun vs H Q _ => ∃ (a : Addr) (ns : List Int), vs = [.ref a] ∧ SqL K H a (ns.map V.int) ∧ ns.length ≤ 63 ∧ ∀ H', Q (.bl true) H'
theorem walkG {l : PySem.W.OpenLaw} {k : Nat} {q : Program} {loose : List Str} {XP : (Str → Option Value) → Heap → Prop} {YP : World → Heap → Prop} {d : DefRec} {K : Params → PySem.W.Frag} {x : Str}
    (hn : l.most = some 63) (hdf : d.params.defaults = []) (hr : Room k callerA) (hY : ∀ (w : World) (h : Heap), YP w h → (K w.params).In h)
    (F : ∀ (w : World) (mg : Str → Option Value) (fa : Addr) (h : Heap), (K w.params).In h → h.Ns mainGlobals mg → mg d.name = some (.ref fa) →
      ∃ fd : FuncData, (∀ (s : Shared) (u : Value), BindsTo s fd ⟨[u], []⟩ [(x, u)]) ∧ ∀ base : Heap, (K w.params).In base → base.Ns mainGlobals mg → FnG l.prog w (K w.params) mg base k fa fd [x] (spLaw (K w.params))) :
    PySem.W.WalkO q loose XP YP l.row.toRowW d [] (fun f vs => PySem.call f vs) := by
  refine Att.attach_call hn hdf ?_
  intro w s0 s1 mg mb fa o pm cd doc a vs ns G Y ho hd hcd hmg hobj hints hlen hg
  have KX := hY w _ Y
  obtain ⟨fd, hb, hF⟩ := F w mg fa _ KX G.T.g hmg
  exact callG KX G.T.g G.T.b G.T.builtins G.T.nolimit hg hobj hints (Nat.le_trans hlen (by decide)) hr hF hb fun H hO hS => ⟨a, ns, rfl, hS, hlen, fun _ => rfl⟩
/-! ### the bag of a script -/
def bagD (ns : List Int) : PyData := .list [.int 0, .int 1234567891, .int 0, .list ((ns.map fun n => if n < 0 then -n else n).map .int)]
def spBag (K : PySem.W.Frag) : Sp := fun vs H Q _ => ∃ (a : Addr) (ns : List Int), vs = [.ref a] ∧ SqL K H a (ns.map V.int) ∧ ns.length ≤ 63 ∧
  ∀ p c H', Ex H H' → H p = none → H c = none → p ≠ c → H' c = some (.lst ((ns.map fun n => if n < 0 then -n else n).map V.int)) → H' p = some (.lst [.int 0, .int 1234567891, .int 0, .ref c]) → Q (.ref p) H'
section
variable {P : Program} {w : World} {K : PySem.W.Frag} {mg : Str → Option Value} {base : Heap} {x qual : Str} {st : Stmt} {f : Addr} {fd : FuncData} {N : List Str} {k i : Nat} {ψ : Sv}
def lawEn (n i : Nat) (ns : List Int) : En := (List.replicate n .u).set i (.o (bagD ns))
theorem fnLaw (F : Fun K x qual st f fd) (S : FnScope N ["script"] (defScope st)) (hi : i < N.length)
    (body : ∀ (cdv : Value) (A : Around) (outer : List Env) (s : Shared) (H : Hp) (E : XK), Room k (A.deeper (envOfC qual (defScope st) s.heap.objs.size f cdv)) → A.guards = some [] →
      PSs (cxG P w K mg base N qual st f cdv A outer s H E) (defBody st) (tSeq (tAsg (tCallG (spBag K) (tCons (tVar 0) tNil)) (gName i)) (tT K false ψ)))
    (hψ : ∀ ns : List Int, ns.length ≤ 63 → ∃ ρ', ψ (lawEn N.length i ns) = some (.ret (.bool true) ρ')) : FnG P w K mg base (k + 1) f fd ["script"] (spLaw K) := by
  refine fnG_ok F S (fun vs H Q E ⟨a, ns, e, _⟩ => by rw [e]; rfl) fun cdv A outer s H vs Q E hr hg hsp => ⟨_, body cdv A outer s H E hr hg, ?_⟩
  obtain ⟨a, ns, rfl, hS, hl, kk⟩ := hsp
  obtain ⟨ρ', hρ⟩ := hψ ns hl
  refine ⟨.ref a, start_at rfl, a, ns, rfl, hS, hl, fun p c H1 ex hp hc hpc hcc hpp => ?_⟩
  let G1 : Hp := fun b => if b = c then some (.lst ((ns.map fun n => if n < 0 then -n else n).map V.int)) else none
  have gc : G1 c = some (.lst ((ns.map fun n => if n < 0 then -n else n).map V.int)) := if_pos rfl
  have gn : ∀ b, b ≠ c → G1 b = none := fun b h => if_neg h
  have hlen : (start N [V.ref a]).length = N.length := start_len (by rw [List.length_singleton]; omega)
  have R : SR K ⟨fun _ => none, H, fun _ => none, fun _ => False⟩ G1 H1 (start N [V.ref a]) (List.replicate N.length .u) := by
    have no : ∀ {j : Nat} {s : Sl}, (List.replicate N.length Sl.u)[j]? = some s → s = .u := fun {j s} h => by
      rw [List.getElem?_replicate] at h
      split at h
      · cases h; rfl
      · cases h
    refine ⟨by rw [hlen, List.length_replicate], fun b o e => ?_, fun b o e => (by cases e), fun b o e => ?_, fun b o e _ => ex b o e, fun b o e => ⟨_, ex b o e⟩, fun j y e => ?_, fun j s y e q => ?_, fun j y e => ?_, fun j y b e => ?_, fun j b e => (by cases e), fun j m b ⟨s, y, e, q⟩ => ?_⟩
    · by_cases z : b = c
      · subst z; rw [gc] at e; cases e; exact hcc
      · rw [gn b z] at e; cases e
    · refine gn b fun z => ?_
      have e' : H b = some o := e
      rw [z, hc] at e'
      cases e'
    · cases no e
    · rw [no e] at q; cases q
    · cases no e
    · cases no e
    · rw [no e] at q; cases q
  have R2 := R.setO (i := i) (a := p) (x := bagD ns) (gn p hpc) hp (fun j ⟨s, y, e, q⟩ => by
    rw [List.getElem?_replicate] at e
    split at e
    · cases e; cases q
    · cases e) ⟨_, hpp, by show 4 ≤ sizeLine; decide, .cons (.int 0) (.cons (.int _) (.cons (.int 0) (.cons (.lst gc (by rw [List.length_map, List.length_map, sizeLine_eq]; omega) (DrAll.ints _)) .nil)))⟩
  refine ⟨_, G1, _, _, fun b z => (show False from z).elim, R2, hρ, ?_⟩
  intro v σ' G' H' ex' R' dv
  have dv' : Dr K G' v (.bool true) := dv
  cases dv'
  exact kk H'
/-- the reading of «return [0, 1234567891, 0, [abs(cell) for cell in script[:63]]]» -/
theorem bag_reads {D : Ends} {H : Hp} {a : Addr} {ns : List Int} {Q : VK} (hrt : D.rt = Q) (hS : SqL K H a (ns.map V.int)) (hl : ns.length ≤ 63)
    (q : ∀ p c H', Ex H H' → H p = none → H c = none → p ≠ c → H' c = some (.lst ((ns.map fun n => if n < 0 then -n else n).map V.int)) → H' p = some (.lst [.int 0, .int 1234567891, .int 0, .ref c]) → Q (.ref p) H') :
    tRet (tLst (tCons (tC (.int 0)) (tCons (tC (.int 1234567891)) (tCons (tC (.int 0)) (tCons (tLc (iList K (tSl (rSlL K) (tVar 0) tNoPart (tPart (tC (.int 63))))) (gName 1) tYes
      (tCB (fun xs H Q => ∃ i, xs = [.int i] ∧ Q (.int (if i < 0 then -i else i)) H) (tCons (tVar 1) tNil)) [1]) tNil))))) D [some (.ref a), none] H := by
  have hcut : cutV (ns.map V.int) none (some 63) = ns.map V.int := by
    unfold cutV
    rw [HT.sIx_none, show HT.sIx (ns.map V.int).length (ns.map V.int).length (some 63) = min 63 (ns.map V.int).length from HT.sIx_nat _ _ 63, List.drop_zero, Nat.sub_zero]
    exact List.take_of_length_le (by rw [List.length_map]; omega)
  refine ⟨.ref a, rfl, 63, rfl, a, _, rfl, hS, fun l hL => ?_⟩
  rw [hcut]
  refine ⟨l, rfl, ⟨_, .inl (.inl upd_same)⟩, fun D1 hD1 => ?_⟩
  have ne : l ≠ D1 := fun z => by rw [← z, upd_same] at hD1; cases hD1
  have hD0 : H D1 = none := by rw [upd_ne ne.symm] at hD1; exact hD1
  refine lc_list (K := K) (a := l) (xs := ns.map V.int) (fun m H' => Ex (upd H l (.lst (ns.map V.int))) H' ∧ H' D1 = some (.lst (((ns.take m).map fun n => if n < 0 then -n else n).map V.int)))
    ⟨Ex.new hD1, upd_same⟩ (fun m H' _ h => .inl (.inl (h.1 _ _ upd_same))) (fun m y H' hy h => ?_) (fun H' h => ?_)
  · rw [List.getElem?_map] at hy
    cases e : ns[m]? with
    | none => rw [e] at hy; cases hy
    | some n =>
      rw [e] at hy
      cases hy
      have hm : m < ns.length := (List.getElem?_eq_some_iff.mp e).1
      refine ⟨rfl, ?_⟩
      refine ⟨.int n, rfl, n, rfl, _, h.2, ?_, ?_, ?_⟩
      · rw [List.length_map, List.length_map, List.length_take, sizeLine_eq]; omega
      · intro b o hb
        have nb : b ≠ D1 := fun z => by rw [z, hD1] at hb; cases hb
        rw [upd_ne nb]
        exact h.1 b o hb
      · rw [upd_same, List.take_add_one, e, List.map_append, List.map_append]
        rfl
  · refine ⟨by show 4 ≤ sizeLine; decide, fun p hp => ?_⟩
    have hH : Ex H H' := (Ex.new hL).trans h.1
    have np : p ≠ D1 := fun z => by rw [z, h.2] at hp; cases hp
    have ep : H p = none := hH.none hp
    rw [hrt]
    refine q p D1 _ ?_ ep hD0 np ?_ upd_same
    · intro b o hb
      rw [upd_ne (fun z => by rw [z, ep] at hb; cases hb)]
      exact hH b o hb
    · rw [upd_ne np.symm, h.2, List.take_of_length_le (by rw [List.length_map]; exact Nat.le_refl _)]
end
end DL
/-! DL9: what changes no slot; a look at lists that are still to be changed; several targets. -/
namespace DL
open PySem PySem.Spec PyProof.Rows L2
def PuE (a : Ev) : Prop := ∀ ρ d ρ', a ρ = some (d, ρ') → ρ' = ρ
def PuQ (a : Eq) : Prop := ∀ ρ d ρ', a ρ = some (d, ρ') → ρ' = ρ
def PuA (a : Es) : Prop := ∀ ρ d ρ', a ρ = some (d, ρ') → ρ' = ρ
section
variable {a b : Ev} {q r : Eq} {as : Es} {i : Nat} {d : PyData} {f1 : PyData → Option PyData} {f2 : PyData → PyData → Option PyData} {fn : List PyData → Option PyData}
theorem pu_V : PuE (eV i) := fun ρ x ρ' h => by
  unfold eV at h
  split at h
  · cases h; rfl
  · cases h
theorem pu_C : PuE (eC d) := fun ρ x ρ' h => by cases h; rfl
theorem pu_1 (ha : PuE a) : PuE (e1 f1 a) := fun ρ x ρ' h => by
  unfold e1 at h
  split at h
  · rename_i y ρ1 qa
    split at h
    · cases h; exact ha _ _ _ qa
    · cases h
  · cases h
theorem pu_2 (ha : PuE a) (hb : PuE b) : PuE (e2 f2 a b) := fun ρ x ρ' h => by
  unfold e2 at h
  split at h
  · rename_i y ρ1 qa
    split at h
    · rename_i z ρ2 qb
      split at h
      · cases h
        have e1 := ha _ _ _ qa
        subst e1
        exact hb _ _ _ qb
      · cases h
    · cases h
  · cases h
theorem pu_N (ha : PuA as) : PuE (eN fn as) := fun ρ x ρ' h => by
  unfold eN at h
  split at h
  · rename_i y ρ1 qa
    split at h
    · cases h; exact ha _ _ _ qa
    · cases h
  · cases h
theorem pu_aN : PuA aN := fun ρ x ρ' h => by cases h; rfl
theorem pu_aC (ha : PuE a) (hb : PuA as) : PuA (aC a as) := fun ρ x ρ' h => by
  unfold aC at h
  split at h
  · rename_i y ρ1 qa
    split at h
    · rename_i z ρ2 qb
      cases h
      have e1 := ha _ _ _ qa
      subst e1
      exact hb _ _ _ qb
    · cases h
  · cases h
theorem pu_B (ha : PuE a) : PuQ (qB a) := fun ρ x ρ' h => by
  unfold qB at h
  split at h
  · rename_i qa; cases h; exact ha _ _ _ qa
  · cases h
theorem pu_And (ha : PuQ q) (hb : PuQ r) : PuQ (qAnd q r) := fun ρ x ρ' h => by
  unfold qAnd at h
  split at h
  · rename_i ρ1 qa
    have e1 := ha _ _ _ qa
    subst e1
    exact hb _ _ _ h
  · rename_i ρ1 qa; cases h; exact ha _ _ _ qa
  · cases h
theorem pu_Or (ha : PuQ q) (hb : PuQ r) : PuQ (qOr q r) := fun ρ x ρ' h => by
  unfold qOr at h
  split at h
  · rename_i ρ1 qa; cases h; exact ha _ _ _ qa
  · rename_i ρ1 qa
    have e1 := ha _ _ _ qa
    subst e1
    exact hb _ _ _ h
  · cases h
theorem pu_Not (ha : PuQ q) : PuQ (qNot q) := fun ρ x ρ' h => by
  unfold qNot at h
  split at h
  · rename_i qa; cases h; exact ha _ _ _ qa
  · cases h
theorem pu_If {c : Eq} (hc : PuQ c) (ha : PuE a) (hb : PuE b) : PuE (eIf c a b) := fun ρ x ρ' h => by
  unfold eIf at h
  split at h
  · rename_i ρ1 qa
    have e1 := hc _ _ _ qa
    subst e1
    exact ha _ _ _ h
  · rename_i ρ1 qa
    have e1 := hc _ _ _ qa
    subst e1
    exact hb _ _ _ h
  · cases h
theorem pu_eAnd (ha : PuE a) (hb : PuE b) : PuE (eAnd a b) := fun ρ x ρ' h => by
  unfold eAnd at h
  split at h
  · rename_i ρ1 qa
    have e1 := ha _ _ _ qa
    subst e1
    exact hb _ _ _ h
  · rename_i ρ1 qa; cases h; exact ha _ _ _ qa
  · cases h
theorem pu_eOr (ha : PuE a) (hb : PuE b) : PuE (eOr a b) := fun ρ x ρ' h => by
  unfold eOr at h
  split at h
  · rename_i ρ1 qa; cases h; exact ha _ _ _ qa
  · rename_i ρ1 qa
    have e1 := ha _ _ _ qa
    subst e1
    exact hb _ _ _ h
  · cases h
end
/-! ### all that is owned, looked at -/
def Sl.still : Sl → Sl
  | .o x => .d x
  | .b x => .d x
  | s => s
def stillE (ρ : En) : En := ρ.map Sl.still
def OwnAddr (σ : L2.St) (ρ : En) (b : Addr) : Prop := ∃ j, Owned ρ j ∧ σ[j]? = some (some (.ref b))
section
variable {K : PySem.W.Frag} {Z : Zn} {G H : Hp} {σ : L2.St} {ρ : En}
open Classical in
noncomputable def stillG (G H : Hp) (σ : L2.St) (ρ : En) : Hp := fun b => if OwnAddr σ ρ b then H b else G b
open Classical in
noncomputable def backG (G' : Hp) (σ : L2.St) (ρ : En) : Hp := fun b => if OwnAddr σ ρ b then none else G' b
theorem stillE_at {i : Nat} {s : Sl} (h : (stillE ρ)[i]? = some s) : ∃ s0, ρ[i]? = some s0 ∧ s = s0.still := by
  unfold stillE at h
  rw [List.getElem?_map] at h
  cases e : ρ[i]? with
  | none => rw [e] at h; cases h
  | some s0 => rw [e] at h; cases h; exact ⟨s0, rfl, rfl⟩
theorem still_own {s : Sl} {x : PyData} (h : s.still.own = some x) : False := by cases s <;> cases h
theorem exG (R : SR K Z G H σ ρ) : Ex G (stillG G H σ ρ) := fun b o e => by
  unfold stillG
  by_cases h : OwnAddr σ ρ b
  · rw [if_pos h]; exact R.gh b o e
  · rw [if_neg h]; exact e
theorem SR.still (R : SR K Z G H σ ρ) : SR K ⟨stillG G H σ ρ, H, Z.pin, fun _ => False⟩ (stillG G H σ ρ) H σ (stillE ρ) := by
  have no : ∀ {i : Nat} {s : Sl} {x : PyData}, (stillE ρ)[i]? = some s → s.own = some x → False := fun {i s x} h q => by
    obtain ⟨s0, _, rfl⟩ := stillE_at h
    exact still_own q
  refine ⟨by unfold stillE; rw [List.length_map]; exact R.len, fun b o e => ?_, Ex.refl _, fun _ _ _ => rfl, fun _ _ e _ => e, fun _ _ e => ⟨_, e⟩, fun i x e => ?_, fun i s x e q => (no e q).elim, fun i x e => (no e rfl).elim, fun i x a e => (no e rfl).elim, fun j a e => ?_, fun i j a ⟨s, x, e, q⟩ => (no e q).elim⟩
  · unfold stillG at e
    by_cases h : OwnAddr σ ρ b
    · rw [if_pos h] at e; exact e
    · rw [if_neg h] at e; exact R.gh b o e
  · obtain ⟨s0, h0, hs⟩ := stillE_at e
    have fz : ∀ {s : Sl} {y : PyData}, ρ[i]? = some s → s.own = some y → ∃ v, σ[i]? = some (some v) ∧ Dr K (stillG G H σ ρ) v y := fun {s y} h1 h2 => by
      obtain ⟨a, g1, g2, g3, g4⟩ := R.own i s y h1 h2
      refine ⟨.ref a, g1, ?_⟩
      have oa : OwnAddr σ ρ a := ⟨i, ⟨s, y, h1, h2⟩, g1⟩
      have ga : stillG G H σ ρ a = H a := by unfold stillG; rw [if_pos oa]
      cases y with
      | list ds => obtain ⟨vs, p1, z, p2⟩ := g3; exact .lst (ga.trans p1) z (p2.mono (exG R))
      | dict ps => obtain ⟨vs, p1, z, p2⟩ := g3; exact .dk (.inl (ga.trans p1)) z (p2.mono (exG R))
      | _ => exact g3.elim
    cases s0 with
    | u => cases hs
    | d y =>
      cases hs
      obtain ⟨v, h1, h2⟩ := R.str i x h0
      exact ⟨v, h1, h2.mono (exG R)⟩
    | o y => cases hs; exact fz h0 rfl
    | b y => cases hs; exact fz h0 rfl
  · obtain ⟨o, h⟩ := R.zpin j a e
    exact R.h1 a o h
theorem SR.unstill {G' H' : Hp} (R : SR K Z G H σ ρ) (R' : SR K ⟨stillG G H σ ρ, H, Z.pin, fun _ => False⟩ G' H' σ (stillE ρ)) (ex : Ex (stillG G H σ ρ) G') : SR K Z (backG G' σ ρ) H' σ ρ ∧ Ex G (backG G' σ ρ) := by
  have keepH : ∀ b o, H b = some o → H' b = some o := fun b o e => R'.h0 b o e fun z => z
  have gOwn : ∀ {b : Addr}, OwnAddr σ ρ b → G b = none := fun {b} ⟨j, ⟨s, x, e, q⟩, h⟩ => by
    obtain ⟨a, g1, g2, _⟩ := R.own j s x e q
    rw [h] at g1; cases g1
    exact g2
  have exb : Ex G (backG G' σ ρ) := fun b o e => by
    have n : ¬ OwnAddr σ ρ b := fun z => by rw [gOwn z] at e; cases e
    unfold backG
    rw [if_neg n]
    refine ex b o ?_
    unfold stillG
    rw [if_neg n]
    exact e
  refine ⟨⟨R.len, fun b o e => ?_, R.zg.trans exb, fun b o e => ?_, fun b o e n => keepH b o (R.h0 b o e n), fun b o e => ?_, fun i x e => ?_, fun i s x e q => ?_, R.bor, R.opin, R.zpin, R.inj⟩, exb⟩
  · unfold backG at e
    by_cases h : OwnAddr σ ρ b
    · rw [if_pos h] at e; cases e
    · rw [if_neg h] at e; exact R'.gh b o e
  · obtain ⟨o', h'⟩ := R.h1 b o e
    have g := R.g0 b o e
    unfold backG
    by_cases h : OwnAddr σ ρ b
    · rw [if_pos h, ← g]; exact (gOwn h).symm
    · rw [if_neg h, ← g]
      have := R'.g0 b o' h'
      rw [this]
      show stillG G H σ ρ b = G b
      unfold stillG
      rw [if_neg h]
  · obtain ⟨o', h'⟩ := R.h1 b o e
    exact ⟨o', keepH b o' h'⟩
  · obtain ⟨v, h1, h2⟩ := R.str i x e
    exact ⟨v, h1, h2.mono exb⟩
  · obtain ⟨a, h1, h2, h3, h4⟩ := R.own i s x e q
    obtain ⟨u, hu⟩ := h3.some
    refine ⟨a, h1, ?_, h3.mono exb ((keepH a u hu).trans hu.symm), h4⟩
    unfold backG
    rw [if_pos ⟨i, ⟨s, x, e, q⟩, h1⟩]
/-- data in which no list and no dict stands -/
inductive FlatT : PyData → Prop
  | non : FlatT .none
  | bl (b : Bool) : FlatT (.bool b)
  | int (i : Int) : FlatT (.int i)
  | str (x : Str) : FlatT (.str x)
  | tup {xs : List PyData} : (∀ x ∈ xs, FlatT x) → FlatT (.tuple xs)
end
section
variable {X : Cx} {K : PySem.W.Frag} {e : Expr} {a : Ev} {q : Eq}
def qFz (q : Eq) : Eq := fun ρ => match q (stillE ρ) with
  | some (b, _) => some (b, ρ)
  | none => none
theorem pu_Fz : PuQ (qFz q) := fun ρ x ρ' h => by
  unfold qFz at h
  split at h
  · cases h; rfl
  · cases h
theorem r_tfz (h : PT X e (tQ K q)) (hp : PuQ q) : PT X e (tQ K (qFz q)) := h.conv fun σ H Q ⟨Z, G, ρ, b, ρ', R, hq, k⟩ => by
  unfold qFz at hq
  split at hq
  · rename_i b' ρ1 q1
    cases hq
    have e1 := hp _ _ _ q1
    subst e1
    refine ⟨_, _, _, b, _, R.still, q1, fun G' H' ex R' => ?_⟩
    obtain ⟨R2, ex2⟩ := R.unstill R' ex
    exact k _ H' ex2 R2
  · cases hq
/-- a, b = e1, e2 -/
def sPar (i j : Nat) (as : Es) : Sv := fun ρ => match as ρ with
  | some ([x, y], ρ1) => some (.nx ((ρ1.set i (.d x)).set j (.d y)))
  | _ => none
variable {fr : Bool} {st : Stmt} {as : Es} {i j : Nat}
theorem r_par (h : PS X st (tPar i j (tAs K as))) : PS X st (tT K fr (sPar i j as)) := h.conv fun D σ H ⟨Z, G, ρ, w, zp, R, hq, k⟩ => by
  unfold sPar at hq
  split at hq
  · rename_i x y ρ1 qa
    cases hq
    refine ⟨Z, G, ρ, _, ρ1, R, qa, fun vs G1 H1 ex R1 dv => ?_⟩
    cases dv with
    | cons d1 d2 =>
      cases d2 with
      | cons d2 d3 =>
        cases d3
        exact ⟨_, _, rfl, k _ G1 H1 ex ((R1.setD d1).setD d2)⟩
  · cases hq
/-- a target of a pattern, the value data -/
def sPat (vs : List Nat) (g : Gv) (a : Ev) : Sv := fun ρ => match a ρ with
  | some (d, ρ1) => (match g d ρ1 with
    | some ρ2 => some (.nx ρ2)
    | none => none)
  | none => none
theorem r_pat {vs : List Nat} {g : Gv} (h : PS X st (tAsg (tS K a) (gD K vs g))) : PS X st (tT K fr (sPat vs g a)) := h.conv fun D σ H ⟨Z, G, ρ, w, zp, R, hq, k⟩ => by
  unfold sPat at hq
  split at hq
  · rename_i d ρ1 qa
    split at hq
    · rename_i ρ2 qg
      cases hq
      exact ⟨Z, G, ρ, d, ρ1, R, qa, fun v G1 H1 ex R1 dv => ⟨Z, G1, ρ1, d, ρ2, R1, dv, qg, fun σ' R2 _ => k σ' G1 H1 ex R2⟩⟩
    · cases hq
  · cases hq
theorem pu_Sl {f : PyData → Option Int → Option Int → Option PyData} {l h : En → Option (Option Int × En)} (ha : PuE a) (hl : ∀ ρ o ρ', l ρ = some (o, ρ') → ρ' = ρ) (hh : ∀ ρ o ρ', h ρ = some (o, ρ') → ρ' = ρ) : PuE (eSl f a l h) := fun ρ x ρ' q => by
  unfold eSl at q
  split at q
  · rename_i y ρ1 qa
    have e1 := ha _ _ _ qa
    subst e1
    split at q
    · rename_i o1 ρ2 ql
      have e2 := hl _ _ _ ql
      subst e2
      split at q
      · rename_i o2 ρ3 qh
        have e3 := hh _ _ _ qh
        subst e3
        split at q
        · cases q; rfl
        · cases q
      · cases q
    · cases q
  · cases q
theorem pu_oN : ∀ ρ o ρ', oN ρ = some (o, ρ') → ρ' = ρ := fun ρ o ρ' h => by cases h; rfl
theorem pu_oS (ha : PuE a) : ∀ ρ o ρ', oS a ρ = some (o, ρ') → ρ' = ρ := fun ρ o ρ' h => by
  unfold oS at h
  split at h
  · rename_i qa; cases h; exact ha _ _ _ qa
  · cases h
mutual
def flatB : PyData → Bool
  | .list _ => false
  | .dict _ => false
  | .tuple xs => flatBs xs
  | _ => true
def flatBs : List PyData → Bool
  | [] => true
  | x :: xs => flatB x && flatBs xs
end
section
variable {Z : Zn} {G H G' H' : Hp} {σ : L2.St} {ρ : En}
theorem notOwn_tup (R : SR K Z G H σ ρ) (keep : ∀ b o, H b = some o → H' b = some o) (gh : Ex G' H') {p : Addr} {vs : List V} (h : SqT K G' p vs) : SqT K (backG G' σ ρ) p vs := by
  rcases h with (h | ⟨o, h⟩) | h
  · refine .inl (.inl ?_)
    unfold backG
    rw [if_neg fun z => ?_]
    · exact h
    · obtain ⟨j, ⟨s, x, e, q⟩, hs⟩ := z
      obtain ⟨a, g1, _, g3, _⟩ := R.own j s x e q
      rw [hs] at g1; cases g1
      have h' := gh _ _ h
      cases x with
      | list ds => obtain ⟨ws, p1, _⟩ := g3; rw [keep _ _ p1] at h'; cases h'
      | dict ps => obtain ⟨ws, p1, _⟩ := g3; rw [keep _ _ p1] at h'; cases h'
      | _ => exact g3.elim
  · refine .inl (.inr ⟨o, ?_⟩)
    unfold backG
    rw [if_neg fun z => ?_]
    · exact h
    · obtain ⟨j, ⟨s, x, e, q⟩, hs⟩ := z
      obtain ⟨a, g1, _, g3, _⟩ := R.own j s x e q
      rw [hs] at g1; cases g1
      have h' := gh _ _ h
      cases x with
      | list ds => obtain ⟨ws, p1, _⟩ := g3; rw [keep _ _ p1] at h'; cases h'
      | dict ps => obtain ⟨ws, p1, _⟩ := g3; rw [keep _ _ p1] at h'; cases h'
      | _ => exact g3.elim
  · exact .inr h
mutual
theorem Dr.flat (R : SR K Z G H σ ρ) (keep : ∀ b o, H b = some o → H' b = some o) (gh : Ex G' H') : ∀ {v : V} {d : PyData}, Dr K G' v d → flatB d = true → Dr K (backG G' σ ρ) v d
  | _, _, .non, _ => .non
  | _, _, .bl b, _ => .bl b
  | _, _, .int i, _ => .int i
  | _, _, .str x, _ => .str x
  | _, _, .lst _ _ _, q => by simp [flatB] at q
  | _, _, .dk _ _ _, q => by simp [flatB] at q
  | _, _, .tup h z t, q => .tup (notOwn_tup R keep gh h) z (DrAll.flat R keep gh t (by simpa [flatB] using q))
theorem DrAll.flat (R : SR K Z G H σ ρ) (keep : ∀ b o, H b = some o → H' b = some o) (gh : Ex G' H') : ∀ {vs : List V} {ds : List PyData}, DrAll K G' vs ds → flatBs ds = true → DrAll K (backG G' σ ρ) vs ds
  | _, _, .nil, _ => .nil
  | _, _, .cons h t, q => by
    have q' := q
    simp only [flatBs, Bool.and_eq_true] at q'
    exact .cons (Dr.flat R keep gh h q'.1) (DrAll.flat R keep gh t q'.2)
end
end
def eFz (a : Ev) : Ev := fun ρ => match a (stillE ρ) with
  | some (d, _) => if flatB d = true then some (d, ρ) else none
  | none => none
theorem pu_eFz : PuE (eFz a) := fun ρ x ρ' h => by
  unfold eFz at h
  split at h
  · split at h
    · cases h; rfl
    · cases h
  · cases h
theorem r_sfz (h : PE X e (tS K a)) (hp : PuE a) : PE X e (tS K (eFz a)) := h.conv fun σ H Q ⟨Z, G, ρ, b, ρ', R, hq, k⟩ => by
  unfold eFz at hq
  split at hq
  · rename_i b' ρ1 q1
    split at hq
    · rename_i hf
      cases hq
      have e1 := hp _ _ _ q1
      subst e1
      refine ⟨_, _, _, b, _, R.still, q1, fun v G' H' ex R' dv => ?_⟩
      obtain ⟨R2, ex2⟩ := R.unstill R' ex
      exact k v _ H' ex2 R2 (dv.flat R (fun b o e => R'.h0 b o e fun z => z) R'.gh hf)
    · cases hq
  · cases hq
theorem t_fz {φ : Ev} {σ : L2.St} {H : Hp} {Q : VK} (h : tS K φ σ H Q) : tF K φ σ H Q := by
  obtain ⟨Z, G, ρ, d, ρ', R, q, k⟩ := h
  exact ⟨Z, G, ρ, d, ρ', R, q, fun a G' H' ex R' ha hz hn o => by
    obtain ⟨u, hu⟩ := o.some
    exact k (.ref a) (upd G' a u) H' (ex.trans (Ex.new ha)) (R'.frz ha hz hn hu) (o.frz ha hu)⟩
/-- y = [..] on one line -/
theorem r_setLc {y : Str} {py spos pos : Pos} {elt tg iter : Expr} {ifs : List Expr} {scope : Scope} {own : List (Str × Nat)} {it : Es} {g : Gv} {q : Eq} (hc : X.calm = true) (hN : X.N.Nodup) (hy : X.N[i]? = some y) (hyl : X.env.scope.names.lookup y = some .local)
    (hsw : swapsWith (.ListComp elt [⟨tg, iter, ifs, 0⟩] scope pos) (some (.Name y py)) spos.line X.env = pure true) (hi : PI X tg iter (tI K it)) (ok : BlkOk X.N X.env.scope scope own)
    (hg : ∀ (s : Shared) (H : Hp) (C : Addr) (cl : List (Str × Addr)) (fp : List Addr), PG (X.blk s H scope (compEnvC scope cl C X.env) fp) tg (gD K (own.map (·.2)) g))
    (ht : ∀ (s : Shared) (H : Hp) (C : Addr) (cl : List (Str × Addr)) (fp : List Addr), PTs (X.blk s H scope (compEnvC scope cl C X.env) fp) ifs (tQ K q))
    (he : ∀ (s : Shared) (H : Hp) (C : Addr) (cl : List (Str × Addr)) (fp : List Addr), PE (X.blk s H scope (compEnvC scope cl C X.env) fp) elt (tS K a)) (hs : ∀ x, foldedSetIterable iter X.env x = pure x := by intro _; rfl) :
    PS X (.Assign [.Name y py] (.ListComp elt [⟨tg, iter, ifs, 0⟩] scope pos) spos) (tT K fr (sAsg i (eLc (own.map (·.2)) it g q a))) :=
  r_asg (asg_conv (ps_setLc hc hN hy hyl hsw hi ok hg ht he hs) fun _ _ _ h => t_lc (t_fz h))
theorem r_setLcO {y : Str} {py spos pos : Pos} {elt tg iter : Expr} {ifs : List Expr} {scope : Scope} {own : List (Str × Nat)} {it : Es} {g : Gv} {q : Eq} (hc : X.calm = true) (hN : X.N.Nodup) (hy : X.N[i]? = some y) (hyl : X.env.scope.names.lookup y = some .local)
    (hsw : swapsWith (.ListComp elt [⟨tg, iter, ifs, 0⟩] scope pos) (some (.Name y py)) spos.line X.env = pure true) (hi : PI X tg iter (tI K it)) (ok : BlkOk X.N X.env.scope scope own)
    (hg : ∀ (s : Shared) (H : Hp) (C : Addr) (cl : List (Str × Addr)) (fp : List Addr), PG (X.blk s H scope (compEnvC scope cl C X.env) fp) tg (gD K (own.map (·.2)) g))
    (ht : ∀ (s : Shared) (H : Hp) (C : Addr) (cl : List (Str × Addr)) (fp : List Addr), PTs (X.blk s H scope (compEnvC scope cl C X.env) fp) ifs (tQ K q))
    (he : ∀ (s : Shared) (H : Hp) (C : Addr) (cl : List (Str × Addr)) (fp : List Addr), PE (X.blk s H scope (compEnvC scope cl C X.env) fp) elt (tS K a)) (hs : ∀ x, foldedSetIterable iter X.env x = pure x := by intro _; rfl) :
    PS X (.Assign [.Name y py] (.ListComp elt [⟨tg, iter, ifs, 0⟩] scope pos) spos) (tT K fr (sAsgO i (eLc (own.map (·.2)) it g q a))) :=
  r_asgO (asg_conv (ps_setLc hc hN hy hyl hsw hi ok hg ht he hs) fun _ _ _ h => t_lc h)
end
theorem room65 {A : Around} {k : Nat} (r : Room k A) : A.units + 65 < cLine := by have := r.un; omega
theorem room66 {A : Around} {k : Nat} (r : Room k A) : A.units + 66 < cLine := by have := r.un; omega
section
variable {P : Program} {w : World} {K : PySem.W.Frag} {mg : Str → Option Value} {base : Heap} {k : Nat} {f : Addr} {fd : FuncData} {ps : List Str}
theorem FnG.badP : FnG P w K mg base k f fd ps (SpP K fun _ => none) := ⟨fun vs H Q E ⟨_, _, _, _, _, h, _⟩ => (by cases h), fun A o s H args us vs Q E _ _ _ _ _ ⟨_, _, _, _, _, h, _⟩ => (by cases h)⟩
theorem FnG.badF : FnG P w K mg base k f fd ps (SpF K fun _ => none) := ⟨fun vs H Q E ⟨_, _, _, _, _, h, _⟩ => (by cases h), fun A o s H args us vs Q E _ _ _ _ _ ⟨_, _, _, _, _, h, _⟩ => (by cases h)⟩
theorem FnG.badI : FnG P w K mg base k f fd ps (SpI K fun _ _ => none) := ⟨fun vs H Q E ⟨_, _, _, _, _, _, _, _, _, _, _, _, h, _⟩ => (by cases h), fun A o s H args us vs Q E _ _ _ _ _ ⟨_, _, _, _, _, _, _, _, _, _, _, _, h, _⟩ => (by cases h)⟩
end
end DL
/-! DL10: looks at owned things that are checked as they run; several targets, some of them new things. -/
namespace DL
open PySem PySem.Spec PyProof.Rows L2
/-! ### a look, checked -/
open Classical in
noncomputable def eFc (a : Ev) : Ev := fun ρ => match a (stillE ρ) with
  | some (d, ρ1) => if ρ1 = stillE ρ ∧ flatB d = true then some (d, ρ) else none
  | none => none
open Classical in
noncomputable def eFl (a : Ev) : Ev := fun ρ => match a (stillE ρ) with
  | some (.list ds, ρ1) => if ρ1 = stillE ρ ∧ flatBs ds = true then some (.list ds, ρ) else none
  | _ => none
open Classical in
noncomputable def qFc (a : Eq) : Eq := fun ρ => match a (stillE ρ) with
  | some (b, ρ1) => if ρ1 = stillE ρ then some (b, ρ) else none
  | none => none
section
variable {X : Cx} {K : PySem.W.Frag} {e : Expr} {a : Ev} {q : Eq}
theorem r_tfc (h : PT X e (tQ K q)) : PT X e (tQ K (qFc q)) := h.conv fun σ H Q ⟨Z, G, ρ, b, ρ', R, hq, k⟩ => by
  unfold qFc at hq
  split at hq
  · rename_i b' ρ1 q1
    split at hq
    · rename_i e1
      cases hq
      subst e1
      refine ⟨_, _, _, b, _, R.still, q1, fun G' H' ex R' => ?_⟩
      obtain ⟨R2, ex2⟩ := R.unstill R' ex
      exact k _ H' ex2 R2
    · cases hq
  · cases hq
theorem r_sfc (h : PE X e (tS K a)) : PE X e (tS K (eFc a)) := h.conv fun σ H Q ⟨Z, G, ρ, b, ρ', R, hq, k⟩ => by
  unfold eFc at hq
  split at hq
  · rename_i b' ρ1 q1
    split at hq
    · rename_i hf
      cases hq
      have e1 := hf.1
      subst e1
      refine ⟨_, _, _, b, _, R.still, q1, fun v G' H' ex R' dv => ?_⟩
      obtain ⟨R2, ex2⟩ := R.unstill R' ex
      exact k v _ H' ex2 R2 (dv.flat R (fun b o e => R'.h0 b o e fun z => z) R'.gh hf.2)
    · cases hq
  · cases hq
/-- a new list of flat data, made by a look -/
theorem r_sfl (h : PE X e (tF K a)) : PE X e (tF K (eFl a)) := h.conv fun σ H Q ⟨Z, G, ρ, b, ρ', R, hq, k⟩ => by
  unfold eFl at hq
  split at hq
  · rename_i ds ρ1 q1
    split at hq
    · rename_i hf
      cases hq
      have e1 := hf.1
      subst e1
      refine ⟨_, _, _, _, _, R.still, q1, fun p G' H' ex R' ga hz hn o => ?_⟩
      obtain ⟨R2, ex2⟩ := R.unstill R' ex
      have hz' : H p = none := hz
      refine k p _ H' ex2 R2 ?_ (R.znone hz') (R.notOwned hz') ?_
      · unfold backG
        split
        · rfl
        · exact ga
      · obtain ⟨vs, p1, z, p2⟩ := o
        exact ⟨vs, p1, z, p2.flat R (fun b o e => R'.h0 b o e fun z => z) R'.gh hf.2⟩
    · cases hq
  · cases hq
end
/-! ### several values, some of them new things -/
abbrev Em := En → Option (List (Bool × PyData) × En)
inductive Mx (K : PySem.W.Frag) (Z : Zn) (G H : Hp) (σ : L2.St) (ρ : En) : List V → List (Bool × PyData) → List Addr → Prop
  | nil : Mx K Z G H σ ρ [] [] []
  | cd {v : V} {vs : List V} {d : PyData} {ms : List (Bool × PyData)} {fs : List Addr} : Dr K G v d → Mx K Z G H σ ρ vs ms fs → Mx K Z G H σ ρ (v :: vs) ((false, d) :: ms) fs
  | cf {a : Addr} {vs : List V} {d : PyData} {ms : List (Bool × PyData)} {fs : List Addr} : G a = none → Z.H a = none → (∀ j, Owned ρ j → σ[j]? ≠ some (some (.ref a))) → OwnAt K G H a d → a ∉ fs →
      Mx K Z G H σ ρ vs ms fs → Mx K Z G H σ ρ (.ref a :: vs) ((true, d) :: ms) (a :: fs)
def tAsM (K : PySem.W.Frag) (φ : Em) : TA := fun σ H Q => ∃ Z G ρ ms ρ', SR K Z G H σ ρ ∧ φ ρ = some (ms, ρ') ∧ ∀ vs fs G' H', Ex G G' → SR K Z G' H' σ ρ' → Mx K Z G' H' σ ρ' vs ms fs → Q vs H'
def mN : Em := fun ρ => some ([], ρ)
def mC (fresh : Bool) (a : Ev) (r : Em) : Em := fun ρ => match a ρ with
  | some (x, ρ1) => (match r ρ1 with
    | some (xs, ρ2) => some ((fresh, x) :: xs, ρ2)
    | none => none)
  | none => none
theorem Mx.len {K : PySem.W.Frag} {Z : Zn} {G H : Hp} {σ : L2.St} {ρ : En} {vs : List V} {ms : List (Bool × PyData)} {fs : List Addr} (m : Mx K Z G H σ ρ vs ms fs) : vs.length = ms.length := by
  induction m with
  | nil => rfl
  | cd _ _ ih => exact congrArg (· + 1) ih
  | cf _ _ _ _ _ _ ih => exact congrArg (· + 1) ih
/-- values of a later time, told from an earlier one -/
theorem Mx.back {K : PySem.W.Frag} {Z : Zn} {G0 H0 G H : Hp} {σ : L2.St} {ρ0 ρ : En} {vs : List V} {ms : List (Bool × PyData)} {fs : List Addr} (R : SR K Z G0 H0 σ ρ0) (m : Mx K (snap Z G0 H0 σ ρ0) G H σ ρ vs ms fs) : Mx K Z G H σ ρ vs ms fs := by
  induction m with
  | nil => exact .nil
  | cd h _ ih => exact .cd h ih
  | cf h1 h2 h3 h4 h5 _ ih => exact .cf h1 (R.znone h2) h3 h4 h5 ih
theorem Mx.fresh_not {K : PySem.W.Frag} {Z : Zn} {G H : Hp} {σ : L2.St} {ρ : En} {vs : List V} {ms : List (Bool × PyData)} {fs : List Addr} {p : Addr} {o : HO} (m : Mx K Z G H σ ρ vs ms fs) (hz : Z.H p = some o) : p ∉ fs := by
  induction m with
  | nil => simp
  | cd h _ ih => exact ih
  | cf h1 h2 h3 h4 h5 _ ih =>
    intro hm
    rcases List.mem_cons.mp hm with e | e
    · subst e
      rw [hz] at h2; cases h2
    · exact ih e
section
variable {X : Cx} {K : PySem.W.Frag} {e : Expr} {es : List Expr} {a : Ev} {r : Em}
theorem rm_nil : PA X [] (tAsM K mN) := pa_nil.conv fun σ H Q ⟨Z, G, ρ, d, ρ', R, q, k⟩ => by
  cases q
  exact k [] [] G H (Ex.refl _) R .nil
theorem rm_D (h : PE X e (tS K a)) (hr : PA X es (tAsM K r)) (hs : starEach (e :: es) X.env = (false, eval e X.env) :: starEach es X.env := by rfl) : PA X (e :: es) (tAsM K (mC false a r)) :=
  (pa_cons h hr hs).conv fun σ H Q ⟨Z, G, ρ, d, ρ', R, q, k⟩ => by
    unfold mC at q
    split at q
    · rename_i x ρ1 qa
      split at q
      · rename_i xs ρ2 qb
        cases q
        refine ⟨Z, G, ρ, x, ρ1, R, qa, fun v G1 H1 ex1 R1 d1 => ?_⟩
        exact ⟨Z, G1, ρ1, xs, _, R1, qb, fun vs fs G2 H2 ex2 R2 d2 => k (v :: vs) fs G2 H2 (ex1.trans ex2) R2 (.cd (d1.mono ex2) d2)⟩
      · cases q
    · cases q
theorem rm_F (h : PE X e (tF K a)) (hr : PA X es (tAsM K r)) (hs : starEach (e :: es) X.env = (false, eval e X.env) :: starEach es X.env := by rfl) : PA X (e :: es) (tAsM K (mC true a r)) :=
  (pa_cons h hr hs).conv fun σ H Q ⟨Z, G, ρ, d, ρ', R, q, k⟩ => by
    unfold mC at q
    split at q
    · rename_i x ρ1 qa
      split at q
      · rename_i xs ρ2 qb
        cases q
        refine ⟨Z, G, ρ, x, ρ1, R, qa, fun p G1 H1 ex1 R1 ga hz hn o => ?_⟩
        refine ⟨snap Z G1 H1 σ ρ1, G1, ρ1, xs, _, R1.snap, qb, fun vs fs G2 H2 ex2 R2 d2 => ?_⟩
        obtain ⟨u, hu⟩ := o.some
        have nio : ¬ (snap Z G1 H1 σ ρ1).io p := fun ⟨i, oi, hi⟩ => hn i oi hi
        have e1 : H2 p = H1 p := (R2.h0 p u hu nio).trans hu.symm
        have g2 : G2 p = none := (R2.g0 p u hu).trans ga
        refine k (.ref p :: vs) (p :: fs) G2 H2 (ex1.trans ex2) (R1.back R2) (.cf g2 hz (fun j ⟨s, y, e2, q2⟩ z => ?_) (o.mono ex2 e1) (d2.fresh_not hu) (d2.back R1))
        obtain ⟨b, b1, _, _, b4⟩ := R2.own j s y e2 q2
        rw [z] at b1; cases b1
        rcases b4 with b4 | b4
        · exact nio b4
        · have b4' : H1 p = none := b4
          rw [hu] at b4'; cases b4'
      · cases q
    · cases q
/-- stored one behind the other -/
def setV : List Nat → List V → L2.St → L2.St
  | i :: is, v :: vs, σ => setV is vs (σ.set i (some v))
  | _, _, σ => σ
def setM : List Nat → List (Bool × PyData) → En → En
  | i :: is, (f, d) :: ms, ρ => setM is ms (ρ.set i (if f = true then .o d else .d d))
  | _, _, ρ => ρ
theorem owned_set {ρ : En} {σ : L2.St} {i : Nat} {s : Sl} {v : V} {a : Addr} (hl : ρ.length = σ.length) (h : ∀ j, Owned ρ j → σ[j]? ≠ some (some (.ref a))) (hi : s.own = none ∨ v ≠ .ref a) : ∀ j, Owned (ρ.set i s) j → (σ.set i (some v))[j]? ≠ some (some (.ref a)) := by
  intro j ⟨s2, x, e, q⟩ z
  rcases getElem?_set_cases e with ⟨rfl, w⟩ | ⟨ne, w⟩
  · subst w
    rcases hi with hi | hi
    · rw [hi] at q; cases q
    · rcases getElem?_set_cases z with ⟨_, w2⟩ | ⟨n2, _⟩
      · cases w2; exact hi rfl
      · exact n2 rfl
  · rw [List.getElem?_set_ne (Ne.symm ne)] at z
    exact h j ⟨s2, x, w, q⟩ z
theorem Mx.setD {Z : Zn} {G H : Hp} {σ : L2.St} {ρ : En} {vs : List V} {ms : List (Bool × PyData)} {fs : List Addr} {i : Nat} {s : Sl} {v : V} (hl : ρ.length = σ.length) (hi : s.own = none ∨ ∀ a ∈ fs, v ≠ .ref a) (m : Mx K Z G H σ ρ vs ms fs) : Mx K Z G H (σ.set i (some v)) (ρ.set i s) vs ms fs := by
  induction m with
  | nil => exact .nil
  | cd h _ ih => exact .cd h (ih hi)
  | cf h1 h2 h3 h4 h5 _ ih => exact .cf h1 h2 (owned_set hl h3 (hi.imp id fun w => w _ (List.mem_cons_self ..))) h4 h5 (ih (hi.imp id fun w b hb => w b (List.mem_cons_of_mem _ hb)))
theorem SR.setM {Z : Zn} {G H : Hp} : ∀ {is : List Nat} {vs : List V} {ms : List (Bool × PyData)} {fs : List Addr} {σ : L2.St} {ρ : En}, is.length = ms.length → SR K Z G H σ ρ → Mx K Z G H σ ρ vs ms fs → SR K Z G H (setV is vs σ) (setM is ms ρ)
  | [], _, _, _, _, _, hl, R, m => by
    cases m with
    | nil => exact R
    | cd _ _ => cases hl
    | cf _ _ _ _ _ _ => cases hl
  | i :: is, _, _, _, σ, ρ, hl, R, m => by
    cases m with
    | nil => cases hl
    | @cd v vs d ms fs h t =>
      have t2 := t.setD (i := i) (s := .d d) (v := v) R.len (.inl rfl)
      exact SR.setM (ρ := ρ.set i (.d d)) (by simpa using hl) (R.setD h) t2
    | @cf a vs d ms fs h1 h2 h3 h4 h5 t =>
      have t2 := t.setD (i := i) (s := .o d) (v := .ref a) R.len (.inr fun b hb z => h5 (by injection z with z; rw [z]; exact hb))
      exact SR.setM (ρ := ρ.set i (.o d)) (by simpa using hl) (R.setO h1 h2 h3 h4) t2
variable {fr : Bool} {st : Stmt} {m : Em} {i j l : Nat}
def sParM (is : List Nat) (m : Em) : Sv := fun ρ => match m ρ with
  | some (ms, ρ1) => if is.length = ms.length then some (.nx (setM is ms ρ1)) else none
  | none => none
theorem r_parM2 (h : PS X st (tPar i j (tAsM K m))) : PS X st (tT K fr (sParM [i, j] m)) := h.conv fun D σ H ⟨Z, G, ρ, w, zp, R, hq, k⟩ => by
  unfold sParM at hq
  split at hq
  · rename_i ms ρ1 qa
    split at hq
    · rename_i hl
      cases hq
      refine ⟨Z, G, ρ, _, ρ1, R, qa, fun vs fs G1 H1 ex R1 mx => ?_⟩
      have := mx.len
      match vs, this with
      | [u, v], _ => exact ⟨u, v, rfl, k _ G1 H1 ex (R1.setM hl mx)⟩
      | [], e => rw [← e] at hl; cases hl
      | [u], e => rw [← e] at hl; cases hl
      | _ :: _ :: _ :: _, e => rw [← e] at hl; simp at hl
    · cases hq
  · cases hq
theorem r_parM3 (h : PS X st (tPar3 i j l (tAsM K m))) : PS X st (tT K fr (sParM [i, j, l] m)) := h.conv fun D σ H ⟨Z, G, ρ, w, zp, R, hq, k⟩ => by
  unfold sParM at hq
  split at hq
  · rename_i ms ρ1 qa
    split at hq
    · rename_i hl
      cases hq
      refine ⟨Z, G, ρ, _, ρ1, R, qa, fun vs fs G1 H1 ex R1 mx => ?_⟩
      have := mx.len
      match vs, this with
      | [u, v, w], _ => exact ⟨u, v, w, rfl, k _ G1 H1 ex (R1.setM hl mx)⟩
      | [], e => rw [← e] at hl; cases hl
      | [u], e => rw [← e] at hl; cases hl
      | [u, v], e => rw [← e] at hl; cases hl
      | _ :: _ :: _ :: _ :: _, e => rw [← e] at hl; simp at hl
    · cases hq
  · cases hq
/-- by a pattern: cells among the names -/
def gNames : List Nat → TGs
  | [] => gNil
  | i :: is => gCons (gName i) (gNames is)
theorem gNames_of : ∀ {is : List Nat} {vs : List V} {σ : L2.St} {H : Hp} {Q : L2.St → Hp → Prop}, is.length = vs.length → Q (setV is vs σ) H → gNames is vs σ H Q
  | [], [], _, _, _, _, q => ⟨rfl, q⟩
  | i :: is, v :: vs, σ, H, Q, hl, q => ⟨v, vs, rfl, gNames_of (by simpa using hl) q⟩
theorem Mx.beside {Z : Zn} {G H : Hp} {σ : L2.St} {ρ : En} {vs : List V} {ms : List (Bool × PyData)} {fs : List Addr} {p : Addr} {u : HO} (hp : H p = none) (m : Mx K Z G H σ ρ vs ms fs) : Mx K Z G (upd H p u) σ ρ vs ms fs := by
  induction m with
  | nil => exact .nil
  | cd h _ ih => exact .cd h ih
  | cf h1 h2 h3 h4 h5 _ ih =>
    obtain ⟨w, hw⟩ := h4.some
    have ne : ∀ {b : Addr}, H b = some w → b ≠ p := fun hb z => by rw [z, hp] at hb; cases hb
    exact .cf h1 h2 h3 (h4.mono (Ex.refl _) (upd_ne (ne hw))) h5 ih
theorem r_parMC {is : List Nat} (hn : is.length ≤ 16777216) (h : PS X st (tAsg (tTup (tAsM K m)) (gTup K is.length (gNames is)))) : PS X st (tT K fr (sParM is m)) := h.conv fun D σ H ⟨Z, G, ρ, w, zp, R, hq, k⟩ => by
  unfold sParM at hq
  split at hq
  · rename_i ms ρ1 qa
    split at hq
    · rename_i hl
      cases hq
      refine ⟨Z, G, ρ, _, ρ1, R, qa, fun vs fs G1 H1 ex R1 mx => ?_⟩
      have hv := mx.len
      refine ⟨by rw [hv, ← hl, sizeLine_eq]; exact hn, fun p hp => ?_⟩
      refine ⟨p, vs, rfl, .inl (.inl upd_same), hv.trans hl.symm, gNames_of (hl.trans hv.symm) ?_⟩
      exact k _ G1 _ ex ((R1.beside hp).setM hl (mx.beside hp))
    · cases hq
  · cases hq
end
end DL
/-! DL11: dicts, sorted, isinstance, chains. -/
namespace DL
open PySem PySem.Spec PyProof.Rows L2
/-! ### dicts -/
def keyD : PyData → Option Key
  | .int i => some (.inl i)
  | .str x => some (.inr x)
  | _ => none
theorem keyD_kD (k : Key) : keyD (kD k) = some k := by cases k <;> rfl
def getK : List (PyData × PyData) → Key → Option PyData
  | [], _ => none
  | (a, b) :: r, k => if keyD a = some k then some b else getK r k
def putD (ps : List (PyData × PyData)) (k : Key) (d : PyData) : List (PyData × PyData) :=
  if (getK ps k).isSome = true then ps.map fun p => if keyD p.1 = some k then (p.1, d) else p else ps ++ [(kD k, d)]
section
variable {K : PySem.W.Frag} {G H : Hp}
theorem keyV {y : V} {x : PyData} {k : Key} (h : Dr K G y x) (e : keyD x = some k) : y = kV k := by
  unfold keyD at e
  split at e
  · cases e; cases h; rfl
  · cases e; cases h; rfl
  · cases e
theorem getK_none : ∀ {kvs : List (Key × V)} {ps : List (PyData × PyData)} {k : Key}, DrKv K G kvs ps → getK ps k = none → valV kvs k = none
  | _, _, k, .nil, _ => valV_nil
  | _, _, k, .cons (k := k') h t, q => by
    unfold getK at q
    rw [keyD_kD] at q
    split at q
    · cases q
    · rename_i n
      rw [valV_neg (fun z => n (by rw [← z]))]
      exact getK_none t q
theorem getK_some : ∀ {kvs : List (Key × V)} {ps : List (PyData × PyData)} {k : Key} {d : PyData}, DrKv K G kvs ps → getK ps k = some d → ∃ v, valV kvs k = some v ∧ Dr K G v d
  | _, _, k, d, .nil, q => by cases q
  | _, _, k, d, .cons (k := k') h t, q => by
    unfold getK at q
    rw [keyD_kD] at q
    split at q
    · rename_i n
      cases q
      exact ⟨_, valV_pos (Option.some.inj n), h⟩
    · rename_i n
      rw [valV_neg (fun z => n (by rw [← z]))]
      exact getK_some t q
theorem drkv_append {kvs : List (Key × V)} {ps : List (PyData × PyData)} {k : Key} {v : V} {d : PyData} (r : Dr K G v d) : DrKv K G kvs ps → DrKv K G (kvs ++ [(k, v)]) (ps ++ [(kD k, d)])
  | .nil => .cons r .nil
  | .cons h t => .cons h (drkv_append r t)
theorem drkv_map {k : Key} {v : V} {d : PyData} (r : Dr K G v d) : ∀ {kvs : List (Key × V)} {ps : List (PyData × PyData)}, DrKv K G kvs ps → DrKv K G (kvs.map fun kv => if kv.1 = k then (kv.1, v) else kv) (ps.map fun p => if keyD p.1 = some k then (p.1, d) else p)
  | _, _, .nil => .nil
  | _, _, .cons (k := k') h t => by
    simp only [List.map_cons, keyD_kD]
    by_cases e : k' = k
    · rw [if_pos e, if_pos (by rw [e])]
      exact .cons r (drkv_map r t)
    · rw [if_neg e, if_neg (fun z => e (Option.some.inj z))]
      exact .cons h (drkv_map r t)
theorem drkv_put {kvs : List (Key × V)} {ps : List (PyData × PyData)} {k : Key} {v : V} {d : PyData} (t : DrKv K G kvs ps) (r : Dr K G v d) : DrKv K G (putK kvs k v) (putD ps k d) := by
  unfold putK putD
  rw [valV_any]
  cases e : getK ps k with
  | none =>
    rw [getK_none t e, if_neg (by simp), if_neg (by simp)]
    exact drkv_append r t
  | some d' =>
    obtain ⟨v', e', _⟩ := getK_some t e
    rw [e', if_pos (by rfl), if_pos (by rfl)]
    exact drkv_map r t
theorem putK_len {kvs : List (Key × V)} {k : Key} {v : V} (h : kvs.length < sizeLine) : (putK kvs k v).length ≤ sizeLine := by
  unfold putK
  split
  · rw [List.length_map]; omega
  · rw [List.length_append, List.length_singleton]; omega
end
def dgetD (x k : PyData) : Option PyData := match x with
  | .dict ps => (keyD k).bind (getK ps)
  | _ => none
def ixX (x k : PyData) : Option PyData := match x with
  | .dict ps => (keyD k).bind (getK ps)
  | _ => ixD x k
section
variable {X : Cx} {ea eb : Expr} {a b : Ev} {pos : Pos}
theorem dr_dict {K : PySem.W.Frag} {G H : Hp} {v : V} {ps : List (PyData × PyData)} (h : Dr K G v (.dict ps)) (e : Ex G H) : ∃ p kvs, v = .ref p ∧ Rd H p (.dK kvs) ∧ DrKv K G kvs ps ∧ kvs.length ≤ sizeLine := by
  cases h with
  | dk h1 z t => exact ⟨_, _, rfl, e.rd h1, t, z⟩
theorem r_dget (hu : X.A.units + 1 < cLine) (h1 : PE X ea (tS X.K a)) (h2 : PE X eb (tS X.K b)) (hs : NoSl eb := by intro _ _; rfl) : PE X (.Subscript ea eb pos) (tS X.K (e2 dgetD a b)) :=
  (pe_dget hu h1 h2 hs).conv fun σ H Q h => by
    obtain ⟨Z, G, ρ, d, ρ', R, q, k⟩ := h
    unfold e2 at q
    split at q
    · rename_i x ρ1 qa
      split at q
      · rename_i y ρ2 qb
        split at q
        · rename_i d' qf
          cases q
          refine ⟨Z, G, ρ, x, ρ1, R, qa, fun v G1 H1 ex1 R1 d1 => ?_⟩
          refine ⟨Z, G1, ρ1, y, _, R1, qb, fun u G2 H2 ex2 R2 d2 => ?_⟩
          unfold dgetD at qf
          split at qf
          · rename_i ps
            obtain ⟨p, kvs, rfl, hr, t, _⟩ := dr_dict (d1.mono ex2) R2.gh
            cases e : keyD y with
            | none => rw [e] at qf; cases qf
            | some ky =>
              rw [e] at qf
              have hy := keyV d2 e
              obtain ⟨w, hw, dw⟩ := getK_some t qf
              exact ⟨p, w, rfl, .inl ⟨kvs, ky, hr, hy, hw.symm⟩, k w _ H2 (ex1.trans ex2) R2 dw⟩
          · cases qf
        · cases q
      · cases q
    · cases q
theorem r_ixX {K' : PySem.W.Frag} (h : PE X (.Subscript ea eb pos) (tS X.K (e2 ixD a b))) (h' : PE X (.Subscript ea eb pos) (tS X.K (e2 dgetD a b))) : PE X (.Subscript ea eb pos) (tS X.K (e2 ixX a b)) := (h.alt h').conv fun σ H Q h => by
  obtain ⟨Z, G, ρ, d, ρ', R, q, k⟩ := h
  unfold e2 at q
  split at q
  · rename_i x ρ1 qa
    split at q
    · rename_i y ρ2 qb
      split at q
      · rename_i d' qf
        cases q
        unfold ixX at qf
        split at qf
        · refine .inr ⟨Z, G, ρ, _, _, R, ?_, k⟩
          unfold e2
          rw [qa]
          simp only [qb]
          unfold dgetD
          simp only [qf]
        · refine .inl ⟨Z, G, ρ, _, _, R, ?_, k⟩
          unfold e2
          rw [qa]
          simp only [qb, qf]
      · cases q
    · cases q
  · cases q
/-- k in d, beside k in xs -/
def dinD (y x : PyData) : Option PyData := match x with
  | .dict ps => (keyD y).map fun k => .bool (getK ps k).isSome
  | _ => none
def dninD (y x : PyData) : Option PyData := match x with
  | .dict ps => (keyD y).map fun k => .bool (!(getK ps k).isSome)
  | _ => none
def inX (y x : PyData) : Option PyData := match x with
  | .dict ps => (keyD y).map fun k => .bool (getK ps k).isSome
  | _ => inD y x
def ninX (y x : PyData) : Option PyData := match x with
  | .dict ps => (keyD y).map fun k => .bool (!(getK ps k).isSome)
  | _ => ninD y x
theorem getK_iff {K : PySem.W.Frag} {G : Hp} {kvs : List (Key × V)} {ps : List (PyData × PyData)} {k : Key} (t : DrKv K G kvs ps) : (valV kvs k).isSome = (getK ps k).isSome := by
  cases e : getK ps k with
  | none => rw [getK_none t e]; rfl
  | some d => obtain ⟨v, e', _⟩ := getK_some t e; rw [e']; rfl
theorem t_din {σ : L2.St} {H : Hp} {Q : VK} (h : tS X.K (e2 dinD a b) σ H Q) : tDIn (tS X.K a) (tS X.K b) σ H Q := by
    obtain ⟨Z, G, ρ, d, ρ', R, q, k⟩ := h
    unfold e2 at q
    split at q
    · rename_i x ρ1 qa
      split at q
      · rename_i y ρ2 qb
        split at q
        · rename_i d' qf
          cases q
          refine ⟨Z, G, ρ, x, ρ1, R, qa, fun v G1 H1 ex1 R1 d1 => ?_⟩
          refine ⟨Z, G1, ρ1, y, _, R1, qb, fun u G2 H2 ex2 R2 d2 => ?_⟩
          unfold dinD at qf
          split at qf
          · rename_i ps
            obtain ⟨p, kvs, rfl, hr, t, _⟩ := dr_dict d2 R2.gh
            cases e : keyD x with
            | none => rw [e] at qf; cases qf
            | some ky =>
              rw [e] at qf
              cases qf
              have hy := keyV (d1.mono ex2) e
              refine ⟨p, valV kvs ky, rfl, .inl ⟨kvs, ky, hr, hy, rfl⟩, ?_⟩
              rw [getK_iff t]
              exact k _ _ H2 (ex1.trans ex2) R2 (.bl _)
          · cases qf
        · cases q
      · cases q
    · cases q
theorem r_din (hu : X.A.units + 1 < cLine) (h1 : PE X ea (tS X.K a)) (h2 : PE X eb (tS X.K b)) (hm : behindInMarks .In eb = false := by rfl) : PE X (.Compare ea [.In] [eb] pos) (tS X.K (e2 dinD a b)) :=
  (pe_cmp (pc_din hu h1 h2) hm).conv fun _ _ _ h => t_din h
theorem r_tdin (hu : X.A.units + 1 < cLine) (h1 : PE X ea (tS X.K a)) (h2 : PE X eb (tS X.K b)) (hm : behindInMarks .In eb = false := by rfl) : PT X (.Compare ea [.In] [eb] pos) (tQ X.K (qB (e2 dinD a b))) :=
  (pt_cmp (pc_din hu h1 h2) hm).conv fun _ _ _ h => t_din (tS_bool h)
theorem t_dnin {σ : L2.St} {H : Hp} {Q : VK} (h : tS X.K (e2 dninD a b) σ H Q) : tDNotIn (tS X.K a) (tS X.K b) σ H Q := by
    obtain ⟨Z, G, ρ, d, ρ', R, q, k⟩ := h
    unfold e2 at q
    split at q
    · rename_i x ρ1 qa
      split at q
      · rename_i y ρ2 qb
        split at q
        · rename_i d' qf
          cases q
          refine ⟨Z, G, ρ, x, ρ1, R, qa, fun v G1 H1 ex1 R1 d1 => ?_⟩
          refine ⟨Z, G1, ρ1, y, _, R1, qb, fun u G2 H2 ex2 R2 d2 => ?_⟩
          unfold dninD at qf
          split at qf
          · rename_i ps
            obtain ⟨p, kvs, rfl, hr, t, _⟩ := dr_dict d2 R2.gh
            cases e : keyD x with
            | none => rw [e] at qf; cases qf
            | some ky =>
              rw [e] at qf
              cases qf
              have hy := keyV (d1.mono ex2) e
              refine ⟨p, valV kvs ky, rfl, .inl ⟨kvs, ky, hr, hy, rfl⟩, ?_⟩
              rw [getK_iff t]
              exact k _ _ H2 (ex1.trans ex2) R2 (.bl _)
          · cases qf
        · cases q
      · cases q
    · cases q
theorem r_dnin (hu : X.A.units + 1 < cLine) (h1 : PE X ea (tS X.K a)) (h2 : PE X eb (tS X.K b)) (hm : behindInMarks .NotIn eb = false := by rfl) : PE X (.Compare ea [.NotIn] [eb] pos) (tS X.K (e2 dninD a b)) :=
  (pe_cmp (pc_dnotin hu h1 h2) hm).conv fun _ _ _ h => t_dnin h
theorem r_tdnin (hu : X.A.units + 1 < cLine) (h1 : PE X ea (tS X.K a)) (h2 : PE X eb (tS X.K b)) (hm : behindInMarks .NotIn eb = false := by rfl) : PT X (.Compare ea [.NotIn] [eb] pos) (tQ X.K (qB (e2 dninD a b))) :=
  (pt_cmp (pc_dnotin hu h1 h2) hm).conv fun _ _ _ h => t_dnin (tS_bool h)
theorem t_orD {f g h : PyData → PyData → Option PyData} {t : TE} {σ : L2.St} {H : Hp} {Q : VK} {K : PySem.W.Frag} (w : ∀ x y d, h x y = some d → f x y = some d ∨ g x y = some d) (q : tS K (e2 h a b) σ H Q) : tS K (e2 f a b) σ H Q ∨ tS K (e2 g a b) σ H Q := by
  obtain ⟨Z, G, ρ, d, ρ', R, q, k⟩ := q
  unfold e2 at q
  split at q
  · rename_i x ρ1 qa
    split at q
    · rename_i y ρ2 qb
      split at q
      · rename_i d' qf
        cases q
        rcases w _ _ _ qf with c | c
        · refine .inl ⟨Z, G, ρ, _, _, R, ?_, k⟩
          unfold e2
          rw [qa]
          simp only [qb, c]
        · refine .inr ⟨Z, G, ρ, _, _, R, ?_, k⟩
          unfold e2
          rw [qa]
          simp only [qb, c]
      · cases q
    · cases q
  · cases q
theorem _root_.L2.PT.alt {e : Expr} {t t' : TT} (h : PT X e t) (h' : PT X e t') : PT X e (fun σ H Q => t σ H Q ∨ t' σ H Q) := ⟨fun pins s σ H Q I q => q.elim (h.run pins s σ H Q I) (h'.run pins s σ H Q I)⟩
theorem q_orD {f g h : PyData → PyData → Option PyData} {σ : L2.St} {H : Hp} {Q : Bool → Hp → Prop} {K : PySem.W.Frag} (w : ∀ x y d, h x y = some d → f x y = some d ∨ g x y = some d) (q : tQ K (qB (e2 h a b)) σ H Q) : tQ K (qB (e2 f a b)) σ H Q ∨ tQ K (qB (e2 g a b)) σ H Q := by
  obtain ⟨Z, G, ρ, d, ρ', R, q, k⟩ := q
  unfold qB e2 at q
  split at q
  · rename_i qq
    cases q
    split at qq
    · rename_i x ρ1 qa
      split at qq
      · rename_i y ρ2 qb
        split at qq
        · rename_i d' qf
          cases qq
          rcases w _ _ _ qf with c | c
          · refine .inl ⟨Z, G, ρ, _, _, R, ?_, k⟩
            unfold qB e2
            rw [qa]
            simp only [qb, c]
          · refine .inr ⟨Z, G, ρ, _, _, R, ?_, k⟩
            unfold qB e2
            rw [qa]
            simp only [qb, c]
        · cases qq
      · cases qq
    · cases qq
  · cases q
theorem r_inX {e : Expr} (h : PE X e (tS X.K (e2 inD a b))) (h' : PE X e (tS X.K (e2 dinD a b))) : PE X e (tS X.K (e2 inX a b)) := (h.alt h').conv fun σ H Q q => t_orD (t := tS X.K a) (fun x y d z => by
  unfold inX at z
  split at z
  · exact .inr z
  · exact .inl z) q
theorem r_ninX {e : Expr} (h : PE X e (tS X.K (e2 ninD a b))) (h' : PE X e (tS X.K (e2 dninD a b))) : PE X e (tS X.K (e2 ninX a b)) := (h.alt h').conv fun σ H Q q => t_orD (t := tS X.K a) (fun x y d z => by
  unfold ninX at z
  split at z
  · exact .inr z
  · exact .inl z) q
theorem r_tinX {e : Expr} (h : PT X e (tQ X.K (qB (e2 inD a b)))) (h' : PT X e (tQ X.K (qB (e2 dinD a b)))) : PT X e (tQ X.K (qB (e2 inX a b))) := (h.alt h').conv fun σ H Q q => q_orD (fun x y d z => by
  unfold inX at z
  split at z
  · exact .inr z
  · exact .inl z) q
theorem r_tninX {e : Expr} (h : PT X e (tQ X.K (qB (e2 ninD a b)))) (h' : PT X e (tQ X.K (qB (e2 dninD a b)))) : PT X e (tQ X.K (qB (e2 ninX a b))) := (h.alt h').conv fun σ H Q q => q_orD (fun x y d z => by
  unfold ninX at z
  split at z
  · exact .inr z
  · exact .inl z) q
end
end DL
/-! DL12: stores into dicts, get, len, sorted, isinstance, chains. -/
namespace DL
open PySem PySem.Spec PyProof.Rows L2
section
variable {X : Cx} {K : PySem.W.Frag} {e ea eb ec : Expr} {a b c ix : Ev} {pos : Pos} {st : Stmt} {i : Nat} {fr : Bool}
theorem _root_.L2.PS.alt {t t' : TS} (h : PS X st t) (h' : PS X st t') : PS X st (fun D σ H => t D σ H ∨ t' D σ H) := ⟨fun pins s σ H D I q => q.elim (h.run pins s σ H D I) (h'.run pins s σ H D I)⟩
def setXD (x k d : PyData) : Option PyData := match x with
  | .dict ps => (match keyD k with
    | some ky => if ps.length < 16777216 then some (.dict (putD ps ky d)) else none
    | none => none)
  | x => setLD x k d
def sSetX (i : Nat) (ix a : Ev) : Sv := fun ρ => match a ρ with
  | some (d, ρ1) => (match ρ1[i]? with
    | some s0 => (match s0.own with
      | some _ => (match ix ρ1 with
        | some (k, ρ2) => (match ρ2[i]? with
          | some s => (match s.own with
            | some x => (match setXD x k d with
              | some y => some (.nx (ρ2.set i (s.put y)))
              | none => none)
            | none => none)
          | none => none)
        | none => none)
      | none => none)
    | none => none)
  | none => none
theorem r_setX (h : PS X st (tAsg (tS K a) (gSub (tVar i) (tS K ix) rSetL))) (h' : PS X st (sDPut (tVar i) (tS K ix) (tS K a))) : PS X st (tT K fr (sSetX i ix a)) := (h.alt h').conv fun D σ H ⟨Z, G, ρ, w, zp, R, q, k⟩ => by
  unfold sSetX at q
  split at q
  · rename_i d ρ1 qa
    split at q
    · rename_i s0 e0
      split at q
      · rename_i x0 o0
        split at q
        · rename_i kd ρ2 qi
          split at q
          · rename_i s es
            split at q
            · rename_i x ox
              split at q
              · rename_i y qs
                cases q
                unfold setXD at qs
                split at qs
                · rename_i ps
                  split at qs
                  · rename_i ky ek
                    split at qs
                    · rename_i hl
                      cases qs
                      refine .inr ⟨Z, G, ρ, d, ρ1, R, qa, fun v G1 H1 ex1 R1 dv => ?_⟩
                      obtain ⟨p, hp, _⟩ := R1.own i s0 x0 e0 o0
                      refine ⟨.ref p, hp, Z, G1, ρ1, kd, ρ2, R1, qi, fun u G2 H2 ex2 R2 du => ?_⟩
                      obtain ⟨p', hp', g1, o2, _⟩ := R2.own i s (.dict ps) es ox
                      rw [hp] at hp'; cases hp'
                      obtain ⟨kvs, hv, z, da⟩ := o2
                      have hu := keyV du ek
                      have hl' : kvs.length < sizeLine := by rw [drkv_len da, sizeLine_eq]; exact hl
                      refine ⟨p, _, rfl, .inl ⟨kvs, ky, hv, hu, hl', rfl⟩, ?_⟩
                      exact k σ G2 _ (ex1.trans ex2) (R2.mut es ox hp ⟨_, upd_same, putK_len hl', drkv_put da (dv.mono ex2)⟩)
                    · cases qs
                  · cases qs
                · refine .inl ⟨Z, G, ρ, d, ρ1, R, qa, fun v G1 H1 ex1 R1 dv => ?_⟩
                  obtain ⟨p, hp, _⟩ := R1.own i s0 x0 e0 o0
                  refine ⟨.ref p, hp, Z, G1, ρ1, kd, ρ2, R1, qi, fun u G2 H2 ex2 R2 du => ?_⟩
                  obtain ⟨p', hp', g1, o2, _⟩ := R2.own i s x es ox
                  rw [hp] at hp'; cases hp'
                  unfold setLD at qs
                  split at qs
                  · rename_i xs n _
                    split at qs
                    · rename_i j hj
                      cases qs
                      cases du
                      obtain ⟨vs, hv, z, da⟩ := o2
                      exact ⟨p, vs, n, j, rfl, rfl, hv, by rw [da.len]; exact hj, k σ G2 _ (ex1.trans ex2) (R2.mut es ox hp ⟨_, upd_same, by rw [List.length_set]; exact z, da.set (dv.mono ex2) j⟩)⟩
                    · cases qs
                  · cases qs
              · cases q
            · cases q
          · cases q
        · cases q
      · cases q
    · cases q
  · cases q
/-- {} -/
theorem r_dict0 (h : PE X e tDNewK) : PE X e (tF K (eC (.dict []))) := h.conv fun σ H Q ⟨Z, G, ρ, d, ρ', R, q, k⟩ => by
  cases q
  exact fun p hp => fr1_of R (fun a G' H' ex => k a G' H' ex) p _ hp ⟨[], upd_same, Nat.zero_le _, .nil⟩
/-- d.get(k, x) -/
def get2D (x k z : PyData) : Option PyData := match x with
  | .dict ps => (keyD k).map fun ky => (getK ps ky).getD z
  | _ => none
def e3 (f : PyData → PyData → PyData → Option PyData) (a b c : Ev) : Ev := fun ρ => match a ρ with
  | some (x, ρ1) => (match b ρ1 with
    | some (y, ρ2) => (match c ρ2 with
      | some (z, ρ3) => (match f x y z with
        | some d => some (d, ρ3)
        | none => none)
      | none => none)
    | none => none)
  | none => none
theorem r_get2 (h : PE X e (tDGet2 (tS K a) (tS K b) (tS K c))) : PE X e (tS K (e3 get2D a b c)) := h.conv fun σ H Q ⟨Z, G, ρ, d, ρ', R, q, k⟩ => by
  unfold e3 at q
  split at q
  · rename_i x ρ1 qa
    split at q
    · rename_i y ρ2 qb
      split at q
      · rename_i z ρ3 qc
        split at q
        · rename_i d' qf
          cases q
          unfold get2D at qf
          split at qf
          · rename_i ps
            refine ⟨Z, G, ρ, _, ρ1, R, qa, fun v G1 H1 ex1 R1 d1 => ?_⟩
            obtain ⟨p, kvs, rfl, hr1, t1, _⟩ := dr_dict d1 R1.gh
            refine ⟨p, rfl, .inl ⟨kvs, hr1⟩, Z, G1, ρ1, y, ρ2, R1, qb, fun u G2 H2 ex2 R2 d2 => ?_⟩
            refine ⟨Z, G2, ρ2, z, _, R2, qc, fun w G3 H3 ex3 R3 d3 => ?_⟩
            obtain ⟨p', kvs', hp, hr, t, _⟩ := dr_dict (d1.mono (ex2.trans ex3)) R3.gh
            cases hp
            cases ey : keyD y with
            | none => rw [ey] at qf; cases qf
            | some ky =>
              rw [ey] at qf
              cases qf
              have hy := keyV (d2.mono ex3) ey
              refine ⟨valV kvs' ky, .inl ⟨kvs', ky, hr, hy, rfl⟩, ?_⟩
              refine k _ G3 H3 ((ex1.trans ex2).trans ex3) R3 ?_
              show Dr K G3 ((valV kvs' ky).getD w) ((getK ps ky).getD z)
              cases eg : getK ps ky with
              | none => rw [getK_none t eg]; exact d3
              | some d4 => obtain ⟨w', hw, dw⟩ := getK_some t eg; rw [hw]; exact dw
          · cases qf
        · cases q
      · cases q
    · cases q
  · cases q
/-- chains -/
def eChain (f g : PyData → PyData → Option PyData) (a b c : Ev) : Ev := fun ρ => match a ρ with
  | some (x, ρ1) => (match b ρ1 with
    | some (y, ρ2) => (match f x y with
      | some (.bool true) => (match c ρ2 with
        | some (z, ρ3) => (match g y z with
          | some d => some (d, ρ3)
          | none => none)
        | none => none)
      | some (.bool false) => some (.bool false, ρ2)
      | _ => none)
    | none => none)
  | none => none
theorem t_chain {r r' : R2} {f g : PyData → PyData → Option PyData} (hf : Prim2 K f r) (hg : Prim2 K g r') {σ : L2.St} {H : Hp} {Q : VK} (h : tS K (eChain f g a b c) σ H Q) : tChain r r' (tS K a) (tS K b) (tS K c) σ H Q := by
  obtain ⟨Z, G, ρ, d, ρ', R, q, k⟩ := h
  unfold eChain at q
  split at q
  · rename_i x ρ1 qa
    split at q
    · rename_i y ρ2 qb
      split at q
      · rename_i qf
        split at q
        · rename_i z ρ3 qc
          split at q
          · rename_i d' qg
            cases q
            refine ⟨Z, G, ρ, x, ρ1, R, qa, fun v G1 H1 ex1 R1 d1 => ?_⟩
            refine ⟨Z, G1, ρ1, y, _, R1, qb, fun u G2 H2 ex2 R2 d2 => ?_⟩
            refine hf G2 H2 v u x y _ R2.gh (d1.mono ex2) d2 qf _ fun w G3 H3 al dw => ?_
            cases dw
            refine ⟨true, rfl, iteT ?_⟩
            refine ⟨Z, G3, ρ2, z, _, R2.al al, qc, fun w4 G4 H4 ex4 R4 d4 => ?_⟩
            refine hg G4 H4 u w4 y z _ R4.gh (d2.mono ((al.ex R2.gh).1.trans ex4)) d4 qg Q fun w5 G5 H5 al5 d5 => ?_
            exact k w5 G5 H5 ((((ex1.trans ex2).trans (al.ex R2.gh).1).trans ex4).trans (al5.ex R4.gh).1) (R4.al al5) d5
          · cases q
        · cases q
      · rename_i qf
        cases q
        refine ⟨Z, G, ρ, x, ρ1, R, qa, fun v G1 H1 ex1 R1 d1 => ?_⟩
        refine ⟨Z, G1, ρ1, y, _, R1, qb, fun u G2 H2 ex2 R2 d2 => ?_⟩
        refine hf G2 H2 v u x y _ R2.gh (d1.mono ex2) d2 qf _ fun w G3 H3 al dw => ?_
        cases dw
        refine ⟨false, rfl, iteF ?_⟩
        exact k _ G3 H3 ((ex1.trans ex2).trans (al.ex R2.gh).1) (R2.al al) (.bl false)
      · cases q
    · cases q
  · cases q
theorem r_chain {op op' : CmpOp} {r r' : R2} {f g : PyData → PyData → Option PyData} (ho : OpR X (compareOp op) r) (hf : Prim2 K f r) (ho' : OpR X (compareOp op') r') (hg : Prim2 K g r') (h1 : PE X ea (tS K a)) (h2 : PE X eb (tS K b)) (h3 : PE X ec (tS K c))
    (hm : lastMarks [op, op'] [eb, ec] = false := by with_unfolding_all rfl) : PE X (.Compare ea [op, op'] [eb, ec] pos) (tS K (eChain f g a b c)) := (pe_chain ho ho' h1 h2 h3 hm).conv fun _ _ _ h => t_chain hf hg h
theorem r_tchain {op op' : CmpOp} {r r' : R2} {f g : PyData → PyData → Option PyData} (ho : OpR X (compareOp op) r) (hf : Prim2 K f r) (ho' : OpR X (compareOp op') r') (hg : Prim2 K g r') (h1 : PE X ea (tS K a)) (h2 : PE X eb (tS K b)) (h3 : PE X ec (tS K c))
    (hm : lastMarks [op, op'] [eb, ec] = false := by with_unfolding_all rfl) : PT X (.Compare ea [op, op'] [eb, ec] pos) (tQ K (qB (eChain f g a b c))) := (pt_chain ho ho' h1 h2 h3 hm).conv fun _ _ _ h => t_chain hf hg (tS_bool h)
end
end DL
/-! DL13: sorted, len, isinstance. -/
namespace DL
open PySem PySem.Spec PyProof.Rows L2
def rSortX (K : PySem.W.Frag) : List V → Hp → VK → Prop := fun vs H Q => ∃ (a : Addr) (ps : List (V × PyData)), vs = [.ref a] ∧ SqL K H a (ps.map (·.1)) ∧ (∀ p ∈ ps, Dp K H p.1 p.2) ∧ PySem.W.AllAlike (ps.map (·.2)) ∧ PySem.W.Sortable (ps.map (·.2)) ∧ (∀ p ∈ ps, p.2.depth ≤ 60) ∧
  ∀ l, H l = none → Q (.ref l) (upd H l (.lst ((ps.mergeSort (PySem.W.dataLe false fun p => p.2)).map (·.1))))
theorem each_rel : ∀ {ps : List (V × PyData)} {us : List Value}, Vals (ps.map (·.1)) us → PySem.W.EachIs (fun v (p : V × PyData) => RelV p.1 v) us ps
  | [], us, r => by
    cases us with
    | nil => exact .nil
    | cons u us => cases r
  | p :: ps, us, r => by
    cases us with
    | nil => cases r
    | cons u us =>
      cases r with
      | cons h t => exact .cons h (each_rel t)
theorem rel_each : ∀ {ps : List (V × PyData)} {us : List Value}, PySem.W.EachIs (fun v (p : V × PyData) => RelV p.1 v) us ps → Vals (ps.map (·.1)) us
  | _, _, .nil => .nil
  | _, _, .cons h t => .cons h (rel_each t)
theorem each_mem' {P : V × PyData → Prop} : ∀ {ps : List (V × PyData)} {us : List Value}, PySem.W.EachIs (fun v (p : V × PyData) => RelV p.1 v) us ps → (∀ p ∈ ps, P p) → PySem.W.EachIs (fun v (p : V × PyData) => RelV p.1 v ∧ P p) us ps
  | _, _, .nil, _ => .nil
  | _, _, .cons h t, q => .cons ⟨h, q _ (List.mem_cons_self ..)⟩ (each_mem' t fun p hp => q p (List.mem_cons_of_mem _ hp))
theorem cr_sortX {X : Cx} (hu : X.A.units + 64 < cLine) : CallR X (.builtin "sorted") (rSortX X.K) := by
  intro pins s σ H vs us Q I r h
  obtain ⟨a, ps, rfl, hs, hd, hal, hso, hdp, q⟩ := h
  obtain ⟨its, rv, hl, hz⟩ := I.list hs
  rw [Vals.ref1 r]
  have e := each_rel rv
  rw [List.length_map] at hz
  refine PySem.W.sorted_data (enc := fun p : V × PyData => p.2) hl.isList e ((each_mem' (P := fun p => Dp X.K H p.1 p.2) e hd).mono fun v p w => Dp.reads I p.2 p.1 v w.2 w.1) hal hso hz (fun p hp => by have := hdp p hp; omega) fun out ho he => ?_
  obtain ⟨ep, he'⟩ := PyProof.Rows.sortedAll_at s.heap its out.toArray
  refine ⟨.ref _, upd H (s.heap.objs.size + 1) (.lst ((ps.mergeSort (PySem.W.dataLe false fun p => p.2)).map (·.1))), I.laid (t' := s.toks) (fun _ _ => PyProof.Rows.sortedAll_old) (Nat.le_succ _) ⟨?_, out, ep, rel_each he, he'⟩, rfl, q _ (I.hok.fresh (Nat.le_succ _))⟩
  rw [List.length_map, List.length_mergeSort]
  exact hz
def SortOk (ds : List PyData) : Prop := PySem.W.AllAlike ds ∧ PySem.W.Sortable ds ∧ ∀ d ∈ ds, d.depth ≤ 60 ∧ d.hasDict = false
open Classical in
noncomputable def sortD : PyData → Option PyData
  | .list ds => if SortOk ds then some (.list (ds.mergeSort (PySem.W.dataLe false fun d => d))) else none
  | _ => none
theorem zip_of {K : PySem.W.Frag} {G : Hp} : ∀ {vs : List V} {ds : List PyData}, DrAll K G vs ds → ∃ ps : List (V × PyData), vs = ps.map (·.1) ∧ ds = ps.map (·.2) ∧ ∀ p ∈ ps, Dr K G p.1 p.2
  | _, _, .nil => ⟨[], rfl, rfl, fun _ h => nomatch h⟩
  | _, _, .cons h t => by
    obtain ⟨ps, e1, e2, e3⟩ := zip_of t
    refine ⟨(_, _) :: ps, by rw [e1]; rfl, by rw [e2]; rfl, fun p hp => ?_⟩
    rcases List.mem_cons.mp hp with rfl | hp
    · exact h
    · exact e3 p hp
theorem all_of {K : PySem.W.Frag} {G : Hp} : ∀ {ps : List (V × PyData)}, (∀ p ∈ ps, Dr K G p.1 p.2) → DrAll K G (ps.map (·.1)) (ps.map (·.2))
  | [], _ => .nil
  | p :: ps, h => .cons (h p (List.mem_cons_self ..)) (all_of fun q hq => h q (List.mem_cons_of_mem _ hq))
theorem b_sort {K : PySem.W.Frag} : PrimNF K (p1 sortD) (rSortX K) := by
  intro G H vs xs d ex da q Q k
  unfold p1 at q
  split at q
  · unfold sortD at q
    split at q
    · split at q
      · rename_i ds ok
        cases q
        cases da with
        | cons d1 d2 =>
          cases d2
          cases d1 with
          | lst h z t =>
            obtain ⟨ps, rfl, rfl, hp⟩ := zip_of t
            obtain ⟨o1, o2, o3⟩ := ok
            refine ⟨_, ps, rfl, .inl (.inl (ex _ _ h)), fun p hp' => ((hp p hp').mono ex).dp (o3 _ (List.mem_map.mpr ⟨p, hp', rfl⟩)).2, o1, o2, fun p hp' => (o3 _ (List.mem_map.mpr ⟨p, hp', rfl⟩)).1, fun l hl => ?_⟩
            refine k l _ hl ⟨_, upd_same, by rw [List.length_map, List.length_mergeSort]; rw [List.length_map] at z; exact z, ?_⟩
            have e := List.map_mergeSort (r := PySem.W.dataLe false fun p : V × PyData => p.2) (s := PySem.W.dataLe false fun d : PyData => d) (f := fun p => p.2) (l := ps) (fun _ _ _ _ => rfl)
            rw [← e]
            exact all_of fun p hp' => hp p ((List.mergeSort_perm _ _).mem_iff.mp hp')
      · cases q
    · cases q
  · cases q
section
variable {K : PySem.W.Frag} {f g h : List PyData → Option PyData} {r r' : List V → Hp → VK → Prop}
theorem b_orF (hf : PrimNF K f r) (hg : PrimNF K g r') (w : ∀ xs d, h xs = some d → f xs = some d ∨ g xs = some d) : PrimNF K h (fun xs H Q => r xs H Q ∨ r' xs H Q) := by
  intro G H vs xs d ex da q Q k
  rcases w xs d q with c | c
  · exact .inl (hf G H vs xs d ex da c Q k)
  · exact .inr (hg G H vs xs d ex da c Q k)
theorem b_or (hf : PrimN K f r) (hg : PrimN K g r') (w : ∀ xs d, h xs = some d → f xs = some d ∨ g xs = some d) : PrimN K h (fun xs H Q => r xs H Q ∨ r' xs H Q) := by
  intro G H vs xs d ex da q Q k
  rcases w xs d q with c | c
  · exact .inl (hf G H vs xs d ex da c Q k)
  · exact .inr (hg G H vs xs d ex da c Q k)
end
def isort (ns : List Int) : List Int := ns.mergeSort fun a b => decide (a ≤ b)
theorem isort_perm (ns : List Int) : (isort ns).Perm ns := List.mergeSort_perm _ _
theorem isort_sorted (ns : List Int) : (isort ns).Pairwise (· ≤ ·) := by
  have := List.pairwise_mergeSort (le := fun a b : Int => decide (a ≤ b)) (fun a b c h1 h2 => by simp only [decide_eq_true_eq] at *; omega) (fun a b => by simp only [Bool.or_eq_true, decide_eq_true_eq]; omega) ns
  exact this.imp fun h => by simpa using h
theorem isort_eq {ys ns : List Int} (h : ys.Perm ns) (hs : ys.Pairwise (· ≤ ·)) : ys = isort ns :=
  List.Perm.eq_of_pairwise (fun a b _ _ h1 h2 => by omega) hs (isort_sorted ns) (h.trans (isort_perm ns).symm)
def sortK : PyData → Option PyData
  | .dict ps => (match intsOf (ps.map (·.1)) with
    | some ks => if ks.length < 64 then some (.list ((isort ks).map .int)) else none
    | none => none)
  | _ => none
theorem drkv_ints {K : PySem.W.Frag} {G : Hp} : ∀ {kvs : List (Key × V)} {ps : List (PyData × PyData)} {ks : List Int}, DrKv K G kvs ps → ps.map (·.1) = ks.map PyData.int → kvs.map (·.1) = ks.map Sum.inl
  | _, _, ks, .nil, e => by
    cases ks with
    | nil => rfl
    | cons k ks => cases e
  | _, _, ks, .cons (k := k') h t, e => by
    cases ks with
    | nil => cases e
    | cons k ks =>
      rw [List.map_cons, List.map_cons] at e
      injection e with e1 e2
      rw [List.map_cons, List.map_cons, drkv_ints t e2]
      congr 1
      cases k' with
      | inl i => injection e1 with e1; rw [e1]
      | inr x => cases e1
def rSK : List V → Hp → VK → Prop := fun xs H Q => ∃ (a : Addr) (kvs : List (Key × V)) (ks : List Int), xs = [.ref a] ∧ Rd H a (.dK kvs) ∧ kvs.map (·.1) = ks.map Sum.inl ∧ ks.length < 64 ∧
    ∀ (ys : List Int) (p : Addr), ys.Perm ks → ys.Pairwise (· ≤ ·) → H p = none → Q (.ref p) (upd H p (.lst (ys.map V.int)))
theorem b_sortK {K : PySem.W.Frag} : PrimNF K (p1 sortK) rSK := by
  intro G H vs xs d ex da q Q k
  unfold p1 at q
  split at q
  · unfold sortK at q
    split at q
    · split at q
      · rename_i ps _ ks hk
        split at q
        · rename_i h64
          cases q
          cases da with
          | cons d1 d2 =>
            cases d2
            obtain ⟨p, kvs, rfl, hr, t, z⟩ := dr_dict d1 ex
            refine ⟨p, kvs, ks, rfl, hr, drkv_ints t (intsOf_eq hk), h64, fun ys l hp hs hl => ?_⟩
            have e := isort_eq hp hs
            subst e
            refine k l _ hl ⟨_, upd_same, ?_, DrAll.ints _⟩
            rw [List.length_map, (isort_perm ks).length_eq, sizeLine_eq]
            omega
        · cases q
      · cases q
    · cases q
  · cases q
open Classical in
noncomputable def sortX (x : PyData) : Option PyData := match x with
  | .dict ps => sortK (.dict ps)
  | x => sortD x
theorem b_sortX {K : PySem.W.Frag} : PrimNF K (p1 sortX) (fun xs H Q => rSortX K xs H Q ∨ rSK xs H Q) := b_orF b_sort b_sortK fun xs d q => by
  unfold p1 at q
  split at q
  · unfold sortX at q
    split at q
    · exact .inr q
    · exact .inl q
  · cases q
/-- len of a dict, too -/
def lenK : PyData → Option PyData
  | .dict ps => some (.int ps.length)
  | _ => none
def lenX : PyData → Option PyData
  | .dict ps => some (.int ps.length)
  | x => lenS x
def rLK : List V → Hp → VK → Prop := fun xs H Q => ∃ a kvs, xs = [V.ref a] ∧ Rd H a (.dK kvs) ∧ Q (.int kvs.length) H
def rLS (K : PySem.W.Frag) : List V → Hp → VK → Prop := fun xs H Q => ∃ p ys, xs = [.ref p] ∧ (SqL K H p ys ∨ SqT K H p ys) ∧ Q (.int ys.length) H
theorem call_lenK {X : Cx} : CallR X (.builtin "len") rLK := by
  intro pins s σ H xs us Q I r ⟨a, kvs, ex, e, q⟩
  subst ex
  rw [Vals.ref1 r]
  exact d_len I e fun t s' I' => ⟨.int kvs.length, H, I', ⟨t, rfl⟩, q⟩
theorem b_lenK {K : PySem.W.Frag} : PrimN K (p1 lenK) rLK := by
  intro G H vs xs d ex da q Q k
  unfold p1 at q
  split at q
  · unfold lenK at q
    split at q
    · cases q
      cases da with
      | cons d1 d2 =>
        cases d2
        obtain ⟨p, kvs, rfl, hr, t, z⟩ := dr_dict d1 ex
        exact ⟨p, kvs, rfl, hr, k _ G H .refl (by rw [drkv_len t]; exact .int _)⟩
    · cases q
  · cases q
theorem b_lenX {K : PySem.W.Frag} : PrimN K (p1 lenX) (fun xs H Q => rLS K xs H Q ∨ rLK xs H Q) := b_or (r := rLS K) b_len b_lenK fun xs d q => by
  unfold p1 at q
  split at q
  · unfold lenX at q
    split at q
    · exact .inr q
    · exact .inl q
  · cases q
theorem call_lenX {X : Cx} : CallR X (.builtin "len") (fun xs H Q => rLS X.K xs H Q ∨ rLK xs H Q) := CallR.or (r := rLS X.K) call_len_seq call_lenK
theorem cr_sortAll {X : Cx} (hc : X.calm = true) (hu : X.A.units + 64 < cLine) : CallR X (.builtin "sorted") (fun xs H Q => rSortX X.K xs H Q ∨ rSK xs H Q) := CallR.or (cr_sortX hu) (call_sortedDI hc)
/-! ### isinstance -/
def tyD : PyData → String
  | .none => "NoneType"
  | .bool _ => "bool"
  | .int _ => "int"
  | .str _ => "str"
  | .list _ => "list"
  | .tuple _ => "tuple"
  | .dict _ => "dict"
def isiD (n : String) (x : PyData) : Option PyData := (kitB (tyD x) n).map .bool
theorem dr_ty {K : PySem.W.Frag} {G H : Hp} {v : V} {x : PyData} (h : Dr K G v x) (e : Ex G H) : TyX K H v (.type (tyD x)) := by
  cases h with
  | non => exact .base .non
  | bl b => exact .base (.bl b)
  | int i => exact .base (.int i)
  | str z => exact .base (.str z)
  | lst h _ _ => exact .base (.lst (e _ _ h))
  | tup h _ _ =>
    rcases e.sqT h with (h | ⟨o, h⟩) | ⟨o, its, n, h1, h2, _⟩
    · exact .base (.tup h)
    · exact .fTuple h
    · exact .kTuple h1 h2
  | dk h _ _ =>
    rcases e.rd h with h | ⟨o, h⟩
    · exact .base (.dK h)
    · exact .fDict h
theorem r_isi {X : Cx} {e : Expr} {a : Ev} {n : String} (h : PE X e (tCB (rIsi X.K) (tCons (tS X.K a) (tCons (tC (.ty n)) tNil)))) : PE X e (tS X.K (e1 (isiD n) a)) := h.conv fun σ H Q ⟨Z, G, ρ, d, ρ', R, q, k⟩ => by
  unfold e1 at q
  split at q
  · rename_i x ρ1 qa
    split at q
    · rename_i d' qf
      cases q
      refine ⟨Z, G, ρ, x, _, R, qa, fun v G1 H1 ex1 R1 d1 => ?_⟩
      unfold isiD at qf
      cases e : kitB (tyD x) n with
      | none => rw [e] at qf; cases qf
      | some b =>
        rw [e] at qf
        cases qf
        exact ⟨v, .ty n, .type (tyD x), .type n, b, rfl, .ty n, dr_ty d1 R1.gh, kit_ty e, k _ G1 H1 ex1 R1 (.bl b)⟩
    · cases q
  · cases q
end DL
/-! DL14: rules by one name for lists and dicts. -/
namespace DL
open PySem PySem.Spec PyProof.Rows L2
section
variable {X : Cx} {e ea eb ec : Expr} {a b c ix : Ev} {pos pos' spos apos cpos : Pos} {i : Nat} {fr : Bool}
theorem r_ixY (hu : X.A.units + 1 < cLine) (h1 : PE X ea (tS X.K a)) (h2 : PE X eb (tS X.K b)) (hs : PlainIx eb := by intro _ _; rfl) (hs' : NoSl eb := by intro _ _; rfl) : PE X (.Subscript ea eb pos) (tS X.K (e2 ixX a b)) :=
  r_ixX (K' := X.K) (r_ix ix_seq p_ix h1 h2 hs) (r_dget hu h1 h2 hs')
theorem r_inY (hu : X.A.units + 65 < cLine) (h1 : PE X ea (tS X.K a)) (h2 : PE X eb (tS X.K b)) (hm : behindInMarks .In eb = false := by rfl) : PE X (.Compare ea [.In] [eb] pos) (tS X.K (e2 inX a b)) :=
  r_inX (r_cmp (o_in hu) p_in h1 h2 hm) (r_din (by omega) h1 h2 hm)
theorem r_ninY (hu : X.A.units + 65 < cLine) (h1 : PE X ea (tS X.K a)) (h2 : PE X eb (tS X.K b)) (hm : behindInMarks .NotIn eb = false := by rfl) : PE X (.Compare ea [.NotIn] [eb] pos) (tS X.K (e2 ninX a b)) :=
  r_ninX (r_cmp (o_nin hu) p_nin h1 h2 hm) (r_dnin (by omega) h1 h2 hm)
theorem r_tinY (hu : X.A.units + 65 < cLine) (h1 : PE X ea (tS X.K a)) (h2 : PE X eb (tS X.K b)) (hm : behindInMarks .In eb = false := by rfl) : PT X (.Compare ea [.In] [eb] pos) (tQ X.K (qB (e2 inX a b))) :=
  r_tinX (r_tcmp (o_in hu) p_in h1 h2 hm) (r_tdin (by omega) h1 h2 hm)
theorem r_tninY (hu : X.A.units + 65 < cLine) (h1 : PE X ea (tS X.K a)) (h2 : PE X eb (tS X.K b)) (hm : behindInMarks .NotIn eb = false := by rfl) : PT X (.Compare ea [.NotIn] [eb] pos) (tQ X.K (qB (e2 ninX a b))) :=
  r_tninX (r_tcmp (o_nin hu) p_nin h1 h2 hm) (r_tdnin (by omega) h1 h2 hm)
end
theorem room1 {A : Around} {k : Nat} (r : Room k A) : A.units + 1 < cLine := by have := r.un; omega
theorem room64 {A : Around} {k : Nat} (r : Room k A) : A.units + 64 < cLine := by have := r.un; omega
end DL
/-! DL15: wide shifts, lists and tuples again and again. -/
namespace DL
open PySem PySem.Spec PyProof.Rows L2
section
variable {K : PySem.W.Frag}
def shlX := iI fun i j => if 0 ≤ j ∧ (Builtin.Int.intBits i : Int) + j ≤ 2 ^ 27 then some (i * 2 ^ j.toNat) else none
theorem p_shlX : Prim2 K shlX (rI CShl fun i j => .int (i * 2 ^ j.toNat)) := prim_I fun i j k q => by
  split at q
  · rename_i h; cases q; exact ⟨h, rfl⟩
  · cases q
theorem DrAll.rep {G : Hp} {vs : List V} {ds : List PyData} (t : DrAll K G vs ds) : ∀ n : Nat, DrAll K G (List.replicate n vs).flatten (List.replicate n ds).flatten
  | 0 => .nil
  | n + 1 => by
    rw [List.replicate_succ, List.replicate_succ, List.flatten_cons, List.flatten_cons]
    exact t.append (DrAll.rep t n)
theorem rep_len {α : Type} (xs : List α) (n : Nat) : (List.replicate n xs).flatten.length = xs.length * n := by
  induction n with
  | zero => rfl
  | succ n ih => rw [List.replicate_succ, List.flatten_cons, List.length_append, ih, Nat.mul_succ]; omega
def repL (x y : PyData) : Option PyData := match x, y with
  | .list xs, .int k => if -(2 ^ 63) ≤ k ∧ k < 2 ^ 63 ∧ xs.length * k.toNat ≤ 16777216 then some (.list (List.replicate k.toNat xs).flatten) else none
  | _, _ => none
theorem p_repL : Prim2F K repL rRep := by
  intro G H v u x y d ex dx dy q Q k
  unfold repL at q
  split at q
  · split at q
    · rename_i xs n h
      cases q
      cases dy
      cases dx with
      | lst h1 z t =>
        have hz : ∀ m : Nat, xs.length * m ≤ 16777216 → _ := fun m hm => t.len
        have hl := t.len
        refine ⟨_, n, _, rfl, rfl, ex _ _ h1, h.1, h.2.1, by rw [hl, sizeLine_eq]; exact h.2.2, fun p hp => ?_⟩
        exact k p _ hp ⟨_, upd_same, by rw [rep_len, hl, sizeLine_eq]; exact h.2.2, t.rep _⟩
    · cases q
  · cases q
def repT (x y : PyData) : Option PyData := match x, y with
  | .tuple xs, .int k => if xs ≠ [] ∧ 2 ≤ k ∧ k ≤ 1000 ∧ xs.length ≤ 1000 then some (.tuple (List.replicate k.toNat xs).flatten) else none
  | _, _ => none
theorem p_repT : Prim2 K repT (rRepT K) := by
  intro G H v u x y d ex dx dy q Q k
  unfold repT at q
  split at q
  · split at q
    · rename_i xs n h
      cases q
      cases dy
      cases dx with
      | tup h1 z t =>
        have hl := t.len
        refine ⟨_, n, _, rfl, rfl, ex.sqT h1, fun z => h.1 (by rw [z] at hl; exact List.eq_nil_of_length_eq_zero hl.symm), h.2.1, h.2.2.1, by rw [hl]; exact h.2.2.2, fun p hp => ?_⟩
        refine k (.ref p) _ _ (.one hp) (.tup (.inl (.inl upd_same)) ?_ ((t.rep n.toNat).mono (Ex.new (ex.none hp))))
        rw [rep_len, hl, sizeLine_eq]
        have h3 : n.toNat ≤ 1000 := by omega
        have := Nat.mul_le_mul h.2.2.2 h3
        omega
    · cases q
  · cases q
end
end DL
/-! DL17: an own list frozen for good; slots forgotten; loops told by a state. -/
namespace DL
open PySem PySem.Spec PyProof.Rows L2
/-- an own list or dict that is not changed any more becomes data -/
def sFrz (i : Nat) (ψ : Sv) : Sv := fun ρ => match ρ[i]? with
  | some (.o d) => ψ (ρ.set i (.d d))
  | _ => ψ ρ
def wipeL (ks : List Nat) (ρ : En) : En := ks.foldl (fun ρ i => ρ.set i .u) ρ
def wipeF (ks : List Nat) : Fw → Fw
  | .nx ρ => .nx (wipeL ks ρ)
  | .brk ρ => .brk (wipeL ks ρ)
  | .ct ρ => .ct (wipeL ks ρ)
  | .ret d ρ => .ret d ρ
/-- slots that nobody reads any more are forgotten -/
def sWipe (ks : List Nat) (ψ : Sv) : Sv := fun ρ => match ψ ρ with
  | some w => some (wipeF ks w)
  | none => none
theorem wipeL_nil (ρ : En) : wipeL [] ρ = ρ := rfl
theorem wipeL_cons (k : Nat) (ks : List Nat) (ρ : En) : wipeL (k :: ks) ρ = wipeL ks (ρ.set k .u) := rfl
section
variable {X : Cx} {K : PySem.W.Frag} {fr : Bool} {st : Stmt} {ψ : Sv}
theorem set_same {σ : L2.St} {i : Nat} {v : Option V} (h : σ[i]? = some v) : σ.set i v = σ := by
  apply List.ext_getElem?
  intro j
  by_cases e : i = j
  · subst e
    rw [List.getElem?_set_self (List.getElem?_eq_some_iff.mp h).1, h]
  · rw [List.getElem?_set_ne e]
theorem r_frz {i : Nat} (h : PS X st (tT K fr ψ)) : PS X st (tT K fr (sFrz i ψ)) := h.conv fun D σ H ⟨Z, G, ρ, w, zp, R, q, k⟩ => by
  unfold sFrz at q
  split at q
  · rename_i d hd
    obtain ⟨p, h1, h2, h3, h4, h5, h6⟩ := ret_own zp R hd
    obtain ⟨u, hu⟩ := h4.some
    have R2 := (h5.frz h2 h3 h6 hu).setD (i := i) (h4.frz h2 hu)
    rw [set_same h1, List.set_set] at R2
    exact ⟨Z, upd G p u, ρ.set i (.d d), w, zp, R2, q, k.mono (Ex.new h2)⟩
  · exact ⟨Z, G, ρ, w, zp, R, q, k⟩
theorem wipeL_less {ks : List Nat} : ∀ {ρ : En}, (wipeL ks ρ).length = ρ.length ∧ ∀ (i : Nat) (s : Sl), (wipeL ks ρ)[i]? = some s → s = .u ∨ ρ[i]? = some s := by
  induction ks with
  | nil => intro ρ; exact ⟨rfl, fun i s h => .inr h⟩
  | cons k ks ih =>
    intro ρ
    obtain ⟨h1, h2⟩ := ih (ρ := ρ.set k .u)
    refine ⟨h1.trans (List.length_set ..), fun i s h => ?_⟩
    rcases h2 i s h with z | z
    · exact .inl z
    · rcases getElem?_set_cases z with ⟨_, z⟩ | ⟨_, z⟩
      · exact .inl z
      · exact .inr z
theorem SR.wipeL {Z : Zn} {G H : Hp} {σ : L2.St} {ρ : En} (ks : List Nat) (R : SR K Z G H σ ρ) : SR K Z G H σ (wipeL ks ρ) := R.less wipeL_less.1 wipeL_less.2
theorem r_wipe {ks : List Nat} (h : PS X st (tT K fr ψ)) : PS X st (tT K fr (sWipe ks ψ)) := h.conv fun D σ H ⟨Z, G, ρ, w, zp, R, q, k⟩ => by
  unfold sWipe at q
  split at q
  · rename_i w' q'
    cases q
    refine ⟨Z, G, ρ, w', zp, R, q', ?_⟩
    cases w' with
    | nx ρ' => exact fun σ' G' H' ex R' => k σ' G' H' ex (R'.wipeL ks)
    | brk ρ' => exact fun σ' G' H' ex R' => k σ' G' H' ex (R'.wipeL ks)
    | ct ρ' => exact fun σ' G' H' ex R' => k σ' G' H' ex (R'.wipeL ks)
    | ret d ρ' => exact k
  · cases q
theorem rs_wipe {sts : List Stmt} {ks : List Nat} (h : PSs X sts (tT K fr ψ)) : PSs X sts (tT K fr (sWipe ks ψ)) := h.conv fun D σ H ⟨Z, G, ρ, w, zp, R, q, k⟩ => by
  unfold sWipe at q
  split at q
  · rename_i w' q'
    cases q
    refine ⟨Z, G, ρ, w', zp, R, q', ?_⟩
    cases w' with
    | nx ρ' => exact fun σ' G' H' ex R' => k σ' G' H' ex (R'.wipeL ks)
    | brk ρ' => exact fun σ' G' H' ex R' => k σ' G' H' ex (R'.wipeL ks)
    | ct ρ' => exact fun σ' G' H' ex R' => k σ' G' H' ex (R'.wipeL ks)
    | ret d ρ' => exact k
  · cases q
end
/-! ### loops by a state -/
theorem forD_run {α β : Type} {g : Gv} {ψ : Sv} (enc : α → PyData) (mk : β → En) (I : List α → β → Prop) (R : PyData → En → Prop) (xs : List α)
    (step : ∀ (dn : List α) (a : α) (rest : List α) (b : β), xs = dn ++ a :: rest → I dn b → ∃ ρ1, g (enc a) (mk b) = some ρ1 ∧ ((∃ b', ψ ρ1 = some (.nx (mk b')) ∧ I (dn ++ [a]) b') ∨ (∃ b', ψ ρ1 = some (.ct (mk b')) ∧ I (dn ++ [a]) b') ∨ ∃ d ρ', ψ ρ1 = some (.ret d ρ') ∧ R d ρ')) :
    ∀ (rest dn : List α) (b : β), xs = dn ++ rest → I dn b → (∃ b', forD g ψ (rest.map enc) (mk b) = some (.nx (mk b')) ∧ I xs b') ∨ ∃ d ρ', forD g ψ (rest.map enc) (mk b) = some (.ret d ρ') ∧ R d ρ'
  | [], dn, b, e, h => .inl ⟨b, rfl, by rw [e, List.append_nil]; exact h⟩
  | a :: rest, dn, b, e, h => by
    obtain ⟨ρ1, h1, h2⟩ := step dn a rest b e h
    rw [List.map_cons]
    unfold forD
    rw [h1]
    rcases h2 with ⟨b', h2, h3⟩ | ⟨b', h2, h3⟩ | ⟨d, ρ', h2, h3⟩
    · simp only [h2]
      exact forD_run enc mk I R xs step rest (dn ++ [a]) b' (by rw [e, List.append_assoc]; rfl) h3
    · simp only [h2]
      exact forD_run enc mk I R xs step rest (dn ++ [a]) b' (by rw [e, List.append_assoc]; rfl) h3
    · simp only [h2]
      exact .inr ⟨d, ρ', rfl, h3⟩
/-- a loop that may hand back -/
theorem sFor_ret {α β : Type} {it : Es} {g : Gv} {ψ : Sv} {ρ : En} (enc : α → PyData) (mk : β → En) (I : List α → β → Prop) (R : PyData → En → Prop) (xs : List α) (b0 : β) (hit : it ρ = some (xs.map enc, mk b0)) (h0 : I [] b0)
    (step : ∀ (dn : List α) (a : α) (rest : List α) (b : β), xs = dn ++ a :: rest → I dn b → ∃ ρ1, g (enc a) (mk b) = some ρ1 ∧ ((∃ b', ψ ρ1 = some (.nx (mk b')) ∧ I (dn ++ [a]) b') ∨ (∃ b', ψ ρ1 = some (.ct (mk b')) ∧ I (dn ++ [a]) b') ∨ ∃ d ρ', ψ ρ1 = some (.ret d ρ') ∧ R d ρ')) :
    (∃ b', sFor it g ψ ρ = some (.nx (mk b')) ∧ I xs b') ∨ ∃ d ρ', sFor it g ψ ρ = some (.ret d ρ') ∧ R d ρ' := by
  unfold sFor
  rw [hit]
  exact forD_run enc mk I R xs step xs [] b0 rfl h0
/-- .. that goes through -/
theorem sFor_run {α β : Type} {it : Es} {g : Gv} {ψ : Sv} {ρ : En} (enc : α → PyData) (mk : β → En) (I : List α → β → Prop) (xs : List α) (b0 : β) (hit : it ρ = some (xs.map enc, mk b0)) (h0 : I [] b0)
    (step : ∀ (dn : List α) (a : α) (rest : List α) (b : β), xs = dn ++ a :: rest → I dn b → ∃ ρ1 b', g (enc a) (mk b) = some ρ1 ∧ ψ ρ1 = some (.nx (mk b')) ∧ I (dn ++ [a]) b') :
    ∃ b', sFor it g ψ ρ = some (.nx (mk b')) ∧ I xs b' := by
  rcases sFor_ret enc mk I (fun _ _ => False) xs b0 hit h0 (fun dn a rest b e h => by
    obtain ⟨ρ1, b', h1, h2, h3⟩ := step dn a rest b e h
    exact ⟨ρ1, h1, .inl ⟨b', h2, h3⟩⟩) with h | ⟨_, _, _, h⟩
  · exact h
  · exact h.elim
/-- .. by a function of the state -/
theorem sFor_fold {α β : Type} {it : Es} {g : Gv} {ψ : Sv} {ρ : En} (enc : α → PyData) (mk : β → En) (f : β → α → β) (I : β → Prop) (xs : List α) (b0 : β) (hit : it ρ = some (xs.map enc, mk b0)) (h0 : I b0)
    (step : ∀ (a : α) (b : β), a ∈ xs → I b → ∃ ρ1, g (enc a) (mk b) = some ρ1 ∧ ψ ρ1 = some (.nx (mk (f b a))) ∧ I (f b a)) :
    sFor it g ψ ρ = some (.nx (mk (xs.foldl f b0))) ∧ I (xs.foldl f b0) := by
  obtain ⟨b', h1, h2, h3⟩ := sFor_run (it := it) (g := g) (ψ := ψ) (ρ := ρ) enc mk (fun dn b => b = dn.foldl f b0 ∧ I b) xs b0 hit ⟨rfl, h0⟩ (fun dn a rest b e ⟨h, hI⟩ => by
    obtain ⟨ρ1, q1, q2, q3⟩ := step a b (by rw [e]; simp) hI
    refine ⟨ρ1, _, q1, q2, ?_, q3⟩
    rw [List.foldl_append, ← h]
    rfl)
  rw [h2] at h1 h3
  exact ⟨h1, h3⟩
end DL
/-! DS1: hashes of data. -/
namespace DL
open PySem PySem.Spec
mutual
def hashD (P : Program) (w : World) : PyData → Int
  | .int i => (intKind P w).hash i
  | .tuple xs => reduceHash (Builtin.Tuple.tupleHashOf (hashDs P w xs))
  | _ => 0
def hashDs (P : Program) (w : World) : List PyData → List Int
  | [] => []
  | x :: xs => hashD P w x :: hashDs P w xs
end
mutual
def hashable : PyData → Bool
  | .int _ => true
  | .tuple xs => hashables xs
  | _ => false
def hashables : List PyData → Bool
  | [] => true
  | x :: xs => hashable x && hashables xs
end
section
variable {P : Program} {w : World}
theorem hashDs_snoc (d : PyData) : ∀ xs : List PyData, hashDs P w (xs ++ [d]) = hashDs P w xs ++ [hashD P w d]
  | [] => rfl
  | x :: xs => by
    show hashD P w x :: hashDs P w (xs ++ [d]) = hashD P w x :: (hashDs P w xs ++ [hashD P w d])
    rw [hashDs_snoc d xs]
/-- the hash of a tuple, its items' hashes told -/
theorem tuple_hash {xs : List PyData} {A : Around} {E : Value → Shared → Prop} {s : Shared} {a : Addr} {as : List Addr} {Q : Int → Shared → Prop} (r : Reads s.heap (.ref a) (.tuple xs) as) (hu : A.units < cLine)
    (H : ∀ x ∈ xs, ∀ (s' : Shared) (v : Value) (bs : List Addr) (E' : Value → Shared → Prop) (Q' : Int → Shared → Prop), Reads s'.heap v x bs → (∀ tk, s'.toks ≤ tk → Q' (hashD P w x) { s' with toks := tk }) → wpAny (model P w) A.in1 (pyHash v) Q' E' s')
    (h : ∀ tk, s.toks ≤ tk → Q (hashD P w (.tuple xs)) { s with toks := tk }) : wpAny (model P w) A (pyHash (.ref a)) Q E s := by
  cases r with
  | @tuple _ o vs n _ _ ho hc hd hi =>
  have tT : s.TypeIs (.ref a) "tuple" := ⟨o, ho, hc⟩
  unfold pyHash
  first | unfold pyHashByItsType | skip
  first | refine wpAny_bind (wpAny_cRoomFor_or (.inr hu) ?_) | skip
  refine wpAny_bind (wpAny_specialOf tT F.slot_tuple_hash.lookup ?_)
  refine (if_neg (c := (some (Value.builtin "tuple.__hash__") == some Value.none) = true) (by rw [beq_builtin_none]; exact Bool.false_ne_true)) ▸ ?_
  refine wpAny_bind (wpAny_specialOf tT F.slot_tuple_hash.lookup ?_)
  refine wpAny_bind (wpAny_callSpecialIfBoundUnlessNone?_slot tT F.slot_tuple_hash (wpAny_call_entry F.slot_tuple_hash tT F.entry_tuple_hash ?_ (F.args_tuple_hash_1 _)))
  show wpAny _ _ (Builtin.Tuple.tupleItemsOf (.ref a) >>= _) _ _ s
  refine wpAny_bind (wpAny_tupleItemsOf ho hd ?_)
  refine wpAny_bind ?_
  rw [← Array.forIn_toList]
  refine wpAny_forIn_list _
    (fun rest (b : Array Int) s' => ∃ dn lf bs, xs = dn ++ lf ∧ ReadsAll s.heap rest lf bs ∧ b.toList = hashDs P w dn ∧ ∃ tk, s.toks ≤ tk ∧ s' = { s with toks := tk })
    _ ?_ ?_ _ _ ⟨[], xs, as, rfl, hi, rfl, s.toks, Nat.le_refl _, rfl⟩
  · rintro x rest b s' ⟨dn, lf, bs, rfl, hl, hb, tk, htk, rfl⟩
    cases hl with
    | @cons v vs' d ds bs1 bs2 h1 h2 =>
      refine wpAny_bind (H d (by simp) { s with toks := tk } x bs1 _ _ h1 fun tk' htk' => ?_)
      have hb' : (b.push (hashD P w d)).toList = hashDs P w (dn ++ [d]) := by
        rw [Array.toList_push, hb, hashDs_snoc]
      first
        | exact wpAny_pure ⟨dn ++ [d], ds, bs2, by simp, h2, hb', tk', Nat.le_trans htk htk', rfl⟩
        | exact wpAny_bind (wpAny_pure (wpAny_pure ⟨dn ++ [d], ds, bs2, by simp, h2, hb', tk', Nat.le_trans htk htk', rfl⟩))
  · rintro b s' ⟨dn, lf, bs, rfl, hl, hb, tk, htk, rfl⟩
    cases hl
    rw [List.append_nil] at h
    show wpAny _ _ (retInt (Builtin.Tuple.tupleHashOf b.toList)) _ _ _
    rw [hb]
    refine wpAny_ret_mkInt ?_
    have hq : hashD P w (.tuple dn) = reduceHash (Builtin.Tuple.tupleHashOf (hashDs P w dn)) := by simp only [hashD]
    rw [hq] at h
    generalize Builtin.Tuple.tupleHashOf (hashDs P w dn) = z at h
    show wpAny _ _ (if (decide (-(2 : Int) ^ 63 ≤ z) && decide (z < 2 ^ 63)) = true then _ else _) Q E _
    unfold reduceHash at h
    by_cases hr : (decide (-(2 : Int) ^ 63 ≤ z) && decide (z < 2 ^ 63)) = true
    · rw [if_pos hr]
      rw [if_pos hr] at h
      exact wpAny_pure (h _ (by show s.toks ≤ _; simp only; omega))
    · rw [if_neg hr]
      rw [if_neg hr] at h
      exact wpAny_bind (wpAny_rule (wpAny_pure (h _ (by show s.toks ≤ _; simp only; omega))))
theorem depth_mem {x : PyData} : ∀ {xs : List PyData}, x ∈ xs → x.depth ≤ PyData.depthAll xs
  | y :: ys, h => by
    simp only [PyData.depthAll]
    rcases List.mem_cons.mp h with rfl | h
    · exact Nat.le_max_left _ _
    · exact Nat.le_trans (depth_mem h) (Nat.le_max_right _ _)
theorem hashable_mem {x : PyData} : ∀ {xs : List PyData}, hashables xs = true → x ∈ xs → hashable x = true
  | y :: ys, q, h => by
    have q' : hashable y = true ∧ hashables ys = true := by simpa only [hashables, Bool.and_eq_true] using q
    rcases List.mem_cons.mp h with rfl | h
    · exact q'.1
    · exact hashable_mem q'.2 h
/-- hash(d), told by the data -/
theorem pyHash_data : ∀ (n : Nat) (d : PyData) {A : Around} {E : Value → Shared → Prop} {s : Shared} {v : Value} {as : List Addr} {Q : Int → Shared → Prop}, hashable d = true → d.depth ≤ n → A.units + n < cLine → Reads s.heap v d as →
    (∀ tk, s.toks ≤ tk → Q (hashD P w d) { s with toks := tk }) → wpAny (model P w) A (pyHash v) Q E s := by
  intro n
  induction n with
  | zero =>
    intro d A E s v as Q hh hn hu r h
    cases d with
    | int i =>
      cases r
      exact (intKind P w).pyHash (k := i) (by simp [intKind, Value.isInt]) (by simpa [hashD] using h (s.toks + 1) (Nat.le_succ _))
    | tuple xs => simp only [PyData.depth] at hn; omega
    | _ => simp [hashable] at hh
  | succ n ih =>
    intro d A E s v as Q hh hn hu r h
    cases d with
    | int i =>
      cases r
      exact (intKind P w).pyHash (k := i) (by simp [intKind, Value.isInt]) (by simpa [hashD] using h (s.toks + 1) (Nat.le_succ _))
    | tuple xs =>
      have hh' : hashables xs = true := by simpa [hashable] using hh
      simp only [PyData.depth] at hn
      obtain ⟨a, rfl⟩ : ∃ a, v = .ref a := by cases r; exact ⟨_, rfl⟩
      refine tuple_hash r (by omega) (fun x hx s' u bs E' Q' r' h' => ?_) h
      have := depth_mem hx
      exact ih x (A := A.in1) (hashable_mem hh' hx) (by omega) (show A.units + 1 + n < cLine by omega) r' h'
    | _ => simp [hashable] at hh
/-- a walk over the items of a tuple that asks each of them a question -/
theorem each_false {f : Value → Sem Bool} {M : Model} {A : Around} {E : Value → Shared → Prop} {s : Shared} {xs : List PyData} {vs : List Value} {as : List Addr}
    (hi : ReadsAll s.heap vs xs as) (H : ∀ x ∈ xs, ∀ (v : Value) (bs : List Addr) (Q' : Bool → Shared → Prop), Reads s.heap v x bs → Q' false s → wpAny M A (f v) Q' E s) :
    ∀ v ∈ vs, ∀ Q' : Bool → Shared → Prop, Q' false s → wpAny M A (f v) Q' E s := by
  intro v hv Q' q
  have key : ∀ {vs : List Value} {ys : List PyData} {bs : List Addr}, ReadsAll s.heap vs ys bs → (∀ y ∈ ys, y ∈ xs) → v ∈ vs → ∃ d cs, d ∈ xs ∧ Reads s.heap v d cs := by
    intro vs
    induction vs with
    | nil => intro _ _ _ _ h; cases h
    | cons u vs ih =>
      intro ys bs r sub h
      cases r with
      | cons r1 r2 =>
        rcases List.mem_cons.mp h with rfl | h
        · exact ⟨_, _, sub _ (List.mem_cons_self ..), r1⟩
        · exact ih r2 (fun y hy => sub y (List.mem_cons_of_mem _ hy)) h
  obtain ⟨d, cs, hd, r⟩ := key hi (fun _ h => h) hv
  exact H d hd v cs Q' r q
theorem class_data : ∀ (k : Nat) (d : PyData) {A : Around} {E : Value → Shared → Prop} {s : Shared} {v : Value} {as : List Addr} {Q : Bool → Shared → Prop}, hashable d = true → d.depth ≤ k → Reads s.heap v d as → Q false s →
    wpAny (model P w) A (ofAClassStatement k v) Q E s := by
  intro k
  induction k with
  | zero =>
    intro d A E s v as Q hh hn r q
    cases d with
    | int i => cases r; exact wpAny_pure q
    | tuple xs => simp only [PyData.depth] at hn; omega
    | _ => simp [hashable] at hh
  | succ k ih =>
    intro d A E s v as Q hh hn r q
    cases d with
    | int i => cases r; exact wpAny_pure q
    | tuple xs =>
      have hh' : hashables xs = true := by simpa [hashable] using hh
      simp only [PyData.depth] at hn
      cases r with
      | @tuple a o vs n _ _ ho hc hd hi =>
      have tT : s.TypeIs (.ref a) "tuple" := ⟨o, ho, hc⟩
      have all := each_false (f := ofAClassStatement k) (M := model P w) (A := A) (E := E) hi fun x hx u bs Q' r' q' => ih x (hashable_mem hh' hx) (by have := depth_mem hx; omega) r' q'
      unfold ofAClassStatement
      refine wpAny_bind (wpAny_typeOf tT ?_)
      dsimp only
      have e : (("tuple" : String) == "tuple") = true := by decide
      simp only [e, if_true, Bool.not_true, Bool.false_eq_true, if_false]
      try refine wpAny_bind (wpAny_pure ?_)
      try simp only [Bool.not_true, Bool.false_eq_true, if_false]
      show wpAny _ _ (seqItems? (.ref a) >>= _) _ _ s
      refine wpAny_bind (wpAny_seqItems ho hd ?_)
      dsimp only
      refine wpAny_bind ?_
      show wpAny _ _ (forIn vs _ _) _ _ s
      rw [← Array.forIn_toList]
      refine wpAny_forIn_list _ (fun rest r s' => r.1 = none ∧ s' = s ∧ ∀ v ∈ rest, v ∈ vs.toList) _ ?_ ?_ _ _ ⟨rfl, rfl, fun _ h => h⟩
      · rintro v rest r s' ⟨hr, rfl, hall⟩
        refine wpAny_bind (all v (hall v List.mem_cons_self) _ ?_)
        simp only [Bool.false_eq_true, if_false]
        exact wpAny_pure ⟨rfl, rfl, fun u hu' => hall u (List.mem_cons_of_mem _ hu')⟩
      · rintro ⟨r1, r2⟩ s' ⟨hr, rfl, _⟩
        simp only at hr
        subst hr
        exact wpAny_pure q
    | _ => simp [hashable] at hh
theorem quiet_data : ∀ (k : Nat) (d : PyData) {A : Around} {E : Value → Shared → Prop} {s : Shared} {v : Value} {as : List Addr} {Q : Bool → Shared → Prop}, hashable d = true → d.depth ≤ k → Reads s.heap v d as → Q true s →
    wpAny (model P w) A (eqIsQuiet k v) Q E s := by
  intro k
  induction k with
  | zero =>
    intro d A E s v as Q hh hn r q
    cases d with
    | int i => cases r; rw [eqIsQuiet_byValue _ rfl]; exact wpAny_pure q
    | tuple xs => simp only [PyData.depth] at hn; omega
    | _ => simp [hashable] at hh
  | succ k ih =>
    intro d A E s v as Q hh hn r q
    cases d with
    | int i => cases r; rw [eqIsQuiet_byValue _ rfl]; exact wpAny_pure q
    | tuple xs =>
      have hh' : hashables xs = true := by simpa [hashable] using hh
      simp only [PyData.depth] at hn
      cases r with
      | @tuple a o vs n _ _ ho hc hd hi =>
      have tT : s.TypeIs (.ref a) "tuple" := ⟨o, ho, hc⟩
      have all : ∀ v ∈ vs.toList, ∀ Q' : Bool → Shared → Prop, Q' true s → wpAny (model P w) A (eqIsQuiet k v) Q' E s := by
        intro v hv Q' q'
        have key : ∀ {us : List Value} {ys : List PyData} {bs : List Addr}, ReadsAll s.heap us ys bs → (∀ y ∈ ys, y ∈ xs) → v ∈ us → ∃ d cs, d ∈ xs ∧ Reads s.heap v d cs := by
          intro us
          induction us with
          | nil => intro _ _ _ _ h; cases h
          | cons u us ih2 =>
            intro ys bs r sub h
            cases r with
            | cons r1 r2 =>
              rcases List.mem_cons.mp h with rfl | h
              · exact ⟨_, _, sub _ (List.mem_cons_self ..), r1⟩
              · exact ih2 r2 (fun y hy => sub y (List.mem_cons_of_mem _ hy)) h
        obtain ⟨d, cs, hd', r⟩ := key hi (fun _ h => h) hv
        exact ih d (hashable_mem hh' hd') (by have := depth_mem hd'; omega) r q'
      unfold eqIsQuiet
      refine wpAny_bind (wpAny_specialOf tT F.slot_tuple_eq.lookup ?_)
      show wpAny _ _ (isInstance (.ref a) (.type "tuple") >>= _) _ _ s
      refine wpAny_bind (wpAny_isInstance tT isSubtype_tuple_tuple ?_)
      simp only [Bool.not_true, Bool.false_eq_true, if_false]
      refine wpAny_bind (wpAny_seqItems ho hd ?_)
      refine wpAny_bind ?_
      show wpAny _ _ (forIn vs _ _) _ _ s
      rw [← Array.forIn_toList]
      refine wpAny_forIn_list _ (fun rest r s' => r.1 = none ∧ s' = s ∧ ∀ v ∈ rest, v ∈ vs.toList) _ ?_ ?_ _ _ ⟨rfl, rfl, fun _ h => h⟩
      · rintro v rest r s' ⟨hr, rfl, hall⟩
        refine wpAny_bind (all v (hall v List.mem_cons_self) _ ?_)
        simp only [Bool.not_true, Bool.false_eq_true, if_false]
        exact wpAny_pure ⟨rfl, rfl, fun u hu' => hall u (List.mem_cons_of_mem _ hu')⟩
      · rintro ⟨r1, r2⟩ s' ⟨hr, rfl, _⟩
        simp only at hr
        subst hr
        exact wpAny_pure q
    | _ => simp [hashable] at hh
theorem byval_data : ∀ (k : Nat) (d : PyData) {A : Around} {E : Value → Shared → Prop} {s : Shared} {v : Value} {as : List Addr} {Q : Bool → Shared → Prop}, hashable d = true → d.depth ≤ k → Reads s.heap v d as → Q true s →
    wpAny (model P w) A (hashByValue k v) Q E s := by
  intro k
  induction k with
  | zero =>
    intro d A E s v as Q hh hn r q
    cases d with
    | int i => cases r; exact wpAny_pure q
    | tuple xs => simp only [PyData.depth] at hn; omega
    | _ => simp [hashable] at hh
  | succ k ih =>
    intro d A E s v as Q hh hn r q
    cases d with
    | int i => cases r; exact wpAny_pure q
    | tuple xs =>
      have hh' : hashables xs = true := by simpa [hashable] using hh
      simp only [PyData.depth] at hn
      cases r with
      | @tuple a o vs n _ _ ho hc hd hi =>
      have tT : s.TypeIs (.ref a) "tuple" := ⟨o, ho, hc⟩
      have all : ∀ v ∈ vs.toList, ∀ Q' : Bool → Shared → Prop, Q' true s → wpAny (model P w) A (hashByValue k v) Q' E s := by
        intro v hv Q' q'
        have key : ∀ {us : List Value} {ys : List PyData} {bs : List Addr}, ReadsAll s.heap us ys bs → (∀ y ∈ ys, y ∈ xs) → v ∈ us → ∃ d cs, d ∈ xs ∧ Reads s.heap v d cs := by
          intro us
          induction us with
          | nil => intro _ _ _ _ h; cases h
          | cons u us ih2 =>
            intro ys bs r sub h
            cases r with
            | cons r1 r2 =>
              rcases List.mem_cons.mp h with rfl | h
              · exact ⟨_, _, sub _ (List.mem_cons_self ..), r1⟩
              · exact ih2 r2 (fun y hy => sub y (List.mem_cons_of_mem _ hy)) h
        obtain ⟨d, cs, hd', r⟩ := key hi (fun _ h => h) hv
        exact ih d (hashable_mem hh' hd') (by have := depth_mem hd'; omega) r q'
      unfold hashByValue
      refine wpAny_bind (wpAny_specialOf tT F.slot_tuple_hash.lookup ?_)
      show wpAny _ _ (seqItems? (.ref a) >>= _) _ _ s
      refine wpAny_bind (wpAny_seqItems ho hd ?_)
      refine wpAny_bind ?_
      show wpAny _ _ (forIn vs _ _) _ _ s
      rw [← Array.forIn_toList]
      refine wpAny_forIn_list _ (fun rest r s' => r.1 = none ∧ s' = s ∧ ∀ v ∈ rest, v ∈ vs.toList) _ ?_ ?_ _ _ ⟨rfl, rfl, fun _ h => h⟩
      · rintro v rest r s' ⟨hr, rfl, hall⟩
        refine wpAny_bind (all v (hall v List.mem_cons_self) _ ?_)
        simp only [Bool.not_true, Bool.false_eq_true, if_false]
        exact wpAny_pure ⟨rfl, rfl, fun u hu' => hall u (List.mem_cons_of_mem _ hu')⟩
      · rintro ⟨r1, r2⟩ s' ⟨hr, rfl, _⟩
        simp only at hr
        subst hr
        exact wpAny_pure q
    | _ => simp [hashable] at hh
/-- x == y, told by the data -/
theorem eqb_data {A : Around} {E : Value → Shared → Prop} {s : Shared} {u v : Value} {x y : PyData} {as bs : List Addr} {Q : Bool → Shared → Prop} (ru : Reads s.heap u x as) (rv : Reads s.heap v y bs) (hx : x.canLay0 = true) (hy : y.canLay0 = true) (hu : A.units + x.depth < cLine)
    (q : Q (PyData.eqv x y) s) : wpAny (model P w) A (eqBool u v) Q E s :=
  SeqAt.eqBoolOverData P w A E s u v x y as bs Q ru rv hx hy (by have : min x.depth y.depth ≤ x.depth := Nat.min_le_left _ _; omega) q
theorem lay_hash : ∀ d : PyData, hashable d = true → d.canLay0 = true
  | .int _, _ => by simp [PyData.canLay0]
  | .tuple xs, h => by
    have h' : hashables xs = true := by simpa [hashable] using h
    have : ∀ ys : List PyData, (∀ y ∈ ys, y ∈ xs) → hashables ys = true → PyData.canLayAll0 ys = true := by
      intro ys
      induction ys with
      | nil => intro _ _; rfl
      | cons y ys ih =>
        intro sub q
        have q' : hashable y = true ∧ hashables ys = true := by simpa only [hashables, Bool.and_eq_true] using q
        have hy : y ∈ xs := sub y (List.mem_cons_self ..)
        have := List.sizeOf_lt_of_mem hy
        simp only [PyData.canLayAll0, lay_hash y q'.1, ih (fun z hz => sub z (List.mem_cons_of_mem _ hz)) q'.2, Bool.and_self]
    simpa [PyData.canLay0] using this xs (fun _ h => h) h'
  | .none, h => by simp [hashable] at h
  | .bool _, h => by simp [hashable] at h
  | .str _, h => by simp [hashable] at h
  | .list _, h => by simp [hashable] at h
  | .dict _, h => by simp [hashable] at h
termination_by d => sizeOf d
end
end DL
/-! DS2: sets of nested tuples of ints: what stands in the table, the search. -/
namespace DL
open PySem PySem.Spec L2
/-- alike is equal, for tuples of ints -/
theorem eqv_hash : ∀ x y : PyData, hashable x = true → hashable y = true → (PyData.eqv x y = true ↔ x = y)
  | .int i, y, _, hy => by
    cases y with
    | int j => simp [PyData.eqv]
    | tuple ys => simp [PyData.eqv]
    | _ => simp [hashable] at hy
  | .tuple xs, y, hx, hy => by
    cases y with
    | int j => simp [PyData.eqv]
    | tuple ys =>
      have hx' : hashables xs = true := by simpa [hashable] using hx
      have hy' : hashables ys = true := by simpa [hashable] using hy
      have all : ∀ (us vs : List PyData), (∀ u ∈ us, u ∈ xs) → hashables us = true → hashables vs = true → (PyData.eqvAll us vs = true ↔ us = vs) := by
        intro us
        induction us with
        | nil => intro vs _ _ _; cases vs <;> simp [PyData.eqvAll]
        | cons u us ih =>
          intro vs sub hu hv
          cases vs with
          | nil => simp [PyData.eqvAll]
          | cons v vs =>
            have hu' : hashable u = true ∧ hashables us = true := by simpa only [hashables, Bool.and_eq_true] using hu
            have hv' : hashable v = true ∧ hashables vs = true := by simpa only [hashables, Bool.and_eq_true] using hv
            have hm : u ∈ xs := sub u (List.mem_cons_self ..)
            have := List.sizeOf_lt_of_mem hm
            rw [PyData.eqvAll, Bool.and_eq_true, eqv_hash u v hu'.1 hv'.1, ih vs (fun z hz => sub z (List.mem_cons_of_mem _ hz)) hu'.2 hv'.2, List.cons.injEq]
      rw [PyData.eqv, all xs ys (fun _ h => h) hx' hy', PyData.tuple.injEq]
    | _ => simp [hashable] at hy
  | .none, _, hx, _ => by simp [hashable] at hx
  | .bool _, _, hx, _ => by simp [hashable] at hx
  | .str _, _, hx, _ => by simp [hashable] at hx
  | .list _, _, hx, _ => by simp [hashable] at hx
  | .dict _, _, hx, _ => by simp [hashable] at hx
termination_by x => sizeOf x
/-- the thing at b is the key d -/
def KeyAt (h : Heap) (d : PyData) (b : Addr) : Prop := (∃ as, Reads h (.ref b) d as) ∧ hashable d = true ∧ d.depth ≤ 8
section
variable {P : Program} {w : World} {A : Around} {E : Value → Shared → Prop} {s : Shared}
theorem key_class {d : PyData} {b : Addr} {Q : Bool → Shared → Prop} (k : KeyAt s.heap d b) (q : Q false s) : wpAny (model P w) A (ofAClassStatement 8 (.ref b)) Q E s := by
  obtain ⟨⟨as, r⟩, hh, hd⟩ := k
  exact class_data 8 d hh hd r q
theorem key_quiet {d : PyData} {b : Addr} {Q : Bool → Shared → Prop} (k : KeyAt s.heap d b) (q : Q true s) : wpAny (model P w) A (eqIsQuiet 8 (.ref b)) Q E s := by
  obtain ⟨⟨as, r⟩, hh, hd⟩ := k
  exact quiet_data 8 d hh hd r q
theorem key_byval {d : PyData} {b : Addr} {Q : Bool → Shared → Prop} (k : KeyAt s.heap d b) (q : Q true s) : wpAny (model P w) A (hashByValue 8 (.ref b)) Q E s := by
  obtain ⟨⟨as, r⟩, hh, hd⟩ := k
  exact byval_data 8 d hh hd r q
theorem key_hash {d : PyData} {b : Addr} {Q : Int → Shared → Prop} (k : KeyAt s.heap d b) (hu : A.units + 8 < cLine) (q : ∀ tk, s.toks ≤ tk → Q (hashD P w d) { s with toks := tk }) : wpAny (model P w) A (pyHash (.ref b)) Q E s := by
  obtain ⟨⟨as, r⟩, hh, hd⟩ := k
  exact pyHash_data 8 d hh hd hu r q
theorem key_eq {d e : PyData} {b c : Addr} {Q : Bool → Shared → Prop} (k : KeyAt s.heap d b) (l : KeyAt s.heap e c) (hu : A.units + 8 < cLine) (q : ∀ c : Bool, (c = true ↔ d = e) → Q c s) : wpAny (model P w) A (eqBool (.ref b) (.ref c)) Q E s := by
  obtain ⟨⟨as, r⟩, hh, hd⟩ := k
  obtain ⟨⟨bs, r2⟩, hh2, hd2⟩ := l
  exact eqb_data r r2 (lay_hash d hh) (lay_hash e hh2) (by omega) (q _ (eqv_hash d e hh hh2))
/-- a search among such keys shows nothing -/
theorem key_seen {d : PyData} {b : Addr} {Q : Bool → Shared → Prop} (k : KeyAt s.heap d b) {us : List Value} (all : ∀ u ∈ us, ∃ e c, u = Value.ref c ∧ KeyAt s.heap e c) (q : Q false s) :
    wpAny (model P w) A (searchCouldBeSeen (.ref b) us) Q E s := by
  unfold searchCouldBeSeen
  refine wpAny_bind ?_
  refine wpAny_forIn_list _ (fun left acc now => acc.1 = none ∧ now = s ∧ ∀ u ∈ left, ∃ e c, u = Value.ref c ∧ KeyAt s.heap e c) _ ?_ ?_ _ _ ⟨rfl, rfl, all⟩
  · rintro u left acc now ⟨hr, rfl, more⟩
    obtain ⟨e, c, rfl, kc⟩ := more u List.mem_cons_self
    have more' : ∀ u ∈ left, ∃ e c, u = Value.ref c ∧ KeyAt now.heap e c := fun u hu' => more u (List.mem_cons_of_mem _ hu')
    dsimp only
    by_cases very : (b == c || (carriedByValue (.ref b) && carriedByValue (.ref c))) = true
    · exact wp_if_pos very (wpAny_pure ⟨rfl, rfl, more'⟩)
    · refine wp_if_neg very (wpAny_bind (key_quiet k ?_))
      simp only [Bool.not_true, Bool.false_eq_true, if_false]
      refine wpAny_bind (key_quiet kc ?_)
      simp only [Bool.not_true, Bool.false_eq_true, if_false]
      refine wpAny_bind (key_class k ?_)
      simp only [Bool.false_eq_true, if_false]
      refine wpAny_bind (key_class kc ?_)
      simp only [Bool.false_eq_true, if_false]
      exact wpAny_pure ⟨rfl, rfl, more'⟩
  · rintro ⟨acc1, acc2⟩ now ⟨hr, rfl, _⟩
    simp only at hr
    subst hr
    exact wpAny_pure q
end
end DL
set_option maxHeartbeats 2000000
/-! DS3: the search in a set of such keys. -/
namespace DL
open PySem PySem.Spec PyProof.Rows L2 TS
structure SetK (P : Program) (w : World) (h : Heap) (a : Addr) (C : List (Addr × PyData)) (es : Array (Int × Value)) (ep : Nat) (t : SetTable) : Prop where
  obj : ∃ o, h.get? a = some o ∧ o.ExactSet ∧ o.data = .set es ep t
  rows : es.toList = C.map fun p => (hashD P w p.2, Value.ref p.1)
  tab : TabOk t (C.map fun p => hashD P w p.2)
  dist : (C.map (·.2)).Nodup
  keys : ∀ p ∈ C, KeyAt h p.2 p.1
  plain : t.plain = true
  led : w.params.followText "set-order" = true ∨ t.led = true
  room : C.length * 5 < t.mask * 3
  few : C.length < 64
section
variable {P : Program} {w : World} {A : Around} {E : Value → Shared → Prop} {s : Shared} {a : Addr} {C : List (Addr × PyData)} {es : Array (Int × Value)} {ep : Nat} {t : SetTable}
theorem SetK.size {h : Heap} (W : SetK P w h a C es ep t) : es.size = C.length := by
  have q := congrArg List.length W.rows
  rw [Array.length_toList, List.length_map] at q
  exact q
theorem SetK.cells {h : Heap} (W : SetK P w h a C es ep t) : t.place.size = C.length := by
  have q := W.tab.sz
  rw [List.length_map] at q
  exact q
theorem SetK.fits {h : Heap} (W : SetK P w h a C es ep t) : t.fits es.size = true := by
  have q1 := W.cells
  have q2 := W.size
  have q3 := W.room
  unfold SetTable.fits SetTable.fill
  rw [W.tab.dm, Bool.and_eq_true, beq_iff_eq, decide_eq_true_eq]
  show t.place.size = es.size ∧ t.place.size + 0 ≤ t.mask
  omega
theorem SetK.row {h : Heap} (W : SetK P w h a C es ep t) {i : Nat} {p : Addr × PyData} (q : C[i]? = some p) : es[i]? = some (hashD P w p.2, Value.ref p.1) := by
  rw [← Array.getElem?_toList, W.rows, List.getElem?_map, q]
  rfl
theorem SetK.whole {h : Heap} (W : SetK P w h a C es ep t) : ¬ t.gaveWay = true := by
  unfold SetTable.gaveWay
  rw [mask_odd W.tab.mok]
  decide
/-- where a search of H stands behind c steps -/
abbrev at' (t : SetTable) (H : Int) (c : Nat) : SetTable.Probe := nth t.mask (runAt t.mask (SetTable.bits H % (t.mask + 1)) (SetTable.bits H)) c
theorem at_add (t : SetTable) (H : Int) (c q : Nat) : nth t.mask (at' t H c) q = at' t H (c + q) := (nth_add t.mask c _ q).symm
theorem at_dummy (t : SetTable) (H : Int) (c : Nat) : (at' t H c).dummy = none := by
  have key : ∀ (n : Nat) (p : SetTable.Probe), p.dummy = none → (nth t.mask p n).dummy = none := by
    intro n
    induction n with
    | zero => exact fun p q => q
    | succ n ih =>
      intro p q
      refine ih (adv t.mask p) ?_
      unfold adv
      split <;> exact q
  exact key c _ rfl
/-- the search, from its c-th step on -/
theorem seek (W : SetK P w s.heap a C es ep t) {x : Addr} {k : PyData} (kx : KeyAt s.heap k x) (hu : A.units + 8 < cLine) {N : Nat} (hN : N < 10 * SetTable.turns t.mask)
    (free : way t.mask (hashD P w k) N ∉ t.place.toList) (full : ∀ c, c < N → way t.mask (hashD P w k) c ∈ t.place.toList) {Q : SetFound → Shared → Prop}
    (yes : k ∈ C.map (·.2) → Q (.there none) s) (no : k ∉ C.map (·.2) → Q (.free (way t.mask (hashD P w k) N) false) s) :
    ∀ (f c : Nat) (from' : Option SetTable.Probe), from'.getD (t.probeStart (hashD P w k)) = at' t (hashD P w k) c → c ≤ N → N - c < f →
      (∀ (i : Nat) p, C[i]? = some p → p.2 = k → ∃ c', c ≤ c' ∧ c' < N ∧ t.place.toList[i]? = some (way t.mask (hashD P w k) c')) →
      wpAny (model P w) A (setSearchFrom a (.ref x) (hashD P w k) true f from') Q E s := by
  intro f
  induction f with
  | zero => intro c from' _ _ q _; exact absurd q (Nat.not_lt_zero _)
  | succ f ih =>
    intro c from' here hc hf ahead
    obtain ⟨o, go, _, gd⟩ := W.obj
    rw [setSearchFrom_succ]
    refine wpAny_bind (wpAny_setState_of go gd W.fits ?_)
    dsimp only
    refine wp_if_neg W.whole ?_
    try refine wpAny_bind (wpAny_pure ?_)
    generalize hH : hashD P w k = H at *
    have eq1 : ∀ q, (nth t.mask (at' t H c) q).j = way t.mask H (c + q) := fun q => congrArg SetTable.Probe.j (at_add t H c q)
    have told : ∀ (i : Nat) p, C[i]? = some p → (fun i => (es[i]?.map (·.1)).getD 0) i = hashD P w p.2 := fun i p hp => by
      show (es[i]?.map (·.1)).getD 0 = _
      rw [W.row hp]
      rfl
    have probe := go_spec t W.tab.ris W.tab.dm (fun i => (es[i]?.map (·.1)).getD 0) H (10 * SetTable.turns t.mask) (N - c) (at' t H c) (at_dummy t H c) (by omega)
      (fun q hq => by rw [eq1]; exact full (c + q) (by omega)) (by rw [eq1, show c + (N - c) = N by omega]; exact free)
    rcases probe with ⟨q, i, hq, hi, _, before, go'⟩ | ⟨before, go'⟩
    · have pr : t.probe (fun i => (es[i]?.map (·.1)).getD 0) H (from'.getD (t.probeStart H)) = some (.candidate (way t.mask H (c + q)) i (at' t H (c + (q + 1)))) := by
        rw [here, ← eq1, ← at_add]
        exact go'
      rw [pr]
      dsimp only
      rw [eq1] at hi
      have hil : i < C.length := by
        have q1 := (List.getElem?_eq_some_iff.mp hi).1
        rw [Array.length_toList, W.cells] at q1
        exact q1
      obtain ⟨p, hp⟩ : ∃ p, C[i]? = some p := ⟨_, List.getElem?_eq_getElem hil⟩
      have mem : p ∈ C := List.mem_of_getElem? hp
      have live : t.slot (way t.mask H (c + q)) = .live i := slot_live W.tab.ris hi
      have go2 : wpAny (model P w) A (searchRest a (.ref x) H true f es t (way t.mask H (c + q)) i (at' t H (c + (q + 1)))) Q E s := by
        unfold searchRest
        rw [W.row hp]
        dsimp only
        refine wpAny_bind (wpAny_holding (key_eq (W.keys p mem) kx hu fun same hsame => ?_))
        refine wpAny_bind (wpAny_setState_of go gd W.fits ?_)
        dsimp only
        cases same with
        | true =>
          refine wp_if_pos rfl (wpAny_pure (yes ?_))
          exact List.mem_map.mpr ⟨p, mem, hsame.mp rfl⟩
        | false =>
          have other : p.2 ≠ k := fun z => Bool.false_ne_true (hsame.mpr z)
          refine wp_if_neg (by simp) ?_
          try refine wpAny_bind (wpAny_pure ?_)
          rw [sameMem]
          dsimp only
          simp only [if_true, live, W.row hp]
          refine wpAny_bind (wpAny_isSame_ref_self (wpAny_bind (wpAny_pure ?_)))
          simp only [if_true]
          refine wp_if_neg (by simp) ?_
          refine ih (c + (q + 1)) _ rfl (by omega) (by omega) fun i0 p0 h0 e0 => ?_
          obtain ⟨c', b1, b2, b3⟩ := ahead i0 p0 h0 e0
          refine ⟨c', ?_, b2, b3⟩
          rcases Nat.lt_trichotomy c' (c + q) with z | z | z
          · exfalso
            refine before (c' - c) i0 (by omega) (by rw [eq1, show c + (c' - c) = c' by omega]; exact b3) ?_
            exact (told i0 p0 h0).trans (by rw [e0, hH])
          · exfalso
            rw [z] at b3
            have l2 := slot_live W.tab.ris b3
            rw [live] at l2
            injection l2 with l2
            rw [← l2, hp] at h0
            exact other ((congrArg Prod.snd (Option.some.inj h0)).trans e0)
          · omega
      by_cases hl : t.led = true
      · refine wp_if_neg (by simp [hl]) ?_
        try refine wpAny_bind (wpAny_pure ?_)
        exact go2
      · refine wp_if_pos (by simp [hl]) (wpAny_bind (key_seen kx (fun u hu' => ?_) ?_))
        · obtain ⟨e, he, rfl⟩ := List.mem_map.mp hu'
          have he2 : e ∈ es.toList := by
            have : e ∈ es ∧ e.1 = H := by simpa using he
            simpa using this.1
          rw [W.rows] at he2
          obtain ⟨p2, hp2, rfl⟩ := List.mem_map.mp he2
          exact ⟨p2.2, p2.1, rfl, W.keys p2 hp2⟩
        · refine wp_if_neg (by decide) ?_
          try refine wpAny_bind (wpAny_pure ?_)
          exact go2
    · have pr : t.probe (fun i => (es[i]?.map (·.1)).getD 0) H (from'.getD (t.probeStart H)) = some (.empty (way t.mask H N) none) := by
        have e2 : way t.mask H N = (nth t.mask (at' t H c) (N - c)).j := by rw [eq1, show c + (N - c) = N by omega]
        rw [here, e2]
        exact go'
      rw [pr]
      dsimp only
      refine wpAny_pure (no fun hm => ?_)
      obtain ⟨p0, m0, e0⟩ := List.mem_map.mp hm
      obtain ⟨i0, hi0, g0⟩ := List.getElem_of_mem m0
      have h00 : C[i0]? = some p0 := by rw [List.getElem?_eq_getElem hi0, g0]
      obtain ⟨c', b1, b2, b3⟩ := ahead i0 p0 h00 e0
      refine before (c' - c) i0 (by omega) (by rw [eq1, show c + (c' - c) = c' by omega]; exact b3) ?_
      exact (told i0 p0 h00).trans (by rw [e0, hH])
/-- the search as adding asks for it -/
theorem seek_all (W : SetK P w s.heap a C es ep t) {x : Addr} {k : PyData} (kx : KeyAt s.heap k x) (hu : A.units + 8 < cLine) {Q : SetFound → Shared → Prop} (yes : k ∈ C.map (·.2) → Q (.there none) s)
    (no : ∀ N, k ∉ C.map (·.2) → way t.mask (hashD P w k) N ∉ t.place.toList → (∀ c, c < N → way t.mask (hashD P w k) c ∈ t.place.toList) → Q (.free (way t.mask (hashD P w k) N) false) s) :
    wpAny (model P w) A (setSearch a (.ref x) (hashD P w k) true) Q E s := by
  have hr := W.room
  obtain ⟨N, n1, n2, n3⟩ := W.tab.first (by rw [List.length_map]; omega) (hashD P w k)
  have small : N < 100000 := by
    have : 10 * SetTable.turns t.mask ≤ 1420 := by
      unfold SetTable.turns
      rcases W.tab.mok with e | e | e <;> omega
    omega
  unfold setSearch
  refine seek W kx hu n1 n2 n3 yes (fun z => no N z n2 n3) 100000 0 none rfl (Nat.zero_le _) (by omega) fun i p hp e => ?_
  have hi : (C.map fun p => hashD P w p.2)[i]? = some (hashD P w k) := by rw [List.getElem?_map, hp, ← e]; rfl
  have hil : i < t.place.toList.length := by
    rw [Array.length_toList, W.cells]
    exact (List.getElem?_eq_some_iff.mp hp).1
  have hj := List.getElem?_eq_getElem hil
  obtain ⟨c, hc, e2⟩ := W.tab.before n2 hi hj
  exact ⟨c, Nat.zero_le _, hc, by rw [hj, e2]⟩
end
end DL
/-! DS4: a key put into a set. -/
namespace DL
open PySem PySem.Spec PyProof.Rows L2 TS
theorem reads_same {h h' : Heap} {a : Addr} {o : Obj} {es : Array (Int × Value)} {ep : Nat} {t : SetTable} (go : h.get? a = some o) (gd : o.data = .set es ep t) (sb : Heap.SameBut a h h') :
    ∀ (d : PyData) (v : Value) (as : List Addr), hashable d = true → Reads h v d as → ∃ bs, Reads h' v d bs
  | .int i, v, as, _, r => by cases r; exact ⟨_, .int i _⟩
  | .tuple xs, v, as, q, r => by
    have q' : hashables xs = true := by simpa [hashable] using q
    cases r with
    | @tuple b ob vs n _ _ h1 h2 h3 h4 =>
    have ne : b ≠ a := by
      rintro rfl
      rw [go] at h1
      have e : o = ob := Option.some.inj h1
      rw [e, h3] at gd
      cases gd
    have all : ∀ (us : List Value) (ys : List PyData) (cs : List Addr), (∀ y ∈ ys, y ∈ xs) → hashables ys = true → ReadsAll h us ys cs → ∃ bs, ReadsAll h' us ys bs := by
      intro us
      induction us with
      | nil => intro ys cs _ _ r; cases r; exact ⟨_, .nil⟩
      | cons u us ih =>
        intro ys cs sub q r
        cases r with
        | @cons _ _ d ds c1 c2 r1 r2 =>
        have q2 : hashable d = true ∧ hashables ds = true := by simpa only [hashables, Bool.and_eq_true] using q
        have hm : d ∈ xs := sub d (List.mem_cons_self ..)
        have := List.sizeOf_lt_of_mem hm
        obtain ⟨b1, w1⟩ := reads_same go gd sb d u c1 q2.1 r1
        obtain ⟨b2, w2⟩ := ih ds c2 (fun y hy => sub y (List.mem_cons_of_mem _ hy)) q2.2 r2
        exact ⟨_, .cons w1 w2⟩
    obtain ⟨bs, w⟩ := all vs.toList xs _ (fun _ h => h) q' h4
    exact ⟨bs, .tuple ((sb.2 b ne).trans h1) h2 h3 w⟩
  | .none, _, _, q, _ => by simp [hashable] at q
  | .bool _, _, _, q, _ => by simp [hashable] at q
  | .str _, _, _, q, _ => by simp [hashable] at q
  | .list _, _, _, q, _ => by simp [hashable] at q
  | .dict _, _, _, q, _ => by simp [hashable] at q
termination_by d => sizeOf d
theorem key_same {h h' : Heap} {a b : Addr} {d : PyData} {o : Obj} {es : Array (Int × Value)} {ep : Nat} {t : SetTable} (k : KeyAt h d b) (go : h.get? a = some o) (gd : o.data = .set es ep t) (sb : Heap.SameBut a h h') : KeyAt h' d b := by
  obtain ⟨⟨as, r⟩, q1, q2⟩ := k
  exact ⟨reads_same go gd sb d _ as q1 r, q1, q2⟩
def rowK (P : Program) (w : World) (p : Addr × PyData) : Int × Value := (hashD P w p.2, Value.ref p.1)
section
variable {P : Program} {w : World} {A : Around} {E : Value → Shared → Prop} {s : Shared} {a : Addr} {C : List (Addr × PyData)} {es : Array (Int × Value)} {ep : Nat} {t : SetTable}
/-- picked anew in another order -/
theorem picked (order : Array Nat) (hr : es.toList = C.map (rowK P w)) (hp : order.toList.Perm (List.range C.length)) :
    ∃ D : List (Addr × PyData), (order.filterMap (es[·]?)).toList = D.map (rowK P w) ∧ D.Perm C ∧ (D.map fun p => hashD P w p.2) = order.toList.map fun i => (es.map (·.1)).getD i 0 := by
  have at1 : ∀ i, es[i]? = (C[i]?).map (rowK P w) := fun i => by rw [← Array.getElem?_toList, hr, List.getElem?_map]
  have go : ∀ l : List Nat, (∀ i ∈ l, i < C.length) → l.filterMap (fun i => es[i]?) = (l.filterMap fun i => C[i]?).map (rowK P w) ∧ ((l.filterMap fun i => C[i]?).map fun p => hashD P w p.2) = l.map fun i => (es.map (·.1)).getD i 0 := by
    intro l
    induction l with
    | nil => intro _; exact ⟨rfl, rfl⟩
    | cons i l ih =>
      intro hl
      have hi := hl i List.mem_cons_self
      obtain ⟨u1, u2⟩ := ih fun j hj => hl j (List.mem_cons_of_mem _ hj)
      have c1 : C[i]? = some C[i] := List.getElem?_eq_getElem hi
      have c2 : es[i]? = some (rowK P w C[i]) := by rw [at1, c1]; rfl
      refine ⟨?_, ?_⟩
      · rw [List.filterMap_cons_some c2, List.filterMap_cons_some c1, List.map_cons, u1]
      · rw [List.filterMap_cons_some c1, List.map_cons, List.map_cons, u2]
        have c3 : (es.map (·.1))[i]? = some (hashD P w (C[i]).2) := by rw [Array.getElem?_map, c2]; rfl
        have c4 : (es.map (·.1)).getD i 0 = hashD P w (C[i]).2 := by simp [Array.getD_eq_getD_getElem?, c3]
        rw [c4]
  obtain ⟨u1, u2⟩ := go order.toList fun i hi => List.mem_range.mp (hp.mem_iff.mp hi)
  refine ⟨order.toList.filterMap fun i => C[i]?, by first | (rw [Array.toList_filterMap]; exact u1) | simpa using u1, ?_, u2⟩
  have whole : (List.range C.length).filterMap (fun i => C[i]?) = C := by
    refine List.ext_getElem? fun n => ?_
    have key : ∀ m, m ≤ C.length → (List.range m).filterMap (fun i => C[i]?) = C.take m := by
      intro m
      induction m with
      | zero => intro _; rfl
      | succ m ih =>
        intro hm
        have lt : m < C.length := hm
        have c1 : C[m]? = some C[m] := List.getElem?_eq_getElem lt
        rw [List.range_succ, List.filterMap_append, ih (Nat.le_of_lt lt), List.filterMap_cons_some c1, List.take_succ, c1]
        rfl
    rw [key C.length (Nat.le_refl _), List.take_length]
  have := hp.filterMap fun i => C[i]?
  rw [whole] at this
  exact this
theorem relay_ok {o : Obj} (go : s.heap.get? a = some o) (gx : o.ExactSet) (gd : o.data = .set es ep t) (hrows : es.toList = C.map (rowK P w)) (hcells : t.place.size = es.size) (hdm : t.dummies = #[]) (hle : es.size ≤ t.mask)
    (dist : (C.map (·.2)).Nodup) (keys : ∀ p ∈ C, KeyAt s.heap p.2 p.1) (pl : t.plain = true) (ld : w.params.followText "set-order" = true ∨ t.led = true) (few : C.length < 64) {wanted M : Nat}
    (h1 : SetTable.sizeAbove wanted - 1 = M) (h2 : MaskOk M) (h3 : SetTable.sizeAbove wanted ≤ 128) (h4 : C.length * 5 < M * 3) {Q : Unit → Shared → Prop}
    (q : ∀ h' C' es' ep' t', Heap.SameBut a s.heap h' → SetK P w h' a C' es' ep' t' → C'.Perm C → Q () { s with heap := h' }) : wpAny (model P w) A (setRelay a wanted) Q E s := by
  have size : es.size = C.length := by
    have z := congrArg List.length hrows
    rw [Array.length_toList, List.length_map] at z
    exact z
  have fits : t.fits es.size = true := by
    unfold SetTable.fits SetTable.fill
    rw [hdm, Bool.and_eq_true, beq_iff_eq, decide_eq_true_eq]
    show t.place.size = es.size ∧ t.place.size + 0 ≤ t.mask
    omega
  obtain ⟨t2, order, e1, op, T, em, el, epl, ed⟩ := relaid_ok t (hs := es.map (·.1)) (wanted := wanted) h1 h2 (by rw [Array.size_map, size]; omega)
  rw [Array.size_map, size] at op
  obtain ⟨D, d1, d2, d3⟩ := picked order hrows op
  rw [← d3] at T
  have size2 : (order.filterMap (es[·]?)).size = es.size := by
    have z := congrArg List.length d1
    rw [Array.length_toList, List.length_map, d2.length_eq] at z
    rw [z, size]
  rw [setRelay_eq]
  refine wpAny_bind (wpAny_setState_of go gd fits ?_)
  dsimp only
  refine wp_if_neg (by rw [sizeLine_eq]; omega) ?_
  try refine wpAny_bind (wpAny_pure ?_)
  rw [e1]
  dsimp only
  refine wpAny_bind ?_
  refine wp_if_neg (by rw [size2]; simp) ?_
  try refine wpAny_bind (wpAny_pure ?_)
  refine wpAny_pure ?_
  dsimp only
  refine wpAny_storeSet_of go gd ?_ (by rw [size2, size, sizeLine_eq]; omega)
  have sb : Heap.SameBut a s.heap (s.heap.update a (Obj.putSet (order.filterMap (es[·]?)) t2)) := Heap.SameBut.update ..
  refine q _ D (order.filterMap (es[·]?)) (ep + 1) t2 sb ?_ d2
  refine ⟨⟨_, store_at go gd, ⟨gx.1, gx.2.1, gx.2.2⟩, rfl⟩, d1, T, (d2.map (·.2)).nodup_iff.mpr dist, fun p hp => key_same (keys p (d2.mem_iff.mp hp)) go gd sb, by rw [epl]; exact pl, by rw [el]; exact ld, ?_, by rw [d2.length_eq]; exact few⟩
  rw [d2.length_eq, em]
  exact h4
/-- adding -/
theorem add_ok (W : SetK P w s.heap a C es ep t) {x : Addr} {k : PyData} (kx : KeyAt s.heap k x) (hu : A.units + 8 < cLine) (hfew : C.length + 1 < 64) {Q : Bool → Shared → Prop}
    (q : ∀ b h' C' es' ep' t', Heap.SameBut a s.heap h' → SetK P w h' a C' es' ep' t' → (k ∈ C.map (·.2) → C' = C) → (k ∉ C.map (·.2) → C'.Perm ((x, k) :: C)) → Q b { s with heap := h' }) :
    wpAny (model P w) A (setAddHashed a (.ref x) (hashD P w k)) Q E s := by
  obtain ⟨o, go, gx, gd⟩ := W.obj
  have size := W.size
  have room := W.room
  unfold setAddHashed
  refine wpAny_holding ?_
  rw [show (100000 : Nat) = 99999 + 1 from rfl, setAddHashedIn_succ]
  refine wpAny_bind (wpAny_setState_of go gd W.fits ?_)
  dsimp only
  refine wp_if_neg (by simp [byScan, Value.scannable]) ?_
  try refine wpAny_bind (wpAny_pure ?_)
  refine wpAny_bind (seek_all W kx hu (fun hm => ?_) fun N hm n1 n2 => ?_)
  · dsimp only
    exact wpAny_pure (q false s.heap C es ep t (Heap.SameBut.refl a s.heap) W (fun _ => rfl) fun z => absurd hm z)
  · dsimp only
    refine wpAny_bind (wpAny_setState_of go gd W.fits ?_)
    dsimp only
    obtain ⟨p1, p2, p3, p4, p5, p6, p7, p8, p9⟩ := W.tab.put n1 n2
    have plain1 : (t.put (way t.mask (hashD P w k) N)).1.plain = true := by rw [p6]; exact W.plain
    generalize hpt : t.put (way t.mask (hashD P w k) N) = pt at p1 p3 p4 p5 p6 p7 p8 p9 plain1 ⊢
    obtain ⟨t1, i⟩ := pt
    dsimp only at p1 p3 p4 p5 p6 p7 p8 p9 plain1 ⊢
    subst p1
    first
      | (refine wpAny_bind ?_; refine wp_if_pos plain1 ?_; refine key_byval kx ?_)
      | refine wp_if_pos plain1 (wpAny_bind (key_byval kx ?_))
    simp only [if_true]
    have rows1 : (SetTable.insertAt es (SetTable.below t.place (way t.mask (hashD P w k) N)) (hashD P w k, Value.ref x)).toList = (C.take (SetTable.below t.place (way t.mask (hashD P w k) N)) ++ (x, k) :: C.drop (SetTable.below t.place (way t.mask (hashD P w k) N))).map (rowK P w) := by
      rw [SetTable.toList_insertAt, W.rows, List.map_append, List.map_cons, List.map_take, List.map_drop]
      rfl
    generalize SetTable.below t.place (way t.mask (hashD P w k) N) = i at p2 p3 rows1 ⊢
    have pm := put_perm C i (x, k)
    have len1 : (C.take i ++ (x, k) :: C.drop i).length = C.length + 1 := pm.length_eq
    have hash1 : (C.take i ++ (x, k) :: C.drop i).map (fun p => hashD P w p.2) = (C.map fun p => hashD P w p.2).take i ++ hashD P w k :: (C.map fun p => hashD P w p.2).drop i := by
      rw [List.map_append, List.map_cons, List.map_take, List.map_drop]
    rw [← hash1] at p3
    have dist1 : ((C.take i ++ (x, k) :: C.drop i).map (·.2)).Nodup := by
      refine (pm.map (·.2)).nodup_iff.mpr ?_
      rw [List.map_cons]
      exact List.nodup_cons.mpr ⟨hm, W.dist⟩
    have size1 : (SetTable.insertAt es i (hashD P w k, Value.ref x)).size = C.length + 1 := by
      have z := congrArg List.length rows1
      rw [Array.length_toList, List.length_map, len1] at z
      exact z
    generalize SetTable.insertAt es i (hashD P w k, Value.ref x) = es1 at rows1 size1 ⊢
    generalize C.take i ++ (x, k) :: C.drop i = C1 at pm len1 p3 dist1 rows1
    refine wpAny_bind (wpAny_storeSet_of go gd ?_ (by rw [size1, sizeLine_eq]; omega))
    have sb : Heap.SameBut a s.heap (s.heap.update a (Obj.putSet es1 t1)) := Heap.SameBut.update ..
    have go1 := store_at (es' := es1) (t' := t1) go gd
    generalize s.heap.update a (Obj.putSet es1 t1) = hp1 at sb go1 ⊢
    have keys1 : ∀ p ∈ C1, KeyAt hp1 p.2 p.1 := fun p hp => by
      rcases List.mem_cons.mp (pm.mem_iff.mp hp) with e | hp
      · rw [e]; exact key_same kx go gd sb
      · exact key_same (W.keys p hp) go gd sb
    have led1 : w.params.followText "set-order" = true ∨ t1.led = true := by rw [p5]; exact W.led
    by_cases full : t1.tooFull = true
    · first
        | (refine wpAny_bind ?_; refine wp_if_pos (by simp [full]) ?_)
        | (refine wp_if_pos (by simp [full]) ?_; refine wpAny_bind ?_)
      have fullN : (C.length + 1) * 5 ≥ t1.mask * 3 := by
        have z := full
        unfold SetTable.tooFull at z
        rw [decide_eq_true_eq, p9, List.length_map] at z
        exact z
      rw [size]
      have cells1 : t1.place.size = es1.size := by
        have z := p3.sz
        rw [List.length_map, len1] at z
        rw [z, size1]
      have two : (t.mask = 7 ∧ C.length = 4) ∨ (t.mask = 31 ∧ C.length = 18) := by
        rcases W.tab.mok with e | e | e
        · left; rw [p4, e] at fullN; rw [e] at room; exact ⟨e, by omega⟩
        · right; rw [p4, e] at fullN; rw [e] at room; exact ⟨e, by omega⟩
        · exfalso; rw [p4, e] at fullN; omega
      have lay : ∀ M, SetTable.sizeAbove (SetTable.grown (C.length + 1)) - 1 = M → MaskOk M → SetTable.sizeAbove (SetTable.grown (C.length + 1)) ≤ 128 → (C.length + 1) * 5 < M * 3 →
          wpAny (model P w) A (setRelay a (SetTable.grown (C.length + 1))) (fun _ s' => wpAny (model P w) A (pure true) Q E s') E { s with heap := hp1 } := fun M m1 m2 m3 m4 => by
        refine relay_ok (s := { s with heap := hp1 }) go1 ⟨gx.1, gx.2.1, gx.2.2⟩ rfl rows1 cells1 p3.dm (by rw [size1, p4]; rcases two with ⟨e, e2⟩ | ⟨e, e2⟩ <;> omega) dist1 keys1 plain1 led1 (by rw [len1]; exact hfew) m1 m2 m3 (by rw [len1]; exact m4) ?_
        intro hp2 C2 es2 ep2 t2 sb2 W2 pm2
        exact wpAny_pure (q true hp2 C2 es2 ep2 t2 (sb.trans sb2) W2 (fun z => absurd z hm) fun _ => pm2.trans pm)
      rcases two with ⟨_, e2⟩ | ⟨_, e2⟩
      · exact lay 31 (by rw [e2, size_20]) (.inr (.inl rfl)) (by rw [e2, size_20]; decide) (by omega)
      · exact lay 127 (by rw [e2, size_76]) (.inr (.inr rfl)) (by rw [e2, size_76]; decide) (by omega)
    · first
        | refine wp_if_neg (by simp [full]) ?_
        | (refine wpAny_bind ?_; refine wp_if_neg (by simp [full]) ?_; refine wpAny_pure ?_)
      refine wpAny_pure (q true hp1 C1 es1 (ep + 1) t1 sb ⟨⟨_, go1, ⟨gx.1, gx.2.1, gx.2.2⟩, rfl⟩, rows1, p3, dist1, keys1, plain1, led1, ?_, by rw [len1]; exact hfew⟩ (fun z => absurd z hm) fun _ => pm)
      have z := full
      unfold SetTable.tooFull at z
      rw [decide_eq_true_eq, p9, List.length_map] at z
      rw [len1]
      omega
end
end DL
/-! DS5: a set filled from a walk. -/
namespace DL
open PySem PySem.Spec PyProof.Rows L2 TS
/-- what a set has from the first n keys -/
structure Has (ks : List (Addr × PyData)) (n : Nat) (C : List (Addr × PyData)) : Prop where
  from' : ∀ p ∈ C, p ∈ ks.take n
  each : ∀ p ∈ ks.take n, p.2 ∈ C.map (·.2)
  most : C.length ≤ n
theorem Has.none (ks : List (Addr × PyData)) : Has ks 0 [] := ⟨fun _ q => (nomatch q), fun p q => (by simp at q), Nat.le_refl _⟩
theorem Has.next {ks C D : List (Addr × PyData)} {n : Nat} {x : Addr × PyData} (g : Has ks n C) (q : ks[n]? = some x) (h1 : x.2 ∈ C.map (·.2) → D = C) (h2 : x.2 ∉ C.map (·.2) → D.Perm (x :: C)) : Has ks (n + 1) D := by
  have tk : ks.take (n + 1) = ks.take n ++ [x] := by rw [List.take_succ, q]; rfl
  by_cases c : x.2 ∈ C.map (·.2)
  · have e := h1 c
    subst e
    refine ⟨fun p hp => ?_, fun p hp => ?_, Nat.le_succ_of_le g.most⟩
    · rw [tk]; exact List.mem_append_left _ (g.from' p hp)
    · rw [tk] at hp
      rcases List.mem_append.mp hp with z | z
      · exact g.each p z
      · rw [List.mem_singleton.mp z]; exact c
  · have pm := h2 c
    refine ⟨fun p hp => ?_, fun p hp => ?_, ?_⟩
    · rw [tk]
      rcases List.mem_cons.mp (pm.mem_iff.mp hp) with z | z
      · rw [z]; exact List.mem_append_right _ (List.mem_singleton.mpr rfl)
      · exact List.mem_append_left _ (g.from' p z)
    · rw [(pm.map (·.2)).mem_iff, List.map_cons]
      rw [tk] at hp
      rcases List.mem_append.mp hp with z | z
      · exact List.mem_cons_of_mem _ (g.each p z)
      · rw [List.mem_singleton.mp z]; exact List.mem_cons_self
    · rw [pm.length_eq, List.length_cons]
      exact Nat.succ_le_succ g.most
theorem reads_kept {h h' : Heap} (kp : ∀ b o, h.get? b = some o → h'.get? b = some o) {v : Value} {d : PyData} {as : List Addr} (r : Reads h v d as) : Reads h' v d as := PyProof.Rows.Reads.keeps kp r
theorem key_kept {h h' : Heap} (kp : ∀ b o, h.get? b = some o → h'.get? b = some o) {d : PyData} {b : Addr} (k : KeyAt h d b) : KeyAt h' d b := by
  obtain ⟨⟨as, r⟩, q⟩ := k
  exact ⟨⟨as, reads_kept kp r⟩, q⟩
section
variable {P : Program} {w : World} {A : Around} {E : Value → Shared → Prop} {s : Shared}
theorem SetK.kept {h h' : Heap} {a : Addr} {C : List (Addr × PyData)} {es : Array (Int × Value)} {ep : Nat} {t : SetTable} (W : SetK P w h a C es ep t) (ha : ∀ o, h.get? a = some o → h'.get? a = some o) (hk : ∀ p ∈ C, KeyAt h' p.2 p.1) : SetK P w h' a C es ep t := by
  obtain ⟨o, go, r⟩ := W.obj
  exact ⟨⟨o, ha o go, r⟩, W.rows, W.tab, W.dist, hk, W.plain, W.led, W.room, W.few⟩
theorem setK_new {h : Heap} {a : Addr} (go : h.get? a = some { cls := .type "set", dict := none, data := .set #[] 0 (.fresh 0 0 (!w.params.followText "set-order")) }) : SetK P w h a [] #[] 0 (.fresh 0 0 (!w.params.followText "set-order")) where
  obj := ⟨_, go, ⟨rfl, rfl, rfl⟩, rfl⟩
  rows := rfl
  tab := ⟨List.Pairwise.nil, rfl, rfl, .inl rfl, fun x q => (by cases q), fun i h j q => (by simp at q)⟩
  dist := List.nodup_nil
  keys := fun p q => (by cases q)
  plain := rfl
  led := by
    show _ ∨ (!w.params.followText "set-order") = true
    cases w.params.followText "set-order"
    · exact .inr rfl
    · exact .inl rfl
  room := by
    show 0 * 5 < 7 * 3
    decide
  few := by
    show 0 < 64
    decide
/-- the loop of set.update over keys -/
theorem fill {I : Addr} {fp wr : List Addr} {G : Array GenState → Array GenState → Prop} {n : Nat} {Pv : Nat → Value → Prop} {St : Nat → Shared → Prop} {R : Result → Shared → Prop}
    (Wk : WalksS P w A.in1 I fp wr G n Pv St) (S : Addr) (out1 : S ∉ fp) (ks : List (Addr × PyData)) (hn : n = ks.length) (few : ks.length < 64) (val : ∀ i v, Pv i v → ∃ p, ks[i]? = some p ∧ v = .ref p.1)
    (h0 : Heap) (keys : ∀ p ∈ ks, KeyAt h0 p.2 p.1) (hS : h0.get? S = none) (hw : ∀ b ∈ wr, h0.get? b = none) (hu : A.in1.units + 8 < cLine) :
    ∀ (left i : Nat) (s : Shared), n - i = left → i ≤ n → St i s → (∀ b o, h0.get? b = some o → s.heap.get? b = some o) → (∃ C es ep t, SetK P w s.heap S C es ep t ∧ Has ks i C) →
      (∀ s' C es ep t, Moved (S :: wr) G s s' → SetK P w s'.heap S C es ep t → Has ks n C → (∀ b o, h0.get? b = some o → s'.heap.get? b = some o) → R (.ok (.ret .none)) s') →
      codeAny (model P w) A (.builtin "set.update.loop" ⟨[.ref S, .ref I], []⟩) R s := by
  have out2 : S ∉ wr := fun z => out1 (Wk.sub _ z)
  have more : ∀ b ∈ wr, b ∈ S :: wr := fun b hb => List.mem_cons_of_mem _ hb
  have stay : ∀ {s s' : Shared}, Moved wr G s s' → (∀ b o, h0.get? b = some o → s.heap.get? b = some o) → ∀ b o, h0.get? b = some o → s'.heap.get? b = some o := fun mv kp b o e =>
    mv.heap b o (fun hb => by rw [hw b hb] at e; cases e) (kp b o e)
  intro left
  induction left with
  | zero =>
    intro i s hl hi st kp ⟨C, es, ep, t, W, g⟩ fin
    have e : i = n := by omega
    subst e
    refine codeAny_builtin F.entry_set_update_loop ?_
    rw [Around.under_plainId F.plain_set_update_loop _]
    show wpAny _ A.in1 (pyNext (.ref I) >>= _) _ _ s
    refine wpAny_bind (Wk.done s _ _ st fun s2 mv => ?_)
    show wpAny _ A.in1 (ret Value.none) _ _ s2
    have kp2 := stay mv kp
    have old : ∀ p ∈ C, p ∈ ks := fun p hp => List.mem_of_mem_take (g.from' p hp)
    exact wpAny_pure (fin s2 C es ep t (mv.mono more) (W.kept (fun o e => mv.heap S o out2 e) fun p hp => key_kept kp2 (keys p (old p hp))) g kp2)
  | succ left ih =>
    intro i s hl hi st kp ⟨C, es, ep, t, W, g⟩ fin
    have lt : i < n := by omega
    refine codeAny_builtin F.entry_set_update_loop ?_
    rw [Around.under_plainId F.plain_set_update_loop _]
    show wpAny _ A.in1 (pyNext (.ref I) >>= _) _ _ s
    refine wpAny_bind (Wk.item i s _ _ lt st fun v s2 pv st2 mv => ?_)
    obtain ⟨p, hp, rfl⟩ := val i v pv
    have kp2 := stay mv kp
    have old : ∀ p ∈ C, p ∈ ks := fun p hp => List.mem_of_mem_take (g.from' p hp)
    have W2 : SetK P w s2.heap S C es ep t := W.kept (fun o e => mv.heap S o out2 e) fun q hq => key_kept kp2 (keys q (old q hq))
    have kx : KeyAt s2.heap p.2 p.1 := key_kept kp2 (keys p (List.mem_of_getElem? hp))
    show wpAny _ A.in1 (holding [Value.ref p.1] (setAdd S (.ref p.1)) >>= _) _ _ s2
    refine wpAny_bind (wpAny_holding ?_)
    unfold setAdd
    refine wpAny_holding ?_
    refine wpAny_bind (key_hash kx hu fun tk htk => ?_)
    refine add_ok (s := { s2 with toks := tk }) W2 kx hu (by have := g.most; omega) fun b h2 C2 es2 ep2 t2 sb W3 c1 c2 => ?_
    have g2 : Has ks (i + 1) C2 := g.next hp c1 c2
    have kp3 : ∀ b o, h0.get? b = some o → h2.get? b = some o := fun b o e => (sb.2 b (fun z => by rw [z, hS] at e; cases e)).trans (kp2 b o e)
    refine wpAny_pure ⟨plainId_quiet F.plain_set_update_loop _, ih (i + 1) _ (by omega) lt (Wk.frame _ s2 _ _ st2 htk fun b hb o e => ?_) kp3 ⟨C2, es2, ep2, t2, W3, g2⟩ fun s4 C4 es4 ep4 t4 mv4 W4 g4 kp4 => ?_⟩
    · rw [sb.2 b (fun z : b = S => out1 (by rw [← z]; exact hb))]; exact e
    · refine fin s4 C4 es4 ep4 t4 (Moved.trans Wk.gtrans ((mv.mono more).then_heap htk fun b o hb e => ?_) mv4) W4 g4 kp4
      rw [sb.2 b (fun z : b = S => hb (by rw [z]; exact List.mem_cons_self))]; exact e
end
end DL
set_option maxHeartbeats 4000000
/-! DS6: set(xs), xs a list of keys. -/
namespace DL
open PySem PySem.Spec PyProof.Rows L2 TS
section
variable {P : Program} {w : World} {A : Around} {E : Value → Shared → Prop} {s : Shared}
abbrev bare (w : World) : Obj := { cls := .type "set", dict := none, data := .set #[] 0 (.fresh 0 0 (!w.params.followText "set-order")) }
theorem call_set_list {l : Addr} {items : Array Value} (ks : List (Addr × PyData)) {Q : Value → Shared → Prop} (calm : A.handled = none) (li : s.heap.IsList l items) (its : items.toList = ks.map fun p => Value.ref p.1)
    (keys : ∀ p ∈ ks, KeyAt s.heap p.2 p.1) (few : ks.length < 64) (hu : A.units + 12 < cLine)
    (h : ∀ (h' : Heap) (tk : Nat) C es ep t, SetK P w h' s.heap.objs.size C es ep t → Has ks ks.length C → (∀ b o, s.heap.get? b = some o → h'.get? b = some o) → Q (.ref s.heap.objs.size) { s with heap := h', toks := tk }) :
    wpAny (model P w) A (call (.type "set") [.ref l]) Q E s := by
  have size : items.size = ks.length := by
    have q := congrArg List.length its
    rw [Array.length_toList, List.length_map] at q
    exact q
  obtain ⟨c, tl, hmro⟩ := F.called_set.mro
  have hmade := F.called_set.made
  have hsub := F.called_set.sub
  refine wpAny_call (codeAny_of_tree ?_)
  show wpAny _ _ (callAny (.type "set") _) _ _ _
  refine wpAny_pure ⟨Code.quiet_builtin _ (by decide +kernel), codeAny_builtin F.entry_type_call ?_⟩
  rw [Around.under_plain (weight_type_call_type "set" [.ref l] []) rfl]
  have n1 := F.called_set.notType
  have n2 := F.called_set.canCreate
  have n3 := F.typeCall_set_1 (.ref l)
  repeat (any_goals (first | assumption | wp_step))
  refine codeAny_mono (code_set_led1 (.ref l) (E := E) (Q₁ := fun obj s1 => obj = .ref s.heap.objs.size ∧ s1 = { s with heap := s.heap.push (bare w) }) ⟨rfl, rfl⟩) fun r s1 hr => ?_
  cases r with
  | error e => exact hr
  | ok fl =>
    cases fl with
    | ret obj =>
      obtain ⟨rfl, rfl⟩ := hr
      have new : (s.heap.push (bare w)).get? s.heap.objs.size = some (bare w) := Heap.get?_push_size _ rfl
      have isS : Shared.TypeIs { s with heap := s.heap.push (bare w) } (.ref s.heap.objs.size) "set" := ⟨_, new, rfl⟩
      have m1 := F.called_set.init.lookup
      have m2 := F.called_set.init.bind (.ref s.heap.objs.size)
      repeat (any_goals (first | assumption | wp_step))
      refine codeAny_mono (codeAny_call_builtin (R := wants (fun r s2 => r = .none ∧ ∃ h' tk C es ep t, s2 = { s with heap := h', toks := tk } ∧ SetK P w h' s.heap.objs.size C es ep t ∧ Has ks ks.length C ∧
          (∀ b o, s.heap.get? b = some o → h'.get? b = some o)) E) F.called_set.init.plain F.entry_set_init (check_set_init_1 isS ?_)) fun r2 s2 hr2 => ?_
      · obtain ⟨ol, gl, cl, nl, dl⟩ := li
        obtain ⟨ocls, odict, odata, oslots⟩ := ol
        simp only at cl dl
        subst cl; subst dl
        have gl2 : (s.heap.push (bare w)).get? l = some { cls := .type "list", dict := odict, data := .seq items nl, slots := oslots } := Heap.get?_push_of_some _ gl
        have no1 := F.sub_list_set
        have no2 := F.sub_list_frozenset
        have no3 : (Value.type "list" == Value.type "dict") = false := by decide
        have li2 : (s.heap.push (bare w)).IsList l items := ⟨_, gl2, rfl, nl, rfl⟩
        unfold Builtin.«set.__init__» noKeywords Builtin.Frozenset.updateFrom
        generalize hPI : pyIter = PI
        wp_walk
        subst hPI
        refine wpAny_pyIter_list li2 ?_
        refine wpAny_bind (wpAny_runValue ?_)
        have lS : l < s.heap.objs.size := Heap.lt_size gl
        have calm3 : A.in1.in1.in1.handled = none := by simp [calm]
        have neI : l ≠ (s.heap.push (bare w)).objs.size := by
          rw [Heap.size_push]; exact Nat.ne_of_lt (Nat.lt_succ_of_lt lS)
        have outS : s.heap.objs.size ∉ [(s.heap.push (bare w)).objs.size, l] := by
          rw [Heap.size_push]; simp only [List.mem_cons, List.mem_singleton, List.not_mem_nil, or_false, not_or]
          exact ⟨Nat.ne_of_lt (Nat.lt_succ_self _), Nat.ne_of_gt lS⟩
        have val : ∀ (i : Nat) (v : Value), items[i]? = some v → ∃ p, ks[i]? = some p ∧ v = .ref p.1 := fun i v hv => by
          have q : items.toList[i]? = some v := by rw [Array.getElem?_toList]; exact hv
          rw [its, List.getElem?_map] at q
          cases hq : ks[i]? with
          | none => rw [hq] at q; cases q
          | some p =>
            rw [hq] at q
            exact ⟨p, rfl, (Option.some.inj q).symm⟩
        have beyond : ∀ b, s.heap.objs.size ≤ b → s.heap.get? b = none := fun b hb => by
          cases q : s.heap.get? b with
          | none => rfl
          | some o => exact absurd (Nat.lt_of_lt_of_le (Heap.lt_size q) hb) (Nat.lt_irrefl _)
        refine fill ((Walks.list calm3 _ l neI items).toS) s.heap.objs.size
          outS ks size few val s.heap keys (beyond _ (Nat.le_refl _)) (fun b hb => beyond b (by
            rw [List.mem_singleton.mp hb, Heap.size_push]
            exact Nat.le_succ _)) (show A.units + 1 + 1 + 1 + 8 < cLine by omega) (items.size - 0) 0 _ (by omega) (Nat.zero_le _)
          ⟨⟨_, Heap.get?_push_size _ rfl, rfl, rfl⟩, (li2.push _)⟩ (fun b o e => Heap.get?_push_of_some _ (Heap.get?_push_of_some _ e)) ?first ?last
        case first => exact ⟨[], #[], 0, _, setK_new (Heap.get?_push_of_some _ new), Has.none ks⟩
        case last =>
          intro s4 C es ep t mv W g kp
          obtain ⟨h', g2, d', tk', os'⟩ := s4
          have eg : g2 = s.gens := mv.gens
          have ed : d' = s.drawn := mv.drawn
          have eo : os' = s.os := mv.os
          subst eg; subst ed; subst eo
          show wpAny _ _ _ _ _ _
          refine wpAny_pure ?_
          show wpAny _ _ (ret Value.none) _ _ _
          rw [size] at g
          exact wpAny_pure ⟨rfl, h', tk', C, es, ep, t, rfl, W, g, kp⟩
      · cases r2 with
        | error e => exact hr2
        | ok fl2 =>
          cases fl2 with
          | ret r =>
            obtain ⟨rfl, h', tk, C, es, ep, t, rfl, W, g, kp⟩ := hr2
            repeat (any_goals (first | assumption | wp_step))
            exact h _ _ _ _ _ _ W g kp
          | _ => exact hr2.elim
    | _ => exact hr.elim
end
end DL
/-! DS7: set(xs), xs a tuple of keys. -/
namespace DL
open PySem PySem.Spec PyProof.Rows L2 TS
section
variable {P : Program} {w : World} {A : Around} {E : Value → Shared → Prop} {s : Shared}
theorem call_set_tuple {l : Addr} {items : Array Value} (ks : List (Addr × PyData)) {Q : Value → Shared → Prop} (calm : A.handled = none) (li : s.heap.IsTuple l items) (its : items.toList = ks.map fun p => Value.ref p.1)
    (keys : ∀ p ∈ ks, KeyAt s.heap p.2 p.1) (few : ks.length < 64) (hu : A.units + 12 < cLine)
    (h : ∀ (h' : Heap) (tk : Nat) C es ep t, SetK P w h' s.heap.objs.size C es ep t → Has ks ks.length C → (∀ b o, s.heap.get? b = some o → h'.get? b = some o) → Q (.ref s.heap.objs.size) { s with heap := h', toks := tk }) :
    wpAny (model P w) A (call (.type "set") [.ref l]) Q E s := by
  have size : items.size = ks.length := by
    have q := congrArg List.length its
    rw [Array.length_toList, List.length_map] at q
    exact q
  obtain ⟨c, tl, hmro⟩ := F.called_set.mro
  have hmade := F.called_set.made
  have hsub := F.called_set.sub
  refine wpAny_call (codeAny_of_tree ?_)
  show wpAny _ _ (callAny (.type "set") _) _ _ _
  refine wpAny_pure ⟨Code.quiet_builtin _ (by decide +kernel), codeAny_builtin F.entry_type_call ?_⟩
  rw [Around.under_plain (weight_type_call_type "set" [.ref l] []) rfl]
  have n1 := F.called_set.notType
  have n2 := F.called_set.canCreate
  have n3 := F.typeCall_set_1 (.ref l)
  repeat (any_goals (first | assumption | wp_step))
  refine codeAny_mono (code_set_led1 (.ref l) (E := E) (Q₁ := fun obj s1 => obj = .ref s.heap.objs.size ∧ s1 = { s with heap := s.heap.push (bare w) }) ⟨rfl, rfl⟩) fun r s1 hr => ?_
  cases r with
  | error e => exact hr
  | ok fl =>
    cases fl with
    | ret obj =>
      obtain ⟨rfl, rfl⟩ := hr
      have new : (s.heap.push (bare w)).get? s.heap.objs.size = some (bare w) := Heap.get?_push_size _ rfl
      have isS : Shared.TypeIs { s with heap := s.heap.push (bare w) } (.ref s.heap.objs.size) "set" := ⟨_, new, rfl⟩
      have m1 := F.called_set.init.lookup
      have m2 := F.called_set.init.bind (.ref s.heap.objs.size)
      repeat (any_goals (first | assumption | wp_step))
      refine codeAny_mono (codeAny_call_builtin (R := wants (fun r s2 => r = .none ∧ ∃ h' tk C es ep t, s2 = { s with heap := h', toks := tk } ∧ SetK P w h' s.heap.objs.size C es ep t ∧ Has ks ks.length C ∧
          (∀ b o, s.heap.get? b = some o → h'.get? b = some o)) E) F.called_set.init.plain F.entry_set_init (check_set_init_1 isS ?_)) fun r2 s2 hr2 => ?_
      · obtain ⟨ol, gl, cl, nl, dl⟩ := li
        obtain ⟨ocls, odict, odata, oslots⟩ := ol
        simp only at cl dl
        subst cl; subst dl
        have gl2 : (s.heap.push (bare w)).get? l = some { cls := .type "tuple", dict := odict, data := .seq items nl, slots := oslots } := Heap.get?_push_of_some _ gl
        have no1 := F.sub_tuple_set
        have no2 := F.sub_tuple_frozenset
        have no3 : (Value.type "tuple" == Value.type "dict") = false := by decide
        have li2 : (s.heap.push (bare w)).IsTuple l items := ⟨_, gl2, rfl, nl, rfl⟩
        unfold Builtin.«set.__init__» noKeywords Builtin.Frozenset.updateFrom
        generalize hPI : pyIter = PI
        wp_walk
        subst hPI
        refine wpAny_pyIter_tuple li2 ?_
        refine wpAny_bind (wpAny_runValue ?_)
        have lS : l < s.heap.objs.size := Heap.lt_size gl
        have calm3 : A.in1.in1.in1.handled = none := by simp [calm]
        have neI : l ≠ (s.heap.push (bare w)).objs.size := by
          rw [Heap.size_push]; exact Nat.ne_of_lt (Nat.lt_succ_of_lt lS)
        have outS : s.heap.objs.size ∉ [(s.heap.push (bare w)).objs.size, l] := by
          rw [Heap.size_push]; simp only [List.mem_cons, List.mem_singleton, List.not_mem_nil, or_false, not_or]
          exact ⟨Nat.ne_of_lt (Nat.lt_succ_self _), Nat.ne_of_gt lS⟩
        have val : ∀ (i : Nat) (v : Value), items[i]? = some v → ∃ p, ks[i]? = some p ∧ v = .ref p.1 := fun i v hv => by
          have q : items.toList[i]? = some v := by rw [Array.getElem?_toList]; exact hv
          rw [its, List.getElem?_map] at q
          cases hq : ks[i]? with
          | none => rw [hq] at q; cases q
          | some p =>
            rw [hq] at q
            exact ⟨p, rfl, (Option.some.inj q).symm⟩
        have beyond : ∀ b, s.heap.objs.size ≤ b → s.heap.get? b = none := fun b hb => by
          cases q : s.heap.get? b with
          | none => rfl
          | some o => exact absurd (Nat.lt_of_lt_of_le (Heap.lt_size q) hb) (Nat.lt_irrefl _)
        refine fill ((Walks.tuple calm3 _ l neI items).toS) s.heap.objs.size
          outS ks size few val s.heap keys (beyond _ (Nat.le_refl _)) (fun b hb => beyond b (by
            rw [List.mem_singleton.mp hb, Heap.size_push]
            exact Nat.le_succ _)) (show A.units + 1 + 1 + 1 + 8 < cLine by omega) (items.size - 0) 0 _ (by omega) (Nat.zero_le _)
          ⟨⟨_, Heap.get?_push_size _ rfl, rfl, rfl⟩, (li2.push _)⟩ (fun b o e => Heap.get?_push_of_some _ (Heap.get?_push_of_some _ e)) ?first ?last
        case first => exact ⟨[], #[], 0, _, setK_new (Heap.get?_push_of_some _ new), Has.none ks⟩
        case last =>
          intro s4 C es ep t mv W g kp
          obtain ⟨h', g2, d', tk', os'⟩ := s4
          have eg : g2 = s.gens := mv.gens
          have ed : d' = s.drawn := mv.drawn
          have eo : os' = s.os := mv.os
          subst eg; subst ed; subst eo
          show wpAny _ _ _ _ _ _
          refine wpAny_pure ?_
          show wpAny _ _ (ret Value.none) _ _ _
          rw [size] at g
          exact wpAny_pure ⟨rfl, h', tk', C, es, ep, t, rfl, W, g, kp⟩
      · cases r2 with
        | error e => exact hr2
        | ok fl2 =>
          cases fl2 with
          | ret r =>
            obtain ⟨rfl, h', tk, C, es, ep, t, rfl, W, g, kp⟩ := hr2
            repeat (any_goals (first | assumption | wp_step))
            exact h _ _ _ _ _ _ W g kp
          | _ => exact hr2.elim
    | _ => exact hr.elim
end
end DL
set_option maxHeartbeats 2000000
/-! DS8: a set of such keys, sorted. -/
namespace DL
open PySem PySem.Spec PyProof.Rows L2 TS
theorem perm_unmap {α β : Type} {f : α → β} {vs ws : List β} (h : vs.Perm ws) : ∀ l : List α, l.map f = ws → ∃ m : List α, m.Perm l ∧ vs = m.map f := by
  induction h with
  | nil =>
    intro l q
    rw [List.map_eq_nil_iff] at q
    subst q
    exact ⟨[], .nil, rfl⟩
  | cons x _ ih =>
    intro l q
    cases l with
    | nil => cases q
    | cons y l =>
      injection q with q1 q2
      obtain ⟨m, p, r⟩ := ih l q2
      exact ⟨y :: m, p.cons y, by rw [r, List.map_cons, q1]⟩
  | swap x y r =>
    intro l q
    cases l with
    | nil => cases q
    | cons u l =>
      cases l with
      | nil => cases q
      | cons v l =>
        injection q with q1 q2
        injection q2 with q2 q3
        exact ⟨v :: u :: l, .swap u v l, by rw [List.map_cons, List.map_cons, q1, q2, q3]⟩
  | trans _ _ i1 i2 =>
    intro l q
    obtain ⟨m, p, r⟩ := i2 l q
    obtain ⟨n, p', r'⟩ := i1 m r.symm
    exact ⟨n, p'.trans p, r'⟩
theorem refs_each {R : Value → Addr × PyData → Prop} : ∀ (C : List (Addr × PyData)), (∀ p ∈ C, R (.ref p.1) p) → PySem.W.EachIs R (C.map fun p => Value.ref p.1) C
  | [], _ => .nil
  | p :: C, h => .cons (h p List.mem_cons_self) (refs_each C fun q hq => h q (List.mem_cons_of_mem _ hq))
theorem each_refs : ∀ {us : List Value} {C : List (Addr × PyData)}, PySem.W.EachIs (fun v (p : Addr × PyData) => v = .ref p.1) us C → us = C.map fun p => Value.ref p.1
  | _, _, .nil => rfl
  | _, _, .cons h t => by rw [each_refs t, List.map_cons, h]
section
variable {P : Program} {w : World} {A : Around} {E : Value → Shared → Prop} {s : Shared}
theorem sorted_setK {a : Addr} {C : List (Addr × PyData)} {es : Array (Int × Value)} {ep : Nat} {t : SetTable} {Q : Value → Shared → Prop} (W : SetK P w s.heap a C es ep t) (calm : A.handled = none)
    (al : PySem.W.AllAlike (C.map fun q => q.2)) (so : PySem.W.Sortable (C.map fun q => q.2)) (hu : A.units + 12 < cLine)
    (h : ∀ s' p (out : Array Value) (c : Nat) (m : List (Addr × PyData)), (∀ b o, s.heap.get? b = some o → s'.heap.get? b = some o) → s'.gens = s.gens → s'.os = s.os → s.heap.objs.size ≤ p →
      s'.heap.get? p = some (seqObj "list" out c) → m.Perm C → out.toList = (m.mergeSort (PySem.W.dataLe false fun q => q.2)).map (fun q => Value.ref q.1) → Q (.ref p) s') :
    wpAny (model P w) A (call (.builtin "sorted") [.ref a]) Q E s := by
  obtain ⟨o, go, ex, da⟩ := W.obj
  have size := W.size
  have few := W.few
  refine Calls.call_function_entry kind_sorted plain_sorted entry_sorted (args_sorted1 _) ?_
  unfold Builtin.«sorted»
  refine wpAny_bind (m := checkCount "sorted" 1 1 _) (wpAny_pure ?_)
  refine wpAny_bind (collect_set (A := A.in1) calm ⟨o, go, ex.1, da⟩ W.fits (by unfold scanBound; omega) W.tab.ris W.led fun s1 vs k1 hz g1 o1 pm => ?_)
  have rows : C.map (fun p => Value.ref p.1) = es.toList.map (·.2) := by
    rw [W.rows, List.map_map]; rfl
  obtain ⟨m, pm', rfl⟩ := perm_unmap pm C rows
  have ml : m.length = C.length := pm'.length_eq
  refine wpAny_bind (wpAny_newList ?_ (by rw [List.length_map, ml, sizeLine_eq]; omega))
  have go' : (s1.heap.push (seqObj "list" (m.map fun p => Value.ref p.1).toArray 0)).get? s1.heap.objs.size = some (seqObj "list" (m.map fun p => Value.ref p.1).toArray 0) := Heap.get?_push_size _ rfl
  have al' : PySem.W.AllAlike (m.map fun q => q.2) := fun x hx y hy => al x ((pm'.map (fun q : Addr × PyData => q.2)).mem_iff.mp hx) y ((pm'.map (fun q : Addr × PyData => q.2)).mem_iff.mp hy)
  have kept : ∀ b u, s.heap.get? b = some u → (PySem.W.sortingHeap (s1.heap.push (seqObj "list" (m.map fun p => Value.ref p.1).toArray 0)) s1.heap.objs.size (m.map fun p => Value.ref p.1)).get? b = some u := fun b u e => by
    have q := k1 b u e
    exact PySem.W.sortingHeap_old (Nat.ne_of_lt (Heap.lt_size q)) (Heap.get?_push_of_some _ q)
  have er := refs_each (R := fun v (p : Addr × PyData) => ∃ as, Reads (PySem.W.sortingHeap (s1.heap.push (seqObj "list" (m.map fun p => Value.ref p.1).toArray 0)) s1.heap.objs.size (m.map fun p => Value.ref p.1)) v p.2 as) m fun p hp => by
    obtain ⟨⟨as, r⟩, _⟩ := W.keys p (pm'.mem_iff.mp hp)
    exact ⟨as, reads_kept kept r⟩
  have ei := refs_each (R := fun v (p : Addr × PyData) => v = .ref p.1) m fun p _ => rfl
  have so' : PySem.W.Sortable (m.map fun q => q.2) := so.imp (fun q d hd => q d ((pm'.map (fun q : Addr × PyData => q.2)).mem_iff.mp hd)) (fun q d hd => q d ((pm'.map (fun q : Addr × PyData => q.2)).mem_iff.mp hd))
  have dp : ∀ d, d ∈ (m.map fun q => q.2) → A.units + 2 + d.depth < cLine := fun d hd => by
    obtain ⟨p, hp, rfl⟩ := List.mem_map.mp hd
    have q := (W.keys p (pm'.mem_iff.mp hp)).2.2
    omega
  refine wpAny_bind (wpAny_holding (wpAny_call_entry slot_list_sort ⟨_, go', rfl⟩ entry_list_sort (PySem.W.list_sort_vals (κ := PySem.W.dataKind (PySem.W.sortingHeap (s1.heap.push (seqObj "list" (m.map fun p => Value.ref p.1).toArray 0)) s1.heap.objs.size (m.map fun p => Value.ref p.1)) (m.map fun q => q.2)) go' (PySem.W.SortsAt.data (s := { s1 with heap := PySem.W.sortingHeap (s1.heap.push (seqObj "list" (m.map fun p => Value.ref p.1).toArray 0)) s1.heap.objs.size (m.map fun p => Value.ref p.1) }) (PySem.W.each_map (R := fun v d => ∃ as, Reads (PySem.W.sortingHeap (s1.heap.push (seqObj "list" (m.map fun p => Value.ref p.1).toArray 0)) s1.heap.objs.size (m.map fun p => Value.ref p.1)) v d as) (fun p : Addr × PyData => p.2) er) al' so' (fun d hd => by have z := dp d hd; exact z)) (by rw [List.length_map, ml, sizeLine_eq]; omega) ⟨.none, rfl, ?_⟩) (args_list_sort _)))
  have eo := each_refs (PySem.W.sortVals_data (enc := fun p : Addr × PyData => p.2) false ei er al')
  obtain ⟨c, hc⟩ := sortedHeap_at (vs := m.map fun p => Value.ref p.1) (out := (PySem.W.sortVals (PySem.W.dataKind (PySem.W.sortingHeap (s1.heap.push (seqObj "list" (m.map fun p => Value.ref p.1).toArray 0)) s1.heap.objs.size (m.map fun p => Value.ref p.1)) (m.map fun q => q.2)) false (m.map fun p => Value.ref p.1) (m.map fun p => Value.ref p.1)).toArray) go'
  refine wpAny_pure ⟨_, rfl, h _ s1.heap.objs.size _ c m (fun b u e => ?_) g1 o1 hz hc pm' eo⟩
  have q := k1 b u e
  have lt := Heap.lt_size q
  exact (sortedHeap_old (Nat.ne_of_lt lt) (by rw [size_push']; exact Nat.lt_succ_of_lt lt)).trans (Heap.get?_push_of_some _ q)
end
end DL
/-! DS9: the keys once each. -/
namespace DL
open PySem PySem.Spec PyProof.Rows L2 TS
open Classical in
noncomputable def onceD : List PyData → List PyData
  | [] => []
  | d :: ds => if d ∈ ds then onceD ds else d :: onceD ds
theorem mem_once {x : PyData} : ∀ {ds : List PyData}, x ∈ onceD ds ↔ x ∈ ds
  | [] => Iff.rfl
  | d :: ds => by
    unfold onceD
    split
    · rename_i h
      rw [mem_once, List.mem_cons]
      exact ⟨.inr, fun q => q.elim (fun e => e ▸ h) id⟩
    · rw [List.mem_cons, List.mem_cons, mem_once]
theorem nodup_once : ∀ ds : List PyData, (onceD ds).Nodup
  | [] => List.nodup_nil
  | d :: ds => by
    unfold onceD
    split
    · exact nodup_once ds
    · rename_i h
      exact List.nodup_cons.mpr ⟨fun q => h (mem_once.mp q), nodup_once ds⟩
theorem Has.once {ks C : List (Addr × PyData)} (g : Has ks ks.length C) (nd : (C.map fun q => q.2).Nodup) : (C.map fun q => q.2).Perm (onceD (ks.map fun q => q.2)) := by
  refine (List.perm_ext_iff_of_nodup nd (nodup_once _)).mpr fun x => ?_
  rw [mem_once]
  have e1 := g.from'
  have e2 := g.each
  rw [List.take_length] at e1 e2
  constructor
  · intro q
    obtain ⟨p, hp, rfl⟩ := List.mem_map.mp q
    exact List.mem_map.mpr ⟨p, e1 p hp, rfl⟩
  · intro q
    obtain ⟨p, hp, rfl⟩ := List.mem_map.mp q
    exact e2 p hp
theorem Has.count {ks C : List (Addr × PyData)} (g : Has ks ks.length C) (nd : (C.map fun q => q.2).Nodup) : C.length = (onceD (ks.map fun q => q.2)).length := by
  have q := (g.once nd).length_eq
  rwa [List.length_map] at q
theorem onceD_sub (ds : List PyData) : (onceD ds).Sublist ds := by
  induction ds with
  | nil => exact .slnil
  | cons d ds ih =>
    unfold onceD
    split
    · exact ih.cons _
    · exact ih.cons_cons _
end DL
/-! DS10: rules for len(set(xs)) and sorted(set(xs)), xs a list of such keys. -/
namespace DL
open PySem PySem.Spec PyProof.Rows L2
structure KeysIn (K : PySem.W.Frag) (H : Hp) (l : Addr) (ks : List (Addr × PyData)) : Prop where
  at' : SqL K H l (ks.map fun p => V.ref p.1)
  each : ∀ p ∈ ks, Dp K H (.ref p.1) p.2
  hash : ∀ p ∈ ks, hashable p.2 = true ∧ p.2.depth ≤ 8
  few : ks.length < 64
theorem refs_from : ∀ {ks : List (Addr × PyData)} {us : List Value}, Vals (ks.map fun p => V.ref p.1) us → us = ks.map fun p => Value.ref p.1
  | [], us, r => by
    cases us with
    | nil => rfl
    | cons u us => cases r
  | p :: ks, us, r => by
    cases us with
    | nil => cases r
    | cons u us =>
      cases r with
      | cons h t => rw [refs_from t, List.map_cons]; cases h; rfl
theorem refs_to : ∀ ks : List (Addr × PyData), Vals (ks.map fun p => V.ref p.1) (ks.map fun p => Value.ref p.1)
  | [] => .nil
  | p :: ks => .cons rfl (refs_to ks)
theorem KeysIn.all {X : Cx} {pins σ H s} {l : Addr} {ks : List (Addr × PyData)} (I : Inv X pins σ H s) (g : KeysIn X.K H l ks) : ∀ p ∈ ks, KeyAt s.heap p.2 p.1 := fun p hp =>
  ⟨Dp.reads I p.2 (.ref p.1) (.ref p.1) (g.each p hp) rfl, g.hash p hp⟩
theorem KeysIn.list {X : Cx} {pins σ H s} {l : Addr} {ks : List (Addr × PyData)} (I : Inv X pins σ H s) (g : KeysIn X.K H l ks) : s.heap.IsList l (ks.map fun p => Value.ref p.1).toArray := by
  obtain ⟨its, r, pl, hz⟩ := I.list g.at'
  rw [refs_from r] at pl
  exact pl.isList
section
variable {X : Cx} {ta : TE} {a : Expr} {p p2 q pos : Pos}
def tLenSetX (K : PySem.W.Frag) (ta : TE) : TE := fun σ H Q => ta σ H fun x G => ∃ (l : Addr) (ks : List (Addr × PyData)), x = V.ref l ∧ KeysIn K G l ks ∧ Q (.int (onceD (ks.map fun q => q.2)).length) G
theorem pe_lenSetX (calm : X.calm = true) (hu : X.A.units + 64 < cLine) (n1 : Gl X "len") (m1 : X.mg "len" = none) (n2 : Gl X "set") (m2 : X.mg "set" = none) (ea : PE X a ta)
    (na : starEach [a] X.env = (false, eval a X.env) :: starEach [] X.env := by rfl) : PE X (.Call (.Name "len" p) [.Call (.Name "set" p2) [a] [] q] [] pos) (tLenSetX X.K ta) := by
  refine ⟨fun pins s σ H Q I h => ?_⟩
  refine Call_ (ld_blt I n1 m1 PySem.boot_len (PyProof.Rows.callWith_builtin1 (PyProof.Rows.args_cons ?_ rfl) rfl rfl))
  refine Call_ (ld_blt I n2 m2 PyProof.Rows.boot_set (PyProof.Rows.callWith_type1 (PyProof.Rows.args_cons (thn (ea.run pins s σ H _ I h) fun v s1 ⟨x, G, J, r, g⟩ => PyProof.Rows.args_nil ?_) na) na rfl))
  obtain ⟨l, ks, rfl, g, k⟩ := g
  cases r
  refine call_set_list ks (J.ok.hd calm) (g.list J) rfl (g.all J) g.few (by omega) fun h' tk C es ep t W hs kp => PyProof.Rows.args_nil ?_
  obtain ⟨o, go, ex, da⟩ := W.obj
  have J2 : Inv X pins σ G { s1 with heap := h', toks := tk } := J.kept fun b o e => kp b o e
  have size : es.size = (onceD (ks.map fun q => q.2)).length := by rw [W.size]; exact hs.count W.dist
  have few := W.few
  have size' := W.size
  refine call_len_set go ex da W.fits (by omega) ⟨.int (onceD (ks.map fun q => q.2)).length, G, J2.tok _, ⟨_, by rw [size]⟩, k⟩
def tSortSetX (K : PySem.W.Frag) (ta : TE) : TE := fun σ H Q => ta σ H fun x G => ∃ (l : Addr) (ks : List (Addr × PyData)), x = V.ref l ∧ KeysIn K G l ks ∧ PySem.W.AllAlike (ks.map fun q => q.2) ∧ PySem.W.Sortable (ks.map fun q => q.2) ∧
  ∀ (m : List (Addr × PyData)) b, (∀ z ∈ m, z ∈ ks) → (m.map fun q => q.2).Perm (onceD (ks.map fun q => q.2)) → G b = none → Q (.ref b) (upd G b (.lst ((m.mergeSort (PySem.W.dataLe false fun q => q.2)).map fun z => V.ref z.1)))
theorem pe_sortSetX (calm : X.calm = true) (hu : X.A.units + 64 < cLine) (n1 : Gl X "sorted") (m1 : X.mg "sorted" = none) (n2 : Gl X "set") (m2 : X.mg "set" = none) (ea : PE X a ta)
    (na : starEach [a] X.env = (false, eval a X.env) :: starEach [] X.env := by rfl) : PE X (.Call (.Name "sorted" p) [.Call (.Name "set" p2) [a] [] q] [] pos) (tSortSetX X.K ta) := by
  refine ⟨fun pins s σ H Q I h => ?_⟩
  refine Call_ (ld_blt I n1 m1 PyProof.Rows.boot_sorted (PyProof.Rows.callWith_builtin1 (PyProof.Rows.args_cons ?_ rfl) rfl rfl))
  refine Call_ (ld_blt I n2 m2 PyProof.Rows.boot_set (PyProof.Rows.callWith_type1 (PyProof.Rows.args_cons (thn (ea.run pins s σ H _ I h) fun v s1 ⟨x, G, J, r, g⟩ => PyProof.Rows.args_nil ?_) na) na rfl))
  obtain ⟨l, ks, rfl, g, al, so, k⟩ := g
  cases r
  refine call_set_list ks (J.ok.hd calm) (g.list J) rfl (g.all J) g.few (by omega) fun h' tk C es ep t W hs kp => PyProof.Rows.args_nil ?_
  have J2 : Inv X pins σ G { s1 with heap := h', toks := tk } := J.kept fun b o e => kp b o e
  have sub : ∀ z ∈ C, z ∈ ks := fun z hz => by have w := hs.from' z hz; rwa [List.take_length] at w
  have im : ∀ d ∈ C.map (fun q => q.2), d ∈ ks.map fun q => q.2 := fun d hd => by
    obtain ⟨z, hz, rfl⟩ := List.mem_map.mp hd
    exact List.mem_map.mpr ⟨z, sub z hz, rfl⟩
  have few := W.few
  refine sorted_setK (s := { s1 with heap := h', toks := tk }) W (J.ok.hd calm) (fun x hx y hy => ?_) (so.imp (fun f d hd => f d (im d hd)) (fun f d hd => f d (im d hd))) (by omega) fun s' b out c m kp' gs os hz go pm eo => ?_
  · exact al _ (im _ hx) _ (im _ hy)
  have ml := pm.length_eq
  have fr : G b = none := J2.hok.fresh hz
  have lr : (((m.mergeSort (PySem.W.dataLe false fun q => q.2)).map fun z => V.ref z.1) : List V).length ≤ sizeLine := by
    rw [List.length_map, List.length_mergeSort, ml, sizeLine_eq]; omega
  have vr : Vals ((m.mergeSort (PySem.W.dataLe false fun q => q.2)).map fun z => V.ref z.1) out.toList := by
    rw [eo]; exact refs_to _
  have J3 : Inv X pins σ (upd G b (.lst ((m.mergeSort (PySem.W.dataLe false fun q => q.2)).map fun z => V.ref z.1))) s' :=
    J2.call' (ch := []) os (Un.laid kp' hz fr) (J2.hok.laid kp' hz ⟨lr, out.toList, c, vr, go⟩) (by rw [gs]; exact J2.bare) (fun _ z => nomatch z)
  exact ⟨.ref b, _, J3, rfl, k m b (fun z hz => sub z (pm.mem_iff.mp hz)) ((pm.map _).trans (hs.once W.dist)) fr⟩
end
end DL
/-! DS11: one order alone. -/
namespace DL
open PySem PySem.Spec PyProof.Rows L2
theorem toks_inj {x y : PyData} (al : PySem.W.alike x y = true) (hx : hashable x = true) (hy : hashable y = true) (e : PySem.W.keyToks x = PySem.W.keyToks y) : x = y := by
  cases c : PyData.eqv x y with
  | true => exact (eqv_hash x y hx hy).mp c
  | false =>
    have q := (PySem.W.toks_eqv x y al).2 c [] [.inl 0]
    have q' := (PySem.W.toks_eqv x y al).2 c [] []
    rw [← e] at q q'
    rw [PySem.W.lex_pre] at q q'
    rw [← q'] at q
    exact absurd q (by decide)
theorem le_anti {x y : PyData} (al : PySem.W.alike x y = true) (hx : hashable x = true) (hy : hashable y = true) (a : PySem.W.dataLe false (fun d => d) x y = true) (b : PySem.W.dataLe false (fun d => d) y x = true) : x = y := by
  refine toks_inj al hx hy ?_
  unfold PySem.W.dataLe PySem.W.sortLe at a b
  simp only [cond_false, Bool.not_eq_true'] at a b
  exact (PyProof.Rows.listOrd PyProof.Rows.itemOrd).total _ _ b a
theorem sort_one {m : List (Addr × PyData)} {ds : List PyData} (p : (m.map fun q => q.2).Perm ds) (al : PySem.W.AllAlike ds) (hs : ∀ d ∈ ds, hashable d = true) :
    (m.mergeSort (PySem.W.dataLe false fun q => q.2)).map (fun q => q.2) = ds.mergeSort (PySem.W.dataLe false fun d => d) := by
  rw [List.map_mergeSort (r := PySem.W.dataLe false fun p : Addr × PyData => p.2) (s := PySem.W.dataLe false fun d : PyData => d) (f := fun p => p.2) (l := m) (fun _ _ _ _ => rfl)]
  have T := PySem.W.sortLe_total (PyProof.Rows.listOrd PyProof.Rows.itemOrd) false (fun d : PyData => PySem.W.keyToks d)
  have so := fun l : List PyData => List.pairwise_mergeSort (le := PySem.W.dataLe false fun d : PyData => d) (fun a b c h1 h2 => T.trans a b c h1 h2) (fun a b => (Bool.or_eq_true _ _).mpr (T.total a b)) l
  have pp := ((List.mergeSort_perm (m.map fun q => q.2) (PySem.W.dataLe false fun d : PyData => d)).trans p)
  refine List.Perm.eq_of_pairwise (fun a b ha hb h1 h2 => ?_) (so _) (so _) (pp.trans (List.mergeSort_perm ds (PySem.W.dataLe false fun d : PyData => d)).symm)
  have ma := pp.mem_iff.mp ha
  have mb := (List.mergeSort_perm ds _).mem_iff.mp hb
  exact le_anti (al a ma b mb) (hs a ma) (hs b mb) h1 h2
end DL
/-! DS12: the layer's rules for sorted(set(xs)) and len(set(xs)). -/
namespace DL
open PySem PySem.Spec PyProof.Rows L2
def tkD : PyData → Bool
  | .tuple xs => hashable (.tuple xs) && decide ((PyData.tuple xs).depth ≤ 8)
  | _ => false
theorem tkIs {d : PyData} (h : tkD d = true) : hashable d = true ∧ d.depth ≤ 8 ∧ ∃ xs, d = .tuple xs := by
  unfold tkD at h
  split at h
  · rw [Bool.and_eq_true, decide_eq_true_eq] at h
    exact ⟨h.1, h.2, _, rfl⟩
  · cases h
open Classical in
noncomputable def sortSetD : PyData → Option PyData
  | .list ds => if SortOk ds ∧ (∀ d ∈ ds, tkD d = true) ∧ ds.length < 64 then some (.list ((onceD ds).mergeSort (PySem.W.dataLe false fun d => d))) else none
  | _ => none
open Classical in
noncomputable def lenSetD : PyData → Option PyData
  | .list ds => if (∀ d ∈ ds, tkD d = true ∧ d.hasDict = false) ∧ ds.length < 64 then some (.int (onceD ds).length) else none
  | _ => none
theorem refs_zip {K : PySem.W.Frag} {G : Hp} : ∀ {vs : List V} {ds : List PyData}, DrAll K G vs ds → (∀ d ∈ ds, tkD d = true) → ∃ ks : List (Addr × PyData), vs = ks.map (fun p => V.ref p.1) ∧ ds = ks.map (fun p => p.2) ∧ ∀ p ∈ ks, Dr K G (.ref p.1) p.2
  | [], [], .nil, _ => ⟨[], rfl, rfl, fun _ h => nomatch h⟩
  | v :: _, d :: _, .cons h t, kd => by
    obtain ⟨ks, r1, r2, r3⟩ := refs_zip t fun d hd => kd d (List.mem_cons_of_mem _ hd)
    obtain ⟨_, _, xs, e9⟩ := tkIs (kd d List.mem_cons_self)
    subst e9
    have ⟨b, eb⟩ : ∃ b, v = V.ref b := by
      cases h <;> exact ⟨_, rfl⟩
    subst eb
    refine ⟨(b, .tuple xs) :: ks, by rw [r1]; rfl, by rw [r2]; rfl, fun p hp => ?_⟩
    rcases List.mem_cons.mp hp with rfl | hp
    · exact h
    · exact r3 p hp
theorem refs_all {K : PySem.W.Frag} {G : Hp} : ∀ {ks : List (Addr × PyData)}, (∀ p ∈ ks, Dr K G (.ref p.1) p.2) → DrAll K G (ks.map fun p => V.ref p.1) (ks.map fun p => p.2)
  | [], _ => .nil
  | p :: ks, h => .cons (h p List.mem_cons_self) (refs_all fun q hq => h q (List.mem_cons_of_mem _ hq))
section
variable {K : PySem.W.Frag} {φ : Ev} {σ : L2.St} {H : Hp} {Q : VK}
theorem t_sortSet (h : tF K (e1 sortSetD φ) σ H Q) : tSortSetX K (tS K φ) σ H Q := by
  obtain ⟨Z, G, ρ, d, ρ', R, q, k⟩ := h
  unfold e1 at q
  split at q
  · rename_i x ρ1 qa
    split at q
    · rename_i d' qf
      cases q
      refine ⟨Z, G, ρ, x, _, R, qa, fun v G1 H1 ex1 R1 d1 => ?_⟩
      have fr := fr1_of R1 (d := d) (Q := Q) fun a G' H' ex => k a G' H' (ex1.trans ex)
      unfold sortSetD at qf
      split at qf
      · rename_i ds
        split at qf
        · rename_i ok
          cases qf
          obtain ⟨⟨o1, o2, o3⟩, kd, few⟩ := ok
          cases d1 with
          | lst h z t =>
            obtain ⟨ks, rfl, rfl, hp⟩ := refs_zip t kd
            rw [List.length_map] at few
            refine ⟨_, ks, rfl, ⟨.inl (.inl (R1.gh _ _ h)), fun p hp' => ((hp p hp').mono R1.gh).dp (o3 _ (List.mem_map.mpr ⟨p, hp', rfl⟩)).2, fun p hp' => ⟨(tkIs (kd _ (List.mem_map.mpr ⟨p, hp', rfl⟩))).1, (tkIs (kd _ (List.mem_map.mpr ⟨p, hp', rfl⟩))).2.1⟩, few⟩, o1, o2, fun m b sub pm hb => ?_⟩
            have so := sort_one pm (fun x hx y hy => o1 x (mem_once.mp hx) y (mem_once.mp hy)) fun d hd => (tkIs (kd d (mem_once.mp hd))).1
            have ml : m.length ≤ ks.length := by
              have l1 := pm.length_eq
              have l2 := (onceD_sub (ks.map fun p => p.2)).length_le
              rw [List.length_map] at l1 l2
              omega
            refine fr b _ hb ⟨_, upd_same, by rw [List.length_map, List.length_mergeSort, sizeLine_eq]; omega, ?_⟩
            rw [← so]
            exact refs_all fun p hp' => hp p (sub p ((List.mergeSort_perm _ _).mem_iff.mp hp'))
        · cases qf
      · cases qf
    · cases q
  · cases q
theorem t_lenSet (h : tS K (e1 lenSetD φ) σ H Q) : tLenSetX K (tS K φ) σ H Q := by
  obtain ⟨Z, G, ρ, d, ρ', R, q, k⟩ := h
  unfold e1 at q
  split at q
  · rename_i x ρ1 qa
    split at q
    · rename_i d' qf
      cases q
      refine ⟨Z, G, ρ, x, _, R, qa, fun v G1 H1 ex1 R1 d1 => ?_⟩
      unfold lenSetD at qf
      split at qf
      · rename_i ds
        split at qf
        · rename_i ok
          cases qf
          obtain ⟨kd, few⟩ := ok
          cases d1 with
          | lst h z t =>
            obtain ⟨ks, rfl, rfl, hp⟩ := refs_zip t fun d hd => (kd d hd).1
            rw [List.length_map] at few
            exact ⟨_, ks, rfl, ⟨.inl (.inl (R1.gh _ _ h)), fun p hp' => ((hp p hp').mono R1.gh).dp (kd _ (List.mem_map.mpr ⟨p, hp', rfl⟩)).2, fun p hp' => ⟨(tkIs (kd _ (List.mem_map.mpr ⟨p, hp', rfl⟩)).1).1, (tkIs (kd _ (List.mem_map.mpr ⟨p, hp', rfl⟩)).1).2.1⟩, few⟩, k _ G1 H1 ex1 R1 (.int _)⟩
        · cases qf
      · cases qf
    · cases q
  · cases q
end
section
variable {X : Cx} {φ : Ev} {a : Expr} {p p2 q pos : Pos}
theorem r_sortSet (calm : X.calm = true) (hu : X.A.units + 64 < cLine) (n1 : Gl X "sorted") (m1 : X.mg "sorted" = none) (n2 : Gl X "set") (m2 : X.mg "set" = none) (ea : PE X a (tS X.K φ))
    (na : starEach [a] X.env = (false, eval a X.env) :: starEach [] X.env := by rfl) : PE X (.Call (.Name "sorted" p) [.Call (.Name "set" p2) [a] [] q] [] pos) (tF X.K (e1 sortSetD φ)) :=
  (pe_sortSetX calm hu n1 m1 n2 m2 ea na).conv fun _ _ _ h => t_sortSet h
theorem r_lenSet (calm : X.calm = true) (hu : X.A.units + 64 < cLine) (n1 : Gl X "len") (m1 : X.mg "len" = none) (n2 : Gl X "set") (m2 : X.mg "set" = none) (ea : PE X a (tS X.K φ))
    (na : starEach [a] X.env = (false, eval a X.env) :: starEach [] X.env := by rfl) : PE X (.Call (.Name "len" p) [.Call (.Name "set" p2) [a] [] q] [] pos) (tS X.K (e1 lenSetD φ)) :=
  (pe_lenSetX calm hu n1 m1 n2 m2 ea na).conv fun _ _ _ h => t_lenSet h
end
end DL
/-! DS13: the same for a tuple of such keys. -/
namespace DL
open PySem PySem.Spec PyProof.Rows L2
structure KeysTu (K : PySem.W.Frag) (H : Hp) (l : Addr) (ks : List (Addr × PyData)) : Prop where
  at' : SqT K H l (ks.map fun p => V.ref p.1)
  each : ∀ p ∈ ks, Dp K H (.ref p.1) p.2
  hash : ∀ p ∈ ks, hashable p.2 = true ∧ p.2.depth ≤ 8
  few : ks.length < 64
theorem KeysTu.all {X : Cx} {pins σ H s} {l : Addr} {ks : List (Addr × PyData)} (I : Inv X pins σ H s) (g : KeysTu X.K H l ks) : ∀ p ∈ ks, KeyAt s.heap p.2 p.1 := fun p hp =>
  ⟨Dp.reads I p.2 (.ref p.1) (.ref p.1) (g.each p hp) rfl, g.hash p hp⟩
theorem KeysTu.tuple {X : Cx} {pins σ H s} {l : Addr} {ks : List (Addr × PyData)} (I : Inv X pins σ H s) (g : KeysTu X.K H l ks) : s.heap.IsTuple l (ks.map fun p => Value.ref p.1).toArray := by
  obtain ⟨its, r, pl, hz⟩ := I.tuple g.at'
  rw [refs_from r] at pl
  exact pl
section
variable {X : Cx} {ta : TE} {a : Expr} {p p2 q pos : Pos}
def tLenSetT (K : PySem.W.Frag) (ta : TE) : TE := fun σ H Q => ta σ H fun x G => ∃ (l : Addr) (ks : List (Addr × PyData)), x = V.ref l ∧ KeysTu K G l ks ∧ Q (.int (onceD (ks.map fun q => q.2)).length) G
theorem pe_lenSetT (calm : X.calm = true) (hu : X.A.units + 64 < cLine) (n1 : Gl X "len") (m1 : X.mg "len" = none) (n2 : Gl X "set") (m2 : X.mg "set" = none) (ea : PE X a ta)
    (na : starEach [a] X.env = (false, eval a X.env) :: starEach [] X.env := by rfl) : PE X (.Call (.Name "len" p) [.Call (.Name "set" p2) [a] [] q] [] pos) (tLenSetT X.K ta) := by
  refine ⟨fun pins s σ H Q I h => ?_⟩
  refine Call_ (ld_blt I n1 m1 PySem.boot_len (PyProof.Rows.callWith_builtin1 (PyProof.Rows.args_cons ?_ rfl) rfl rfl))
  refine Call_ (ld_blt I n2 m2 PyProof.Rows.boot_set (PyProof.Rows.callWith_type1 (PyProof.Rows.args_cons (thn (ea.run pins s σ H _ I h) fun v s1 ⟨x, G, J, r, g⟩ => PyProof.Rows.args_nil ?_) na) na rfl))
  obtain ⟨l, ks, rfl, g, k⟩ := g
  cases r
  refine call_set_tuple ks (J.ok.hd calm) (g.tuple J) rfl (g.all J) g.few (by omega) fun h' tk C es ep t W hs kp => PyProof.Rows.args_nil ?_
  obtain ⟨o, go, ex, da⟩ := W.obj
  have J2 : Inv X pins σ G { s1 with heap := h', toks := tk } := J.kept fun b o e => kp b o e
  have size : es.size = (onceD (ks.map fun q => q.2)).length := by rw [W.size]; exact hs.count W.dist
  have few := W.few
  have size' := W.size
  refine call_len_set go ex da W.fits (by omega) ⟨.int (onceD (ks.map fun q => q.2)).length, G, J2.tok _, ⟨_, by rw [size]⟩, k⟩
def tSortSetT (K : PySem.W.Frag) (ta : TE) : TE := fun σ H Q => ta σ H fun x G => ∃ (l : Addr) (ks : List (Addr × PyData)), x = V.ref l ∧ KeysTu K G l ks ∧ PySem.W.AllAlike (ks.map fun q => q.2) ∧ PySem.W.Sortable (ks.map fun q => q.2) ∧
  ∀ (m : List (Addr × PyData)) b, (∀ z ∈ m, z ∈ ks) → (m.map fun q => q.2).Perm (onceD (ks.map fun q => q.2)) → G b = none → Q (.ref b) (upd G b (.lst ((m.mergeSort (PySem.W.dataLe false fun q => q.2)).map fun z => V.ref z.1)))
theorem pe_sortSetT (calm : X.calm = true) (hu : X.A.units + 64 < cLine) (n1 : Gl X "sorted") (m1 : X.mg "sorted" = none) (n2 : Gl X "set") (m2 : X.mg "set" = none) (ea : PE X a ta)
    (na : starEach [a] X.env = (false, eval a X.env) :: starEach [] X.env := by rfl) : PE X (.Call (.Name "sorted" p) [.Call (.Name "set" p2) [a] [] q] [] pos) (tSortSetT X.K ta) := by
  refine ⟨fun pins s σ H Q I h => ?_⟩
  refine Call_ (ld_blt I n1 m1 PyProof.Rows.boot_sorted (PyProof.Rows.callWith_builtin1 (PyProof.Rows.args_cons ?_ rfl) rfl rfl))
  refine Call_ (ld_blt I n2 m2 PyProof.Rows.boot_set (PyProof.Rows.callWith_type1 (PyProof.Rows.args_cons (thn (ea.run pins s σ H _ I h) fun v s1 ⟨x, G, J, r, g⟩ => PyProof.Rows.args_nil ?_) na) na rfl))
  obtain ⟨l, ks, rfl, g, al, so, k⟩ := g
  cases r
  refine call_set_tuple ks (J.ok.hd calm) (g.tuple J) rfl (g.all J) g.few (by omega) fun h' tk C es ep t W hs kp => PyProof.Rows.args_nil ?_
  have J2 : Inv X pins σ G { s1 with heap := h', toks := tk } := J.kept fun b o e => kp b o e
  have sub : ∀ z ∈ C, z ∈ ks := fun z hz => by have w := hs.from' z hz; rwa [List.take_length] at w
  have im : ∀ d ∈ C.map (fun q => q.2), d ∈ ks.map fun q => q.2 := fun d hd => by
    obtain ⟨z, hz, rfl⟩ := List.mem_map.mp hd
    exact List.mem_map.mpr ⟨z, sub z hz, rfl⟩
  have few := W.few
  refine sorted_setK (s := { s1 with heap := h', toks := tk }) W (J.ok.hd calm) (fun x hx y hy => ?_) (so.imp (fun f d hd => f d (im d hd)) (fun f d hd => f d (im d hd))) (by omega) fun s' b out c m kp' gs os hz go pm eo => ?_
  · exact al _ (im _ hx) _ (im _ hy)
  have ml := pm.length_eq
  have fr : G b = none := J2.hok.fresh hz
  have lr : (((m.mergeSort (PySem.W.dataLe false fun q => q.2)).map fun z => V.ref z.1) : List V).length ≤ sizeLine := by
    rw [List.length_map, List.length_mergeSort, ml, sizeLine_eq]; omega
  have vr : Vals ((m.mergeSort (PySem.W.dataLe false fun q => q.2)).map fun z => V.ref z.1) out.toList := by
    rw [eo]; exact refs_to _
  have J3 : Inv X pins σ (upd G b (.lst ((m.mergeSort (PySem.W.dataLe false fun q => q.2)).map fun z => V.ref z.1))) s' :=
    J2.call' (ch := []) os (Un.laid kp' hz fr) (J2.hok.laid kp' hz ⟨lr, out.toList, c, vr, go⟩) (by rw [gs]; exact J2.bare) (fun _ z => nomatch z)
  exact ⟨.ref b, _, J3, rfl, k m b (fun z hz => sub z (pm.mem_iff.mp hz)) ((pm.map _).trans (hs.once W.dist)) fr⟩
end
open Classical in
noncomputable def sortSetT : PyData → Option PyData
  | .tuple ds => if SortOk ds ∧ (∀ d ∈ ds, tkD d = true) ∧ ds.length < 64 then some (.list ((onceD ds).mergeSort (PySem.W.dataLe false fun d => d))) else none
  | _ => none
open Classical in
noncomputable def lenSetT : PyData → Option PyData
  | .tuple ds => if (∀ d ∈ ds, tkD d = true ∧ d.hasDict = false) ∧ ds.length < 64 then some (.int (onceD ds).length) else none
  | _ => none
section
variable {K : PySem.W.Frag} {φ : Ev} {σ : L2.St} {H : Hp} {Q : VK}
theorem t_sortSetTu (h : tF K (e1 sortSetT φ) σ H Q) : tSortSetT K (tS K φ) σ H Q := by
  obtain ⟨Z, G, ρ, d, ρ', R, q, k⟩ := h
  unfold e1 at q
  split at q
  · rename_i x ρ1 qa
    split at q
    · rename_i d' qf
      cases q
      refine ⟨Z, G, ρ, x, _, R, qa, fun v G1 H1 ex1 R1 d1 => ?_⟩
      have fr := fr1_of R1 (d := d) (Q := Q) fun a G' H' ex => k a G' H' (ex1.trans ex)
      unfold sortSetT at qf
      split at qf
      · rename_i ds
        split at qf
        · rename_i ok
          cases qf
          obtain ⟨⟨o1, o2, o3⟩, kd, few⟩ := ok
          cases d1 with
          | tup h z t =>
            obtain ⟨ks, rfl, rfl, hp⟩ := refs_zip t kd
            rw [List.length_map] at few
            refine ⟨_, ks, rfl, ⟨Ex.sqT R1.gh h, fun p hp' => ((hp p hp').mono R1.gh).dp (o3 _ (List.mem_map.mpr ⟨p, hp', rfl⟩)).2, fun p hp' => ⟨(tkIs (kd _ (List.mem_map.mpr ⟨p, hp', rfl⟩))).1, (tkIs (kd _ (List.mem_map.mpr ⟨p, hp', rfl⟩))).2.1⟩, few⟩, o1, o2, fun m b sub pm hb => ?_⟩
            have so := sort_one pm (fun x hx y hy => o1 x (mem_once.mp hx) y (mem_once.mp hy)) fun d hd => (tkIs (kd d (mem_once.mp hd))).1
            have ml : m.length ≤ ks.length := by
              have l1 := pm.length_eq
              have l2 := (onceD_sub (ks.map fun p => p.2)).length_le
              rw [List.length_map] at l1 l2
              omega
            refine fr b _ hb ⟨_, upd_same, by rw [List.length_map, List.length_mergeSort, sizeLine_eq]; omega, ?_⟩
            rw [← so]
            exact refs_all fun p hp' => hp p (sub p ((List.mergeSort_perm _ _).mem_iff.mp hp'))
        · cases qf
      · cases qf
    · cases q
  · cases q
theorem t_lenSetTu (h : tS K (e1 lenSetT φ) σ H Q) : tLenSetT K (tS K φ) σ H Q := by
  obtain ⟨Z, G, ρ, d, ρ', R, q, k⟩ := h
  unfold e1 at q
  split at q
  · rename_i x ρ1 qa
    split at q
    · rename_i d' qf
      cases q
      refine ⟨Z, G, ρ, x, _, R, qa, fun v G1 H1 ex1 R1 d1 => ?_⟩
      unfold lenSetT at qf
      split at qf
      · rename_i ds
        split at qf
        · rename_i ok
          cases qf
          obtain ⟨kd, few⟩ := ok
          cases d1 with
          | tup h z t =>
            obtain ⟨ks, rfl, rfl, hp⟩ := refs_zip t fun d hd => (kd d hd).1
            rw [List.length_map] at few
            exact ⟨_, ks, rfl, ⟨Ex.sqT R1.gh h, fun p hp' => ((hp p hp').mono R1.gh).dp (kd _ (List.mem_map.mpr ⟨p, hp', rfl⟩)).2, fun p hp' => ⟨(tkIs (kd _ (List.mem_map.mpr ⟨p, hp', rfl⟩)).1).1, (tkIs (kd _ (List.mem_map.mpr ⟨p, hp', rfl⟩)).1).2.1⟩, few⟩, k _ G1 H1 ex1 R1 (.int _)⟩
        · cases qf
      · cases qf
    · cases q
  · cases q
end
section
variable {X : Cx} {φ : Ev} {a : Expr} {p p2 q pos : Pos}
theorem r_sortSetTu (calm : X.calm = true) (hu : X.A.units + 64 < cLine) (n1 : Gl X "sorted") (m1 : X.mg "sorted" = none) (n2 : Gl X "set") (m2 : X.mg "set" = none) (ea : PE X a (tS X.K φ))
    (na : starEach [a] X.env = (false, eval a X.env) :: starEach [] X.env := by rfl) : PE X (.Call (.Name "sorted" p) [.Call (.Name "set" p2) [a] [] q] [] pos) (tF X.K (e1 sortSetT φ)) :=
  (pe_sortSetT calm hu n1 m1 n2 m2 ea na).conv fun _ _ _ h => t_sortSetTu h
theorem r_lenSetTu (calm : X.calm = true) (hu : X.A.units + 64 < cLine) (n1 : Gl X "len") (m1 : X.mg "len" = none) (n2 : Gl X "set") (m2 : X.mg "set" = none) (ea : PE X a (tS X.K φ))
    (na : starEach [a] X.env = (false, eval a X.env) :: starEach [] X.env := by rfl) : PE X (.Call (.Name "len" p) [.Call (.Name "set" p2) [a] [] q] [] pos) (tS X.K (e1 lenSetT φ)) :=
  (pe_lenSetT calm hu n1 m1 n2 m2 ea na).conv fun _ _ _ h => t_lenSetTu h
end
end DL
/-! DS14: sorted(set(xs)), xs a tuple of plain ints. -/
namespace DL
open PySem PySem.Spec PyProof.Rows L2
theorem ints_vals : ∀ {ns : List Int} {us : List Value}, IntsAre us ns → Vals (ns.map V.int) us
  | _, _, .nil => .nil
  | _, _, .cons k t h => .cons ⟨t, rfl⟩ (ints_vals h)
section
variable {X : Cx} {ta : TE} {a : Expr} {p p2 q pos : Pos}
def tSortSetN (K : PySem.W.Frag) (ta : TE) : TE := fun σ H Q => ta σ H fun x G => ∃ (l : Addr) (ns : List Int), x = V.ref l ∧ SqT K G l (ns.map V.int) ∧ ns.length < 64 ∧
  ∀ (ms : List Int) b, ms.Pairwise (· < ·) → (∀ k, k ∈ ms ↔ k ∈ ns) → ms.length ≤ ns.length → G b = none → Q (.ref b) (upd G b (.lst (ms.map V.int)))
theorem pe_sortSetN (calm : X.calm = true) (n1 : Gl X "sorted") (m1 : X.mg "sorted" = none) (n2 : Gl X "set") (m2 : X.mg "set" = none) (ea : PE X a ta)
    (na : starEach [a] X.env = (false, eval a X.env) :: starEach [] X.env := by rfl) : PE X (.Call (.Name "sorted" p) [.Call (.Name "set" p2) [a] [] q] [] pos) (tSortSetN X.K ta) := by
  refine ⟨fun pins s σ H Q I h => ?_⟩
  refine Call_ (ld_blt I n1 m1 PyProof.Rows.boot_sorted (PyProof.Rows.callWith_builtin1 (PyProof.Rows.args_cons ?_ rfl) rfl rfl))
  refine Call_ (ld_blt I n2 m2 PyProof.Rows.boot_set (PyProof.Rows.callWith_type1 (PyProof.Rows.args_cons (thn (ea.run pins s σ H _ I h) fun v s1 ⟨x, G, J, r, g⟩ => PyProof.Rows.args_nil ?_) na) na rfl))
  obtain ⟨l, ns, rfl, sq, few, k⟩ := g
  cases r
  obtain ⟨its, rv, pt, hz⟩ := J.tuple sq
  refine call_set_tupI ns (J.ok.hd calm) (show s1.heap.IsTuple l its.toArray from pt) (ints_of_vals rv) (by unfold scanBound; omega) fun h' tk n W less kp => PyProof.Rows.args_nil ?_
  have J2 : Inv X pins σ G { s1 with heap := h', toks := tk } := J.kept fun b o e => kp b o e
  refine sorted_set (s := { s1 with heap := h', toks := tk }) W (J.ok.hd calm) (by omega) fun s' b out c ms kp' gs os bz go ii so im le => ?_
  have fr : G b = none := J2.hok.fresh bz
  have lr : ((ms.map V.int) : List V).length ≤ sizeLine := by
    rw [List.length_map, sizeLine_eq]; omega
  have J3 : Inv X pins σ (upd G b (.lst (ms.map V.int))) s' :=
    J2.call' (ch := []) os (Un.laid kp' bz fr) (J2.hok.laid kp' bz ⟨lr, out.toList, c, ints_vals ii, go⟩) (by rw [gs]; exact J2.bare) (fun _ z => nomatch z)
  exact ⟨.ref b, _, J3, rfl, k ms b so (fun j => by rw [im j, decide_eq_true_eq]) (by omega) fr⟩
end
end DL
/-! DS15: the layer's rule for sorted(set(xs)), xs a tuple of ints or of keys. -/
namespace DL
open PySem PySem.Spec PyProof.Rows L2
def onceN : List Int → List Int
  | [] => []
  | d :: ds => if d ∈ ds then onceN ds else d :: onceN ds
theorem mem_onceN {x : Int} : ∀ {ds : List Int}, x ∈ onceN ds ↔ x ∈ ds
  | [] => Iff.rfl
  | d :: ds => by
    unfold onceN
    split
    · rename_i h
      rw [mem_onceN, List.mem_cons]
      exact ⟨.inr, fun q => q.elim (fun e => e ▸ h) id⟩
    · rw [List.mem_cons, List.mem_cons, mem_onceN]
theorem nodup_onceN : ∀ ds : List Int, (onceN ds).Nodup
  | [] => List.nodup_nil
  | d :: ds => by
    unfold onceN
    split
    · exact nodup_onceN ds
    · rename_i h
      exact List.nodup_cons.mpr ⟨fun q => h (mem_onceN.mp q), nodup_onceN ds⟩
theorem ups_eq {ms ns : List Int} (so : ms.Pairwise (· < ·)) (im : ∀ k, k ∈ ms ↔ k ∈ ns) : ms = isort (onceN ns) := by
  have nd : ms.Nodup := so.imp fun h e => by omega
  exact isort_eq ((List.perm_ext_iff_of_nodup nd (nodup_onceN ns)).mpr fun k => by rw [im, mem_onceN]) (so.imp fun h => by omega)
def sortSetN : PyData → Option PyData
  | .tuple xs => (match intsOf xs with
    | some ns => if ns.length < 64 then some (.list ((isort (onceN ns)).map .int)) else none
    | none => none)
  | _ => none
theorem vals_drs {K : PySem.W.Frag} {G : Hp} : ∀ {vs : List V} {ns : List Int}, DrAll K G vs (ns.map PyData.int) → vs = ns.map V.int
  | [], [], _ => rfl
  | [], _ :: _, h => by cases h
  | _ :: _, [], h => by cases h
  | v :: vs, n :: ns, h => by
    cases h with
    | cons h t =>
      cases h
      rw [vals_drs t, List.map_cons]
section
variable {K : PySem.W.Frag} {φ : Ev} {σ : L2.St} {H : Hp} {Q : VK}
theorem t_sortSetN (h : tF K (e1 sortSetN φ) σ H Q) : tSortSetN K (tS K φ) σ H Q := by
  obtain ⟨Z, G, ρ, d, ρ', R, q, k⟩ := h
  unfold e1 at q
  split at q
  · rename_i x ρ1 qa
    split at q
    · rename_i d' qf
      cases q
      refine ⟨Z, G, ρ, x, _, R, qa, fun v G1 H1 ex1 R1 d1 => ?_⟩
      have fr := fr1_of R1 (d := d) (Q := Q) fun a G' H' ex => k a G' H' (ex1.trans ex)
      unfold sortSetN at qf
      split at qf
      · rename_i xs
        split at qf
        · rename_i ns en
          split at qf
          · rename_i few
            cases qf
            have en' := intsOf_eq en
            subst en'
            cases d1 with
            | tup h z t =>
              have ev := vals_drs t
              subst ev
              refine ⟨_, ns, rfl, Ex.sqT R1.gh h, few, fun ms b so im le hb => ?_⟩
              rw [← ups_eq so im] at fr
              exact fr b _ hb ⟨_, upd_same, by rw [List.length_map, sizeLine_eq]; omega, DrAll.ints _⟩
          · cases qf
        · cases qf
      · cases qf
    · cases q
  · cases q
end
section
variable {X : Cx} {φ : Ev} {a : Expr} {p p2 q pos : Pos}
theorem r_sortSetN (calm : X.calm = true) (n1 : Gl X "sorted") (m1 : X.mg "sorted" = none) (n2 : Gl X "set") (m2 : X.mg "set" = none) (ea : PE X a (tS X.K φ))
    (na : starEach [a] X.env = (false, eval a X.env) :: starEach [] X.env := by rfl) : PE X (.Call (.Name "sorted" p) [.Call (.Name "set" p2) [a] [] q] [] pos) (tF X.K (e1 sortSetN φ)) :=
  (pe_sortSetN calm n1 m1 n2 m2 ea na).conv fun _ _ _ h => t_sortSetN h
end
end DL
/-! DS16: one mirror for every sorted(set(xs)). -/
namespace DL
open PySem PySem.Spec PyProof.Rows L2
def elseD (f g : PyData → Option PyData) : PyData → Option PyData := fun d => match f d with
  | some r => some r
  | none => g d
theorem tF_or {K : PySem.W.Frag} {f g : PyData → Option PyData} {φ : Ev} {σ : L2.St} {H : Hp} {Q : VK} (h : tF K (e1 (elseD f g) φ) σ H Q) : tF K (e1 f φ) σ H Q ∨ tF K (e1 g φ) σ H Q := by
  obtain ⟨Z, G, ρ, d, ρ', R, q, k⟩ := h
  unfold e1 at q
  split at q
  · rename_i x ρ1 qa
    split at q
    · rename_i d' qf
      cases q
      unfold elseD at qf
      split at qf
      · rename_i r fx
        cases qf
        exact .inl ⟨Z, G, ρ, d, _, R, by unfold e1; rw [qa]; simp only [fx], k⟩
      · exact .inr ⟨Z, G, ρ, d, _, R, by unfold e1; rw [qa]; simp only [qf], k⟩
    · cases q
  · cases q
theorem r_elseD {X : Cx} {e : Expr} {f g : PyData → Option PyData} {φ : Ev} (h1 : PE X e (tF X.K (e1 f φ))) (h2 : PE X e (tF X.K (e1 g φ))) : PE X e (tF X.K (e1 (elseD f g) φ)) :=
  ⟨fun pins s σ H Q I h => (tF_or h).elim (h1.run pins s σ H Q I) (h2.run pins s σ H Q I)⟩
noncomputable def sortSetA : PyData → Option PyData := elseD sortSetN (elseD sortSetT sortSetD)
theorem r_sortSetA {X : Cx} {φ : Ev} {a : Expr} {p p2 q pos : Pos} (calm : X.calm = true) (hu : X.A.units + 64 < cLine) (n1 : Gl X "sorted") (m1 : X.mg "sorted" = none) (n2 : Gl X "set") (m2 : X.mg "set" = none) (ea : PE X a (tS X.K φ))
    (na : starEach [a] X.env = (false, eval a X.env) :: starEach [] X.env := by rfl) : PE X (.Call (.Name "sorted" p) [.Call (.Name "set" p2) [a] [] q] [] pos) (tF X.K (e1 sortSetA φ)) :=
  r_elseD (r_sortSetN calm n1 m1 n2 m2 ea na) (r_elseD (r_sortSetTu calm hu n1 m1 n2 m2 ea na) (r_sortSet calm hu n1 m1 n2 m2 ea na))
end DL
namespace LX
/-- turns of a while -/
def fuelW : Nat := 1000000
end LX
/-! the mirrors of the law k14 -/
noncomputable section
namespace LX
open PySem L2 DL
/-- turns of a while -/
def b_plus : Sv := (sRet (eN (p1 tupD) (aC (eN (p1 sortX) (aC (e2 addD (eLc [2] (iSeq (eV 0)) (gN 2) (qB (e2 ninX (eV 2) (eV 1))) (eV 2)) (eLc [2] (iSeq (eV 1)) (gN 2) (qB (e2 ninX (eV 2) (eV 0))) (eV 2))) aN)) aN)))
def m_plus : List PyData → Option PyData := runP 3 2 b_plus
def b_together : Sv := (sQ (sAsg 1 (eN mkT aN)) (sQ (sFor (iSeq (eV 0)) (gN 2) (sAsg 1 (eN m_plus (aC (eV 1) (aC (eV 2) aN))))) (sRet (eV 1))))
def m_together : List PyData → Option PyData := runP 3 1 b_together
def b_led_by : Sv := (sQ (sAsg 2 (eC (.int 0))) (sQ (sFor (iSeq (eV 0)) (gT 2 (gC (gN 3) (gC (gN 4) gZ))) (sIf (qB (e2 inX (e2 ixX (eV 3) (eC (.int 0))) (eV 1))) (sPar 1 2 (aC (eN m_together (aC (eN mkL (aC (eV 1) (aC (eV 3) aN))) aN)) (aC (e2 modD (e2 addD (eV 2) (eV 4)) (eC (.int 2))) aN))) sN)) (sRet (eN mkT (aC (eV 1) (aC (eV 2) aN))))))
def m_led_by : List PyData → Option PyData := runP 5 2 b_led_by
def b_put_in : Sv := (sQ (sPat [1, 3] (gT 2 (gC (gN 1) (gC (gN 3) gZ))) (eN m_led_by (aC (eV 0) (aC (eV 1) aN)))) (sQ (sAsg 2 (e2 modD (e2 addD (eV 2) (eV 3)) (eC (.int 2)))) (sQ (sIf (qB (e2 eqD (eV 1) (eN mkT aN))) (sRet (eIf (qB (e2 eqD (eV 2) (eC (.int 0)))) (eV 0) (eC .none))) sN) (sQ (sAsgO 4 (eN mkL (aC (eN mkT (aC (eV 1) (aC (eV 2) aN))) aN))) (sQ (sFor (iSeq (eV 0)) (gT 2 (gC (gN 5) (gC (gN 6) gZ))) (sQ (sIf (qB (e2 inX (e2 ixX (eV 1) (eC (.int 0))) (eV 5))) (sPar 5 6 (aC (eN m_together (aC (eN mkL (aC (eV 5) (aC (eV 1) aN))) aN)) (aC (e2 modD (e2 addD (eV 6) (eV 2)) (eC (.int 2))) aN))) sN) (sMut 4 appD (aC (eN mkT (aC (eV 5) (aC (eV 6) aN))) aN)))) (sRet (eFz (eN (p1 tupD) (aC (eN (p1 sortX) (aC (eV 4) aN)) aN)))))))))
def m_put_in : List PyData → Option PyData := runP 7 3 b_put_in
def b_reduced : Sv := (sRet (e2 ixX (eN m_led_by (aC (eV 0) (aC (eV 1) aN))) (eC (.int 0))))
def m_reduced : List PyData → Option PyData := runP 2 2 b_reduced
def b_told_on : Sv := (sQ (sPat [2, 3] (gT 2 (gC (gN 2) (gC (gN 3) gZ))) (eN m_led_by (aC (eV 0) (aC (eV 1) aN)))) (sRet (eIf (qB (e2 eqD (eV 2) (eN mkT aN))) (eV 3) (eC .none))))
def m_told_on : List PyData → Option PyData := runP 4 2 b_told_on
def b_lies_in : Sv := (sRet (eN (p1 allD) (aC (eLc [2, 3] (iSeq (eV 1)) (gT 2 (gC (gN 2) (gC (gN 3) gZ))) qYes (e2 eqD (eN m_told_on (aC (eV 0) (aC (eV 2) aN))) (eV 3))) aN)))
def m_lies_in : List PyData → Option PyData := runP 4 2 b_lies_in
def b_meet : Sv := (sQ (sAsg 2 (eV 0)) (sQ (sFor (iSeq (eV 1)) (gT 2 (gC (gN 3) (gC (gN 4) gZ))) (sQ (sAsg 2 (eN m_put_in (aC (eV 2) (aC (eV 3) (aC (eV 4) aN))))) (sIf (qB (e2 isN (eV 2) (eC .none))) (sRet (eC .none)) sN))) (sRet (eV 2))))
def m_meet : List PyData → Option PyData := runP 5 2 b_meet
def b_new_row : Sv := (sQ (sFor (iSeq (eV 1)) (gT 2 (gC (gN 2) (gC (gN 3) gZ))) (sQ (sAsg 4 (eN m_reduced (aC (eV 0) (aC (eV 2) aN)))) (sIf (qB (e2 neD (eV 4) (eN mkT aN))) (sRet (eV 4)) sN))) (sRet (eN mkT aN)))
def m_new_row : List PyData → Option PyData := runP 5 2 b_new_row
def b_cut_by : Sv := (sQ (sIf (qOr (qB (eN m_lies_in (aC (eV 0) (aC (eV 1) aN)))) (qB (eN m_lies_in (aC (eV 0) (aC (eV 2) aN))))) (sRet (eN mkT aN)) sN) (sQ (sPar 3 4 (aC (eN m_meet (aC (eV 0) (aC (eV 1) aN))) (aC (eN m_meet (aC (eV 0) (aC (eV 2) aN))) aN))) (sQ (sIf (qOr (qB (e2 isN (eV 3) (eC .none))) (qOr (qB (e2 isN (eV 4) (eC .none))) (qOr (qB (e2 neD (eN (p1 lenX) (aC (eV 3) aN)) (e2 addD (eN (p1 lenX) (aC (eV 0) aN)) (eC (.int 1))))) (qB (e2 neD (eN (p1 lenX) (aC (eV 4) aN)) (e2 addD (eN (p1 lenX) (aC (eV 0) aN)) (eC (.int 1)))))))) (sRet (eC .none)) sN) (sQ (sAsg 5 (eN m_new_row (aC (eV 0) (aC (eV 3) aN)))) (sQ (sAsg 6 (eN m_told_on (aC (eV 4) (aC (eV 5) aN)))) (sRet (eIf (qAnd (qB (e2 isNotN (eV 6) (eC .none))) (qB (e2 neD (eV 6) (eN m_told_on (aC (eV 3) (aC (eV 5) aN)))))) (eV 5) (eC .none))))))))
def m_cut_by : List PyData → Option PyData := runP 7 3 b_cut_by
def b_lies_in_both : Sv := (sRet (e2 isNotN (eN m_cut_by (aC (eV 0) (aC (eV 1) (aC (eV 2) aN)))) (eC .none)))
def m_lies_in_both : List PyData → Option PyData := runP 3 3 b_lies_in_both
def b_law_take : Sv := (sQ (sIf (qFz (qB (e2 eqD (e2 ixX (eV 0) (eC (.int 0))) (eC (.int 0))))) (sQ (sAsg 2 (eFz (e2 ixX (e2 addD (eSl slD (e2 ixX (eV 0) (eC (.int 3))) (oS (e2 ixX (eV 0) (eC (.int 2)))) oN) (eN mkL (aC (eC (.int 0)) aN))) (eC (.int 0))))) (sQ (sAugI 0 (eC (.int 2)) (eC (.int 1))) (sQ (sIf (qB (e2 geI (eV 2) (e2 powD (eC (.int 10)) (eC (.int 18))))) (sSetX 0 (eC (.int 0)) (eV 2)) sN) (sQ (sAsg 3 (eFz (e2 addD (e2 addD (e2 mulI (e2 ixX (eV 0) (eC (.int 1))) (eC (.int 48271))) (e2 modD (eN (p1 intD) (aC (eV 2) aN)) (eC (.int 2147483647)))) (e2 mulI (eC (.int 7919)) (e2 ixX (eV 0) (eC (.int 2))))))) (sSetX 0 (eC (.int 1)) (e2 modD (eN (p1 intD) (aC (eV 3) aN)) (eC (.int 2147483647)))))))) sN) (sQ (sIf (qFz (qB (e2 gtI (e2 ixX (eV 0) (eC (.int 0))) (eC (.int 0))))) (sQ (sAsg 4 (eFz (e2 modD (eN (p1 intD) (aC (e2 ixX (eV 0) (eC (.int 0))) aN)) (eV 1)))) (sQ (sSetX 0 (eC (.int 0)) (eFz (e2 fdivD (eN (p1 intD) (aC (e2 ixX (eV 0) (eC (.int 0))) aN)) (eV 1)))) (sRet (eV 4)))) sN) (sQ (sAsg 5 (eFz (e2 modD (eN (p1 intD) (aC (e2 mulI (e2 addD (e2 ixX (eV 0) (eC (.int 1))) (eC (.int 1))) (eC (.int 39373))) aN)) (eC (.int 1000000007))))) (sQ (sAsg 6 (e2 modD (eN (p1 intD) (aC (e2 mulI (e2 modD (eN (p1 intD) (aC (e2 mulI (eV 5) (eV 5)) aN)) (eC (.int 998244353))) (eC (.int 30011))) aN)) (eC (.int 998244353)))) (sRet (e2 modD (eN (p1 intD) (aC (e2 fdivD (eV 6) (eC (.int 7))) aN)) (eV 1)))))))
def m_law_take : PyData → List PyData → Option (PyData × PyData) := runI 7 2 b_law_take
def b_law_some : Sv := (sRet (e2 ixX (eV 1) (eI m_law_take 0 (aC (eN (p1 lenX) (aC (eV 1) aN)) aN))))
def m_law_some : PyData → List PyData → Option (PyData × PyData) := runI 2 2 b_law_some
def b_law_alike : Sv := (sRet (eAnd (e2 eqD (eV 0) (eV 1)) (e2 eqD (eN (p1 reprD) (aC (eV 0) aN)) (eN (p1 reprD) (aC (eV 1) aN)))))
def m_law_alike : List PyData → Option PyData := runP 2 2 b_law_alike
def b_law_mask : Sv := (sQ (sAsg 1 (eC (.int 0))) (sQ (sFor (iSeq (eV 0)) (gN 2) (sAsg 1 (e2 orD (eV 1) (e2 shlX (eC (.int 1)) (eV 2))))) (sRet (eV 1))))
def m_law_mask : List PyData → Option PyData := runP 3 1 b_law_mask
def b_law_row : Sv := (sRet (eN (p1 tupD) (aC (eLc [1] (iN rng1 (aC (e1 bitsD (eV 0)) aN)) (gN 1) (qB (e2 eqD (e2 andD (e2 shrD (eV 0) (eV 1)) (eC (.int 1))) (eC (.int 1)))) (eV 1)) aN)))
def m_law_row : List PyData → Option PyData := runP 2 1 b_law_row
def b_law_worth : Sv := (sRet (e2 modD (eN (p1 intD) (aC (eN (p1 sumD) (aC (eLc [2] (iSeq (eV 0)) (gN 2) qYes (e2 ixX (eV 1) (eV 2))) aN)) aN)) (eC (.int 2))))
def m_law_worth : List PyData → Option PyData := runP 3 2 b_law_worth
def b_law_room : Sv := (sQ (sParM [1, 2] (mC false (e2 subD (e2 shlX (eC (.int 1)) (e2 shlX (eC (.int 1)) (eV 0))) (eC (.int 1))) (mC true (eN mkL aN) mN))) (sQ (sFor (iN rng1 (aC (eV 0) aN)) (gN 3) (sQ (sAsg 4 (e2 shlX (eC (.int 1)) (e2 subD (e2 subD (eV 0) (eC (.int 1))) (eV 3)))) (sQ (sAsg 5 (e2 shlX (e2 subD (e2 shlX (eC (.int 1)) (eV 4)) (eC (.int 1))) (eV 4))) (sQ (sAsg 6 (eC (.int 0))) (sQ (sFor (iN rng1 (aC (e2 shlX (eC (.int 1)) (eV 3)) aN)) (gN 7) (sAsg 6 (e2 orD (eV 6) (e2 shlX (eV 5) (e2 mulI (e2 mulI (eC (.int 2)) (eV 4)) (eV 7)))))) (sMut 2 appD (aC (eV 6) aN))))))) (sRet (eFz (eN mkT (aC (eV 0) (aC (eV 1) (aC (eN (p1 tupD) (aC (eV 2) aN)) aN))))))))
def m_law_room : List PyData → Option PyData := runP 8 1 b_law_room
def b_law_held : Sv := (sQ (sAsg 2 (eC (.int 0))) (sQ (sFor (iSeq (e2 ixX (eV 1) (eC (.int 0)))) (gN 3) (sAsg 2 (e2 xorD (eV 2) (e2 ixX (e2 ixX (eV 0) (eC (.int 2))) (eV 3))))) (sRet (eIf (qB (e2 eqD (e2 ixX (eV 1) (eC (.int 1))) (eC (.int 1)))) (eV 2) (e2 xorD (e2 ixX (eV 0) (eC (.int 1))) (eV 2))))))
def m_law_held : List PyData → Option PyData := runP 4 2 b_law_held
def b_law_in : Sv := (sQ (sAsg 2 (e2 ixX (eV 0) (eC (.int 1)))) (sQ (sFor (iSeq (eV 1)) (gN 3) (sAsg 2 (e2 andD (eV 2) (eN m_law_held (aC (eV 0) (aC (eV 3) aN)))))) (sRet (eV 2))))
def m_law_in : List PyData → Option PyData := runP 4 2 b_law_in
def b_law_flat_of : Sv := (sQ (sAsgO 1 (eC (.dict []))) (sQ (sFor (iSeq (eV 0)) (gT 2 (gC (gN 2) (gC (gN 3) gZ))) (sQ (sAsg 4 (eN m_law_mask (aC (eV 2) aN))) (sQ (sFor (iSeq (eFl (eN (p1 sortX) (aC (eV 1) aN)))) (gN 5) (sIf (qB (e2 eqD (e2 andD (e2 shrD (eV 4) (eV 5)) (eC (.int 1))) (eC (.int 1)))) (sPar 4 3 (aC (eFz (e2 xorD (eV 4) (e2 ixX (e2 ixX (eV 1) (eV 5)) (eC (.int 0))))) (aC (eFz (e2 xorD (eV 3) (e2 ixX (e2 ixX (eV 1) (eV 5)) (eC (.int 1))))) aN))) sN)) (sQ (sIf (qAnd (qB (e2 eqD (eV 4) (eC (.int 0)))) (qB (e2 eqD (eV 3) (eC (.int 1))))) (sRet (eC .none)) sN) (sIf (qB (e2 gtI (eV 4) (eC (.int 0)))) (sQ (sAsg 6 (e2 subD (e1 bitsD (e2 andD (eV 4) (e1 negD (eV 4)))) (eC (.int 1)))) (sQ (sFor (iSeq (eFl (eN (p1 sortX) (aC (eV 1) aN)))) (gN 5) (sIf (qFz (qB (e2 eqD (e2 andD (e2 shrD (e2 ixX (e2 ixX (eV 1) (eV 5)) (eC (.int 0))) (eV 6)) (eC (.int 1))) (eC (.int 1))))) (sSetX 1 (eV 5) (eFz (eN mkT (aC (e2 xorD (e2 ixX (e2 ixX (eV 1) (eV 5)) (eC (.int 0))) (eV 4)) (aC (e2 xorD (e2 ixX (e2 ixX (eV 1) (eV 5)) (eC (.int 1))) (eV 3)) aN))))) sN)) (sSetX 1 (eV 6) (eN mkT (aC (eV 4) (aC (eV 3) aN)))))) sN))))) (sRet (eFc (eN (p1 tupD) (aC (eN (p1 sortX) (aC (eLc [5] (iSeq (eN (p1 sortX) (aC (eV 1) aN))) (gN 5) qYes (eN mkT (aC (eN m_law_row (aC (e2 ixX (e2 ixX (eV 1) (eV 5)) (eC (.int 0))) aN)) (aC (e2 ixX (e2 ixX (eV 1) (eV 5)) (eC (.int 1))) aN)))) aN)) aN))))))
def m_law_flat_of : List PyData → Option PyData := runP 7 1 b_law_flat_of
def b_law_told : Sv := (sQ (sPar 2 3 (aC (eN m_law_mask (aC (eV 1) aN)) (aC (eC (.int 0)) aN))) (sQ (sFor (iSeq (eV 0)) (gN 4) (sIf (qB (e2 eqD (e2 andD (e2 shrD (eV 2) (e2 ixX (e2 ixX (eV 4) (eC (.int 0))) (eC (.int 0)))) (eC (.int 1))) (eC (.int 1)))) (sPar 2 3 (aC (e2 xorD (eV 2) (eN m_law_mask (aC (e2 ixX (eV 4) (eC (.int 0))) aN))) (aC (e2 xorD (eV 3) (e2 ixX (eV 4) (eC (.int 1)))) aN))) sN)) (sRet (eIf (qB (e2 eqD (eV 2) (eC (.int 0)))) (eV 3) (eC .none)))))
def m_law_told : List PyData → Option PyData := runP 5 2 b_law_told
def b_law_halves : Sv := (sRet (eN (p1 tupD) (aC (eLc [2] (iSeq (eN mkT (aC (eC (.int 0)) (aC (eC (.int 1)) aN)))) (gN 2) qYes (eN m_law_flat_of (aC (e2 addD (eN (p1 lstD) (aC (eV 0) aN)) (eN mkL (aC (eN mkT (aC (eV 1) (aC (eV 2) aN))) aN))) aN))) aN)))
def m_law_halves : List PyData → Option PyData := runP 3 2 b_law_halves
def b_law_any_row : Sv := (sQ (sAsg 2 (eC (.int 0))) (sQ (sFor (iN rng1 (aC (eI m_law_some 0 (aC (eN mkL (aC (eC (.int 1)) (aC (eC (.int 2)) (aC (eC (.int 2)) (aC (eC (.int 3)) (aC (eV 1) aN)))))) aN)) aN)) (gN 3) (sAsg 2 (e2 xorD (eV 2) (e2 shlX (eC (.int 1)) (eI m_law_take 0 (aC (eV 1) aN)))))) (sRet (eIf (qB (e2 gtI (eV 2) (eC (.int 0)))) (eN m_law_row (aC (eV 2) aN)) (eN mkT (aC (eI m_law_take 0 (aC (eV 1) aN)) aN))))))
def m_law_any_row : PyData → List PyData → Option (PyData × PyData) := runI 4 2 b_law_any_row
def b_law_drawn_flat : Sv := (sQ (sParM [3, 4] (mC false (eLc [7] (iN rng1 (aC (eV 1) aN)) (gN 7) qYes (eI m_law_take 0 (aC (eC (.int 2)) aN))) (mC true (eN mkL aN) mN))) (sQ (sFor (iN rng1 (aC (eIf (qB (e2 gtI (eV 1) (eC (.int 0)))) (eI m_law_take 0 (aC (e2 addD (eV 2) (eC (.int 1))) aN)) (eC (.int 0))) aN)) (gN 5) (sQ (sAsg 6 (eI m_law_any_row 0 (aC (eV 1) aN))) (sMut 4 appD (aC (eN mkT (aC (eV 6) (aC (eN m_law_worth (aC (eV 6) (aC (eV 3) aN))) aN))) aN)))) (sRet (eFz (eN m_law_flat_of (aC (eV 4) aN))))))
def m_law_drawn_flat : PyData → List PyData → Option (PyData × PyData) := runI 8 3 b_law_drawn_flat
def b_law_new_row : Sv := (sQ (sFor (iN rng1 (aC (eC (.int 5)) aN)) (gN 3) (sQ (sAsg 4 (eI m_law_any_row 0 (aC (eV 1) aN))) (sIf (qB (e2 isN (eN m_law_told (aC (eV 2) (aC (eV 4) aN))) (eC .none))) (sRet (eV 4)) sN))) (sQ (sAsg 5 (eLc [6] (iSeq (eV 2)) (gN 6) qYes (e2 ixX (e2 ixX (eV 6) (eC (.int 0))) (eC (.int 0))))) (sRet (eN mkT (aC (eI m_law_some 0 (aC (eLc [7] (iN rng1 (aC (eV 1) aN)) (gN 7) (qB (e2 ninX (eV 7) (eV 5))) (eV 7)) aN)) aN)))))
def m_law_new_row : PyData → List PyData → Option (PyData × PyData) := runI 8 3 b_law_new_row
def b_law_wider : Sv := (sRet (eN (p1 tupD) (aC (eLc [2] (iSeq (eV 1)) (gN 2) (qB (e2 gtI (eI m_law_take 0 (aC (eC (.int 5)) aN)) (eC (.int 0)))) (eV 2)) aN)))
def m_law_wider : PyData → List PyData → Option (PyData × PyData) := runI 3 2 b_law_wider
def b_law_rows_beside : Sv := (sQ (sPar 2 3 (aC (eLc [4] (iN rng1 (aC (eV 0) aN)) (gN 4) (qB (e2 ninX (eV 4) (eLc [6] (iSeq (eV 1)) (gN 6) qYes (e2 ixX (e2 ixX (eV 6) (eC (.int 0))) (eC (.int 0)))))) (eV 4)) (aC (eN mkL (aC (eC (.int 0)) aN)) aN))) (sQ (sFor (iSeq (eV 2)) (gN 4) (sAsg 3 (e2 addD (eV 3) (eLc [5] (iSeq (eV 3)) (gN 5) qYes (e2 orD (eV 5) (e2 shlX (eC (.int 1)) (eV 4))))))) (sRet (eLc [5] (iSeq (eSl slD (eV 3) (oS (eC (.int 1))) oN)) (gN 5) qYes (eN m_law_row (aC (eV 5) aN))))))
def m_law_rows_beside : List PyData → Option PyData := runP 7 2 b_law_rows_beside
def b_law_cut_due : Sv := (sQ (sParM [4, 5, 6] (mC false (eN m_law_in (aC (eV 0) (aC (eV 1) aN))) (mC false (eN m_law_in (aC (eV 0) (aC (eV 2) aN))) (mC false (eN m_law_in (aC (eV 0) (aC (eV 3) aN))) mN)))) (sQ (sIf (qOr (qB (e2 eqD (e2 andD (eV 4) (eV 5)) (eV 4))) (qB (e2 eqD (e2 andD (eV 4) (eV 6)) (eV 4)))) (sRet (eN mkT aN)) sN) (sQ (sIf (qB (e2 neD (e2 andD (eV 4) (e2 orD (eV 5) (eV 6))) (eV 4))) (sRet (eC .none)) sN) (sQ (sAsgO 7 (eN mkL aN)) (sQ (sFor (iSeq (eN m_law_rows_beside (aC (e2 ixX (eV 0) (eC (.int 0))) (aC (eV 1) aN)))) (gN 8) (sQ (sAsg 9 (eLc [11] (iSeq (eN mkT (aC (eC (.int 0)) (aC (eC (.int 1)) aN)))) (gN 11) qYes (e2 andD (eV 4) (eN m_law_held (aC (eV 0) (aC (eN mkT (aC (eV 8) (aC (eV 11) aN))) aN)))))) (sQ (sAsg 10 (eN mkL (aC (eN mkT (aC (e2 ixX (eV 9) (eC (.int 0))) (aC (e2 ixX (eV 9) (eC (.int 1))) aN))) (aC (eN mkT (aC (e2 ixX (eV 9) (eC (.int 1))) (aC (e2 ixX (eV 9) (eC (.int 0))) aN))) aN)))) (sMut 7 extD (aC (e2 repL (eN mkL (aC (eV 8) aN)) (eN (p1 intD) (aC (e2 neD (eLc [12, 13] (iSeq (eV 10)) (gT 2 (gC (gN 12) (gC (gN 13) gZ))) (qAnd (qB (e2 eqD (e2 andD (eV 12) (eV 5)) (eV 12))) (qB (e2 eqD (e2 andD (eV 13) (eV 6)) (eV 13)))) (eC (.int 1))) (eN mkL aN)) aN))) aN))))) (sRet (eFz (eIf (qB (e2 eqD (eN (p1 lenX) (aC (eV 7) aN)) (eC (.int 1)))) (e2 ixX (eV 7) (eC (.int 0))) (eC (.str "none"))))))))))
def m_law_cut_due : List PyData → Option PyData := runP 14 4 b_law_cut_due
def b_law_three_flats : Sv := (sQ (sPar 2 3 (aC (eI m_law_drawn_flat 0 (aC (eV 1) (aC (e2 subD (eV 1) (eC (.int 1))) aN))) (aC (eI m_law_take 0 (aC (eC (.int 6)) aN)) aN))) (sQ (sIf (qB (e2 ltI (eV 3) (eC (.int 4)))) (sQ (sPat [4, 5] (gT 2 (gC (gN 4) (gC (gN 5) gZ))) (eN m_law_halves (aC (eV 2) (aC (eI m_law_new_row 0 (aC (eV 1) (aC (eV 2) aN))) aN)))) (sQ (sPar 4 5 (aC (eI m_law_wider 0 (aC (eV 4) aN)) (aC (eI m_law_wider 0 (aC (eV 5) aN)) aN))) (sQ (sIf (qAnd (qB (e2 eqD (eV 3) (eC (.int 3)))) (qB (e2 ltI (eN (p1 lenX) (aC (eV 4) aN)) (eV 1)))) (sAsg 4 (e2 ixX (eN m_law_halves (aC (eV 4) (aC (eI m_law_new_row 0 (aC (eV 1) (aC (eV 4) aN))) aN))) (eI m_law_take 0 (aC (eC (.int 2)) aN)))) sN) (sRet (eIf (qB (e2 neD (eV 3) (eC (.int 2)))) (eN mkT (aC (eV 2) (aC (eV 4) (aC (eV 5) aN)))) (eN mkT (aC (eI m_law_wider 0 (aC (eV 2) aN)) (aC (eV 4) (aC (eV 5) aN))))))))) sN) (sQ (sIf (qB (e2 eqD (eV 3) (eC (.int 4)))) (sRet (eN mkT (aC (eV 2) (aC (eI m_law_wider 0 (aC (eV 2) aN)) (aC (eI m_law_drawn_flat 0 (aC (eV 1) (aC (eV 1) aN))) aN))))) sN) (sRet (eN mkT (aC (eV 2) (aC (eI m_law_drawn_flat 0 (aC (eV 1) (aC (eV 1) aN))) (aC (eI m_law_some 0 (aC (eN mkL (aC (eN mkT aN) (aC (eV 2) (aC (eI m_law_drawn_flat 0 (aC (eV 1) (aC (eC (.int 2)) aN))) aN)))) aN)) aN))))))))
def m_law_three_flats : PyData → List PyData → Option (PyData × PyData) := runI 6 2 b_law_three_flats
def b_law_L1 : Sv := (sWipe [6, 7, 8, 9, 10, 11] (sQ (sPar 9 10 (aC (eN m_law_cut_due (aC (eV 4) (aC (eV 6) (aC (eV 7) (aC (eV 8) aN))))) (aC (eN (p1 reprD) (aC (eN mkT (aC (eV 6) (aC (eV 7) (aC (eV 8) aN)))) aN)) aN))) (sQ (sAsg 11 (eN mkL (aC (eN m_cut_by (aC (eV 6) (aC (eV 7) (aC (eV 8) aN)))) (aC (eN m_lies_in_both (aC (eV 6) (aC (eV 7) (aC (eV 8) aN)))) aN)))) (sIf (qOr (qNot (qB (eN m_law_alike (aC (eV 11) (aC (eN mkL (aC (eV 9) (aC (e2 isNotN (eV 9) (eC .none)) aN))) aN))))) (qB (e2 neD (eN (p1 reprD) (aC (eN mkT (aC (eV 6) (aC (eV 7) (aC (eV 8) aN)))) aN)) (eV 10)))) (sRet (eC (.bool false))) sN))))
def b_law_F1 : Sv := (sFor (iSeq (eN mkT (aC (eV 5) (aC (eN mkT (aC (e2 ixX (eV 5) (eC (.int 0))) (aC (e2 ixX (eV 5) (eC (.int 2))) (aC (e2 ixX (eV 5) (eC (.int 1))) aN)))) (aC (eN mkT (aC (e2 ixX (eV 5) (eC (.int 1))) (aC (e2 ixX (eV 5) (eC (.int 0))) (aC (e2 ixX (eV 5) (eC (.int 2))) aN)))) (aC (e2 repT (eN mkT (aC (e2 ixX (eV 5) (eC (.int 0))) aN)) (eC (.int 3))) aN)))))) (gT 3 (gC (gN 6) (gC (gN 7) (gC (gN 8) gZ)))) b_law_L1)
def b_law_L2 : Sv := (sWipe [2, 3, 4, 5, 6, 7, 8, 9, 10, 11] (sQ (sAsg 3 (e2 addD (eC (.int 1)) (eI m_law_take 1 (aC (eI m_law_some 1 (aC (eN mkL (aC (eC (.int 3)) (aC (eC (.int 5)) (aC (eC (.int 7)) aN)))) aN)) aN)))) (sQ (sPar 4 5 (aC (eN m_law_room (aC (eV 3) aN)) (aC (eI m_law_three_flats 1 (aC (eV 3) aN)) aN))) b_law_F1)))
def b_law_F2 : Sv := (sFor (iN rng1 (aC (eC (.int 12)) aN)) (gN 2) b_law_L2)
def b_law : Sv := (sQ b_law_F2 (sRet (eC (.bool true))))
end LX
end
/-! the mirrors of the law k09 -/
noncomputable section
namespace LX
open PySem L2 DL
/-- turns of a while -/
def b_halves : Sv := (sQ (sIf (qB (e2 isNotN (eN m_told_on (aC (eV 0) (aC (eV 1) aN))) (eC .none))) (sRet (eC .none)) sN) (sRet (eN mkT (aC (eN m_put_in (aC (eV 0) (aC (eV 1) (aC (eC (.int 0)) aN)))) (aC (eN m_put_in (aC (eV 0) (aC (eV 1) (aC (eC (.int 1)) aN)))) aN)))))
def m_halves : List PyData → Option PyData := runP 2 2 b_halves
def b_law_is_whole : Sv := (sRet (eAnd (e1 (isiD "int") (eV 0)) (e1 notD (e1 (isiD "bool") (eV 0)))))
def m_law_is_whole : List PyData → Option PyData := runP 1 1 b_law_is_whole
def b_law_is_in : Sv := (sRet (eAnd (eN m_law_is_whole (aC (eV 0) aN)) (eChain leI ltI (eC (.int 0)) (eV 0) (eV 1))))
def m_law_is_in : List PyData → Option PyData := runP 2 2 b_law_is_in
def b_law_is_sum_C1 : Ev := (eLc [2] (iSeq (eV 1)) (gN 2) (qNot (qB (eN m_law_is_in (aC (eV 2) (aC (eV 0) aN))))) (eV 2))
def b_law_is_sum : Sv := (sQ (sIf (qOr (qNot (qB (e1 (isiD "tuple") (eV 1)))) (qB (e2 neD b_law_is_sum_C1 (eN mkL aN)))) (sRet (eC (.bool false))) sN) (sRet (e2 eqD (eN (p1 lstD) (aC (eV 1) aN)) (e1 sortSetA (eV 1)))))
def m_law_is_sum : List PyData → Option PyData := runP 3 2 b_law_is_sum
def b_law_is_row : Sv := (sRet (eAnd (eN m_law_is_sum (aC (eV 0) (aC (eV 1) aN))) (e2 neD (eV 1) (eN mkT aN))))
def m_law_is_row : List PyData → Option PyData := runP 2 2 b_law_is_row
def b_law_is_line : Sv := (sQ (sIf (qOr (qNot (qB (e1 (isiD "tuple") (eV 1)))) (qB (e2 neD (eN (p1 lenX) (aC (eV 1) aN)) (eC (.int 2))))) (sRet (eC (.bool false))) sN) (sRet (eAnd (eN m_law_is_row (aC (eV 0) (aC (e2 ixX (eV 1) (eC (.int 0))) aN))) (eN m_law_is_in (aC (e2 ixX (eV 1) (eC (.int 1))) (aC (eC (.int 2)) aN))))))
def m_law_is_line : List PyData → Option PyData := runP 2 2 b_law_is_line
def b_law_is_clause_C1 : Ev := (eLc [2] (iSeq (eV 1)) (gN 2) (qNot (qB (eN m_law_is_line (aC (eV 0) (aC (eV 2) aN))))) (eV 2))
def b_law_is_clause : Sv := (sQ (sIf (qOr (qNot (qB (e1 (isiD "tuple") (eV 1)))) (qB (e2 neD b_law_is_clause_C1 (eN mkL aN)))) (sRet (eC (.bool false))) sN) (sRet (e2 eqD (eN (p1 lstD) (aC (eV 1) aN)) (e1 sortSetA (eV 1)))))
def m_law_is_clause : List PyData → Option PyData := runP 3 2 b_law_is_clause
def b_law_is_flat_C1 : Ev := (eLc [3] (iSeq (eV 1)) (gN 3) (qAnd (qB (e2 neD (eV 3) (eV 2))) (qB (e2 inX (e2 ixX (e2 ixX (eV 2) (eC (.int 0))) (eC (.int 0))) (e2 ixX (eV 3) (eC (.int 0)))))) (eV 3))
def b_law_is_flat_L1 : Sv := (sWipe [2] (sIf (qB (e2 neD b_law_is_flat_C1 (eN mkL aN))) (sRet (eC (.bool false))) sN))
def b_law_is_flat_F1 : Sv := (sFor (iSeq (eV 1)) (gN 2) b_law_is_flat_L1)
def b_law_is_flat : Sv := (sQ (sIf (qNot (qB (eN m_law_is_clause (aC (eV 0) (aC (eV 1) aN))))) (sRet (eC (.bool false))) sN) (sQ b_law_is_flat_F1 (sRet (eC (.bool true)))))
def m_law_is_flat : List PyData → Option PyData := runP 4 2 b_law_is_flat
def b_law_is_reduced_C1 : Ev := (eLc [5] (iSeq (eV 0)) (gN 5) qYes (e2 ixX (e2 ixX (eV 5) (eC (.int 0))) (eC (.int 0))))
def b_law_is_reduced_L1 : Sv := (sWipe [5] (sAsg 4 (e2 xorD (eV 4) (eIf (qB (e2 eqD (e2 andD (e2 shrD (eV 4) (e2 ixX (e2 ixX (eV 5) (eC (.int 0))) (eC (.int 0)))) (eC (.int 1))) (eC (.int 1)))) (eN m_law_mask (aC (e2 ixX (eV 5) (eC (.int 0))) aN)) (eC (.int 0))))))
def b_law_is_reduced_F1 : Sv := (sFor (iSeq (eV 0)) (gN 5) b_law_is_reduced_L1)
def b_law_is_reduced_C2 : Ev := (eLc [6] (iSeq (eV 3)) (gN 6) (qB (e2 inX (eV 6) (eV 2))) (eV 6))
def b_law_is_reduced : Sv := (sQ (sPar 3 4 (aC b_law_is_reduced_C1 (aC (eN m_law_mask (aC (eV 1) aN)) aN))) (sQ b_law_is_reduced_F1 (sRet (eAnd (eN m_law_alike (aC (eV 2) (aC (eN m_law_row (aC (eV 4) aN)) aN))) (e2 eqD b_law_is_reduced_C2 (eN mkL aN))))))
def m_law_is_reduced : List PyData → Option PyData := runP 7 3 b_law_is_reduced
def b_law_are_halves_L1 : Sv := (sWipe [5] (sIf (qOr (qNot (qB (eN m_law_is_flat (aC (e2 ixX (eV 0) (eC (.int 0))) (aC (e2 ixX (eV 3) (eV 5)) aN))))) (qB (e2 neD (eN m_law_in (aC (eV 0) (aC (e2 ixX (eV 3) (eV 5)) aN))) (e2 andD (eV 4) (eN m_law_held (aC (eV 0) (aC (eN mkT (aC (eV 2) (aC (eV 5) aN))) aN))))))) (sRet (eC (.bool false))) sN))
def b_law_are_halves_F1 : Sv := (sFor (iSeq (eN mkT (aC (eC (.int 0)) (aC (eC (.int 1)) aN)))) (gN 5) b_law_are_halves_L1)
def b_law_are_halves : Sv := (sQ (sIf (qOr (qNot (qB (e1 (isiD "tuple") (eV 3)))) (qB (e2 neD (eN (p1 lenX) (aC (eV 3) aN)) (eC (.int 2))))) (sRet (eC (.bool false))) sN) (sQ (sAsg 4 (eN m_law_in (aC (eV 0) (aC (eV 1) aN)))) (sQ b_law_are_halves_F1 (sRet (eC (.bool true))))))
def m_law_are_halves : List PyData → Option PyData := runP 6 4 b_law_are_halves
def b_law_is_told_right_C1 : Ev := (eLc [8] (iSeq (eN mkT (aC (eC (.int 0)) (aC (eC (.int 1)) aN)))) (gN 8) (qB (e2 gtI (e2 andD (eV 3) (eN m_law_held (aC (eV 0) (aC (eN mkT (aC (eV 2) (aC (eV 8) aN))) aN)))) (eC (.int 0)))) (eV 8))
def b_law_is_told_right : Sv := (sQ (sParM [3, 4] (mC false (eN m_law_in (aC (eV 0) (aC (eV 1) aN))) (mC false (eN (p1 reprD) (aC (eN mkL (aC (eV 1) (aC (eV 2) aN))) aN)) mN))) (sQ (sAsg 5 b_law_is_told_right_C1) (sQ (sPar 6 7 (aC (eIf (qB (e2 eqD (eN (p1 lenX) (aC (eV 5) aN)) (eC (.int 1)))) (e2 ixX (eV 5) (eC (.int 0))) (eC .none)) (aC (eN m_halves (aC (eV 1) (aC (eV 2) aN))) aN))) (sQ (sIf (qOr (qNot (qB (eN m_law_alike (aC (eN m_told_on (aC (eV 1) (aC (eV 2) aN))) (aC (eV 6) aN))))) (qNot (qB (eN m_law_is_reduced (aC (eV 1) (aC (eV 2) (aC (eN m_reduced (aC (eV 1) (aC (eV 2) aN))) aN))))))) (sRet (eC (.bool false))) sN) (sQ (sIf (qOr (qB (e2 neD (e2 eqD (eN m_reduced (aC (eV 1) (aC (eV 2) aN))) (eN mkT aN)) (e2 isNotN (eV 6) (eC .none)))) (qB (e2 neD (e2 isN (eV 7) (eC .none)) (e2 isNotN (eV 6) (eC .none))))) (sRet (eC (.bool false))) sN) (sQ (sIf (qAnd (qB (e2 isNotN (eV 7) (eC .none))) (qNot (qB (eN m_law_are_halves (aC (eV 0) (aC (eV 1) (aC (eV 2) (aC (eV 7) aN)))))))) (sRet (eC (.bool false))) sN) (sRet (e2 eqD (eN (p1 reprD) (aC (eN mkL (aC (eV 1) (aC (eV 2) aN))) aN)) (eV 4)))))))))
def m_law_is_told_right : List PyData → Option PyData := runP 9 3 b_law_is_told_right
def b_law_drawn_sum_L1 : Sv := (sWipe [4] (sAsg 3 (e2 xorD (eV 3) (eIf (qB (e2 eqD (eI m_law_take 0 (aC (eC (.int 2)) aN)) (eC (.int 0)))) (eN m_law_mask (aC (e2 ixX (eV 4) (eC (.int 0))) aN)) (eC (.int 0))))))
def b_law_drawn_sum_F1 : Sv := (sFor (iSeq (eV 2)) (gN 4) b_law_drawn_sum_L1)
def b_law_drawn_sum : Sv := (sQ (sIf (qOr (qB (e2 eqD (eI m_law_take 0 (aC (eC (.int 6)) aN)) (eC (.int 0)))) (qB (e2 eqD (eV 1) (eC (.int 0))))) (sRet (eN mkT aN)) sN) (sQ (sIf (qB (e2 eqD (eI m_law_take 0 (aC (eC (.int 2)) aN)) (eC (.int 0)))) (sRet (eI m_law_any_row 0 (aC (eV 1) aN))) sN) (sQ (sAsg 3 (eIf (qB (e2 eqD (eI m_law_take 0 (aC (eC (.int 4)) aN)) (eC (.int 0)))) (eN m_law_mask (aC (eI m_law_any_row 0 (aC (eV 1) aN)) aN)) (eC (.int 0)))) (sQ b_law_drawn_sum_F1 (sRet (eN m_law_row (aC (eV 3) aN)))))))
def m_law_drawn_sum : PyData → List PyData → Option (PyData × PyData) := runI 5 3 b_law_drawn_sum
def b_law_2_L1 : Sv := (sWipe [6] (sIf (qNot (qB (eN m_law_is_told_right (aC (eV 4) (aC (eV 5) (aC (eI m_law_drawn_sum 1 (aC (eV 3) (aC (eV 5) aN))) aN)))))) (sRet (eC (.bool false))) sN))
def b_law_2_F1 : Sv := (sFor (iN rng1 (aC (eC (.int 3)) aN)) (gN 6) b_law_2_L1)
def b_law_2_L2 : Sv := (sWipe [2, 3, 4, 5, 6, 7, 8, 9] (sQ (sAsg 3 (eI m_law_some 1 (aC (eN mkL (aC (eC (.int 3)) (aC (eC (.int 5)) (aC (eC (.int 2)) (aC (eC (.int 7)) (aC (eC (.int 1)) (aC (eC (.int 0)) aN))))))) aN))) (sQ (sPar 4 5 (aC (eN m_law_room (aC (eV 3) aN)) (aC (eI m_law_drawn_flat 1 (aC (eV 3) (aC (eC (.int 5)) aN))) aN))) (sQ b_law_2_F1 (sQ (sAsg 7 (eI m_law_drawn_flat 1 (aC (eC (.int 12)) (aC (eC (.int 8)) aN)))) (sQ (sAsg 8 (eI m_law_drawn_sum 1 (aC (eC (.int 12)) (aC (eV 7) aN)))) (sQ (sAsg 9 (eN m_law_told (aC (eV 7) (aC (eV 8) aN)))) (sQ (sIf (qOr (qNot (qB (eN m_law_alike (aC (eN m_told_on (aC (eV 7) (aC (eV 8) aN))) (aC (eV 9) aN))))) (qNot (qB (eN m_law_is_reduced (aC (eV 7) (aC (eV 8) (aC (eN m_reduced (aC (eV 7) (aC (eV 8) aN))) aN))))))) (sRet (eC (.bool false))) sN) (sIf (qNot (qB (eN m_law_alike (aC (eN m_halves (aC (eV 7) (aC (eV 8) aN))) (aC (eIf (qB (e2 isN (eV 9) (eC .none))) (eN m_law_halves (aC (eV 7) (aC (eV 8) aN))) (eC .none)) aN))))) (sRet (eC (.bool false))) sN)))))))))
def b_law_2_F2 : Sv := (sFor (iN rng1 (aC (eC (.int 4)) aN)) (gN 2) b_law_2_L2)
def b_law_2 : Sv := (sQ b_law_2_F2 (sRet (eC (.bool true))))
end LX
end
set_option maxHeartbeats 4000000
noncomputable section
namespace LX
open PySem PySem.Spec PyProof.Rows L2 DL
def topS (i : Nat) : Stmt := PySem.Challenge.pw_eithersums_k09_sums_on_a_flat.main.body.getD i (.Pass ⟨0, 0, 0, 0⟩)
abbrev s_plus : Stmt := topS 1
theorem sc_plus : FnScope ["one", "other", "at"] ["one", "other"] (defScope s_plus) := ⟨rfl, rfl, rfl, by decide +kernel, rfl, by decide +kernel, by decide +kernel⟩
abbrev s_together : Stmt := topS 2
theorem sc_together : FnScope ["sums", "found", "row"] ["sums"] (defScope s_together) := ⟨rfl, rfl, rfl, by decide +kernel, rfl, by decide +kernel, by decide +kernel⟩
abbrev s_led_by : Stmt := topS 4
theorem sc_led_by : FnScope ["flat", "row", "worth", "other", "bit"] ["flat", "row"] (defScope s_led_by) := ⟨rfl, rfl, rfl, by decide +kernel, rfl, by decide +kernel, by decide +kernel⟩
abbrev s_put_in : Stmt := topS 5
theorem sc_put_in : FnScope ["flat", "row", "bit", "worth", "found", "other", "its"] ["flat", "row", "bit"] (defScope s_put_in) := ⟨rfl, rfl, rfl, by decide +kernel, rfl, by decide +kernel, by decide +kernel⟩
abbrev s_reduced : Stmt := topS 6
theorem sc_reduced : FnScope ["flat", "row"] ["flat", "row"] (defScope s_reduced) := ⟨rfl, rfl, rfl, by decide +kernel, rfl, by decide +kernel, by decide +kernel⟩
abbrev s_told_on : Stmt := topS 7
theorem sc_told_on : FnScope ["flat", "row", "left", "worth"] ["flat", "row"] (defScope s_told_on) := ⟨rfl, rfl, rfl, by decide +kernel, rfl, by decide +kernel, by decide +kernel⟩
abbrev s_halves : Stmt := topS 8
theorem sc_halves : FnScope ["flat", "row"] ["flat", "row"] (defScope s_halves) := ⟨rfl, rfl, rfl, by decide +kernel, rfl, by decide +kernel, by decide +kernel⟩
abbrev s_law_bag : Stmt := topS 10
theorem sc_law_bag : FnScope ["script", "cell"] ["script"] (defScope s_law_bag) := ⟨rfl, rfl, rfl, by decide +kernel, rfl, by decide +kernel, by decide +kernel⟩
abbrev s_law_take : Stmt := topS 11
theorem sc_law_take : FnScope ["bag", "many", "cell", "stirred", "value", "begin", "second"] ["bag", "many"] (defScope s_law_take) := ⟨rfl, rfl, rfl, by decide +kernel, rfl, by decide +kernel, by decide +kernel⟩
abbrev s_law_some : Stmt := topS 12
theorem sc_law_some : FnScope ["bag", "things"] ["bag", "things"] (defScope s_law_some) := ⟨rfl, rfl, rfl, by decide +kernel, rfl, by decide +kernel, by decide +kernel⟩
abbrev s_law_alike : Stmt := topS 13
theorem sc_law_alike : FnScope ["found", "due"] ["found", "due"] (defScope s_law_alike) := ⟨rfl, rfl, rfl, by decide +kernel, rfl, by decide +kernel, by decide +kernel⟩
abbrev s_law_mask : Stmt := topS 14
theorem sc_law_mask : FnScope ["row", "found", "unknown"] ["row"] (defScope s_law_mask) := ⟨rfl, rfl, rfl, by decide +kernel, rfl, by decide +kernel, by decide +kernel⟩
abbrev s_law_row : Stmt := topS 15
theorem sc_law_row : FnScope ["mask", "unknown"] ["mask"] (defScope s_law_row) := ⟨rfl, rfl, rfl, by decide +kernel, rfl, by decide +kernel, by decide +kernel⟩
abbrev s_law_worth : Stmt := topS 16
theorem sc_law_worth : FnScope ["row", "bits", "unknown"] ["row", "bits"] (defScope s_law_worth) := ⟨rfl, rfl, rfl, by decide +kernel, rfl, by decide +kernel, by decide +kernel⟩
abbrev s_law_room : Stmt := topS 17
theorem sc_law_room : FnScope ["many", "whole", "columns", "unknown", "side", "block", "found", "at"] ["many"] (defScope s_law_room) := ⟨rfl, rfl, rfl, by decide +kernel, rfl, by decide +kernel, by decide +kernel⟩
abbrev s_law_held : Stmt := topS 18
theorem sc_law_held : FnScope ["room", "line", "found", "unknown"] ["room", "line"] (defScope s_law_held) := ⟨rfl, rfl, rfl, by decide +kernel, rfl, by decide +kernel, by decide +kernel⟩
abbrev s_law_in : Stmt := topS 19
theorem sc_law_in : FnScope ["room", "flat", "found", "line"] ["room", "flat"] (defScope s_law_in) := ⟨rfl, rfl, rfl, by decide +kernel, rfl, by decide +kernel, by decide +kernel⟩
abbrev s_law_flat_of : Stmt := topS 20
theorem sc_law_flat_of : FnScope ["lines", "heads", "row", "bit", "mask", "head", "at"] ["lines"] (defScope s_law_flat_of) := ⟨rfl, rfl, rfl, by decide +kernel, rfl, by decide +kernel, by decide +kernel⟩
abbrev s_law_told : Stmt := topS 21
theorem sc_law_told : FnScope ["flat", "row", "mask", "found", "line"] ["flat", "row"] (defScope s_law_told) := ⟨rfl, rfl, rfl, by decide +kernel, rfl, by decide +kernel, by decide +kernel⟩
abbrev s_law_halves : Stmt := topS 22
theorem sc_law_halves : FnScope ["flat", "row", "bit"] ["flat", "row"] (defScope s_law_halves) := ⟨rfl, rfl, rfl, by decide +kernel, rfl, by decide +kernel, by decide +kernel⟩
abbrev s_law_any_row : Stmt := topS 23
theorem sc_law_any_row : FnScope ["bag", "many", "mask", "turn"] ["bag", "many"] (defScope s_law_any_row) := ⟨rfl, rfl, rfl, by decide +kernel, rfl, by decide +kernel, by decide +kernel⟩
abbrev s_law_drawn_flat : Stmt := topS 24
theorem sc_law_drawn_flat : FnScope ["bag", "many", "most", "bits", "lines", "turn", "row", "unknown"] ["bag", "many", "most"] (defScope s_law_drawn_flat) := ⟨rfl, rfl, rfl, by decide +kernel, rfl, by decide +kernel, by decide +kernel⟩
abbrev s_law_is_whole : Stmt := topS 25
theorem sc_law_is_whole : FnScope ["thing"] ["thing"] (defScope s_law_is_whole) := ⟨rfl, rfl, rfl, by decide +kernel, rfl, by decide +kernel, by decide +kernel⟩
abbrev s_law_is_in : Stmt := topS 26
theorem sc_law_is_in : FnScope ["thing", "many"] ["thing", "many"] (defScope s_law_is_in) := ⟨rfl, rfl, rfl, by decide +kernel, rfl, by decide +kernel, by decide +kernel⟩
abbrev s_law_is_sum : Stmt := topS 27
theorem sc_law_is_sum : FnScope ["many", "thing", "one"] ["many", "thing"] (defScope s_law_is_sum) := ⟨rfl, rfl, rfl, by decide +kernel, rfl, by decide +kernel, by decide +kernel⟩
abbrev s_law_is_row : Stmt := topS 28
theorem sc_law_is_row : FnScope ["many", "thing"] ["many", "thing"] (defScope s_law_is_row) := ⟨rfl, rfl, rfl, by decide +kernel, rfl, by decide +kernel, by decide +kernel⟩
abbrev s_law_is_line : Stmt := topS 29
theorem sc_law_is_line : FnScope ["many", "thing"] ["many", "thing"] (defScope s_law_is_line) := ⟨rfl, rfl, rfl, by decide +kernel, rfl, by decide +kernel, by decide +kernel⟩
abbrev s_law_is_clause : Stmt := topS 30
theorem sc_law_is_clause : FnScope ["many", "thing", "line"] ["many", "thing"] (defScope s_law_is_clause) := ⟨rfl, rfl, rfl, by decide +kernel, rfl, by decide +kernel, by decide +kernel⟩
abbrev s_law_is_flat : Stmt := topS 31
theorem sc_law_is_flat : FnScope ["many", "thing", "line", "other"] ["many", "thing"] (defScope s_law_is_flat) := ⟨rfl, rfl, rfl, by decide +kernel, rfl, by decide +kernel, by decide +kernel⟩
abbrev s_law_is_reduced : Stmt := topS 32
theorem sc_law_is_reduced : FnScope ["flat", "row", "thing", "heads", "mask", "line", "head"] ["flat", "row", "thing"] (defScope s_law_is_reduced) := ⟨rfl, rfl, rfl, by decide +kernel, rfl, by decide +kernel, by decide +kernel⟩
abbrev s_law_are_halves : Stmt := topS 33
theorem sc_law_are_halves : FnScope ["room", "flat", "row", "thing", "some", "bit"] ["room", "flat", "row", "thing"] (defScope s_law_are_halves) := ⟨rfl, rfl, rfl, by decide +kernel, rfl, by decide +kernel, by decide +kernel⟩
abbrev s_law_is_told_right : Stmt := topS 34
theorem sc_law_is_told_right : FnScope ["room", "flat", "row", "some", "kept", "worths", "due", "both", "bit"] ["room", "flat", "row"] (defScope s_law_is_told_right) := ⟨rfl, rfl, rfl, by decide +kernel, rfl, by decide +kernel, by decide +kernel⟩
abbrev s_law_drawn_sum : Stmt := topS 35
theorem sc_law_drawn_sum : FnScope ["bag", "many", "flat", "mask", "line"] ["bag", "many", "flat"] (defScope s_law_drawn_sum) := ⟨rfl, rfl, rfl, by decide +kernel, rfl, by decide +kernel, by decide +kernel⟩
abbrev s_law : Stmt := topS 36
theorem sc_law : FnScope ["script", "bag", "turn", "many", "room", "flat", "k", "wide", "row", "worth"] ["script"] (defScope s_law) := ⟨rfl, rfl, rfl, by decide +kernel, rfl, by decide +kernel, by decide +kernel⟩
structure Tx (K : PySem.W.Frag) (mg : Str → Option Value) where
  a_plus : Addr
  d_plus : FuncData
  F_plus : Fun K "plus" "plus" s_plus a_plus d_plus
  g_plus : mg "plus" = some (.ref a_plus)
  B_plus : Binds K d_plus ["one", "other"] []
  a_together : Addr
  d_together : FuncData
  F_together : Fun K "together" "together" s_together a_together d_together
  g_together : mg "together" = some (.ref a_together)
  B_together : Binds K d_together ["sums"] []
  a_led_by : Addr
  d_led_by : FuncData
  F_led_by : Fun K "led_by" "led_by" s_led_by a_led_by d_led_by
  g_led_by : mg "led_by" = some (.ref a_led_by)
  B_led_by : Binds K d_led_by ["flat", "row"] []
  a_put_in : Addr
  d_put_in : FuncData
  F_put_in : Fun K "put_in" "put_in" s_put_in a_put_in d_put_in
  g_put_in : mg "put_in" = some (.ref a_put_in)
  B_put_in : Binds K d_put_in ["flat", "row", "bit"] []
  a_reduced : Addr
  d_reduced : FuncData
  F_reduced : Fun K "reduced" "reduced" s_reduced a_reduced d_reduced
  g_reduced : mg "reduced" = some (.ref a_reduced)
  B_reduced : Binds K d_reduced ["flat", "row"] []
  a_told_on : Addr
  d_told_on : FuncData
  F_told_on : Fun K "told_on" "told_on" s_told_on a_told_on d_told_on
  g_told_on : mg "told_on" = some (.ref a_told_on)
  B_told_on : Binds K d_told_on ["flat", "row"] []
  a_halves : Addr
  d_halves : FuncData
  F_halves : Fun K "halves" "halves" s_halves a_halves d_halves
  g_halves : mg "halves" = some (.ref a_halves)
  B_halves : Binds K d_halves ["flat", "row"] []
  a_law_bag : Addr
  d_law_bag : FuncData
  F_law_bag : Fun K "_law_bag" "_law_bag" s_law_bag a_law_bag d_law_bag
  g_law_bag : mg "_law_bag" = some (.ref a_law_bag)
  B_law_bag : Binds K d_law_bag ["script"] []
  a_law_take : Addr
  d_law_take : FuncData
  F_law_take : Fun K "_law_take" "_law_take" s_law_take a_law_take d_law_take
  g_law_take : mg "_law_take" = some (.ref a_law_take)
  B_law_take : Binds K d_law_take ["bag", "many"] []
  a_law_some : Addr
  d_law_some : FuncData
  F_law_some : Fun K "_law_some" "_law_some" s_law_some a_law_some d_law_some
  g_law_some : mg "_law_some" = some (.ref a_law_some)
  B_law_some : Binds K d_law_some ["bag", "things"] []
  a_law_alike : Addr
  d_law_alike : FuncData
  F_law_alike : Fun K "_law_alike" "_law_alike" s_law_alike a_law_alike d_law_alike
  g_law_alike : mg "_law_alike" = some (.ref a_law_alike)
  B_law_alike : Binds K d_law_alike ["found", "due"] []
  a_law_mask : Addr
  d_law_mask : FuncData
  F_law_mask : Fun K "_law_mask" "_law_mask" s_law_mask a_law_mask d_law_mask
  g_law_mask : mg "_law_mask" = some (.ref a_law_mask)
  B_law_mask : Binds K d_law_mask ["row"] []
  a_law_row : Addr
  d_law_row : FuncData
  F_law_row : Fun K "_law_row" "_law_row" s_law_row a_law_row d_law_row
  g_law_row : mg "_law_row" = some (.ref a_law_row)
  B_law_row : Binds K d_law_row ["mask"] []
  a_law_worth : Addr
  d_law_worth : FuncData
  F_law_worth : Fun K "_law_worth" "_law_worth" s_law_worth a_law_worth d_law_worth
  g_law_worth : mg "_law_worth" = some (.ref a_law_worth)
  B_law_worth : Binds K d_law_worth ["row", "bits"] []
  a_law_room : Addr
  d_law_room : FuncData
  F_law_room : Fun K "_law_room" "_law_room" s_law_room a_law_room d_law_room
  g_law_room : mg "_law_room" = some (.ref a_law_room)
  B_law_room : Binds K d_law_room ["many"] []
  a_law_held : Addr
  d_law_held : FuncData
  F_law_held : Fun K "_law_held" "_law_held" s_law_held a_law_held d_law_held
  g_law_held : mg "_law_held" = some (.ref a_law_held)
  B_law_held : Binds K d_law_held ["room", "line"] []
  a_law_in : Addr
  d_law_in : FuncData
  F_law_in : Fun K "_law_in" "_law_in" s_law_in a_law_in d_law_in
  g_law_in : mg "_law_in" = some (.ref a_law_in)
  B_law_in : Binds K d_law_in ["room", "flat"] []
  a_law_flat_of : Addr
  d_law_flat_of : FuncData
  F_law_flat_of : Fun K "_law_flat_of" "_law_flat_of" s_law_flat_of a_law_flat_of d_law_flat_of
  g_law_flat_of : mg "_law_flat_of" = some (.ref a_law_flat_of)
  B_law_flat_of : Binds K d_law_flat_of ["lines"] []
  a_law_told : Addr
  d_law_told : FuncData
  F_law_told : Fun K "_law_told" "_law_told" s_law_told a_law_told d_law_told
  g_law_told : mg "_law_told" = some (.ref a_law_told)
  B_law_told : Binds K d_law_told ["flat", "row"] []
  a_law_halves : Addr
  d_law_halves : FuncData
  F_law_halves : Fun K "_law_halves" "_law_halves" s_law_halves a_law_halves d_law_halves
  g_law_halves : mg "_law_halves" = some (.ref a_law_halves)
  B_law_halves : Binds K d_law_halves ["flat", "row"] []
  a_law_any_row : Addr
  d_law_any_row : FuncData
  F_law_any_row : Fun K "_law_any_row" "_law_any_row" s_law_any_row a_law_any_row d_law_any_row
  g_law_any_row : mg "_law_any_row" = some (.ref a_law_any_row)
  B_law_any_row : Binds K d_law_any_row ["bag", "many"] []
  a_law_drawn_flat : Addr
  d_law_drawn_flat : FuncData
  F_law_drawn_flat : Fun K "_law_drawn_flat" "_law_drawn_flat" s_law_drawn_flat a_law_drawn_flat d_law_drawn_flat
  g_law_drawn_flat : mg "_law_drawn_flat" = some (.ref a_law_drawn_flat)
  B_law_drawn_flat : Binds K d_law_drawn_flat ["bag", "many", "most"] []
  a_law_is_whole : Addr
  d_law_is_whole : FuncData
  F_law_is_whole : Fun K "_law_is_whole" "_law_is_whole" s_law_is_whole a_law_is_whole d_law_is_whole
  g_law_is_whole : mg "_law_is_whole" = some (.ref a_law_is_whole)
  B_law_is_whole : Binds K d_law_is_whole ["thing"] []
  a_law_is_in : Addr
  d_law_is_in : FuncData
  F_law_is_in : Fun K "_law_is_in" "_law_is_in" s_law_is_in a_law_is_in d_law_is_in
  g_law_is_in : mg "_law_is_in" = some (.ref a_law_is_in)
  B_law_is_in : Binds K d_law_is_in ["thing", "many"] []
  a_law_is_sum : Addr
  d_law_is_sum : FuncData
  F_law_is_sum : Fun K "_law_is_sum" "_law_is_sum" s_law_is_sum a_law_is_sum d_law_is_sum
  g_law_is_sum : mg "_law_is_sum" = some (.ref a_law_is_sum)
  B_law_is_sum : Binds K d_law_is_sum ["many", "thing"] []
  a_law_is_row : Addr
  d_law_is_row : FuncData
  F_law_is_row : Fun K "_law_is_row" "_law_is_row" s_law_is_row a_law_is_row d_law_is_row
  g_law_is_row : mg "_law_is_row" = some (.ref a_law_is_row)
  B_law_is_row : Binds K d_law_is_row ["many", "thing"] []
  a_law_is_line : Addr
  d_law_is_line : FuncData
  F_law_is_line : Fun K "_law_is_line" "_law_is_line" s_law_is_line a_law_is_line d_law_is_line
  g_law_is_line : mg "_law_is_line" = some (.ref a_law_is_line)
  B_law_is_line : Binds K d_law_is_line ["many", "thing"] []
  a_law_is_clause : Addr
  d_law_is_clause : FuncData
  F_law_is_clause : Fun K "_law_is_clause" "_law_is_clause" s_law_is_clause a_law_is_clause d_law_is_clause
  g_law_is_clause : mg "_law_is_clause" = some (.ref a_law_is_clause)
  B_law_is_clause : Binds K d_law_is_clause ["many", "thing"] []
  a_law_is_flat : Addr
  d_law_is_flat : FuncData
  F_law_is_flat : Fun K "_law_is_flat" "_law_is_flat" s_law_is_flat a_law_is_flat d_law_is_flat
  g_law_is_flat : mg "_law_is_flat" = some (.ref a_law_is_flat)
  B_law_is_flat : Binds K d_law_is_flat ["many", "thing"] []
  a_law_is_reduced : Addr
  d_law_is_reduced : FuncData
  F_law_is_reduced : Fun K "_law_is_reduced" "_law_is_reduced" s_law_is_reduced a_law_is_reduced d_law_is_reduced
  g_law_is_reduced : mg "_law_is_reduced" = some (.ref a_law_is_reduced)
  B_law_is_reduced : Binds K d_law_is_reduced ["flat", "row", "thing"] []
  a_law_are_halves : Addr
  d_law_are_halves : FuncData
  F_law_are_halves : Fun K "_law_are_halves" "_law_are_halves" s_law_are_halves a_law_are_halves d_law_are_halves
  g_law_are_halves : mg "_law_are_halves" = some (.ref a_law_are_halves)
  B_law_are_halves : Binds K d_law_are_halves ["room", "flat", "row", "thing"] []
  a_law_is_told_right : Addr
  d_law_is_told_right : FuncData
  F_law_is_told_right : Fun K "_law_is_told_right" "_law_is_told_right" s_law_is_told_right a_law_is_told_right d_law_is_told_right
  g_law_is_told_right : mg "_law_is_told_right" = some (.ref a_law_is_told_right)
  B_law_is_told_right : Binds K d_law_is_told_right ["room", "flat", "row"] []
  a_law_drawn_sum : Addr
  d_law_drawn_sum : FuncData
  F_law_drawn_sum : Fun K "_law_drawn_sum" "_law_drawn_sum" s_law_drawn_sum a_law_drawn_sum d_law_drawn_sum
  g_law_drawn_sum : mg "_law_drawn_sum" = some (.ref a_law_drawn_sum)
  B_law_drawn_sum : Binds K d_law_drawn_sum ["bag", "many", "flat"] []
  a_law : Addr
  d_law : FuncData
  F_law : Fun K "law" "law" s_law a_law d_law
  g_law : mg "law" = some (.ref a_law)
  B_law : Binds K d_law ["script"] []
  z_abs : mg "abs" = none
  z_bool : mg "bool" = none
  z_int : mg "int" = none
  z_isinstance : mg "isinstance" = none
  z_len : mg "len" = none
  z_list : mg "list" = none
  z_range : mg "range" = none
  z_repr : mg "repr" = none
  z_set : mg "set" = none
  z_sorted : mg "sorted" = none
  z_sum : mg "sum" = none
  z_tuple : mg "tuple" = none
section
variable {P : Program} {w : World} {K : PySem.W.Frag} {mg : Str → Option Value} {base : Heap}
theorem ok_plus (T : Tx K mg) : FnG P w K mg base 1 T.a_plus T.d_plus ["one", "other"] (SpP K m_plus) :=
  fnP T.F_plus sc_plus (by decide) fun cdv A outer s H E hr hg => (rs_one (r_ret (r_cb (pe_callTy call_tuple_of (by rfl) T.z_tuple (by decide +kernel) (ra_cons (r_fz (r_cbF (pe_callB (cr_sortAll rfl (room64 hr)) (by rfl) T.z_sorted (by decide +kernel) (ra_cons (r_bin o_add p_add (r_fz (r_lc (own := [("at", 2)]) rfl sc_plus.nd (ri_seq (r_var (pv 0))) (blkOk_by (N := ["one", "other", "at"]) (sc := defScope s_plus) (by decide +kernel)) (fun _ _ _ _ _ => (rg_name (pg_name (i := 2) sc_plus.nd rfl (.inl rfl)) (by decide))) (fun _ _ _ _ _ => (rt_one (r_tninY (room65 hr) (r_var (pv 2)) (r_var (pv 1))))) (fun _ _ _ _ _ => (r_var (pv 2))))) (r_fz (r_lc (own := [("at", 2)]) rfl sc_plus.nd (ri_seq (r_var (pv 1))) (blkOk_by (N := ["one", "other", "at"]) (sc := defScope s_plus) (by decide +kernel)) (fun _ _ _ _ _ => (rg_name (pg_name (i := 2) sc_plus.nd rfl (.inl rfl)) (by decide))) (fun _ _ _ _ _ => (rt_one (r_tninY (room65 hr) (r_var (pv 2)) (r_var (pv 0))))) (fun _ _ _ _ _ => (r_var (pv 2)))))) ra_nil)) b_sortX)) ra_nil)) b_tuple)))
theorem ok_together (T : Tx K mg) : FnG P w K mg base 2 T.a_together T.d_together ["sums"] (SpP K m_together) :=
  fnP T.F_together sc_together (by decide) fun cdv A outer s H E hr hg => (rs_cons (r_asg (ps_set (i := 1) sc_together.nd rfl (.inl rfl) (r_tup ra_nil)))
      (rs_cons (r_for (vs := [2]) PassesOwn.never rfl (ri_seq (r_var (pv 0))) (rg_name (pg_name (i := 2) sc_together.nd rfl (.inl rfl)) (by decide))
      (rs_one (r_asg (ps_set (i := 1) sc_together.nd rfl (.inl rfl) (r_callP (pe_callG (ok_plus T) (hr.mono (by omega)) hg (by rfl) T.g_plus T.F_plus.kp T.B_plus (ra_cons (r_var (pv 1)) (ra_cons (r_var (pv 2)) ra_nil))))))))
      (rs_one (r_ret (r_var (pv 1))))))
theorem ok_led_by (T : Tx K mg) : FnG P w K mg base 3 T.a_led_by T.d_led_by ["flat", "row"] (SpP K m_led_by) :=
  fnP T.F_led_by sc_led_by (by decide) fun cdv A outer s H E hr hg => (rs_cons (r_asg (ps_set (i := 2) sc_led_by.nd rfl (.inl rfl) (r_int pe_int)))
      (rs_cons (r_for (vs := [3, 4]) PassesOwn.never rfl (ri_seq (r_var (pv 0))) (rg_tup (pg_tup rfl (rg_cons (rg_name (pg_name (i := 3) sc_led_by.nd rfl (.inl rfl)) (by decide)) (rg_cons (rg_name (pg_name (i := 4) sc_led_by.nd rfl (.inl rfl)) (by decide)) rg_nil))))
      (rs_one (r_ifS (r_tinY (room65 hr) (r_ixY (room1 hr) (r_var (pv 3)) (r_int pe_int)) (r_var (pv 1))) (rs_one (r_par (ps_par rfl sc_led_by.nd rfl rfl (by decide) rfl rfl (ra_cons (r_callP (pe_callG (ok_together T) (hr.mono (by omega)) hg (by rfl) T.g_together T.F_together.kp T.B_together (ra_cons (r_fz (r_lst (ra_cons (r_var (pv 1)) (ra_cons (r_var (pv 3)) ra_nil)))) ra_nil))) (ra_cons (r_bin op_modN p_mod (r_bin o_add p_add (r_var (pv 2)) (r_var (pv 4))) (r_int pe_int)) ra_nil)) (by rfl)))) rs_nil)))
      (rs_one (r_ret (r_tup (ra_cons (r_var (pv 1)) (ra_cons (r_var (pv 2)) ra_nil)))))))
theorem ok_put_in (T : Tx K mg) : FnG P w K mg base 4 T.a_put_in T.d_put_in ["flat", "row", "bit"] (SpP K m_put_in) :=
  fnP T.F_put_in sc_put_in (by decide) fun cdv A outer s H E hr hg => (rs_cons (r_pat (vs := [1, 3]) (ps_asg (r_callP (pe_callG (ok_led_by T) (hr.mono (by omega)) hg (by rfl) T.g_led_by T.F_led_by.kp T.B_led_by (ra_cons (r_var (pv 0)) (ra_cons (r_var (pv 1)) ra_nil)))) (rg_tup (pg_tup rfl (rg_cons (rg_name (pg_name (i := 1) sc_put_in.nd rfl (.inl rfl)) (by decide)) (rg_cons (rg_name (pg_name (i := 3) sc_put_in.nd rfl (.inl rfl)) (by decide)) rg_nil))))))
      (rs_cons (r_asg (ps_set (i := 2) sc_put_in.nd rfl (.inl rfl) (r_bin op_modN p_mod (r_bin o_add p_add (r_var (pv 2)) (r_var (pv 3))) (r_int pe_int))))
      (rs_cons (r_ifS (r_tcmp (op_eqX hr.units) p_eq (r_var (pv 1)) (r_tup ra_nil) (nomark _)) (rs_one (r_ret (r_if (r_tcmp (op_eqX hr.units) p_eq (r_var (pv 2)) (r_int pe_int) (nomark _)) (r_var (pv 0)) (r_non pe_non)))) rs_nil)
      (rs_cons (r_asgO (ps_set (i := 4) sc_put_in.nd rfl (.inl rfl) (r_lst (ra_cons (r_tup (ra_cons (r_var (pv 1)) (ra_cons (r_var (pv 2)) ra_nil))) ra_nil))))
      (rs_cons (r_for (vs := [5, 6]) PassesOwn.never rfl (ri_seq (r_var (pv 0))) (rg_tup (pg_tup rfl (rg_cons (rg_name (pg_name (i := 5) sc_put_in.nd rfl (.inl rfl)) (by decide)) (rg_cons (rg_name (pg_name (i := 6) sc_put_in.nd rfl (.inl rfl)) (by decide)) rg_nil))))
      (rs_cons (r_ifS (r_tinY (room65 hr) (r_ixY (room1 hr) (r_var (pv 1)) (r_int pe_int)) (r_var (pv 5))) (rs_one (r_par (ps_par rfl sc_put_in.nd rfl rfl (by decide) rfl rfl (ra_cons (r_callP (pe_callG (ok_together T) (hr.mono (by omega)) hg (by rfl) T.g_together T.F_together.kp T.B_together (ra_cons (r_fz (r_lst (ra_cons (r_var (pv 5)) (ra_cons (r_var (pv 1)) ra_nil)))) ra_nil))) (ra_cons (r_bin op_modN p_mod (r_bin o_add p_add (r_var (pv 6)) (r_var (pv 2))) (r_int pe_int)) ra_nil)) (by rfl)))) rs_nil)
      (rs_one (r_mut (ps_expr (pe_bm PySem.F.plainAttrs_list PySem.F.slot_list_append PySem.F.type_list_append mt_append (pv 4) (ra_cons (r_tup (ra_cons (r_var (pv 5)) (ra_cons (r_var (pv 6)) ra_nil))) ra_nil))) m_app))))
      (rs_one (r_ret (r_sfz (r_cb (pe_callTy call_tuple_of (by rfl) T.z_tuple (by decide +kernel) (ra_cons (r_fz (r_cbF (pe_callB (cr_sortAll rfl (room64 hr)) (by rfl) T.z_sorted (by decide +kernel) (ra_cons (r_var (pv 4)) ra_nil)) b_sortX)) ra_nil)) b_tuple) (pu_N (pu_aC (pu_N (pu_aC pu_V pu_aN)) pu_aN))))))))))
theorem ok_reduced (T : Tx K mg) : FnG P w K mg base 4 T.a_reduced T.d_reduced ["flat", "row"] (SpP K m_reduced) :=
  fnP T.F_reduced sc_reduced (by decide) fun cdv A outer s H E hr hg => (rs_one (r_ret (r_ixY (room1 hr) (r_callP (pe_callG (ok_led_by T) (hr.mono (by omega)) hg (by rfl) T.g_led_by T.F_led_by.kp T.B_led_by (ra_cons (r_var (pv 0)) (ra_cons (r_var (pv 1)) ra_nil)))) (r_int pe_int))))
theorem ok_told_on (T : Tx K mg) : FnG P w K mg base 4 T.a_told_on T.d_told_on ["flat", "row"] (SpP K m_told_on) :=
  fnP T.F_told_on sc_told_on (by decide) fun cdv A outer s H E hr hg => (rs_cons (r_pat (vs := [2, 3]) (ps_asg (r_callP (pe_callG (ok_led_by T) (hr.mono (by omega)) hg (by rfl) T.g_led_by T.F_led_by.kp T.B_led_by (ra_cons (r_var (pv 0)) (ra_cons (r_var (pv 1)) ra_nil)))) (rg_tup (pg_tup rfl (rg_cons (rg_name (pg_name (i := 2) sc_told_on.nd rfl (.inl rfl)) (by decide)) (rg_cons (rg_name (pg_name (i := 3) sc_told_on.nd rfl (.inl rfl)) (by decide)) rg_nil))))))
      (rs_one (r_ret (r_if (r_tcmp (op_eqX hr.units) p_eq (r_var (pv 2)) (r_tup ra_nil) (nomark _)) (r_var (pv 3)) (r_non pe_non)))))
theorem ok_halves (T : Tx K mg) : FnG P w K mg base 5 T.a_halves T.d_halves ["flat", "row"] (SpP K m_halves) :=
  fnP T.F_halves sc_halves (by decide) fun cdv A outer s H E hr hg => (rs_cons (r_ifS (r_tcmp op_notN p_isNotN (r_callP (pe_callG (ok_told_on T) (hr.mono (by omega)) hg (by rfl) T.g_told_on T.F_told_on.kp T.B_told_on (ra_cons (r_var (pv 0)) (ra_cons (r_var (pv 1)) ra_nil)))) (r_non pe_non) (nomark _)) (rs_one (r_ret (r_non pe_non))) rs_nil)
      (rs_one (r_ret (r_tup (ra_cons (r_callP (pe_callG (ok_put_in T) (hr.mono (by omega)) hg (by rfl) T.g_put_in T.F_put_in.kp T.B_put_in (ra_cons (r_var (pv 0)) (ra_cons (r_var (pv 1)) (ra_cons (r_int pe_int) ra_nil))))) (ra_cons (r_callP (pe_callG (ok_put_in T) (hr.mono (by omega)) hg (by rfl) T.g_put_in T.F_put_in.kp T.B_put_in (ra_cons (r_var (pv 0)) (ra_cons (r_var (pv 1)) (ra_cons (r_int pe_int) ra_nil))))) ra_nil))))))
theorem ok_law_bag (T : Tx K mg) : FnG P w K mg base 1 T.a_law_bag T.d_law_bag ["script"] (spBag K) := by
  refine fnG_ok T.F_law_bag sc_law_bag (fun vs H Q E ⟨a, ns, e, _⟩ => by rw [e]; rfl) fun cdv A outer s H vs Q E hr hg hsp => ?_
  obtain ⟨a, ns, rfl, hS, hl, q⟩ := hsp
  exact ⟨_, pss_one (ps_ret (pe_lst (pa_cons pe_int (pa_cons pe_int (pa_cons pe_int (pa_cons (pe_lc (own := [("cell", 1)]) rfl sc_law_bag.nd (pi_list (pe_slice sl_list (pv 0) po_none (po_some pe_int))) (blkOk_by (N := ["script", "cell"]) (sc := defScope s_law_bag) (by decide +kernel))
    (fun _ _ _ _ _ => pg_name (i := 1) sc_law_bag.nd rfl (.inl rfl)) (fun _ _ _ _ _ => pts_nil) (fun _ _ _ _ _ => pe_callB call_abs (by rfl) T.z_abs (by decide +kernel) (pa_cons (pv 1) pa_nil))) pa_nil)))))), bag_reads rfl hS hl q⟩
theorem ok_law_take (T : Tx K mg) : FnG P w K mg base 1 T.a_law_take T.d_law_take ["bag", "many"] (SpI K m_law_take) :=
  fnI T.F_law_take sc_law_take (by decide) fun cdv A outer s H E hr hg => (rs_cons (r_ifS (r_tfz (r_tcmp (op_eqX hr.units) p_eq (r_ixY (room1 hr) (r_var (pv 0)) (r_int pe_int)) (r_int pe_int) (nomark _)) (pu_B (pu_2 (pu_2 pu_V pu_C) pu_C))) (rs_cons (r_asg (ps_set (i := 2) sc_law_take.nd rfl (.inl rfl) (r_sfz (r_ixY (room1 hr) (r_bin o_add p_add (r_sl (r_ixY (room1 hr) (r_var (pv 0)) (r_int pe_int)) (ro_some (r_ixY (room1 hr) (r_var (pv 0)) (r_int pe_int))) ro_none) (r_fz (r_lst (ra_cons (r_int pe_int) ra_nil)))) (r_int pe_int)) (pu_2 (pu_2 (pu_Sl (pu_2 pu_V pu_C) (pu_oS (pu_2 pu_V pu_C)) pu_oN) (pu_N (pu_aC pu_C pu_aN))) pu_C))))
      (rs_cons (r_augI (ps_augS (pv 0) (r_int pe_int) get_list (r_int pe_int) ip_add set_list))
      (rs_cons (r_ifS (r_tcmp op_ge p_ge (r_var (pv 2)) (r_bin op_pow p_pow (r_int pe_int) (r_int pe_int)) (nomark _)) (rs_one (r_setX (ps_asg (r_var (pv 2)) (pg_sub (pv 0) (r_int pe_int) set_list)) (ps_dput (room1 hr) (pv 0) (r_int pe_int) (r_var (pv 2)) rfl))) rs_nil)
      (rs_cons (r_asg (ps_set (i := 3) sc_law_take.nd rfl (.inl rfl) (r_sfz (r_bin o_add p_add (r_bin o_add p_add (r_bin op_mul p_mulI (r_ixY (room1 hr) (r_var (pv 0)) (r_int pe_int)) (r_int pe_int)) (r_bin op_modN p_mod (r_cb (pe_callTy call_int1 (by rfl) T.z_int (by decide +kernel) (ra_cons (r_var (pv 2)) ra_nil)) b_int) (r_int pe_int))) (r_bin op_mul p_mulI (r_int pe_int) (r_ixY (room1 hr) (r_var (pv 0)) (r_int pe_int)))) (pu_2 (pu_2 (pu_2 (pu_2 pu_V pu_C) pu_C) (pu_2 (pu_N (pu_aC pu_V pu_aN)) pu_C)) (pu_2 pu_C (pu_2 pu_V pu_C))))))
      (rs_one (r_setX (ps_asg (r_bin op_modN p_mod (r_cb (pe_callTy call_int1 (by rfl) T.z_int (by decide +kernel) (ra_cons (r_var (pv 3)) ra_nil)) b_int) (r_int pe_int)) (pg_sub (pv 0) (r_int pe_int) set_list)) (ps_dput (room1 hr) (pv 0) (r_int pe_int) (r_bin op_modN p_mod (r_cb (pe_callTy call_int1 (by rfl) T.z_int (by decide +kernel) (ra_cons (r_var (pv 3)) ra_nil)) b_int) (r_int pe_int)) rfl))))))) rs_nil)
      (rs_cons (r_ifS (r_tfz (r_tcmp op_gt p_gt (r_ixY (room1 hr) (r_var (pv 0)) (r_int pe_int)) (r_int pe_int) (nomark _)) (pu_B (pu_2 (pu_2 pu_V pu_C) pu_C))) (rs_cons (r_asg (ps_set (i := 4) sc_law_take.nd rfl (.inl rfl) (r_sfz (r_bin op_modN p_mod (r_cb (pe_callTy call_int1 (by rfl) T.z_int (by decide +kernel) (ra_cons (r_ixY (room1 hr) (r_var (pv 0)) (r_int pe_int)) ra_nil)) b_int) (r_var (pv 1))) (pu_2 (pu_N (pu_aC (pu_2 pu_V pu_C) pu_aN)) pu_V))))
      (rs_cons (r_setX (ps_asg (r_sfz (r_bin op_fdivN p_fdiv (r_cb (pe_callTy call_int1 (by rfl) T.z_int (by decide +kernel) (ra_cons (r_ixY (room1 hr) (r_var (pv 0)) (r_int pe_int)) ra_nil)) b_int) (r_var (pv 1))) (pu_2 (pu_N (pu_aC (pu_2 pu_V pu_C) pu_aN)) pu_V)) (pg_sub (pv 0) (r_int pe_int) set_list)) (ps_dput (room1 hr) (pv 0) (r_int pe_int) (r_sfz (r_bin op_fdivN p_fdiv (r_cb (pe_callTy call_int1 (by rfl) T.z_int (by decide +kernel) (ra_cons (r_ixY (room1 hr) (r_var (pv 0)) (r_int pe_int)) ra_nil)) b_int) (r_var (pv 1))) (pu_2 (pu_N (pu_aC (pu_2 pu_V pu_C) pu_aN)) pu_V)) rfl))
      (rs_one (r_ret (r_var (pv 4)))))) rs_nil)
      (rs_cons (r_asg (ps_set (i := 5) sc_law_take.nd rfl (.inl rfl) (r_sfz (r_bin op_modN p_mod (r_cb (pe_callTy call_int1 (by rfl) T.z_int (by decide +kernel) (ra_cons (r_bin op_mul p_mulI (r_bin o_add p_add (r_ixY (room1 hr) (r_var (pv 0)) (r_int pe_int)) (r_int pe_int)) (r_int pe_int)) ra_nil)) b_int) (r_int pe_int)) (pu_2 (pu_N (pu_aC (pu_2 (pu_2 (pu_2 pu_V pu_C) pu_C) pu_C) pu_aN)) pu_C))))
      (rs_cons (r_asg (ps_set (i := 6) sc_law_take.nd rfl (.inl rfl) (r_bin op_modN p_mod (r_cb (pe_callTy call_int1 (by rfl) T.z_int (by decide +kernel) (ra_cons (r_bin op_mul p_mulI (r_bin op_modN p_mod (r_cb (pe_callTy call_int1 (by rfl) T.z_int (by decide +kernel) (ra_cons (r_bin op_mul p_mulI (r_var (pv 5)) (r_var (pv 5))) ra_nil)) b_int) (r_int pe_int)) (r_int pe_int)) ra_nil)) b_int) (r_int pe_int))))
      (rs_one (r_ret (r_bin op_modN p_mod (r_cb (pe_callTy call_int1 (by rfl) T.z_int (by decide +kernel) (ra_cons (r_bin op_fdivN p_fdiv (r_var (pv 6)) (r_int pe_int)) ra_nil)) b_int) (r_var (pv 1)))))))))
theorem ok_law_some (T : Tx K mg) : FnG P w K mg base 2 T.a_law_some T.d_law_some ["bag", "things"] (SpI K m_law_some) :=
  fnI T.F_law_some sc_law_some (by decide) fun cdv A outer s H E hr hg => (rs_one (r_ret (r_ixY (room1 hr) (r_var (pv 1)) (r_callI (pe_callG (ok_law_take T) (hr.mono (by omega)) hg (by rfl) T.g_law_take T.F_law_take.kp T.B_law_take (pa_cons (pv 0) (ra_cons (r_cb (pe_callB call_lenX (by rfl) T.z_len (by decide +kernel) (ra_cons (r_var (pv 1)) ra_nil)) b_lenX) ra_nil)))))))
theorem ok_law_alike (T : Tx K mg) : FnG P w K mg base 1 T.a_law_alike T.d_law_alike ["found", "due"] (SpP K m_law_alike) :=
  fnP T.F_law_alike sc_law_alike (by decide) fun cdv A outer s H E hr hg => (rs_one (r_ret (r_and (r_cmp (op_eqX hr.units) p_eq (r_var (pv 0)) (r_var (pv 1)) (nomark _)) (r_one (r_cmp (op_eqX hr.units) p_eq (r_cb (pe_callB (c_repr hg (room66 hr)) (by rfl) T.z_repr (by decide +kernel) (ra_cons (r_var (pv 0)) ra_nil)) b_repr) (r_cb (pe_callB (c_repr hg (room66 hr)) (by rfl) T.z_repr (by decide +kernel) (ra_cons (r_var (pv 1)) ra_nil)) b_repr) (nomark _))))))
theorem ok_law_mask (T : Tx K mg) : FnG P w K mg base 1 T.a_law_mask T.d_law_mask ["row"] (SpP K m_law_mask) :=
  fnP T.F_law_mask sc_law_mask (by decide) fun cdv A outer s H E hr hg => (rs_cons (r_asg (ps_set (i := 1) sc_law_mask.nd rfl (.inl rfl) (r_int pe_int)))
      (rs_cons (r_for (vs := [2]) PassesOwn.never rfl (ri_seq (r_var (pv 0))) (rg_name (pg_name (i := 2) sc_law_mask.nd rfl (.inl rfl)) (by decide))
      (rs_one (r_asg (ps_set (i := 1) sc_law_mask.nd rfl (.inl rfl) (r_bin op_or p_or (r_var (pv 1)) (r_bin op_shlW p_shlX (r_int pe_int) (r_var (pv 2))))))))
      (rs_one (r_ret (r_var (pv 1))))))
theorem ok_law_row (T : Tx K mg) : FnG P w K mg base 1 T.a_law_row T.d_law_row ["mask"] (SpP K m_law_row) :=
  fnP T.F_law_row sc_law_row (by decide) fun cdv A outer s H E hr hg => (rs_one (r_ret (r_cb (pe_callTy call_tuple_of (by rfl) T.z_tuple (by decide +kernel) (ra_cons (r_fz (r_lc (own := [("unknown", 1)]) rfl sc_law_row.nd (ri_range1 (by rfl) T.z_range (ra_cons (r_bits (pe_bits (r_var (pv 0)))) ra_nil)) (blkOk_by (N := ["mask", "unknown"]) (sc := defScope s_law_row) (by decide +kernel)) (fun _ _ _ _ _ => (rg_name (pg_name (i := 1) sc_law_row.nd rfl (.inl rfl)) (by decide))) (fun _ _ _ _ _ => (rt_one (r_tcmp (op_eqX hr.units) p_eq (r_bin op_and p_and (r_bin op_shr p_shr (r_var (pv 0)) (r_var (pv 1))) (r_int pe_int)) (r_int pe_int) (nomark _)))) (fun _ _ _ _ _ => (r_var (pv 1))))) ra_nil)) b_tuple)))
theorem ok_law_worth (T : Tx K mg) : FnG P w K mg base 1 T.a_law_worth T.d_law_worth ["row", "bits"] (SpP K m_law_worth) :=
  fnP T.F_law_worth sc_law_worth (by decide) fun cdv A outer s H E hr hg => (rs_one (r_ret (r_bin op_modN p_mod (r_cb (pe_callTy call_int1 (by rfl) T.z_int (by decide +kernel) (ra_cons (r_cb (pe_callB (cr_sum rfl) (by rfl) T.z_sum (by decide +kernel) (ra_cons (r_fz (r_lc (own := [("unknown", 2)]) rfl sc_law_worth.nd (ri_seq (r_var (pv 0))) (blkOk_by (N := ["row", "bits", "unknown"]) (sc := defScope s_law_worth) (by decide +kernel)) (fun _ _ _ _ _ => (rg_name (pg_name (i := 2) sc_law_worth.nd rfl (.inl rfl)) (by decide))) (fun _ _ _ _ _ => rt_nil) (fun _ _ _ _ _ => (r_ixY (room1 hr) (r_var (pv 1)) (r_var (pv 2)))))) ra_nil)) b_sum) ra_nil)) b_int) (r_int pe_int))))
theorem ok_law_room (T : Tx K mg) : FnG P w K mg base 1 T.a_law_room T.d_law_room ["many"] (SpP K m_law_room) :=
  fnP T.F_law_room sc_law_room (by decide) fun cdv A outer s H E hr hg => (rs_cons (r_parM2 (ps_par rfl sc_law_room.nd rfl rfl (by decide) rfl rfl (rm_D (r_bin op_sub p_sub (r_bin op_shlW p_shlX (r_int pe_int) (r_bin op_shlW p_shlX (r_int pe_int) (r_var (pv 0)))) (r_int pe_int)) (rm_F (r_lst ra_nil) rm_nil)) (by rfl)))
      (rs_cons (r_for (vs := [3]) PassesOwn.never rfl (ri_range1 (by rfl) T.z_range (ra_cons (r_var (pv 0)) ra_nil)) (rg_name (pg_name (i := 3) sc_law_room.nd rfl (.inl rfl)) (by decide))
      (rs_cons (r_asg (ps_set (i := 4) sc_law_room.nd rfl (.inl rfl) (r_bin op_shlW p_shlX (r_int pe_int) (r_bin op_sub p_sub (r_bin op_sub p_sub (r_var (pv 0)) (r_int pe_int)) (r_var (pv 3))))))
      (rs_cons (r_asg (ps_set (i := 5) sc_law_room.nd rfl (.inl rfl) (r_bin op_shlW p_shlX (r_bin op_sub p_sub (r_bin op_shlW p_shlX (r_int pe_int) (r_var (pv 4))) (r_int pe_int)) (r_var (pv 4)))))
      (rs_cons (r_asg (ps_set (i := 6) sc_law_room.nd rfl (.inl rfl) (r_int pe_int)))
      (rs_cons (r_for (vs := [7]) PassesOwn.never rfl (ri_range1 (by rfl) T.z_range (ra_cons (r_bin op_shlW p_shlX (r_int pe_int) (r_var (pv 3))) ra_nil)) (rg_name (pg_name (i := 7) sc_law_room.nd rfl (.inl rfl)) (by decide))
      (rs_one (r_asg (ps_set (i := 6) sc_law_room.nd rfl (.inl rfl) (r_bin op_or p_or (r_var (pv 6)) (r_bin op_shlW p_shlX (r_var (pv 5)) (r_bin op_mul p_mulI (r_bin op_mul p_mulI (r_int pe_int) (r_var (pv 4))) (r_var (pv 7)))))))))
      (rs_one (r_mut (ps_expr (pe_bm PySem.F.plainAttrs_list PySem.F.slot_list_append PySem.F.type_list_append mt_append (pv 2) (ra_cons (r_var (pv 6)) ra_nil))) m_app)))))))
      (rs_one (r_ret (r_sfz (r_tup (ra_cons (r_var (pv 0)) (ra_cons (r_var (pv 1)) (ra_cons (r_cb (pe_callTy call_tuple_of (by rfl) T.z_tuple (by decide +kernel) (ra_cons (r_var (pv 2)) ra_nil)) b_tuple) ra_nil)))) (pu_N (pu_aC pu_V (pu_aC pu_V (pu_aC (pu_N (pu_aC pu_V pu_aN)) pu_aN)))))))))
theorem ok_law_held (T : Tx K mg) : FnG P w K mg base 1 T.a_law_held T.d_law_held ["room", "line"] (SpP K m_law_held) :=
  fnP T.F_law_held sc_law_held (by decide) fun cdv A outer s H E hr hg => (rs_cons (r_asg (ps_set (i := 2) sc_law_held.nd rfl (.inl rfl) (r_int pe_int)))
      (rs_cons (r_for (vs := [3]) PassesOwn.never rfl (ri_seq (r_ixY (room1 hr) (r_var (pv 1)) (r_int pe_int))) (rg_name (pg_name (i := 3) sc_law_held.nd rfl (.inl rfl)) (by decide))
      (rs_one (r_asg (ps_set (i := 2) sc_law_held.nd rfl (.inl rfl) (r_bin op_xor p_xor (r_var (pv 2)) (r_ixY (room1 hr) (r_ixY (room1 hr) (r_var (pv 0)) (r_int pe_int)) (r_var (pv 3))))))))
      (rs_one (r_ret (r_if (r_tcmp (op_eqX hr.units) p_eq (r_ixY (room1 hr) (r_var (pv 1)) (r_int pe_int)) (r_int pe_int) (nomark _)) (r_var (pv 2)) (r_bin op_xor p_xor (r_ixY (room1 hr) (r_var (pv 0)) (r_int pe_int)) (r_var (pv 2))))))))
theorem ok_law_in (T : Tx K mg) : FnG P w K mg base 2 T.a_law_in T.d_law_in ["room", "flat"] (SpP K m_law_in) :=
  fnP T.F_law_in sc_law_in (by decide) fun cdv A outer s H E hr hg => (rs_cons (r_asg (ps_set (i := 2) sc_law_in.nd rfl (.inl rfl) (r_ixY (room1 hr) (r_var (pv 0)) (r_int pe_int))))
      (rs_cons (r_for (vs := [3]) PassesOwn.never rfl (ri_seq (r_var (pv 1))) (rg_name (pg_name (i := 3) sc_law_in.nd rfl (.inl rfl)) (by decide))
      (rs_one (r_asg (ps_set (i := 2) sc_law_in.nd rfl (.inl rfl) (r_bin op_and p_and (r_var (pv 2)) (r_callP (pe_callG (ok_law_held T) (hr.mono (by omega)) hg (by rfl) T.g_law_held T.F_law_held.kp T.B_law_held (ra_cons (r_var (pv 0)) (ra_cons (r_var (pv 3)) ra_nil)))))))))
      (rs_one (r_ret (r_var (pv 2))))))
theorem ok_law_flat_of (T : Tx K mg) : FnG P w K mg base 2 T.a_law_flat_of T.d_law_flat_of ["lines"] (SpP K m_law_flat_of) :=
  fnP T.F_law_flat_of sc_law_flat_of (by decide) fun cdv A outer s H E hr hg => (rs_cons (r_asgO (ps_set (i := 1) sc_law_flat_of.nd rfl (.inr rfl) (r_dict0 pe_dnewK)))
      (rs_cons (r_for (vs := [2, 3]) PassesOwn.never rfl (ri_seq (r_var (pv 0))) (rg_tup (pg_tup rfl (rg_cons (rg_name (pg_name (i := 2) sc_law_flat_of.nd rfl (.inl rfl)) (by decide)) (rg_cons (rg_name (pg_name (i := 3) sc_law_flat_of.nd rfl (.inl rfl)) (by decide)) rg_nil))))
      (rs_cons (r_asg (ps_set (i := 4) sc_law_flat_of.nd rfl (.inl rfl) (r_callP (pe_callG (ok_law_mask T) (hr.mono (by omega)) hg (by rfl) T.g_law_mask T.F_law_mask.kp T.B_law_mask (ra_cons (r_var (pv 2)) ra_nil)))))
      (rs_cons (r_for (vs := [5]) PassesOwn.never rfl (ri_seq (r_fz (r_sfl (r_cbF (pe_callB (cr_sortAll rfl (room64 hr)) (by rfl) T.z_sorted (by decide +kernel) (ra_cons (r_var (pv 1)) ra_nil)) b_sortX)))) (rg_name (pg_name (i := 5) sc_law_flat_of.nd rfl (.inl rfl)) (by decide))
      (rs_one (r_ifS (r_tcmp (op_eqX hr.units) p_eq (r_bin op_and p_and (r_bin op_shr p_shr (r_var (pv 4)) (r_var (pv 5))) (r_int pe_int)) (r_int pe_int) (nomark _)) (rs_one (r_par (ps_par rfl sc_law_flat_of.nd rfl rfl (by decide) rfl rfl (ra_cons (r_sfz (r_bin op_xor p_xor (r_var (pv 4)) (r_ixY (room1 hr) (r_ixY (room1 hr) (r_var (pv 1)) (r_var (pv 5))) (r_int pe_int))) (pu_2 pu_V (pu_2 (pu_2 pu_V pu_V) pu_C))) (ra_cons (r_sfz (r_bin op_xor p_xor (r_var (pv 3)) (r_ixY (room1 hr) (r_ixY (room1 hr) (r_var (pv 1)) (r_var (pv 5))) (r_int pe_int))) (pu_2 pu_V (pu_2 (pu_2 pu_V pu_V) pu_C))) ra_nil)) (by rfl)))) rs_nil)))
      (rs_cons (r_ifS (PW.pt (rw_and (r_tcmp (op_eqX hr.units) p_eq (r_var (pv 4)) (r_int pe_int) (nomark _)) (rw_and1 (r_tcmp (op_eqX hr.units) p_eq (r_var (pv 3)) (r_int pe_int) (nomark _))))) (rs_one (r_ret (r_non pe_non))) rs_nil)
      (rs_one (r_ifS (r_tcmp op_gt p_gt (r_var (pv 4)) (r_int pe_int) (nomark _)) (rs_cons (r_asg (ps_set (i := 6) sc_law_flat_of.nd rfl (.inl rfl) (r_bin op_sub p_sub (r_bits (pe_bits (r_bin op_and p_and (r_var (pv 4)) (r_un un_neg p_neg (r_var (pv 4)))))) (r_int pe_int))))
      (rs_cons (r_for (vs := [5]) PassesOwn.never rfl (ri_seq (r_fz (r_sfl (r_cbF (pe_callB (cr_sortAll rfl (room64 hr)) (by rfl) T.z_sorted (by decide +kernel) (ra_cons (r_var (pv 1)) ra_nil)) b_sortX)))) (rg_name (pg_name (i := 5) sc_law_flat_of.nd rfl (.inl rfl)) (by decide))
      (rs_one (r_ifS (r_tfz (r_tcmp (op_eqX hr.units) p_eq (r_bin op_and p_and (r_bin op_shr p_shr (r_ixY (room1 hr) (r_ixY (room1 hr) (r_var (pv 1)) (r_var (pv 5))) (r_int pe_int)) (r_var (pv 6))) (r_int pe_int)) (r_int pe_int) (nomark _)) (pu_B (pu_2 (pu_2 (pu_2 (pu_2 (pu_2 pu_V pu_V) pu_C) pu_V) pu_C) pu_C))) (rs_one (r_setX (ps_asg (r_sfz (r_tup (ra_cons (r_bin op_xor p_xor (r_ixY (room1 hr) (r_ixY (room1 hr) (r_var (pv 1)) (r_var (pv 5))) (r_int pe_int)) (r_var (pv 4))) (ra_cons (r_bin op_xor p_xor (r_ixY (room1 hr) (r_ixY (room1 hr) (r_var (pv 1)) (r_var (pv 5))) (r_int pe_int)) (r_var (pv 3))) ra_nil))) (pu_N (pu_aC (pu_2 (pu_2 (pu_2 pu_V pu_V) pu_C) pu_V) (pu_aC (pu_2 (pu_2 (pu_2 pu_V pu_V) pu_C) pu_V) pu_aN)))) (pg_sub (pv 1) (r_var (pv 5)) set_list)) (ps_dput (room1 hr) (pv 1) (r_var (pv 5)) (r_sfz (r_tup (ra_cons (r_bin op_xor p_xor (r_ixY (room1 hr) (r_ixY (room1 hr) (r_var (pv 1)) (r_var (pv 5))) (r_int pe_int)) (r_var (pv 4))) (ra_cons (r_bin op_xor p_xor (r_ixY (room1 hr) (r_ixY (room1 hr) (r_var (pv 1)) (r_var (pv 5))) (r_int pe_int)) (r_var (pv 3))) ra_nil))) (pu_N (pu_aC (pu_2 (pu_2 (pu_2 pu_V pu_V) pu_C) pu_V) (pu_aC (pu_2 (pu_2 (pu_2 pu_V pu_V) pu_C) pu_V) pu_aN)))) rfl))) rs_nil)))
      (rs_one (r_setX (ps_asg (r_tup (ra_cons (r_var (pv 4)) (ra_cons (r_var (pv 3)) ra_nil))) (pg_sub (pv 1) (r_var (pv 6)) set_list)) (ps_dput (room1 hr) (pv 1) (r_var (pv 6)) (r_tup (ra_cons (r_var (pv 4)) (ra_cons (r_var (pv 3)) ra_nil))) rfl))))) rs_nil))))))
      (rs_one (r_ret (r_sfc (r_cb (pe_callTy call_tuple_of (by rfl) T.z_tuple (by decide +kernel) (ra_cons (r_fz (r_cbF (pe_callB (cr_sortAll rfl (room64 hr)) (by rfl) T.z_sorted (by decide +kernel) (ra_cons (r_fz (r_lc (own := [("head", 5)]) rfl sc_law_flat_of.nd (ri_seq (r_fz (r_cbF (pe_callB (cr_sortAll rfl (room64 hr)) (by rfl) T.z_sorted (by decide +kernel) (ra_cons (r_var (pv 1)) ra_nil)) b_sortX))) (blkOk_by (N := ["lines", "heads", "row", "bit", "mask", "head", "at"]) (sc := defScope s_law_flat_of) (by decide +kernel)) (fun _ _ _ _ _ => (rg_name (pg_name (i := 5) sc_law_flat_of.nd rfl (.inl rfl)) (by decide))) (fun _ _ _ _ _ => rt_nil) (fun _ _ _ _ _ => (r_tup (ra_cons (r_callP (pe_callG (ok_law_row T) (hr.mono (by omega)) hg (by rfl) T.g_law_row T.F_law_row.kp T.B_law_row (ra_cons (r_ixY (room1 hr) (r_ixY (room1 hr) (r_var (pv 1)) (r_var (pv 5))) (r_int pe_int)) ra_nil))) (ra_cons (r_ixY (room1 hr) (r_ixY (room1 hr) (r_var (pv 1)) (r_var (pv 5))) (r_int pe_int)) ra_nil)))))) ra_nil)) b_sortX)) ra_nil)) b_tuple))))))
theorem ok_law_told (T : Tx K mg) : FnG P w K mg base 2 T.a_law_told T.d_law_told ["flat", "row"] (SpP K m_law_told) :=
  fnP T.F_law_told sc_law_told (by decide) fun cdv A outer s H E hr hg => (rs_cons (r_par (ps_par rfl sc_law_told.nd rfl rfl (by decide) rfl rfl (ra_cons (r_callP (pe_callG (ok_law_mask T) (hr.mono (by omega)) hg (by rfl) T.g_law_mask T.F_law_mask.kp T.B_law_mask (ra_cons (r_var (pv 1)) ra_nil))) (ra_cons (r_int pe_int) ra_nil)) (by rfl)))
      (rs_cons (r_for (vs := [4]) PassesOwn.never rfl (ri_seq (r_var (pv 0))) (rg_name (pg_name (i := 4) sc_law_told.nd rfl (.inl rfl)) (by decide))
      (rs_one (r_ifS (r_tcmp (op_eqX hr.units) p_eq (r_bin op_and p_and (r_bin op_shr p_shr (r_var (pv 2)) (r_ixY (room1 hr) (r_ixY (room1 hr) (r_var (pv 4)) (r_int pe_int)) (r_int pe_int))) (r_int pe_int)) (r_int pe_int) (nomark _)) (rs_one (r_par (ps_par rfl sc_law_told.nd rfl rfl (by decide) rfl rfl (ra_cons (r_bin op_xor p_xor (r_var (pv 2)) (r_callP (pe_callG (ok_law_mask T) (hr.mono (by omega)) hg (by rfl) T.g_law_mask T.F_law_mask.kp T.B_law_mask (ra_cons (r_ixY (room1 hr) (r_var (pv 4)) (r_int pe_int)) ra_nil)))) (ra_cons (r_bin op_xor p_xor (r_var (pv 3)) (r_ixY (room1 hr) (r_var (pv 4)) (r_int pe_int))) ra_nil)) (by rfl)))) rs_nil)))
      (rs_one (r_ret (r_if (r_tcmp (op_eqX hr.units) p_eq (r_var (pv 2)) (r_int pe_int) (nomark _)) (r_var (pv 3)) (r_non pe_non))))))
theorem ok_law_halves (T : Tx K mg) : FnG P w K mg base 3 T.a_law_halves T.d_law_halves ["flat", "row"] (SpP K m_law_halves) :=
  fnP T.F_law_halves sc_law_halves (by decide) fun cdv A outer s H E hr hg => (rs_one (r_ret (r_cb (pe_callTy call_tuple_of (by rfl) T.z_tuple (by decide +kernel) (ra_cons (r_fz (r_lc (own := [("bit", 2)]) rfl sc_law_halves.nd (ri_seq (r_tup (ra_cons (r_int pe_int) (ra_cons (r_int pe_int) ra_nil)))) (blkOk_by (N := ["flat", "row", "bit"]) (sc := defScope s_law_halves) (by decide +kernel)) (fun _ _ _ _ _ => (rg_name (pg_name (i := 2) sc_law_halves.nd rfl (.inl rfl)) (by decide))) (fun _ _ _ _ _ => rt_nil) (fun _ _ _ _ _ => (r_callP (pe_callG (ok_law_flat_of T) (hr.mono (by omega)) hg (by rfl) T.g_law_flat_of T.F_law_flat_of.kp T.B_law_flat_of (ra_cons (r_bin o_add p_add (r_fz (r_cbF (pe_callTy call_list_of (by rfl) T.z_list (by decide +kernel) (ra_cons (r_var (pv 0)) ra_nil)) b_list)) (r_fz (r_lst (ra_cons (r_tup (ra_cons (r_var (pv 1)) (ra_cons (r_var (pv 2)) ra_nil))) ra_nil)))) ra_nil)))))) ra_nil)) b_tuple)))
theorem ok_law_any_row (T : Tx K mg) : FnG P w K mg base 3 T.a_law_any_row T.d_law_any_row ["bag", "many"] (SpI K m_law_any_row) :=
  fnI T.F_law_any_row sc_law_any_row (by decide) fun cdv A outer s H E hr hg => (rs_cons (r_asg (ps_set (i := 2) sc_law_any_row.nd rfl (.inl rfl) (r_int pe_int)))
      (rs_cons (r_for (vs := [3]) PassesOwn.never rfl (ri_range1 (by rfl) T.z_range (ra_cons (r_callI (pe_callG (ok_law_some T) (hr.mono (by omega)) hg (by rfl) T.g_law_some T.F_law_some.kp T.B_law_some (pa_cons (pv 0) (ra_cons (r_fz (r_lst (ra_cons (r_int pe_int) (ra_cons (r_int pe_int) (ra_cons (r_int pe_int) (ra_cons (r_int pe_int) (ra_cons (r_var (pv 1)) ra_nil))))))) ra_nil)))) ra_nil)) (rg_name (pg_name (i := 3) sc_law_any_row.nd rfl (.inl rfl)) (by decide))
      (rs_one (r_asg (ps_set (i := 2) sc_law_any_row.nd rfl (.inl rfl) (r_bin op_xor p_xor (r_var (pv 2)) (r_bin op_shlW p_shlX (r_int pe_int) (r_callI (pe_callG (ok_law_take T) (hr.mono (by omega)) hg (by rfl) T.g_law_take T.F_law_take.kp T.B_law_take (pa_cons (pv 0) (ra_cons (r_var (pv 1)) ra_nil))))))))))
      (rs_one (r_ret (r_if (r_tcmp op_gt p_gt (r_var (pv 2)) (r_int pe_int) (nomark _)) (r_callP (pe_callG (ok_law_row T) (hr.mono (by omega)) hg (by rfl) T.g_law_row T.F_law_row.kp T.B_law_row (ra_cons (r_var (pv 2)) ra_nil))) (r_tup (ra_cons (r_callI (pe_callG (ok_law_take T) (hr.mono (by omega)) hg (by rfl) T.g_law_take T.F_law_take.kp T.B_law_take (pa_cons (pv 0) (ra_cons (r_var (pv 1)) ra_nil)))) ra_nil)))))))
theorem ok_law_drawn_flat (T : Tx K mg) : FnG P w K mg base 4 T.a_law_drawn_flat T.d_law_drawn_flat ["bag", "many", "most"] (SpI K m_law_drawn_flat) :=
  fnI T.F_law_drawn_flat sc_law_drawn_flat (by decide) fun cdv A outer s H E hr hg => (rs_cons (r_parM2 (ps_par rfl sc_law_drawn_flat.nd rfl rfl (by decide) rfl rfl (rm_D (r_fz (r_lc (own := [("unknown", 7)]) rfl sc_law_drawn_flat.nd (ri_range1 (by rfl) T.z_range (ra_cons (r_var (pv 1)) ra_nil)) (blkOk_by (N := ["bag", "many", "most", "bits", "lines", "turn", "row", "unknown"]) (sc := defScope s_law_drawn_flat) (by decide +kernel)) (fun _ _ _ _ _ => (rg_name (pg_name (i := 7) sc_law_drawn_flat.nd rfl (.inl rfl)) (by decide))) (fun _ _ _ _ _ => rt_nil) (fun _ _ _ _ _ => (r_callI (pe_callG (ok_law_take T) (hr.mono (by omega)) hg (by rfl) T.g_law_take T.F_law_take.kp T.B_law_take (pa_cons (pv 0) (ra_cons (r_int pe_int) ra_nil))))))) (rm_F (r_lst ra_nil) rm_nil)) (by rfl)))
      (rs_cons (r_for (vs := [5]) PassesOwn.never rfl (ri_range1 (by rfl) T.z_range (ra_cons (r_if (r_tcmp op_gt p_gt (r_var (pv 1)) (r_int pe_int) (nomark _)) (r_callI (pe_callG (ok_law_take T) (hr.mono (by omega)) hg (by rfl) T.g_law_take T.F_law_take.kp T.B_law_take (pa_cons (pv 0) (ra_cons (r_bin o_add p_add (r_var (pv 2)) (r_int pe_int)) ra_nil)))) (r_int pe_int)) ra_nil)) (rg_name (pg_name (i := 5) sc_law_drawn_flat.nd rfl (.inl rfl)) (by decide))
      (rs_cons (r_asg (ps_set (i := 6) sc_law_drawn_flat.nd rfl (.inl rfl) (r_callI (pe_callG (ok_law_any_row T) (hr.mono (by omega)) hg (by rfl) T.g_law_any_row T.F_law_any_row.kp T.B_law_any_row (pa_cons (pv 0) (ra_cons (r_var (pv 1)) ra_nil))))))
      (rs_one (r_mut (ps_expr (pe_bm PySem.F.plainAttrs_list PySem.F.slot_list_append PySem.F.type_list_append mt_append (pv 4) (ra_cons (r_tup (ra_cons (r_var (pv 6)) (ra_cons (r_callP (pe_callG (ok_law_worth T) (hr.mono (by omega)) hg (by rfl) T.g_law_worth T.F_law_worth.kp T.B_law_worth (ra_cons (r_var (pv 6)) (ra_cons (r_var (pv 3)) ra_nil)))) ra_nil))) ra_nil))) m_app))))
      (rs_one (r_ret (r_sfz (r_callP (pe_callG (ok_law_flat_of T) (hr.mono (by omega)) hg (by rfl) T.g_law_flat_of T.F_law_flat_of.kp T.B_law_flat_of (ra_cons (r_var (pv 4)) ra_nil))) (pu_N (pu_aC pu_V pu_aN)))))))
theorem ok_law_is_whole (T : Tx K mg) : FnG P w K mg base 1 T.a_law_is_whole T.d_law_is_whole ["thing"] (SpP K m_law_is_whole) :=
  fnP T.F_law_is_whole sc_law_is_whole (by decide) fun cdv A outer s H E hr hg => (rs_one (r_ret (r_and (r_isi (pe_callB call_isi (by rfl) T.z_isinstance (by decide +kernel) (pa_cons (r_var (pv 0)) (pa_cons (pe_bltn (v := .ty "int") (by rfl) T.z_int PyProof.Rows.boot_int rfl) pa_nil)))) (r_one (r_not (r_isi (pe_callB call_isi (by rfl) T.z_isinstance (by decide +kernel) (pa_cons (r_var (pv 0)) (pa_cons (pe_bltn (v := .ty "bool") (by rfl) T.z_bool PyProof.Rows.boot_bool rfl) pa_nil)))))))))
theorem ok_law_is_in (T : Tx K mg) : FnG P w K mg base 2 T.a_law_is_in T.d_law_is_in ["thing", "many"] (SpP K m_law_is_in) :=
  fnP T.F_law_is_in sc_law_is_in (by decide) fun cdv A outer s H E hr hg => (rs_one (r_ret (r_and (r_callP (pe_callG (ok_law_is_whole T) (hr.mono (by omega)) hg (by rfl) T.g_law_is_whole T.F_law_is_whole.kp T.B_law_is_whole (ra_cons (r_var (pv 0)) ra_nil))) (r_one (r_chain op_le p_le op_lt p_lt (r_int pe_int) (r_var (pv 0)) (r_var (pv 1)))))))
theorem ok_law_is_sum (T : Tx K mg) : FnG P w K mg base 3 T.a_law_is_sum T.d_law_is_sum ["many", "thing"] (SpP K m_law_is_sum) :=
  fnP T.F_law_is_sum sc_law_is_sum (by decide) fun cdv A outer s H E hr hg => (rs_cons (r_ifS (PW.pt (rw_or (r_tnot (r_tval (r_isi (pe_callB call_isi (by rfl) T.z_isinstance (by decide +kernel) (pa_cons (r_var (pv 1)) (pa_cons (pe_bltn (v := .ty "tuple") (by rfl) T.z_tuple PyProof.Rows.boot_tuple rfl) pa_nil)))))) (rw_or1 (r_tcmp (op_neX hr.units) p_ne (r_fz (r_lc (own := [("one", 2)]) rfl sc_law_is_sum.nd (ri_seq (r_var (pv 1))) (blkOk_by (N := ["many", "thing", "one"]) (sc := defScope s_law_is_sum) (by decide +kernel)) (fun _ _ _ _ _ => (rg_name (pg_name (i := 2) sc_law_is_sum.nd rfl (.inl rfl)) (by decide))) (fun _ _ _ _ _ => (rt_one (r_tnot (r_tval (r_callP (pe_callG (ok_law_is_in T) (hr.mono (by omega)) hg (by rfl) T.g_law_is_in T.F_law_is_in.kp T.B_law_is_in (ra_cons (r_var (pv 2)) (ra_cons (r_var (pv 0)) ra_nil)))))))) (fun _ _ _ _ _ => (r_var (pv 2))))) (r_fz (r_lst ra_nil)) (nomark _))))) (rs_one (r_ret (r_bl pe_bl))) rs_nil)
      (rs_one (r_ret (r_cmp (op_eqX hr.units) p_eq (r_fz (r_cbF (pe_callTy call_list_of (by rfl) T.z_list (by decide +kernel) (ra_cons (r_var (pv 1)) ra_nil)) b_list)) (r_fz (r_sortSetA rfl (room64 hr) (by rfl) T.z_sorted (by rfl) T.z_set (r_var (pv 1)))) (nomark _)))))
theorem ok_law_is_row (T : Tx K mg) : FnG P w K mg base 4 T.a_law_is_row T.d_law_is_row ["many", "thing"] (SpP K m_law_is_row) :=
  fnP T.F_law_is_row sc_law_is_row (by decide) fun cdv A outer s H E hr hg => (rs_one (r_ret (r_and (r_callP (pe_callG (ok_law_is_sum T) (hr.mono (by omega)) hg (by rfl) T.g_law_is_sum T.F_law_is_sum.kp T.B_law_is_sum (ra_cons (r_var (pv 0)) (ra_cons (r_var (pv 1)) ra_nil)))) (r_one (r_cmp (op_neX hr.units) p_ne (r_var (pv 1)) (r_tup ra_nil) (nomark _))))))
theorem ok_law_is_line (T : Tx K mg) : FnG P w K mg base 5 T.a_law_is_line T.d_law_is_line ["many", "thing"] (SpP K m_law_is_line) :=
  fnP T.F_law_is_line sc_law_is_line (by decide) fun cdv A outer s H E hr hg => (rs_cons (r_ifS (PW.pt (rw_or (r_tnot (r_tval (r_isi (pe_callB call_isi (by rfl) T.z_isinstance (by decide +kernel) (pa_cons (r_var (pv 1)) (pa_cons (pe_bltn (v := .ty "tuple") (by rfl) T.z_tuple PyProof.Rows.boot_tuple rfl) pa_nil)))))) (rw_or1 (r_tcmp (op_neX hr.units) p_ne (r_cb (pe_callB call_lenX (by rfl) T.z_len (by decide +kernel) (ra_cons (r_var (pv 1)) ra_nil)) b_lenX) (r_int pe_int) (nomark _))))) (rs_one (r_ret (r_bl pe_bl))) rs_nil)
      (rs_one (r_ret (r_and (r_callP (pe_callG (ok_law_is_row T) (hr.mono (by omega)) hg (by rfl) T.g_law_is_row T.F_law_is_row.kp T.B_law_is_row (ra_cons (r_var (pv 0)) (ra_cons (r_ixY (room1 hr) (r_var (pv 1)) (r_int pe_int)) ra_nil)))) (r_one (r_callP (pe_callG (ok_law_is_in T) (hr.mono (by omega)) hg (by rfl) T.g_law_is_in T.F_law_is_in.kp T.B_law_is_in (ra_cons (r_ixY (room1 hr) (r_var (pv 1)) (r_int pe_int)) (ra_cons (r_int pe_int) ra_nil)))))))))
theorem ok_law_is_clause (T : Tx K mg) : FnG P w K mg base 6 T.a_law_is_clause T.d_law_is_clause ["many", "thing"] (SpP K m_law_is_clause) :=
  fnP T.F_law_is_clause sc_law_is_clause (by decide) fun cdv A outer s H E hr hg => (rs_cons (r_ifS (PW.pt (rw_or (r_tnot (r_tval (r_isi (pe_callB call_isi (by rfl) T.z_isinstance (by decide +kernel) (pa_cons (r_var (pv 1)) (pa_cons (pe_bltn (v := .ty "tuple") (by rfl) T.z_tuple PyProof.Rows.boot_tuple rfl) pa_nil)))))) (rw_or1 (r_tcmp (op_neX hr.units) p_ne (r_fz (r_lc (own := [("line", 2)]) rfl sc_law_is_clause.nd (ri_seq (r_var (pv 1))) (blkOk_by (N := ["many", "thing", "line"]) (sc := defScope s_law_is_clause) (by decide +kernel)) (fun _ _ _ _ _ => (rg_name (pg_name (i := 2) sc_law_is_clause.nd rfl (.inl rfl)) (by decide))) (fun _ _ _ _ _ => (rt_one (r_tnot (r_tval (r_callP (pe_callG (ok_law_is_line T) (hr.mono (by omega)) hg (by rfl) T.g_law_is_line T.F_law_is_line.kp T.B_law_is_line (ra_cons (r_var (pv 0)) (ra_cons (r_var (pv 2)) ra_nil)))))))) (fun _ _ _ _ _ => (r_var (pv 2))))) (r_fz (r_lst ra_nil)) (nomark _))))) (rs_one (r_ret (r_bl pe_bl))) rs_nil)
      (rs_one (r_ret (r_cmp (op_eqX hr.units) p_eq (r_fz (r_cbF (pe_callTy call_list_of (by rfl) T.z_list (by decide +kernel) (ra_cons (r_var (pv 1)) ra_nil)) b_list)) (r_fz (r_sortSetA rfl (room64 hr) (by rfl) T.z_sorted (by rfl) T.z_set (r_var (pv 1)))) (nomark _)))))
theorem ok_law_is_flat (T : Tx K mg) : FnG P w K mg base 7 T.a_law_is_flat T.d_law_is_flat ["many", "thing"] (SpP K m_law_is_flat) :=
  fnP T.F_law_is_flat sc_law_is_flat (by decide) fun cdv A outer s H E hr hg => (rs_cons (r_ifS (r_tnot (r_tval (r_callP (pe_callG (ok_law_is_clause T) (hr.mono (by omega)) hg (by rfl) T.g_law_is_clause T.F_law_is_clause.kp T.B_law_is_clause (ra_cons (r_var (pv 0)) (ra_cons (r_var (pv 1)) ra_nil)))))) (rs_one (r_ret (r_bl pe_bl))) rs_nil)
      (rs_cons (r_for (vs := [2]) PassesOwn.never rfl (ri_seq (r_var (pv 1))) (rg_name (pg_name (i := 2) sc_law_is_flat.nd rfl (.inr rfl)) (by decide))
      (rs_wipe (rs_one (r_ifS (r_tcmp (op_neX hr.units) p_ne (r_fz (r_lc (own := [("other", 3)]) rfl sc_law_is_flat.nd (ri_seq (r_var (pv 1))) (blkOk_by (N := ["many", "thing", "line", "other"]) (sc := defScope s_law_is_flat) (by decide +kernel)) (fun _ _ _ _ _ => (rg_name (pg_name (i := 3) sc_law_is_flat.nd rfl (.inl rfl)) (by decide))) (fun _ _ _ _ _ => (rt_one (PW.pt (rw_and (r_tcmp (op_neX hr.units) p_ne (r_var (pv 3)) (r_var (pv 2)) (nomark _)) (rw_and1 (r_tinY (room65 hr) (r_ixY (room1 hr) (r_ixY (room1 hr) (r_var (pv 2)) (r_int pe_int)) (r_int pe_int)) (r_ixY (room1 hr) (r_var (pv 3)) (r_int pe_int)))))))) (fun _ _ _ _ _ => (r_var (pv 3))))) (r_fz (r_lst ra_nil)) (nomark _)) (rs_one (r_ret (r_bl pe_bl))) rs_nil))))
      (rs_one (r_ret (r_bl pe_bl)))))
theorem ok_law_is_reduced (T : Tx K mg) : FnG P w K mg base 2 T.a_law_is_reduced T.d_law_is_reduced ["flat", "row", "thing"] (SpP K m_law_is_reduced) :=
  fnP T.F_law_is_reduced sc_law_is_reduced (by decide) fun cdv A outer s H E hr hg => (rs_cons (r_par (ps_par rfl sc_law_is_reduced.nd rfl rfl (by decide) rfl rfl (ra_cons (r_fz (r_lc (own := [("line", 5)]) rfl sc_law_is_reduced.nd (ri_seq (r_var (pv 0))) (blkOk_by (N := ["flat", "row", "thing", "heads", "mask", "line", "head"]) (sc := defScope s_law_is_reduced) (by decide +kernel)) (fun _ _ _ _ _ => (rg_name (pg_name (i := 5) sc_law_is_reduced.nd rfl (.inl rfl)) (by decide))) (fun _ _ _ _ _ => rt_nil) (fun _ _ _ _ _ => (r_ixY (room1 hr) (r_ixY (room1 hr) (r_var (pv 5)) (r_int pe_int)) (r_int pe_int))))) (ra_cons (r_callP (pe_callG (ok_law_mask T) (hr.mono (by omega)) hg (by rfl) T.g_law_mask T.F_law_mask.kp T.B_law_mask (ra_cons (r_var (pv 1)) ra_nil))) ra_nil)) (by rfl)))
      (rs_cons (r_for (vs := [5]) PassesOwn.never rfl (ri_seq (r_var (pv 0))) (rg_name (pg_name (i := 5) sc_law_is_reduced.nd rfl (.inl rfl)) (by decide))
      (rs_wipe (rs_one (r_asg (ps_set (i := 4) sc_law_is_reduced.nd rfl (.inl rfl) (r_bin op_xor p_xor (r_var (pv 4)) (r_if (r_tcmp (op_eqX hr.units) p_eq (r_bin op_and p_and (r_bin op_shr p_shr (r_var (pv 4)) (r_ixY (room1 hr) (r_ixY (room1 hr) (r_var (pv 5)) (r_int pe_int)) (r_int pe_int))) (r_int pe_int)) (r_int pe_int) (nomark _)) (r_callP (pe_callG (ok_law_mask T) (hr.mono (by omega)) hg (by rfl) T.g_law_mask T.F_law_mask.kp T.B_law_mask (ra_cons (r_ixY (room1 hr) (r_var (pv 5)) (r_int pe_int)) ra_nil))) (r_int pe_int))))))))
      (rs_one (r_ret (r_and (r_callP (pe_callG (ok_law_alike T) (hr.mono (by omega)) hg (by rfl) T.g_law_alike T.F_law_alike.kp T.B_law_alike (ra_cons (r_var (pv 2)) (ra_cons (r_callP (pe_callG (ok_law_row T) (hr.mono (by omega)) hg (by rfl) T.g_law_row T.F_law_row.kp T.B_law_row (ra_cons (r_var (pv 4)) ra_nil))) ra_nil)))) (r_one (r_cmp (op_eqX hr.units) p_eq (r_fz (r_lc (own := [("head", 6)]) rfl sc_law_is_reduced.nd (ri_seq (r_var (pv 3))) (blkOk_by (N := ["flat", "row", "thing", "heads", "mask", "line", "head"]) (sc := defScope s_law_is_reduced) (by decide +kernel)) (fun _ _ _ _ _ => (rg_name (pg_name (i := 6) sc_law_is_reduced.nd rfl (.inl rfl)) (by decide))) (fun _ _ _ _ _ => (rt_one (r_tinY (room65 hr) (r_var (pv 6)) (r_var (pv 2))))) (fun _ _ _ _ _ => (r_var (pv 6))))) (r_fz (r_lst ra_nil)) (nomark _))))))))
theorem ok_law_are_halves (T : Tx K mg) : FnG P w K mg base 8 T.a_law_are_halves T.d_law_are_halves ["room", "flat", "row", "thing"] (SpP K m_law_are_halves) :=
  fnP T.F_law_are_halves sc_law_are_halves (by decide) fun cdv A outer s H E hr hg => (rs_cons (r_ifS (PW.pt (rw_or (r_tnot (r_tval (r_isi (pe_callB call_isi (by rfl) T.z_isinstance (by decide +kernel) (pa_cons (r_var (pv 3)) (pa_cons (pe_bltn (v := .ty "tuple") (by rfl) T.z_tuple PyProof.Rows.boot_tuple rfl) pa_nil)))))) (rw_or1 (r_tcmp (op_neX hr.units) p_ne (r_cb (pe_callB call_lenX (by rfl) T.z_len (by decide +kernel) (ra_cons (r_var (pv 3)) ra_nil)) b_lenX) (r_int pe_int) (nomark _))))) (rs_one (r_ret (r_bl pe_bl))) rs_nil)
      (rs_cons (r_asg (ps_set (i := 4) sc_law_are_halves.nd rfl (.inl rfl) (r_callP (pe_callG (ok_law_in T) (hr.mono (by omega)) hg (by rfl) T.g_law_in T.F_law_in.kp T.B_law_in (ra_cons (r_var (pv 0)) (ra_cons (r_var (pv 1)) ra_nil))))))
      (rs_cons (r_for (vs := [5]) PassesOwn.never rfl (ri_seq (r_tup (ra_cons (r_int pe_int) (ra_cons (r_int pe_int) ra_nil)))) (rg_name (pg_name (i := 5) sc_law_are_halves.nd rfl (.inl rfl)) (by decide))
      (rs_wipe (rs_one (r_ifS (PW.pt (rw_or (r_tnot (r_tval (r_callP (pe_callG (ok_law_is_flat T) (hr.mono (by omega)) hg (by rfl) T.g_law_is_flat T.F_law_is_flat.kp T.B_law_is_flat (ra_cons (r_ixY (room1 hr) (r_var (pv 0)) (r_int pe_int)) (ra_cons (r_ixY (room1 hr) (r_var (pv 3)) (r_var (pv 5))) ra_nil)))))) (rw_or1 (r_tcmp (op_neX hr.units) p_ne (r_callP (pe_callG (ok_law_in T) (hr.mono (by omega)) hg (by rfl) T.g_law_in T.F_law_in.kp T.B_law_in (ra_cons (r_var (pv 0)) (ra_cons (r_ixY (room1 hr) (r_var (pv 3)) (r_var (pv 5))) ra_nil)))) (r_bin op_and p_and (r_var (pv 4)) (r_callP (pe_callG (ok_law_held T) (hr.mono (by omega)) hg (by rfl) T.g_law_held T.F_law_held.kp T.B_law_held (ra_cons (r_var (pv 0)) (ra_cons (r_tup (ra_cons (r_var (pv 2)) (ra_cons (r_var (pv 5)) ra_nil))) ra_nil))))) (nomark _))))) (rs_one (r_ret (r_bl pe_bl))) rs_nil))))
      (rs_one (r_ret (r_bl pe_bl))))))
theorem ok_law_is_told_right (T : Tx K mg) : FnG P w K mg base 9 T.a_law_is_told_right T.d_law_is_told_right ["room", "flat", "row"] (SpP K m_law_is_told_right) :=
  fnP T.F_law_is_told_right sc_law_is_told_right (by decide) fun cdv A outer s H E hr hg => (rs_cons (r_parMC (is := [3, 4]) (by decide) (ps_asg (pe_tup (rm_D (r_callP (pe_callG (ok_law_in T) (hr.mono (by omega)) hg (by rfl) T.g_law_in T.F_law_in.kp T.B_law_in (ra_cons (r_var (pv 0)) (ra_cons (r_var (pv 1)) ra_nil)))) (rm_D (r_cb (pe_callB (c_repr hg (room66 hr)) (by rfl) T.z_repr (by decide +kernel) (ra_cons (r_fz (r_lst (ra_cons (r_var (pv 1)) (ra_cons (r_var (pv 2)) ra_nil)))) ra_nil)) b_repr) rm_nil))) (pg_tup rfl (pgs_cons (pg_name (i := 3) sc_law_is_told_right.nd rfl (.inr rfl)) (pgs_cons (pg_name (i := 4) sc_law_is_told_right.nd rfl (.inl rfl)) pgs_nil)))))
      (rs_cons (r_setLc (i := 5) (own := [("bit", 8)]) rfl sc_law_is_told_right.nd rfl rfl (sw_true rfl rfl rfl (by decide +kernel)) (ri_seq (r_tup (ra_cons (r_int pe_int) (ra_cons (r_int pe_int) ra_nil)))) (blkOk_by (N := ["room", "flat", "row", "some", "kept", "worths", "due", "both", "bit"]) (sc := defScope s_law_is_told_right) (by decide +kernel)) (fun _ _ _ _ _ => (rg_name (pg_name (i := 8) sc_law_is_told_right.nd rfl (.inl rfl)) (by decide))) (fun _ _ _ _ _ => (rt_one (r_tcmp op_gt p_gt (r_bin op_and p_and (r_var (pv 3)) (r_callP (pe_callG (ok_law_held T) (hr.mono (by omega)) hg (by rfl) T.g_law_held T.F_law_held.kp T.B_law_held (ra_cons (r_var (pv 0)) (ra_cons (r_tup (ra_cons (r_var (pv 2)) (ra_cons (r_var (pv 8)) ra_nil))) ra_nil))))) (r_int pe_int) (nomark _)))) (fun _ _ _ _ _ => (r_var (pv 8))))
      (rs_cons (r_par (ps_par rfl sc_law_is_told_right.nd rfl rfl (by decide) rfl rfl (ra_cons (r_if (r_tcmp (op_eqX hr.units) p_eq (r_cb (pe_callB call_lenX (by rfl) T.z_len (by decide +kernel) (ra_cons (r_var (pv 5)) ra_nil)) b_lenX) (r_int pe_int) (nomark _)) (r_ixY (room1 hr) (r_var (pv 5)) (r_int pe_int)) (r_non pe_non)) (ra_cons (r_callP (pe_callG (ok_halves T) (hr.mono (by omega)) hg (by rfl) T.g_halves T.F_halves.kp T.B_halves (ra_cons (r_var (pv 1)) (ra_cons (r_var (pv 2)) ra_nil)))) ra_nil)) (by rfl)))
      (rs_cons (r_ifS (PW.pt (rw_or (r_tnot (r_tval (r_callP (pe_callG (ok_law_alike T) (hr.mono (by omega)) hg (by rfl) T.g_law_alike T.F_law_alike.kp T.B_law_alike (ra_cons (r_callP (pe_callG (ok_told_on T) (hr.mono (by omega)) hg (by rfl) T.g_told_on T.F_told_on.kp T.B_told_on (ra_cons (r_var (pv 1)) (ra_cons (r_var (pv 2)) ra_nil)))) (ra_cons (r_var (pv 6)) ra_nil)))))) (rw_or1 (r_tnot (r_tval (r_callP (pe_callG (ok_law_is_reduced T) (hr.mono (by omega)) hg (by rfl) T.g_law_is_reduced T.F_law_is_reduced.kp T.B_law_is_reduced (ra_cons (r_var (pv 1)) (ra_cons (r_var (pv 2)) (ra_cons (r_callP (pe_callG (ok_reduced T) (hr.mono (by omega)) hg (by rfl) T.g_reduced T.F_reduced.kp T.B_reduced (ra_cons (r_var (pv 1)) (ra_cons (r_var (pv 2)) ra_nil)))) ra_nil)))))))))) (rs_one (r_ret (r_bl pe_bl))) rs_nil)
      (rs_cons (r_ifS (PW.pt (rw_or (r_tcmp (op_neX hr.units) p_ne (r_cmp (op_eqX hr.units) p_eq (r_callP (pe_callG (ok_reduced T) (hr.mono (by omega)) hg (by rfl) T.g_reduced T.F_reduced.kp T.B_reduced (ra_cons (r_var (pv 1)) (ra_cons (r_var (pv 2)) ra_nil)))) (r_tup ra_nil) (nomark _)) (r_cmp op_notN p_isNotN (r_var (pv 6)) (r_non pe_non) (nomark _)) (nomark _)) (rw_or1 (r_tcmp (op_neX hr.units) p_ne (r_cmp op_isN p_isN (r_var (pv 7)) (r_non pe_non) (nomark _)) (r_cmp op_notN p_isNotN (r_var (pv 6)) (r_non pe_non) (nomark _)) (nomark _))))) (rs_one (r_ret (r_bl pe_bl))) rs_nil)
      (rs_cons (r_ifS (PW.pt (rw_and (r_tcmp op_notN p_isNotN (r_var (pv 7)) (r_non pe_non) (nomark _)) (rw_and1 (r_tnot (r_tval (r_callP (pe_callG (ok_law_are_halves T) (hr.mono (by omega)) hg (by rfl) T.g_law_are_halves T.F_law_are_halves.kp T.B_law_are_halves (ra_cons (r_var (pv 0)) (ra_cons (r_var (pv 1)) (ra_cons (r_var (pv 2)) (ra_cons (r_var (pv 7)) ra_nil))))))))))) (rs_one (r_ret (r_bl pe_bl))) rs_nil)
      (rs_one (r_ret (r_cmp (op_eqX hr.units) p_eq (r_cb (pe_callB (c_repr hg (room66 hr)) (by rfl) T.z_repr (by decide +kernel) (ra_cons (r_fz (r_lst (ra_cons (r_var (pv 1)) (ra_cons (r_var (pv 2)) ra_nil)))) ra_nil)) b_repr) (r_var (pv 4)) (nomark _))))))))))
theorem ok_law_drawn_sum (T : Tx K mg) : FnG P w K mg base 4 T.a_law_drawn_sum T.d_law_drawn_sum ["bag", "many", "flat"] (SpI K m_law_drawn_sum) :=
  fnI T.F_law_drawn_sum sc_law_drawn_sum (by decide) fun cdv A outer s H E hr hg => (rs_cons (r_ifS (PW.pt (rw_or (r_tcmp (op_eqX hr.units) p_eq (r_callI (pe_callG (ok_law_take T) (hr.mono (by omega)) hg (by rfl) T.g_law_take T.F_law_take.kp T.B_law_take (pa_cons (pv 0) (ra_cons (r_int pe_int) ra_nil)))) (r_int pe_int) (nomark _)) (rw_or1 (r_tcmp (op_eqX hr.units) p_eq (r_var (pv 1)) (r_int pe_int) (nomark _))))) (rs_one (r_ret (r_tup ra_nil))) rs_nil)
      (rs_cons (r_ifS (r_tcmp (op_eqX hr.units) p_eq (r_callI (pe_callG (ok_law_take T) (hr.mono (by omega)) hg (by rfl) T.g_law_take T.F_law_take.kp T.B_law_take (pa_cons (pv 0) (ra_cons (r_int pe_int) ra_nil)))) (r_int pe_int) (nomark _)) (rs_one (r_ret (r_callI (pe_callG (ok_law_any_row T) (hr.mono (by omega)) hg (by rfl) T.g_law_any_row T.F_law_any_row.kp T.B_law_any_row (pa_cons (pv 0) (ra_cons (r_var (pv 1)) ra_nil)))))) rs_nil)
      (rs_cons (r_asg (ps_set (i := 3) sc_law_drawn_sum.nd rfl (.inl rfl) (r_if (r_tcmp (op_eqX hr.units) p_eq (r_callI (pe_callG (ok_law_take T) (hr.mono (by omega)) hg (by rfl) T.g_law_take T.F_law_take.kp T.B_law_take (pa_cons (pv 0) (ra_cons (r_int pe_int) ra_nil)))) (r_int pe_int) (nomark _)) (r_callP (pe_callG (ok_law_mask T) (hr.mono (by omega)) hg (by rfl) T.g_law_mask T.F_law_mask.kp T.B_law_mask (ra_cons (r_callI (pe_callG (ok_law_any_row T) (hr.mono (by omega)) hg (by rfl) T.g_law_any_row T.F_law_any_row.kp T.B_law_any_row (pa_cons (pv 0) (ra_cons (r_var (pv 1)) ra_nil)))) ra_nil))) (r_int pe_int))))
      (rs_cons (r_for (vs := [4]) PassesOwn.never rfl (ri_seq (r_var (pv 2))) (rg_name (pg_name (i := 4) sc_law_drawn_sum.nd rfl (.inl rfl)) (by decide))
      (rs_wipe (rs_one (r_asg (ps_set (i := 3) sc_law_drawn_sum.nd rfl (.inl rfl) (r_bin op_xor p_xor (r_var (pv 3)) (r_if (r_tcmp (op_eqX hr.units) p_eq (r_callI (pe_callG (ok_law_take T) (hr.mono (by omega)) hg (by rfl) T.g_law_take T.F_law_take.kp T.B_law_take (pa_cons (pv 0) (ra_cons (r_int pe_int) ra_nil)))) (r_int pe_int) (nomark _)) (r_callP (pe_callG (ok_law_mask T) (hr.mono (by omega)) hg (by rfl) T.g_law_mask T.F_law_mask.kp T.B_law_mask (ra_cons (r_ixY (room1 hr) (r_var (pv 4)) (r_int pe_int)) ra_nil))) (r_int pe_int))))))))
      (rs_one (r_ret (r_callP (pe_callG (ok_law_row T) (hr.mono (by omega)) hg (by rfl) T.g_law_row T.F_law_row.kp T.B_law_row (ra_cons (r_var (pv 3)) ra_nil)))))))))
theorem ok_law (T : Tx K mg) (hψ : ∀ ns : List Int, ns.length ≤ 63 → ∃ ρ', b_law_2 (lawEn 10 1 ns) = some (.ret (.bool true) ρ')) : FnG P w K mg base 10 T.a_law T.d_law ["script"] (spLaw K) :=
  fnLaw (i := 1) T.F_law sc_law (by decide) (fun cdv A outer s H E hr hg => pss_cons (ps_set (i := 1) sc_law.nd rfl (.inl rfl) (pe_callG (ok_law_bag T) (hr.mono (by omega)) hg (by rfl) T.g_law_bag T.F_law_bag.kp T.B_law_bag (pa_cons (pv 0) pa_nil)))
      (rs_cons (r_for (vs := [2]) PassesOwn.never rfl (ri_range1 (by rfl) T.z_range (ra_cons (r_int pe_int) ra_nil)) (rg_name (pg_name (i := 2) sc_law.nd rfl (.inl rfl)) (by decide))
      (rs_wipe (rs_cons (r_asg (ps_set (i := 3) sc_law.nd rfl (.inl rfl) (r_callI (pe_callG (ok_law_some T) (hr.mono (by omega)) hg (by rfl) T.g_law_some T.F_law_some.kp T.B_law_some (pa_cons (pv 1) (ra_cons (r_fz (r_lst (ra_cons (r_int pe_int) (ra_cons (r_int pe_int) (ra_cons (r_int pe_int) (ra_cons (r_int pe_int) (ra_cons (r_int pe_int) (ra_cons (r_int pe_int) ra_nil)))))))) ra_nil))))))
      (rs_cons (r_par (ps_par rfl sc_law.nd rfl rfl (by decide) rfl rfl (ra_cons (r_callP (pe_callG (ok_law_room T) (hr.mono (by omega)) hg (by rfl) T.g_law_room T.F_law_room.kp T.B_law_room (ra_cons (r_var (pv 3)) ra_nil))) (ra_cons (r_callI (pe_callG (ok_law_drawn_flat T) (hr.mono (by omega)) hg (by rfl) T.g_law_drawn_flat T.F_law_drawn_flat.kp T.B_law_drawn_flat (pa_cons (pv 1) (ra_cons (r_var (pv 3)) (ra_cons (r_int pe_int) ra_nil))))) ra_nil)) (by rfl)))
      (rs_cons (r_for (vs := [6]) PassesOwn.never rfl (ri_range1 (by rfl) T.z_range (ra_cons (r_int pe_int) ra_nil)) (rg_name (pg_name (i := 6) sc_law.nd rfl (.inl rfl)) (by decide))
      (rs_wipe (rs_one (r_ifS (r_tnot (r_tval (r_callP (pe_callG (ok_law_is_told_right T) (hr.mono (by omega)) hg (by rfl) T.g_law_is_told_right T.F_law_is_told_right.kp T.B_law_is_told_right (ra_cons (r_var (pv 4)) (ra_cons (r_var (pv 5)) (ra_cons (r_callI (pe_callG (ok_law_drawn_sum T) (hr.mono (by omega)) hg (by rfl) T.g_law_drawn_sum T.F_law_drawn_sum.kp T.B_law_drawn_sum (pa_cons (pv 1) (ra_cons (r_var (pv 3)) (ra_cons (r_var (pv 5)) ra_nil))))) ra_nil))))))) (rs_one (r_ret (r_bl pe_bl))) rs_nil))))
      (rs_cons (r_asg (ps_set (i := 7) sc_law.nd rfl (.inl rfl) (r_callI (pe_callG (ok_law_drawn_flat T) (hr.mono (by omega)) hg (by rfl) T.g_law_drawn_flat T.F_law_drawn_flat.kp T.B_law_drawn_flat (pa_cons (pv 1) (ra_cons (r_int pe_int) (ra_cons (r_int pe_int) ra_nil)))))))
      (rs_cons (r_asg (ps_set (i := 8) sc_law.nd rfl (.inl rfl) (r_callI (pe_callG (ok_law_drawn_sum T) (hr.mono (by omega)) hg (by rfl) T.g_law_drawn_sum T.F_law_drawn_sum.kp T.B_law_drawn_sum (pa_cons (pv 1) (ra_cons (r_int pe_int) (ra_cons (r_var (pv 7)) ra_nil)))))))
      (rs_cons (r_asg (ps_set (i := 9) sc_law.nd rfl (.inl rfl) (r_callP (pe_callG (ok_law_told T) (hr.mono (by omega)) hg (by rfl) T.g_law_told T.F_law_told.kp T.B_law_told (ra_cons (r_var (pv 7)) (ra_cons (r_var (pv 8)) ra_nil))))))
      (rs_cons (r_ifS (PW.pt (rw_or (r_tnot (r_tval (r_callP (pe_callG (ok_law_alike T) (hr.mono (by omega)) hg (by rfl) T.g_law_alike T.F_law_alike.kp T.B_law_alike (ra_cons (r_callP (pe_callG (ok_told_on T) (hr.mono (by omega)) hg (by rfl) T.g_told_on T.F_told_on.kp T.B_told_on (ra_cons (r_var (pv 7)) (ra_cons (r_var (pv 8)) ra_nil)))) (ra_cons (r_var (pv 9)) ra_nil)))))) (rw_or1 (r_tnot (r_tval (r_callP (pe_callG (ok_law_is_reduced T) (hr.mono (by omega)) hg (by rfl) T.g_law_is_reduced T.F_law_is_reduced.kp T.B_law_is_reduced (ra_cons (r_var (pv 7)) (ra_cons (r_var (pv 8)) (ra_cons (r_callP (pe_callG (ok_reduced T) (hr.mono (by omega)) hg (by rfl) T.g_reduced T.F_reduced.kp T.B_reduced (ra_cons (r_var (pv 7)) (ra_cons (r_var (pv 8)) ra_nil)))) ra_nil)))))))))) (rs_one (r_ret (r_bl pe_bl))) rs_nil)
      (rs_one (r_ifS (r_tnot (r_tval (r_callP (pe_callG (ok_law_alike T) (hr.mono (by omega)) hg (by rfl) T.g_law_alike T.F_law_alike.kp T.B_law_alike (ra_cons (r_callP (pe_callG (ok_halves T) (hr.mono (by omega)) hg (by rfl) T.g_halves T.F_halves.kp T.B_halves (ra_cons (r_var (pv 7)) (ra_cons (r_var (pv 8)) ra_nil)))) (ra_cons (r_if (r_tcmp op_isN p_isN (r_var (pv 9)) (r_non pe_non) (nomark _)) (r_callP (pe_callG (ok_law_halves T) (hr.mono (by omega)) hg (by rfl) T.g_law_halves T.F_law_halves.kp T.B_law_halves (ra_cons (r_var (pv 7)) (ra_cons (r_var (pv 8)) ra_nil)))) (r_non pe_non)) ra_nil)))))) (rs_one (r_ret (r_bl pe_bl))) rs_nil)))))))))))
      (rs_one (r_ret (r_bl pe_bl))))) hψ
end
theorem all_mk {l : PySem.W.OpenLaw} {w : World} {K : PySem.W.Frag} {h : Heap} {mg : Str → Option Value} {fa : Addr} (X : K.In h) (G : h.Ns mainGlobals mg) (hfa : mg "law" = some (.ref fa))
    {f1 f2 f4 f5 f6 f7 f8 f10 f11 f12 f13 f14 f15 f16 f17 f18 f19 f20 f21 f22 f23 f24 f25 f26 f27 f28 f29 f30 f31 f32 f33 f34 f35 f36 : Addr}
    {o1 n1 o2 n2 o4 n4 o5 n5 o6 n6 o7 n7 o8 n8 o10 n10 o11 n11 o12 n12 o13 n13 o14 n14 o15 n15 o16 n16 o17 n17 o18 n18 o19 n19 o20 n20 o21 n21 o22 n22 o23 n23 o24 n24 o25 n25 o26 n26 o27 n27 o28 n28 o29 n29 o30 n30 o31 n31 o32 n32 o33 n33 o34 n34 o35 n35 o36 n36 : Option Addr}
    {sl1 sl2 sl4 sl5 sl6 sl7 sl8 sl10 sl11 sl12 sl13 sl14 sl15 sl16 sl17 sl18 sl19 sl20 sl21 sl22 sl23 sl24 sl25 sl26 sl27 sl28 sl29 sl30 sl31 sl32 sl33 sl34 sl35 sl36 : Array (Option Value)}
    {oc1 kV1 dc1 pm1 cd1 ct1 oc2 kV2 dc2 pm2 cd2 ct2 oc4 kV4 dc4 pm4 cd4 ct4 oc5 kV5 dc5 pm5 cd5 ct5 oc6 kV6 dc6 pm6 cd6 ct6 oc7 kV7 dc7 pm7 cd7 ct7 oc8 kV8 dc8 pm8 cd8 ct8 oc10 kV10 dc10 pm10 cd10 ct10 oc11 kV11 dc11 pm11 cd11 ct11 oc12 kV12 dc12 pm12 cd12 ct12 oc13 kV13 dc13 pm13 cd13 ct13 oc14 kV14 dc14 pm14 cd14 ct14 oc15 kV15 dc15 pm15 cd15 ct15 oc16 kV16 dc16 pm16 cd16 ct16 oc17 kV17 dc17 pm17 cd17 ct17 oc18 kV18 dc18 pm18 cd18 ct18 oc19 kV19 dc19 pm19 cd19 ct19 oc20 kV20 dc20 pm20 cd20 ct20 oc21 kV21 dc21 pm21 cd21 ct21 oc22 kV22 dc22 pm22 cd22 ct22 oc23 kV23 dc23 pm23 cd23 ct23 oc24 kV24 dc24 pm24 cd24 ct24 oc25 kV25 dc25 pm25 cd25 ct25 oc26 kV26 dc26 pm26 cd26 ct26 oc27 kV27 dc27 pm27 cd27 ct27 oc28 kV28 dc28 pm28 cd28 ct28 oc29 kV29 dc29 pm29 cd29 ct29 oc30 kV30 dc30 pm30 cd30 ct30 oc31 kV31 dc31 pm31 cd31 ct31 oc32 kV32 dc32 pm32 cd32 ct32 oc33 kV33 dc33 pm33 cd33 ct33 oc34 kV34 dc34 pm34 cd34 ct34 oc35 kV35 dc35 pm35 cd35 ct35 oc36 kV36 dc36 pm36 cd36 ct36 : Value}
    (a1 : PySem.W.nsIn K mainGlobals "plus" = some (some (.ref f1))) (l1 : K.lookup f1 = some ⟨oc1, o1, .func (PySem.W.fnOf "plus" "plus" (defArgs s_plus) (defBody s_plus) (defScope s_plus) .none kV1 dc1 pm1 n1 cd1 ct1), sl1⟩) (c1 : PySem.W.codeIn K cd1 "plus" = true) (k1 : PySem.W.keepIn K (.ref f1) = true)
    (a2 : PySem.W.nsIn K mainGlobals "together" = some (some (.ref f2))) (l2 : K.lookup f2 = some ⟨oc2, o2, .func (PySem.W.fnOf "together" "together" (defArgs s_together) (defBody s_together) (defScope s_together) .none kV2 dc2 pm2 n2 cd2 ct2), sl2⟩) (c2 : PySem.W.codeIn K cd2 "together" = true) (k2 : PySem.W.keepIn K (.ref f2) = true)
    (a4 : PySem.W.nsIn K mainGlobals "led_by" = some (some (.ref f4))) (l4 : K.lookup f4 = some ⟨oc4, o4, .func (PySem.W.fnOf "led_by" "led_by" (defArgs s_led_by) (defBody s_led_by) (defScope s_led_by) .none kV4 dc4 pm4 n4 cd4 ct4), sl4⟩) (c4 : PySem.W.codeIn K cd4 "led_by" = true) (k4 : PySem.W.keepIn K (.ref f4) = true)
    (a5 : PySem.W.nsIn K mainGlobals "put_in" = some (some (.ref f5))) (l5 : K.lookup f5 = some ⟨oc5, o5, .func (PySem.W.fnOf "put_in" "put_in" (defArgs s_put_in) (defBody s_put_in) (defScope s_put_in) .none kV5 dc5 pm5 n5 cd5 ct5), sl5⟩) (c5 : PySem.W.codeIn K cd5 "put_in" = true) (k5 : PySem.W.keepIn K (.ref f5) = true)
    (a6 : PySem.W.nsIn K mainGlobals "reduced" = some (some (.ref f6))) (l6 : K.lookup f6 = some ⟨oc6, o6, .func (PySem.W.fnOf "reduced" "reduced" (defArgs s_reduced) (defBody s_reduced) (defScope s_reduced) .none kV6 dc6 pm6 n6 cd6 ct6), sl6⟩) (c6 : PySem.W.codeIn K cd6 "reduced" = true) (k6 : PySem.W.keepIn K (.ref f6) = true)
    (a7 : PySem.W.nsIn K mainGlobals "told_on" = some (some (.ref f7))) (l7 : K.lookup f7 = some ⟨oc7, o7, .func (PySem.W.fnOf "told_on" "told_on" (defArgs s_told_on) (defBody s_told_on) (defScope s_told_on) .none kV7 dc7 pm7 n7 cd7 ct7), sl7⟩) (c7 : PySem.W.codeIn K cd7 "told_on" = true) (k7 : PySem.W.keepIn K (.ref f7) = true)
    (a8 : PySem.W.nsIn K mainGlobals "halves" = some (some (.ref f8))) (l8 : K.lookup f8 = some ⟨oc8, o8, .func (PySem.W.fnOf "halves" "halves" (defArgs s_halves) (defBody s_halves) (defScope s_halves) .none kV8 dc8 pm8 n8 cd8 ct8), sl8⟩) (c8 : PySem.W.codeIn K cd8 "halves" = true) (k8 : PySem.W.keepIn K (.ref f8) = true)
    (a10 : PySem.W.nsIn K mainGlobals "_law_bag" = some (some (.ref f10))) (l10 : K.lookup f10 = some ⟨oc10, o10, .func (PySem.W.fnOf "_law_bag" "_law_bag" (defArgs s_law_bag) (defBody s_law_bag) (defScope s_law_bag) .none kV10 dc10 pm10 n10 cd10 ct10), sl10⟩) (c10 : PySem.W.codeIn K cd10 "_law_bag" = true) (k10 : PySem.W.keepIn K (.ref f10) = true)
    (a11 : PySem.W.nsIn K mainGlobals "_law_take" = some (some (.ref f11))) (l11 : K.lookup f11 = some ⟨oc11, o11, .func (PySem.W.fnOf "_law_take" "_law_take" (defArgs s_law_take) (defBody s_law_take) (defScope s_law_take) .none kV11 dc11 pm11 n11 cd11 ct11), sl11⟩) (c11 : PySem.W.codeIn K cd11 "_law_take" = true) (k11 : PySem.W.keepIn K (.ref f11) = true)
    (a12 : PySem.W.nsIn K mainGlobals "_law_some" = some (some (.ref f12))) (l12 : K.lookup f12 = some ⟨oc12, o12, .func (PySem.W.fnOf "_law_some" "_law_some" (defArgs s_law_some) (defBody s_law_some) (defScope s_law_some) .none kV12 dc12 pm12 n12 cd12 ct12), sl12⟩) (c12 : PySem.W.codeIn K cd12 "_law_some" = true) (k12 : PySem.W.keepIn K (.ref f12) = true)
    (a13 : PySem.W.nsIn K mainGlobals "_law_alike" = some (some (.ref f13))) (l13 : K.lookup f13 = some ⟨oc13, o13, .func (PySem.W.fnOf "_law_alike" "_law_alike" (defArgs s_law_alike) (defBody s_law_alike) (defScope s_law_alike) .none kV13 dc13 pm13 n13 cd13 ct13), sl13⟩) (c13 : PySem.W.codeIn K cd13 "_law_alike" = true) (k13 : PySem.W.keepIn K (.ref f13) = true)
    (a14 : PySem.W.nsIn K mainGlobals "_law_mask" = some (some (.ref f14))) (l14 : K.lookup f14 = some ⟨oc14, o14, .func (PySem.W.fnOf "_law_mask" "_law_mask" (defArgs s_law_mask) (defBody s_law_mask) (defScope s_law_mask) .none kV14 dc14 pm14 n14 cd14 ct14), sl14⟩) (c14 : PySem.W.codeIn K cd14 "_law_mask" = true) (k14 : PySem.W.keepIn K (.ref f14) = true)
    (a15 : PySem.W.nsIn K mainGlobals "_law_row" = some (some (.ref f15))) (l15 : K.lookup f15 = some ⟨oc15, o15, .func (PySem.W.fnOf "_law_row" "_law_row" (defArgs s_law_row) (defBody s_law_row) (defScope s_law_row) .none kV15 dc15 pm15 n15 cd15 ct15), sl15⟩) (c15 : PySem.W.codeIn K cd15 "_law_row" = true) (k15 : PySem.W.keepIn K (.ref f15) = true)
    (a16 : PySem.W.nsIn K mainGlobals "_law_worth" = some (some (.ref f16))) (l16 : K.lookup f16 = some ⟨oc16, o16, .func (PySem.W.fnOf "_law_worth" "_law_worth" (defArgs s_law_worth) (defBody s_law_worth) (defScope s_law_worth) .none kV16 dc16 pm16 n16 cd16 ct16), sl16⟩) (c16 : PySem.W.codeIn K cd16 "_law_worth" = true) (k16 : PySem.W.keepIn K (.ref f16) = true)
    (a17 : PySem.W.nsIn K mainGlobals "_law_room" = some (some (.ref f17))) (l17 : K.lookup f17 = some ⟨oc17, o17, .func (PySem.W.fnOf "_law_room" "_law_room" (defArgs s_law_room) (defBody s_law_room) (defScope s_law_room) .none kV17 dc17 pm17 n17 cd17 ct17), sl17⟩) (c17 : PySem.W.codeIn K cd17 "_law_room" = true) (k17 : PySem.W.keepIn K (.ref f17) = true)
    (a18 : PySem.W.nsIn K mainGlobals "_law_held" = some (some (.ref f18))) (l18 : K.lookup f18 = some ⟨oc18, o18, .func (PySem.W.fnOf "_law_held" "_law_held" (defArgs s_law_held) (defBody s_law_held) (defScope s_law_held) .none kV18 dc18 pm18 n18 cd18 ct18), sl18⟩) (c18 : PySem.W.codeIn K cd18 "_law_held" = true) (k18 : PySem.W.keepIn K (.ref f18) = true)
    (a19 : PySem.W.nsIn K mainGlobals "_law_in" = some (some (.ref f19))) (l19 : K.lookup f19 = some ⟨oc19, o19, .func (PySem.W.fnOf "_law_in" "_law_in" (defArgs s_law_in) (defBody s_law_in) (defScope s_law_in) .none kV19 dc19 pm19 n19 cd19 ct19), sl19⟩) (c19 : PySem.W.codeIn K cd19 "_law_in" = true) (k19 : PySem.W.keepIn K (.ref f19) = true)
    (a20 : PySem.W.nsIn K mainGlobals "_law_flat_of" = some (some (.ref f20))) (l20 : K.lookup f20 = some ⟨oc20, o20, .func (PySem.W.fnOf "_law_flat_of" "_law_flat_of" (defArgs s_law_flat_of) (defBody s_law_flat_of) (defScope s_law_flat_of) .none kV20 dc20 pm20 n20 cd20 ct20), sl20⟩) (c20 : PySem.W.codeIn K cd20 "_law_flat_of" = true) (k20 : PySem.W.keepIn K (.ref f20) = true)
    (a21 : PySem.W.nsIn K mainGlobals "_law_told" = some (some (.ref f21))) (l21 : K.lookup f21 = some ⟨oc21, o21, .func (PySem.W.fnOf "_law_told" "_law_told" (defArgs s_law_told) (defBody s_law_told) (defScope s_law_told) .none kV21 dc21 pm21 n21 cd21 ct21), sl21⟩) (c21 : PySem.W.codeIn K cd21 "_law_told" = true) (k21 : PySem.W.keepIn K (.ref f21) = true)
    (a22 : PySem.W.nsIn K mainGlobals "_law_halves" = some (some (.ref f22))) (l22 : K.lookup f22 = some ⟨oc22, o22, .func (PySem.W.fnOf "_law_halves" "_law_halves" (defArgs s_law_halves) (defBody s_law_halves) (defScope s_law_halves) .none kV22 dc22 pm22 n22 cd22 ct22), sl22⟩) (c22 : PySem.W.codeIn K cd22 "_law_halves" = true) (k22 : PySem.W.keepIn K (.ref f22) = true)
    (a23 : PySem.W.nsIn K mainGlobals "_law_any_row" = some (some (.ref f23))) (l23 : K.lookup f23 = some ⟨oc23, o23, .func (PySem.W.fnOf "_law_any_row" "_law_any_row" (defArgs s_law_any_row) (defBody s_law_any_row) (defScope s_law_any_row) .none kV23 dc23 pm23 n23 cd23 ct23), sl23⟩) (c23 : PySem.W.codeIn K cd23 "_law_any_row" = true) (k23 : PySem.W.keepIn K (.ref f23) = true)
    (a24 : PySem.W.nsIn K mainGlobals "_law_drawn_flat" = some (some (.ref f24))) (l24 : K.lookup f24 = some ⟨oc24, o24, .func (PySem.W.fnOf "_law_drawn_flat" "_law_drawn_flat" (defArgs s_law_drawn_flat) (defBody s_law_drawn_flat) (defScope s_law_drawn_flat) .none kV24 dc24 pm24 n24 cd24 ct24), sl24⟩) (c24 : PySem.W.codeIn K cd24 "_law_drawn_flat" = true) (k24 : PySem.W.keepIn K (.ref f24) = true)
    (a25 : PySem.W.nsIn K mainGlobals "_law_is_whole" = some (some (.ref f25))) (l25 : K.lookup f25 = some ⟨oc25, o25, .func (PySem.W.fnOf "_law_is_whole" "_law_is_whole" (defArgs s_law_is_whole) (defBody s_law_is_whole) (defScope s_law_is_whole) .none kV25 dc25 pm25 n25 cd25 ct25), sl25⟩) (c25 : PySem.W.codeIn K cd25 "_law_is_whole" = true) (k25 : PySem.W.keepIn K (.ref f25) = true)
    (a26 : PySem.W.nsIn K mainGlobals "_law_is_in" = some (some (.ref f26))) (l26 : K.lookup f26 = some ⟨oc26, o26, .func (PySem.W.fnOf "_law_is_in" "_law_is_in" (defArgs s_law_is_in) (defBody s_law_is_in) (defScope s_law_is_in) .none kV26 dc26 pm26 n26 cd26 ct26), sl26⟩) (c26 : PySem.W.codeIn K cd26 "_law_is_in" = true) (k26 : PySem.W.keepIn K (.ref f26) = true)
    (a27 : PySem.W.nsIn K mainGlobals "_law_is_sum" = some (some (.ref f27))) (l27 : K.lookup f27 = some ⟨oc27, o27, .func (PySem.W.fnOf "_law_is_sum" "_law_is_sum" (defArgs s_law_is_sum) (defBody s_law_is_sum) (defScope s_law_is_sum) .none kV27 dc27 pm27 n27 cd27 ct27), sl27⟩) (c27 : PySem.W.codeIn K cd27 "_law_is_sum" = true) (k27 : PySem.W.keepIn K (.ref f27) = true)
    (a28 : PySem.W.nsIn K mainGlobals "_law_is_row" = some (some (.ref f28))) (l28 : K.lookup f28 = some ⟨oc28, o28, .func (PySem.W.fnOf "_law_is_row" "_law_is_row" (defArgs s_law_is_row) (defBody s_law_is_row) (defScope s_law_is_row) .none kV28 dc28 pm28 n28 cd28 ct28), sl28⟩) (c28 : PySem.W.codeIn K cd28 "_law_is_row" = true) (k28 : PySem.W.keepIn K (.ref f28) = true)
    (a29 : PySem.W.nsIn K mainGlobals "_law_is_line" = some (some (.ref f29))) (l29 : K.lookup f29 = some ⟨oc29, o29, .func (PySem.W.fnOf "_law_is_line" "_law_is_line" (defArgs s_law_is_line) (defBody s_law_is_line) (defScope s_law_is_line) .none kV29 dc29 pm29 n29 cd29 ct29), sl29⟩) (c29 : PySem.W.codeIn K cd29 "_law_is_line" = true) (k29 : PySem.W.keepIn K (.ref f29) = true)
    (a30 : PySem.W.nsIn K mainGlobals "_law_is_clause" = some (some (.ref f30))) (l30 : K.lookup f30 = some ⟨oc30, o30, .func (PySem.W.fnOf "_law_is_clause" "_law_is_clause" (defArgs s_law_is_clause) (defBody s_law_is_clause) (defScope s_law_is_clause) .none kV30 dc30 pm30 n30 cd30 ct30), sl30⟩) (c30 : PySem.W.codeIn K cd30 "_law_is_clause" = true) (k30 : PySem.W.keepIn K (.ref f30) = true)
    (a31 : PySem.W.nsIn K mainGlobals "_law_is_flat" = some (some (.ref f31))) (l31 : K.lookup f31 = some ⟨oc31, o31, .func (PySem.W.fnOf "_law_is_flat" "_law_is_flat" (defArgs s_law_is_flat) (defBody s_law_is_flat) (defScope s_law_is_flat) .none kV31 dc31 pm31 n31 cd31 ct31), sl31⟩) (c31 : PySem.W.codeIn K cd31 "_law_is_flat" = true) (k31 : PySem.W.keepIn K (.ref f31) = true)
    (a32 : PySem.W.nsIn K mainGlobals "_law_is_reduced" = some (some (.ref f32))) (l32 : K.lookup f32 = some ⟨oc32, o32, .func (PySem.W.fnOf "_law_is_reduced" "_law_is_reduced" (defArgs s_law_is_reduced) (defBody s_law_is_reduced) (defScope s_law_is_reduced) .none kV32 dc32 pm32 n32 cd32 ct32), sl32⟩) (c32 : PySem.W.codeIn K cd32 "_law_is_reduced" = true) (k32 : PySem.W.keepIn K (.ref f32) = true)
    (a33 : PySem.W.nsIn K mainGlobals "_law_are_halves" = some (some (.ref f33))) (l33 : K.lookup f33 = some ⟨oc33, o33, .func (PySem.W.fnOf "_law_are_halves" "_law_are_halves" (defArgs s_law_are_halves) (defBody s_law_are_halves) (defScope s_law_are_halves) .none kV33 dc33 pm33 n33 cd33 ct33), sl33⟩) (c33 : PySem.W.codeIn K cd33 "_law_are_halves" = true) (k33 : PySem.W.keepIn K (.ref f33) = true)
    (a34 : PySem.W.nsIn K mainGlobals "_law_is_told_right" = some (some (.ref f34))) (l34 : K.lookup f34 = some ⟨oc34, o34, .func (PySem.W.fnOf "_law_is_told_right" "_law_is_told_right" (defArgs s_law_is_told_right) (defBody s_law_is_told_right) (defScope s_law_is_told_right) .none kV34 dc34 pm34 n34 cd34 ct34), sl34⟩) (c34 : PySem.W.codeIn K cd34 "_law_is_told_right" = true) (k34 : PySem.W.keepIn K (.ref f34) = true)
    (a35 : PySem.W.nsIn K mainGlobals "_law_drawn_sum" = some (some (.ref f35))) (l35 : K.lookup f35 = some ⟨oc35, o35, .func (PySem.W.fnOf "_law_drawn_sum" "_law_drawn_sum" (defArgs s_law_drawn_sum) (defBody s_law_drawn_sum) (defScope s_law_drawn_sum) .none kV35 dc35 pm35 n35 cd35 ct35), sl35⟩) (c35 : PySem.W.codeIn K cd35 "_law_drawn_sum" = true) (k35 : PySem.W.keepIn K (.ref f35) = true)
    (a36 : PySem.W.nsIn K mainGlobals "law" = some (some (.ref f36))) (l36 : K.lookup f36 = some ⟨oc36, o36, .func (PySem.W.fnOf "law" "law" (defArgs s_law) (defBody s_law) (defScope s_law) .none kV36 dc36 pm36 n36 cd36 ct36), sl36⟩) (c36 : PySem.W.codeIn K cd36 "law" = true) (k36 : PySem.W.keepIn K (.ref f36) = true)
    (z0 : PySem.W.nsIn K mainGlobals "abs" = some none) (z1 : PySem.W.nsIn K mainGlobals "bool" = some none) (z2 : PySem.W.nsIn K mainGlobals "int" = some none) (z3 : PySem.W.nsIn K mainGlobals "isinstance" = some none) (z4 : PySem.W.nsIn K mainGlobals "len" = some none) (z5 : PySem.W.nsIn K mainGlobals "list" = some none) (z6 : PySem.W.nsIn K mainGlobals "range" = some none) (z7 : PySem.W.nsIn K mainGlobals "repr" = some none) (z8 : PySem.W.nsIn K mainGlobals "set" = some none) (z9 : PySem.W.nsIn K mainGlobals "sorted" = some none) (z10 : PySem.W.nsIn K mainGlobals "sum" = some none) (z11 : PySem.W.nsIn K mainGlobals "tuple" = some none)
    (hψ : ∀ ns : List Int, ns.length ≤ 63 → ∃ ρ', b_law_2 (lawEn 10 1 ns) = some (.ret (.bool true) ρ')) :
    ∃ fd : FuncData, (∀ (s : Shared) (v : Value), BindsTo s fd ⟨[v], []⟩ [("script", v)]) ∧ ∀ base : Heap, K.In base → base.Ns mainGlobals mg → FnG l.prog w K mg base 10 fa fd ["script"] (spLaw K) := by
  have e := hfa.symm.trans (PySem.W.mg_of X G a36)
  cases e
  let T : Tx K mg := {
    a_plus := f1, d_plus := _, F_plus := fun_mk (st := s_plus) l1 c1 k1, g_plus := PySem.W.mg_of X G a1, B_plus := ((fun_mk (st := s_plus) l1 c1 k1).binds (ps := ["one", "other"]) fun _ _ _ _ _ _ us hl => match us, hl with | [_, _], _ => rfl),
    a_together := f2, d_together := _, F_together := fun_mk (st := s_together) l2 c2 k2, g_together := PySem.W.mg_of X G a2, B_together := ((fun_mk (st := s_together) l2 c2 k2).binds (ps := ["sums"]) fun _ _ _ _ _ _ us hl => match us, hl with | [_], _ => rfl),
    a_led_by := f4, d_led_by := _, F_led_by := fun_mk (st := s_led_by) l4 c4 k4, g_led_by := PySem.W.mg_of X G a4, B_led_by := ((fun_mk (st := s_led_by) l4 c4 k4).binds (ps := ["flat", "row"]) fun _ _ _ _ _ _ us hl => match us, hl with | [_, _], _ => rfl),
    a_put_in := f5, d_put_in := _, F_put_in := fun_mk (st := s_put_in) l5 c5 k5, g_put_in := PySem.W.mg_of X G a5, B_put_in := ((fun_mk (st := s_put_in) l5 c5 k5).binds (ps := ["flat", "row", "bit"]) fun _ _ _ _ _ _ us hl => match us, hl with | [_, _, _], _ => rfl),
    a_reduced := f6, d_reduced := _, F_reduced := fun_mk (st := s_reduced) l6 c6 k6, g_reduced := PySem.W.mg_of X G a6, B_reduced := ((fun_mk (st := s_reduced) l6 c6 k6).binds (ps := ["flat", "row"]) fun _ _ _ _ _ _ us hl => match us, hl with | [_, _], _ => rfl),
    a_told_on := f7, d_told_on := _, F_told_on := fun_mk (st := s_told_on) l7 c7 k7, g_told_on := PySem.W.mg_of X G a7, B_told_on := ((fun_mk (st := s_told_on) l7 c7 k7).binds (ps := ["flat", "row"]) fun _ _ _ _ _ _ us hl => match us, hl with | [_, _], _ => rfl),
    a_halves := f8, d_halves := _, F_halves := fun_mk (st := s_halves) l8 c8 k8, g_halves := PySem.W.mg_of X G a8, B_halves := ((fun_mk (st := s_halves) l8 c8 k8).binds (ps := ["flat", "row"]) fun _ _ _ _ _ _ us hl => match us, hl with | [_, _], _ => rfl),
    a_law_bag := f10, d_law_bag := _, F_law_bag := fun_mk (st := s_law_bag) l10 c10 k10, g_law_bag := PySem.W.mg_of X G a10, B_law_bag := ((fun_mk (st := s_law_bag) l10 c10 k10).binds (ps := ["script"]) fun _ _ _ _ _ _ us hl => match us, hl with | [_], _ => rfl),
    a_law_take := f11, d_law_take := _, F_law_take := fun_mk (st := s_law_take) l11 c11 k11, g_law_take := PySem.W.mg_of X G a11, B_law_take := ((fun_mk (st := s_law_take) l11 c11 k11).binds (ps := ["bag", "many"]) fun _ _ _ _ _ _ us hl => match us, hl with | [_, _], _ => rfl),
    a_law_some := f12, d_law_some := _, F_law_some := fun_mk (st := s_law_some) l12 c12 k12, g_law_some := PySem.W.mg_of X G a12, B_law_some := ((fun_mk (st := s_law_some) l12 c12 k12).binds (ps := ["bag", "things"]) fun _ _ _ _ _ _ us hl => match us, hl with | [_, _], _ => rfl),
    a_law_alike := f13, d_law_alike := _, F_law_alike := fun_mk (st := s_law_alike) l13 c13 k13, g_law_alike := PySem.W.mg_of X G a13, B_law_alike := ((fun_mk (st := s_law_alike) l13 c13 k13).binds (ps := ["found", "due"]) fun _ _ _ _ _ _ us hl => match us, hl with | [_, _], _ => rfl),
    a_law_mask := f14, d_law_mask := _, F_law_mask := fun_mk (st := s_law_mask) l14 c14 k14, g_law_mask := PySem.W.mg_of X G a14, B_law_mask := ((fun_mk (st := s_law_mask) l14 c14 k14).binds (ps := ["row"]) fun _ _ _ _ _ _ us hl => match us, hl with | [_], _ => rfl),
    a_law_row := f15, d_law_row := _, F_law_row := fun_mk (st := s_law_row) l15 c15 k15, g_law_row := PySem.W.mg_of X G a15, B_law_row := ((fun_mk (st := s_law_row) l15 c15 k15).binds (ps := ["mask"]) fun _ _ _ _ _ _ us hl => match us, hl with | [_], _ => rfl),
    a_law_worth := f16, d_law_worth := _, F_law_worth := fun_mk (st := s_law_worth) l16 c16 k16, g_law_worth := PySem.W.mg_of X G a16, B_law_worth := ((fun_mk (st := s_law_worth) l16 c16 k16).binds (ps := ["row", "bits"]) fun _ _ _ _ _ _ us hl => match us, hl with | [_, _], _ => rfl),
    a_law_room := f17, d_law_room := _, F_law_room := fun_mk (st := s_law_room) l17 c17 k17, g_law_room := PySem.W.mg_of X G a17, B_law_room := ((fun_mk (st := s_law_room) l17 c17 k17).binds (ps := ["many"]) fun _ _ _ _ _ _ us hl => match us, hl with | [_], _ => rfl),
    a_law_held := f18, d_law_held := _, F_law_held := fun_mk (st := s_law_held) l18 c18 k18, g_law_held := PySem.W.mg_of X G a18, B_law_held := ((fun_mk (st := s_law_held) l18 c18 k18).binds (ps := ["room", "line"]) fun _ _ _ _ _ _ us hl => match us, hl with | [_, _], _ => rfl),
    a_law_in := f19, d_law_in := _, F_law_in := fun_mk (st := s_law_in) l19 c19 k19, g_law_in := PySem.W.mg_of X G a19, B_law_in := ((fun_mk (st := s_law_in) l19 c19 k19).binds (ps := ["room", "flat"]) fun _ _ _ _ _ _ us hl => match us, hl with | [_, _], _ => rfl),
    a_law_flat_of := f20, d_law_flat_of := _, F_law_flat_of := fun_mk (st := s_law_flat_of) l20 c20 k20, g_law_flat_of := PySem.W.mg_of X G a20, B_law_flat_of := ((fun_mk (st := s_law_flat_of) l20 c20 k20).binds (ps := ["lines"]) fun _ _ _ _ _ _ us hl => match us, hl with | [_], _ => rfl),
    a_law_told := f21, d_law_told := _, F_law_told := fun_mk (st := s_law_told) l21 c21 k21, g_law_told := PySem.W.mg_of X G a21, B_law_told := ((fun_mk (st := s_law_told) l21 c21 k21).binds (ps := ["flat", "row"]) fun _ _ _ _ _ _ us hl => match us, hl with | [_, _], _ => rfl),
    a_law_halves := f22, d_law_halves := _, F_law_halves := fun_mk (st := s_law_halves) l22 c22 k22, g_law_halves := PySem.W.mg_of X G a22, B_law_halves := ((fun_mk (st := s_law_halves) l22 c22 k22).binds (ps := ["flat", "row"]) fun _ _ _ _ _ _ us hl => match us, hl with | [_, _], _ => rfl),
    a_law_any_row := f23, d_law_any_row := _, F_law_any_row := fun_mk (st := s_law_any_row) l23 c23 k23, g_law_any_row := PySem.W.mg_of X G a23, B_law_any_row := ((fun_mk (st := s_law_any_row) l23 c23 k23).binds (ps := ["bag", "many"]) fun _ _ _ _ _ _ us hl => match us, hl with | [_, _], _ => rfl),
    a_law_drawn_flat := f24, d_law_drawn_flat := _, F_law_drawn_flat := fun_mk (st := s_law_drawn_flat) l24 c24 k24, g_law_drawn_flat := PySem.W.mg_of X G a24, B_law_drawn_flat := ((fun_mk (st := s_law_drawn_flat) l24 c24 k24).binds (ps := ["bag", "many", "most"]) fun _ _ _ _ _ _ us hl => match us, hl with | [_, _, _], _ => rfl),
    a_law_is_whole := f25, d_law_is_whole := _, F_law_is_whole := fun_mk (st := s_law_is_whole) l25 c25 k25, g_law_is_whole := PySem.W.mg_of X G a25, B_law_is_whole := ((fun_mk (st := s_law_is_whole) l25 c25 k25).binds (ps := ["thing"]) fun _ _ _ _ _ _ us hl => match us, hl with | [_], _ => rfl),
    a_law_is_in := f26, d_law_is_in := _, F_law_is_in := fun_mk (st := s_law_is_in) l26 c26 k26, g_law_is_in := PySem.W.mg_of X G a26, B_law_is_in := ((fun_mk (st := s_law_is_in) l26 c26 k26).binds (ps := ["thing", "many"]) fun _ _ _ _ _ _ us hl => match us, hl with | [_, _], _ => rfl),
    a_law_is_sum := f27, d_law_is_sum := _, F_law_is_sum := fun_mk (st := s_law_is_sum) l27 c27 k27, g_law_is_sum := PySem.W.mg_of X G a27, B_law_is_sum := ((fun_mk (st := s_law_is_sum) l27 c27 k27).binds (ps := ["many", "thing"]) fun _ _ _ _ _ _ us hl => match us, hl with | [_, _], _ => rfl),
    a_law_is_row := f28, d_law_is_row := _, F_law_is_row := fun_mk (st := s_law_is_row) l28 c28 k28, g_law_is_row := PySem.W.mg_of X G a28, B_law_is_row := ((fun_mk (st := s_law_is_row) l28 c28 k28).binds (ps := ["many", "thing"]) fun _ _ _ _ _ _ us hl => match us, hl with | [_, _], _ => rfl),
    a_law_is_line := f29, d_law_is_line := _, F_law_is_line := fun_mk (st := s_law_is_line) l29 c29 k29, g_law_is_line := PySem.W.mg_of X G a29, B_law_is_line := ((fun_mk (st := s_law_is_line) l29 c29 k29).binds (ps := ["many", "thing"]) fun _ _ _ _ _ _ us hl => match us, hl with | [_, _], _ => rfl),
    a_law_is_clause := f30, d_law_is_clause := _, F_law_is_clause := fun_mk (st := s_law_is_clause) l30 c30 k30, g_law_is_clause := PySem.W.mg_of X G a30, B_law_is_clause := ((fun_mk (st := s_law_is_clause) l30 c30 k30).binds (ps := ["many", "thing"]) fun _ _ _ _ _ _ us hl => match us, hl with | [_, _], _ => rfl),
    a_law_is_flat := f31, d_law_is_flat := _, F_law_is_flat := fun_mk (st := s_law_is_flat) l31 c31 k31, g_law_is_flat := PySem.W.mg_of X G a31, B_law_is_flat := ((fun_mk (st := s_law_is_flat) l31 c31 k31).binds (ps := ["many", "thing"]) fun _ _ _ _ _ _ us hl => match us, hl with | [_, _], _ => rfl),
    a_law_is_reduced := f32, d_law_is_reduced := _, F_law_is_reduced := fun_mk (st := s_law_is_reduced) l32 c32 k32, g_law_is_reduced := PySem.W.mg_of X G a32, B_law_is_reduced := ((fun_mk (st := s_law_is_reduced) l32 c32 k32).binds (ps := ["flat", "row", "thing"]) fun _ _ _ _ _ _ us hl => match us, hl with | [_, _, _], _ => rfl),
    a_law_are_halves := f33, d_law_are_halves := _, F_law_are_halves := fun_mk (st := s_law_are_halves) l33 c33 k33, g_law_are_halves := PySem.W.mg_of X G a33, B_law_are_halves := ((fun_mk (st := s_law_are_halves) l33 c33 k33).binds (ps := ["room", "flat", "row", "thing"]) fun _ _ _ _ _ _ us hl => match us, hl with | [_, _, _, _], _ => rfl),
    a_law_is_told_right := f34, d_law_is_told_right := _, F_law_is_told_right := fun_mk (st := s_law_is_told_right) l34 c34 k34, g_law_is_told_right := PySem.W.mg_of X G a34, B_law_is_told_right := ((fun_mk (st := s_law_is_told_right) l34 c34 k34).binds (ps := ["room", "flat", "row"]) fun _ _ _ _ _ _ us hl => match us, hl with | [_, _, _], _ => rfl),
    a_law_drawn_sum := f35, d_law_drawn_sum := _, F_law_drawn_sum := fun_mk (st := s_law_drawn_sum) l35 c35 k35, g_law_drawn_sum := PySem.W.mg_of X G a35, B_law_drawn_sum := ((fun_mk (st := s_law_drawn_sum) l35 c35 k35).binds (ps := ["bag", "many", "flat"]) fun _ _ _ _ _ _ us hl => match us, hl with | [_, _, _], _ => rfl),
    a_law := fa, d_law := _, F_law := fun_mk (st := s_law) l36 c36 k36, g_law := PySem.W.mg_of X G a36, B_law := ((fun_mk (st := s_law) l36 c36 k36).binds (ps := ["script"]) fun _ _ _ _ _ _ us hl => match us, hl with | [_], _ => rfl),
    z_abs := PySem.W.mg_none_of X G z0, z_bool := PySem.W.mg_none_of X G z1, z_int := PySem.W.mg_none_of X G z2, z_isinstance := PySem.W.mg_none_of X G z3, z_len := PySem.W.mg_none_of X G z4, z_list := PySem.W.mg_none_of X G z5, z_range := PySem.W.mg_none_of X G z6, z_repr := PySem.W.mg_none_of X G z7, z_set := PySem.W.mg_none_of X G z8, z_sorted := PySem.W.mg_none_of X G z9, z_sum := PySem.W.mg_none_of X G z10, z_tuple := PySem.W.mg_none_of X G z11 }
  exact ⟨_, fun s v => .of_eq rfl, fun base _ _ => ok_law T hψ⟩
end LX
end
/-! PL1: plain facts about the combinators. -/
namespace DL
open PySem L2
theorem eV_at {ρ : En} {i : Nat} {x : PyData} (h : ρ[i]? = some (.d x)) : eV i ρ = some (x, ρ) := by unfold eV; rw [h]
theorem atI_int {xs : List PyData} {i : Nat} {x : PyData} (h : xs[i]? = some x) : atI xs (i : Int) = some x := L2.atI_nat h
theorem atI_0 {x : PyData} {xs : List PyData} : atI (x :: xs) 0 = some x := atI_int (i := 0) rfl
theorem atI_1 {x y : PyData} {xs : List PyData} : atI (x :: y :: xs) 1 = some y := atI_int (i := 1) rfl
theorem atI_2 {x y z : PyData} {xs : List PyData} : atI (x :: y :: z :: xs) 2 = some z := atI_int (i := 2) rfl
theorem atI_3 {x y z w : PyData} {xs : List PyData} : atI (x :: y :: z :: w :: xs) 3 = some w := atI_int (i := 3) rfl
theorem ixN_lt {n j : Nat} (h : j < n) : ixN n (j : Int) = some j := by
  unfold ixN
  rw [if_pos (by omega), if_pos (by omega)]
  rfl
theorem ixN_40 : ixN 4 0 = some 0 := rfl
theorem ixN_41 : ixN 4 1 = some 1 := rfl
theorem ixN_42 : ixN 4 2 = some 2 := rfl
/-! equality of small data -/
theorem shaped_int (i : Int) : SeqAt.shaped (.int i) = true := by simp [SeqAt.shaped, PyData.canLay0, PyData.depth]
theorem shaped_bool (i : Bool) : SeqAt.shaped (.bool i) = true := by simp [SeqAt.shaped, PyData.canLay0, PyData.depth]
theorem shaped_none : SeqAt.shaped .none = true := by simp [SeqAt.shaped, PyData.canLay0, PyData.depth]
theorem eqv_int (i j : Int) : PyData.eqv (.int i) (.int j) = decide (i = j) := by simp [PyData.eqv, Bool.beq_eq_decide_eq]
theorem eqD_int (i j : Int) : eqD (.int i) (.int j) = some (.bool (decide (i = j))) := by
  show (if SeqAt.shaped (.int i) = true ∧ SeqAt.shaped (.int j) = true then some (PyData.bool (PyData.eqv (.int i) (.int j))) else none) = _
  rw [if_pos ⟨shaped_int i, shaped_int j⟩, eqv_int]
theorem neD_int (i j : Int) : neD (.int i) (.int j) = some (.bool (!decide (i = j))) := by
  show (if SeqAt.shaped (.int i) = true ∧ SeqAt.shaped (.int j) = true then some (PyData.bool (!PyData.eqv (.int i) (.int j))) else none) = _
  rw [if_pos ⟨shaped_int i, shaped_int j⟩, eqv_int]
theorem modD_int {i j : Int} (h : 0 < j) : modD (.int i) (.int j) = some (.int (i % j)) := by
  show ((if j = 0 then none else some (i.fmod j)).map PyData.int) = _
  rw [if_neg (by omega), Int.fmod_eq_emod_of_nonneg _ (by omega)]
  rfl
theorem fdivD_int {i j : Int} (h : 0 < j) (h2 : j < 1073741824) : fdivD (.int i) (.int j) = some (.int (i / j)) := by
  show ((if j ≠ 0 ∧ j.natAbs < 1073741824 then some (i.fdiv j) else none).map PyData.int) = _
  rw [if_pos ⟨by omega, by omega⟩, Int.fdiv_eq_ediv_of_nonneg _ (by omega)]
  rfl
theorem mulI_int {i j : Int} (h : (-(2 ^ 64) < i ∧ i < 2 ^ 64) ∨ (-(2 ^ 64) < j ∧ j < 2 ^ 64)) : mulI (.int i) (.int j) = some (.int (i * j)) := by
  show ((if (-(2 ^ 64) < i ∧ i < 2 ^ 64) ∨ (-(2 ^ 64) < j ∧ j < 2 ^ 64) then some (i * j) else none).map PyData.int) = _
  rw [if_pos h]
  rfl
/-! ### the bag -/
structure Bag where
  big : Int
  seed : Int
  pos : Int
  cells : List Int
def bagV (b : Bag) : PyData := .list [.int b.big, .int b.seed, .int b.pos, .list (b.cells.map .int)]
structure BagOk (b : Bag) : Prop where
  big : 0 ≤ b.big
  seed : 0 ≤ b.seed ∧ b.seed < 2147483647
  pos : 0 ≤ b.pos
  cells : ∀ c ∈ b.cells, 0 ≤ c
  len : b.cells.length ≤ 63
theorem bag0 (ns : List Int) (h : ns.length ≤ 63) : ∃ b, bagD ns = bagV b ∧ BagOk b := by
  refine ⟨⟨0, 1234567891, 0, ns.map fun n => if n < 0 then -n else n⟩, rfl, Int.le_refl 0, ⟨(by show (0 : Int) ≤ 1234567891; decide), (by show (1234567891 : Int) < 2147483647; decide)⟩, Int.le_refl 0, fun c hc => ?_, by rw [List.length_map]; exact h⟩
  obtain ⟨n, _, rfl⟩ := List.mem_map.mp hc
  split <;> omega
end DL
namespace DL
open PySem L2
theorem sl0 : (0 ≤ sizeLine) = True := by simp
theorem sl1 : (1 ≤ sizeLine) = True := by simp [sizeLine_eq]
theorem sl2 : (2 ≤ sizeLine) = True := by simp [sizeLine_eq]
theorem sl3 : (3 ≤ sizeLine) = True := by simp [sizeLine_eq]
theorem sl4 : (4 ≤ sizeLine) = True := by simp [sizeLine_eq]
theorem pow18 : powD (.int 10) (.int 18) = some (.int 1000000000000000000) := by
  show ((if 0 ≤ (18 : Int) ∧ (18 : Int) ≤ 1000000 ∧ (10 : Int).natAbs < 2 ^ 64 then some ((10 : Int) ^ (18 : Int).toNat) else none).map PyData.int) = _
  rw [if_pos (by decide)]
  rfl
theorem cell_of (cs : List Int) (p : Int) : ∃ c : Int, ((∀ x ∈ cs, 0 ≤ x) → 0 ≤ c) ∧ (cs.length ≤ 63 → ∃ r, cutD (cs.map .int) (some p) none = r ∧ (r.length + 1 ≤ sizeLine) ∧ atI (r ++ [.int 0]) 0 = some (.int c)) := by
  have hc : ∃ ds : List Int, cutD (cs.map PyData.int) (some p) none = ds.map .int ∧ (∀ x ∈ ds, x ∈ cs) ∧ ds.length ≤ cs.length := by
    unfold cutD
    rw [← List.map_drop, ← List.map_take]
    refine ⟨_, rfl, fun x hx => List.mem_of_mem_drop (List.mem_of_mem_take hx), ?_⟩
    rw [List.length_take, List.length_drop]
    omega
  obtain ⟨ds, e, hm, hl⟩ := hc
  cases ds with
  | nil => exact ⟨0, fun _ => Int.le_refl 0, fun h => ⟨_, e, by rw [sizeLine_eq]; simp, rfl⟩⟩
  | cons d ds =>
    refine ⟨d, fun h => h d (hm d (List.mem_cons_self ..)), fun h => ⟨_, e, ?_, atI_0⟩⟩
    rw [sizeLine_eq, List.length_map]
    omega
end DL
namespace DL
open PySem L2
theorem mulR {i j : Int} (h : -18446744073709551616 < j) (h2 : j < 18446744073709551616) : mulI (.int i) (.int j) = some (.int (i * j)) := mulI_int (.inr ⟨by omega, by omega⟩)
theorem mulL {i j : Int} (h : -18446744073709551616 < i) (h2 : i < 18446744073709551616) : mulI (.int i) (.int j) = some (.int (i * j)) := mulI_int (.inl ⟨by omega, by omega⟩)
end DL
theorem DL.sl5 : (5 ≤ PySem.sizeLine) = True := by simp [PySem.sizeLine_eq]
theorem DL.sl6 : (6 ≤ PySem.sizeLine) = True := by simp [PySem.sizeLine_eq]
theorem DL.sl7 : (7 ≤ PySem.sizeLine) = True := by simp [PySem.sizeLine_eq]
theorem DL.sl8 : (8 ≤ PySem.sizeLine) = True := by simp [PySem.sizeLine_eq]
/-! PL2: loops with an invariant; data of small texts. -/
namespace DL
open PySem L2
theorem forD_inv {g : Gv} {ψ : Sv} (I : List PyData → En → Prop) (ds : List PyData)
    (step : ∀ (done : List PyData) (x : PyData) (rest : List PyData) (ρ : En), ds = done ++ x :: rest → I done ρ → ∃ ρ1 ρ2, g x ρ = some ρ1 ∧ ψ ρ1 = some (.nx ρ2) ∧ I (done ++ [x]) ρ2) :
    ∀ (rest done : List PyData) (ρ : En), ds = done ++ rest → I done ρ → ∃ ρ', forD g ψ rest ρ = some (.nx ρ') ∧ I ds ρ'
  | [], done, ρ, e, h => ⟨ρ, rfl, by rw [e, List.append_nil]; exact h⟩
  | x :: rest, done, ρ, e, h => by
    obtain ⟨ρ1, ρ2, h1, h2, h3⟩ := step done x rest ρ e h
    obtain ⟨ρ', h4, h5⟩ := forD_inv I ds step rest (done ++ [x]) ρ2 (by rw [e, List.append_assoc]; rfl) h3
    refine ⟨ρ', ?_, h5⟩
    unfold forD
    rw [h1]
    simp only [h2]
    exact h4
theorem sFor_inv {it : Es} {g : Gv} {ψ : Sv} {ρ ρ0 : En} {ds : List PyData} (hi : it ρ = some (ds, ρ0)) (I : List PyData → En → Prop)
    (h0 : I [] ρ0)
    (step : ∀ (done : List PyData) (x : PyData) (rest : List PyData) (ρ : En), ds = done ++ x :: rest → I done ρ → ∃ ρ1 ρ2, g x ρ = some ρ1 ∧ ψ ρ1 = some (.nx ρ2) ∧ I (done ++ [x]) ρ2) :
    ∃ ρ', sFor it g ψ ρ = some (.nx ρ') ∧ I ds ρ' := by
  unfold sFor
  rw [hi]
  exact forD_inv I ds step ds [] ρ0 rfl h0
/-- a loop that goes on -/
theorem sQ_nx {ψ φ : Sv} {ρ ρ1 : En} (h : ψ ρ = some (.nx ρ1)) : sQ ψ φ ρ = φ ρ1 := by unfold sQ; rw [h]
theorem sQ_ret {ψ φ : Sv} {ρ ρ1 : En} {d : PyData} (h : ψ ρ = some (.ret d ρ1)) : sQ ψ φ ρ = some (.ret d ρ1) := by unfold sQ; rw [h]
theorem lcD_pure {vs : List Nat} {g : Gv} {q : Eq} {a : Ev} {ρ0 : En} (p : PyData → Bool) (f : PyData → PyData) :
    ∀ (ds : List PyData), (∀ x ∈ ds, ∃ ρ1 ρ2, g x ρ0 = some ρ1 ∧ q ρ1 = some (p x, ρ2) ∧ (p x = true → ∃ ρ3, a ρ2 = some (f x, ρ3) ∧ wipeE ρ3 vs = ρ0) ∧ (p x = false → wipeE ρ2 vs = ρ0)) →
    lcD vs g q a ds ρ0 = some ((ds.filter p).map f, ρ0)
  | [], _ => rfl
  | x :: xs, h => by
    obtain ⟨ρ1, ρ2, h1, h2, h3, h4⟩ := h x (List.mem_cons_self ..)
    have ih := lcD_pure p f xs fun y hy => h y (List.mem_cons_of_mem _ hy)
    unfold lcD
    rw [h1]
    simp only [h2]
    cases hp : p x with
    | true =>
      obtain ⟨ρ3, h5, h6⟩ := h3 hp
      simp only [h5, h6, ih, List.filter_cons, hp, if_true, List.map_cons]
    | false =>
      have h6 := h4 hp
      simp only [h6, ih, List.filter_cons, hp]
      rfl
/-! ### data of bounded size -/
structure Nc (D W : Nat) (d : PyData) : Prop where
  lay : d.canLay0 = true
  dep : d.depth ≤ D
  blk : d.bulk ≤ W
  ish : d.intsShort 13 = true
  shw : d.showable = true
structure NcL (D W : Nat) (ds : List PyData) : Prop where
  lay : PyData.canLayAll0 ds = true
  dep : PyData.depthAll ds ≤ D
  blk : PyData.bulkAll ds ≤ W
  ish : PyData.intsShortAll 13 ds = true
  shw : PyData.showableAll ds = true
theorem Nc.le {D W D' W' : Nat} {d : PyData} (h : Nc D W d) (h1 : D ≤ D') (h2 : W ≤ W') : Nc D' W' d := ⟨h.lay, Nat.le_trans h.dep h1, Nat.le_trans h.blk h2, h.ish, h.shw⟩
theorem NcL.le {D W D' W' : Nat} {d : List PyData} (h : NcL D W d) (h1 : D ≤ D') (h2 : W ≤ W') : NcL D' W' d := ⟨h.lay, Nat.le_trans h.dep h1, Nat.le_trans h.blk h2, h.ish, h.shw⟩
theorem Nc.int {i : Int} (h : i.natAbs < 1000000000000) : Nc 0 0 (.int i) := by
  refine ⟨by simp [PyData.canLay0], by simp [PyData.depth], by simp [PyData.bulk], ?_, ?_⟩
  · simp only [PyData.intsShort, decide_eq_true_eq]
    exact PyData.shown_int_le (by simpa using h)
  · simp only [PyData.showable, decide_eq_true_eq]
    by_cases h0 : i.natAbs = 0
    · rw [h0]; decide
    · exact Nat.log2_lt h0 |>.mpr (Nat.lt_of_lt_of_le h (by decide))
theorem Nc.non : Nc 0 0 .none := ⟨by simp [PyData.canLay0], by simp [PyData.depth], by simp [PyData.bulk], by simp [PyData.intsShort], by simp [PyData.showable]⟩
theorem Nc.bool (b : Bool) : Nc 0 0 (.bool b) := ⟨by simp [PyData.canLay0], by simp [PyData.depth], by simp [PyData.bulk], by simp [PyData.intsShort], by simp [PyData.showable]⟩
theorem Nc.str {x : Str} {n : Nat} (h : PyData.strOk x = true) (h2 : x.cps.size ≤ n) : Nc 0 n (.str x) := ⟨by simpa [PyData.canLay0] using h, by simp [PyData.depth], by simpa [PyData.bulk] using h2, by simp [PyData.intsShort], by simp [PyData.showable]⟩
theorem NcL.nil : NcL 0 0 [] := ⟨rfl, Nat.le_refl 0, Nat.le_refl 0, rfl, rfl⟩
theorem NcL.cons {D D' W W' : Nat} {d : PyData} {ds : List PyData} (h : Nc D W d) (t : NcL D' W' ds) : NcL (max D D') (W + 1 + W') (d :: ds) := by
  refine ⟨?_, ?_, ?_, ?_, ?_⟩
  · simp only [PyData.canLayAll0, h.lay, t.lay, Bool.and_self]
  · simp only [PyData.depthAll]; have := h.dep; have := t.dep; omega
  · simp only [PyData.bulkAll]; have := h.blk; have := t.blk; omega
  · simp only [PyData.intsShortAll, h.ish, t.ish, Bool.and_self]
  · simp only [PyData.showableAll, h.shw, t.shw, Bool.and_self]
theorem NcL.append {D D' W' : Nat} {es : List PyData} (t : NcL D' W' es) : ∀ {ds : List PyData} {W : Nat}, NcL D W ds → NcL (max D D') (W + W') (ds ++ es)
  | [], W, _ => t.le (by omega) (by omega)
  | d :: ds, W, h => by
    have h1 : d.canLay0 = true ∧ PyData.canLayAll0 ds = true := by have := h.lay; simpa only [PyData.canLayAll0, Bool.and_eq_true] using this
    have h2 : d.intsShort 13 = true ∧ PyData.intsShortAll 13 ds = true := by have := h.ish; simpa only [PyData.intsShortAll, Bool.and_eq_true] using this
    have h3 : d.showable = true ∧ PyData.showableAll ds = true := by have := h.shw; simpa only [PyData.showableAll, Bool.and_eq_true] using this
    have h4 : max d.depth (PyData.depthAll ds) ≤ D := by have := h.dep; simpa only [PyData.depthAll] using this
    have h5 : d.bulk + 1 + PyData.bulkAll ds ≤ W := by have := h.blk; simpa only [PyData.bulkAll] using this
    have a : Nc D d.bulk d := ⟨h1.1, by omega, Nat.le_refl _, h2.1, h3.1⟩
    have b : NcL D (PyData.bulkAll ds) ds := ⟨h1.2, by omega, Nat.le_refl _, h2.2, h3.2⟩
    have c := NcL.cons a (NcL.append t b)
    exact c.le (by omega) (by omega)
theorem NcL.tup {D W : Nat} {ds : List PyData} (t : NcL D W ds) : Nc (D + 1) W (.tuple ds) :=
  ⟨by simpa [PyData.canLay0] using t.lay, by simpa [PyData.depth] using t.dep, by simpa [PyData.bulk] using t.blk, by simpa [PyData.intsShort] using t.ish, by simpa [PyData.showable] using t.shw⟩
theorem NcL.lst {D W : Nat} {ds : List PyData} (t : NcL D W ds) : Nc (D + 1) W (.list ds) :=
  ⟨by simpa [PyData.canLay0] using t.lay, by simpa [PyData.depth] using t.dep, by simpa [PyData.bulk] using t.blk, by simpa [PyData.intsShort] using t.ish, by simpa [PyData.showable] using t.shw⟩
theorem NcL.of {D W : Nat} : ∀ {ds : List PyData}, (∀ d ∈ ds, Nc D W d) → NcL D ((W + 1) * ds.length) ds
  | [], _ => NcL.nil.le (Nat.zero_le _) (Nat.zero_le _)
  | d :: ds, h => (NcL.cons (h d (List.mem_cons_self ..)) (NcL.of fun e he => h e (List.mem_cons_of_mem _ he))).le (by omega) (by rw [List.length_cons, Nat.mul_succ]; omega)
theorem NcL.ints' {xs : List Int} (h : ∀ i ∈ xs, i.natAbs < 1000000000000) : NcL 0 xs.length (xs.map .int) := by
  have := NcL.of (ds := xs.map PyData.int) (D := 0) (W := 0) fun d hd => by
    obtain ⟨i, hi, rfl⟩ := List.mem_map.mp hd
    exact Nc.int (h i hi)
  rw [List.length_map, Nat.zero_add, Nat.one_mul] at this
  exact this
theorem Nc.shaped {D W : Nat} {d : PyData} (h : Nc D W d) (h1 : D ≤ 64) : SeqAt.shaped d = true := by
  unfold SeqAt.shaped
  rw [h.lay, Bool.true_and, decide_eq_true_eq]
  exact Nat.le_trans h.dep h1
theorem Nc.repr {D W : Nat} {d : PyData} (h : Nc D W d) (h1 : D ≤ 64) (h2 : W ≤ 1000000) : reprOk d := by
  refine ⟨h.lay, Nat.le_trans h.dep h1, h.shw, ?_⟩
  have e := PyData.shown_le_bulk 13 (by decide) d (PyData.leavesShort_of_canLay0 13 d h.lay h.ish)
  have := h.blk
  rw [sizeLine_eq]
  omega
theorem reprD_of {d : PyData} (h : reprOk d) : reprD d = some (.str d.shown) := by unfold reprD; rw [if_pos h]
theorem eqD_refl {D W : Nat} {d : PyData} (h : Nc D W d) (h1 : D ≤ 64) : eqD d d = some (.bool true) := by
  have := h.shaped h1
  unfold eqD
  split
  · simp
  · rw [if_pos ⟨this, this⟩, SeqAt.eqv_refl d h.lay]
theorem eqD_str {x y : Str} : eqD (.str x) (.str y) = some (.bool (x == y)) := rfl
theorem neD_str {x y : Str} : neD (.str x) (.str y) = some (.bool (!(x == y))) := rfl
end DL
/-! PF1: rows as masks, points, lines, flats: plain algebra of bits. -/
namespace FL
abbrev Pt := Nat → Bool
abbrev Ln := Nat × Bool
/-- the worth of a row at a point -/
def dotN : Nat → Nat → Pt → Bool
  | 0, _, _ => false
  | k + 1, m, x => dotN k m x ^^ (m.testBit k && x k)
def dot (m : Nat) (x : Pt) : Bool := dotN 16 m x
theorem dotN_xor (a b : Nat) (x : Pt) : ∀ k, dotN k (a ^^^ b) x = (dotN k a x ^^ dotN k b x)
  | 0 => rfl
  | k + 1 => by
    simp only [dotN, dotN_xor a b x k, Nat.testBit_xor]
    cases dotN k a x <;> cases dotN k b x <;> cases a.testBit k <;> cases b.testBit k <;> cases x k <;> rfl
theorem dot_xor (a b : Nat) (x : Pt) : dot (a ^^^ b) x = (dot a x ^^ dot b x) := dotN_xor a b x 16
theorem dotN_add (a : Nat) (x y : Pt) : ∀ k, dotN k a (fun i => x i ^^ y i) = (dotN k a x ^^ dotN k a y)
  | 0 => rfl
  | k + 1 => by
    simp only [dotN, dotN_add a x y k]
    cases dotN k a x <;> cases dotN k a y <;> cases a.testBit k <;> cases x k <;> cases y k <;> rfl
theorem dot_add (a : Nat) (x y : Pt) : dot a (fun i => x i ^^ y i) = (dot a x ^^ dot a y) := dotN_add a x y 16
theorem dotN_zero (x : Pt) : ∀ k, dotN k 0 x = false
  | 0 => rfl
  | k + 1 => by simp [dotN, dotN_zero x k]
theorem dot_zero (x : Pt) : dot 0 x = false := dotN_zero x 16
theorem dotN_congr {m : Nat} {x y : Pt} : ∀ k, (∀ i, i < k → m.testBit i = true → x i = y i) → dotN k m x = dotN k m y
  | 0, _ => rfl
  | k + 1, h => by
    simp only [dotN, dotN_congr k fun i hi => h i (by omega)]
    cases e : m.testBit k with
    | false => simp
    | true => rw [h k (by omega) e]
theorem dot_congr {m : Nat} {x y : Pt} (h : ∀ i, i < 16 → m.testBit i = true → x i = y i) : dot m x = dot m y := dotN_congr 16 h
theorem dotN_one (m : Nat) (c : Bool) (h : Nat) : ∀ k, dotN k m (fun i => c && decide (i = h)) = (decide (h < k) && m.testBit h && c)
  | 0 => by simp [dotN]
  | k + 1 => by
    simp only [dotN, dotN_one m c h k]
    by_cases e : k = h
    · subst e
      simp
    · have e2 : decide (k = h) = false := by simp [e]
      have e3 : decide (h < k + 1) = decide (h < k) := by simp only [decide_eq_decide]; omega
      rw [e2, e3]
      simp
theorem dot_one {m h : Nat} (c : Bool) (hh : h < 16) : dot m (fun i => c && decide (i = h)) = (m.testBit h && c) := by
  unfold dot
  rw [dotN_one]
  simp [hh]
/-- the least unknown of a row -/
def hd (m : Nat) : Nat := ((List.range 16).find? fun i => m.testBit i).getD 16
theorem hd_some {m : Nat} (h : m ≠ 0) (h2 : m < 2 ^ 16) : m.testBit (hd m) = true ∧ hd m < 16 ∧ ∀ j, j < hd m → m.testBit j = false := by
  unfold hd
  cases e : (List.range 16).find? fun i => m.testBit i with
  | none =>
    exfalso
    apply h
    refine Nat.eq_of_testBit_eq fun i => ?_
    rw [Nat.zero_testBit]
    by_cases hi : i < 16
    · have := List.find?_eq_none.mp e i (List.mem_range.mpr hi)
      simpa using this
    · exact Nat.testBit_lt_two_pow (Nat.lt_of_lt_of_le h2 (Nat.pow_le_pow_right (by decide) (by omega)))
  | some a =>
    have h3 := List.find?_some e
    have h4 := List.mem_of_find?_eq_some e
    refine ⟨h3, List.mem_range.mp h4, fun j hj => ?_⟩
    have h5 : a < 16 := List.mem_range.mp h4
    obtain ⟨_, as, bs, e1, e2⟩ := List.find?_eq_some_iff_append.mp e
    have hja : j ∈ as := by
      have hlen : (List.range 16)[as.length]? = some a := by rw [e1]; simp
      have hl : as.length = a := by
        have hb : as.length < 16 := by
          have := congrArg List.length e1
          simp at this; omega
        rw [List.getElem?_range hb] at hlen
        exact Option.some.inj hlen
      have hjm : (List.range 16)[j]? = some j := List.getElem?_range (by simp at hj; omega)
      rw [e1] at hjm
      have hj' : j < as.length := by simp at hj; omega
      rw [List.getElem?_append_left hj'] at hjm
      exact List.mem_of_getElem? hjm
    have := e2 j hja
    simpa using this
theorem bit_lt {m i : Nat} (h : m < 2 ^ 16) (hb : m.testBit i = true) : i < 16 := by
  rcases Nat.lt_or_ge i 16 with c | c
  · exact c
  · rw [Nat.testBit_lt_two_pow (Nat.lt_of_lt_of_le h (Nat.pow_le_pow_right (by decide) c))] at hb
    cases hb
theorem hd_uniq {m h : Nat} (h2 : m < 2 ^ 16) (hb : m.testBit h = true) (hl : ∀ j, j < h → m.testBit j = false) : hd m = h := by
  have hm : m ≠ 0 := fun z => by rw [z, Nat.zero_testBit] at hb; cases hb
  obtain ⟨a, b, c⟩ := hd_some hm h2
  rcases Nat.lt_trichotomy (hd m) h with w | w | w
  · rw [hl _ w] at a; cases a
  · exact w
  · rw [c _ w] at hb; cases hb
/-- lines that hold -/
def Holds (F : List Ln) (x : Pt) : Prop := ∀ l ∈ F, dot l.1 x = l.2
/-- a flat: heads in no other line -/
structure Rr (F : List Ln) : Prop where
  pos : ∀ l ∈ F, l.1 ≠ 0 ∧ l.1 < 2 ^ 16
  nod : (F.map fun l => hd l.1).Nodup
  out : ∀ l ∈ F, ∀ k ∈ F, hd l.1 ≠ hd k.1 → k.1.testBit (hd l.1) = false
theorem Rr.nil : Rr [] := ⟨fun _ h => (nomatch h), List.nodup_nil, fun _ h => (nomatch h)⟩
theorem Rr.tail {l : Ln} {F : List Ln} (r : Rr (l :: F)) : Rr F :=
  ⟨fun k hk => r.pos k (List.mem_cons_of_mem _ hk), (List.nodup_cons.mp r.nod).2, fun k hk j hj => r.out k (List.mem_cons_of_mem _ hk) j (List.mem_cons_of_mem _ hj)⟩
theorem Rr.perm {F G : List Ln} (r : Rr F) (p : G.Perm F) : Rr G :=
  ⟨fun l hl => r.pos l (p.mem_iff.mp hl), ((p.map _).nodup_iff).mpr r.nod, fun l hl k hk => r.out l (p.mem_iff.mp hl) k (p.mem_iff.mp hk)⟩
theorem Rr.sub {F G : List Ln} (r : Rr F) (p : G.Sublist F) : Rr G :=
  ⟨fun l hl => r.pos l (p.subset hl), r.nod.sublist (p.map _), fun l hl k hk => r.out l (p.subset hl) k (p.subset hk)⟩
theorem Rr.head_out {l : Ln} {F : List Ln} (r : Rr (l :: F)) : ∀ k ∈ F, k.1.testBit (hd l.1) = false := fun k hk =>
  r.out l (List.mem_cons_self ..) k (List.mem_cons_of_mem _ hk) fun z => (List.nodup_cons.mp r.nod).1 (List.mem_map.mpr ⟨k, hk, z.symm⟩)
/-- a row led down by a flat -/
def led : List Ln → Nat → Bool → Nat × Bool
  | [], m, w => (m, w)
  | l :: F, m, w => if m.testBit (hd l.1) = true then led F (m ^^^ l.1) (w ^^ l.2) else led F m w
theorem led_worth {x : Pt} : ∀ {F : List Ln} {m : Nat} {w : Bool}, Holds F x → (dot (led F m w).1 x ^^ (led F m w).2) = (dot m x ^^ w)
  | [], _, _, _ => rfl
  | l :: F, m, w, h => by
    have h' : Holds F x := fun k hk => h k (List.mem_cons_of_mem _ hk)
    have hl := h l (List.mem_cons_self ..)
    unfold led
    split
    · rw [led_worth h', dot_xor, hl]
      cases dot m x <;> cases l.2 <;> cases w <;> rfl
    · exact led_worth h'
theorem led_keep {h : Nat} : ∀ {F : List Ln} {m : Nat} {w : Bool}, (∀ k ∈ F, k.1.testBit h = false) → (led F m w).1.testBit h = m.testBit h
  | [], _, _, _ => rfl
  | l :: F, m, w, q => by
    have q' : ∀ k ∈ F, k.1.testBit h = false := fun k hk => q k (List.mem_cons_of_mem _ hk)
    unfold led
    split
    · rw [led_keep q', Nat.testBit_xor, q l (List.mem_cons_self ..)]
      simp
    · exact led_keep q'
theorem led_heads : ∀ {F : List Ln} {m : Nat} {w : Bool}, Rr F → ∀ l ∈ F, (led F m w).1.testBit (hd l.1) = false
  | k :: F, m, w, r, l, hl => by
    unfold led
    rcases List.mem_cons.mp hl with rfl | hl
    · split
      · rename_i hm
        rw [led_keep r.head_out, Nat.testBit_xor, hm, (hd_some (r.pos l (List.mem_cons_self ..)).1 (r.pos l (List.mem_cons_self ..)).2).1]
        rfl
      · rename_i hm
        rw [led_keep r.head_out]
        simpa using hm
    · split
      · exact led_heads r.tail l hl
      · exact led_heads r.tail l hl
theorem led_lt : ∀ {F : List Ln} {m : Nat} {w : Bool}, (∀ l ∈ F, l.1 < 2 ^ 16) → m < 2 ^ 16 → (led F m w).1 < 2 ^ 16
  | [], _, _, _, h => h
  | l :: F, m, w, q, h => by
    have q' : ∀ k ∈ F, k.1 < 2 ^ 16 := fun k hk => q k (List.mem_cons_of_mem _ hk)
    unfold led
    split
    · exact led_lt q' (Nat.xor_lt_two_pow h (q l (List.mem_cons_self ..)))
    · exact led_lt q' h
theorem led_free : ∀ {F : List Ln} {m : Nat} {w : Bool}, (∀ l ∈ F, m.testBit (hd l.1) = false) → led F m w = (m, w)
  | [], _, _, _ => rfl
  | l :: F, m, w, q => by
    unfold led
    rw [if_neg (by rw [q l (List.mem_cons_self ..)]; decide)]
    exact led_free fun k hk => q k (List.mem_cons_of_mem _ hk)
theorem led_low {h : Nat} : ∀ {F : List Ln} {m : Nat} {w : Bool}, (∀ l ∈ F, l.1 ≠ 0 ∧ l.1 < 2 ^ 16) → (∀ l ∈ F, hd l.1 ≠ h) → m.testBit h = true → (∀ j, j < h → m.testBit j = false) → (led F m w).1.testBit h = true
  | [], _, _, _, _, hm, _ => hm
  | l :: F, m, w, q, n, hm, hl => by
    have q' : ∀ k ∈ F, k.1 ≠ 0 ∧ k.1 < 2 ^ 16 := fun k hk => q k (List.mem_cons_of_mem _ hk)
    have n' : ∀ k ∈ F, hd k.1 ≠ h := fun k hk => n k (List.mem_cons_of_mem _ hk)
    unfold led
    split
    · rename_i hb
      obtain ⟨a, b, c⟩ := hd_some (q l (List.mem_cons_self ..)).1 (q l (List.mem_cons_self ..)).2
      have hgt : h < hd l.1 := by
        rcases Nat.lt_trichotomy (hd l.1) h with z | z | z
        · rw [hl _ z] at hb; cases hb
        · exact absurd z (n l (List.mem_cons_self ..))
        · exact z
      refine led_low q' n' ?_ fun j hj => ?_
      · rw [Nat.testBit_xor, hm, c _ hgt]; rfl
      · rw [Nat.testBit_xor, hl j hj, c _ (by omega)]; rfl
    · exact led_low q' n' hm hl
/-- a point of the flat that is y off the heads -/
def fixP (F : List Ln) (y : Pt) : Pt := fun i => match F.find? fun l => decide (hd l.1 = i) with
  | some l => y i ^^ (l.2 ^^ dot l.1 y)
  | none => y i
theorem fix_off {F : List Ln} {y : Pt} {i : Nat} (h : ∀ l ∈ F, hd l.1 ≠ i) : fixP F y i = y i := by
  unfold fixP
  have : F.find? (fun l => decide (hd l.1 = i)) = none := List.find?_eq_none.mpr fun l hl => by simp [h l hl]
  rw [this]
theorem find_head {l : Ln} : ∀ {F : List Ln}, (F.map fun l => hd l.1).Nodup → l ∈ F → F.find? (fun k => decide (hd k.1 = hd l.1)) = some l
  | k :: F, nd, hl => by
    rw [List.map_cons, List.nodup_cons] at nd
    rcases List.mem_cons.mp hl with rfl | hl
    · simp [List.find?_cons]
    · have : hd k.1 ≠ hd l.1 := fun z => nd.1 (List.mem_map.mpr ⟨l, hl, z.symm⟩)
      rw [List.find?_cons]
      simp only [this, decide_false]
      exact find_head nd.2 hl
theorem fix_holds {F : List Ln} (r : Rr F) (y : Pt) : Holds F (fixP F y) := fun l hl => by
  obtain ⟨a, b, c⟩ := hd_some (r.pos l hl).1 (r.pos l hl).2
  have e : dot l.1 (fixP F y) = dot l.1 (fun i => y i ^^ ((l.2 ^^ dot l.1 y) && decide (i = hd l.1))) := dot_congr fun i hi hb => by
    by_cases z : i = hd l.1
    · subst z
      unfold fixP
      rw [find_head r.nod hl]
      simp
    · rw [fix_off fun k hk w => ?_]
      · simp [z]
      · subst w
        have := r.out k hk l hl z
        rw [this] at hb
        cases hb
  rw [e, dot_add, dot_one _ b, a]
  cases dot l.1 y <;> cases l.2 <;> rfl
theorem fix_free {F : List Ln} {y : Pt} {m : Nat} (h : ∀ l ∈ F, m.testBit (hd l.1) = false) : dot m (fixP F y) = dot m y := dot_congr fun i hi hb => fix_off fun l hl w => by
  subst w
  rw [h l hl] at hb
  cases hb
/-- a row without heads, not nothing, has both worths -/
theorem both {F : List Ln} (r : Rr F) {m : Nat} (h0 : m ≠ 0) (h1 : m < 2 ^ 16) (h : ∀ l ∈ F, m.testBit (hd l.1) = false) (v : Bool) : ∃ x, Holds F x ∧ dot m x = v := by
  obtain ⟨a, b, _⟩ := hd_some h0 h1
  refine ⟨fixP F (fun i => v && decide (i = hd m)), fix_holds r _, ?_⟩
  rw [fix_free h, dot_one _ b, a]
  rfl
theorem Rr.pt {F : List Ln} (r : Rr F) : ∃ x, Holds F x := ⟨_, fix_holds r fun _ => false⟩
def told (F : List Ln) (m : Nat) : Option Bool := if (led F m false).1 = 0 then some (led F m false).2 else none
theorem told_some {F : List Ln} (r : Rr F) {m : Nat} (hm : m < 2 ^ 16) {w : Bool} : told F m = some w ↔ ∀ x, Holds F x → dot m x = w := by
  have lt := led_lt (w := false) (fun l hl => (r.pos l hl).2) hm
  have hs := led_heads (m := m) (w := false) r
  unfold told
  constructor
  · intro h x hx
    split at h
    · rename_i e
      cases h
      have := led_worth (m := m) (w := false) hx
      rw [e, dot_zero] at this
      simpa using this.symm
    · cases h
  · intro h
    by_cases e : (led F m false).1 = 0
    · rw [if_pos e]
      obtain ⟨x, hx⟩ := r.pt
      have := led_worth (m := m) (w := false) hx
      rw [e, dot_zero, h x hx] at this
      simp at this
      rw [this]
    · exfalso
      obtain ⟨x, hx, d1⟩ := both r e lt hs (!(w ^^ (led F m false).2))
      have := led_worth (m := m) (w := false) hx
      rw [d1, h x hx] at this
      revert this
      cases w <;> cases (led F m false).2 <;> simp
end FL
/-! PF2: lines put into flats, flats that meet, one flat in two. -/
namespace FL
/-- a line put in: the lines in any order -/
def put1 (F : List Ln) (m : Nat) (b : Bool) : List Ln := (m, b) :: F.map fun l => if l.1.testBit (hd m) = true then (l.1 ^^^ m, l.2 ^^ b) else l
theorem put1_len {F : List Ln} {m : Nat} {b : Bool} : (put1 F m b).length = F.length + 1 := by unfold put1; rw [List.length_cons, List.length_map]
theorem hd_xor {l m : Nat} (hl0 : l ≠ 0) (hl : l < 2 ^ 16) (hm0 : m ≠ 0) (hm : m < 2 ^ 16) (hb : l.testBit (hd m) = true) (hf : m.testBit (hd l) = false) : hd (l ^^^ m) = hd l ∧ l ^^^ m ≠ 0 ∧ hd l < hd m := by
  obtain ⟨a, b, c⟩ := hd_some hl0 hl
  obtain ⟨a', b', c'⟩ := hd_some hm0 hm
  have hlt : hd l < hd m := by
    rcases Nat.lt_trichotomy (hd l) (hd m) with z | z | z
    · exact z
    · rw [z, a'] at hf; cases hf
    · rw [c _ z] at hb; cases hb
  have h1 : (l ^^^ m).testBit (hd l) = true := by rw [Nat.testBit_xor, a, hf]; rfl
  refine ⟨hd_uniq (Nat.xor_lt_two_pow hl hm) h1 fun j hj => ?_, fun z => ?_, hlt⟩
  · rw [Nat.testBit_xor, c j hj, c' j (by omega)]; rfl
  · rw [z, Nat.zero_testBit] at h1; cases h1
theorem put1_head {F : List Ln} (r : Rr F) {m : Nat} {b : Bool} (h0 : m ≠ 0) (h1 : m < 2 ^ 16) (hf : ∀ l ∈ F, m.testBit (hd l.1) = false) {l : Ln} (hl : l ∈ F) :
    hd (if l.1.testBit (hd m) = true then (l.1 ^^^ m, l.2 ^^ b) else l).1 = hd l.1 := by
  split
  · rename_i hb
    exact (hd_xor (r.pos l hl).1 (r.pos l hl).2 h0 h1 hb (hf l hl)).1
  · rfl
theorem put1_rr {F : List Ln} (r : Rr F) {m : Nat} {b : Bool} (h0 : m ≠ 0) (h1 : m < 2 ^ 16) (hf : ∀ l ∈ F, m.testBit (hd l.1) = false) : Rr (put1 F m b) := by
  obtain ⟨ma, mb, mc⟩ := hd_some h0 h1
  have hh : ∀ l ∈ F, hd (if l.1.testBit (hd m) = true then (l.1 ^^^ m, l.2 ^^ b) else l).1 = hd l.1 := fun l hl => put1_head r h0 h1 hf hl
  have nh : ∀ l ∈ F, hd l.1 ≠ hd m := fun l hl z => by
    have := hf l hl
    rw [z, ma] at this; cases this
  have out2 : ∀ l ∈ F, ∀ k ∈ F, hd l.1 ≠ hd k.1 → (if k.1.testBit (hd m) = true then (k.1 ^^^ m, k.2 ^^ b) else k).1.testBit (hd l.1) = false := fun l hl k hk ne => by
    split
    · show (k.1 ^^^ m).testBit (hd l.1) = false
      rw [Nat.testBit_xor, r.out l hl k hk ne, hf l hl]; rfl
    · exact r.out l hl k hk ne
  have outm : ∀ k ∈ F, (if k.1.testBit (hd m) = true then (k.1 ^^^ m, k.2 ^^ b) else k).1.testBit (hd m) = false := fun k hk => by
    split
    · rename_i hb
      show (k.1 ^^^ m).testBit (hd m) = false
      rw [Nat.testBit_xor, hb, ma]; rfl
    · rename_i hb
      simpa using hb
  refine ⟨fun l hl => ?_, ?_, fun l hl k hk ne => ?_⟩
  · rcases List.mem_cons.mp hl with rfl | hl
    · exact ⟨h0, h1⟩
    · obtain ⟨k, hk, rfl⟩ := List.mem_map.mp hl
      split
      · rename_i hb
        exact ⟨(hd_xor (r.pos k hk).1 (r.pos k hk).2 h0 h1 hb (hf k hk)).2.1, Nat.xor_lt_two_pow (r.pos k hk).2 h1⟩
      · exact r.pos k hk
  · unfold put1
    rw [List.map_cons, List.nodup_cons, List.map_map]
    have e : F.map ((fun l : Ln => hd l.1) ∘ fun l => if l.1.testBit (hd m) = true then (l.1 ^^^ m, l.2 ^^ b) else l) = F.map fun l => hd l.1 := List.map_congr_left fun l hl => hh l hl
    rw [e]
    refine ⟨fun z => ?_, r.nod⟩
    obtain ⟨l, hl, w⟩ := List.mem_map.mp z
    exact nh l hl w
  · rcases List.mem_cons.mp hl with rfl | hl
    · rcases List.mem_cons.mp hk with rfl | hk
      · exact absurd rfl ne
      · obtain ⟨k', hk', rfl⟩ := List.mem_map.mp hk
        exact outm k' hk'
    · obtain ⟨l', hl', rfl⟩ := List.mem_map.mp hl
      rw [hh l' hl'] at ne ⊢
      rcases List.mem_cons.mp hk with rfl | hk
      · exact hf l' hl'
      · obtain ⟨k', hk', rfl⟩ := List.mem_map.mp hk
        rw [hh k' hk'] at ne
        exact out2 l' hl' k' hk' ne
theorem put1_holds {F : List Ln} {m : Nat} {b : Bool} {x : Pt} : Holds (put1 F m b) x ↔ Holds F x ∧ dot m x = b := by
  constructor
  · intro h
    have hm : dot m x = b := h (m, b) (List.mem_cons_self ..)
    refine ⟨fun l hl => ?_, hm⟩
    have := h _ (List.mem_cons_of_mem _ (List.mem_map.mpr ⟨l, hl, rfl⟩))
    split at this
    · have this : dot (l.1 ^^^ m) x = (l.2 ^^ b) := this
      rw [dot_xor, hm] at this
      revert this
      cases dot l.1 x <;> cases l.2 <;> cases b <;> simp
    · exact this
  · intro ⟨h, hm⟩ l hl
    rcases List.mem_cons.mp hl with rfl | hl
    · exact hm
    · obtain ⟨k, hk, rfl⟩ := List.mem_map.mp hl
      split
      · show dot (k.1 ^^^ m) x = (k.2 ^^ b)
        rw [dot_xor, hm, h k hk]
      · exact h k hk
theorem holds_perm {A B : List Ln} (p : A.Perm B) {x : Pt} : Holds A x ↔ Holds B x := ⟨fun h l hl => h l (p.mem_iff.mpr hl), fun h l hl => h l (p.mem_iff.mp hl)⟩
/-- what putting in a line tells: none, or a flat of these lines in some order -/
inductive PutIn (F : List Ln) (m : Nat) (b : Bool) : Option (List Ln) → Prop
  | no : (led F m false).1 = 0 → (b ^^ (led F m false).2) = true → PutIn F m b none
  | same : (led F m false).1 = 0 → (b ^^ (led F m false).2) = false → PutIn F m b (some F)
  | more {G : List Ln} : (led F m false).1 ≠ 0 → G.Perm (put1 F (led F m false).1 (b ^^ (led F m false).2)) → PutIn F m b (some G)
theorem PutIn.sem {F : List Ln} {m : Nat} {b : Bool} {o : Option (List Ln)} (r : Rr F) (hm : m < 2 ^ 16) (p : PutIn F m b o) :
    (o = none → ∀ x, Holds F x → dot m x ≠ b) ∧ (∀ G, o = some G → Rr G ∧ ∀ x, Holds G x ↔ Holds F x ∧ dot m x = b) := by
  have lt := led_lt (w := false) (fun l hl => (r.pos l hl).2) hm
  have hs := led_heads (m := m) (w := false) r
  cases p with
  | no h1 h2 =>
    refine ⟨fun _ x hx z => ?_, fun G e => nomatch e⟩
    have := led_worth (m := m) (w := false) hx
    rw [h1, dot_zero, z] at this
    revert this h2
    cases b <;> cases (led F m false).2 <;> simp
  | same h1 h2 =>
    refine ⟨fun e => (nomatch e), fun G e => ?_⟩
    cases e
    refine ⟨r, fun x => ⟨fun hx => ⟨hx, ?_⟩, fun hx => hx.1⟩⟩
    have := led_worth (m := m) (w := false) hx
    rw [h1, dot_zero] at this
    revert this h2
    cases b <;> cases (led F m false).2 <;> cases dot m x <;> simp
  | more h1 h2 =>
    refine ⟨fun e => (nomatch e), fun G e => ?_⟩
    cases e
    refine ⟨(put1_rr r h1 lt hs).perm h2, fun x => ?_⟩
    rw [holds_perm h2, put1_holds]
    refine and_congr_right fun hx => ?_
    have := led_worth (m := m) (w := false) hx
    revert this
    cases b <;> cases (led F m false).2 <;> cases dot m x <;> cases dot (led F m false).1 x <;> simp
theorem PutIn.len {F G : List Ln} {m : Nat} {b : Bool} (p : PutIn F m b (some G)) (h : (led F m false).1 ≠ 0) : G.length = F.length + 1 := by
  cases p with
  | same h1 _ => exact absurd h1 h
  | more _ h2 => rw [h2.length_eq, put1_len]
/-- all lines of A put in -/
inductive Meet : List Ln → List Ln → Option (List Ln) → Prop
  | nil {F : List Ln} : Meet F [] (some F)
  | stop {F A : List Ln} {l : Ln} : PutIn F l.1 l.2 none → Meet F (l :: A) none
  | go {F G A : List Ln} {l : Ln} {o : Option (List Ln)} : PutIn F l.1 l.2 (some G) → Meet G A o → Meet F (l :: A) o
theorem Meet.sem {F A : List Ln} {o : Option (List Ln)} (p : Meet F A o) : Rr F → (∀ l ∈ A, l.1 < 2 ^ 16) → (o = none → ∀ x, Holds F x → ¬ Holds A x) ∧ (∀ G, o = some G → Rr G ∧ ∀ x, Holds G x ↔ Holds F x ∧ Holds A x) := by
  induction p with
  | nil =>
    intro r _
    refine ⟨fun e => (nomatch e), fun G e => ?_⟩
    cases e
    exact ⟨r, fun x => ⟨fun h => ⟨h, fun l hl => nomatch hl⟩, fun h => h.1⟩⟩
  | stop h =>
    intro r hA
    refine ⟨fun _ x hx hA' => (h.sem r (hA _ (List.mem_cons_self ..))).1 rfl x hx (hA' _ (List.mem_cons_self ..)), fun G e => nomatch e⟩
  | @go F G A l o h _ ih =>
    intro r hA
    obtain ⟨r2, s2⟩ := (h.sem r (hA _ (List.mem_cons_self ..))).2 G rfl
    obtain ⟨i1, i2⟩ := ih r2 fun k hk => hA k (List.mem_cons_of_mem _ hk)
    have hc : ∀ x, Holds (l :: A) x ↔ dot l.1 x = l.2 ∧ Holds A x := fun x => ⟨fun q => ⟨q l (List.mem_cons_self ..), fun k hk => q k (List.mem_cons_of_mem _ hk)⟩, fun q k hk => by
      rcases List.mem_cons.mp hk with rfl | hk
      · exact q.1
      · exact q.2 k hk⟩
    refine ⟨fun e x hx hA' => ?_, fun G' e => ?_⟩
    · rw [hc] at hA'
      exact i1 e x ((s2 x).mpr ⟨hx, hA'.1⟩) hA'.2
    · obtain ⟨r3, s3⟩ := i2 G' e
      refine ⟨r3, fun x => ?_⟩
      rw [s3, s2, hc, and_assoc]
/-- equal points, equal heads -/
theorem heads_sub {F G : List Ln} (r : Rr F) (q : Rr G) (h : ∀ x, Holds F x ↔ Holds G x) : ∀ l ∈ F, ∃ k ∈ G, hd k.1 = hd l.1 := by
  intro l hl
  obtain ⟨a, b, c⟩ := hd_some (r.pos l hl).1 (r.pos l hl).2
  have ht : told G l.1 = some l.2 := (told_some q (r.pos l hl).2).mpr fun x hx => (h x).mpr hx l hl
  by_cases w : ∃ k ∈ G, hd k.1 = hd l.1
  · exact w
  · exfalso
    have n : ∀ k ∈ G, hd k.1 ≠ hd l.1 := fun k hk z => w ⟨k, hk, z⟩
    have := led_low (w := false) q.pos n a c
    unfold told at ht
    split at ht
    · rename_i e
      rw [e, Nat.zero_testBit] at this; cases this
    · cases ht
theorem nodup_len {α : Type} [DecidableEq α] : ∀ {l m : List α}, l.Nodup → (∀ a ∈ l, a ∈ m) → l.length ≤ m.length
  | [], _, _, _ => Nat.zero_le _
  | a :: l, m, nd, h => by
    rw [List.nodup_cons] at nd
    have ha := h a (List.mem_cons_self ..)
    have := nodup_len (l := l) (m := m.erase a) nd.2 fun b hb => (List.mem_erase_of_ne (fun z => nd.1 (by rw [← z]; exact hb))).mpr (h b (List.mem_cons_of_mem _ hb))
    rw [List.length_erase_of_mem ha] at this
    have : 0 < m.length := List.length_pos_of_mem ha
    rw [List.length_cons]
    omega
theorem len_eq {F G : List Ln} (r : Rr F) (q : Rr G) (h : ∀ x, Holds F x ↔ Holds G x) : F.length = G.length := by
  have key : ∀ {F G : List Ln}, Rr F → Rr G → (∀ x, Holds F x ↔ Holds G x) → F.length ≤ G.length := fun {F G} r q h => by
    have := nodup_len (l := F.map fun l => hd l.1) (m := G.map fun l => hd l.1) r.nod fun a ha => by
      obtain ⟨l, hl, rfl⟩ := List.mem_map.mp ha
      obtain ⟨k, hk, e⟩ := heads_sub r q h l hl
      exact List.mem_map.mpr ⟨k, hk, e⟩
    rw [List.length_map, List.length_map] at this
    exact this
  have h1 := key r q h
  have h2 := key q r fun x => (h x).symm
  omega
/-- the only reduced row that a half of a flat tells -/
theorem one_row {F : List Ln} (r : Rr F) {m s : Nat} {b w : Bool} (m0 : m ≠ 0) (m1 : m < 2 ^ 16) (mf : ∀ l ∈ F, m.testBit (hd l.1) = false) (s0 : s ≠ 0) (s1 : s < 2 ^ 16) (sf : ∀ l ∈ F, s.testBit (hd l.1) = false)
    (h : ∀ x, Holds F x → dot m x = b → dot s x = w) : s = m := by
  by_cases e : s ^^^ m = 0
  · exact Nat.eq_of_testBit_eq fun i => by
      have := congrArg (fun z => z.testBit i) e
      simp only [Nat.testBit_xor, Nat.zero_testBit] at this
      revert this
      cases s.testBit i <;> cases m.testBit i <;> simp
  · exfalso
    have rr := put1_rr (b := b) r m0 m1 mf
    obtain ⟨ma, mb, mc⟩ := hd_some m0 m1
    -- the row s, or s with m, is free of the new heads
    have key : ∀ t : Nat, t ≠ 0 → t < 2 ^ 16 → (∀ l ∈ F, t.testBit (hd l.1) = false) → t.testBit (hd m) = false → ∀ v, ∃ x, (Holds F x ∧ dot m x = b) ∧ dot t x = v := fun t t0 t1 tf tm v => by
      have hf : ∀ l ∈ put1 F m b, t.testBit (hd l.1) = false := fun l hl => by
        rcases List.mem_cons.mp hl with rfl | hl
        · exact tm
        · obtain ⟨k, hk, rfl⟩ := List.mem_map.mp hl
          rw [put1_head r m0 m1 mf hk]
          exact tf k hk
      obtain ⟨x, hx, d⟩ := both rr t0 t1 hf v
      exact ⟨x, put1_holds.mp hx, d⟩
    cases c : s.testBit (hd m) with
    | false =>
      obtain ⟨x, ⟨hx, hm⟩, d⟩ := key s s0 s1 sf c (!w)
      have := h x hx hm
      rw [d] at this
      revert this
      cases w <;> simp
    | true =>
      obtain ⟨x, ⟨hx, hm⟩, d⟩ := key (s ^^^ m) e (Nat.xor_lt_two_pow s1 m1) (fun l hl => by rw [Nat.testBit_xor, sf l hl, mf l hl]; rfl) (by rw [Nat.testBit_xor, c, ma]; rfl) (!(w ^^ b))
      rw [dot_xor, h x hx hm, hm] at d
      revert d
      cases w <;> cases b <;> simp
end FL
/-! PF3: one flat in two others. -/
namespace FL
theorem holds_sum {X : List Ln} {x y z : Pt} (hx : Holds X x) (hy : Holds X y) (hz : Holds X z) : Holds X (fun i => x i ^^ (y i ^^ z i)) := fun l hl => by
  rw [dot_add, dot_add, hx l hl, hy l hl, hz l hl]
  cases l.2 <;> rfl
theorem holds_congr {X : List Ln} {x y : Pt} (h : ∀ i, x i = y i) : Holds X x ↔ Holds X y := by
  have : x = y := funext h
  rw [this]
def newRow (F : List Ln) : List Ln → Nat
  | [] => 0
  | l :: f => if (led F l.1 false).1 ≠ 0 then (led F l.1 false).1 else newRow F f
theorem newRow_spec (F : List Ln) : ∀ f : List Ln, (newRow F f = 0 ∧ ∀ l ∈ f, (led F l.1 false).1 = 0) ∨ ∃ l ∈ f, newRow F f = (led F l.1 false).1 ∧ (led F l.1 false).1 ≠ 0
  | [] => .inl ⟨rfl, fun _ h => (nomatch h)⟩
  | l :: f => by
    unfold newRow
    by_cases h : (led F l.1 false).1 = 0
    · rw [if_neg (by simpa using h)]
      rcases newRow_spec F f with ⟨a, b⟩ | ⟨k, hk, a⟩
      · refine .inl ⟨a, fun k hk => ?_⟩
        rcases List.mem_cons.mp hk with rfl | hk
        · exact h
        · exact b k hk
      · exact .inr ⟨k, List.mem_cons_of_mem _ hk, a⟩
    · rw [if_pos h]
      exact .inr ⟨l, List.mem_cons_self .., rfl, h⟩
/-- points of a flat that are alike off the heads are alike -/
theorem det {g : List Ln} (r : Rr g) {x y : Pt} (hx : Holds g x) (hy : Holds g y) (h : ∀ i, (∀ l ∈ g, hd l.1 ≠ i) → x i = y i) : ∀ i, x i = y i := by
  intro i
  by_cases e : ∃ l ∈ g, hd l.1 = i
  · obtain ⟨l, hl, rfl⟩ := e
    obtain ⟨a, b, c⟩ := hd_some (r.pos l hl).1 (r.pos l hl).2
    have e1 : dot l.1 (fun i => x i ^^ y i) = false := by rw [dot_add, hx l hl, hy l hl]; simp
    have e2 : dot l.1 (fun i => x i ^^ y i) = dot l.1 (fun i => (x (hd l.1) ^^ y (hd l.1)) && decide (i = hd l.1)) := dot_congr fun i hi hb => by
      by_cases z : i = hd l.1
      · subst z; simp
      · rw [h i fun k hk w => ?_]
        · simp [z]
        · subst w
          rw [r.out k hk l hl z] at hb
          cases hb
    rw [e2, dot_one _ b, a] at e1
    revert e1
    cases x (hd l.1) <;> cases y (hd l.1) <;> simp
  · exact h i fun l hl z => e ⟨l, hl, z⟩
/-- a flat within another one of the same number of lines is it -/
theorem within_eq {f g : List Ln} (rf : Rr f) (rg : Rr g) (h : ∀ x, Holds f x → Holds g x) (hl : f.length = g.length) : ∀ x, Holds g x → Holds f x := by
  have sub : ∀ l ∈ g, ∃ k ∈ f, hd k.1 = hd l.1 := by
    intro l hl'
    obtain ⟨a, b, c⟩ := hd_some (rg.pos l hl').1 (rg.pos l hl').2
    have ht : told f l.1 = some l.2 := (told_some rf (rg.pos l hl').2).mpr fun x hx => h x hx l hl'
    by_cases w : ∃ k ∈ f, hd k.1 = hd l.1
    · exact w
    · exfalso
      have n : ∀ k ∈ f, hd k.1 ≠ hd l.1 := fun k hk z => w ⟨k, hk, z⟩
      have := led_low (w := false) rf.pos n a c
      unfold told at ht
      split at ht
      · rename_i e
        rw [e, Nat.zero_testBit] at this; cases this
      · cases ht
  have back : ∀ k ∈ f, ∃ l ∈ g, hd l.1 = hd k.1 := fun k hk => by
    by_cases w : ∃ l ∈ g, hd l.1 = hd k.1
    · exact w
    · exfalso
      have := nodup_len (l := hd k.1 :: g.map fun l => hd l.1) (m := f.map fun l => hd l.1) (List.nodup_cons.mpr ⟨fun z => by
        obtain ⟨l, hl, e⟩ := List.mem_map.mp z
        exact w ⟨l, hl, e⟩, rg.nod⟩) fun a ha => by
          rcases List.mem_cons.mp ha with rfl | ha
          · exact List.mem_map.mpr ⟨k, hk, rfl⟩
          · obtain ⟨l, hl, rfl⟩ := List.mem_map.mp ha
            obtain ⟨k', hk', e⟩ := sub l hl
            exact List.mem_map.mpr ⟨k', hk', e⟩
      rw [List.length_cons, List.length_map, List.length_map] at this
      omega
  intro x hx
  have hy := fix_holds rf x
  have := det rg (h _ hy) hx fun i hi => fix_off fun k hk z => by
    obtain ⟨l, hl, e⟩ := back k hk
    exact hi l hl (e.trans z)
  exact (holds_congr this).mp hy
/-- F lies in A and B together, in neither alone: halves -/
structure Cut (F A B f s : List Ln) (r : Nat) (w : Bool) : Prop where
  r0 : r ≠ 0
  r1 : r < 2 ^ 16
  rf : ∀ l ∈ F, r.testBit (hd l.1) = false
  lf : f.length = F.length + 1
  ls : s.length = F.length + 1
  nr : newRow F f = r
  tf : told f r = some w
  ts : told s r = some (!w)
  inA : ∀ x, Holds F x → (Holds A x ↔ dot r x = w)
  inB : ∀ x, Holds F x → (Holds B x ↔ dot r x = !w)
theorem cut_ok {F A B : List Ln} {oA oB : Option (List Ln)} (rF : Rr F) (rA : Rr A) (rB : Rr B) (mA : Meet F A oA) (mB : Meet F B oB) (cov : ∀ x, Holds F x → Holds A x ∨ Holds B x)
    (nA : ¬ ∀ x, Holds F x → Holds A x) (nB : ¬ ∀ x, Holds F x → Holds B x) : ∃ f s r w, oA = some f ∧ oB = some s ∧ Cut F A B f s r w := by
  have sA := mA.sem rF fun l hl => (rA.pos l hl).2
  have sB := mB.sem rF fun l hl => (rB.pos l hl).2
  obtain ⟨x0, hx0⟩ := Classical.not_forall.mp nA
  obtain ⟨fx0, ax0⟩ := Classical.not_imp.mp hx0
  obtain ⟨y0, hy0⟩ := Classical.not_forall.mp nB
  obtain ⟨fy0, by0⟩ := Classical.not_imp.mp hy0
  have bx0 : Holds B x0 := (cov x0 fx0).resolve_left ax0
  have ay0 : Holds A y0 := (cov y0 fy0).resolve_right by0
  have disj : ∀ z, Holds F z → Holds A z → Holds B z → False := fun z fz az bz => by
    have fw := holds_sum fx0 fy0 fz
    rcases cov _ fw with aw | bw
    · have := holds_sum aw ay0 az
      exact ax0 ((holds_congr fun i => by cases x0 i <;> cases y0 i <;> cases z i <;> rfl).mp this)
    · have := holds_sum bw bx0 bz
      exact by0 ((holds_congr fun i => by cases x0 i <;> cases y0 i <;> cases z i <;> rfl).mp this)
  obtain ⟨l, hl⟩ := Classical.not_forall.mp ax0
  obtain ⟨hlA, hld⟩ := Classical.not_imp.mp hl
  have l16 := (rA.pos l hlA).2
  have hy := ay0 l hlA
  have inA0 : ∀ u, Holds F u → (Holds A u ↔ dot l.1 u = l.2) := fun u fu => ⟨fun au => au l hlA, fun du => by
    by_cases au : Holds A u
    · exact au
    · exfalso
      have bu := (cov u fu).resolve_left au
      have fw := holds_sum fu fy0 fx0
      have nw : ¬ Holds A (fun i => u i ^^ (y0 i ^^ x0 i)) := fun aw => by
        have := aw l hlA
        rw [dot_add, dot_add, du, hy] at this
        apply hld
        revert this
        cases l.2 <;> cases dot l.1 x0 <;> simp
      have bw := (cov _ fw).resolve_left nw
      have := holds_sum bw bu bx0
      exact by0 ((holds_congr fun i => by cases x0 i <;> cases y0 i <;> cases u i <;> rfl).mp this)⟩
  have inB0 : ∀ u, Holds F u → (Holds B u ↔ dot l.1 u = !l.2) := fun u fu => ⟨fun bu => by
    have : ¬ dot l.1 u = l.2 := fun du => disj u fu ((inA0 u fu).mpr du) bu
    revert this
    cases dot l.1 u <;> cases l.2 <;> simp, fun du => (cov u fu).resolve_left fun au => by
      have := (inA0 u fu).mp au
      rw [du] at this
      revert this
      cases l.2 <;> simp⟩
  have lt := led_lt (w := false) (fun l hl => (rF.pos l hl).2) l16
  have hs := led_heads (m := l.1) (w := false) rF
  have hw : ∀ x, Holds F x → dot (led F l.1 false).1 x = (dot l.1 x ^^ (led F l.1 false).2) := fun x hx => by
    have := led_worth (m := l.1) (w := false) hx
    revert this
    cases dot (led F l.1 false).1 x <;> cases dot l.1 x <;> cases (led F l.1 false).2 <;> simp
  have r0 : (led F l.1 false).1 ≠ 0 := fun z => by
    have h1 := hw x0 fx0
    have h2 := hw y0 fy0
    rw [z, dot_zero] at h1 h2
    rw [hy] at h2
    apply hld
    revert h1 h2
    cases dot l.1 x0 <;> cases l.2 <;> cases (led F l.1 false).2 <;> simp
  have inA : ∀ x, Holds F x → (Holds A x ↔ dot (led F l.1 false).1 x = (l.2 ^^ (led F l.1 false).2)) := fun x hx => by
    rw [inA0 x hx, hw x hx]
    cases dot l.1 x <;> cases l.2 <;> cases (led F l.1 false).2 <;> simp
  have inB : ∀ x, Holds F x → (Holds B x ↔ dot (led F l.1 false).1 x = !(l.2 ^^ (led F l.1 false).2)) := fun x hx => by
    rw [inB0 x hx, hw x hx]
    cases dot l.1 x <;> cases l.2 <;> cases (led F l.1 false).2 <;> simp
  generalize (led F l.1 false).1 = r at lt hs r0 inA inB
  generalize (l.2 ^^ (led F l.1 false).2) = w at inA inB
  cases oA with
  | none => exact absurd ay0 (sA.1 rfl y0 fy0)
  | some f =>
    cases oB with
    | none => exact absurd bx0 (sB.1 rfl x0 fx0)
    | some s =>
      obtain ⟨rf, hf⟩ := sA.2 f rfl
      obtain ⟨rs, hs'⟩ := sB.2 s rfl
      have ef : ∀ x, Holds f x ↔ Holds (put1 F r w) x := fun x => by
        rw [hf, put1_holds]
        exact and_congr_right fun hx => inA x hx
      have es : ∀ x, Holds s x ↔ Holds (put1 F r (!w)) x := fun x => by
        rw [hs', put1_holds]
        exact and_congr_right fun hx => inB x hx
      refine ⟨f, s, r, w, rfl, rfl, r0, lt, hs, ?_, ?_, ?_, ?_, ?_, inA, inB⟩
      · rw [len_eq rf (put1_rr rF r0 lt hs) ef, put1_len]
      · rw [len_eq rs (put1_rr rF r0 lt hs) es, put1_len]
      · rcases newRow_spec F f with ⟨_, h0⟩ | ⟨k, hk, e, hk0⟩
        · exfalso
          apply ax0
          have : Holds f x0 := fun k hk => by
            have hv : ∀ x, Holds F x → dot k.1 x = (led F k.1 false).2 := fun x hx => by
              have := led_worth (m := k.1) (w := false) hx
              rw [h0 k hk, dot_zero] at this
              simpa using this.symm
            rw [hv x0 fx0, ← hv y0 fy0]
            exact (hf y0).mpr ⟨fy0, ay0⟩ k hk
          exact ((hf x0).mp this).2
        · rw [e]
          refine one_row rF r0 lt hs hk0 (led_lt (fun l hl => (rF.pos l hl).2) (rf.pos k hk).2) (led_heads rF) (b := w) (w := k.2 ^^ (led F k.1 false).2) fun x hx hxw => ?_
          have h1 := led_worth (m := k.1) (w := false) hx
          have h2 : dot k.1 x = k.2 := (hf x).mpr ⟨hx, (inA x hx).mpr hxw⟩ k hk
          rw [h2] at h1
          revert h1
          cases dot (led F k.1 false).1 x <;> cases k.2 <;> cases (led F k.1 false).2 <;> simp
      · exact (told_some rf lt).mpr fun x hx => (put1_holds.mp ((ef x).mp hx)).2
      · exact (told_some rs lt).mpr fun x hx => (put1_holds.mp ((es x).mp hx)).2
/-- the rows that cut so: one alone -/
theorem Cut.only {F A B f s : List Ln} {r : Nat} {w : Bool} (rF : Rr F) (c : Cut F A B f s r w) {t : Nat} (t0 : t ≠ 0) (t1 : t < 2 ^ 16) (tf : ∀ l ∈ F, t.testBit (hd l.1) = false) :
    (∃ v : Bool, (∀ x, Holds F x → dot t x = v → Holds A x) ∧ (∀ x, Holds F x → dot t x = !v → Holds B x)) ↔ t = r := by
  constructor
  · intro ⟨v, h1, _⟩
    exact (one_row rF t0 t1 tf c.r0 c.r1 c.rf (b := v) (w := w) fun x hx hd => (c.inA x hx).mp (h1 x hx hd)).symm
  · intro e
    subst e
    exact ⟨w, fun x hx hd => (c.inA x hx).mpr hd, fun x hx hd => (c.inB x hx).mpr hd⟩
/-- what the program finds lies in both together -/
theorem found_cov {F A B f s : List Ln} (rF : Rr F) (rA : Rr A) (rB : Rr B) (mA : Meet F A (some f)) (mB : Meet F B (some s)) (lf : f.length = F.length + 1) (ls : s.length = F.length + 1) {v : Bool}
    (ts : told s (newRow F f) = some v) (tf : told f (newRow F f) ≠ some v) : ∀ x, Holds F x → Holds A x ∨ Holds B x := by
  obtain ⟨rf, hf⟩ := (mA.sem rF fun l hl => (rA.pos l hl).2).2 f rfl
  obtain ⟨rs, hs⟩ := (mB.sem rF fun l hl => (rB.pos l hl).2).2 s rfl
  rcases newRow_spec F f with ⟨e, _⟩ | ⟨k, hk, e, hk0⟩
  · exfalso
    rw [e] at ts tf
    have h1 := (told_some rs (by decide)).mp ts
    obtain ⟨x, hx⟩ := rs.pt
    have := h1 x hx
    rw [dot_zero] at this
    apply tf
    refine (told_some rf (by decide)).mpr fun x _ => ?_
    rw [dot_zero]; exact this
  · rw [e] at ts tf
    have k16 := (rf.pos k hk).2
    have lt := led_lt (w := false) (fun l hl => (rF.pos l hl).2) k16
    have hh := led_heads (m := k.1) (w := false) rF
    have tf2 : ∀ x, Holds f x → dot (led F k.1 false).1 x = (k.2 ^^ (led F k.1 false).2) := fun x hx => by
      have h1 := led_worth (m := k.1) (w := false) ((hf x).mp hx).1
      rw [hx k hk] at h1
      revert h1
      cases dot (led F k.1 false).1 x <;> cases k.2 <;> cases (led F k.1 false).2 <;> simp
    have ne : (k.2 ^^ (led F k.1 false).2) ≠ v := fun z => tf ((told_some rf lt).mpr fun x hx => (tf2 x hx).trans z)
    have ts2 := (told_some rs lt).mp ts
    have w1 := within_eq rf (put1_rr (b := (k.2 ^^ (led F k.1 false).2)) rF hk0 lt hh) (fun x hx => put1_holds.mpr ⟨((hf x).mp hx).1, tf2 x hx⟩) (by rw [lf, put1_len])
    have w2 := within_eq rs (put1_rr (b := v) rF hk0 lt hh) (fun x hx => put1_holds.mpr ⟨((hs x).mp hx).1, ts2 x hx⟩) (by rw [ls, put1_len])
    intro x hx
    by_cases d : dot (led F k.1 false).1 x = v
    · exact .inr ((hs x).mp (w2 x (put1_holds.mpr ⟨hx, d⟩))).2
    · refine .inl ((hf x).mp (w1 x (put1_holds.mpr ⟨hx, ?_⟩))).2
      revert d ne
      cases dot (led F k.1 false).1 x <;> cases v <;> cases (k.2 ^^ (led F k.1 false).2) <;> simp
end FL
/-! PB1: rows, lines and flats as data. -/
namespace DL
open PySem L2 FL
def bitsOf (m : Nat) : List Nat := (List.range 16).filter fun i => m.testBit i
def intsOfN (l : List Nat) : List Int := l.map fun (i : Nat) => (i : Int)
def natsD (l : List Nat) : List PyData := l.map fun (i : Nat) => PyData.int (i : Int)
def rowD (m : Nat) : PyData := .tuple (natsD (bitsOf m))
def bitD (b : Bool) : PyData := .int (if b then 1 else 0)
def lineD (l : Ln) : PyData := .tuple [rowD l.1, bitD l.2]
def flatD (F : List Ln) : PyData := .tuple (F.map lineD)
theorem natsD_eq (l : List Nat) : natsD l = (intsOfN l).map .int := by unfold natsD intsOfN; rw [List.map_map]; rfl
theorem mem_bits {m i : Nat} : i ∈ bitsOf m ↔ i < 16 ∧ m.testBit i = true := by unfold bitsOf; rw [List.mem_filter, List.mem_range]
theorem bits_sorted (m : Nat) : (bitsOf m).Pairwise (· < ·) := List.Pairwise.filter _ List.pairwise_lt_range
theorem bits_nodup (m : Nat) : (bitsOf m).Nodup := (bits_sorted m).imp fun h => Nat.ne_of_lt h
theorem bits_len (m : Nat) : (bitsOf m).length ≤ 16 := by
  have := List.length_filter_le (fun i => m.testBit i) (List.range 16)
  rw [List.length_range] at this
  exact this
theorem rowD_zero : rowD 0 = .tuple [] := by
  have : bitsOf 0 = [] := by unfold bitsOf; simp
  unfold rowD
  rw [this]
  rfl
theorem bits_cons {m : Nat} (h0 : m ≠ 0) (h1 : m < 2 ^ 16) : ∃ r, bitsOf m = hd m :: r := by
  obtain ⟨a, b, c⟩ := hd_some h0 h1
  have hm : hd m ∈ bitsOf m := mem_bits.mpr ⟨b, a⟩
  cases e : bitsOf m with
  | nil => rw [e] at hm; cases hm
  | cons x r =>
    refine ⟨r, ?_⟩
    have hx : x ∈ bitsOf m := by rw [e]; exact List.mem_cons_self ..
    have hx' := mem_bits.mp hx
    have hle : hd m ≤ x := by
      rcases Nat.lt_or_ge x (hd m) with w | w
      · rw [c x w] at hx'; cases hx'.2
      · exact w
    have hs := bits_sorted m
    rw [e] at hs hm
    rcases List.mem_cons.mp hm with w | w
    · rw [w]
    · have := (List.pairwise_cons.mp hs).1 _ w
      omega
theorem row_head {m : Nat} (h0 : m ≠ 0) (h1 : m < 2 ^ 16) : ixX (rowD m) (.int 0) = some (.int (hd m : Nat)) := by
  obtain ⟨r, e⟩ := bits_cons h0 h1
  show atI (natsD (bitsOf m)) 0 = _
  rw [e]
  exact atI_0
theorem natsD_nc {l : List Nat} (h : ∀ i ∈ l, i < 1000000) : NcL 0 l.length (natsD l) := by
  rw [natsD_eq]
  have := NcL.ints' (xs := intsOfN l) fun i hi => by
    obtain ⟨n, hn, rfl⟩ := List.mem_map.mp hi
    have := h n hn
    omega
  unfold intsOfN at this
  rw [List.length_map] at this
  exact this
theorem rowD_nc (m : Nat) : Nc 1 16 (rowD m) := (natsD_nc fun i hi => by have := (mem_bits.mp hi).1; omega).tup.le (by decide) (bits_len m)
theorem bitD_nc (b : Bool) : Nc 0 0 (bitD b) := by unfold bitD; cases b <;> exact Nc.int (by decide)
theorem lineD_nc (l : Ln) : Nc 2 18 (lineD l) := (NcL.cons (rowD_nc l.1) (NcL.cons (bitD_nc l.2) NcL.nil)).tup.le (by decide) (by decide)
theorem linesD_nc (F : List Ln) : NcL 2 (19 * F.length) (F.map lineD) := by
  have := NcL.of (ds := F.map lineD) (D := 2) (W := 18) fun d hd => by
    obtain ⟨l, _, rfl⟩ := List.mem_map.mp hd
    exact lineD_nc l
  rw [List.length_map] at this
  exact this
theorem flatD_nc (F : List Ln) : Nc 3 (19 * F.length) (flatD F) := (linesD_nc F).tup
theorem eqv_nat_zero (l : List Nat) : PyData.eqvAll (natsD l) [] = decide (l = []) := by
  cases l with
  | nil => rfl
  | cons x r => simp [natsD, PyData.eqvAll]
theorem bits_nil {m : Nat} (h : m < 2 ^ 16) : bitsOf m = [] ↔ m = 0 := by
  constructor
  · intro e
    by_cases h0 : m = 0
    · exact h0
    · obtain ⟨r, e'⟩ := bits_cons h0 h
      rw [e] at e'; cases e'
  · intro e
    subst e
    unfold bitsOf; simp
theorem shaped_nil : SeqAt.shaped (.tuple []) = true := by simp [SeqAt.shaped, PyData.canLay0, PyData.canLayAll0, PyData.depth, PyData.depthAll]
theorem eqD_row_nil {m : Nat} (h : m < 2 ^ 16) : eqD (rowD m) (.tuple []) = some (.bool (decide (m = 0))) := by
  show (if SeqAt.shaped (rowD m) = true ∧ SeqAt.shaped (.tuple []) = true then some (PyData.bool (PyData.eqv (rowD m) (.tuple []))) else none) = _
  rw [if_pos ⟨(rowD_nc m).shaped (by decide), shaped_nil⟩]
  unfold rowD
  simp only [PyData.eqv, eqv_nat_zero]
  congr 2
  simp only [decide_eq_decide]
  exact bits_nil h
theorem neD_row_nil {m : Nat} (h : m < 2 ^ 16) : neD (rowD m) (.tuple []) = some (.bool (!decide (m = 0))) := by
  show (if SeqAt.shaped (rowD m) = true ∧ SeqAt.shaped (.tuple []) = true then some (PyData.bool (!PyData.eqv (rowD m) (.tuple []))) else none) = _
  rw [if_pos ⟨(rowD_nc m).shaped (by decide), shaped_nil⟩]
  unfold rowD
  simp only [PyData.eqv, eqv_nat_zero]
  congr 3
  simp only [decide_eq_decide]
  exact bits_nil h
theorem hasDict_int (i : Int) : (PyData.int i).hasDict = false := by simp [PyData.hasDict]
theorem any_nats (l : List Nat) (i : Nat) : ((natsD l).any fun z => PyData.eqv z (.int (i : Int))) = decide (i ∈ l) := by
  unfold natsD
  rw [List.any_map]
  induction l with
  | nil => simp
  | cons x r ih =>
    rw [List.any_cons, ih]
    simp only [Function.comp, PyData.eqv]
    by_cases e : i = x
    · subst e; simp
    · have e2 : ((x : Int) == (i : Int)) = false := by simp; omega
      rw [e2]
      simp [e]
theorem in_nats {l : List Nat} {i : Nat} (h : ∀ i ∈ l, i < 1000000) : inX (.int (i : Int)) (.tuple (natsD l)) = some (.bool (decide (i ∈ l))) ∧ ninX (.int (i : Int)) (.tuple (natsD l)) = some (.bool (!decide (i ∈ l))) ∧
    inX (.int (i : Int)) (.list (natsD l)) = some (.bool (decide (i ∈ l))) ∧ ninX (.int (i : Int)) (.list (natsD l)) = some (.bool (!decide (i ∈ l))) := by
  have hl := natsD_nc h
  have c : (PyData.int (i : Int)).hasDict = false ∧ PyData.hasDictAll (natsD l) = false ∧ SeqAt.shaped (.int (i : Int)) = true ∧ PyData.canLayAll0 (natsD l) = true := ⟨hasDict_int _, PyData.hasDictAll_of_canLayAll _ hl.lay, shaped_int _, hl.lay⟩
  have e1 : inD (.int (i : Int)) (.tuple (natsD l)) = some (.bool (inData (.int (i : Int)) (natsD l))) := by show (if _ then _ else none) = _; rw [if_pos c]
  have e2 : ninD (.int (i : Int)) (.tuple (natsD l)) = some (.bool (!inData (.int (i : Int)) (natsD l))) := by show (if _ then _ else none) = _; rw [if_pos c]
  have e3 : inD (.int (i : Int)) (.list (natsD l)) = some (.bool (inData (.int (i : Int)) (natsD l))) := by show (if _ then _ else none) = _; rw [if_pos c]
  have e4 : ninD (.int (i : Int)) (.list (natsD l)) = some (.bool (!inData (.int (i : Int)) (natsD l))) := by show (if _ then _ else none) = _; rw [if_pos c]
  have e5 : inData (.int (i : Int)) (natsD l) = decide (i ∈ l) := any_nats l i
  rw [e5] at e1 e2 e3 e4
  exact ⟨e1, e2, e3, e4⟩
theorem in_row {m i : Nat} (h : m < 2 ^ 16) : inX (.int (i : Int)) (rowD m) = some (.bool (m.testBit i)) ∧ ninX (.int (i : Int)) (rowD m) = some (.bool (!m.testBit i)) := by
  have := in_nats (l := bitsOf m) (i := i) fun j hj => by have := (mem_bits.mp hj).1; omega
  have e : decide (i ∈ bitsOf m) = m.testBit i := by
    rw [Bool.eq_iff_iff, decide_eq_true_eq, mem_bits]
    exact ⟨fun h => h.2, fun hb => ⟨bit_lt h hb, hb⟩⟩
  rw [e] at this
  exact ⟨this.1, this.2.1⟩
/-! sorted -/
theorem sort_ints (ns : List Int) : sortX (.list (ns.map .int)) = some (.list ((isort ns).map .int)) := by
  show sortD (.list (ns.map .int)) = _
  simp only [sortD]
  have ok : SortOk (ns.map PyData.int) := by
    refine ⟨PySem.W.AllAlike.of fun a b => by simp [PySem.W.alike], PySem.W.Sortable.others fun a => ⟨by simp, by simp⟩, fun d hd => ?_⟩
    obtain ⟨i, _, rfl⟩ := List.mem_map.mp hd
    exact ⟨by simp [PyData.depth], hasDict_int i⟩
  rw [if_pos ok]
  have e := List.map_mergeSort (r := PySem.W.dataLe false fun n : Int => PyData.int n) (s := PySem.W.dataLe false fun d : PyData => d) (f := fun n => PyData.int n) (l := ns) (fun _ _ _ _ => rfl)
  rw [← e, PySem.W.dataLe_int (fun n : Int => n)]
  rfl
theorem alike_rows (a b : Nat) : PySem.W.alike (rowD a) (rowD b) = true := by
  unfold rowD
  rw [natsD_eq, natsD_eq]
  simp only [PySem.W.alike]
  exact PySem.W.alike_ints _ _
theorem alike_bits (a b : Bool) : PySem.W.alike (bitD a) (bitD b) = true := by unfold bitD; simp [PySem.W.alike]
theorem sort_lines (F : List Ln) : ∃ G : List Ln, G.Perm F ∧ sortX (.list (F.map lineD)) = some (.list (G.map lineD)) := by
  have e := List.map_mergeSort (r := PySem.W.dataLe false lineD) (s := PySem.W.dataLe false fun d : PyData => d) (f := lineD) (l := F) (fun _ _ _ _ => rfl)
  refine ⟨F.mergeSort (PySem.W.dataLe false lineD), List.mergeSort_perm _ _, ?_⟩
  show sortD (.list (F.map lineD)) = _
  simp only [sortD]
  have ok : SortOk (F.map lineD) := by
    refine ⟨PySem.W.AllAlike.of fun a b => ?_, PySem.W.Sortable.tuples fun a => ⟨_, _, rfl⟩, fun d hd => ?_⟩
    · unfold lineD
      simp only [PySem.W.alike, PySem.W.alikeAll, alike_rows, alike_bits, Bool.and_self]
    · obtain ⟨l, _, rfl⟩ := List.mem_map.mp hd
      have := lineD_nc l
      exact ⟨Nat.le_trans this.dep (by decide), PyData.hasDict_of_canLay _ this.lay⟩
  rw [if_pos ok, e]
theorem nodup_append_of {l m : List Nat} (h1 : l.Nodup) (h2 : m.Nodup) (h : ∀ a ∈ l, a ∉ m) : (l ++ m).Nodup := List.nodup_append.mpr ⟨h1, h2, fun a ha b hb z => h a ha (by rw [z]; exact hb)⟩
/-- two rows together -/
theorem plus_bits {a b : Nat} : isort (intsOfN ((bitsOf a).filter fun i => !b.testBit i) ++ intsOfN ((bitsOf b).filter fun i => !a.testBit i)) = intsOfN (bitsOf (a ^^^ b)) := by
  symm
  refine isort_eq ?_ ?_
  · unfold intsOfN
    rw [← List.map_append]
    refine List.Perm.map _ ?_
    refine (List.perm_ext_iff_of_nodup (bits_nodup _) (nodup_append_of ((bits_nodup a).filter _) ((bits_nodup b).filter _) fun i hi hj => ?_)).mpr fun i => ?_
    · have h1 := List.mem_filter.mp hi
      have h2 := mem_bits.mp (List.mem_filter.mp hj).1
      rw [h2.2] at h1
      cases h1.2
    · rw [List.mem_append, List.mem_filter, List.mem_filter, mem_bits, mem_bits, mem_bits, Nat.testBit_xor]
      cases a.testBit i <;> cases b.testBit i <;> simp
  · unfold intsOfN
    exact List.pairwise_map.mpr ((bits_sorted _).imp fun h => by omega)
end DL
/-! PB2: comprehensions and loops, once more. -/
namespace DL
open PySem L2 FL
theorem eLc_pure {vs : List Nat} {it : Es} {g : Gv} {q : Eq} {a : Ev} {ρ ρ0 : En} {ds : List PyData} (hit : it ρ = some (ds, ρ)) (hw : wipeE ρ vs = ρ0) (hm : mixE vs ρ ρ0 = ρ) (p : PyData → Bool) (f : PyData → PyData)
    (h : ∀ x ∈ ds, ∃ ρ1 ρ2, g x ρ0 = some ρ1 ∧ q ρ1 = some (p x, ρ2) ∧ (p x = true → ∃ ρ3, a ρ2 = some (f x, ρ3) ∧ wipeE ρ3 vs = ρ0) ∧ (p x = false → wipeE ρ2 vs = ρ0)) :
    eLc vs it g q a ρ = some (.list ((ds.filter p).map f), ρ) := by
  unfold eLc
  rw [hit]
  simp only [hw, lcD_pure p f ds h, hm]
/-- without a condition -/
theorem eLc_map {vs : List Nat} {it : Es} {g : Gv} {a : Ev} {ρ ρ0 : En} {ds : List PyData} (hit : it ρ = some (ds, ρ)) (hw : wipeE ρ vs = ρ0) (hm : mixE vs ρ ρ0 = ρ) (f : PyData → PyData)
    (h : ∀ x ∈ ds, ∃ ρ1 ρ3, g x ρ0 = some ρ1 ∧ a ρ1 = some (f x, ρ3) ∧ wipeE ρ3 vs = ρ0) :
    eLc vs it g qYes a ρ = some (.list (ds.map f), ρ) := by
  have := eLc_pure (q := qYes) hit hw hm (fun _ => true) f fun x hx => by
    obtain ⟨ρ1, ρ3, h1, h2, h3⟩ := h x hx
    exact ⟨ρ1, ρ1, h1, rfl, fun _ => ⟨ρ3, h2, h3⟩, fun z => (nomatch z)⟩
  rw [List.filter_eq_self.mpr (fun _ _ => rfl)] at this
  exact this
/-- typed items -/
theorem lcD_T {α : Type} {vs : List Nat} {g : Gv} {q : Eq} {a : Ev} {ρ0 : En} (enc : α → PyData) (p : α → Bool) (f : α → PyData) :
    ∀ (xs : List α), (∀ x ∈ xs, ∃ ρ1 ρ2, g (enc x) ρ0 = some ρ1 ∧ q ρ1 = some (p x, ρ2) ∧ (p x = true → ∃ ρ3, a ρ2 = some (f x, ρ3) ∧ wipeE ρ3 vs = ρ0) ∧ (p x = false → wipeE ρ2 vs = ρ0)) →
    lcD vs g q a (xs.map enc) ρ0 = some ((xs.filter p).map f, ρ0)
  | [], _ => rfl
  | x :: xs, h => by
    obtain ⟨ρ1, ρ2, h1, h2, h3, h4⟩ := h x (List.mem_cons_self ..)
    have ih := lcD_T enc p f xs fun y hy => h y (List.mem_cons_of_mem _ hy)
    rw [List.map_cons]
    unfold lcD
    rw [h1]
    simp only [h2]
    cases hp : p x with
    | true =>
      obtain ⟨ρ3, h5, h6⟩ := h3 hp
      simp only [h5, h6, ih, List.filter_cons, hp, if_true, List.map_cons]
    | false =>
      have h6 := h4 hp
      simp only [h6, ih, List.filter_cons, hp]
      rfl
theorem eLc_T {α : Type} {vs : List Nat} {it : Es} {g : Gv} {q : Eq} {a : Ev} {ρ ρ0 : En} (enc : α → PyData) (xs : List α) (hit : it ρ = some (xs.map enc, ρ)) (hw : wipeE ρ vs = ρ0) (hm : mixE vs ρ ρ0 = ρ) (p : α → Bool) (f : α → PyData)
    (h : ∀ x ∈ xs, ∃ ρ1 ρ2, g (enc x) ρ0 = some ρ1 ∧ q ρ1 = some (p x, ρ2) ∧ (p x = true → ∃ ρ3, a ρ2 = some (f x, ρ3) ∧ wipeE ρ3 vs = ρ0) ∧ (p x = false → wipeE ρ2 vs = ρ0)) :
    eLc vs it g q a ρ = some (.list ((xs.filter p).map f), ρ) := by
  unfold eLc
  rw [hit]
  simp only [hw, lcD_T enc p f xs h, hm]
theorem eLc_M {α : Type} {vs : List Nat} {it : Es} {g : Gv} {a : Ev} {ρ ρ0 : En} (enc : α → PyData) (xs : List α) (hit : it ρ = some (xs.map enc, ρ)) (hw : wipeE ρ vs = ρ0) (hm : mixE vs ρ ρ0 = ρ) (f : α → PyData)
    (h : ∀ x ∈ xs, ∃ ρ1 ρ3, g (enc x) ρ0 = some ρ1 ∧ a ρ1 = some (f x, ρ3) ∧ wipeE ρ3 vs = ρ0) :
    eLc vs it g qYes a ρ = some (.list (xs.map f), ρ) := by
  have := eLc_T (q := qYes) enc xs hit hw hm (fun _ => true) f fun x hx => by
    obtain ⟨ρ1, ρ3, h1, h2, h3⟩ := h x hx
    exact ⟨ρ1, ρ1, h1, rfl, fun _ => ⟨ρ3, h2, h3⟩, fun z => (nomatch z)⟩
  rw [List.filter_eq_self.mpr (fun _ _ => rfl)] at this
  exact this
/-- with changes: what comes out, and an invariant -/
theorem lcD_inv {vs : List Nat} {g : Gv} {q : Eq} {a : Ev} (I : List PyData → List PyData → En → Prop) (ds : List PyData)
    (step : ∀ (done : List PyData) (x : PyData) (rest out : List PyData) (ρ : En), ds = done ++ x :: rest → I done out ρ → ∃ ρ1 b ρ2, g x ρ = some ρ1 ∧ q ρ1 = some (b, ρ2) ∧
      (b = true → ∃ d ρ3, a ρ2 = some (d, ρ3) ∧ I (done ++ [x]) (out ++ [d]) (wipeE ρ3 vs)) ∧ (b = false → I (done ++ [x]) out (wipeE ρ2 vs))) :
    ∀ (rest done out : List PyData) (ρ : En), ds = done ++ rest → I done out ρ → ∃ more ρ', lcD vs g q a rest ρ = some (more, ρ') ∧ I ds (out ++ more) ρ'
  | [], done, out, ρ, e, h => ⟨[], ρ, rfl, by rw [e, List.append_nil, List.append_nil]; exact h⟩
  | x :: rest, done, out, ρ, e, h => by
    obtain ⟨ρ1, b, ρ2, h1, h2, h3, h4⟩ := step done x rest out ρ e h
    cases b with
    | true =>
      obtain ⟨d, ρ3, h5, h6⟩ := h3 rfl
      obtain ⟨more, ρ', h7, h8⟩ := lcD_inv I ds step rest (done ++ [x]) (out ++ [d]) _ (by rw [e, List.append_assoc]; rfl) h6
      refine ⟨d :: more, ρ', ?_, by rw [List.append_assoc] at h8; exact h8⟩
      unfold lcD
      rw [h1]
      simp only [h2, h5, h7]
    | false =>
      obtain ⟨more, ρ', h7, h8⟩ := lcD_inv I ds step rest (done ++ [x]) out _ (by rw [e, List.append_assoc]; rfl) (h4 rfl)
      refine ⟨more, ρ', ?_, h8⟩
      unfold lcD
      rw [h1]
      simp only [h2, h7]
/-- a loop that may end early: from the front -/
theorem forD_go {g : Gv} {ψ : Sv} {x : PyData} {xs : List PyData} {ρ ρ1 ρ2 : En} (h1 : g x ρ = some ρ1) (h2 : ψ ρ1 = some (.nx ρ2)) : forD g ψ (x :: xs) ρ = forD g ψ xs ρ2 := by
  conv => lhs; unfold forD
  rw [h1]
  simp only [h2]
theorem forD_ret {g : Gv} {ψ : Sv} {x : PyData} {xs : List PyData} {ρ ρ1 ρ2 : En} {d : PyData} (h1 : g x ρ = some ρ1) (h2 : ψ ρ1 = some (.ret d ρ2)) : forD g ψ (x :: xs) ρ = some (.ret d ρ2) := by
  conv => lhs; unfold forD
  rw [h1]
  simp only [h2]
theorem sFor_eq {it : Es} {g : Gv} {ψ : Sv} {ρ ρ0 : En} {ds : List PyData} (hi : it ρ = some (ds, ρ0)) : sFor it g ψ ρ = forD g ψ ds ρ0 := by
  unfold sFor
  rw [hi]
theorem seqOf_flat (F : List Ln) : seqOf (flatD F) = some (F.map lineD) := rfl
theorem seqOf_row (m : Nat) : seqOf (rowD m) = some (natsD (bitsOf m)) := rfl
theorem ixX_line0 (l : Ln) : ixX (lineD l) (.int 0) = some (rowD l.1) := by show atI [rowD l.1, bitD l.2] 0 = _; exact atI_0
theorem ixX_line1 (l : Ln) : ixX (lineD l) (.int 1) = some (bitD l.2) := by show atI [rowD l.1, bitD l.2] 1 = _; exact atI_1
theorem bit_add (a b : Bool) : ∃ c, addD (bitD a) (bitD b) = some (.int c) ∧ modD (.int c) (.int 2) = some (bitD (a ^^ b)) := by
  cases a <;> cases b <;> exact ⟨_, rfl, rfl⟩
def optD : Option Bool → PyData
  | none => .none
  | some b => bitD b
def oflD : Option (List Ln) → PyData
  | none => .none
  | some F => flatD F
theorem rr_len {F : List Ln} (r : Rr F) : F.length ≤ 16 := by
  have := nodup_len (l := F.map fun l => hd l.1) (m := List.range 16) r.nod fun a ha => by
    obtain ⟨l, hl, rfl⟩ := List.mem_map.mp ha
    exact List.mem_range.mpr (hd_some (r.pos l hl).1 (r.pos l hl).2).2.1
  rw [List.length_map, List.length_range] at this
  exact this
theorem eqD_bit (a b : Bool) : eqD (bitD a) (bitD b) = some (.bool (decide (a = b))) := by unfold bitD; rw [eqD_int]; cases a <;> cases b <;> rfl
theorem neD_bit (a b : Bool) : neD (bitD a) (bitD b) = some (.bool (!decide (a = b))) := by unfold bitD; rw [neD_int]; cases a <;> cases b <;> rfl
theorem optD_nc (o : Option Bool) : Nc 0 0 (optD o) := by
  cases o with
  | none => exact Nc.non
  | some b => exact bitD_nc b
theorem eqv_opt (a b : Option Bool) : PyData.eqv (optD a) (optD b) = decide (a = b) := by
  cases a with
  | none =>
    cases b with
    | none => simp [optD, PyData.eqv]
    | some b => simp [optD, bitD, PyData.eqv]
  | some a =>
    cases b with
    | none => simp [optD, bitD, PyData.eqv]
    | some b => cases a <;> cases b <;> simp [optD, bitD, PyData.eqv]
theorem eqD_opt (a b : Option Bool) : eqD (optD a) (optD b) = some (.bool (decide (a = b))) := by
  have h : eqD (optD a) (optD b) = (if SeqAt.shaped (optD a) = true ∧ SeqAt.shaped (optD b) = true then some (PyData.bool (PyData.eqv (optD a) (optD b))) else none) := by
    unfold eqD
    cases a <;> cases b <;> rfl
  rw [h, if_pos ⟨(optD_nc a).shaped (by decide), (optD_nc b).shaped (by decide)⟩, eqv_opt]
theorem neD_opt (a b : Option Bool) : neD (optD a) (optD b) = some (.bool (!decide (a = b))) := by
  have h : neD (optD a) (optD b) = (if SeqAt.shaped (optD a) = true ∧ SeqAt.shaped (optD b) = true then some (PyData.bool (!PyData.eqv (optD a) (optD b))) else none) := by
    unfold neD
    cases a <;> cases b <;> rfl
  rw [h, if_pos ⟨(optD_nc a).shaped (by decide), (optD_nc b).shaped (by decide)⟩, eqv_opt]
theorem isN_opt (a : Option Bool) : isN (optD a) .none = some (.bool (decide (a = none))) := by
  cases a with
  | none => rfl
  | some b => cases b <;> rfl
theorem isNotN_opt (a : Option Bool) : isNotN (optD a) .none = some (.bool (!decide (a = none))) := by
  cases a with
  | none => rfl
  | some b => cases b <;> rfl
theorem isN_ofl (a : Option (List Ln)) : isN (oflD a) .none = some (.bool a.isNone) := by cases a <;> rfl
theorem allD_bools (bs : List Bool) : allD (.list (bs.map .bool)) = some (.bool (bs.all id)) := by
  show (boolsOf (bs.map PyData.bool)).map _ = _
  rw [boolsOf_map]
  rfl
theorem ixX_t0 (x : PyData) (r : List PyData) : ixX (.tuple (x :: r)) (.int 0) = some x := by show atI (x :: r) 0 = _; exact atI_0
theorem ixX_t1 (x y : PyData) (r : List PyData) : ixX (.tuple (x :: y :: r)) (.int 1) = some y := by show atI (x :: y :: r) 1 = _; exact atI_1
theorem ixX_t2 (x y z : PyData) (r : List PyData) : ixX (.tuple (x :: y :: z :: r)) (.int 2) = some z := by show atI (x :: y :: z :: r) 2 = _; exact atI_2
theorem ixX_l0 (x : PyData) (r : List PyData) : ixX (.list (x :: r)) (.int 0) = some x := by show atI (x :: r) 0 = _; exact atI_0
theorem ixX_l1 (x y : PyData) (r : List PyData) : ixX (.list (x :: y :: r)) (.int 1) = some y := by show atI (x :: y :: r) 1 = _; exact atI_1
theorem sFor_T {α : Type} (enc : α → PyData) (xs : List α) {it : Es} {g : Gv} {ψ : Sv} {ρ ρ0 : En} (hi : it ρ = some (xs.map enc, ρ0)) (I : List α → En → Prop) (h0 : I [] ρ0)
    (step : ∀ (done : List α) (x : α) (rest : List α) (ρ : En), xs = done ++ x :: rest → I done ρ → ∃ ρ1 ρ2, g (enc x) ρ = some ρ1 ∧ ψ ρ1 = some (.nx ρ2) ∧ I (done ++ [x]) ρ2) :
    ∃ ρ', sFor it g ψ ρ = some (.nx ρ') ∧ I xs ρ' := by
  rw [sFor_eq hi]
  have key : ∀ (rest done : List α) (ρ : En), xs = done ++ rest → I done ρ → ∃ ρ', forD g ψ (rest.map enc) ρ = some (.nx ρ') ∧ I xs ρ' := by
    intro rest
    induction rest with
    | nil => intro done ρ e h; exact ⟨ρ, rfl, by rw [e, List.append_nil]; exact h⟩
    | cons x rest ih =>
      intro done ρ e h
      obtain ⟨ρ1, ρ2, h1, h2, h3⟩ := step done x rest ρ e h
      obtain ⟨ρ', h4, h5⟩ := ih (done ++ [x]) ρ2 (by rw [e, List.append_assoc]; rfl) h3
      exact ⟨ρ', by rw [List.map_cons, forD_go h1 h2]; exact h4, h5⟩
  exact key xs [] ρ0 rfl h0
/-- the lines of a flat while a line is put in -/
def putL (m : Nat) (b : Bool) (dn : List Ln) : List PyData := (put1 dn m b).map lineD
theorem putL_nil (m : Nat) (b : Bool) : putL m b [] = [.tuple [rowD m, bitD b]] := rfl
theorem putL_len (m : Nat) (b : Bool) (dn : List Ln) : (putL m b dn).length = dn.length + 1 := by unfold putL; rw [List.length_map, put1_len]
theorem putL_t {m : Nat} {b : Bool} {dn : List Ln} {l : Ln} (h : l.1.testBit (hd m) = true) : putL m b (dn ++ [l]) = putL m b dn ++ [.tuple [rowD (l.1 ^^^ m), bitD (l.2 ^^ b)]] := by
  unfold putL put1
  rw [List.map_append, List.map_cons, List.map_cons, List.map_append]
  simp [h, lineD]
theorem putL_f {m : Nat} {b : Bool} {dn : List Ln} {l : Ln} (h : l.1.testBit (hd m) = false) : putL m b (dn ++ [l]) = putL m b dn ++ [.tuple [rowD l.1, bitD l.2]] := by
  unfold putL put1
  rw [List.map_append, List.map_cons, List.map_cons, List.map_append]
  simp [h, lineD]
theorem app_ok {xs : List PyData} {y : PyData} (h : xs.length < 16777216) : appD xs [y] = some (xs ++ [y]) := by
  show (if _ then _ else none) = _
  rw [if_pos h]
theorem flat_lines (F : List Ln) : DL.flatBs (F.map lineD) = true := by
  have hn : ∀ l : List Nat, DL.flatBs (natsD l) = true := fun l => by
    induction l with
    | nil => rfl
    | cons x r ih => show (DL.flatB (.int x) && DL.flatBs (natsD r)) = true; rw [ih]; rfl
  induction F with
  | nil => rfl
  | cons l F ih =>
    show (DL.flatB (.tuple [rowD l.1, bitD l.2]) && DL.flatBs (F.map lineD)) = true
    rw [ih, Bool.and_true]
    show (DL.flatB (.tuple (natsD (bitsOf l.1))) && (DL.flatB (bitD l.2) && true)) = true
    show (DL.flatBs (natsD (bitsOf l.1)) && (DL.flatB (bitD l.2) && true)) = true
    rw [hn]
    rfl
theorem flat_flat (F : List Ln) : DL.flatB (flatD F) = true := flat_lines F
end DL
/-! PB3: the law's room of all bits. -/
namespace DL
open PySem L2 FL
/-- the numbers of the bits at which an unknown is 1 -/
def colN (n u : Nat) : Nat := (List.range (2 ^ u)).foldl (fun f at' => f ||| ((2 ^ (2 ^ (n - 1 - u)) - 1) * 2 ^ (2 ^ (n - 1 - u))) * 2 ^ (2 * 2 ^ (n - 1 - u) * at')) 0
def colsN (n : Nat) : List Nat := (List.range n).map (colN n)
def roomD (n : Nat) : PyData := .tuple [.int (n : Nat), .int ((2 ^ (2 ^ n) - 1 : Nat) : Int), .tuple (natsD (colsN n))]
def ptN (n k : Nat) : Pt := fun u => k.testBit (n - 1 - u)
theorem col_bits : ∀ n < 8, ∀ u < n, ∀ k < 2 ^ n, (colN n u).testBit k = k.testBit (n - 1 - u) := by decide +kernel
theorem col_lt : ∀ n < 8, ∀ u < n, colN n u < 2 ^ (2 ^ n) := by decide +kernel
end DL
/-! PB4: operations on bits. -/
namespace DL
open PySem L2 FL
theorem nat_xor_and : ∀ (n a b : Nat), a < 2 ^ n → b < 2 ^ n → (a ^^^ b) + 2 * (a &&& b) = a + b
  | 0, a, b, ha, hb => by
    have h1 : a = 0 := by simpa using ha
    have h2 : b = 0 := by simpa using hb
    subst h1 h2
    rfl
  | n + 1, a, b, ha, hb => by
    have ih := nat_xor_and n (a / 2) (b / 2) (by rw [Nat.pow_succ] at ha; omega) (by rw [Nat.pow_succ] at hb; omega)
    have h1 : (a ^^^ b) / 2 = a / 2 ^^^ b / 2 := Nat.xor_div_two
    have h2 : (a &&& b) / 2 = a / 2 &&& b / 2 := Nat.and_div_two
    have h3 : (a ^^^ b) % 2 = 1 ↔ ¬(a % 2 = 1 ↔ b % 2 = 1) := Nat.xor_mod_two_eq_one
    have h4 : (a &&& b) % 2 = 1 ↔ a % 2 = 1 ∧ b % 2 = 1 := Nat.and_mod_two_eq_one
    rw [← h1, ← h2] at ih
    omega
theorem and_nn (a b : Nat) : Builtin.bitAnd (a : Int) (b : Int) = ((a &&& b : Nat) : Int) := PySem.W.os_band a b
theorem xor_nn (a b : Nat) : Builtin.bitXor (a : Int) (b : Int) = ((a ^^^ b : Nat) : Int) := by
  rw [PyProof.Rows.bitXor_and, and_nn]
  have hp : ∀ x : Nat, x < 2 ^ (a + b + 1) ↔ x < 2 ^ (a + b + 1) := fun _ => Iff.rfl
  have ha : a < 2 ^ (a + b + 1) := Nat.lt_of_lt_of_le Nat.lt_two_pow_self (Nat.pow_le_pow_right (by decide) (by omega))
  have hb : b < 2 ^ (a + b + 1) := Nat.lt_of_lt_of_le Nat.lt_two_pow_self (Nat.pow_le_pow_right (by decide) (by omega))
  have := nat_xor_and (a + b + 1) a b ha hb
  omega
theorem or_nn (a b : Nat) : Builtin.bitOr (a : Int) (b : Int) = ((a ||| b : Nat) : Int) := by
  rw [bitOr_nn (by omega) (by omega), Int.toNat_natCast, Int.toNat_natCast]
theorem xorD_nn (a b : Nat) : xorD (.int (a : Int)) (.int (b : Int)) = some (.int ((a ^^^ b : Nat) : Int)) := by
  show some (PyData.int (Builtin.bitXor (a : Int) (b : Int))) = _
  rw [xor_nn]
theorem andD_nn (a b : Nat) : andD (.int (a : Int)) (.int (b : Int)) = some (.int ((a &&& b : Nat) : Int)) := by
  show some (PyData.int (Builtin.bitAnd (a : Int) (b : Int))) = _
  rw [and_nn]
theorem orD_nn (a b : Nat) : orD (.int (a : Int)) (.int (b : Int)) = some (.int ((a ||| b : Nat) : Int)) := by
  show some (PyData.int (Builtin.bitOr (a : Int) (b : Int))) = _
  rw [or_nn]
theorem shr_nn (a h : Nat) : shrD (.int (a : Int)) (.int (h : Int)) = some (.int ((a >>> h : Nat) : Int)) := by
  show ((if 0 ≤ (h : Int) then some ((a : Int) / 2 ^ (h : Int).toNat) else none).map PyData.int) = _
  rw [if_pos (by omega), Int.toNat_natCast, Nat.shiftRight_eq_div_pow]
  simp
/-- mask >> at & 1 == 1 -/
theorem bit_test (a h : Nat) : ∃ c, andD (.int ((a >>> h : Nat) : Int)) (.int 1) = some (.int c) ∧ eqD (.int c) (.int 1) = some (.bool (a.testBit h)) := by
  refine ⟨_, andD_nn (a >>> h) 1, ?_⟩
  rw [eqD_int]
  congr 2
  have : (a >>> h &&& 1) = (a.testBit h).toNat := by
    rw [Nat.testBit, Nat.and_comm]
    have := Nat.one_and_eq_mod_two (a >>> h)
    rw [this]
    rcases Nat.mod_two_eq_zero_or_one (a >>> h) with w | w <;> rw [w] <;> rfl
  rw [this]
  cases a.testBit h <;> rfl
theorem shl_one {u : Nat} (h : u ≤ 1000) : shlX (.int 1) (.int (u : Int)) = some (.int ((2 ^ u : Nat) : Int)) := by
  show ((if 0 ≤ (u : Int) ∧ (Builtin.Int.intBits 1 : Int) + (u : Int) ≤ 2 ^ 27 then some ((1 : Int) * 2 ^ (u : Int).toNat) else none).map PyData.int) = _
  rw [if_pos ⟨by omega, by have : Builtin.Int.intBits 1 = 1 := by decide
                           rw [this]; omega⟩, Int.toNat_natCast]
  simp
theorem dotN_fold (m : Nat) (x : Pt) : ∀ k, dotN k m x = ((List.range k).filter fun i => m.testBit i).foldl (fun b u => b ^^ x u) false
  | 0 => rfl
  | k + 1 => by
    rw [List.range_succ, List.filter_append, List.foldl_append, ← dotN_fold m x k]
    show (dotN k m x ^^ (m.testBit k && x k)) = _
    cases e : m.testBit k with
    | true => simp [List.filter_cons, e]
    | false => simp [List.filter_cons, e]
theorem dot_fold (m : Nat) (x : Pt) : dot m x = (bitsOf m).foldl (fun b u => b ^^ x u) false := dotN_fold m x 16
/-- the least unknown, by the law's own way -/
theorem low_bit {m : Nat} (h0 : m ≠ 0) (h1 : m < 2 ^ 16) : Builtin.bitAnd (m : Int) (-(m : Int)) = ((2 ^ hd m : Nat) : Int) := by
  obtain ⟨a, b, c⟩ := hd_some h0 h1
  have hm : m = 2 ^ hd m * (2 * (m / 2 ^ hd m / 2) + 1) := by
    have e1 : m % 2 ^ hd m = 0 := by
      refine Nat.eq_of_testBit_eq fun i => ?_
      rw [Nat.testBit_mod_two_pow, Nat.zero_testBit]
      by_cases w : i < hd m
      · rw [c i w]; simp
      · simp [w]
    have e2 : m / 2 ^ hd m % 2 = 1 := by
      rw [Nat.testBit_eq_decide_div_mod_eq] at a
      simpa using a
    have e3 := Nat.div_add_mod m (2 ^ hd m)
    have e4 : m / 2 ^ hd m = 2 * (m / 2 ^ hd m / 2) + 1 := by omega
    rw [e1, Nat.add_zero] at e3
    rw [← e4]
    exact e3.symm
  have := PySem.W.kbt_low (hd m) ((m / 2 ^ hd m / 2 : Nat) : Int)
  have e : (m : Int) = 2 ^ hd m * (2 * ((m / 2 ^ hd m / 2 : Nat) : Int) + 1) := by
    have := congrArg (fun z : Nat => (z : Int)) hm
    simpa using this
  rw [← e] at this
  rw [this]
  simp
theorem bits_pow (k : Nat) : Builtin.Int.intBits ((2 ^ k : Nat) : Int) = k + 1 := by
  unfold Builtin.Int.intBits
  have h : (2 : Nat) ^ k ≠ 0 := Nat.pos_iff_ne_zero.mp (Nat.two_pow_pos k)
  rw [if_neg (fun z => h (by have : ((2 ^ k : Nat) : Int) = 0 := by simpa using z
                             omega)), Int.natAbs_natCast, Nat.log2_two_pow]
end DL
/-! PB5: numbers of bits at which lines hold. -/
namespace DL
open PySem L2 FL
theorem or_fold (i : Nat) : ∀ (l : List Nat) (f : Nat), (l.foldl (fun f u => f ||| 2 ^ u) f).testBit i = (f.testBit i || decide (i ∈ l))
  | [], f => by simp
  | u :: l, f => by
    rw [List.foldl_cons, or_fold i l, Nat.testBit_or, Nat.testBit_two_pow]
    by_cases e : u = i
    · subst e; simp
    · have : ¬ i = u := fun z => e z.symm
      simp [e, this]
theorem or_bits {m : Nat} (h : m < 2 ^ 16) : (bitsOf m).foldl (fun f u => f ||| 2 ^ u) 0 = m := by
  refine Nat.eq_of_testBit_eq fun i => ?_
  rw [or_fold, Nat.zero_testBit, Bool.false_or, Bool.eq_iff_iff, decide_eq_true_eq, mem_bits]
  exact ⟨fun h => h.2, fun hb => ⟨bit_lt h hb, hb⟩⟩
theorem bits_range {m : Nat} (h : m < 2 ^ 16) : (List.range (Builtin.Int.intBits (m : Int))).filter (fun i => m.testBit i) = bitsOf m ∧ Builtin.Int.intBits (m : Int) ≤ 16 := by
  have hn : Builtin.Int.intBits (m : Int) ≤ 16 ∧ m < 2 ^ Builtin.Int.intBits (m : Int) := by
    unfold Builtin.Int.intBits
    by_cases e : m = 0
    · subst e; exact ⟨by decide, by decide⟩
    · rw [if_neg (fun z => e (by have : ((m : Nat) : Int) = 0 := by simpa using z
                                 omega)), Int.natAbs_natCast]
      exact ⟨by have := (Nat.log2_lt e).mpr h; omega, Nat.lt_log2_self⟩
  refine ⟨?_, hn.1⟩
  unfold bitsOf
  obtain ⟨k, hk⟩ := Nat.exists_eq_add_of_le hn.1
  rw [hk, List.range_add, List.filter_append]
  rw [show (List.map (fun x => Builtin.Int.intBits (m : Int) + x) (List.range k)).filter (fun i => m.testBit i) = [] from List.filter_eq_nil_iff.mpr fun i hi => by
    obtain ⟨j, _, rfl⟩ := List.mem_map.mp hi
    rw [Nat.testBit_lt_two_pow (Nat.lt_of_lt_of_le hn.2 (Nat.pow_le_pow_right (by decide) (Nat.le_add_right _ _)))]
    decide]
  rw [List.append_nil]
def colX (n m : Nat) : Nat := (bitsOf m).foldl (fun f u => f ^^^ colN n u) 0
def fullN (n : Nat) : Nat := 2 ^ (2 ^ n) - 1
def heldN (n : Nat) (l : Ln) : Nat := if l.2 = true then colX n l.1 else fullN n ^^^ colX n l.1
def inN (n : Nat) (F : List Ln) : Nat := F.foldl (fun f l => f &&& heldN n l) (fullN n)
theorem bits_below {n m : Nat} (h : m < 2 ^ n) : ∀ u ∈ bitsOf m, u < n := fun u hu => by
  rcases Nat.lt_or_ge u n with c | c
  · exact c
  · have := (mem_bits.mp hu).2
    rw [Nat.testBit_lt_two_pow (Nat.lt_of_lt_of_le h (Nat.pow_le_pow_right (by decide) c))] at this
    cases this
theorem colX_bits {n : Nat} (hn : n < 8) {k : Nat} (hk : k < 2 ^ n) : ∀ (l : List Nat) (f : Nat) (b : Bool), (∀ u ∈ l, u < n) → f.testBit k = b → (l.foldl (fun f u => f ^^^ colN n u) f).testBit k = l.foldl (fun b u => b ^^ ptN n k u) b
  | [], f, b, _, h => h
  | u :: l, f, b, q, h => by
    rw [List.foldl_cons, List.foldl_cons]
    exact colX_bits hn hk l _ _ (fun v hv => q v (List.mem_cons_of_mem _ hv)) (by rw [Nat.testBit_xor, h, col_bits n hn u (q u (List.mem_cons_self ..)) k hk]; rfl)
theorem colX_lt {n : Nat} (hn : n < 8) : ∀ (l : List Nat) (f : Nat), (∀ u ∈ l, u < n) → f < 2 ^ (2 ^ n) → l.foldl (fun f u => f ^^^ colN n u) f < 2 ^ (2 ^ n)
  | [], f, _, h => h
  | u :: l, f, q, h => colX_lt hn l _ (fun v hv => q v (List.mem_cons_of_mem _ hv)) (Nat.xor_lt_two_pow h (col_lt n hn u (q u (List.mem_cons_self ..))))
theorem full_bit {n k : Nat} : (fullN n).testBit k = decide (k < 2 ^ n) := Nat.testBit_two_pow_sub_one ..
theorem held_bit {n : Nat} (hn : n < 8) {l : Ln} (hl : l.1 < 2 ^ n) {k : Nat} (hk : k < 2 ^ n) : (heldN n l).testBit k = decide (dot l.1 (ptN n k) = l.2) := by
  have h := colX_bits hn hk (bitsOf l.1) 0 false (bits_below hl) (Nat.zero_testBit _)
  rw [← dot_fold] at h
  unfold heldN
  cases e : l.2 with
  | true => rw [if_pos rfl]; show (colX n l.1).testBit k = _; unfold colX; rw [h]; cases dot l.1 (ptN n k) <;> rfl
  | false =>
    rw [if_neg (by decide), Nat.testBit_xor, full_bit]
    unfold colX
    rw [h]
    simp only [hk, decide_true]
    cases dot l.1 (ptN n k) <;> rfl
theorem held_lt {n : Nat} (hn : n < 8) {l : Ln} (hl : l.1 < 2 ^ n) : heldN n l < 2 ^ (2 ^ n) := by
  have h : colX n l.1 < 2 ^ (2 ^ n) := colX_lt hn (bitsOf l.1) 0 (bits_below hl) (Nat.two_pow_pos _)
  unfold heldN
  split
  · exact h
  · exact Nat.xor_lt_two_pow (by unfold fullN; have := Nat.two_pow_pos (2 ^ n); omega) h
theorem in_bits {n : Nat} (hn : n < 8) {k : Nat} (hk : k < 2 ^ n) : ∀ (F : List Ln) (f : Nat), (∀ l ∈ F, l.1 < 2 ^ n) → (F.foldl (fun f l => f &&& heldN n l) f).testBit k = (f.testBit k && F.all fun l => decide (dot l.1 (ptN n k) = l.2))
  | [], f, _ => by simp
  | l :: F, f, h => by
    rw [List.foldl_cons, in_bits hn hk F _ (fun j hj => h j (List.mem_cons_of_mem _ hj)), Nat.testBit_and, held_bit hn (h l (List.mem_cons_self ..)) hk, List.all_cons, Bool.and_assoc]
theorem in_bit {n : Nat} (hn : n < 8) {F : List Ln} (hF : ∀ l ∈ F, l.1 < 2 ^ n) {k : Nat} (hk : k < 2 ^ n) : (inN n F).testBit k = true ↔ Holds F (ptN n k) := by
  unfold inN
  rw [in_bits hn hk F _ hF, full_bit]
  simp only [hk, decide_true, Bool.true_and, List.all_eq_true, decide_eq_true_eq]
  exact Iff.rfl
theorem and_le {n : Nat} : ∀ (F : List Ln) (f : Nat), f < 2 ^ (2 ^ n) → F.foldl (fun f l => f &&& heldN n l) f < 2 ^ (2 ^ n)
  | [], f, h => h
  | l :: F, f, h => and_le F _ (Nat.lt_of_le_of_lt Nat.and_le_left h)
theorem in_lt {n : Nat} {F : List Ln} : inN n F < 2 ^ (2 ^ n) := and_le F _ (by unfold fullN; have := Nat.two_pow_pos (2 ^ n); omega)
/-- every point is a number of bits -/
theorem pt_of {n : Nat} (hn : n < 8) (x : Pt) : ∃ k, k < 2 ^ n ∧ ∀ m, m < 2 ^ n → dot m (ptN n k) = dot m x := by
  have key : ∀ j, j ≤ n → ∃ k, k < 2 ^ j ∧ ∀ i, i < j → k.testBit i = x (n - 1 - i) := by
    intro j
    induction j with
    | zero => intro _; exact ⟨0, by decide, fun i hi => absurd hi (by omega)⟩
    | succ j ih =>
      intro hj
      obtain ⟨k, hk, h⟩ := ih (by omega)
      cases e : x (n - 1 - j) with
      | false =>
        refine ⟨k, by rw [Nat.pow_succ]; omega, fun i hi => ?_⟩
        by_cases w : i = j
        · subst w; rw [e, Nat.testBit_lt_two_pow hk]
        · exact h i (by omega)
      | true =>
        refine ⟨2 ^ j + k, by rw [Nat.pow_succ]; omega, fun i hi => ?_⟩
        by_cases w : i = j
        · subst w; rw [e, Nat.testBit_two_pow_add_eq, Nat.testBit_lt_two_pow hk]; rfl
        · rw [Nat.testBit_two_pow_add_gt (by omega)]; exact h i (by omega)
  obtain ⟨k, hk, h⟩ := key n (Nat.le_refl _)
  refine ⟨k, hk, fun m hm => dot_congr fun i hi hb => ?_⟩
  have hin : i < n := by
    rcases Nat.lt_or_ge i n with c | c
    · exact c
    · rw [Nat.testBit_lt_two_pow (Nat.lt_of_lt_of_le hm (Nat.pow_le_pow_right (by decide) c))] at hb; cases hb
  show k.testBit (n - 1 - i) = x i
  rw [h _ (by omega)]
  congr 1
  omega
theorem bit_test3 (a h : Nat) : ∃ b c, shrD (.int (a : Int)) (.int (h : Int)) = some (.int b) ∧ andD (.int b) (.int 1) = some (.int c) ∧ eqD (.int c) (.int 1) = some (.bool (a.testBit h)) := by
  obtain ⟨c, h1, h2⟩ := bit_test a h
  exact ⟨_, c, shr_nn a h, h1, h2⟩
end DL
/-! PB6: all rows beside a flat; one flat in two, by numbers of bits. -/
namespace DL
open PySem L2 FL
def freeN (n : Nat) (F : List Ln) : List Nat := (List.range n).filter fun u => !decide (u ∈ F.map fun l => hd l.1)
def masksN (fr : List Nat) : List Nat := fr.foldl (fun ms u => ms ++ ms.map fun m => m ||| 2 ^ u) [0]
structure Msk (P : List Nat) (ms : List Nat) : Prop where
  nod : ms.Nodup
  mem : ∀ m, m ∈ ms ↔ ∀ i, m.testBit i = true → i ∈ P
  fst : ∃ t, ms = 0 :: t
  len : ms.length = 2 ^ P.length
theorem Msk.step {P ms : List Nat} (h : Msk P ms) {u : Nat} (hu : u ∉ P) : Msk (P ++ [u]) (ms ++ ms.map fun m => m ||| 2 ^ u) := by
  have nb : ∀ m ∈ ms, m.testBit u = false := fun m hm => by
    cases e : m.testBit u with
    | false => rfl
    | true => exact absurd ((h.mem m).mp hm u e) hu
  have bit : ∀ m i : Nat, (m ||| 2 ^ u).testBit i = (m.testBit i || decide (u = i)) := fun m i => by rw [Nat.testBit_or, Nat.testBit_two_pow]
  refine ⟨?_, fun m => ?_, ?_, ?_⟩
  · refine List.nodup_append.mpr ⟨h.nod, ?_, fun a ha b hb e => ?_⟩
    · refine List.pairwise_map.mpr (List.Pairwise.imp_of_mem (fun {a b} ha hb hne e => hne ?_) h.nod)
      refine Nat.eq_of_testBit_eq fun i => ?_
      have := congrArg (fun z => z.testBit i) e
      simp only [bit] at this
      by_cases w : u = i
      · subst w; rw [nb a ha, nb b hb]
      · simpa [w] using this
    · obtain ⟨c, _, rfl⟩ := List.mem_map.mp hb
      have h1 := nb a ha
      rw [e, bit] at h1
      simp at h1
  · rw [List.mem_append, List.mem_map]
    constructor
    · intro hm i hi
      rw [List.mem_append, List.mem_singleton]
      rcases hm with hm | ⟨c, hc, rfl⟩
      · exact .inl ((h.mem m).mp hm i hi)
      · rw [bit] at hi
        rcases Bool.or_eq_true_iff.mp hi with w | w
        · exact .inl ((h.mem c).mp hc i w)
        · exact .inr (of_decide_eq_true w).symm
    · intro hm
      cases e : m.testBit u with
      | false =>
        refine .inl ((h.mem m).mpr fun i hi => ?_)
        rcases List.mem_append.mp (hm i hi) with w | w
        · exact w
        · rw [List.mem_singleton.mp w, e] at hi; cases hi
      | true =>
        refine .inr ⟨m ^^^ 2 ^ u, (h.mem _).mpr fun i hi => ?_, ?_⟩
        · rw [Nat.testBit_xor, Nat.testBit_two_pow] at hi
          by_cases w : u = i
          · subst w; rw [e] at hi; simp at hi
          · rw [decide_eq_false w, Bool.xor_false] at hi
            rcases List.mem_append.mp (hm i hi) with z | z
            · exact z
            · exact absurd (List.mem_singleton.mp z).symm w
        · refine Nat.eq_of_testBit_eq fun i => ?_
          rw [bit, Nat.testBit_xor, Nat.testBit_two_pow]
          by_cases w : u = i
          · subst w; rw [e]; simp
          · simp [w]
  · obtain ⟨t, rfl⟩ := h.fst
    exact ⟨_, rfl⟩
  · rw [List.length_append, List.length_map, h.len, List.length_append, List.length_singleton, Nat.pow_succ]
    omega
theorem msk_fold : ∀ (fr P ms : List Nat), (P ++ fr).Nodup → Msk P ms → Msk (P ++ fr) (fr.foldl (fun ms u => ms ++ ms.map fun m => m ||| 2 ^ u) ms)
  | [], P, ms, _, h => by rw [List.append_nil]; exact h
  | u :: fr, P, ms, nd, h => by
    have hu : u ∉ P := fun z => (List.nodup_append.mp nd).2.2 u z u (List.mem_cons_self ..) rfl
    have := msk_fold fr (P ++ [u]) _ (by rw [List.append_assoc]; exact nd) (h.step hu)
    rw [List.append_assoc] at this
    exact this
theorem masks_ok {fr : List Nat} (nd : fr.Nodup) : Msk fr (masksN fr) := by
  have := msk_fold fr [] [0] nd ⟨by simp, fun m => ⟨fun h i hi => (by rw [List.mem_singleton.mp h, Nat.zero_testBit] at hi; cases hi), fun h => by
    rw [List.mem_singleton]
    exact Nat.eq_of_testBit_eq fun i => by
      rw [Nat.zero_testBit]
      cases e : m.testBit i with
      | false => rfl
      | true => exact absurd (h i e) (by simp)⟩, ⟨[], rfl⟩, rfl⟩
  exact this
theorem free_nodup (n : Nat) (F : List Ln) : (freeN n F).Nodup := (List.nodup_range).filter _
theorem free_mem {n : Nat} {F : List Ln} {u : Nat} : u ∈ freeN n F ↔ u < n ∧ ∀ l ∈ F, hd l.1 ≠ u := by
  unfold freeN
  rw [List.mem_filter, List.mem_range]
  simp only [Bool.not_eq_true', decide_eq_false_iff_not, List.mem_map, not_exists, not_and]
def besideN (n : Nat) (F : List Ln) : List Nat := (masksN (freeN n F)).tail
theorem beside_mem {n : Nat} (hn : n < 8) {F : List Ln} {m : Nat} : m ∈ besideN n F ↔ m ≠ 0 ∧ m < 2 ^ n ∧ ∀ l ∈ F, m.testBit (hd l.1) = false := by
  have k := masks_ok (free_nodup n F)
  obtain ⟨t, ht⟩ := k.fst
  have nd := k.nod
  unfold besideN
  rw [ht, List.tail_cons]
  rw [ht, List.nodup_cons] at nd
  have hm : m ∈ t ↔ m ≠ 0 ∧ m ∈ masksN (freeN n F) := by
    rw [ht, List.mem_cons]
    constructor
    · intro h; exact ⟨fun z => nd.1 (by rw [← z]; exact h), .inr h⟩
    · intro ⟨h1, h2⟩; exact h2.resolve_left h1
  rw [hm, k.mem]
  refine and_congr_right fun _ => ?_
  constructor
  · intro h
    refine ⟨?_, fun l hl => ?_⟩
    · by_cases c : m < 2 ^ n
      · exact c
      · exfalso
        obtain ⟨i, hi, hb⟩ := Nat.exists_ge_and_testBit_of_ge_two_pow (Nat.le_of_not_lt c)
        have := (free_mem.mp (h i hb)).1
        omega
    · cases e : m.testBit (hd l.1) with
      | false => rfl
      | true => exact absurd rfl ((free_mem.mp (h _ e)).2 l hl)
  · intro ⟨h1, h2⟩ i hi
    refine free_mem.mpr ⟨?_, fun l hl z => ?_⟩
    · rcases Nat.lt_or_ge i n with c | c
      · exact c
      · rw [Nat.testBit_lt_two_pow (Nat.lt_of_lt_of_le h1 (Nat.pow_le_pow_right (by decide) c))] at hi; cases hi
    · rw [← z, h2 l hl] at hi; cases hi
theorem beside_nodup (n : Nat) (F : List Ln) : (besideN n F).Nodup := by
  have k := masks_ok (free_nodup n F)
  obtain ⟨t, ht⟩ := k.fst
  have nd := k.nod
  unfold besideN
  rw [ht] at nd ⊢
  exact (List.nodup_cons.mp nd).2
/-- bits within bits -/
theorem sub_iff {a b : Nat} : a &&& b = a ↔ ∀ k, a.testBit k = true → b.testBit k = true := by
  constructor
  · intro h k hk
    have := congrArg (fun z => z.testBit k) h
    simp only [Nat.testBit_and, hk, Bool.true_and] at this
    exact this
  · intro h
    refine Nat.eq_of_testBit_eq fun k => ?_
    rw [Nat.testBit_and]
    cases e : a.testBit k with
    | false => rfl
    | true => rw [h k e]; rfl
theorem in_out {n : Nat} {F : List Ln} {k : Nat} (h : (inN n F).testBit k = true) : k < 2 ^ n := by
  rcases Nat.lt_or_ge k (2 ^ n) with c | c
  · exact c
  · rw [Nat.testBit_lt_two_pow (Nat.lt_of_lt_of_le in_lt (Nat.pow_le_pow_right (by decide) c))] at h; cases h
structure Fl (n : Nat) (F : List Ln) : Prop where
  rr : Rr F
  lt : ∀ l ∈ F, l.1 < 2 ^ n
theorem holds_pt {n : Nat} (hn : n < 8) (x : Pt) : ∃ k, k < 2 ^ n ∧ (∀ F : List Ln, (∀ l ∈ F, l.1 < 2 ^ n) → (Holds F (ptN n k) ↔ Holds F x)) ∧ ∀ m, m < 2 ^ n → dot m (ptN n k) = dot m x := by
  obtain ⟨k, hk, h⟩ := pt_of hn x
  exact ⟨k, hk, fun F hF => ⟨fun q l hl => (h l.1 (hF l hl)).symm.trans (q l hl), fun q l hl => (h l.1 (hF l hl)).trans (q l hl)⟩, h⟩
theorem sub_in {n : Nat} (hn : n < 8) {F A : List Ln} (hF : ∀ l ∈ F, l.1 < 2 ^ n) (hA : ∀ l ∈ A, l.1 < 2 ^ n) : inN n F &&& inN n A = inN n F ↔ ∀ x, Holds F x → Holds A x := by
  rw [sub_iff]
  constructor
  · intro h x hx
    obtain ⟨k, hk, e, _⟩ := holds_pt hn x
    exact (e A hA).mp ((in_bit hn hA hk).mp (h k ((in_bit hn hF hk).mpr ((e F hF).mpr hx))))
  · intro h k hk
    have k' := in_out hk
    exact (in_bit hn hA k').mpr (h _ ((in_bit hn hF k').mp hk))
theorem sub_or {n : Nat} (hn : n < 8) {F A B : List Ln} (hF : ∀ l ∈ F, l.1 < 2 ^ n) (hA : ∀ l ∈ A, l.1 < 2 ^ n) (hB : ∀ l ∈ B, l.1 < 2 ^ n) : inN n F &&& (inN n A ||| inN n B) = inN n F ↔ ∀ x, Holds F x → Holds A x ∨ Holds B x := by
  rw [sub_iff]
  constructor
  · intro h x hx
    obtain ⟨k, hk, e, _⟩ := holds_pt hn x
    have := h k ((in_bit hn hF hk).mpr ((e F hF).mpr hx))
    rw [Nat.testBit_or] at this
    rcases Bool.or_eq_true_iff.mp this with w | w
    · exact .inl ((e A hA).mp ((in_bit hn hA hk).mp w))
    · exact .inr ((e B hB).mp ((in_bit hn hB hk).mp w))
  · intro h k hk
    have k' := in_out hk
    rw [Nat.testBit_or, Bool.or_eq_true_iff]
    exact (h _ ((in_bit hn hF k').mp hk)).imp (in_bit hn hA k').mpr (in_bit hn hB k').mpr
theorem sub_half {n : Nat} (hn : n < 8) {F A : List Ln} (hF : ∀ l ∈ F, l.1 < 2 ^ n) (hA : ∀ l ∈ A, l.1 < 2 ^ n) {m : Nat} {b : Bool} (hm : m < 2 ^ n) :
    inN n F &&& heldN n (m, b) &&& inN n A = inN n F &&& heldN n (m, b) ↔ ∀ x, Holds F x → dot m x = b → Holds A x := by
  rw [sub_iff]
  constructor
  · intro h x hx hd
    obtain ⟨k, hk, e, d⟩ := holds_pt hn x
    refine (e A hA).mp ((in_bit hn hA hk).mp (h k ?_))
    rw [Nat.testBit_and, (in_bit hn hF hk).mpr ((e F hF).mpr hx), held_bit hn hm hk, d m hm, hd]
    simp
  · intro h k hk
    rw [Nat.testBit_and, Bool.and_eq_true_iff] at hk
    have k' := in_out hk.1
    have h2 := hk.2
    rw [held_bit hn hm k', decide_eq_true_eq] at h2
    exact (in_bit hn hA k').mpr (h _ ((in_bit hn hF k').mp hk.1) h2)
/-- a row cuts so, by numbers of bits -/
def cutsB (here mine its h0 h1 : Nat) : Bool := decide (h0 &&& mine = h0) && decide (h1 &&& its = h1)
def cutsN (n : Nat) (F A B : List Ln) (m : Nat) : Bool :=
  cutsB (inN n F) (inN n A) (inN n B) (inN n F &&& heldN n (m, false)) (inN n F &&& heldN n (m, true)) || cutsB (inN n F) (inN n A) (inN n B) (inN n F &&& heldN n (m, true)) (inN n F &&& heldN n (m, false))
theorem cuts_iff {n : Nat} (hn : n < 8) {F A B : List Ln} (hF : ∀ l ∈ F, l.1 < 2 ^ n) (hA : ∀ l ∈ A, l.1 < 2 ^ n) (hB : ∀ l ∈ B, l.1 < 2 ^ n) {m : Nat} (hm : m < 2 ^ n) :
    cutsN n F A B m = true ↔ ∃ v : Bool, (∀ x, Holds F x → dot m x = v → Holds A x) ∧ (∀ x, Holds F x → dot m x = !v → Holds B x) := by
  unfold cutsN cutsB
  rw [Bool.or_eq_true_iff, Bool.and_eq_true_iff, Bool.and_eq_true_iff, decide_eq_true_eq, decide_eq_true_eq, decide_eq_true_eq, decide_eq_true_eq, sub_half hn hF hA hm, sub_half hn hF hB hm, sub_half hn hF hA hm, sub_half hn hF hB hm]
  constructor
  · rintro (h | h)
    · exact ⟨false, h⟩
    · exact ⟨true, h⟩
  · rintro ⟨v, h⟩
    cases v with
    | false => exact .inl h
    | true => exact .inr h
theorem filter_one {l : List Nat} (nd : l.Nodup) {r : Nat} (hr : r ∈ l) {p : Nat → Bool} (h : ∀ m ∈ l, p m = true ↔ m = r) : l.filter p = [r] := by
  induction l with
  | nil => cases hr
  | cons a l ih =>
    rw [List.nodup_cons] at nd
    rw [List.filter_cons]
    by_cases e : a = r
    · subst e
      rw [if_pos ((h a (List.mem_cons_self ..)).mpr rfl)]
      congr 1
      refine List.filter_eq_nil_iff.mpr fun m hm hp => ?_
      have := (h m (List.mem_cons_of_mem _ hm)).mp hp
      rw [this] at hm
      exact nd.1 hm
    · rw [if_neg (fun z => e ((h a (List.mem_cons_self ..)).mp z))]
      exact ih nd.2 ((List.mem_cons.mp hr).resolve_left fun z => e z.symm) fun m hm => h m (List.mem_cons_of_mem _ hm)
end DL
/-! PB7: rows stay within the unknowns. -/
namespace DL
open PySem L2 FL
theorem led_ltn {n : Nat} : ∀ {F : List Ln} {m : Nat} {w : Bool}, (∀ l ∈ F, l.1 < 2 ^ n) → m < 2 ^ n → (led F m w).1 < 2 ^ n
  | [], _, _, _, h => h
  | l :: F, m, w, q, h => by
    have q' : ∀ k ∈ F, k.1 < 2 ^ n := fun k hk => q k (List.mem_cons_of_mem _ hk)
    unfold led
    split
    · exact led_ltn q' (Nat.xor_lt_two_pow h (q l (List.mem_cons_self ..)))
    · exact led_ltn q' h
theorem put1_ltn {n : Nat} {F : List Ln} {m : Nat} {b : Bool} (hF : ∀ l ∈ F, l.1 < 2 ^ n) (hm : m < 2 ^ n) : ∀ l ∈ put1 F m b, l.1 < 2 ^ n := fun l hl => by
  rcases List.mem_cons.mp hl with rfl | hl
  · exact hm
  · obtain ⟨k, hk, rfl⟩ := List.mem_map.mp hl
    split
    · exact Nat.xor_lt_two_pow (hF k hk) hm
    · exact hF k hk
theorem putIn_ltn {n : Nat} {F G : List Ln} {m : Nat} {b : Bool} (hF : ∀ l ∈ F, l.1 < 2 ^ n) (hm : m < 2 ^ n) (p : PutIn F m b (some G)) : ∀ l ∈ G, l.1 < 2 ^ n := by
  cases p with
  | same _ _ => exact hF
  | more _ h => exact fun l hl => put1_ltn hF (led_ltn hF hm) l (h.mem_iff.mp hl)
theorem meet_ltn {n : Nat} {F A : List Ln} {o : Option (List Ln)} (p : Meet F A o) : (∀ l ∈ F, l.1 < 2 ^ n) → (∀ l ∈ A, l.1 < 2 ^ n) → ∀ G, o = some G → ∀ l ∈ G, l.1 < 2 ^ n := by
  induction p with
  | nil => intro hF _ G e; cases e; exact hF
  | stop _ => intro _ _ G e; cases e
  | go h _ ih => intro hF hA; exact ih (putIn_ltn hF (hA _ (List.mem_cons_self ..)) h) fun k hk => hA k (List.mem_cons_of_mem _ hk)
theorem newRow_ltn {n : Nat} {F f : List Ln} (hF : ∀ l ∈ F, l.1 < 2 ^ n) (hf : ∀ l ∈ f, l.1 < 2 ^ n) : newRow F f < 2 ^ n := by
  rcases newRow_spec F f with ⟨e, _⟩ | ⟨l, hl, e, _⟩
  · rw [e]; exact Nat.two_pow_pos n
  · rw [e]; exact led_ltn hF (hf l hl)
end DL
/-! PB8: a dict of heads. -/
namespace DL
open PySem L2 FL
def entD (l : Ln) : PyData := .tuple [.int (l.1 : Nat), bitD l.2]
def dictK (G : List Ln) : List (PyData × PyData) := G.map fun l => (PyData.int (hd l.1 : Nat), entD l)
def dictD (G : List Ln) : PyData := .dict (dictK G)
theorem dict_get {G : List Ln} : (G.map fun l => hd l.1).Nodup → ∀ l ∈ G, getK (dictK G) (.inl (hd l.1 : Nat)) = some (entD l) := by
  induction G with
  | nil => intro _ l h; cases h
  | cons k G ih =>
    intro nd l hl
    rw [List.map_cons, List.nodup_cons] at nd
    show (if keyD (.int (hd k.1 : Nat)) = some (.inl (hd l.1 : Nat)) then some (entD k) else getK (dictK G) (.inl (hd l.1 : Nat))) = _
    rcases List.mem_cons.mp hl with rfl | hl
    · rw [if_pos (by rfl)]
    · rw [if_neg (fun z => ?_)]
      · exact ih nd.2 l hl
      · have z' : ((hd k.1 : Nat) : Int) = ((hd l.1 : Nat) : Int) := by
          have : (Sum.inl ((hd k.1 : Nat) : Int) : Key) = Sum.inl ((hd l.1 : Nat) : Int) := Option.some.inj z
          exact Sum.inl.inj this
        exact nd.1 (List.mem_map.mpr ⟨l, hl, by omega⟩)
theorem dict_not {G : List Ln} {h : Nat} : (∀ l ∈ G, hd l.1 ≠ h) → getK (dictK G) (.inl (h : Nat)) = none := by
  induction G with
  | nil => intro _; rfl
  | cons k G ih =>
    intro nd
    show (if keyD (.int (hd k.1 : Nat)) = some (.inl (h : Nat)) then some (entD k) else getK (dictK G) (.inl (h : Nat))) = _
    rw [if_neg (fun z => ?_)]
    · exact ih fun l hl => nd l (List.mem_cons_of_mem _ hl)
    · have : (Sum.inl ((hd k.1 : Nat) : Int) : Key) = Sum.inl ((h : Nat) : Int) := Option.some.inj z
      have := Sum.inl.inj this
      exact nd k (List.mem_cons_self ..) (by omega)
theorem ix_dict {G : List Ln} (nd : (G.map fun l => hd l.1).Nodup) {l : Ln} (hl : l ∈ G) : ixX (dictD G) (.int (hd l.1 : Nat)) = some (entD l) := by
  show (keyD (.int (hd l.1 : Nat))).bind (getK (dictK G)) = _
  exact dict_get nd l hl
theorem ix_ent0 (l : Ln) : ixX (entD l) (.int 0) = some (.int (l.1 : Nat)) := ixX_t0 _ _
theorem ix_ent1 (l : Ln) : ixX (entD l) (.int 1) = some (bitD l.2) := ixX_t1 _ _ _
theorem set_dict {G : List Ln} (hn : G.length < 16777216) {l l2 : Ln} (hl : l ∈ G) (nd : (G.map fun l => hd l.1).Nodup) (he : hd l2.1 = hd l.1) : setXD (dictD G) (.int (hd l.1 : Nat)) (entD l2) = some (dictD (G.map fun k => if hd k.1 = hd l.1 then l2 else k)) := by
  show (if (dictK G).length < 16777216 then some (PyData.dict (putD (dictK G) (.inl (hd l.1 : Nat)) (entD l2))) else none) = _
  rw [if_pos (by unfold dictK; rw [List.length_map]; exact hn)]
  unfold putD
  rw [dict_get nd l hl, if_pos (by rfl)]
  unfold dictD dictK
  rw [List.map_map, List.map_map]
  congr 2
  refine List.map_congr_left fun k _ => ?_
  show (if keyD (.int (hd k.1 : Nat)) = some (.inl (hd l.1 : Nat)) then (PyData.int (hd k.1 : Nat), entD l2) else (PyData.int (hd k.1 : Nat), entD k)) = _
  by_cases e : hd k.1 = hd l.1
  · rw [if_pos (by rw [e]; rfl)]
    simp only [Function.comp, e, if_true, he]
  · rw [if_neg (fun z => ?_)]
    · simp only [Function.comp, e, if_false]
    · have : (Sum.inl ((hd k.1 : Nat) : Int) : Key) = Sum.inl ((hd l.1 : Nat) : Int) := Option.some.inj z
      have := Sum.inl.inj this
      exact e (by omega)
theorem add_dict {G : List Ln} (hn : G.length < 16777216) {l : Ln} (h : ∀ k ∈ G, hd k.1 ≠ hd l.1) : setXD (dictD G) (.int (hd l.1 : Nat)) (entD l) = some (dictD (G ++ [l])) := by
  show (if (dictK G).length < 16777216 then some (PyData.dict (putD (dictK G) (.inl (hd l.1 : Nat)) (entD l))) else none) = _
  rw [if_pos (by unfold dictK; rw [List.length_map]; exact hn)]
  unfold putD
  rw [dict_not h, if_neg (by simp)]
  unfold dictD dictK
  rw [List.map_append]
  rfl
theorem intsOf_nats (l : List Nat) : intsOf (natsD l) = some (intsOfN l) := by
  induction l with
  | nil => rfl
  | cons x r ih =>
    show (intsOf (natsD r)).map _ = _
    rw [ih]
    rfl
/-- the heads in order -/
theorem sort_heads (G : List Ln) (h : G.length < 64) : ∃ S : List Ln, S.Perm G ∧ sortX (dictD G) = some (.list (S.map fun l => PyData.int (hd l.1 : Nat))) := by
  have e := List.map_mergeSort (r := fun a b : Ln => decide ((hd a.1 : Int) ≤ (hd b.1 : Int))) (s := fun a b : Int => decide (a ≤ b)) (f := fun l : Ln => ((hd l.1 : Nat) : Int)) (l := G) (fun _ _ _ _ => rfl)
  refine ⟨G.mergeSort fun a b => decide ((hd a.1 : Int) ≤ (hd b.1 : Int)), List.mergeSort_perm _ _, ?_⟩
  have hk : (dictK G).map (·.1) = natsD (G.map fun l => hd l.1) := by unfold dictK natsD; rw [List.map_map, List.map_map]; rfl
  have hi : intsOf ((dictK G).map (·.1)) = some (G.map fun l : Ln => ((hd l.1 : Nat) : Int)) := by rw [hk, intsOf_nats]; unfold intsOfN; rw [List.map_map]; rfl
  show sortK (.dict (dictK G)) = _
  unfold sortK
  simp only [hi]
  rw [if_pos (by rw [List.length_map]; exact h)]
  unfold isort
  rw [← e, List.map_map]
  rfl
theorem nats_flat (l : List Nat) : DL.flatBs (natsD l) = true := by
  induction l with
  | nil => rfl
  | cons x r ih => show (DL.flatB (.int x) && DL.flatBs (natsD r)) = true; rw [ih]; rfl
/-- a look within an owned thing -/
theorem eFl_ok {a : Ev} {ρ : En} {ds : List PyData} (h : a (stillE ρ) = some (.list ds, stillE ρ)) (hf : DL.flatBs ds = true) : eFl a ρ = some (.list ds, ρ) := by
  unfold eFl
  rw [h]
  simp only [hf, and_self, if_true]
theorem eFc_ok {a : Ev} {ρ : En} {d : PyData} (h : a (stillE ρ) = some (d, stillE ρ)) (hf : DL.flatB d = true) : eFc a ρ = some (d, ρ) := by
  unfold eFc
  rw [h]
  simp only [hf, and_self, if_true]
theorem xor_bit (a b : Bool) : xorD (bitD a) (bitD b) = some (bitD (a ^^ b)) := by cases a <;> cases b <;> rfl
end DL
/-! PC1: lines in order; a flat is one list of lines alone; sorted(set(..)) of what is in order. -/
namespace DL
open PySem PySem.Spec PyProof.Rows L2 FL
def Srt (F : List Ln) : Prop := F.Pairwise fun a b => PySem.W.dataLe false lineD a b = true
theorem alike_lines (a b : Ln) : PySem.W.alike (lineD a) (lineD b) = true := by
  unfold lineD
  simp only [PySem.W.alike, PySem.W.alikeAll, alike_rows, alike_bits, Bool.and_self]
theorem sortOk_lines (F : List Ln) : SortOk (F.map lineD) := by
  refine ⟨PySem.W.AllAlike.of alike_lines, PySem.W.Sortable.tuples fun a => ⟨_, _, rfl⟩, fun d hd => ?_⟩
  obtain ⟨l, _, rfl⟩ := List.mem_map.mp hd
  have := lineD_nc l
  exact ⟨Nat.le_trans this.dep (by decide), PyData.hasDict_of_canLay _ this.lay⟩
theorem le_trans' : (∀ a b c : Ln, PySem.W.dataLe false lineD a b = true → PySem.W.dataLe false lineD b c = true → PySem.W.dataLe false lineD a c = true) ∧ (∀ a b : Ln, (PySem.W.dataLe false lineD a b || PySem.W.dataLe false lineD b a) = true) := by
  have T := PySem.W.sortLe_total (PyProof.Rows.listOrd PyProof.Rows.itemOrd) false (fun d : Ln => PySem.W.keyToks (lineD d))
  exact ⟨fun a b c h1 h2 => T.trans a b c h1 h2, fun a b => (Bool.or_eq_true _ _).mpr (T.total a b)⟩
theorem merge_lines (F : List Ln) : (F.map lineD).mergeSort (PySem.W.dataLe false fun d : PyData => d) = (F.mergeSort (PySem.W.dataLe false lineD)).map lineD :=
  (List.map_mergeSort (r := PySem.W.dataLe false lineD) (s := PySem.W.dataLe false fun d : PyData => d) (f := lineD) (l := F) (fun _ _ _ _ => rfl)).symm
theorem sort_lines2 (F : List Ln) : ∃ G : List Ln, G.Perm F ∧ Srt G ∧ sortX (.list (F.map lineD)) = some (.list (G.map lineD)) := by
  refine ⟨F.mergeSort (PySem.W.dataLe false lineD), List.mergeSort_perm _ _, List.pairwise_mergeSort le_trans'.1 le_trans'.2 F, ?_⟩
  show sortD (.list (F.map lineD)) = _
  simp only [sortD]
  rw [if_pos (sortOk_lines F), merge_lines]
theorem srt_merge {F : List Ln} (h : Srt F) : F.mergeSort (PySem.W.dataLe false lineD) = F := List.mergeSort_of_pairwise h
theorem sortX_srt {F : List Ln} (h : Srt F) : sortX (.list (F.map lineD)) = some (.list (F.map lineD)) := by
  show sortD (.list (F.map lineD)) = _
  simp only [sortD]
  rw [if_pos (sortOk_lines F), merge_lines, srt_merge h]
theorem Srt.sub {F G : List Ln} (h : Srt F) (s : G.Sublist F) : Srt G := List.Pairwise.sublist s h
theorem bitsOf_inj {a b : Nat} (ha : a < 2 ^ 16) (hb : b < 2 ^ 16) (h : bitsOf a = bitsOf b) : a = b := by
  apply Nat.eq_of_testBit_eq
  intro i
  have h1 := @mem_bits a i
  have h2 := @mem_bits b i
  rw [h] at h1
  have h3 := h1.symm.trans h2
  by_cases hi : i < 16
  · simp only [hi, true_and] at h3
    cases x : a.testBit i <;> cases y : b.testBit i <;> simp_all
  · rw [Nat.testBit_lt_two_pow (Nat.lt_of_lt_of_le ha (Nat.pow_le_pow_right (by decide) (by omega))), Nat.testBit_lt_two_pow (Nat.lt_of_lt_of_le hb (Nat.pow_le_pow_right (by decide) (by omega)))]
theorem natsD_inj {a b : List Nat} (h : natsD a = natsD b) : a = b := by
  unfold natsD at h
  exact List.map_inj_right (fun x y e => by cases e; rfl) |>.mp h
theorem rowD_inj {a b : Nat} (ha : a < 2 ^ 16) (hb : b < 2 ^ 16) (h : rowD a = rowD b) : a = b := by
  unfold rowD at h
  injection h with h
  exact bitsOf_inj ha hb (natsD_inj h)
theorem bitD_inj {a b : Bool} (h : bitD a = bitD b) : a = b := by
  unfold bitD at h
  cases a <;> cases b <;> simp_all
theorem lineD_inj {a b : Ln} (ha : a.1 < 2 ^ 16) (hb : b.1 < 2 ^ 16) (h : lineD a = lineD b) : a = b := by
  unfold lineD at h
  injection h with h
  injection h with h1 h2
  injection h2 with h2 _
  exact Prod.ext (rowD_inj ha hb h1) (bitD_inj h2)
theorem hash_nats : ∀ l : List Nat, hashables (natsD l) = true
  | [] => rfl
  | x :: l => by
    show (hashable (.int (x : Int)) && hashables (natsD l)) = true
    rw [hash_nats l]
    rfl
theorem hash_row (m : Nat) : hashable (rowD m) = true := hash_nats _
theorem hash_line (l : Ln) : hashable (lineD l) = true := by
  show hashables [rowD l.1, bitD l.2] = true
  show (hashable (rowD l.1) && (hashable (bitD l.2) && true)) = true
  rw [hash_row]
  rfl
theorem srt_unique {F G : List Ln} (hF : Srt F) (hG : Srt G) (p : F.Perm G) (h16 : ∀ l ∈ F, l.1 < 2 ^ 16) : F = G :=
  List.Perm.eq_of_pairwise (fun a b ha hb h1 h2 => lineD_inj (h16 a ha) (h16 b (p.mem_iff.mpr hb)) (le_anti (alike_lines a b) (hash_line a) (hash_line b) h1 h2)) hF hG p
theorem once_nodup : ∀ {ds : List PyData}, ds.Nodup → onceD ds = ds
  | [], _ => rfl
  | d :: ds, h => by
    unfold onceD
    rw [if_neg (List.nodup_cons.mp h).1, once_nodup (List.nodup_cons.mp h).2]
theorem nodup_lines {F : List Ln} (nd : F.Nodup) (h16 : ∀ l ∈ F, l.1 < 2 ^ 16) : (F.map lineD).Nodup := by
  induction F with
  | nil => exact List.nodup_nil
  | cons a F ih =>
    rw [List.map_cons, List.nodup_cons]
    rw [List.nodup_cons] at nd
    refine ⟨fun q => ?_, ih nd.2 fun l hl => h16 l (List.mem_cons_of_mem _ hl)⟩
    obtain ⟨b, hb, e⟩ := List.mem_map.mp q
    exact nd.1 (lineD_inj (h16 b (List.mem_cons_of_mem _ hb)) (h16 a List.mem_cons_self) e ▸ hb)
theorem tk_line (l : Ln) : tkD (lineD l) = true := by
  show (hashable (lineD l) && decide ((lineD l).depth ≤ 8)) = true
  rw [hash_line, decide_eq_true (Nat.le_trans (lineD_nc l).dep (by decide))]
  rfl
theorem sortSetT_srt {F : List Ln} (h : Srt F) (nd : F.Nodup) (h16 : ∀ l ∈ F, l.1 < 2 ^ 16) (few : F.length < 64) : sortSetT (flatD F) = some (.list (F.map lineD)) := by
  show sortSetT (.tuple (F.map lineD)) = _
  unfold sortSetT
  simp only
  rw [if_pos ⟨sortOk_lines F, fun d hd => by obtain ⟨l, _, rfl⟩ := List.mem_map.mp hd; exact tk_line l, by rw [List.length_map]; exact few⟩, once_nodup (nodup_lines nd h16), merge_lines, srt_merge h]
theorem sortSetA_srt {F : List Ln} (h : Srt F) (nd : F.Nodup) (h16 : ∀ l ∈ F, l.1 < 2 ^ 16) (few : F.length < 64) : sortSetA (flatD F) = some (.list (F.map lineD)) := by
  unfold sortSetA elseD
  cases F with
  | nil =>
    have h1 : sortSetN (flatD []) = some (.list []) := by
      show sortSetN (.tuple []) = _
      simp [sortSetN, intsOf, onceN, isort]
    rw [h1]
    rfl
  | cons a F =>
    have h1 : sortSetN (flatD (a :: F)) = none := rfl
    rw [h1]
    simp only [sortSetT_srt h nd h16 few]
theorem onceN_nodup : ∀ {ds : List Int}, ds.Nodup → onceN ds = ds
  | [], _ => rfl
  | d :: ds, h => by
    unfold onceN
    rw [if_neg (List.nodup_cons.mp h).1, onceN_nodup (List.nodup_cons.mp h).2]
theorem sortSetA_row (m : Nat) : sortSetA (rowD m) = some (.list (natsD (bitsOf m))) := by
  have hs : (intsOfN (bitsOf m)).Pairwise (· < ·) := by
    unfold intsOfN
    rw [List.pairwise_map]
    exact (bits_sorted m).imp fun h => by omega
  have h1 : sortSetN (rowD m) = some (.list (natsD (bitsOf m))) := by
    show sortSetN (.tuple (natsD (bitsOf m))) = _
    rw [natsD_eq]
    unfold sortSetN
    simp only [intsOf_map]
    have hl : (intsOfN (bitsOf m)).length < 64 := by
      unfold intsOfN
      rw [List.length_map]
      have := bits_len m
      omega
    rw [if_pos hl, onceN_nodup (hs.imp fun h => by omega)]
    have := ups_eq hs (ns := intsOfN (bitsOf m)) fun _ => Iff.rfl
    rw [onceN_nodup (hs.imp fun h => by omega)] at this
    rw [← this]
  unfold sortSetA elseD
  simp only [h1]
theorem nodup_of_map {α β : Type} (f : α → β) : ∀ {l : List α}, (l.map f).Nodup → l.Nodup
  | [], _ => List.nodup_nil
  | a :: l, h => by
    rw [List.map_cons, List.nodup_cons] at h
    exact List.nodup_cons.mpr ⟨fun q => h.1 (List.mem_map.mpr ⟨a, q, rfl⟩), nodup_of_map f h.2⟩
theorem inj_of_map {α β : Type} (f : α → β) : ∀ {l : List α}, (l.map f).Nodup → ∀ {a b : α}, a ∈ l → b ∈ l → f a = f b → a = b
  | [], _, _, _, h, _, _ => nomatch h
  | c :: l, h, a, b, ha, hb, e => by
    rw [List.map_cons, List.nodup_cons] at h
    rcases List.mem_cons.mp ha with e1 | ha <;> rcases List.mem_cons.mp hb with e2 | hb
    · rw [e1, e2]
    · exact absurd (List.mem_map.mpr ⟨b, hb, e1 ▸ e.symm⟩) h.1
    · exact absurd (List.mem_map.mpr ⟨a, ha, e2 ▸ e⟩) h.1
    · exact inj_of_map f h.2 ha hb e
theorem _root_.FL.Rr.nodup {F : List Ln} (r : Rr F) : F.Nodup := nodup_of_map _ r.nod
theorem xor_zero' {a b : Nat} (h : a ^^^ b = 0) : a = b := by
  have h2 : a ^^^ (a ^^^ b) = a := by rw [h, Nat.xor_zero]
  rw [← Nat.xor_assoc, Nat.xor_self, Nat.zero_xor] at h2
  exact h2.symm
/-- the lines of a flat are told by its bits -/
theorem rr_subset {F G : List Ln} (r : Rr F) (q : Rr G) (h : ∀ x, Holds F x ↔ Holds G x) : ∀ l ∈ F, l ∈ G := fun l hl => by
  obtain ⟨k, hk, e⟩ := heads_sub r q h l hl
  obtain ⟨l0, l16⟩ := r.pos l hl
  obtain ⟨k0, k16⟩ := q.pos k hk
  have hx : l.1 ^^^ k.1 < 2 ^ 16 := Nat.xor_lt_two_pow l16 k16
  have z : l.1 ^^^ k.1 = 0 := by
    by_cases c : l.1 ^^^ k.1 = 0
    · exact c
    · have free : ∀ a ∈ F, (l.1 ^^^ k.1).testBit (hd a.1) = false := fun a ha => by
        rw [Nat.testBit_xor]
        obtain ⟨b, hb, e2⟩ := heads_sub r q h a ha
        by_cases s : hd a.1 = hd l.1
        · have h1 := (hd_some k0 k16).1
          have h2 := (hd_some l0 l16).1
          rw [e, ← s] at h1
          rw [← s] at h2
          rw [h1, h2]
          rfl
        · have h1 : l.1.testBit (hd a.1) = false := r.out a ha l hl s
          have h2 : k.1.testBit (hd a.1) = false := by
            rw [← e2]
            exact q.out b hb k hk fun z => s (e2.symm.trans (z.trans e))
          rw [h1, h2]
          rfl
      obtain ⟨x, x1, x2⟩ := both r c hx free false
      obtain ⟨y, y1, y2⟩ := both r c hx free true
      have q1 := x1 l hl
      have q2 := y1 l hl
      have q3 := (h x).mp x1 k hk
      have q4 := (h y).mp y1 k hk
      rw [dot_xor] at x2 y2
      rw [q1, q3] at x2
      rw [q2, q4] at y2
      rw [x2] at y2
      cases y2
  have e1 : l.1 = k.1 := xor_zero' z
  obtain ⟨x, x1⟩ := r.pt
  have e2 : l.2 = k.2 := by rw [← x1 l hl, ← (h x).mp x1 k hk, e1]
  have : l = k := Prod.ext e1 e2
  rw [this]
  exact hk
theorem rr_perm {F G : List Ln} (r : Rr F) (q : Rr G) (h : ∀ x, Holds F x ↔ Holds G x) : F.Perm G :=
  (List.perm_ext_iff_of_nodup r.nodup q.nodup).mpr fun l => ⟨fun hl => rr_subset r q h l hl, fun hl => rr_subset q r (fun x => (h x).symm) l hl⟩
/-- one flat, one list of lines -/
theorem rr_eq {F G : List Ln} (r : Rr F) (q : Rr G) (sF : Srt F) (sG : Srt G) (h : ∀ x, Holds F x ↔ Holds G x) : F = G := srt_unique sF sG (rr_perm r q h) fun l hl => (r.pos l hl).2
theorem rr_head {F : List Ln} (r : Rr F) {a b : Ln} (ha : a ∈ F) (hb : b ∈ F) (e : hd a.1 = hd b.1) : a = b := by
  exact inj_of_map _ r.nod ha hb e
end DL
namespace LX
open PySem L2 DL FL
theorem eqD_nat (a b : Nat) : eqD (.int (a : Int)) (.int (b : Int)) = some (.bool (decide (a = b))) := by
  rw [eqD_int]
  congr 2
  simp only [decide_eq_decide]
  omega
theorem neD_nat (a b : Nat) : neD (.int (a : Int)) (.int (b : Int)) = some (.bool (!decide (a = b))) := by
  rw [neD_int]
  congr 3
  simp only [decide_eq_decide]
  omega
theorem filter_nats (l : List Nat) (p : PyData → Bool) : ((natsD l).filter p).map (fun x => x) = natsD (l.filter fun (i : Nat) => p (.int (i : Int))) := by
  rw [List.map_id']
  unfold natsD
  rw [List.filter_map]
  rfl
theorem half_ok {a b : Nat} (hb : b < 2 ^ 16) {s0 s1 : Sl} {o j : Nat} (hj : eV j [s0, s1, .u] = some (rowD a, [s0, s1, .u])) (ho : ∀ x, ([s0, s1, .d x] : En)[o]? = some (.d (rowD b))) :
    eLc [2] (iSeq (eV j)) (gN 2) (qB (e2 ninX (eV 2) (eV o))) (eV 2) [s0, s1, .u] = some (.list (natsD ((bitsOf a).filter fun i => !b.testBit i)), [s0, s1, .u]) := by
  have key := eLc_pure (vs := [2]) (it := iSeq (eV j)) (g := gN 2) (q := qB (e2 ninX (eV 2) (eV o))) (a := eV 2) (ρ := [s0, s1, .u]) (ds := natsD (bitsOf a)) (by unfold iSeq; rw [hj]; rfl) rfl rfl
    (fun x => match x with | .int i => !b.testBit i.toNat | _ => false) (fun x => x) (fun x hx => by
      obtain ⟨i, hi, rfl⟩ := List.mem_map.mp hx
      refine ⟨[s0, s1, .d (.int (i : Int))], [s0, s1, .d (.int (i : Int))], rfl, ?_, fun _ => ⟨_, rfl, rfl⟩, fun _ => rfl⟩
      have h1 : eV 2 [s0, s1, .d (.int (i : Int))] = some (.int (i : Int), [s0, s1, .d (.int (i : Int))]) := rfl
      have h2 : eV o [s0, s1, .d (.int (i : Int))] = some (rowD b, [s0, s1, .d (.int (i : Int))]) := eV_at (ho _)
      have h3 := (in_row (i := i) hb).2
      show qB (e2 ninX (eV 2) (eV o)) [s0, s1, .d (.int (i : Int))] = some (!b.testBit ((i : Int)).toNat, _)
      unfold qB e2
      simp only [h1, h2, h3, Int.toNat_natCast])
  rw [filter_nats] at key
  exact key
theorem plus_ok {a b : Nat} (ha : a < 2 ^ 16) (hb : b < 2 ^ 16) : m_plus [rowD a, rowD b] = some (rowD (a ^^^ b)) := by
  have h1 := half_ok (a := a) hb (s0 := .d (rowD a)) (s1 := .d (rowD b)) (o := 1) (j := 0) rfl (fun _ => rfl)
  have h2 := half_ok (a := b) ha (s0 := .d (rowD a)) (s1 := .d (rowD b)) (o := 0) (j := 1) rfl (fun _ => rfl)
  have hs : sortX (.list (natsD ((bitsOf a).filter fun i => !b.testBit i) ++ natsD ((bitsOf b).filter fun i => !a.testBit i))) = some (.list (natsD (bitsOf (a ^^^ b)))) := by
    rw [natsD_eq, natsD_eq, ← List.map_append, sort_ints, plus_bits, natsD_eq]
  have hl : (natsD ((bitsOf a).filter fun i => !b.testBit i)).length + (natsD ((bitsOf b).filter fun i => !a.testBit i)).length ≤ sizeLine := by
    have l1 := List.length_filter_le (fun i => !b.testBit i) (bitsOf a)
    have l2 := List.length_filter_le (fun i => !a.testBit i) (bitsOf b)
    have := bits_len a
    have := bits_len b
    unfold natsD
    rw [List.length_map, List.length_map, sizeLine_eq]
    omega
  have e0 : en0 3 [rowD a, rowD b] = [.d (rowD a), .d (rowD b), .u] := rfl
  have hadd : addD (.list (natsD ((bitsOf a).filter fun i => !b.testBit i))) (.list (natsD ((bitsOf b).filter fun i => !a.testBit i))) = some (.list (natsD ((bitsOf a).filter fun i => !b.testBit i) ++ natsD ((bitsOf b).filter fun i => !a.testBit i))) := by
    show (if _ then _ else none) = _
    rw [if_pos hl]
  unfold m_plus runP b_plus
  rw [e0]
  simp only [sRet, eN, aC, aN, e2, h1, h2, hadd, p1, hs, tupD, List.length_cons, List.length_nil, outP]
  rfl
theorem together2_ok {a b : Nat} (ha : a < 2 ^ 16) (hb : b < 2 ^ 16) : m_together [.list [rowD a, rowD b]] = some (rowD (a ^^^ b)) := by
  have h1 := plus_ok (a := 0) (b := a) (by decide) ha
  rw [rowD_zero, Nat.zero_xor] at h1
  have h2 := plus_ok ha hb
  simp [m_together, runP, b_together, sQ, sIf, sN, qFz, qB, qAnd, qOr, qNot, qYes, e1, DL.e2, eV, eC, eN, eI, eIf, eAnd, eOr, eFz, eSl, oS, oN, aN, aC, aX, sAsg, sAsgO, sRet, sRetO, sRetN, sDrop, sSet, sAugI, sMut, sPar, sPat, iSeq, iN, gN, gT, gC, gZ, outP, outF, outI, en0, stillE, Sl.still, Sl.own, Sl.put, seqOf, ixD, p1, lenS, intD, absD, ixX, lenX, sSetX, setXD, sParM, mN, mC, DL.setM, tupD, lstD, mkT, mkL, slD, slL, setLD, notD, negD, ltI, leI, gtI, geI, iB, addD, subD, isN, isNotN, atI_0, atI_1, atI_2, atI_3, ixN_40, ixN_41, ixN_42, eqD_int, neD_int, DL.flatB, DL.flatBs, max2D, min2D, iI, sl1, sl2, sl3, sl4, sl0, sl5, sl6, sl7, sl8, List.length_cons, List.length_nil, List.length_append, List.length_map, List.getElem?_cons_zero, List.getElem?_cons_succ, List.set_cons_zero, List.set_cons_succ, List.map_cons, List.map_nil, List.replicate, List.cons_append, List.nil_append, List.append_nil, Option.map_some, if_true, if_false, ite_true, ite_false, reduceIte, Nat.reduceAdd, Nat.reduceSub, Nat.reduceLeDiff, Nat.reduceEqDiff, Int.reduceAdd, modD_int, fdivD_int, mulR, mulL, Nat.sub_self, Nat.zero_add, Option.map_none, decide_true, decide_false, Bool.not_true, Bool.not_false, sFor, forD, h1, h2]
/-- led_by -/
theorem led_ok {F : List Ln} (hF : ∀ l ∈ F, l.1 ≠ 0 ∧ l.1 < 2 ^ 16) {m : Nat} (hm : m < 2 ^ 16) : m_led_by [flatD F, rowD m] = some (.tuple [rowD (led F m false).1, bitD (led F m false).2]) := by
  have key : ∀ (G : List Ln) (m : Nat) (w : Bool) (s3 s4 : Sl), (∀ l ∈ G, l.1 ≠ 0 ∧ l.1 < 2 ^ 16) → m < 2 ^ 16 → ∃ t3 t4, forD (gT 2 (gC (gN 3) (gC (gN 4) gZ))) (sIf (qB (e2 inX (e2 ixX (eV 3) (eC (.int 0))) (eV 1))) (sPar 1 2 (aC (eN m_together (aC (eN mkL (aC (eV 1) (aC (eV 3) aN))) aN)) (aC (e2 modD (e2 addD (eV 2) (eV 4)) (eC (.int 2))) aN))) sN) (G.map lineD) [.d (flatD F), .d (rowD m), .d (bitD w), s3, s4] = some (.nx [.d (flatD F), .d (rowD (led G m w).1), .d (bitD (led G m w).2), t3, t4]) := by
    intro G
    induction G with
    | nil => intro m w s3 s4 _ _; exact ⟨s3, s4, rfl⟩
    | cons l G ih =>
      intro m w s3 s4 hG hm
      have hl := hG l (List.mem_cons_self ..)
      have h1 := row_head hl.1 hl.2
      have h2 := (in_row (i := hd l.1) hm).1
      have h3 := together2_ok hm hl.2
      obtain ⟨c, h4, h5⟩ := bit_add w l.2
      unfold led
      by_cases hb : m.testBit (hd l.1) = true
      · rw [if_pos hb]
        obtain ⟨t3, t4, h⟩ := ih (m ^^^ l.1) (w ^^ l.2) (.d (rowD l.1)) (.d (bitD l.2)) (fun k hk => hG k (List.mem_cons_of_mem _ hk)) (Nat.xor_lt_two_pow hm hl.2)
        refine ⟨t3, t4, ?_⟩
        rw [List.map_cons, forD_go (ρ1 := [.d (flatD F), .d (rowD m), .d (bitD w), .d (rowD l.1), .d (bitD l.2)]) rfl (ρ2 := [.d (flatD F), .d (rowD (m ^^^ l.1)), .d (bitD (w ^^ l.2)), .d (rowD l.1), .d (bitD l.2)]) ?_]
        · exact h
        · rw [hb] at h2
          simp [DL.sWipe, DL.wipeF, DL.wipeL_nil, DL.wipeL_cons, DL.sFrz, DL.eChain, sQ, sIf, sN, qFz, qB, qAnd, qOr, qNot, qYes, e1, DL.e2, eV, eC, eN, eI, eIf, eAnd, eOr, eFz, eSl, oS, oN, aN, aC, aX, sAsg, sAsgO, sRet, sRetO, sRetN, sDrop, sSet, sSetX, sAugI, sMut, sPar, sPat, sParM, mN, mC, DL.setM, iSeq, iN, gN, gT, gC, gZ, outP, outF, outI, en0, stillE, Sl.still, Sl.own, Sl.put, p1, tupD, lstD, mkT, mkL, DL.e3, sl1, sl2, sl3, sl4, sl0, sl5, sl6, sl7, sl8, List.length_cons, List.length_nil, List.length_map, List.getElem?_cons_zero, List.getElem?_cons_succ, List.set_cons_zero, List.set_cons_succ, List.map_cons, List.map_nil, List.replicate, List.cons_append, List.nil_append, List.append_nil, Option.map_some, if_true, if_false, ite_true, ite_false, reduceIte, Nat.reduceAdd, Nat.reduceSub, Nat.reduceLeDiff, Nat.reduceEqDiff, Nat.sub_self, Nat.zero_add, Option.map_none, decide_true, decide_false, Bool.not_true, Bool.not_false, h1, h2, h3, h4, h5]
      · rw [if_neg hb]
        obtain ⟨t3, t4, h⟩ := ih m w (.d (rowD l.1)) (.d (bitD l.2)) (fun k hk => hG k (List.mem_cons_of_mem _ hk)) hm
        refine ⟨t3, t4, ?_⟩
        rw [List.map_cons, forD_go (ρ1 := [.d (flatD F), .d (rowD m), .d (bitD w), .d (rowD l.1), .d (bitD l.2)]) rfl (ρ2 := [.d (flatD F), .d (rowD m), .d (bitD w), .d (rowD l.1), .d (bitD l.2)]) ?_]
        · exact h
        · have hb' : m.testBit (hd l.1) = false := by simpa using hb
          rw [hb'] at h2
          simp [DL.sWipe, DL.wipeF, DL.wipeL_nil, DL.wipeL_cons, DL.sFrz, DL.eChain, sQ, sIf, sN, qFz, qB, qAnd, qOr, qNot, qYes, e1, DL.e2, eV, eC, eN, eI, eIf, eAnd, eOr, eFz, eSl, oS, oN, aN, aC, aX, sAsg, sAsgO, sRet, sRetO, sRetN, sDrop, sSet, sSetX, sAugI, sMut, sPar, sPat, sParM, mN, mC, DL.setM, iSeq, iN, gN, gT, gC, gZ, outP, outF, outI, en0, stillE, Sl.still, Sl.own, Sl.put, p1, tupD, lstD, mkT, mkL, DL.e3, sl1, sl2, sl3, sl4, sl0, sl5, sl6, sl7, sl8, List.length_cons, List.length_nil, List.length_map, List.getElem?_cons_zero, List.getElem?_cons_succ, List.set_cons_zero, List.set_cons_succ, List.map_cons, List.map_nil, List.replicate, List.cons_append, List.nil_append, List.append_nil, Option.map_some, if_true, if_false, ite_true, ite_false, reduceIte, Nat.reduceAdd, Nat.reduceSub, Nat.reduceLeDiff, Nat.reduceEqDiff, Nat.sub_self, Nat.zero_add, Option.map_none, decide_true, decide_false, Bool.not_true, Bool.not_false, h1, h2]
  obtain ⟨t3, t4, h⟩ := key F m false .u .u hF hm
  have hb : bitD false = .int 0 := rfl
  rw [hb] at h
  simp [m_led_by, runP, b_led_by, DL.sWipe, DL.wipeF, DL.wipeL_nil, DL.wipeL_cons, DL.sFrz, DL.eChain, sQ, sIf, sN, qFz, qB, qAnd, qOr, qNot, qYes, e1, DL.e2, eV, eC, eN, eI, eIf, eAnd, eOr, eFz, eSl, oS, oN, aN, aC, aX, sAsg, sAsgO, sRet, sRetO, sRetN, sDrop, sSet, sSetX, sAugI, sMut, sPar, sPat, sParM, mN, mC, DL.setM, iSeq, iN, gN, gT, gC, gZ, outP, outF, outI, en0, stillE, Sl.still, Sl.own, Sl.put, p1, tupD, lstD, mkT, mkL, DL.e3, sl1, sl2, sl3, sl4, sl0, sl5, sl6, sl7, sl8, List.length_cons, List.length_nil, List.length_map, List.getElem?_cons_zero, List.getElem?_cons_succ, List.set_cons_zero, List.set_cons_succ, List.map_cons, List.map_nil, List.replicate, List.cons_append, List.nil_append, List.append_nil, Option.map_some, if_true, if_false, ite_true, ite_false, reduceIte, Nat.reduceAdd, Nat.reduceSub, Nat.reduceLeDiff, Nat.reduceEqDiff, Nat.sub_self, Nat.zero_add, Option.map_none, decide_true, decide_false, Bool.not_true, Bool.not_false, sFor, seqOf_flat, h]
theorem reduced_ok {F : List Ln} (r : Rr F) {m : Nat} (hm : m < 2 ^ 16) : m_reduced [flatD F, rowD m] = some (rowD (led F m false).1) := by
  have h := led_ok r.pos hm
  simp [m_reduced, runP, b_reduced, DL.sWipe, DL.wipeF, DL.wipeL_nil, DL.wipeL_cons, DL.sFrz, DL.eChain, sQ, sIf, sN, qFz, qB, qAnd, qOr, qNot, qYes, e1, DL.e2, eV, eC, eN, eI, eIf, eAnd, eOr, eFz, eSl, oS, oN, aN, aC, aX, sAsg, sAsgO, sRet, sRetO, sRetN, sDrop, sSet, sSetX, sAugI, sMut, sPar, sPat, sParM, mN, mC, DL.setM, iSeq, iN, gN, gT, gC, gZ, outP, outF, outI, en0, stillE, Sl.still, Sl.own, Sl.put, p1, tupD, lstD, mkT, mkL, DL.e3, sl1, sl2, sl3, sl4, sl0, sl5, sl6, sl7, sl8, List.length_cons, List.length_nil, List.length_map, List.getElem?_cons_zero, List.getElem?_cons_succ, List.set_cons_zero, List.set_cons_succ, List.map_cons, List.map_nil, List.replicate, List.cons_append, List.nil_append, List.append_nil, Option.map_some, if_true, if_false, ite_true, ite_false, reduceIte, Nat.reduceAdd, Nat.reduceSub, Nat.reduceLeDiff, Nat.reduceEqDiff, Nat.sub_self, Nat.zero_add, Option.map_none, decide_true, decide_false, Bool.not_true, Bool.not_false, h, ixX_t0]
theorem told_ok {F : List Ln} (r : Rr F) {m : Nat} (hm : m < 2 ^ 16) : m_told_on [flatD F, rowD m] = some (optD (told F m)) := by
  have h := led_ok r.pos hm
  have lt := led_lt (w := false) (fun l hl => (r.pos l hl).2) hm
  have h2 := eqD_row_nil lt
  unfold told
  by_cases e : (led F m false).1 = 0
  · rw [if_pos e]
    rw [e] at h2
    simp [m_told_on, runP, b_told_on, DL.sWipe, DL.wipeF, DL.wipeL_nil, DL.wipeL_cons, DL.sFrz, DL.eChain, sQ, sIf, sN, qFz, qB, qAnd, qOr, qNot, qYes, e1, DL.e2, eV, eC, eN, eI, eIf, eAnd, eOr, eFz, eSl, oS, oN, aN, aC, aX, sAsg, sAsgO, sRet, sRetO, sRetN, sDrop, sSet, sSetX, sAugI, sMut, sPar, sPat, sParM, mN, mC, DL.setM, iSeq, iN, gN, gT, gC, gZ, outP, outF, outI, en0, stillE, Sl.still, Sl.own, Sl.put, p1, tupD, lstD, mkT, mkL, DL.e3, sl1, sl2, sl3, sl4, sl0, sl5, sl6, sl7, sl8, List.length_cons, List.length_nil, List.length_map, List.getElem?_cons_zero, List.getElem?_cons_succ, List.set_cons_zero, List.set_cons_succ, List.map_cons, List.map_nil, List.replicate, List.cons_append, List.nil_append, List.append_nil, Option.map_some, if_true, if_false, ite_true, ite_false, reduceIte, Nat.reduceAdd, Nat.reduceSub, Nat.reduceLeDiff, Nat.reduceEqDiff, Nat.sub_self, Nat.zero_add, Option.map_none, decide_true, decide_false, Bool.not_true, Bool.not_false, h, h2, e, optD]
  · rw [if_neg e]
    simp [e] at h2
    simp [m_told_on, runP, b_told_on, DL.sWipe, DL.wipeF, DL.wipeL_nil, DL.wipeL_cons, DL.sFrz, DL.eChain, sQ, sIf, sN, qFz, qB, qAnd, qOr, qNot, qYes, e1, DL.e2, eV, eC, eN, eI, eIf, eAnd, eOr, eFz, eSl, oS, oN, aN, aC, aX, sAsg, sAsgO, sRet, sRetO, sRetN, sDrop, sSet, sSetX, sAugI, sMut, sPar, sPat, sParM, mN, mC, DL.setM, iSeq, iN, gN, gT, gC, gZ, outP, outF, outI, en0, stillE, Sl.still, Sl.own, Sl.put, p1, tupD, lstD, mkT, mkL, DL.e3, sl1, sl2, sl3, sl4, sl0, sl5, sl6, sl7, sl8, List.length_cons, List.length_nil, List.length_map, List.getElem?_cons_zero, List.getElem?_cons_succ, List.set_cons_zero, List.set_cons_succ, List.map_cons, List.map_nil, List.replicate, List.cons_append, List.nil_append, List.append_nil, Option.map_some, if_true, if_false, ite_true, ite_false, reduceIte, Nat.reduceAdd, Nat.reduceSub, Nat.reduceLeDiff, Nat.reduceEqDiff, Nat.sub_self, Nat.zero_add, Option.map_none, decide_true, decide_false, Bool.not_true, Bool.not_false, h, h2, optD]
theorem lies_ok {F A : List Ln} (r : Rr F) (rA : Rr A) : m_lies_in [flatD F, flatD A] = some (.bool (A.all fun l => decide (told F l.1 = some l.2))) := by
  have key := eLc_M (vs := [2, 3]) (it := iSeq (eV 1)) (g := gT 2 (gC (gN 2) (gC (gN 3) gZ))) (a := e2 eqD (eN m_told_on (aC (eV 0) (aC (eV 2) aN))) (eV 3)) (ρ := [.d (flatD F), .d (flatD A), .u, .u]) lineD A rfl rfl rfl (fun l => .bool (decide (told F l.1 = some l.2))) (fun l hl => by
    refine ⟨[.d (flatD F), .d (flatD A), .d (rowD l.1), .d (bitD l.2)], [.d (flatD F), .d (flatD A), .d (rowD l.1), .d (bitD l.2)], rfl, ?_, rfl⟩
    have h1 := told_ok r (rA.pos l hl).2
    have h2 := eqD_opt (told F l.1) (some l.2)
    have h3 : bitD l.2 = optD (some l.2) := rfl
    simp [DL.sWipe, DL.wipeF, DL.wipeL_nil, DL.wipeL_cons, DL.sFrz, DL.eChain, sQ, sIf, sN, qFz, qB, qAnd, qOr, qNot, qYes, e1, DL.e2, eV, eC, eN, eI, eIf, eAnd, eOr, eFz, eSl, oS, oN, aN, aC, aX, sAsg, sAsgO, sRet, sRetO, sRetN, sDrop, sSet, sSetX, sAugI, sMut, sPar, sPat, sParM, mN, mC, DL.setM, iSeq, iN, gN, gT, gC, gZ, outP, outF, outI, en0, stillE, Sl.still, Sl.own, Sl.put, p1, tupD, lstD, mkT, mkL, DL.e3, sl1, sl2, sl3, sl4, sl0, sl5, sl6, sl7, sl8, List.length_cons, List.length_nil, List.length_map, List.getElem?_cons_zero, List.getElem?_cons_succ, List.set_cons_zero, List.set_cons_succ, List.map_cons, List.map_nil, List.replicate, List.cons_append, List.nil_append, List.append_nil, Option.map_some, if_true, if_false, ite_true, ite_false, reduceIte, Nat.reduceAdd, Nat.reduceSub, Nat.reduceLeDiff, Nat.reduceEqDiff, Nat.sub_self, Nat.zero_add, Option.map_none, decide_true, decide_false, Bool.not_true, Bool.not_false, h1, h3, h2])
  have hall : allD (.list (A.map fun l => .bool (decide (told F l.1 = some l.2)))) = some (.bool (A.all fun l => decide (told F l.1 = some l.2))) := by
    have := allD_bools (A.map fun l => decide (told F l.1 = some l.2))
    rw [List.map_map, List.all_map] at this
    exact this
  simp [m_lies_in, runP, b_lies_in, DL.sWipe, DL.wipeF, DL.wipeL_nil, DL.wipeL_cons, DL.sFrz, DL.eChain, sQ, sIf, sN, qFz, qB, qAnd, qOr, qNot, qYes, e1, DL.e2, eV, eC, eN, eI, eIf, eAnd, eOr, eFz, eSl, oS, oN, aN, aC, aX, sAsg, sAsgO, sRet, sRetO, sRetN, sDrop, sSet, sSetX, sAugI, sMut, sPar, sPat, sParM, mN, mC, DL.setM, iSeq, iN, gN, gT, gC, gZ, outP, outF, outI, en0, stillE, Sl.still, Sl.own, Sl.put, p1, tupD, lstD, mkT, mkL, DL.e3, sl1, sl2, sl3, sl4, sl0, sl5, sl6, sl7, sl8, List.length_cons, List.length_nil, List.length_map, List.getElem?_cons_zero, List.getElem?_cons_succ, List.set_cons_zero, List.set_cons_succ, List.map_cons, List.map_nil, List.replicate, List.cons_append, List.nil_append, List.append_nil, Option.map_some, if_true, if_false, ite_true, ite_false, reduceIte, Nat.reduceAdd, Nat.reduceSub, Nat.reduceLeDiff, Nat.reduceEqDiff, Nat.sub_self, Nat.zero_add, Option.map_none, decide_true, decide_false, Bool.not_true, Bool.not_false, key, hall]
/-- put_in -/
theorem put_ok2 {F : List Ln} (r : Rr F) {m : Nat} (hm : m < 2 ^ 16) (b : Bool) : ∃ o, PutIn F m b o ∧ (∀ G, o = some G → Srt F → Srt G) ∧ m_put_in [flatD F, rowD m, bitD b] = some (oflD o) := by
  have h := led_ok r.pos hm
  have lt := led_lt (w := false) (fun l hl => (r.pos l hl).2) hm
  have hs := led_heads (m := m) (w := false) r
  obtain ⟨c, a1, a2⟩ := bit_add b (led F m false).2
  have h2 := eqD_row_nil lt
  have h3 : eqD (bitD (b ^^ (led F m false).2)) (.int 0) = some (.bool (!(b ^^ (led F m false).2))) := by unfold bitD; rw [eqD_int]; cases (b ^^ (led F m false).2) <;> rfl
  by_cases e : (led F m false).1 = 0
  · simp [e] at h2
    cases hb : (b ^^ (led F m false).2) with
    | true =>
      rw [hb] at a2 h3
      refine ⟨none, .no e hb, (fun G z => nomatch z), ?_⟩
      simp [m_put_in, runP, b_put_in, DL.sWipe, DL.wipeF, DL.wipeL_nil, DL.wipeL_cons, DL.sFrz, DL.eChain, sQ, sIf, sN, qFz, qB, qAnd, qOr, qNot, qYes, e1, DL.e2, eV, eC, eN, eI, eIf, eAnd, eOr, eFz, eSl, oS, oN, aN, aC, aX, sAsg, sAsgO, sRet, sRetO, sRetN, sDrop, sSet, sSetX, sAugI, sMut, sPar, sPat, sParM, mN, mC, DL.setM, iSeq, iN, gN, gT, gC, gZ, outP, outF, outI, en0, stillE, Sl.still, Sl.own, Sl.put, p1, tupD, lstD, mkT, mkL, DL.e3, sl1, sl2, sl3, sl4, sl0, sl5, sl6, sl7, sl8, List.length_cons, List.length_nil, List.length_map, List.getElem?_cons_zero, List.getElem?_cons_succ, List.set_cons_zero, List.set_cons_succ, List.map_cons, List.map_nil, List.replicate, List.cons_append, List.nil_append, List.append_nil, Option.map_some, if_true, if_false, ite_true, ite_false, reduceIte, Nat.reduceAdd, Nat.reduceSub, Nat.reduceLeDiff, Nat.reduceEqDiff, Nat.sub_self, Nat.zero_add, Option.map_none, decide_true, decide_false, Bool.not_true, Bool.not_false, h, e, h2, a1, a2, h3, oflD]
    | false =>
      rw [hb] at a2 h3
      refine ⟨some F, .same e hb, (fun G z s => by cases z; exact s), ?_⟩
      simp [m_put_in, runP, b_put_in, DL.sWipe, DL.wipeF, DL.wipeL_nil, DL.wipeL_cons, DL.sFrz, DL.eChain, sQ, sIf, sN, qFz, qB, qAnd, qOr, qNot, qYes, e1, DL.e2, eV, eC, eN, eI, eIf, eAnd, eOr, eFz, eSl, oS, oN, aN, aC, aX, sAsg, sAsgO, sRet, sRetO, sRetN, sDrop, sSet, sSetX, sAugI, sMut, sPar, sPat, sParM, mN, mC, DL.setM, iSeq, iN, gN, gT, gC, gZ, outP, outF, outI, en0, stillE, Sl.still, Sl.own, Sl.put, p1, tupD, lstD, mkT, mkL, DL.e3, sl1, sl2, sl3, sl4, sl0, sl5, sl6, sl7, sl8, List.length_cons, List.length_nil, List.length_map, List.getElem?_cons_zero, List.getElem?_cons_succ, List.set_cons_zero, List.set_cons_succ, List.map_cons, List.map_nil, List.replicate, List.cons_append, List.nil_append, List.append_nil, Option.map_some, if_true, if_false, ite_true, ite_false, reduceIte, Nat.reduceAdd, Nat.reduceSub, Nat.reduceLeDiff, Nat.reduceEqDiff, Nat.sub_self, Nat.zero_add, Option.map_none, decide_true, decide_false, Bool.not_true, Bool.not_false, h, e, h2, a1, a2, h3, oflD]
  · simp [e] at h2
    obtain ⟨rowHead, hd0, hd1⟩ : ∃ q, ixX (rowD (led F m false).1) (.int 0) = some q ∧ q = .int (hd (led F m false).1 : Nat) := ⟨_, row_head e lt, rfl⟩
    subst hd1
    generalize hw : (b ^^ (led F m false).2) = b' at a2 h3
    generalize hr : (led F m false).1 = m' at h hs lt e h2 hd0
    generalize (led F m false).2 = w' at h a1
    obtain ⟨ρ', k1, s5, s6, rfl⟩ := sFor_T lineD F (it := (iSeq (eV 0))) (g := (gT 2 (gC (gN 5) (gC (gN 6) gZ)))) (ψ := (sQ (sIf (qB (e2 inX (e2 ixX (eV 1) (eC (.int 0))) (eV 5))) (sPar 5 6 (aC (eN m_together (aC (eN mkL (aC (eV 5) (aC (eV 1) aN))) aN)) (aC (e2 modD (e2 addD (eV 6) (eV 2)) (eC (.int 2))) aN))) sN) (sMut 4 appD (aC (eN mkT (aC (eV 5) (aC (eV 6) aN))) aN)))) (ρ := [.d (flatD F), .d (rowD m'), .d (bitD b'), .d (bitD w'), .o (.list (putL m' b' [])), .u, .u]) (ρ0 := [.d (flatD F), .d (rowD m'), .d (bitD b'), .d (bitD w'), .o (.list (putL m' b' [])), .u, .u]) (by simp [DL.sWipe, DL.wipeF, DL.wipeL_nil, DL.wipeL_cons, DL.sFrz, DL.eChain, sQ, sIf, sN, qFz, qB, qAnd, qOr, qNot, qYes, e1, DL.e2, eV, eC, eN, eI, eIf, eAnd, eOr, eFz, eSl, oS, oN, aN, aC, aX, sAsg, sAsgO, sRet, sRetO, sRetN, sDrop, sSet, sSetX, sAugI, sMut, sPar, sPat, sParM, mN, mC, DL.setM, iSeq, iN, gN, gT, gC, gZ, outP, outF, outI, en0, stillE, Sl.still, Sl.own, Sl.put, p1, tupD, lstD, mkT, mkL, DL.e3, sl1, sl2, sl3, sl4, sl0, sl5, sl6, sl7, sl8, List.length_cons, List.length_nil, List.length_map, List.getElem?_cons_zero, List.getElem?_cons_succ, List.set_cons_zero, List.set_cons_succ, List.map_cons, List.map_nil, List.replicate, List.cons_append, List.nil_append, List.append_nil, Option.map_some, if_true, if_false, ite_true, ite_false, reduceIte, Nat.reduceAdd, Nat.reduceSub, Nat.reduceLeDiff, Nat.reduceEqDiff, Nat.sub_self, Nat.zero_add, Option.map_none, decide_true, decide_false, Bool.not_true, Bool.not_false, seqOf_flat])
      (fun dn ρ => ∃ (s5 s6 : Sl), ρ = [.d (flatD F), .d (rowD m'), .d (bitD b'), .d (bitD w'), .o (.list (putL m' b' dn)), s5, s6])
      ⟨.u, .u, rfl⟩
      (fun dn l rest ρ ed ⟨s5, s6, e3⟩ => by
        subst e3
        have hl : l ∈ F := by rw [ed]; simp
        have l16 := (r.pos l hl).2
        have i1 := (in_row (i := hd m') l16).1
        have i2 := together2_ok l16 lt
        obtain ⟨c2, i3, i4⟩ := bit_add l.2 b'
        have hlen : (putL m' b' dn).length < 16777216 := by
          have q := congrArg List.length ed
          rw [List.length_append, List.length_cons] at q
          have := rr_len r
          rw [putL_len]
          omega
        cases hb : l.1.testBit (hd m') with
        | true =>
          rw [hb] at i1
          refine ⟨[.d (flatD F), .d (rowD m'), .d (bitD b'), .d (bitD w'), .o (.list (putL m' b' dn)), .d (rowD l.1), .d (bitD l.2)], _, rfl, ?_, .d (rowD (l.1 ^^^ m')), .d (bitD (l.2 ^^ b')), rfl⟩
          rw [putL_t hb]
          simp [DL.sWipe, DL.wipeF, DL.wipeL_nil, DL.wipeL_cons, DL.sFrz, DL.eChain, sQ, sIf, sN, qFz, qB, qAnd, qOr, qNot, qYes, e1, DL.e2, eV, eC, eN, eI, eIf, eAnd, eOr, eFz, eSl, oS, oN, aN, aC, aX, sAsg, sAsgO, sRet, sRetO, sRetN, sDrop, sSet, sSetX, sAugI, sMut, sPar, sPat, sParM, mN, mC, DL.setM, iSeq, iN, gN, gT, gC, gZ, outP, outF, outI, en0, stillE, Sl.still, Sl.own, Sl.put, p1, tupD, lstD, mkT, mkL, DL.e3, sl1, sl2, sl3, sl4, sl0, sl5, sl6, sl7, sl8, List.length_cons, List.length_nil, List.length_map, List.getElem?_cons_zero, List.getElem?_cons_succ, List.set_cons_zero, List.set_cons_succ, List.map_cons, List.map_nil, List.replicate, List.cons_append, List.nil_append, List.append_nil, Option.map_some, if_true, if_false, ite_true, ite_false, reduceIte, Nat.reduceAdd, Nat.reduceSub, Nat.reduceLeDiff, Nat.reduceEqDiff, Nat.sub_self, Nat.zero_add, Option.map_none, decide_true, decide_false, Bool.not_true, Bool.not_false, hd0, i1, i2, i3, i4, app_ok hlen]
        | false =>
          rw [hb] at i1
          refine ⟨[.d (flatD F), .d (rowD m'), .d (bitD b'), .d (bitD w'), .o (.list (putL m' b' dn)), .d (rowD l.1), .d (bitD l.2)], _, rfl, ?_, .d (rowD l.1), .d (bitD l.2), rfl⟩
          rw [putL_f hb]
          simp [DL.sWipe, DL.wipeF, DL.wipeL_nil, DL.wipeL_cons, DL.sFrz, DL.eChain, sQ, sIf, sN, qFz, qB, qAnd, qOr, qNot, qYes, e1, DL.e2, eV, eC, eN, eI, eIf, eAnd, eOr, eFz, eSl, oS, oN, aN, aC, aX, sAsg, sAsgO, sRet, sRetO, sRetN, sDrop, sSet, sSetX, sAugI, sMut, sPar, sPat, sParM, mN, mC, DL.setM, iSeq, iN, gN, gT, gC, gZ, outP, outF, outI, en0, stillE, Sl.still, Sl.own, Sl.put, p1, tupD, lstD, mkT, mkL, DL.e3, sl1, sl2, sl3, sl4, sl0, sl5, sl6, sl7, sl8, List.length_cons, List.length_nil, List.length_map, List.getElem?_cons_zero, List.getElem?_cons_succ, List.set_cons_zero, List.set_cons_succ, List.map_cons, List.map_nil, List.replicate, List.cons_append, List.nil_append, List.append_nil, Option.map_some, if_true, if_false, ite_true, ite_false, reduceIte, Nat.reduceAdd, Nat.reduceSub, Nat.reduceLeDiff, Nat.reduceEqDiff, Nat.sub_self, Nat.zero_add, Option.map_none, decide_true, decide_false, Bool.not_true, Bool.not_false, hd0, i1, app_ok hlen])
    obtain ⟨G, hG, hS, hsort⟩ := sort_lines2 (put1 F m' b')
    refine ⟨some G, .more (by rw [hr]; exact e) (by rw [hr, hw]; exact hG), (fun G2 z _ => by cases z; exact hS), ?_⟩
    have hs2 : sortX (.list (putL m' b' F)) = some (.list (G.map lineD)) := hsort
    have hfl : DL.flatB (.tuple (G.map lineD)) = true := flat_lines G
    rw [putL_nil] at k1
    simp [m_put_in, runP, b_put_in, DL.sWipe, DL.wipeF, DL.wipeL_nil, DL.wipeL_cons, DL.sFrz, DL.eChain, sQ, sIf, sN, qFz, qB, qAnd, qOr, qNot, qYes, e1, DL.e2, eV, eC, eN, eI, eIf, eAnd, eOr, eFz, eSl, oS, oN, aN, aC, aX, sAsg, sAsgO, sRet, sRetO, sRetN, sDrop, sSet, sSetX, sAugI, sMut, sPar, sPat, sParM, mN, mC, DL.setM, iSeq, iN, gN, gT, gC, gZ, outP, outF, outI, en0, stillE, Sl.still, Sl.own, Sl.put, p1, tupD, lstD, mkT, mkL, DL.e3, sl1, sl2, sl3, sl4, sl0, sl5, sl6, sl7, sl8, List.length_cons, List.length_nil, List.length_map, List.getElem?_cons_zero, List.getElem?_cons_succ, List.set_cons_zero, List.set_cons_succ, List.map_cons, List.map_nil, List.replicate, List.cons_append, List.nil_append, List.append_nil, Option.map_some, if_true, if_false, ite_true, ite_false, reduceIte, Nat.reduceAdd, Nat.reduceSub, Nat.reduceLeDiff, Nat.reduceEqDiff, Nat.sub_self, Nat.zero_add, Option.map_none, decide_true, decide_false, Bool.not_true, Bool.not_false, h, h2, a1, a2, k1, hs2, hfl, oflD]
    rfl
theorem put_ok {F : List Ln} (r : Rr F) {m : Nat} (hm : m < 2 ^ 16) (b : Bool) : ∃ o, PutIn F m b o ∧ m_put_in [flatD F, rowD m, bitD b] = some (oflD o) := by
  obtain ⟨o, h1, _, h2⟩ := put_ok2 r hm b
  exact ⟨o, h1, h2⟩
theorem meet_key (dF dA : PyData) : ∀ (B F : List Ln) (s3 s4 : Sl), Rr F → (∀ l ∈ B, l.1 < 2 ^ 16) → ∃ o, Meet F B o ∧
    ((∃ G t3 t4, o = some G ∧ forD (gT 2 (gC (gN 3) (gC (gN 4) gZ))) (sQ (sAsg 2 (eN m_put_in (aC (eV 2) (aC (eV 3) (aC (eV 4) aN))))) (sIf (qB (e2 isN (eV 2) (eC .none))) (sRet (eC .none)) sN)) (B.map lineD) [.d dF, .d dA, .d (flatD F), s3, s4] = some (.nx [.d dF, .d dA, .d (flatD G), t3, t4])) ∨
     (o = none ∧ ∃ ρ', forD (gT 2 (gC (gN 3) (gC (gN 4) gZ))) (sQ (sAsg 2 (eN m_put_in (aC (eV 2) (aC (eV 3) (aC (eV 4) aN))))) (sIf (qB (e2 isN (eV 2) (eC .none))) (sRet (eC .none)) sN)) (B.map lineD) [.d dF, .d dA, .d (flatD F), s3, s4] = some (.ret .none ρ'))) := by
  intro B
  induction B with
  | nil => intro F s3 s4 r _; exact ⟨some F, .nil, .inl ⟨F, s3, s4, rfl, rfl⟩⟩
  | cons l B ih =>
    intro F s3 s4 r hB
    have l16 := hB l (List.mem_cons_self ..)
    obtain ⟨o, hp, hm⟩ := put_ok r l16 l.2
    have h2 := isN_ofl o
    rw [List.map_cons]
    cases o with
    | none =>
      refine ⟨none, .stop hp, .inr ⟨rfl, _, forD_ret (ρ1 := [.d dF, .d dA, .d (flatD F), .d (rowD l.1), .d (bitD l.2)]) rfl (ρ2 := [.d dF, .d dA, .d .none, .d (rowD l.1), .d (bitD l.2)]) ?_⟩⟩
      have h2' : isN .none .none = some (.bool true) := rfl
      have hm' : m_put_in [flatD F, rowD l.1, bitD l.2] = some .none := hm
      simp [DL.sWipe, DL.wipeF, DL.wipeL_nil, DL.wipeL_cons, DL.sFrz, DL.eChain, sQ, sIf, sN, qFz, qB, qAnd, qOr, qNot, qYes, e1, DL.e2, eV, eC, eN, eI, eIf, eAnd, eOr, eFz, eSl, oS, oN, aN, aC, aX, sAsg, sAsgO, sRet, sRetO, sRetN, sDrop, sSet, sSetX, sAugI, sMut, sPar, sPat, sParM, mN, mC, DL.setM, iSeq, iN, gN, gT, gC, gZ, outP, outF, outI, en0, stillE, Sl.still, Sl.own, Sl.put, p1, tupD, lstD, mkT, mkL, DL.e3, sl1, sl2, sl3, sl4, sl0, sl5, sl6, sl7, sl8, List.length_cons, List.length_nil, List.length_map, List.getElem?_cons_zero, List.getElem?_cons_succ, List.set_cons_zero, List.set_cons_succ, List.map_cons, List.map_nil, List.replicate, List.cons_append, List.nil_append, List.append_nil, Option.map_some, if_true, if_false, ite_true, ite_false, reduceIte, Nat.reduceAdd, Nat.reduceSub, Nat.reduceLeDiff, Nat.reduceEqDiff, Nat.sub_self, Nat.zero_add, Option.map_none, decide_true, decide_false, Bool.not_true, Bool.not_false, hm', h2']
    | some G =>
      obtain ⟨r2, _⟩ := (hp.sem r l16).2 G rfl
      have hgo : ∀ φ : List PyData → En → Option Fw, True := fun _ => trivial
      have e : forD (gT 2 (gC (gN 3) (gC (gN 4) gZ))) (sQ (sAsg 2 (eN m_put_in (aC (eV 2) (aC (eV 3) (aC (eV 4) aN))))) (sIf (qB (e2 isN (eV 2) (eC .none))) (sRet (eC .none)) sN)) (lineD l :: B.map lineD) [.d dF, .d dA, .d (flatD F), s3, s4] = forD (gT 2 (gC (gN 3) (gC (gN 4) gZ))) (sQ (sAsg 2 (eN m_put_in (aC (eV 2) (aC (eV 3) (aC (eV 4) aN))))) (sIf (qB (e2 isN (eV 2) (eC .none))) (sRet (eC .none)) sN)) (B.map lineD) [.d dF, .d dA, .d (flatD G), .d (rowD l.1), .d (bitD l.2)] := by
        refine forD_go (ρ1 := [.d dF, .d dA, .d (flatD F), .d (rowD l.1), .d (bitD l.2)]) rfl ?_
        have h2' : isN (flatD G) .none = some (.bool false) := h2
        have hm' : m_put_in [flatD F, rowD l.1, bitD l.2] = some (flatD G) := hm
        simp [DL.sWipe, DL.wipeF, DL.wipeL_nil, DL.wipeL_cons, DL.sFrz, DL.eChain, sQ, sIf, sN, qFz, qB, qAnd, qOr, qNot, qYes, e1, DL.e2, eV, eC, eN, eI, eIf, eAnd, eOr, eFz, eSl, oS, oN, aN, aC, aX, sAsg, sAsgO, sRet, sRetO, sRetN, sDrop, sSet, sSetX, sAugI, sMut, sPar, sPat, sParM, mN, mC, DL.setM, iSeq, iN, gN, gT, gC, gZ, outP, outF, outI, en0, stillE, Sl.still, Sl.own, Sl.put, p1, tupD, lstD, mkT, mkL, DL.e3, sl1, sl2, sl3, sl4, sl0, sl5, sl6, sl7, sl8, List.length_cons, List.length_nil, List.length_map, List.getElem?_cons_zero, List.getElem?_cons_succ, List.set_cons_zero, List.set_cons_succ, List.map_cons, List.map_nil, List.replicate, List.cons_append, List.nil_append, List.append_nil, Option.map_some, if_true, if_false, ite_true, ite_false, reduceIte, Nat.reduceAdd, Nat.reduceSub, Nat.reduceLeDiff, Nat.reduceEqDiff, Nat.sub_self, Nat.zero_add, Option.map_none, decide_true, decide_false, Bool.not_true, Bool.not_false, hm', h2']
      rw [e]
      obtain ⟨o, h3, h4⟩ := ih G (.d (rowD l.1)) (.d (bitD l.2)) r2 fun k hk => hB k (List.mem_cons_of_mem _ hk)
      exact ⟨o, .go hp h3, h4⟩
theorem meet_ok {F A : List Ln} (r : Rr F) (rA : Rr A) : ∃ o, Meet F A o ∧ m_meet [flatD F, flatD A] = some (oflD o) := by
  obtain ⟨o, h1, h2⟩ := meet_key (flatD F) (flatD A) A F .u .u r fun l hl => (rA.pos l hl).2
  refine ⟨o, h1, ?_⟩
  rcases h2 with ⟨G, t3, t4, rfl, h⟩ | ⟨rfl, ρ', h⟩
  · simp [m_meet, runP, b_meet, DL.sWipe, DL.wipeF, DL.wipeL_nil, DL.wipeL_cons, DL.sFrz, DL.eChain, sQ, sIf, sN, qFz, qB, qAnd, qOr, qNot, qYes, e1, DL.e2, eV, eC, eN, eI, eIf, eAnd, eOr, eFz, eSl, oS, oN, aN, aC, aX, sAsg, sAsgO, sRet, sRetO, sRetN, sDrop, sSet, sSetX, sAugI, sMut, sPar, sPat, sParM, mN, mC, DL.setM, iSeq, iN, gN, gT, gC, gZ, outP, outF, outI, en0, stillE, Sl.still, Sl.own, Sl.put, p1, tupD, lstD, mkT, mkL, DL.e3, sl1, sl2, sl3, sl4, sl0, sl5, sl6, sl7, sl8, List.length_cons, List.length_nil, List.length_map, List.getElem?_cons_zero, List.getElem?_cons_succ, List.set_cons_zero, List.set_cons_succ, List.map_cons, List.map_nil, List.replicate, List.cons_append, List.nil_append, List.append_nil, Option.map_some, if_true, if_false, ite_true, ite_false, reduceIte, Nat.reduceAdd, Nat.reduceSub, Nat.reduceLeDiff, Nat.reduceEqDiff, Nat.sub_self, Nat.zero_add, Option.map_none, decide_true, decide_false, Bool.not_true, Bool.not_false, sFor, seqOf_flat, h, oflD]
  · simp [m_meet, runP, b_meet, DL.sWipe, DL.wipeF, DL.wipeL_nil, DL.wipeL_cons, DL.sFrz, DL.eChain, sQ, sIf, sN, qFz, qB, qAnd, qOr, qNot, qYes, e1, DL.e2, eV, eC, eN, eI, eIf, eAnd, eOr, eFz, eSl, oS, oN, aN, aC, aX, sAsg, sAsgO, sRet, sRetO, sRetN, sDrop, sSet, sSetX, sAugI, sMut, sPar, sPat, sParM, mN, mC, DL.setM, iSeq, iN, gN, gT, gC, gZ, outP, outF, outI, en0, stillE, Sl.still, Sl.own, Sl.put, p1, tupD, lstD, mkT, mkL, DL.e3, sl1, sl2, sl3, sl4, sl0, sl5, sl6, sl7, sl8, List.length_cons, List.length_nil, List.length_map, List.getElem?_cons_zero, List.getElem?_cons_succ, List.set_cons_zero, List.set_cons_succ, List.map_cons, List.map_nil, List.replicate, List.cons_append, List.nil_append, List.append_nil, Option.map_some, if_true, if_false, ite_true, ite_false, reduceIte, Nat.reduceAdd, Nat.reduceSub, Nat.reduceLeDiff, Nat.reduceEqDiff, Nat.sub_self, Nat.zero_add, Option.map_none, decide_true, decide_false, Bool.not_true, Bool.not_false, sFor, seqOf_flat, h, oflD]
end LX
namespace LX
open PySem L2 DL FL
theorem room_ok : ∀ n : Nat, 1 ≤ n → n < 8 → m_law_room [.int n] = some (roomD n)
  | 1, _, _ => by kernel_rfl
  | 2, _, _ => by kernel_rfl
  | 3, _, _ => by kernel_rfl
  | 4, _, _ => by kernel_rfl
  | 5, _, _ => by kernel_rfl
  | 6, _, _ => by kernel_rfl
  | 7, _, _ => by kernel_rfl
  | 0, h, _ => by omega
  | n + 8, _, h => by omega
theorem mask_ok {m : Nat} (h : m < 2 ^ 16) : m_law_mask [rowD m] = some (.int (m : Nat)) := by
  obtain ⟨ρ', k1, s, rfl⟩ := sFor_T (fun u : Nat => PyData.int (u : Int)) (bitsOf m) (it := (iSeq (eV 0))) (g := (gN 2)) (ψ := (sAsg 1 (e2 orD (eV 1) (e2 shlX (eC (.int 1)) (eV 2))))) (ρ := [.d (rowD m), .d (.int 0), .u]) (ρ0 := [.d (rowD m), .d (.int 0), .u]) (by simp [DL.sWipe, DL.wipeF, DL.wipeL_nil, DL.wipeL_cons, DL.sFrz, DL.eChain, sQ, sIf, sN, qFz, qB, qAnd, qOr, qNot, qYes, e1, DL.e2, eV, eC, eN, eI, eIf, eAnd, eOr, eFz, eSl, oS, oN, aN, aC, aX, sAsg, sAsgO, sRet, sRetO, sRetN, sDrop, sSet, sSetX, sAugI, sMut, sPar, sPat, sParM, mN, mC, DL.setM, iSeq, iN, gN, gT, gC, gZ, outP, outF, outI, en0, stillE, Sl.still, Sl.own, Sl.put, p1, tupD, lstD, mkT, mkL, DL.e3, sl1, sl2, sl3, sl4, sl0, sl5, sl6, sl7, sl8, List.length_cons, List.length_nil, List.length_map, List.getElem?_cons_zero, List.getElem?_cons_succ, List.set_cons_zero, List.set_cons_succ, List.map_cons, List.map_nil, List.replicate, List.cons_append, List.nil_append, List.append_nil, Option.map_some, if_true, if_false, ite_true, ite_false, reduceIte, Nat.reduceAdd, Nat.reduceSub, Nat.reduceLeDiff, Nat.reduceEqDiff, Nat.sub_self, Nat.zero_add, Option.map_none, decide_true, decide_false, Bool.not_true, Bool.not_false, seqOf_row, natsD])
    (fun dn ρ => ∃ s : Sl, ρ = [.d (rowD m), .d (.int ((dn.foldl (fun f u => f ||| 2 ^ u) 0 : Nat) : Int)), s])
    ⟨.u, rfl⟩
    (fun dn u rest ρ ed ⟨s, e⟩ => by
      subst e
      have hu : u ≤ 1000 := by
        have : u ∈ bitsOf m := by rw [ed]; simp
        have := (mem_bits.mp this).1
        omega
      refine ⟨[.d (rowD m), .d (.int ((dn.foldl (fun f u => f ||| 2 ^ u) 0 : Nat) : Int)), .d (.int (u : Int))], _, rfl, ?_, .d (.int (u : Int)), rfl⟩
      have h1 := shl_one hu
      have h2 := orD_nn (dn.foldl (fun f u => f ||| 2 ^ u) 0) (2 ^ u)
      rw [List.foldl_append]
      generalize dn.foldl (fun f u => f ||| 2 ^ u) 0 = g at h2
      simp [DL.sWipe, DL.wipeF, DL.wipeL_nil, DL.wipeL_cons, DL.sFrz, DL.eChain, sQ, sIf, sN, qFz, qB, qAnd, qOr, qNot, qYes, e1, DL.e2, eV, eC, eN, eI, eIf, eAnd, eOr, eFz, eSl, oS, oN, aN, aC, aX, sAsg, sAsgO, sRet, sRetO, sRetN, sDrop, sSet, sSetX, sAugI, sMut, sPar, sPat, sParM, mN, mC, DL.setM, iSeq, iN, gN, gT, gC, gZ, outP, outF, outI, en0, stillE, Sl.still, Sl.own, Sl.put, p1, tupD, lstD, mkT, mkL, DL.e3, sl1, sl2, sl3, sl4, sl0, sl5, sl6, sl7, sl8, List.length_cons, List.length_nil, List.length_map, List.getElem?_cons_zero, List.getElem?_cons_succ, List.set_cons_zero, List.set_cons_succ, List.map_cons, List.map_nil, List.replicate, List.cons_append, List.nil_append, List.append_nil, Option.map_some, if_true, if_false, ite_true, ite_false, reduceIte, Nat.reduceAdd, Nat.reduceSub, Nat.reduceLeDiff, Nat.reduceEqDiff, Nat.sub_self, Nat.zero_add, Option.map_none, decide_true, decide_false, Bool.not_true, Bool.not_false] at *
      simp [DL.sWipe, DL.wipeF, DL.wipeL_nil, DL.wipeL_cons, DL.sFrz, DL.eChain, sQ, sIf, sN, qFz, qB, qAnd, qOr, qNot, qYes, e1, DL.e2, eV, eC, eN, eI, eIf, eAnd, eOr, eFz, eSl, oS, oN, aN, aC, aX, sAsg, sAsgO, sRet, sRetO, sRetN, sDrop, sSet, sSetX, sAugI, sMut, sPar, sPat, sParM, mN, mC, DL.setM, iSeq, iN, gN, gT, gC, gZ, outP, outF, outI, en0, stillE, Sl.still, Sl.own, Sl.put, p1, tupD, lstD, mkT, mkL, DL.e3, sl1, sl2, sl3, sl4, sl0, sl5, sl6, sl7, sl8, List.length_cons, List.length_nil, List.length_map, List.getElem?_cons_zero, List.getElem?_cons_succ, List.set_cons_zero, List.set_cons_succ, List.map_cons, List.map_nil, List.replicate, List.cons_append, List.nil_append, List.append_nil, Option.map_some, if_true, if_false, ite_true, ite_false, reduceIte, Nat.reduceAdd, Nat.reduceSub, Nat.reduceLeDiff, Nat.reduceEqDiff, Nat.sub_self, Nat.zero_add, Option.map_none, decide_true, decide_false, Bool.not_true, Bool.not_false, h1, h2])
  rw [or_bits h] at k1
  have e0 : PyData.int ((([] : List Nat).foldl (fun f u => f ||| 2 ^ u) 0 : Nat) : Int) = .int 0 := rfl
  simp [m_law_mask, runP, b_law_mask, DL.sWipe, DL.wipeF, DL.wipeL_nil, DL.wipeL_cons, DL.sFrz, DL.eChain, sQ, sIf, sN, qFz, qB, qAnd, qOr, qNot, qYes, e1, DL.e2, eV, eC, eN, eI, eIf, eAnd, eOr, eFz, eSl, oS, oN, aN, aC, aX, sAsg, sAsgO, sRet, sRetO, sRetN, sDrop, sSet, sSetX, sAugI, sMut, sPar, sPat, sParM, mN, mC, DL.setM, iSeq, iN, gN, gT, gC, gZ, outP, outF, outI, en0, stillE, Sl.still, Sl.own, Sl.put, p1, tupD, lstD, mkT, mkL, DL.e3, sl1, sl2, sl3, sl4, sl0, sl5, sl6, sl7, sl8, List.length_cons, List.length_nil, List.length_map, List.getElem?_cons_zero, List.getElem?_cons_succ, List.set_cons_zero, List.set_cons_succ, List.map_cons, List.map_nil, List.replicate, List.cons_append, List.nil_append, List.append_nil, Option.map_some, if_true, if_false, ite_true, ite_false, reduceIte, Nat.reduceAdd, Nat.reduceSub, Nat.reduceLeDiff, Nat.reduceEqDiff, Nat.sub_self, Nat.zero_add, Option.map_none, decide_true, decide_false, Bool.not_true, Bool.not_false, k1]
theorem lawrow_ok {m : Nat} (h : m < 2 ^ 16) : m_law_row [.int (m : Nat)] = some (rowD m) := by
  obtain ⟨br1, br2⟩ := bits_range h
  have hr : rng1 [.int ((Builtin.Int.intBits (m : Int) : Nat) : Int)] = some ((List.range (Builtin.Int.intBits (m : Int))).map fun u : Nat => PyData.int (u : Int)) := by
    show (if -(2 ^ 62) ≤ ((Builtin.Int.intBits (m : Int) : Nat) : Int) ∧ ((Builtin.Int.intBits (m : Int) : Nat) : Int) ≤ 16777216 then some (upI 0 ((Builtin.Int.intBits (m : Int) : Nat) : Int).toNat) else none) = _
    rw [if_pos ⟨by omega, by omega⟩, Int.toNat_natCast]
    unfold upI
    simp
  have key := eLc_T (vs := [1]) (it := iN rng1 (aC (e1 bitsD (eV 0)) aN)) (g := gN 1) (q := qB (e2 eqD (e2 andD (e2 shrD (eV 0) (eV 1)) (eC (.int 1))) (eC (.int 1)))) (a := eV 1) (ρ := [.d (.int (m : Nat)), .u]) (ρ0 := [.d (.int (m : Nat)), .u])
    (fun u : Nat => PyData.int (u : Int)) (List.range (Builtin.Int.intBits (m : Int))) (by simp [DL.sWipe, DL.wipeF, DL.wipeL_nil, DL.wipeL_cons, DL.sFrz, DL.eChain, sQ, sIf, sN, qFz, qB, qAnd, qOr, qNot, qYes, e1, DL.e2, eV, eC, eN, eI, eIf, eAnd, eOr, eFz, eSl, oS, oN, aN, aC, aX, sAsg, sAsgO, sRet, sRetO, sRetN, sDrop, sSet, sSetX, sAugI, sMut, sPar, sPat, sParM, mN, mC, DL.setM, iSeq, iN, gN, gT, gC, gZ, outP, outF, outI, en0, stillE, Sl.still, Sl.own, Sl.put, p1, tupD, lstD, mkT, mkL, DL.e3, sl1, sl2, sl3, sl4, sl0, sl5, sl6, sl7, sl8, List.length_cons, List.length_nil, List.length_map, List.getElem?_cons_zero, List.getElem?_cons_succ, List.set_cons_zero, List.set_cons_succ, List.map_cons, List.map_nil, List.replicate, List.cons_append, List.nil_append, List.append_nil, Option.map_some, if_true, if_false, ite_true, ite_false, reduceIte, Nat.reduceAdd, Nat.reduceSub, Nat.reduceLeDiff, Nat.reduceEqDiff, Nat.sub_self, Nat.zero_add, Option.map_none, decide_true, decide_false, Bool.not_true, Bool.not_false, bitsD, hr]) rfl rfl (fun u => m.testBit u) (fun u => .int (u : Int)) (fun u hu => by
      refine ⟨[.d (.int (m : Nat)), .d (.int (u : Int))], [.d (.int (m : Nat)), .d (.int (u : Int))], rfl, ?_, fun _ => ⟨_, rfl, rfl⟩, fun _ => rfl⟩
      obtain ⟨b, c, h3, h1, h2⟩ := bit_test3 m u
      simp [DL.sWipe, DL.wipeF, DL.wipeL_nil, DL.wipeL_cons, DL.sFrz, DL.eChain, sQ, sIf, sN, qFz, qB, qAnd, qOr, qNot, qYes, e1, DL.e2, eV, eC, eN, eI, eIf, eAnd, eOr, eFz, eSl, oS, oN, aN, aC, aX, sAsg, sAsgO, sRet, sRetO, sRetN, sDrop, sSet, sSetX, sAugI, sMut, sPar, sPat, sParM, mN, mC, DL.setM, iSeq, iN, gN, gT, gC, gZ, outP, outF, outI, en0, stillE, Sl.still, Sl.own, Sl.put, p1, tupD, lstD, mkT, mkL, DL.e3, sl1, sl2, sl3, sl4, sl0, sl5, sl6, sl7, sl8, List.length_cons, List.length_nil, List.length_map, List.getElem?_cons_zero, List.getElem?_cons_succ, List.set_cons_zero, List.set_cons_succ, List.map_cons, List.map_nil, List.replicate, List.cons_append, List.nil_append, List.append_nil, Option.map_some, if_true, if_false, ite_true, ite_false, reduceIte, Nat.reduceAdd, Nat.reduceSub, Nat.reduceLeDiff, Nat.reduceEqDiff, Nat.sub_self, Nat.zero_add, Option.map_none, decide_true, decide_false, Bool.not_true, Bool.not_false, h1, h2, h3])
  rw [br1] at key
  simp [m_law_row, runP, b_law_row, DL.sWipe, DL.wipeF, DL.wipeL_nil, DL.wipeL_cons, DL.sFrz, DL.eChain, sQ, sIf, sN, qFz, qB, qAnd, qOr, qNot, qYes, e1, DL.e2, eV, eC, eN, eI, eIf, eAnd, eOr, eFz, eSl, oS, oN, aN, aC, aX, sAsg, sAsgO, sRet, sRetO, sRetN, sDrop, sSet, sSetX, sAugI, sMut, sPar, sPat, sParM, mN, mC, DL.setM, iSeq, iN, gN, gT, gC, gZ, outP, outF, outI, en0, stillE, Sl.still, Sl.own, Sl.put, p1, tupD, lstD, mkT, mkL, DL.e3, sl1, sl2, sl3, sl4, sl0, sl5, sl6, sl7, sl8, List.length_cons, List.length_nil, List.length_map, List.getElem?_cons_zero, List.getElem?_cons_succ, List.set_cons_zero, List.set_cons_succ, List.map_cons, List.map_nil, List.replicate, List.cons_append, List.nil_append, List.append_nil, Option.map_some, if_true, if_false, ite_true, ite_false, reduceIte, Nat.reduceAdd, Nat.reduceSub, Nat.reduceLeDiff, Nat.reduceEqDiff, Nat.sub_self, Nat.zero_add, Option.map_none, decide_true, decide_false, Bool.not_true, Bool.not_false, key]
  rfl
theorem held_ok {n : Nat} (hn : n < 8) {l : Ln} (hl : l.1 < 2 ^ n) : m_law_held [roomD n, lineD l] = some (.int (heldN n l : Nat)) := by
  obtain ⟨ρ', k1, s, rfl⟩ := sFor_T (fun u : Nat => PyData.int (u : Int)) (bitsOf l.1) (it := (iSeq (e2 ixX (eV 1) (eC (.int 0))))) (g := (gN 3)) (ψ := (sAsg 2 (e2 xorD (eV 2) (e2 ixX (e2 ixX (eV 0) (eC (.int 2))) (eV 3))))) (ρ := [.d (roomD n), .d (lineD l), .d (.int 0), .u]) (ρ0 := [.d (roomD n), .d (lineD l), .d (.int 0), .u]) (by simp [DL.sWipe, DL.wipeF, DL.wipeL_nil, DL.wipeL_cons, DL.sFrz, DL.eChain, sQ, sIf, sN, qFz, qB, qAnd, qOr, qNot, qYes, e1, DL.e2, eV, eC, eN, eI, eIf, eAnd, eOr, eFz, eSl, oS, oN, aN, aC, aX, sAsg, sAsgO, sRet, sRetO, sRetN, sDrop, sSet, sSetX, sAugI, sMut, sPar, sPat, sParM, mN, mC, DL.setM, iSeq, iN, gN, gT, gC, gZ, outP, outF, outI, en0, stillE, Sl.still, Sl.own, Sl.put, p1, tupD, lstD, mkT, mkL, DL.e3, sl1, sl2, sl3, sl4, sl0, sl5, sl6, sl7, sl8, List.length_cons, List.length_nil, List.length_map, List.getElem?_cons_zero, List.getElem?_cons_succ, List.set_cons_zero, List.set_cons_succ, List.map_cons, List.map_nil, List.replicate, List.cons_append, List.nil_append, List.append_nil, Option.map_some, if_true, if_false, ite_true, ite_false, reduceIte, Nat.reduceAdd, Nat.reduceSub, Nat.reduceLeDiff, Nat.reduceEqDiff, Nat.sub_self, Nat.zero_add, Option.map_none, decide_true, decide_false, Bool.not_true, Bool.not_false, ixX_line0, seqOf_row, natsD])
    (fun dn ρ => ∃ s : Sl, ρ = [.d (roomD n), .d (lineD l), .d (.int ((dn.foldl (fun f u => f ^^^ colN n u) 0 : Nat) : Int)), s])
    ⟨.u, rfl⟩
    (fun dn u rest ρ ed ⟨s, e⟩ => by
      subst e
      have hu : u < n := bits_below hl u (by rw [ed]; simp)
      refine ⟨[.d (roomD n), .d (lineD l), .d (.int ((dn.foldl (fun f u => f ^^^ colN n u) 0 : Nat) : Int)), .d (.int (u : Int))], _, rfl, ?_, .d (.int (u : Int)), rfl⟩
      have h1 : ixX (roomD n) (.int 2) = some (.tuple (natsD (colsN n))) := ixX_t2 _ _ _ _
      have h2 : ixX (.tuple (natsD (colsN n))) (.int (u : Int)) = some (.int (colN n u : Nat)) := by
        show atI (natsD (colsN n)) (u : Int) = _
        refine atI_int ?_
        unfold natsD colsN
        rw [List.getElem?_map, List.getElem?_map, List.getElem?_range hu]
        rfl
      have h3 := xorD_nn (dn.foldl (fun f u => f ^^^ colN n u) 0) (colN n u)
      rw [List.foldl_append]
      generalize dn.foldl (fun f u => f ^^^ colN n u) 0 = g at h3
      simp [DL.sWipe, DL.wipeF, DL.wipeL_nil, DL.wipeL_cons, DL.sFrz, DL.eChain, sQ, sIf, sN, qFz, qB, qAnd, qOr, qNot, qYes, e1, DL.e2, eV, eC, eN, eI, eIf, eAnd, eOr, eFz, eSl, oS, oN, aN, aC, aX, sAsg, sAsgO, sRet, sRetO, sRetN, sDrop, sSet, sSetX, sAugI, sMut, sPar, sPat, sParM, mN, mC, DL.setM, iSeq, iN, gN, gT, gC, gZ, outP, outF, outI, en0, stillE, Sl.still, Sl.own, Sl.put, p1, tupD, lstD, mkT, mkL, DL.e3, sl1, sl2, sl3, sl4, sl0, sl5, sl6, sl7, sl8, List.length_cons, List.length_nil, List.length_map, List.getElem?_cons_zero, List.getElem?_cons_succ, List.set_cons_zero, List.set_cons_succ, List.map_cons, List.map_nil, List.replicate, List.cons_append, List.nil_append, List.append_nil, Option.map_some, if_true, if_false, ite_true, ite_false, reduceIte, Nat.reduceAdd, Nat.reduceSub, Nat.reduceLeDiff, Nat.reduceEqDiff, Nat.sub_self, Nat.zero_add, Option.map_none, decide_true, decide_false, Bool.not_true, Bool.not_false] at *
      simp [DL.sWipe, DL.wipeF, DL.wipeL_nil, DL.wipeL_cons, DL.sFrz, DL.eChain, sQ, sIf, sN, qFz, qB, qAnd, qOr, qNot, qYes, e1, DL.e2, eV, eC, eN, eI, eIf, eAnd, eOr, eFz, eSl, oS, oN, aN, aC, aX, sAsg, sAsgO, sRet, sRetO, sRetN, sDrop, sSet, sSetX, sAugI, sMut, sPar, sPat, sParM, mN, mC, DL.setM, iSeq, iN, gN, gT, gC, gZ, outP, outF, outI, en0, stillE, Sl.still, Sl.own, Sl.put, p1, tupD, lstD, mkT, mkL, DL.e3, sl1, sl2, sl3, sl4, sl0, sl5, sl6, sl7, sl8, List.length_cons, List.length_nil, List.length_map, List.getElem?_cons_zero, List.getElem?_cons_succ, List.set_cons_zero, List.set_cons_succ, List.map_cons, List.map_nil, List.replicate, List.cons_append, List.nil_append, List.append_nil, Option.map_some, if_true, if_false, ite_true, ite_false, reduceIte, Nat.reduceAdd, Nat.reduceSub, Nat.reduceLeDiff, Nat.reduceEqDiff, Nat.sub_self, Nat.zero_add, Option.map_none, decide_true, decide_false, Bool.not_true, Bool.not_false, h1, h2, h3])
  have h4 : eqD (bitD l.2) (.int 1) = some (.bool l.2) := by unfold bitD; rw [eqD_int]; cases l.2 <;> rfl
  have h5 : ixX (roomD n) (.int 1) = some (.int (fullN n : Nat)) := ixX_t1 _ _ _
  have h6 := xorD_nn (fullN n) (colX n l.1)
  have h7 : ((bitsOf l.1).foldl (fun f u => f ^^^ colN n u) 0 : Nat) = colX n l.1 := rfl
  rw [h7] at k1
  unfold heldN
  cases e : l.2 with
  | true =>
    rw [e] at h4
    rw [if_pos rfl]
    simp [m_law_held, runP, b_law_held, DL.sWipe, DL.wipeF, DL.wipeL_nil, DL.wipeL_cons, DL.sFrz, DL.eChain, sQ, sIf, sN, qFz, qB, qAnd, qOr, qNot, qYes, e1, DL.e2, eV, eC, eN, eI, eIf, eAnd, eOr, eFz, eSl, oS, oN, aN, aC, aX, sAsg, sAsgO, sRet, sRetO, sRetN, sDrop, sSet, sSetX, sAugI, sMut, sPar, sPat, sParM, mN, mC, DL.setM, iSeq, iN, gN, gT, gC, gZ, outP, outF, outI, en0, stillE, Sl.still, Sl.own, Sl.put, p1, tupD, lstD, mkT, mkL, DL.e3, sl1, sl2, sl3, sl4, sl0, sl5, sl6, sl7, sl8, List.length_cons, List.length_nil, List.length_map, List.getElem?_cons_zero, List.getElem?_cons_succ, List.set_cons_zero, List.set_cons_succ, List.map_cons, List.map_nil, List.replicate, List.cons_append, List.nil_append, List.append_nil, Option.map_some, if_true, if_false, ite_true, ite_false, reduceIte, Nat.reduceAdd, Nat.reduceSub, Nat.reduceLeDiff, Nat.reduceEqDiff, Nat.sub_self, Nat.zero_add, Option.map_none, decide_true, decide_false, Bool.not_true, Bool.not_false, k1, ixX_line1, e, h4]
  | false =>
    rw [e] at h4
    rw [if_neg (by decide)]
    simp [m_law_held, runP, b_law_held, DL.sWipe, DL.wipeF, DL.wipeL_nil, DL.wipeL_cons, DL.sFrz, DL.eChain, sQ, sIf, sN, qFz, qB, qAnd, qOr, qNot, qYes, e1, DL.e2, eV, eC, eN, eI, eIf, eAnd, eOr, eFz, eSl, oS, oN, aN, aC, aX, sAsg, sAsgO, sRet, sRetO, sRetN, sDrop, sSet, sSetX, sAugI, sMut, sPar, sPat, sParM, mN, mC, DL.setM, iSeq, iN, gN, gT, gC, gZ, outP, outF, outI, en0, stillE, Sl.still, Sl.own, Sl.put, p1, tupD, lstD, mkT, mkL, DL.e3, sl1, sl2, sl3, sl4, sl0, sl5, sl6, sl7, sl8, List.length_cons, List.length_nil, List.length_map, List.getElem?_cons_zero, List.getElem?_cons_succ, List.set_cons_zero, List.set_cons_succ, List.map_cons, List.map_nil, List.replicate, List.cons_append, List.nil_append, List.append_nil, Option.map_some, if_true, if_false, ite_true, ite_false, reduceIte, Nat.reduceAdd, Nat.reduceSub, Nat.reduceLeDiff, Nat.reduceEqDiff, Nat.sub_self, Nat.zero_add, Option.map_none, decide_true, decide_false, Bool.not_true, Bool.not_false, k1, ixX_line1, e, h4, h5, h6]
theorem in_ok {n : Nat} (hn : n < 8) {F : List Ln} (hF : ∀ l ∈ F, l.1 < 2 ^ n) : m_law_in [roomD n, flatD F] = some (.int (inN n F : Nat)) := by
  have h5 : ixX (roomD n) (.int 1) = some (.int (fullN n : Nat)) := ixX_t1 _ _ _
  obtain ⟨ρ', k1, s, rfl⟩ := sFor_T lineD F (it := (iSeq (eV 1))) (g := (gN 3)) (ψ := (sAsg 2 (e2 andD (eV 2) (eN m_law_held (aC (eV 0) (aC (eV 3) aN)))))) (ρ := [.d (roomD n), .d (flatD F), .d (.int (fullN n : Nat)), .u]) (ρ0 := [.d (roomD n), .d (flatD F), .d (.int (fullN n : Nat)), .u]) (by simp [DL.sWipe, DL.wipeF, DL.wipeL_nil, DL.wipeL_cons, DL.sFrz, DL.eChain, sQ, sIf, sN, qFz, qB, qAnd, qOr, qNot, qYes, e1, DL.e2, eV, eC, eN, eI, eIf, eAnd, eOr, eFz, eSl, oS, oN, aN, aC, aX, sAsg, sAsgO, sRet, sRetO, sRetN, sDrop, sSet, sSetX, sAugI, sMut, sPar, sPat, sParM, mN, mC, DL.setM, iSeq, iN, gN, gT, gC, gZ, outP, outF, outI, en0, stillE, Sl.still, Sl.own, Sl.put, p1, tupD, lstD, mkT, mkL, DL.e3, sl1, sl2, sl3, sl4, sl0, sl5, sl6, sl7, sl8, List.length_cons, List.length_nil, List.length_map, List.getElem?_cons_zero, List.getElem?_cons_succ, List.set_cons_zero, List.set_cons_succ, List.map_cons, List.map_nil, List.replicate, List.cons_append, List.nil_append, List.append_nil, Option.map_some, if_true, if_false, ite_true, ite_false, reduceIte, Nat.reduceAdd, Nat.reduceSub, Nat.reduceLeDiff, Nat.reduceEqDiff, Nat.sub_self, Nat.zero_add, Option.map_none, decide_true, decide_false, Bool.not_true, Bool.not_false, seqOf_flat])
    (fun dn ρ => ∃ s : Sl, ρ = [.d (roomD n), .d (flatD F), .d (.int ((dn.foldl (fun f l => f &&& heldN n l) (fullN n) : Nat) : Int)), s])
    ⟨.u, rfl⟩
    (fun dn l rest ρ ed ⟨s, e⟩ => by
      subst e
      have hl : l.1 < 2 ^ n := hF l (by rw [ed]; simp)
      refine ⟨[.d (roomD n), .d (flatD F), .d (.int ((dn.foldl (fun f l => f &&& heldN n l) (fullN n) : Nat) : Int)), .d (lineD l)], _, rfl, ?_, .d (lineD l), rfl⟩
      have h1 := held_ok hn hl
      have h3 := andD_nn (dn.foldl (fun f l => f &&& heldN n l) (fullN n)) (heldN n l)
      rw [List.foldl_append]
      generalize dn.foldl (fun f l => f &&& heldN n l) (fullN n) = g at h3
      simp [DL.sWipe, DL.wipeF, DL.wipeL_nil, DL.wipeL_cons, DL.sFrz, DL.eChain, sQ, sIf, sN, qFz, qB, qAnd, qOr, qNot, qYes, e1, DL.e2, eV, eC, eN, eI, eIf, eAnd, eOr, eFz, eSl, oS, oN, aN, aC, aX, sAsg, sAsgO, sRet, sRetO, sRetN, sDrop, sSet, sSetX, sAugI, sMut, sPar, sPat, sParM, mN, mC, DL.setM, iSeq, iN, gN, gT, gC, gZ, outP, outF, outI, en0, stillE, Sl.still, Sl.own, Sl.put, p1, tupD, lstD, mkT, mkL, DL.e3, sl1, sl2, sl3, sl4, sl0, sl5, sl6, sl7, sl8, List.length_cons, List.length_nil, List.length_map, List.getElem?_cons_zero, List.getElem?_cons_succ, List.set_cons_zero, List.set_cons_succ, List.map_cons, List.map_nil, List.replicate, List.cons_append, List.nil_append, List.append_nil, Option.map_some, if_true, if_false, ite_true, ite_false, reduceIte, Nat.reduceAdd, Nat.reduceSub, Nat.reduceLeDiff, Nat.reduceEqDiff, Nat.sub_self, Nat.zero_add, Option.map_none, decide_true, decide_false, Bool.not_true, Bool.not_false] at *
      simp [DL.sWipe, DL.wipeF, DL.wipeL_nil, DL.wipeL_cons, DL.sFrz, DL.eChain, sQ, sIf, sN, qFz, qB, qAnd, qOr, qNot, qYes, e1, DL.e2, eV, eC, eN, eI, eIf, eAnd, eOr, eFz, eSl, oS, oN, aN, aC, aX, sAsg, sAsgO, sRet, sRetO, sRetN, sDrop, sSet, sSetX, sAugI, sMut, sPar, sPat, sParM, mN, mC, DL.setM, iSeq, iN, gN, gT, gC, gZ, outP, outF, outI, en0, stillE, Sl.still, Sl.own, Sl.put, p1, tupD, lstD, mkT, mkL, DL.e3, sl1, sl2, sl3, sl4, sl0, sl5, sl6, sl7, sl8, List.length_cons, List.length_nil, List.length_map, List.getElem?_cons_zero, List.getElem?_cons_succ, List.set_cons_zero, List.set_cons_succ, List.map_cons, List.map_nil, List.replicate, List.cons_append, List.nil_append, List.append_nil, Option.map_some, if_true, if_false, ite_true, ite_false, reduceIte, Nat.reduceAdd, Nat.reduceSub, Nat.reduceLeDiff, Nat.reduceEqDiff, Nat.sub_self, Nat.zero_add, Option.map_none, decide_true, decide_false, Bool.not_true, Bool.not_false, h1, h3])
  have h7 : (F.foldl (fun f l => f &&& heldN n l) (fullN n) : Nat) = inN n F := rfl
  rw [h7] at k1
  simp [m_law_in, runP, b_law_in, DL.sWipe, DL.wipeF, DL.wipeL_nil, DL.wipeL_cons, DL.sFrz, DL.eChain, sQ, sIf, sN, qFz, qB, qAnd, qOr, qNot, qYes, e1, DL.e2, eV, eC, eN, eI, eIf, eAnd, eOr, eFz, eSl, oS, oN, aN, aC, aX, sAsg, sAsgO, sRet, sRetO, sRetN, sDrop, sSet, sSetX, sAugI, sMut, sPar, sPat, sParM, mN, mC, DL.setM, iSeq, iN, gN, gT, gC, gZ, outP, outF, outI, en0, stillE, Sl.still, Sl.own, Sl.put, p1, tupD, lstD, mkT, mkL, DL.e3, sl1, sl2, sl3, sl4, sl0, sl5, sl6, sl7, sl8, List.length_cons, List.length_nil, List.length_map, List.getElem?_cons_zero, List.getElem?_cons_succ, List.set_cons_zero, List.set_cons_succ, List.map_cons, List.map_nil, List.replicate, List.cons_append, List.nil_append, List.append_nil, Option.map_some, if_true, if_false, ite_true, ite_false, reduceIte, Nat.reduceAdd, Nat.reduceSub, Nat.reduceLeDiff, Nat.reduceEqDiff, Nat.sub_self, Nat.zero_add, Option.map_none, decide_true, decide_false, Bool.not_true, Bool.not_false, h5, k1]
theorem rng_ok {n : Nat} (h : n ≤ 16777216) : rng1 [.int (n : Int)] = some ((List.range n).map fun u : Nat => PyData.int (u : Int)) := by
  show (if -(2 ^ 62) ≤ (n : Int) ∧ (n : Int) ≤ 16777216 then some (upI 0 (n : Int).toNat) else none) = _
  rw [if_pos ⟨by omega, by omega⟩, Int.toNat_natCast]
  unfold upI
  simp
theorem cut_tail (x : PyData) (t : List PyData) : cutD (x :: t) (some 1) none = t := by
  have h1 : HT.sIx (x :: t).length 0 (some 1) = 1 := by
    unfold HT.sIx
    simp
  have h2 : HT.sIx (x :: t).length (x :: t).length none = (x :: t).length := rfl
  unfold cutD
  rw [h1, h2, List.drop_one, List.tail_cons, List.length_cons]
  simp
end LX
namespace LX
open PySem L2 DL FL
/-- the row of a line is led down by the heads -/
theorem lead_ok {G : List Ln} (nd : (G.map fun l => hd l.1).Nodup) {s0 s2 s6 : Sl} : ∀ (S : List Ln) (m : Nat) (b : Bool) (s5 : Sl), (∀ l ∈ S, l ∈ G) → ∃ t5,
    forD (gN 5) (sIf (qB (e2 eqD (e2 andD (e2 shrD (eV 4) (eV 5)) (eC (.int 1))) (eC (.int 1)))) (sPar 4 3 (aC (eFz (e2 xorD (eV 4) (e2 ixX (e2 ixX (eV 1) (eV 5)) (eC (.int 0))))) (aC (eFz (e2 xorD (eV 3) (e2 ixX (e2 ixX (eV 1) (eV 5)) (eC (.int 1))))) aN))) sN) (S.map fun l => PyData.int (hd l.1 : Nat)) [s0, .o (dictD G), s2, .d (bitD b), .d (.int (m : Nat)), s5, s6] = some (.nx [s0, .o (dictD G), s2, .d (bitD (led S m b).2), .d (.int ((led S m b).1 : Nat)), t5, s6]) := by
  intro S
  induction S with
  | nil => intro m b s5 _; exact ⟨s5, rfl⟩
  | cons l S ih =>
    intro m b s5 hS
    have hl := hS l (List.mem_cons_self ..)
    obtain ⟨u, c, h1, h2, h3⟩ := bit_test3 m (hd l.1)
    have g := ix_dict nd hl
    have x0 := ix_ent0 l
    have x1 := ix_ent1 l
    have x2 := xorD_nn m l.1
    have x3 := xor_bit b l.2
    rw [List.map_cons]
    unfold led
    by_cases hb : m.testBit (hd l.1) = true
    · rw [if_pos hb]
      obtain ⟨t5, h⟩ := ih (m ^^^ l.1) (b ^^ l.2) (.d (.int (hd l.1 : Nat))) fun k hk => hS k (List.mem_cons_of_mem _ hk)
      refine ⟨t5, ?_⟩
      rw [forD_go (ρ1 := [s0, .o (dictD G), s2, .d (bitD b), .d (.int (m : Nat)), .d (.int (hd l.1 : Nat)), s6]) rfl (ρ2 := [s0, .o (dictD G), s2, .d (bitD (b ^^ l.2)), .d (.int ((m ^^^ l.1 : Nat) : Int)), .d (.int (hd l.1 : Nat)), s6]) ?_]
      · exact h
      · rw [hb] at h3
        have f1 : ∀ i : Int, DL.flatB (.int i) = true := fun _ => rfl
        have f2 : DL.flatB (bitD (b ^^ l.2)) = true := by cases (b ^^ l.2) <;> rfl
        generalize (m ^^^ l.1) = z at x2
        generalize (b ^^ l.2) = y at x3 f2
        simp [DL.sWipe, DL.wipeF, DL.wipeL_nil, DL.wipeL_cons, DL.sFrz, DL.eChain, sQ, sIf, sN, qFz, qB, qAnd, qOr, qNot, qYes, e1, DL.e2, eV, eC, eN, eI, eIf, eAnd, eOr, eFz, eSl, oS, oN, aN, aC, aX, sAsg, sAsgO, sRet, sRetO, sRetN, sDrop, sSet, sSetX, sAugI, sMut, sPar, sPat, sParM, mN, mC, DL.setM, iSeq, iN, gN, gT, gC, gZ, outP, outF, outI, en0, stillE, Sl.still, Sl.own, Sl.put, p1, tupD, lstD, mkT, mkL, DL.e3, sl1, sl2, sl3, sl4, sl0, sl5, sl6, sl7, sl8, List.length_cons, List.length_nil, List.length_map, List.getElem?_cons_zero, List.getElem?_cons_succ, List.set_cons_zero, List.set_cons_succ, List.map_cons, List.map_nil, List.replicate, List.cons_append, List.nil_append, List.append_nil, Option.map_some, if_true, if_false, ite_true, ite_false, reduceIte, Nat.reduceAdd, Nat.reduceSub, Nat.reduceLeDiff, Nat.reduceEqDiff, Nat.sub_self, Nat.zero_add, Option.map_none, decide_true, decide_false, Bool.not_true, Bool.not_false, h1, h2, h3, g, x0, x1, x2, x3, f1, f2]
    · rw [if_neg hb]
      obtain ⟨t5, h⟩ := ih m b (.d (.int (hd l.1 : Nat))) fun k hk => hS k (List.mem_cons_of_mem _ hk)
      refine ⟨t5, ?_⟩
      rw [forD_go (ρ1 := [s0, .o (dictD G), s2, .d (bitD b), .d (.int (m : Nat)), .d (.int (hd l.1 : Nat)), s6]) rfl (ρ2 := [s0, .o (dictD G), s2, .d (bitD b), .d (.int (m : Nat)), .d (.int (hd l.1 : Nat)), s6]) ?_]
      · exact h
      · have hb' : m.testBit (hd l.1) = false := by simpa using hb
        rw [hb'] at h3
        simp [DL.sWipe, DL.wipeF, DL.wipeL_nil, DL.wipeL_cons, DL.sFrz, DL.eChain, sQ, sIf, sN, qFz, qB, qAnd, qOr, qNot, qYes, e1, DL.e2, eV, eC, eN, eI, eIf, eAnd, eOr, eFz, eSl, oS, oN, aN, aC, aX, sAsg, sAsgO, sRet, sRetO, sRetN, sDrop, sSet, sSetX, sAugI, sMut, sPar, sPat, sParM, mN, mC, DL.setM, iSeq, iN, gN, gT, gC, gZ, outP, outF, outI, en0, stillE, Sl.still, Sl.own, Sl.put, p1, tupD, lstD, mkT, mkL, DL.e3, sl1, sl2, sl3, sl4, sl0, sl5, sl6, sl7, sl8, List.length_cons, List.length_nil, List.length_map, List.getElem?_cons_zero, List.getElem?_cons_succ, List.set_cons_zero, List.set_cons_succ, List.map_cons, List.map_nil, List.replicate, List.cons_append, List.nil_append, List.append_nil, Option.map_some, if_true, if_false, ite_true, ite_false, reduceIte, Nat.reduceAdd, Nat.reduceSub, Nat.reduceLeDiff, Nat.reduceEqDiff, Nat.sub_self, Nat.zero_add, Option.map_none, decide_true, decide_false, Bool.not_true, Bool.not_false, h1, h2, h3]
def modL (m : Nat) (b : Bool) (l : Ln) : Ln := if l.1.testBit (hd m) = true then (l.1 ^^^ m, l.2 ^^ b) else l
def modS (m : Nat) (b : Bool) (G : List Ln) (dn : List Ln) : List Ln := G.map fun l => if l ∈ dn then modL m b l else l
/-- the heads are cleared of the new one -/
theorem clear_ok {G : List Ln} (r : Rr G) {m : Nat} {b : Bool} (m0 : m ≠ 0) (m1 : m < 2 ^ 16) (mf : ∀ l ∈ G, m.testBit (hd l.1) = false) {s0 s2 : Sl} : ∀ (S dn : List Ln) (s5 : Sl), (∀ l ∈ S, l ∈ G) → (∀ l ∈ S, l ∉ dn) → S.Nodup → ∃ t5,
    forD (gN 5) (sIf (qFz (qB (e2 eqD (e2 andD (e2 shrD (e2 ixX (e2 ixX (eV 1) (eV 5)) (eC (.int 0))) (eV 6)) (eC (.int 1))) (eC (.int 1))))) (sSetX 1 (eV 5) (eFz (eN mkT (aC (e2 xorD (e2 ixX (e2 ixX (eV 1) (eV 5)) (eC (.int 0))) (eV 4)) (aC (e2 xorD (e2 ixX (e2 ixX (eV 1) (eV 5)) (eC (.int 1))) (eV 3)) aN))))) sN) (S.map fun l => PyData.int (hd l.1 : Nat)) [s0, .o (dictD (modS m b G dn)), s2, .d (bitD b), .d (.int (m : Nat)), s5, .d (.int (hd m : Nat))] = some (.nx [s0, .o (dictD (modS m b G (dn ++ S))), s2, .d (bitD b), .d (.int (m : Nat)), t5, .d (.int (hd m : Nat))]) := by
  intro S
  have hh : ∀ l ∈ G, hd (modL m b l).1 = hd l.1 := fun l hl => put1_head r m0 m1 mf hl
  have hmap : ∀ dn, (modS m b G dn).map (fun l => hd l.1) = G.map fun l => hd l.1 := fun dn => by
    unfold modS
    rw [List.map_map]
    refine List.map_congr_left fun l hl => ?_
    show hd (if l ∈ dn then modL m b l else l).1 = hd l.1
    split
    · exact hh l hl
    · rfl
  have hlen : ∀ dn, (modS m b G dn).length < 16777216 := fun dn => by
    have := rr_len r
    unfold modS
    rw [List.length_map]; omega
  induction S with
  | nil => intro dn s5 _ _ _; exact ⟨s5, by rw [List.append_nil]; rfl⟩
  | cons l S ih =>
    intro dn s5 hS hd' nS
    rw [List.nodup_cons] at nS
    have hl := hS l (List.mem_cons_self ..)
    have hnot := hd' l (List.mem_cons_self ..)
    have nd : ((modS m b G dn).map fun l => hd l.1).Nodup := by rw [hmap]; exact r.nod
    have hin : l ∈ modS m b G dn := List.mem_map.mpr ⟨l, hl, by rw [if_neg hnot]⟩
    obtain ⟨u, c, h1, h2, h3⟩ := bit_test3 l.1 (hd m)
    have g := ix_dict nd hin
    have x0 := ix_ent0 l
    have x1 := ix_ent1 l
    have x2 := xorD_nn l.1 m
    have x3 := xor_bit l.2 b
    have uniq : ∀ k ∈ G, hd k.1 = hd l.1 → k = l := fun k hk e => by
      have f1 := find_head r.nod hk
      have f2 := find_head r.nod hl
      rw [e] at f1
      rw [f1] at f2
      exact Option.some.inj f2
    obtain ⟨t5, h⟩ := ih (dn ++ [l]) (.d (.int (hd l.1 : Nat))) (fun k hk => hS k (List.mem_cons_of_mem _ hk)) (fun k hk z => by
      rcases List.mem_append.mp z with z | z
      · exact hd' k (List.mem_cons_of_mem _ hk) z
      · rw [List.mem_singleton.mp z] at hk; exact nS.1 hk) nS.2
    rw [List.append_assoc] at h
    refine ⟨t5, ?_⟩
    rw [List.map_cons]
    have next : modS m b G (dn ++ [l]) = (modS m b G dn).map fun k => if hd k.1 = hd l.1 then modL m b l else k := by
      unfold modS
      rw [List.map_map]
      refine List.map_congr_left fun k hk => ?_
      show (if k ∈ dn ++ [l] then modL m b k else k) = if hd (if k ∈ dn then modL m b k else k).1 = hd l.1 then modL m b l else (if k ∈ dn then modL m b k else k)
      have e1 : hd (if k ∈ dn then modL m b k else k).1 = hd k.1 := by
        split
        · exact hh k hk
        · rfl
      rw [e1]
      by_cases e : hd k.1 = hd l.1
      · have := uniq k hk e
        subst this
        rw [if_pos rfl, if_pos (by simp)]
      · rw [if_neg e]
        have : k ≠ l := fun z => e (by rw [z])
        simp [this]
    have e0 : (gN 5) (.int (hd l.1 : Nat)) [s0, .o (dictD (modS m b G dn)), s2, .d (bitD b), .d (.int (m : Nat)), s5, .d (.int (hd m : Nat))] = some [s0, .o (dictD (modS m b G dn)), s2, .d (bitD b), .d (.int (m : Nat)), .d (.int (hd l.1 : Nat)), .d (.int (hd m : Nat))] := rfl
    cases hb : l.1.testBit (hd m) with
    | true =>
      rw [hb] at h3
      have hm : modL m b l = (l.1 ^^^ m, l.2 ^^ b) := by unfold modL; rw [if_pos hb]
      have st := set_dict (hlen dn) (l2 := (l.1 ^^^ m, l.2 ^^ b)) hin nd (by rw [← hm]; exact hh l hl)
      rw [← hm] at st
      rw [← next, hm] at st
      rw [forD_go e0 (ρ2 := [s0, .o (dictD (modS m b G (dn ++ [l]))), s2, .d (bitD b), .d (.int (m : Nat)), .d (.int (hd l.1 : Nat)), .d (.int (hd m : Nat))]) ?_]
      · exact h
      · have f2 : DL.flatB (.tuple [.int ((l.1 ^^^ m : Nat) : Int), bitD (l.2 ^^ b)]) = true := by cases (l.2 ^^ b) <;> rfl
        have st' : setXD (dictD (modS m b G dn)) (.int (hd l.1 : Nat)) (.tuple [.int ((l.1 ^^^ m : Nat) : Int), bitD (l.2 ^^ b)]) = some (dictD (modS m b G (dn ++ [l]))) := st
        generalize (l.1 ^^^ m) = z at x2 st' f2
        generalize (l.2 ^^ b) = y at x3 st' f2
        generalize dictD (modS m b G dn) = D at g st'
        generalize dictD (modS m b G (dn ++ [l])) = D2 at st'
        simp [DL.sWipe, DL.wipeF, DL.wipeL_nil, DL.wipeL_cons, DL.sFrz, DL.eChain, sQ, sIf, sN, qFz, qB, qAnd, qOr, qNot, qYes, e1, DL.e2, eV, eC, eN, eI, eIf, eAnd, eOr, eFz, eSl, oS, oN, aN, aC, aX, sAsg, sAsgO, sRet, sRetO, sRetN, sDrop, sSet, sSetX, sAugI, sMut, sPar, sPat, sParM, mN, mC, DL.setM, iSeq, iN, gN, gT, gC, gZ, outP, outF, outI, en0, stillE, Sl.still, Sl.own, Sl.put, p1, tupD, lstD, mkT, mkL, DL.e3, sl1, sl2, sl3, sl4, sl0, sl5, sl6, sl7, sl8, List.length_cons, List.length_nil, List.length_map, List.getElem?_cons_zero, List.getElem?_cons_succ, List.set_cons_zero, List.set_cons_succ, List.map_cons, List.map_nil, List.replicate, List.cons_append, List.nil_append, List.append_nil, Option.map_some, if_true, if_false, ite_true, ite_false, reduceIte, Nat.reduceAdd, Nat.reduceSub, Nat.reduceLeDiff, Nat.reduceEqDiff, Nat.sub_self, Nat.zero_add, Option.map_none, decide_true, decide_false, Bool.not_true, Bool.not_false, h1, h2, h3, g, x0, x1, x2, x3, f2, st']
    | false =>
      rw [hb] at h3
      have hm : modL m b l = l := by unfold modL; rw [if_neg (by rw [hb]; decide)]
      have same : modS m b G (dn ++ [l]) = modS m b G dn := by
        unfold modS
        refine List.map_congr_left fun k hk => ?_
        by_cases e : k = l
        · subst e
          rw [if_pos (by simp), if_neg hnot, hm]
        · simp [e]
      rw [same] at h
      rw [forD_go e0 (ρ2 := [s0, .o (dictD (modS m b G dn)), s2, .d (bitD b), .d (.int (m : Nat)), .d (.int (hd l.1 : Nat)), .d (.int (hd m : Nat))]) ?_]
      · exact h
      · generalize dictD (modS m b G dn) = D at g
        simp [DL.sWipe, DL.wipeF, DL.wipeL_nil, DL.wipeL_cons, DL.sFrz, DL.eChain, sQ, sIf, sN, qFz, qB, qAnd, qOr, qNot, qYes, e1, DL.e2, eV, eC, eN, eI, eIf, eAnd, eOr, eFz, eSl, oS, oN, aN, aC, aX, sAsg, sAsgO, sRet, sRetO, sRetN, sDrop, sSet, sSetX, sAugI, sMut, sPar, sPat, sParM, mN, mC, DL.setM, iSeq, iN, gN, gT, gC, gZ, outP, outF, outI, en0, stillE, Sl.still, Sl.own, Sl.put, p1, tupD, lstD, mkT, mkL, DL.e3, sl1, sl2, sl3, sl4, sl0, sl5, sl6, sl7, sl8, List.length_cons, List.length_nil, List.length_map, List.getElem?_cons_zero, List.getElem?_cons_succ, List.set_cons_zero, List.set_cons_succ, List.map_cons, List.map_nil, List.replicate, List.cons_append, List.nil_append, List.append_nil, Option.map_some, if_true, if_false, ite_true, ite_false, reduceIte, Nat.reduceAdd, Nat.reduceSub, Nat.reduceLeDiff, Nat.reduceEqDiff, Nat.sub_self, Nat.zero_add, Option.map_none, decide_true, decide_false, Bool.not_true, Bool.not_false, h1, h2, h3, g, x0]
theorem sorted_it {G S : List Ln} (h : sortX (dictD G) = some (.list (S.map fun l => PyData.int (hd l.1 : Nat)))) {s0 s2 s3 s4 s5 s6 : Sl} : iSeq (eFl (eN (p1 sortX) (aC (eV 1) aN))) [s0, .o (dictD G), s2, s3, s4, s5, s6] = some (S.map fun l => PyData.int (hd l.1 : Nat), [s0, .o (dictD G), s2, s3, s4, s5, s6]) := by
  have e : eFl (eN (p1 sortX) (aC (eV 1) aN)) [s0, .o (dictD G), s2, s3, s4, s5, s6] = some (.list (S.map fun l => PyData.int (hd l.1 : Nat)), [s0, .o (dictD G), s2, s3, s4, s5, s6]) := by
    refine eFl_ok ?_ ?_
    · simp [DL.sWipe, DL.wipeF, DL.wipeL_nil, DL.wipeL_cons, DL.sFrz, DL.eChain, sQ, sIf, sN, qFz, qB, qAnd, qOr, qNot, qYes, e1, DL.e2, eV, eC, eN, eI, eIf, eAnd, eOr, eFz, eSl, oS, oN, aN, aC, aX, sAsg, sAsgO, sRet, sRetO, sRetN, sDrop, sSet, sSetX, sAugI, sMut, sPar, sPat, sParM, mN, mC, DL.setM, iSeq, iN, gN, gT, gC, gZ, outP, outF, outI, en0, stillE, Sl.still, Sl.own, Sl.put, p1, tupD, lstD, mkT, mkL, DL.e3, sl1, sl2, sl3, sl4, sl0, sl5, sl6, sl7, sl8, List.length_cons, List.length_nil, List.length_map, List.getElem?_cons_zero, List.getElem?_cons_succ, List.set_cons_zero, List.set_cons_succ, List.map_cons, List.map_nil, List.replicate, List.cons_append, List.nil_append, List.append_nil, Option.map_some, if_true, if_false, ite_true, ite_false, reduceIte, Nat.reduceAdd, Nat.reduceSub, Nat.reduceLeDiff, Nat.reduceEqDiff, Nat.sub_self, Nat.zero_add, Option.map_none, decide_true, decide_false, Bool.not_true, Bool.not_false, h]
    · have := nats_flat (S.map fun l => hd l.1)
      unfold natsD at this
      rw [List.map_map] at this
      exact this
  unfold iSeq
  rw [e]
  rfl
/-- one line put to the heads -/
theorem line_ok {n : Nat} (hn : n ≤ 16) {G : List Ln} (r : Rr G) (hG : ∀ l ∈ G, l.1 < 2 ^ n) {l : Ln} (hl : l.1 < 2 ^ n) (x0 : Pt) (hx : Holds G x0) (hd0 : dot l.1 x0 = l.2) {s0 s4 s5 s6 : Sl} : ∃ (G2 : List Ln) (t3 t4 t5 t6 : Sl),
    (sQ (sAsg 4 (eN m_law_mask (aC (eV 2) aN))) (sQ (sFor (iSeq (eFl (eN (p1 sortX) (aC (eV 1) aN)))) (gN 5) (sIf (qB (e2 eqD (e2 andD (e2 shrD (eV 4) (eV 5)) (eC (.int 1))) (eC (.int 1)))) (sPar 4 3 (aC (eFz (e2 xorD (eV 4) (e2 ixX (e2 ixX (eV 1) (eV 5)) (eC (.int 0))))) (aC (eFz (e2 xorD (eV 3) (e2 ixX (e2 ixX (eV 1) (eV 5)) (eC (.int 1))))) aN))) sN)) (sQ (sIf (qAnd (qB (e2 eqD (eV 4) (eC (.int 0)))) (qB (e2 eqD (eV 3) (eC (.int 1))))) (sRet (eC .none)) sN) (sIf (qB (e2 gtI (eV 4) (eC (.int 0)))) (sQ (sAsg 6 (e2 subD (e1 bitsD (e2 andD (eV 4) (e1 negD (eV 4)))) (eC (.int 1)))) (sQ (sFor (iSeq (eFl (eN (p1 sortX) (aC (eV 1) aN)))) (gN 5) (sIf (qFz (qB (e2 eqD (e2 andD (e2 shrD (e2 ixX (e2 ixX (eV 1) (eV 5)) (eC (.int 0))) (eV 6)) (eC (.int 1))) (eC (.int 1))))) (sSetX 1 (eV 5) (eFz (eN mkT (aC (e2 xorD (e2 ixX (e2 ixX (eV 1) (eV 5)) (eC (.int 0))) (eV 4)) (aC (e2 xorD (e2 ixX (e2 ixX (eV 1) (eV 5)) (eC (.int 1))) (eV 3)) aN))))) sN)) (sSetX 1 (eV 6) (eN mkT (aC (eV 4) (aC (eV 3) aN)))))) sN)))) [s0, .o (dictD G), .d (rowD l.1), .d (bitD l.2), s4, s5, s6] = some (.nx [s0, .o (dictD G2), .d (rowD l.1), t3, t4, t5, t6]) ∧ Rr G2 ∧ (∀ k ∈ G2, k.1 < 2 ^ n) ∧ G2.length ≤ G.length + 1 ∧ ∀ x, Holds G2 x ↔ Holds G x ∧ dot l.1 x = l.2 := by
  have p16 : (2 : Nat) ^ n ≤ 2 ^ 16 := Nat.pow_le_pow_right (by decide) hn
  obtain ⟨S, hS, hs⟩ := sort_heads G (by have := rr_len r; omega)
  have rS := r.perm hS
  have hm := mask_ok (Nat.lt_of_lt_of_le hl p16)
  have it := fun (s2 s3 s4 s5 s6 : Sl) => sorted_it hs (s0 := s0) (s2 := s2) (s3 := s3) (s4 := s4) (s5 := s5) (s6 := s6)
  obtain ⟨t5, k1⟩ := lead_ok r.nod (s0 := s0) (s2 := .d (rowD l.1)) (s6 := s6) S l.1 l.2 s5 fun k hk => hS.mem_iff.mp hk
  have k2 : sFor (iSeq (eFl (eN (p1 sortX) (aC (eV 1) aN)))) (gN 5) (sIf (qB (e2 eqD (e2 andD (e2 shrD (eV 4) (eV 5)) (eC (.int 1))) (eC (.int 1)))) (sPar 4 3 (aC (eFz (e2 xorD (eV 4) (e2 ixX (e2 ixX (eV 1) (eV 5)) (eC (.int 0))))) (aC (eFz (e2 xorD (eV 3) (e2 ixX (e2 ixX (eV 1) (eV 5)) (eC (.int 1))))) aN))) sN) [s0, .o (dictD G), .d (rowD l.1), .d (bitD l.2), .d (.int (l.1 : Nat)), s5, s6] = _ := (sFor_eq (it _ _ _ _ _)).trans k1
  have lt := led_ltn (w := l.2) (fun k hk => hG k (hS.mem_iff.mp hk)) hl
  have lh := led_heads (m := l.1) (w := l.2) rS
  have lh' : ∀ k ∈ G, (led S l.1 l.2).1.testBit (hd k.1) = false := fun k hk => lh k (hS.mem_iff.mpr hk)
  have lw : ∀ x, Holds G x → (dot (led S l.1 l.2).1 x ^^ (led S l.1 l.2).2) = (dot l.1 x ^^ l.2) := fun x hx => led_worth ((holds_perm hS).mpr hx)
  generalize (led S l.1 l.2).1 = m at k2 lt lh lh' lw
  generalize (led S l.1 l.2).2 = b at k2 lw
  have z1 := eqD_nat m 0
  have z2 : eqD (bitD b) (.int 1) = some (.bool b) := by unfold bitD; rw [eqD_int]; cases b <;> rfl
  have z3 : gtI (.int (m : Nat)) (.int 0) = some (.bool (decide (0 < m))) := by
    show some (PyData.bool (decide ((0 : Int) < (m : Int)))) = _
    congr 2
    simp only [decide_eq_decide]
    omega
  have z1' : eqD (.int (m : Nat)) (.int 0) = some (.bool (decide (m = 0))) := z1
  by_cases m0 : m = 0
  · have b0 : b = false := by
      have := lw x0 hx
      rw [m0, dot_zero, hd0] at this
      revert this
      cases b <;> cases l.2 <;> simp
    refine ⟨G, .d (bitD b), .d (.int (m : Nat)), t5, s6, ?_, r, hG, Nat.le_succ _, fun x => ⟨fun h => ⟨h, ?_⟩, fun h => h.1⟩⟩
    · rw [decide_eq_true m0] at z1'
      rw [decide_eq_false (by omega)] at z3
      subst b0
      generalize (m : Int) = mi at *
      simp [DL.sWipe, DL.wipeF, DL.wipeL_nil, DL.wipeL_cons, DL.sFrz, DL.eChain, sQ, sIf, sN, qFz, qB, qAnd, qOr, qNot, qYes, e1, DL.e2, eV, eC, eN, eI, eIf, eAnd, eOr, eFz, eSl, oS, oN, aN, aC, aX, sAsg, sAsgO, sRet, sRetO, sRetN, sDrop, sSet, sSetX, sAugI, sMut, sPar, sPat, sParM, mN, mC, DL.setM, iSeq, iN, gN, gT, gC, gZ, outP, outF, outI, en0, stillE, Sl.still, Sl.own, Sl.put, p1, tupD, lstD, mkT, mkL, DL.e3, sl1, sl2, sl3, sl4, sl0, sl5, sl6, sl7, sl8, List.length_cons, List.length_nil, List.length_map, List.getElem?_cons_zero, List.getElem?_cons_succ, List.set_cons_zero, List.set_cons_succ, List.map_cons, List.map_nil, List.replicate, List.cons_append, List.nil_append, List.append_nil, Option.map_some, if_true, if_false, ite_true, ite_false, reduceIte, Nat.reduceAdd, Nat.reduceSub, Nat.reduceLeDiff, Nat.reduceEqDiff, Nat.sub_self, Nat.zero_add, Option.map_none, decide_true, decide_false, Bool.not_true, Bool.not_false, hm, k2, z1', z2, z3]
    · have := lw x h
      rw [m0, dot_zero, b0] at this
      revert this
      cases dot l.1 x <;> cases l.2 <;> simp
  · have m16 := Nat.lt_of_lt_of_le lt p16
    obtain ⟨t5', k3⟩ := clear_ok r (b := b) m0 m16 lh' (s0 := s0) (s2 := .d (rowD l.1)) S [] t5 (fun k hk => hS.mem_iff.mp hk) (fun _ _ h => by cases h) (by
      have := rS.nod
      exact List.Pairwise.of_map (fun l : Ln => hd l.1) (fun a b h e => h (by rw [e])) this)
    have m1 : modS m b G [] = G := by
      unfold modS
      simp
    have m2 : modS m b G ([] ++ S) = G.map (modL m b) := by
      unfold modS
      refine List.map_congr_left fun k hk => ?_
      rw [if_pos (by rw [List.nil_append]; exact hS.mem_iff.mpr hk)]
    rw [m1, m2] at k3
    have k4 : sFor (iSeq (eFl (eN (p1 sortX) (aC (eV 1) aN)))) (gN 5) (sIf (qFz (qB (e2 eqD (e2 andD (e2 shrD (e2 ixX (e2 ixX (eV 1) (eV 5)) (eC (.int 0))) (eV 6)) (eC (.int 1))) (eC (.int 1))))) (sSetX 1 (eV 5) (eFz (eN mkT (aC (e2 xorD (e2 ixX (e2 ixX (eV 1) (eV 5)) (eC (.int 0))) (eV 4)) (aC (e2 xorD (e2 ixX (e2 ixX (eV 1) (eV 5)) (eC (.int 1))) (eV 3)) aN))))) sN) [s0, .o (dictD G), .d (rowD l.1), .d (bitD b), .d (.int (m : Nat)), t5, .d (.int (hd m : Nat))] = _ := (sFor_eq (it _ _ _ _ _)).trans k3
    have hp : (G.map (modL m b) ++ [(m, b)]).Perm (put1 G m b) := List.perm_append_comm
    have hlen := rr_len r
    have ad : setXD (dictD (G.map (modL m b))) (.int (hd m : Nat)) (entD (m, b)) = some (dictD (G.map (modL m b) ++ [(m, b)])) := by
      refine add_dict (G := G.map (modL m b)) (l := (m, b)) (by rw [List.length_map]; omega) fun k hk => ?_
      obtain ⟨j, hj, rfl⟩ := List.mem_map.mp hk
      have e1 : hd (modL m b j).1 = hd j.1 := put1_head r m0 m16 lh' hj
      rw [e1]
      intro z
      have := lh' j hj
      rw [z, (hd_some m0 m16).1] at this
      cases this
    have ad' : setXD (dictD (G.map (modL m b))) (.int (hd m : Nat)) (.tuple [.int (m : Nat), bitD b]) = some (dictD (G.map (modL m b) ++ [(m, b)])) := ad
    refine ⟨G.map (modL m b) ++ [(m, b)], .d (bitD b), .d (.int (m : Nat)), t5', .d (.int (hd m : Nat)), ?_, (put1_rr r m0 m16 lh').perm hp, fun k hk => put1_ltn hG lt k (hp.mem_iff.mp hk), by rw [hp.length_eq, put1_len]; exact Nat.le_refl _, fun x => ?_⟩
    · rw [decide_eq_false m0] at z1'
      rw [decide_eq_true (by omega)] at z3
      have y1 : negD (.int (m : Nat)) = some (.int (-(m : Int))) := rfl
      have y2 : andD (.int (m : Nat)) (.int (-(m : Int))) = some (.int ((2 ^ hd m : Nat) : Int)) := by
        show some (PyData.int (Builtin.bitAnd (m : Int) (-(m : Int)))) = _
        rw [low_bit m0 m16]
      have y3 : bitsD (.int ((2 ^ hd m : Nat) : Int)) = some (.int ((hd m + 1 : Nat) : Int)) := by
        show some (PyData.int ((Builtin.Int.intBits ((2 ^ hd m : Nat) : Int) : Nat) : Int)) = _
        rw [bits_pow]
      have y4 : subD (.int ((hd m + 1 : Nat) : Int)) (.int 1) = some (.int ((hd m : Nat) : Int)) := by
        show some (PyData.int (((hd m + 1 : Nat) : Int) - 1)) = _
        congr 2
        omega
      generalize ((2 ^ hd m : Nat) : Int) = w1 at y2 y3
      generalize ((hd m + 1 : Nat) : Int) = w2 at y3 y4
      generalize ((hd m : Nat) : Int) = w3 at y4 k4 ad'
      generalize -(m : Int) = w4 at y1 y2
      generalize (m : Int) = w5 at *
      generalize dictD (G.map (modL m b)) = D1 at k4 ad'
      generalize dictD (G.map (modL m b) ++ [(m, b)]) = D2 at ad'
      simp [DL.sWipe, DL.wipeF, DL.wipeL_nil, DL.wipeL_cons, DL.sFrz, DL.eChain, sQ, sIf, sN, qFz, qB, qAnd, qOr, qNot, qYes, e1, DL.e2, eV, eC, eN, eI, eIf, eAnd, eOr, eFz, eSl, oS, oN, aN, aC, aX, sAsg, sAsgO, sRet, sRetO, sRetN, sDrop, sSet, sSetX, sAugI, sMut, sPar, sPat, sParM, mN, mC, DL.setM, iSeq, iN, gN, gT, gC, gZ, outP, outF, outI, en0, stillE, Sl.still, Sl.own, Sl.put, p1, tupD, lstD, mkT, mkL, DL.e3, sl1, sl2, sl3, sl4, sl0, sl5, sl6, sl7, sl8, List.length_cons, List.length_nil, List.length_map, List.getElem?_cons_zero, List.getElem?_cons_succ, List.set_cons_zero, List.set_cons_succ, List.map_cons, List.map_nil, List.replicate, List.cons_append, List.nil_append, List.append_nil, Option.map_some, if_true, if_false, ite_true, ite_false, reduceIte, Nat.reduceAdd, Nat.reduceSub, Nat.reduceLeDiff, Nat.reduceEqDiff, Nat.sub_self, Nat.zero_add, Option.map_none, decide_true, decide_false, Bool.not_true, Bool.not_false, hm, k2, z1', z3, y1, y2, y3, y4, k4, ad']
    · rw [holds_perm hp, put1_holds]
      refine and_congr_right fun hx => ?_
      have := lw x hx
      revert this
      cases dot m x <;> cases b <;> cases dot l.1 x <;> cases l.2 <;> simp
theorem flat_of_ok2 {n : Nat} (hn : n ≤ 16) {L : List Ln} (hL : ∀ l ∈ L, l.1 < 2 ^ n) (x0 : Pt) (hx : Holds L x0) : ∃ T, m_law_flat_of [.list (L.map lineD)] = some (flatD T) ∧ Srt T ∧ Rr T ∧ (∀ k ∈ T, k.1 < 2 ^ n) ∧ T.length ≤ L.length ∧ ∀ x, Holds T x ↔ Holds L x := by
  have p16 : (2 : Nat) ^ n ≤ 2 ^ 16 := Nat.pow_le_pow_right (by decide) hn
  obtain ⟨ρ', k1, G, s2, s3, s4, s5, s6, rfl, r, hG, hlen, hol⟩ := sFor_T lineD L (it := (iSeq (eV 0))) (g := (gT 2 (gC (gN 2) (gC (gN 3) gZ)))) (ψ := (sQ (sAsg 4 (eN m_law_mask (aC (eV 2) aN))) (sQ (sFor (iSeq (eFl (eN (p1 sortX) (aC (eV 1) aN)))) (gN 5) (sIf (qB (e2 eqD (e2 andD (e2 shrD (eV 4) (eV 5)) (eC (.int 1))) (eC (.int 1)))) (sPar 4 3 (aC (eFz (e2 xorD (eV 4) (e2 ixX (e2 ixX (eV 1) (eV 5)) (eC (.int 0))))) (aC (eFz (e2 xorD (eV 3) (e2 ixX (e2 ixX (eV 1) (eV 5)) (eC (.int 1))))) aN))) sN)) (sQ (sIf (qAnd (qB (e2 eqD (eV 4) (eC (.int 0)))) (qB (e2 eqD (eV 3) (eC (.int 1))))) (sRet (eC .none)) sN) (sIf (qB (e2 gtI (eV 4) (eC (.int 0)))) (sQ (sAsg 6 (e2 subD (e1 bitsD (e2 andD (eV 4) (e1 negD (eV 4)))) (eC (.int 1)))) (sQ (sFor (iSeq (eFl (eN (p1 sortX) (aC (eV 1) aN)))) (gN 5) (sIf (qFz (qB (e2 eqD (e2 andD (e2 shrD (e2 ixX (e2 ixX (eV 1) (eV 5)) (eC (.int 0))) (eV 6)) (eC (.int 1))) (eC (.int 1))))) (sSetX 1 (eV 5) (eFz (eN mkT (aC (e2 xorD (e2 ixX (e2 ixX (eV 1) (eV 5)) (eC (.int 0))) (eV 4)) (aC (e2 xorD (e2 ixX (e2 ixX (eV 1) (eV 5)) (eC (.int 1))) (eV 3)) aN))))) sN)) (sSetX 1 (eV 6) (eN mkT (aC (eV 4) (aC (eV 3) aN)))))) sN))))) (ρ := [.d (.list (L.map lineD)), .o (dictD []), .u, .u, .u, .u, .u]) (ρ0 := [.d (.list (L.map lineD)), .o (dictD []), .u, .u, .u, .u, .u]) (by simp [DL.sWipe, DL.wipeF, DL.wipeL_nil, DL.wipeL_cons, DL.sFrz, DL.eChain, sQ, sIf, sN, qFz, qB, qAnd, qOr, qNot, qYes, e1, DL.e2, eV, eC, eN, eI, eIf, eAnd, eOr, eFz, eSl, oS, oN, aN, aC, aX, sAsg, sAsgO, sRet, sRetO, sRetN, sDrop, sSet, sSetX, sAugI, sMut, sPar, sPat, sParM, mN, mC, DL.setM, iSeq, iN, gN, gT, gC, gZ, outP, outF, outI, en0, stillE, Sl.still, Sl.own, Sl.put, p1, tupD, lstD, mkT, mkL, DL.e3, sl1, sl2, sl3, sl4, sl0, sl5, sl6, sl7, sl8, List.length_cons, List.length_nil, List.length_map, List.getElem?_cons_zero, List.getElem?_cons_succ, List.set_cons_zero, List.set_cons_succ, List.map_cons, List.map_nil, List.replicate, List.cons_append, List.nil_append, List.append_nil, Option.map_some, if_true, if_false, ite_true, ite_false, reduceIte, Nat.reduceAdd, Nat.reduceSub, Nat.reduceLeDiff, Nat.reduceEqDiff, Nat.sub_self, Nat.zero_add, Option.map_none, decide_true, decide_false, Bool.not_true, Bool.not_false, seqOf])
    (fun dn ρ => ∃ (G : List Ln) (s2 s3 s4 s5 s6 : Sl), ρ = [.d (.list (L.map lineD)), .o (dictD G), s2, s3, s4, s5, s6] ∧ Rr G ∧ (∀ k ∈ G, k.1 < 2 ^ n) ∧ G.length ≤ dn.length ∧ ∀ x, Holds G x ↔ Holds dn x)
    ⟨[], .u, .u, .u, .u, .u, rfl, Rr.nil, fun _ h => (nomatch h), Nat.le_refl 0, fun x => Iff.rfl⟩
    (fun dn l rest ρ ed ⟨G, s2, s3, s4, s5, s6, e, r, hG, hlen, hol⟩ => by
      subst e
      have hl : l.1 < 2 ^ n := hL l (by rw [ed]; simp)
      have hdn : Holds dn x0 := fun k hk => hx k (by rw [ed]; simp [hk])
      obtain ⟨G2, t3, t4, t5, t6, q1, q2, q3, q4, q5⟩ := line_ok hn r hG hl x0 ((hol x0).mpr hdn) (hx l (by rw [ed]; simp)) (s0 := .d (.list (L.map lineD))) (s4 := s4) (s5 := s5) (s6 := s6)
      refine ⟨[.d (.list (L.map lineD)), .o (dictD G), .d (rowD l.1), .d (bitD l.2), s4, s5, s6], _, rfl, q1, G2, _, _, _, _, _, rfl, q2, q3, by rw [List.length_append, List.length_singleton]; omega, fun x => ?_⟩
      rw [q5, hol]
      constructor
      · intro ⟨h1, h2⟩ k hk
        rcases List.mem_append.mp hk with hk | hk
        · exact h1 k hk
        · rw [List.mem_singleton.mp hk]; exact h2
      · intro h
        exact ⟨fun k hk => h k (List.mem_append.mpr (.inl hk)), h l (List.mem_append.mpr (.inr (List.mem_singleton.mpr rfl)))⟩)
  obtain ⟨S, hS, hs⟩ := sort_heads G (by have := rr_len r; omega)
  obtain ⟨T, hT, hSrt, hst⟩ := sort_lines2 S
  have key := eLc_M (vs := [5]) (it := iSeq (eN (p1 sortX) (aC (eV 1) aN))) (g := gN 5) (a := eN mkT (aC (eN m_law_row (aC (DL.e2 ixX (DL.e2 ixX (eV 1) (eV 5)) (eC (.int 0))) aN)) (aC (DL.e2 ixX (DL.e2 ixX (eV 1) (eV 5)) (eC (.int 1))) aN))) (ρ := [.d (.list (L.map lineD)), .d (dictD G), s2.still, s3.still, s4.still, s5.still, s6.still]) (ρ0 := [.d (.list (L.map lineD)), .d (dictD G), s2.still, s3.still, s4.still, .u, s6.still]) (fun l : Ln => PyData.int (hd l.1 : Nat)) S (by simp [DL.sWipe, DL.wipeF, DL.wipeL_nil, DL.wipeL_cons, DL.sFrz, DL.eChain, sQ, sIf, sN, qFz, qB, qAnd, qOr, qNot, qYes, e1, DL.e2, eV, eC, eN, eI, eIf, eAnd, eOr, eFz, eSl, oS, oN, aN, aC, aX, sAsg, sAsgO, sRet, sRetO, sRetN, sDrop, sSet, sSetX, sAugI, sMut, sPar, sPat, sParM, mN, mC, DL.setM, iSeq, iN, gN, gT, gC, gZ, outP, outF, outI, en0, stillE, Sl.still, Sl.own, Sl.put, p1, tupD, lstD, mkT, mkL, DL.e3, sl1, sl2, sl3, sl4, sl0, sl5, sl6, sl7, sl8, List.length_cons, List.length_nil, List.length_map, List.getElem?_cons_zero, List.getElem?_cons_succ, List.set_cons_zero, List.set_cons_succ, List.map_cons, List.map_nil, List.replicate, List.cons_append, List.nil_append, List.append_nil, Option.map_some, if_true, if_false, ite_true, ite_false, reduceIte, Nat.reduceAdd, Nat.reduceSub, Nat.reduceLeDiff, Nat.reduceEqDiff, Nat.sub_self, Nat.zero_add, Option.map_none, decide_true, decide_false, Bool.not_true, Bool.not_false, hs, seqOf]) rfl (by cases s5 <;> rfl) lineD (fun l hl => by
    have hg : l ∈ G := hS.mem_iff.mp hl
    refine ⟨[.d (.list (L.map lineD)), .d (dictD G), s2.still, s3.still, s4.still, .d (.int (hd l.1 : Nat)), s6.still], [.d (.list (L.map lineD)), .d (dictD G), s2.still, s3.still, s4.still, .d (.int (hd l.1 : Nat)), s6.still], rfl, ?_, rfl⟩
    have g := ix_dict r.nod hg
    have x0 := ix_ent0 l
    have x1 := ix_ent1 l
    have x2 := lawrow_ok (Nat.lt_of_lt_of_le (hG l hg) p16)
    have hl : lineD l = .tuple [rowD l.1, bitD l.2] := rfl
    rw [hl]
    generalize s2.still = q2
    generalize s3.still = q3
    generalize s4.still = q4
    generalize s6.still = q6
    simp [DL.sWipe, DL.wipeF, DL.wipeL_nil, DL.wipeL_cons, DL.sFrz, DL.eChain, sQ, sIf, sN, qFz, qB, qAnd, qOr, qNot, qYes, e1, DL.e2, eV, eC, eN, eI, eIf, eAnd, eOr, eFz, eSl, oS, oN, aN, aC, aX, sAsg, sAsgO, sRet, sRetO, sRetN, sDrop, sSet, sSetX, sAugI, sMut, sPar, sPat, sParM, mN, mC, DL.setM, iSeq, iN, gN, gT, gC, gZ, outP, outF, outI, en0, stillE, Sl.still, Sl.own, Sl.put, p1, tupD, lstD, mkT, mkL, DL.e3, sl1, sl2, sl3, sl4, sl0, sl5, sl6, sl7, sl8, List.length_cons, List.length_nil, List.length_map, List.getElem?_cons_zero, List.getElem?_cons_succ, List.set_cons_zero, List.set_cons_succ, List.map_cons, List.map_nil, List.replicate, List.cons_append, List.nil_append, List.append_nil, Option.map_some, if_true, if_false, ite_true, ite_false, reduceIte, Nat.reduceAdd, Nat.reduceSub, Nat.reduceLeDiff, Nat.reduceEqDiff, Nat.sub_self, Nat.zero_add, Option.map_none, decide_true, decide_false, Bool.not_true, Bool.not_false, g, x0, x1, x2])
  have fin : eFc (eN (p1 tupD) (aC (eN (p1 sortX) (aC (eLc [5] (iSeq (eN (p1 sortX) (aC (eV 1) aN))) (gN 5) qYes (eN mkT (aC (eN m_law_row (aC (DL.e2 ixX (DL.e2 ixX (eV 1) (eV 5)) (eC (.int 0))) aN)) (aC (DL.e2 ixX (DL.e2 ixX (eV 1) (eV 5)) (eC (.int 1))) aN)))) aN)) aN)) [.d (.list (L.map lineD)), .o (dictD G), s2, s3, s4, s5, s6] = some (flatD T, [.d (.list (L.map lineD)), .o (dictD G), s2, s3, s4, s5, s6]) := by
    refine eFc_ok ?_ (flat_flat T)
    show eN (p1 tupD) _ [.d (.list (L.map lineD)), .d (dictD G), s2.still, s3.still, s4.still, s5.still, s6.still] = some (flatD T, [.d (.list (L.map lineD)), .d (dictD G), s2.still, s3.still, s4.still, s5.still, s6.still])
    have hfl : flatD T = .tuple (T.map lineD) := rfl
    rw [hfl]
    generalize s2.still = q2 at *
    generalize s3.still = q3 at *
    generalize s4.still = q4 at *
    generalize s5.still = q5 at *
    generalize s6.still = q6 at *
    generalize hTl : T.map lineD = tl at hst
    simp [DL.sWipe, DL.wipeF, DL.wipeL_nil, DL.wipeL_cons, DL.sFrz, DL.eChain, sQ, sIf, sN, qFz, qB, qAnd, qOr, qNot, qYes, e1, DL.e2, eV, eC, eN, eI, eIf, eAnd, eOr, eFz, eSl, oS, oN, aN, aC, aX, sAsg, sAsgO, sRet, sRetO, sRetN, sDrop, sSet, sSetX, sAugI, sMut, sPar, sPat, sParM, mN, mC, DL.setM, iSeq, iN, gN, gT, gC, gZ, outP, outF, outI, en0, stillE, Sl.still, Sl.own, Sl.put, p1, tupD, lstD, mkT, mkL, DL.e3, sl1, sl2, sl3, sl4, sl0, sl5, sl6, sl7, sl8, List.length_cons, List.length_nil, List.length_map, List.getElem?_cons_zero, List.getElem?_cons_succ, List.set_cons_zero, List.set_cons_succ, List.map_cons, List.map_nil, List.replicate, List.cons_append, List.nil_append, List.append_nil, Option.map_some, if_true, if_false, ite_true, ite_false, reduceIte, Nat.reduceAdd, Nat.reduceSub, Nat.reduceLeDiff, Nat.reduceEqDiff, Nat.sub_self, Nat.zero_add, Option.map_none, decide_true, decide_false, Bool.not_true, Bool.not_false, key, hst]
  refine ⟨T, ?_, hSrt, (r.perm hS).perm hT, fun k hk => hG k (hS.mem_iff.mp (hT.mem_iff.mp hk)), by rw [hT.length_eq, hS.length_eq]; exact hlen, fun x => by rw [holds_perm hT, holds_perm hS, hol]⟩
  have e0 : dictD [] = .dict [] := rfl
  rw [e0] at k1
  generalize L.map lineD = ll at *
  generalize dictD G = D at *
  simp [m_law_flat_of, runP, b_law_flat_of, DL.sWipe, DL.wipeF, DL.wipeL_nil, DL.wipeL_cons, DL.sFrz, DL.eChain, sQ, sIf, sN, qFz, qB, qAnd, qOr, qNot, qYes, e1, DL.e2, eV, eC, eN, eI, eIf, eAnd, eOr, eFz, eSl, oS, oN, aN, aC, aX, sAsg, sAsgO, sRet, sRetO, sRetN, sDrop, sSet, sSetX, sAugI, sMut, sPar, sPat, sParM, mN, mC, DL.setM, iSeq, iN, gN, gT, gC, gZ, outP, outF, outI, en0, stillE, Sl.still, Sl.own, Sl.put, p1, tupD, lstD, mkT, mkL, DL.e3, sl1, sl2, sl3, sl4, sl0, sl5, sl6, sl7, sl8, List.length_cons, List.length_nil, List.length_map, List.getElem?_cons_zero, List.getElem?_cons_succ, List.set_cons_zero, List.set_cons_succ, List.map_cons, List.map_nil, List.replicate, List.cons_append, List.nil_append, List.append_nil, Option.map_some, if_true, if_false, ite_true, ite_false, reduceIte, Nat.reduceAdd, Nat.reduceSub, Nat.reduceLeDiff, Nat.reduceEqDiff, Nat.sub_self, Nat.zero_add, Option.map_none, decide_true, decide_false, Bool.not_true, Bool.not_false, k1, fin]
theorem flat_of_ok {n : Nat} (hn : n ≤ 16) {L : List Ln} (hL : ∀ l ∈ L, l.1 < 2 ^ n) (x0 : Pt) (hx : Holds L x0) : ∃ T, m_law_flat_of [.list (L.map lineD)] = some (flatD T) ∧ Rr T ∧ (∀ k ∈ T, k.1 < 2 ^ n) ∧ T.length ≤ L.length ∧ ∀ x, Holds T x ↔ Holds L x := by
  obtain ⟨T, h1, _, h2⟩ := flat_of_ok2 hn hL x0 hx
  exact ⟨T, h1, h2⟩
end LX
namespace LX
open PySem L2 DL FL
theorem mulMod {x y m : Int} (h : 0 < m) (h2 : m < 18446744073709551616) : mulI (.int (x % m)) (.int y) = some (.int (x % m * y)) := by
  have h3 := Int.emod_nonneg x (show m ≠ 0 by omega)
  have h4 := Int.emod_lt_of_pos x h
  exact mulL (by omega) (by omega)
theorem take_ok {b : Bag} (hb : BagOk b) {many : Int} (h1 : 0 < many) (h2 : many < 1073741824) :
    ∃ r b', m_law_take (bagV b) [.int many] = some (.int r, bagV b') ∧ BagOk b' ∧ 0 ≤ r ∧ r < many := by
  obtain ⟨c, hc, hr⟩ := cell_of b.cells b.pos
  obtain ⟨r, hr1, hr2, hr3⟩ := hr hb.len
  have hc0 := hc hb.cells
  obtain ⟨big, seed, pos, cells⟩ := b
  have hbig := hb.big
  have hseed := hb.seed
  have hpos := hb.pos
  have hcs := hb.cells
  have hlen := hb.len
  simp only at hr1 hbig hseed hpos hcs hlen
  by_cases hz : big = 0
  · subst hz
    by_cases hbig : 1000000000000000000 ≤ c
    · have hcp : 0 < c := by omega
      simp [m_law_take, DL.runI, b_law_take, bagV, sQ, sIf, sN, qFz, qB, qAnd, qOr, qNot, qYes, e1, DL.e2, eV, eC, eN, eI, eIf, eAnd, eOr, eFz, eSl, oS, oN, aN, aC, aX, sAsg, sAsgO, sRet, sRetO, sRetN, sDrop, sSet, sAugI, sMut, sPar, sPat, iSeq, iN, gN, gT, gC, gZ, outP, outF, outI, en0, stillE, Sl.still, Sl.own, Sl.put, seqOf, ixD, p1, lenS, intD, absD, ixX, lenX, sSetX, setXD, sParM, mN, mC, DL.setM, tupD, lstD, mkT, mkL, slD, slL, setLD, notD, negD, ltI, leI, gtI, geI, iB, addD, subD, isN, isNotN, atI_0, atI_1, atI_2, atI_3, ixN_40, ixN_41, ixN_42, eqD_int, neD_int, DL.flatB, DL.flatBs, max2D, min2D, iI, sl1, sl2, sl3, sl4, sl0, sl5, sl6, sl7, sl8, List.length_cons, List.length_nil, List.length_append, List.length_map, List.getElem?_cons_zero, List.getElem?_cons_succ, List.set_cons_zero, List.set_cons_succ, List.map_cons, List.map_nil, List.replicate, List.cons_append, List.nil_append, List.append_nil, Option.map_some, if_true, if_false, ite_true, ite_false, reduceIte, Nat.reduceAdd, Nat.reduceSub, Nat.reduceLeDiff, Nat.reduceEqDiff, Int.reduceAdd, modD_int, fdivD_int, mulR, mulL, Nat.sub_self, Nat.zero_add, Option.map_none, decide_true, decide_false, Bool.not_true, Bool.not_false, hr1, hr2, hr3, pow18, hbig, hcp, h1, h2]
      refine ⟨c % many, ⟨c / many, _, pos + 1, cells⟩, ⟨rfl, rfl, rfl, rfl, rfl⟩, ⟨Int.ediv_nonneg (by omega) (by omega), ⟨Int.emod_nonneg _ (by omega), Int.emod_lt_of_pos _ (by omega)⟩, (by show 0 ≤ pos + 1; omega), hcs, hlen⟩, Int.emod_nonneg _ (by omega), Int.emod_lt_of_pos _ h1⟩
    · simp [m_law_take, DL.runI, b_law_take, bagV, sQ, sIf, sN, qFz, qB, qAnd, qOr, qNot, qYes, e1, DL.e2, eV, eC, eN, eI, eIf, eAnd, eOr, eFz, eSl, oS, oN, aN, aC, aX, sAsg, sAsgO, sRet, sRetO, sRetN, sDrop, sSet, sAugI, sMut, sPar, sPat, iSeq, iN, gN, gT, gC, gZ, outP, outF, outI, en0, stillE, Sl.still, Sl.own, Sl.put, seqOf, ixD, p1, lenS, intD, absD, ixX, lenX, sSetX, setXD, sParM, mN, mC, DL.setM, tupD, lstD, mkT, mkL, slD, slL, setLD, notD, negD, ltI, leI, gtI, geI, iB, addD, subD, isN, isNotN, atI_0, atI_1, atI_2, atI_3, ixN_40, ixN_41, ixN_42, eqD_int, neD_int, DL.flatB, DL.flatBs, max2D, min2D, iI, sl1, sl2, sl3, sl4, sl0, sl5, sl6, sl7, sl8, List.length_cons, List.length_nil, List.length_append, List.length_map, List.getElem?_cons_zero, List.getElem?_cons_succ, List.set_cons_zero, List.set_cons_succ, List.map_cons, List.map_nil, List.replicate, List.cons_append, List.nil_append, List.append_nil, Option.map_some, if_true, if_false, ite_true, ite_false, reduceIte, Nat.reduceAdd, Nat.reduceSub, Nat.reduceLeDiff, Nat.reduceEqDiff, Int.reduceAdd, modD_int, fdivD_int, mulR, mulL, Nat.sub_self, Nat.zero_add, Option.map_none, decide_true, decide_false, Bool.not_true, Bool.not_false, hr1, hr2, hr3, pow18, hbig, h1, h2, mulMod]
      refine ⟨_, ⟨0, _, pos + 1, cells⟩, ⟨rfl, rfl, rfl, rfl, rfl⟩, ⟨Int.le_refl 0, ⟨Int.emod_nonneg _ (by omega), Int.emod_lt_of_pos _ (by omega)⟩, (by show 0 ≤ pos + 1; omega), hcs, hlen⟩, Int.emod_nonneg _ (by omega), Int.emod_lt_of_pos _ h1⟩
  · have hcp : 0 < big := by omega
    simp [m_law_take, DL.runI, b_law_take, bagV, sQ, sIf, sN, qFz, qB, qAnd, qOr, qNot, qYes, e1, DL.e2, eV, eC, eN, eI, eIf, eAnd, eOr, eFz, eSl, oS, oN, aN, aC, aX, sAsg, sAsgO, sRet, sRetO, sRetN, sDrop, sSet, sAugI, sMut, sPar, sPat, iSeq, iN, gN, gT, gC, gZ, outP, outF, outI, en0, stillE, Sl.still, Sl.own, Sl.put, seqOf, ixD, p1, lenS, intD, absD, ixX, lenX, sSetX, setXD, sParM, mN, mC, DL.setM, tupD, lstD, mkT, mkL, slD, slL, setLD, notD, negD, ltI, leI, gtI, geI, iB, addD, subD, isN, isNotN, atI_0, atI_1, atI_2, atI_3, ixN_40, ixN_41, ixN_42, eqD_int, neD_int, DL.flatB, DL.flatBs, max2D, min2D, iI, sl1, sl2, sl3, sl4, sl0, sl5, sl6, sl7, sl8, List.length_cons, List.length_nil, List.length_append, List.length_map, List.getElem?_cons_zero, List.getElem?_cons_succ, List.set_cons_zero, List.set_cons_succ, List.map_cons, List.map_nil, List.replicate, List.cons_append, List.nil_append, List.append_nil, Option.map_some, if_true, if_false, ite_true, ite_false, reduceIte, Nat.reduceAdd, Nat.reduceSub, Nat.reduceLeDiff, Nat.reduceEqDiff, Int.reduceAdd, modD_int, fdivD_int, mulR, mulL, Nat.sub_self, Nat.zero_add, Option.map_none, decide_true, decide_false, Bool.not_true, Bool.not_false, hr1, hr2, hr3, pow18, hz, hcp, h1, h2]
    refine ⟨big % many, ⟨big / many, seed, pos, cells⟩, ⟨rfl, rfl, rfl, rfl, rfl⟩, ⟨Int.ediv_nonneg (by omega) (by omega), hseed, hpos, hcs, hlen⟩, Int.emod_nonneg _ (by omega), Int.emod_lt_of_pos _ h1⟩
theorem atI_mem {xs : List PyData} {r : Int} (h : 0 ≤ r) (h1 : r < xs.length) : ∃ x, atI xs r = some x ∧ x ∈ xs := by
  obtain ⟨n, rfl⟩ := Int.eq_ofNat_of_zero_le h
  have hn : n < xs.length := by omega
  exact ⟨xs[n], atI_int (List.getElem?_eq_getElem hn), List.getElem_mem _⟩
/-- a choice out of a list -/
theorem some_ok {b : Bag} (hb : BagOk b) {xs : List PyData} (h1 : 0 < xs.length) (h2 : xs.length < 16777216) :
    ∃ x b', m_law_some (bagV b) [.list xs] = some (x, bagV b') ∧ BagOk b' ∧ x ∈ xs := by
  obtain ⟨r, b', e, ok, r0, r1⟩ := take_ok hb (many := (xs.length : Int)) (by omega) (by omega)
  obtain ⟨x, hx, hm⟩ := atI_mem r0 r1
  refine ⟨x, b', ?_, ok, hm⟩
  unfold bagV at *
  simp [m_law_some, DL.runI, b_law_some, eI, sQ, sIf, sN, qFz, qB, qAnd, qOr, qNot, qYes, e1, DL.e2, eV, eC, eN, eI, eIf, eAnd, eOr, eFz, eSl, oS, oN, aN, aC, aX, sAsg, sAsgO, sRet, sRetO, sRetN, sDrop, sSet, sAugI, sMut, sPar, sPat, iSeq, iN, gN, gT, gC, gZ, outP, outF, outI, en0, stillE, Sl.still, Sl.own, Sl.put, seqOf, ixD, p1, lenS, intD, absD, ixX, lenX, sSetX, setXD, sParM, mN, mC, DL.setM, tupD, lstD, mkT, mkL, slD, slL, setLD, notD, negD, ltI, leI, gtI, geI, iB, addD, subD, isN, isNotN, atI_0, atI_1, atI_2, atI_3, ixN_40, ixN_41, ixN_42, eqD_int, neD_int, DL.flatB, DL.flatBs, max2D, min2D, iI, sl1, sl2, sl3, sl4, sl0, sl5, sl6, sl7, sl8, List.length_cons, List.length_nil, List.length_append, List.length_map, List.getElem?_cons_zero, List.getElem?_cons_succ, List.set_cons_zero, List.set_cons_succ, List.map_cons, List.map_nil, List.replicate, List.cons_append, List.nil_append, List.append_nil, Option.map_some, if_true, if_false, ite_true, ite_false, reduceIte, Nat.reduceAdd, Nat.reduceSub, Nat.reduceLeDiff, Nat.reduceEqDiff, Int.reduceAdd, modD_int, fdivD_int, mulR, mulL, Nat.sub_self, Nat.zero_add, Option.map_none, decide_true, decide_false, Bool.not_true, Bool.not_false, e, hx]
theorem take_nat {b : Bag} (hb : BagOk b) {many : Nat} (h1 : 0 < many) (h2 : many < 1073741824) : ∃ (r : Nat) (b' : Bag), m_law_take (bagV b) [.int (many : Nat)] = some (.int (r : Nat), bagV b') ∧ BagOk b' ∧ r < many := by
  obtain ⟨r, b', e, ok, r0, r1⟩ := take_ok hb (many := (many : Int)) (by omega) (by omega)
  obtain ⟨k, rfl⟩ := Int.eq_ofNat_of_zero_le r0
  exact ⟨k, b', e, ok, by omega⟩
theorem row_pow : ∀ r < 16, rowD (2 ^ r) = .tuple [.int (r : Nat)] := by
  intro r hr
  have h : ∀ r < 16, bitsOf (2 ^ r) = [r] := by decide +kernel
  unfold rowD
  rw [h r hr]
  rfl
theorem any_row_ok {b : Bag} (hb : BagOk b) {many : Nat} (h1 : 0 < many) (h2 : many ≤ 12) : ∃ (m : Nat) (b' : Bag), m_law_any_row (bagV b) [.int (many : Nat)] = some (rowD m, bagV b') ∧ BagOk b' ∧ m ≠ 0 ∧ m < 2 ^ many := by
  obtain ⟨x, b1, hs, hb1, hm⟩ := some_ok hb (xs := [.int 1, .int 2, .int 2, .int 3, .int (many : Nat)]) (by simp) (by simp)
  have hx : ∃ n : Nat, x = .int n ∧ n ≤ 12 := by
    have h3 : x = .int 1 ∨ x = .int 2 ∨ x = .int 2 ∨ x = .int 3 ∨ x = .int (many : Nat) := by simpa using hm
    rcases h3 with rfl | rfl | rfl | rfl | rfl
    · exact ⟨1, rfl, by decide⟩
    · exact ⟨2, rfl, by decide⟩
    · exact ⟨2, rfl, by decide⟩
    · exact ⟨3, rfl, by decide⟩
    · exact ⟨many, rfl, h2⟩
  obtain ⟨n, rfl, hn⟩ := hx
  obtain ⟨ρ', k1, m, b2, s, rfl, hb2, m1⟩ := sFor_T (fun u : Nat => PyData.int (u : Int)) (List.range n) (it := (iN rng1 (aC (eI m_law_some 0 (aC (eN mkL (aC (eC (.int 1)) (aC (eC (.int 2)) (aC (eC (.int 2)) (aC (eC (.int 3)) (aC (eV 1) aN)))))) aN)) aN))) (g := (gN 3)) (ψ := (sAsg 2 (e2 xorD (eV 2) (e2 shlX (eC (.int 1)) (eI m_law_take 0 (aC (eV 1) aN)))))) (ρ := [.b (bagV b), .d (.int (many : Nat)), .d (.int 0), .u]) (ρ0 := [.b (bagV b1), .d (.int (many : Nat)), .d (.int 0), .u]) (by have h := rng_ok (n := n) (by omega); simp [DL.sWipe, DL.wipeF, DL.wipeL_nil, DL.wipeL_cons, DL.sFrz, DL.eChain, sQ, sIf, sN, qFz, qB, qAnd, qOr, qNot, qYes, e1, DL.e2, eV, eC, eN, eI, eIf, eAnd, eOr, eFz, eSl, oS, oN, aN, aC, aX, sAsg, sAsgO, sRet, sRetO, sRetN, sDrop, sSet, sSetX, sAugI, sMut, sPar, sPat, sParM, mN, mC, DL.setM, iSeq, iN, gN, gT, gC, gZ, outP, outF, outI, en0, stillE, Sl.still, Sl.own, Sl.put, p1, tupD, lstD, mkT, mkL, DL.e3, sl1, sl2, sl3, sl4, sl0, sl5, sl6, sl7, sl8, List.length_cons, List.length_nil, List.length_map, List.getElem?_cons_zero, List.getElem?_cons_succ, List.set_cons_zero, List.set_cons_succ, List.map_cons, List.map_nil, List.replicate, List.cons_append, List.nil_append, List.append_nil, Option.map_some, if_true, if_false, ite_true, ite_false, reduceIte, Nat.reduceAdd, Nat.reduceSub, Nat.reduceLeDiff, Nat.reduceEqDiff, Nat.sub_self, Nat.zero_add, Option.map_none, decide_true, decide_false, Bool.not_true, Bool.not_false, hs, h])
    (fun dn ρ => ∃ (m : Nat) (b' : Bag) (s : Sl), ρ = [.b (bagV b'), .d (.int (many : Nat)), .d (.int (m : Nat)), s] ∧ BagOk b' ∧ m < 2 ^ many)
    ⟨0, b1, .u, rfl, hb1, Nat.two_pow_pos _⟩
    (fun dn x rest ρ e ⟨m, b2, s, e1, hb2, m1⟩ => by
      subst e1
      obtain ⟨r, b3, ht, ok, r1⟩ := take_nat hb2 (many := many) h1 (by omega)
      have q1 := shl_one (u := r) (by omega)
      have q2 := xorD_nn m (2 ^ r)
      refine ⟨[.b (bagV b2), .d (.int (many : Nat)), .d (.int (m : Nat)), .d (.int (x : Int))], [.b (bagV b3), .d (.int (many : Nat)), .d (.int ((m ^^^ 2 ^ r : Nat) : Int)), .d (.int (x : Int))], rfl, ?_, m ^^^ 2 ^ r, b3, _, rfl, ok, Nat.xor_lt_two_pow m1 (Nat.pow_lt_pow_right (by decide) r1)⟩
      generalize ((m ^^^ 2 ^ r : Nat) : Int) = z at q2
      generalize ((2 ^ r : Nat) : Int) = y at q1 q2
      simp [DL.sWipe, DL.wipeF, DL.wipeL_nil, DL.wipeL_cons, DL.sFrz, DL.eChain, sQ, sIf, sN, qFz, qB, qAnd, qOr, qNot, qYes, e1, DL.e2, eV, eC, eN, eI, eIf, eAnd, eOr, eFz, eSl, oS, oN, aN, aC, aX, sAsg, sAsgO, sRet, sRetO, sRetN, sDrop, sSet, sSetX, sAugI, sMut, sPar, sPat, sParM, mN, mC, DL.setM, iSeq, iN, gN, gT, gC, gZ, outP, outF, outI, en0, stillE, Sl.still, Sl.own, Sl.put, p1, tupD, lstD, mkT, mkL, DL.e3, sl1, sl2, sl3, sl4, sl0, sl5, sl6, sl7, sl8, List.length_cons, List.length_nil, List.length_map, List.getElem?_cons_zero, List.getElem?_cons_succ, List.set_cons_zero, List.set_cons_succ, List.map_cons, List.map_nil, List.replicate, List.cons_append, List.nil_append, List.append_nil, Option.map_some, if_true, if_false, ite_true, ite_false, reduceIte, Nat.reduceAdd, Nat.reduceSub, Nat.reduceLeDiff, Nat.reduceEqDiff, Nat.sub_self, Nat.zero_add, Option.map_none, decide_true, decide_false, Bool.not_true, Bool.not_false, ht, q1, q2])
  have hg : gtI (.int (m : Nat)) (.int 0) = some (.bool (decide (0 < m))) := by
    show some (PyData.bool (decide ((0 : Int) < (m : Int)))) = _
    congr 2
    simp only [decide_eq_decide]
    omega
  by_cases hz : 0 < m
  · have hr := lawrow_ok (m := m) (Nat.lt_of_lt_of_le m1 (Nat.pow_le_pow_right (by decide) (by omega)))
    refine ⟨m, b2, ?_, hb2, by omega, m1⟩
    rw [decide_eq_true hz] at hg
    generalize (m : Int) = mi at *
    simp [m_law_any_row, DL.runI, b_law_any_row, DL.sWipe, DL.wipeF, DL.wipeL_nil, DL.wipeL_cons, DL.sFrz, DL.eChain, sQ, sIf, sN, qFz, qB, qAnd, qOr, qNot, qYes, e1, DL.e2, eV, eC, eN, eI, eIf, eAnd, eOr, eFz, eSl, oS, oN, aN, aC, aX, sAsg, sAsgO, sRet, sRetO, sRetN, sDrop, sSet, sSetX, sAugI, sMut, sPar, sPat, sParM, mN, mC, DL.setM, iSeq, iN, gN, gT, gC, gZ, outP, outF, outI, en0, stillE, Sl.still, Sl.own, Sl.put, p1, tupD, lstD, mkT, mkL, DL.e3, sl1, sl2, sl3, sl4, sl0, sl5, sl6, sl7, sl8, List.length_cons, List.length_nil, List.length_map, List.getElem?_cons_zero, List.getElem?_cons_succ, List.set_cons_zero, List.set_cons_succ, List.map_cons, List.map_nil, List.replicate, List.cons_append, List.nil_append, List.append_nil, Option.map_some, if_true, if_false, ite_true, ite_false, reduceIte, Nat.reduceAdd, Nat.reduceSub, Nat.reduceLeDiff, Nat.reduceEqDiff, Nat.sub_self, Nat.zero_add, Option.map_none, decide_true, decide_false, Bool.not_true, Bool.not_false, k1, hg, hr]
  · obtain ⟨r, b3, ht, ok, r1⟩ := take_nat hb2 (many := many) h1 (by omega)
    refine ⟨2 ^ r, b3, ?_, ok, Nat.pos_iff_ne_zero.mp (Nat.two_pow_pos r), Nat.pow_lt_pow_right (by decide) r1⟩
    rw [row_pow r (by omega)]
    rw [decide_eq_false hz] at hg
    generalize (m : Int) = mi at *
    simp [m_law_any_row, DL.runI, b_law_any_row, DL.sWipe, DL.wipeF, DL.wipeL_nil, DL.wipeL_cons, DL.sFrz, DL.eChain, sQ, sIf, sN, qFz, qB, qAnd, qOr, qNot, qYes, e1, DL.e2, eV, eC, eN, eI, eIf, eAnd, eOr, eFz, eSl, oS, oN, aN, aC, aX, sAsg, sAsgO, sRet, sRetO, sRetN, sDrop, sSet, sSetX, sAugI, sMut, sPar, sPat, sParM, mN, mC, DL.setM, iSeq, iN, gN, gT, gC, gZ, outP, outF, outI, en0, stillE, Sl.still, Sl.own, Sl.put, p1, tupD, lstD, mkT, mkL, DL.e3, sl1, sl2, sl3, sl4, sl0, sl5, sl6, sl7, sl8, List.length_cons, List.length_nil, List.length_map, List.getElem?_cons_zero, List.getElem?_cons_succ, List.set_cons_zero, List.set_cons_succ, List.map_cons, List.map_nil, List.replicate, List.cons_append, List.nil_append, List.append_nil, Option.map_some, if_true, if_false, ite_true, ite_false, reduceIte, Nat.reduceAdd, Nat.reduceSub, Nat.reduceLeDiff, Nat.reduceEqDiff, Nat.sub_self, Nat.zero_add, Option.map_none, decide_true, decide_false, Bool.not_true, Bool.not_false, k1, hg, ht]
/-- worths -/
theorem sum_par (x : Pt) : ∀ (l : List Nat) (s : Int) (b : Bool), s % 2 = (if b then 1 else 0) → (s + (l.map fun u => if x u then (1 : Int) else 0).sum) % 2 = if l.foldl (fun b u => b ^^ x u) b then 1 else 0
  | [], s, b, h => by
    show (s + 0) % 2 = _
    rw [Int.add_zero]
    exact h
  | u :: l, s, b, h => by
    rw [List.map_cons, List.sum_cons, List.foldl_cons, ← Int.add_assoc]
    refine sum_par x l _ _ ?_
    cases b <;> cases x u <;> simp at h ⊢ <;> omega
theorem worth_ok {n m : Nat} (hn : n ≤ 16) (hm : m < 2 ^ n) (x : Pt) : m_law_worth [rowD m, .list ((List.range n).map fun u => bitD (x u))] = some (bitD (dot m x)) := by
  have key := eLc_M (vs := [2]) (it := iSeq (eV 0)) (g := gN 2) (a := DL.e2 ixX (eV 1) (eV 2)) (ρ := [.d (rowD m), .d (.list ((List.range n).map fun u => bitD (x u))), .u]) (fun u : Nat => PyData.int (u : Int)) (bitsOf m) rfl rfl rfl (fun u => bitD (x u)) (fun u hu => by
    refine ⟨[.d (rowD m), .d (.list ((List.range n).map fun u => bitD (x u))), .d (.int (u : Int))], [.d (rowD m), .d (.list ((List.range n).map fun u => bitD (x u))), .d (.int (u : Int))], rfl, ?_, rfl⟩
    have h1 : ixX (.list ((List.range n).map fun u => bitD (x u))) (.int (u : Int)) = some (bitD (x u)) := by
      show atI _ _ = _
      refine atI_int ?_
      rw [List.getElem?_map, List.getElem?_range (bits_below hm u hu)]
      rfl
    simp [DL.sWipe, DL.wipeF, DL.wipeL_nil, DL.wipeL_cons, DL.sFrz, DL.eChain, sQ, sIf, sN, qFz, qB, qAnd, qOr, qNot, qYes, e1, DL.e2, eV, eC, eN, eI, eIf, eAnd, eOr, eFz, eSl, oS, oN, aN, aC, aX, sAsg, sAsgO, sRet, sRetO, sRetN, sDrop, sSet, sSetX, sAugI, sMut, sPar, sPat, sParM, mN, mC, DL.setM, iSeq, iN, gN, gT, gC, gZ, outP, outF, outI, en0, stillE, Sl.still, Sl.own, Sl.put, p1, tupD, lstD, mkT, mkL, DL.e3, sl1, sl2, sl3, sl4, sl0, sl5, sl6, sl7, sl8, List.length_cons, List.length_nil, List.length_map, List.getElem?_cons_zero, List.getElem?_cons_succ, List.set_cons_zero, List.set_cons_succ, List.map_cons, List.map_nil, List.replicate, List.cons_append, List.nil_append, List.append_nil, Option.map_some, if_true, if_false, ite_true, ite_false, reduceIte, Nat.reduceAdd, Nat.reduceSub, Nat.reduceLeDiff, Nat.reduceEqDiff, Nat.sub_self, Nat.zero_add, Option.map_none, decide_true, decide_false, Bool.not_true, Bool.not_false, h1])
  have hs : sumD (.list ((bitsOf m).map fun u => bitD (x u))) = some (.int ((bitsOf m).map fun u => if x u then (1 : Int) else 0).sum) := by
    show (intsOf _).map _ = _
    have e : ((bitsOf m).map fun u => bitD (x u)) = ((bitsOf m).map fun u => if x u then (1 : Int) else 0).map PyData.int := by rw [List.map_map]; rfl
    rw [e, intsOf_map]
    rfl
  have hp := sum_par x (bitsOf m) 0 false rfl
  rw [← dot_fold, Int.zero_add] at hp
  have hmod : modD (.int ((bitsOf m).map fun u => if x u then (1 : Int) else 0).sum) (.int 2) = some (bitD (dot m x)) := by
    rw [modD_int (by decide), hp]
    rfl
  have hi : ∀ i : Int, intD (.int i) = some (.int i) := fun _ => rfl
  generalize ((bitsOf m).map fun u => if x u then (1 : Int) else 0).sum = z at hs hmod
  generalize ((bitsOf m).map fun u => bitD (x u)) = y at hs key
  simp [m_law_worth, runP, b_law_worth, DL.sWipe, DL.wipeF, DL.wipeL_nil, DL.wipeL_cons, DL.sFrz, DL.eChain, sQ, sIf, sN, qFz, qB, qAnd, qOr, qNot, qYes, e1, DL.e2, eV, eC, eN, eI, eIf, eAnd, eOr, eFz, eSl, oS, oN, aN, aC, aX, sAsg, sAsgO, sRet, sRetO, sRetN, sDrop, sSet, sSetX, sAugI, sMut, sPar, sPat, sParM, mN, mC, DL.setM, iSeq, iN, gN, gT, gC, gZ, outP, outF, outI, en0, stillE, Sl.still, Sl.own, Sl.put, p1, tupD, lstD, mkT, mkL, DL.e3, sl1, sl2, sl3, sl4, sl0, sl5, sl6, sl7, sl8, List.length_cons, List.length_nil, List.length_map, List.getElem?_cons_zero, List.getElem?_cons_succ, List.set_cons_zero, List.set_cons_succ, List.map_cons, List.map_nil, List.replicate, List.cons_append, List.nil_append, List.append_nil, Option.map_some, if_true, if_false, ite_true, ite_false, reduceIte, Nat.reduceAdd, Nat.reduceSub, Nat.reduceLeDiff, Nat.reduceEqDiff, Nat.sub_self, Nat.zero_add, Option.map_none, decide_true, decide_false, Bool.not_true, Bool.not_false, key, hs, hi, hmod]
/-- a drawn flat -/
theorem bits_drawn {many : Nat} (hm : many ≤ 12) {b : Bag} (hb : BagOk b) {s1 s2 s3 s4 s5 s6 : Sl} (h1 : s1 = .d (.int (many : Nat))) : ∃ (x : Pt) (b' : Bag), eLc [7] (iN rng1 (aC (eV 1) aN)) (gN 7) qYes (eI m_law_take 0 (aC (eC (.int 2)) aN)) [.b (bagV b), s1, s2, s3, s4, s5, s6, .u] = some (.list ((List.range many).map fun u => bitD (x u)), [.b (bagV b'), s1, s2, s3, s4, s5, s6, .u]) ∧ BagOk b' := by
  subst h1
  obtain ⟨more, ρ', k, x, b', rfl, ok, e⟩ := lcD_inv (vs := [7]) (g := gN 7) (q := qYes) (a := eI m_law_take 0 (aC (eC (.int 2)) aN))
    (fun dn out ρ => ∃ (x : Pt) (b' : Bag), ρ = [.b (bagV b'), .d (.int (many : Nat)), s2, s3, s4, s5, s6, .u] ∧ BagOk b' ∧ out = (List.range dn.length).map fun u => bitD (x u))
    ((List.range many).map fun u : Nat => PyData.int (u : Int))
    (fun dn y rest out ρ ed ⟨x, b1, e, ok, eo⟩ => by
      subst e
      obtain ⟨r, b2, ht, ok2, r1⟩ := take_nat ok (many := 2) (by decide) (by decide)
      have ht' : m_law_take (bagV b1) [.int 2] = some (.int (r : Nat), bagV b2) := ht
      refine ⟨[.b (bagV b1), .d (.int (many : Nat)), s2, s3, s4, s5, s6, .d y], true, _, rfl, rfl, fun _ => ⟨.int (r : Nat), [.b (bagV b2), .d (.int (many : Nat)), s2, s3, s4, s5, s6, .d y], by simp [DL.sWipe, DL.wipeF, DL.wipeL_nil, DL.wipeL_cons, DL.sFrz, DL.eChain, sQ, sIf, sN, qFz, qB, qAnd, qOr, qNot, qYes, e1, DL.e2, eV, eC, eN, eI, eIf, eAnd, eOr, eFz, eSl, oS, oN, aN, aC, aX, sAsg, sAsgO, sRet, sRetO, sRetN, sDrop, sSet, sSetX, sAugI, sMut, sPar, sPat, sParM, mN, mC, DL.setM, iSeq, iN, gN, gT, gC, gZ, outP, outF, outI, en0, stillE, Sl.still, Sl.own, Sl.put, p1, tupD, lstD, mkT, mkL, DL.e3, sl1, sl2, sl3, sl4, sl0, sl5, sl6, sl7, sl8, List.length_cons, List.length_nil, List.length_map, List.getElem?_cons_zero, List.getElem?_cons_succ, List.set_cons_zero, List.set_cons_succ, List.map_cons, List.map_nil, List.replicate, List.cons_append, List.nil_append, List.append_nil, Option.map_some, if_true, if_false, ite_true, ite_false, reduceIte, Nat.reduceAdd, Nat.reduceSub, Nat.reduceLeDiff, Nat.reduceEqDiff, Nat.sub_self, Nat.zero_add, Option.map_none, decide_true, decide_false, Bool.not_true, Bool.not_false, ht'], fun u => if u = dn.length then decide (r = 1) else x u, b2, rfl, ok2, ?_⟩, fun z => (nomatch z)⟩
      rw [eo, List.length_append, List.length_singleton, List.range_succ, List.map_append]
      congr 1
      · refine List.map_congr_left fun u hu => ?_
        have := List.mem_range.mp hu
        show bitD (x u) = bitD (if u = dn.length then decide (r = 1) else x u)
        rw [if_neg (by omega)]
      · show [PyData.int (r : Nat)] = [bitD (if dn.length = dn.length then decide (r = 1) else x dn.length)]
        rw [if_pos rfl]
        have : r = 0 ∨ r = 1 := by omega
        rcases this with rfl | rfl <;> rfl)
    ((List.range many).map fun u : Nat => PyData.int (u : Int)) [] [] [.b (bagV b), .d (.int (many : Nat)), s2, s3, s4, s5, s6, .u] rfl ⟨fun _ => false, b, rfl, hb, rfl⟩
  rw [List.nil_append, List.length_map, List.length_range] at e
  subst e
  refine ⟨x, b', ?_, ok⟩
  have hr := rng_ok (n := many) (by omega)
  have hi : iN rng1 (aC (eV 1) aN) [.b (bagV b), .d (.int (many : Nat)), s2, s3, s4, s5, s6, .u] = some ((List.range many).map fun u : Nat => PyData.int (u : Int), [.b (bagV b), .d (.int (many : Nat)), s2, s3, s4, s5, s6, .u]) := by simp [DL.sWipe, DL.wipeF, DL.wipeL_nil, DL.wipeL_cons, DL.sFrz, DL.eChain, sQ, sIf, sN, qFz, qB, qAnd, qOr, qNot, qYes, e1, DL.e2, eV, eC, eN, eI, eIf, eAnd, eOr, eFz, eSl, oS, oN, aN, aC, aX, sAsg, sAsgO, sRet, sRetO, sRetN, sDrop, sSet, sSetX, sAugI, sMut, sPar, sPat, sParM, mN, mC, DL.setM, iSeq, iN, gN, gT, gC, gZ, outP, outF, outI, en0, stillE, Sl.still, Sl.own, Sl.put, p1, tupD, lstD, mkT, mkL, DL.e3, sl1, sl2, sl3, sl4, sl0, sl5, sl6, sl7, sl8, List.length_cons, List.length_nil, List.length_map, List.getElem?_cons_zero, List.getElem?_cons_succ, List.set_cons_zero, List.set_cons_succ, List.map_cons, List.map_nil, List.replicate, List.cons_append, List.nil_append, List.append_nil, Option.map_some, if_true, if_false, ite_true, ite_false, reduceIte, Nat.reduceAdd, Nat.reduceSub, Nat.reduceLeDiff, Nat.reduceEqDiff, Nat.sub_self, Nat.zero_add, Option.map_none, decide_true, decide_false, Bool.not_true, Bool.not_false, hr]
  unfold eLc
  rw [hi]
  have hw : wipeE [.b (bagV b), .d (.int (many : Nat)), s2, s3, s4, s5, s6, .u] [7] = [.b (bagV b), .d (.int (many : Nat)), s2, s3, s4, s5, s6, .u] := rfl
  simp only [hw, k]
  rfl
theorem drawn_ok2 {b : Bag} (hb : BagOk b) {many most : Nat} (h1 : 0 < many) (h2 : many ≤ 12) (h3 : most ≤ 1000) : ∃ (F : List Ln) (b' : Bag), m_law_drawn_flat (bagV b) [.int (many : Nat), .int (most : Nat)] = some (flatD F, bagV b') ∧ BagOk b' ∧ Srt F ∧ Rr F ∧ (∀ l ∈ F, l.1 < 2 ^ many) ∧ F.length ≤ most := by
  obtain ⟨x, b1, hx, ok1⟩ := bits_drawn h2 hb (s1 := .d (.int (many : Nat))) (s2 := .d (.int (most : Nat))) (s3 := .u) (s4 := .u) (s5 := .u) (s6 := .u) rfl
  obtain ⟨t, b2, ht, ok2, t1⟩ := take_nat ok1 (many := most + 1) (by omega) (by omega)
  have a1 : addD (.int (most : Nat)) (.int 1) = some (.int ((most + 1 : Nat) : Int)) := rfl
  have g1 : gtI (.int (many : Nat)) (.int 0) = some (.bool true) := by
    show some (PyData.bool (decide ((0 : Int) < (many : Int)))) = _
    rw [decide_eq_true (by omega)]
  have hr := rng_ok (n := t) (by omega)
  obtain ⟨ρ', k1, L, b3, s5, s6, rfl, ok3, hL, hh, hlen⟩ := sFor_T (fun u : Nat => PyData.int (u : Int)) (List.range t) (it := (iN rng1 (aC (eIf (qB (e2 gtI (eV 1) (eC (.int 0)))) (eI m_law_take 0 (aC (e2 addD (eV 2) (eC (.int 1))) aN)) (eC (.int 0))) aN))) (g := (gN 5)) (ψ := (sQ (sAsg 6 (eI m_law_any_row 0 (aC (eV 1) aN))) (sMut 4 appD (aC (eN mkT (aC (eV 6) (aC (eN m_law_worth (aC (eV 6) (aC (eV 3) aN))) aN))) aN)))) (ρ := [.b (bagV b1), .d (.int (many : Nat)), .d (.int (most : Nat)), .d (.list ((List.range many).map fun u => bitD (x u))), .o (.list []), .u, .u, .u]) (ρ0 := [.b (bagV b2), .d (.int (many : Nat)), .d (.int (most : Nat)), .d (.list ((List.range many).map fun u => bitD (x u))), .o (.list []), .u, .u, .u])
    (by
      generalize ((most + 1 : Nat) : Int) = z at a1 ht
      generalize ((List.range many).map fun u => bitD (x u)) = bl
      simp [DL.sWipe, DL.wipeF, DL.wipeL_nil, DL.wipeL_cons, DL.sFrz, DL.eChain, sQ, sIf, sN, qFz, qB, qAnd, qOr, qNot, qYes, e1, DL.e2, eV, eC, eN, eI, eIf, eAnd, eOr, eFz, eSl, oS, oN, aN, aC, aX, sAsg, sAsgO, sRet, sRetO, sRetN, sDrop, sSet, sSetX, sAugI, sMut, sPar, sPat, sParM, mN, mC, DL.setM, iSeq, iN, gN, gT, gC, gZ, outP, outF, outI, en0, stillE, Sl.still, Sl.own, Sl.put, p1, tupD, lstD, mkT, mkL, DL.e3, sl1, sl2, sl3, sl4, sl0, sl5, sl6, sl7, sl8, List.length_cons, List.length_nil, List.length_map, List.getElem?_cons_zero, List.getElem?_cons_succ, List.set_cons_zero, List.set_cons_succ, List.map_cons, List.map_nil, List.replicate, List.cons_append, List.nil_append, List.append_nil, Option.map_some, if_true, if_false, ite_true, ite_false, reduceIte, Nat.reduceAdd, Nat.reduceSub, Nat.reduceLeDiff, Nat.reduceEqDiff, Nat.sub_self, Nat.zero_add, Option.map_none, decide_true, decide_false, Bool.not_true, Bool.not_false, g1, a1, ht, hr])
    (fun dn ρ => ∃ (L : List Ln) (b' : Bag) (s5 s6 : Sl), ρ = [.b (bagV b'), .d (.int (many : Nat)), .d (.int (most : Nat)), .d (.list ((List.range many).map fun u => bitD (x u))), .o (.list (L.map lineD)), s5, s6, .u] ∧ BagOk b' ∧ (∀ l ∈ L, l.1 < 2 ^ many) ∧ Holds L x ∧ L.length = dn.length)
    ⟨[], b2, .u, .u, rfl, ok2, fun _ h => (nomatch h), fun _ h => (nomatch h), rfl⟩
    (fun dn u rest ρ ed ⟨L, b3, s5, s6, e, ok3, hL, hh, hlen⟩ => by
      subst e
      obtain ⟨m, b4, hm, ok4, m0, m1⟩ := any_row_ok ok3 h1 h2
      have hw := worth_ok (by omega : many ≤ 16) m1 x
      have hd := congrArg List.length ed
      rw [List.length_range, List.length_append, List.length_cons] at hd
      have ha := app_ok (xs := L.map lineD) (y := .tuple [rowD m, bitD (dot m x)]) (by rw [List.length_map]; omega)
      refine ⟨[.b (bagV b3), .d (.int (many : Nat)), .d (.int (most : Nat)), .d (.list ((List.range many).map fun u => bitD (x u))), .o (.list (L.map lineD)), .d (.int (u : Int)), s6, .u], [.b (bagV b4), .d (.int (many : Nat)), .d (.int (most : Nat)), .d (.list ((List.range many).map fun u => bitD (x u))), .o (.list ((L ++ [(m, dot m x)]).map lineD)), .d (.int (u : Int)), .d (rowD m), .u], rfl, ?_, L ++ [(m, dot m x)], b4, .d (.int (u : Int)), .d (rowD m), rfl, ok4, fun l hl => ?_, fun l hl => ?_, by rw [List.length_append, List.length_append, hlen]; rfl⟩
      · have e1 : (L ++ [(m, dot m x)]).map lineD = L.map lineD ++ [.tuple [rowD m, bitD (dot m x)]] := by rw [List.map_append]; rfl
        rw [e1]
        generalize L.map lineD ++ [PyData.tuple [rowD m, bitD (dot m x)]] = o2 at ha
        generalize L.map lineD = o1 at ha
        generalize ((List.range many).map fun u => bitD (x u)) = bl at *
        simp [DL.sWipe, DL.wipeF, DL.wipeL_nil, DL.wipeL_cons, DL.sFrz, DL.eChain, sQ, sIf, sN, qFz, qB, qAnd, qOr, qNot, qYes, e1, DL.e2, eV, eC, eN, eI, eIf, eAnd, eOr, eFz, eSl, oS, oN, aN, aC, aX, sAsg, sAsgO, sRet, sRetO, sRetN, sDrop, sSet, sSetX, sAugI, sMut, sPar, sPat, sParM, mN, mC, DL.setM, iSeq, iN, gN, gT, gC, gZ, outP, outF, outI, en0, stillE, Sl.still, Sl.own, Sl.put, p1, tupD, lstD, mkT, mkL, DL.e3, sl1, sl2, sl3, sl4, sl0, sl5, sl6, sl7, sl8, List.length_cons, List.length_nil, List.length_map, List.getElem?_cons_zero, List.getElem?_cons_succ, List.set_cons_zero, List.set_cons_succ, List.map_cons, List.map_nil, List.replicate, List.cons_append, List.nil_append, List.append_nil, Option.map_some, if_true, if_false, ite_true, ite_false, reduceIte, Nat.reduceAdd, Nat.reduceSub, Nat.reduceLeDiff, Nat.reduceEqDiff, Nat.sub_self, Nat.zero_add, Option.map_none, decide_true, decide_false, Bool.not_true, Bool.not_false, hm, hw, ha]
      · rcases List.mem_append.mp hl with hl | hl
        · exact hL l hl
        · rw [List.mem_singleton.mp hl]; exact m1
      · rcases List.mem_append.mp hl with hl | hl
        · exact hh l hl
        · rw [List.mem_singleton.mp hl])
  obtain ⟨F, hF, sF, rF, ltF, lenF, _⟩ := flat_of_ok2 (by omega : many ≤ 16) hL x hh
  refine ⟨F, b3, ?_, ok3, sF, rF, ltF, by rw [List.length_range] at hlen; omega⟩
  have hf := flat_flat F
  generalize L.map lineD = ll at *
  generalize ((List.range many).map fun u => bitD (x u)) = bl at *
  simp [m_law_drawn_flat, DL.runI, b_law_drawn_flat, DL.sWipe, DL.wipeF, DL.wipeL_nil, DL.wipeL_cons, DL.sFrz, DL.eChain, sQ, sIf, sN, qFz, qB, qAnd, qOr, qNot, qYes, e1, DL.e2, eV, eC, eN, eI, eIf, eAnd, eOr, eFz, eSl, oS, oN, aN, aC, aX, sAsg, sAsgO, sRet, sRetO, sRetN, sDrop, sSet, sSetX, sAugI, sMut, sPar, sPat, sParM, mN, mC, DL.setM, iSeq, iN, gN, gT, gC, gZ, outP, outF, outI, en0, stillE, Sl.still, Sl.own, Sl.put, p1, tupD, lstD, mkT, mkL, DL.e3, sl1, sl2, sl3, sl4, sl0, sl5, sl6, sl7, sl8, List.length_cons, List.length_nil, List.length_map, List.getElem?_cons_zero, List.getElem?_cons_succ, List.set_cons_zero, List.set_cons_succ, List.map_cons, List.map_nil, List.replicate, List.cons_append, List.nil_append, List.append_nil, Option.map_some, if_true, if_false, ite_true, ite_false, reduceIte, Nat.reduceAdd, Nat.reduceSub, Nat.reduceLeDiff, Nat.reduceEqDiff, Nat.sub_self, Nat.zero_add, Option.map_none, decide_true, decide_false, Bool.not_true, Bool.not_false, hx, k1, hF, hf]
theorem drawn_ok {b : Bag} (hb : BagOk b) {many most : Nat} (h1 : 0 < many) (h2 : many ≤ 12) (h3 : most ≤ 1000) : ∃ (F : List Ln) (b' : Bag), m_law_drawn_flat (bagV b) [.int (many : Nat), .int (most : Nat)] = some (flatD F, bagV b') ∧ BagOk b' ∧ Rr F ∧ (∀ l ∈ F, l.1 < 2 ^ many) ∧ F.length ≤ most := by
  obtain ⟨F, b', h1, h2', _, h3'⟩ := drawn_ok2 hb h1 h2 h3
  exact ⟨F, b', h1, h2', h3'⟩
end LX
namespace LX
open PySem L2 DL FL
theorem lcD_invT {α : Type} {vs : List Nat} {g : Gv} {q : Eq} {a : Ev} (enc : α → PyData) (I : List α → List PyData → En → Prop) (xs : List α)
    (step : ∀ (done : List α) (x : α) (rest : List α) (out : List PyData) (ρ : En), xs = done ++ x :: rest → I done out ρ → ∃ ρ1 b ρ2, g (enc x) ρ = some ρ1 ∧ q ρ1 = some (b, ρ2) ∧
      (b = true → ∃ d ρ3, a ρ2 = some (d, ρ3) ∧ I (done ++ [x]) (out ++ [d]) (wipeE ρ3 vs)) ∧ (b = false → I (done ++ [x]) out (wipeE ρ2 vs))) :
    ∀ (rest done : List α) (out : List PyData) (ρ : En), xs = done ++ rest → I done out ρ → ∃ more ρ', lcD vs g q a (rest.map enc) ρ = some (more, ρ') ∧ I xs (out ++ more) ρ'
  | [], done, out, ρ, e, h => ⟨[], ρ, rfl, by rw [e, List.append_nil, List.append_nil]; exact h⟩
  | x :: rest, done, out, ρ, e, h => by
    obtain ⟨ρ1, b, ρ2, h1, h2, h3, h4⟩ := step done x rest out ρ e h
    rw [List.map_cons]
    cases b with
    | true =>
      obtain ⟨d, ρ3, h5, h6⟩ := h3 rfl
      obtain ⟨more, ρ', h7, h8⟩ := lcD_invT enc I xs step rest (done ++ [x]) (out ++ [d]) _ (by rw [e, List.append_assoc]; rfl) h6
      refine ⟨d :: more, ρ', ?_, by rw [List.append_assoc] at h8; exact h8⟩
      unfold lcD
      rw [h1]
      simp only [h2, h5, h7]
    | false =>
      obtain ⟨more, ρ', h7, h8⟩ := lcD_invT enc I xs step rest (done ++ [x]) out _ (by rw [e, List.append_assoc]; rfl) (h4 rfl)
      refine ⟨more, ρ', ?_, h8⟩
      unfold lcD
      rw [h1]
      simp only [h2, h7]
theorem ltold_ok {F : List Ln} (hF : ∀ l ∈ F, l.1 ≠ 0 ∧ l.1 < 2 ^ 16) {m : Nat} (hm : m < 2 ^ 16) : m_law_told [flatD F, rowD m] = some (optD (told F m)) := by
  have key : ∀ (G : List Ln) (m : Nat) (w : Bool) (s0 s1 s4 : Sl), (∀ l ∈ G, l.1 ≠ 0 ∧ l.1 < 2 ^ 16) → ∃ t4, forD (gN 4) (sIf (qB (e2 eqD (e2 andD (e2 shrD (eV 2) (e2 ixX (e2 ixX (eV 4) (eC (.int 0))) (eC (.int 0)))) (eC (.int 1))) (eC (.int 1)))) (sPar 2 3 (aC (e2 xorD (eV 2) (eN m_law_mask (aC (e2 ixX (eV 4) (eC (.int 0))) aN))) (aC (e2 xorD (eV 3) (e2 ixX (eV 4) (eC (.int 1)))) aN))) sN) (G.map lineD) [s0, s1, .d (.int (m : Nat)), .d (bitD w), s4] = some (.nx [s0, s1, .d (.int ((led G m w).1 : Nat)), .d (bitD (led G m w).2), t4]) := by
    intro G
    induction G with
    | nil => intro m w s0 s1 s4 _; exact ⟨s4, rfl⟩
    | cons l G ih =>
      intro m w s0 s1 s4 hG
      have hl := hG l (List.mem_cons_self ..)
      obtain ⟨u, c, h1, h2, h3⟩ := bit_test3 m (hd l.1)
      have x1 := row_head hl.1 hl.2
      have x2 := mask_ok hl.2
      have x3 := xorD_nn m l.1
      have x4 := xor_bit w l.2
      have y0 := ixX_line0 l
      have y1 := ixX_line1 l
      rw [List.map_cons]
      unfold led
      by_cases hb : m.testBit (hd l.1) = true
      · rw [if_pos hb]
        obtain ⟨t4, h⟩ := ih (m ^^^ l.1) (w ^^ l.2) s0 s1 (.d (lineD l)) fun k hk => hG k (List.mem_cons_of_mem _ hk)
        refine ⟨t4, ?_⟩
        rw [forD_go (ρ1 := [s0, s1, .d (.int (m : Nat)), .d (bitD w), .d (lineD l)]) rfl (ρ2 := [s0, s1, .d (.int ((m ^^^ l.1 : Nat) : Int)), .d (bitD (w ^^ l.2)), .d (lineD l)]) ?_]
        · exact h
        · rw [hb] at h3
          generalize (m ^^^ l.1) = z at x3
          generalize (w ^^ l.2) = y at x4
          simp [DL.sWipe, DL.wipeF, DL.wipeL_nil, DL.wipeL_cons, DL.sFrz, DL.eChain, sQ, sIf, sN, qFz, qB, qAnd, qOr, qNot, qYes, e1, DL.e2, eV, eC, eN, eI, eIf, eAnd, eOr, eFz, eSl, oS, oN, aN, aC, aX, sAsg, sAsgO, sRet, sRetO, sRetN, sDrop, sSet, sSetX, sAugI, sMut, sPar, sPat, sParM, mN, mC, DL.setM, iSeq, iN, gN, gT, gC, gZ, outP, outF, outI, en0, stillE, Sl.still, Sl.own, Sl.put, p1, tupD, lstD, mkT, mkL, DL.e3, sl1, sl2, sl3, sl4, sl0, sl5, sl6, sl7, sl8, List.length_cons, List.length_nil, List.length_map, List.getElem?_cons_zero, List.getElem?_cons_succ, List.set_cons_zero, List.set_cons_succ, List.map_cons, List.map_nil, List.replicate, List.cons_append, List.nil_append, List.append_nil, Option.map_some, if_true, if_false, ite_true, ite_false, reduceIte, Nat.reduceAdd, Nat.reduceSub, Nat.reduceLeDiff, Nat.reduceEqDiff, Nat.sub_self, Nat.zero_add, Option.map_none, decide_true, decide_false, Bool.not_true, Bool.not_false, h1, h2, h3, x1, x2, x3, x4, y0, y1]
      · rw [if_neg hb]
        obtain ⟨t4, h⟩ := ih m w s0 s1 (.d (lineD l)) fun k hk => hG k (List.mem_cons_of_mem _ hk)
        refine ⟨t4, ?_⟩
        rw [forD_go (ρ1 := [s0, s1, .d (.int (m : Nat)), .d (bitD w), .d (lineD l)]) rfl (ρ2 := [s0, s1, .d (.int (m : Nat)), .d (bitD w), .d (lineD l)]) ?_]
        · exact h
        · have hb' : m.testBit (hd l.1) = false := by simpa using hb
          rw [hb'] at h3
          simp [DL.sWipe, DL.wipeF, DL.wipeL_nil, DL.wipeL_cons, DL.sFrz, DL.eChain, sQ, sIf, sN, qFz, qB, qAnd, qOr, qNot, qYes, e1, DL.e2, eV, eC, eN, eI, eIf, eAnd, eOr, eFz, eSl, oS, oN, aN, aC, aX, sAsg, sAsgO, sRet, sRetO, sRetN, sDrop, sSet, sSetX, sAugI, sMut, sPar, sPat, sParM, mN, mC, DL.setM, iSeq, iN, gN, gT, gC, gZ, outP, outF, outI, en0, stillE, Sl.still, Sl.own, Sl.put, p1, tupD, lstD, mkT, mkL, DL.e3, sl1, sl2, sl3, sl4, sl0, sl5, sl6, sl7, sl8, List.length_cons, List.length_nil, List.length_map, List.getElem?_cons_zero, List.getElem?_cons_succ, List.set_cons_zero, List.set_cons_succ, List.map_cons, List.map_nil, List.replicate, List.cons_append, List.nil_append, List.append_nil, Option.map_some, if_true, if_false, ite_true, ite_false, reduceIte, Nat.reduceAdd, Nat.reduceSub, Nat.reduceLeDiff, Nat.reduceEqDiff, Nat.sub_self, Nat.zero_add, Option.map_none, decide_true, decide_false, Bool.not_true, Bool.not_false, h1, h2, h3, x1, y0]
  obtain ⟨t4, k⟩ := key F m false (.d (flatD F)) (.d (rowD m)) .u hF
  have hk := mask_ok hm
  have hb0 : bitD false = .int 0 := rfl
  rw [hb0] at k
  have he := eqD_nat (led F m false).1 0
  have he' : eqD (.int ((led F m false).1 : Nat)) (.int 0) = some (.bool (decide ((led F m false).1 = 0))) := he
  unfold told
  by_cases e : (led F m false).1 = 0
  · rw [decide_eq_true e] at he'
    rw [if_pos e]
    generalize (((led F m false).1 : Nat) : Int) = z at *
    simp [m_law_told, runP, b_law_told, DL.sWipe, DL.wipeF, DL.wipeL_nil, DL.wipeL_cons, DL.sFrz, DL.eChain, sQ, sIf, sN, qFz, qB, qAnd, qOr, qNot, qYes, e1, DL.e2, eV, eC, eN, eI, eIf, eAnd, eOr, eFz, eSl, oS, oN, aN, aC, aX, sAsg, sAsgO, sRet, sRetO, sRetN, sDrop, sSet, sSetX, sAugI, sMut, sPar, sPat, sParM, mN, mC, DL.setM, iSeq, iN, gN, gT, gC, gZ, outP, outF, outI, en0, stillE, Sl.still, Sl.own, Sl.put, p1, tupD, lstD, mkT, mkL, DL.e3, sl1, sl2, sl3, sl4, sl0, sl5, sl6, sl7, sl8, List.length_cons, List.length_nil, List.length_map, List.getElem?_cons_zero, List.getElem?_cons_succ, List.set_cons_zero, List.set_cons_succ, List.map_cons, List.map_nil, List.replicate, List.cons_append, List.nil_append, List.append_nil, Option.map_some, if_true, if_false, ite_true, ite_false, reduceIte, Nat.reduceAdd, Nat.reduceSub, Nat.reduceLeDiff, Nat.reduceEqDiff, Nat.sub_self, Nat.zero_add, Option.map_none, decide_true, decide_false, Bool.not_true, Bool.not_false, sFor, seqOf_flat, hk, k, he', optD]
  · rw [decide_eq_false e] at he'
    rw [if_neg e]
    generalize (((led F m false).1 : Nat) : Int) = z at *
    simp [m_law_told, runP, b_law_told, DL.sWipe, DL.wipeF, DL.wipeL_nil, DL.wipeL_cons, DL.sFrz, DL.eChain, sQ, sIf, sN, qFz, qB, qAnd, qOr, qNot, qYes, e1, DL.e2, eV, eC, eN, eI, eIf, eAnd, eOr, eFz, eSl, oS, oN, aN, aC, aX, sAsg, sAsgO, sRet, sRetO, sRetN, sDrop, sSet, sSetX, sAugI, sMut, sPar, sPat, sParM, mN, mC, DL.setM, iSeq, iN, gN, gT, gC, gZ, outP, outF, outI, en0, stillE, Sl.still, Sl.own, Sl.put, p1, tupD, lstD, mkT, mkL, DL.e3, sl1, sl2, sl3, sl4, sl0, sl5, sl6, sl7, sl8, List.length_cons, List.length_nil, List.length_map, List.getElem?_cons_zero, List.getElem?_cons_succ, List.set_cons_zero, List.set_cons_succ, List.map_cons, List.map_nil, List.replicate, List.cons_append, List.nil_append, List.append_nil, Option.map_some, if_true, if_false, ite_true, ite_false, reduceIte, Nat.reduceAdd, Nat.reduceSub, Nat.reduceLeDiff, Nat.reduceEqDiff, Nat.sub_self, Nat.zero_add, Option.map_none, decide_true, decide_false, Bool.not_true, Bool.not_false, sFor, seqOf_flat, hk, k, he', optD]
theorem none_both {F : List Ln} (r : Rr F) {m : Nat} (hm : m < 2 ^ 16) (h : told F m = none) (b : Bool) : ∃ x, Holds F x ∧ dot m x = b := by
  have lt := led_lt (w := false) (fun l hl => (r.pos l hl).2) hm
  have lh := led_heads (m := m) (w := false) r
  have n0 : (led F m false).1 ≠ 0 := fun z => by
    unfold told at h
    rw [if_pos z] at h
    cases h
  obtain ⟨x, hx, hd⟩ := both r n0 lt lh (b ^^ (led F m false).2)
  refine ⟨x, hx, ?_⟩
  have := led_worth (m := m) (w := false) hx
  rw [hd] at this
  revert this
  cases b <;> cases (led F m false).2 <;> cases dot m x <;> simp
theorem halves_of2 {n : Nat} (hn : n ≤ 12) {F : List Ln} (fF : Fl n F) {m : Nat} (hm : m < 2 ^ n) (ht : told F m = none) : ∃ A B, m_law_halves [flatD F, rowD m] = some (.tuple [flatD A, flatD B]) ∧ (Fl n A ∧ Srt A ∧ ∀ x, Holds A x ↔ Holds F x ∧ dot m x = false) ∧ (Fl n B ∧ Srt B ∧ ∀ x, Holds B x ↔ Holds F x ∧ dot m x = true) ∧ A.length ≤ F.length + 1 ∧ B.length ≤ F.length + 1 := by
  have m16 : m < 2 ^ 16 := Nat.lt_of_lt_of_le hm (Nat.pow_le_pow_right (by decide) (by omega))
  have go : ∀ b : Bool, ∃ T, m_law_flat_of [.list ((F ++ [(m, b)]).map lineD)] = some (flatD T) ∧ (Fl n T ∧ Srt T ∧ ∀ x, Holds T x ↔ Holds F x ∧ dot m x = b) ∧ T.length ≤ F.length + 1 := fun b => by
    obtain ⟨x, hx, hd⟩ := none_both fF.rr m16 ht b
    obtain ⟨T, h1, hS, h2, h3, h4, h5⟩ := flat_of_ok2 (n := n) (by omega) (L := F ++ [(m, b)]) (fun l hl => by
      rcases List.mem_append.mp hl with hl | hl
      · exact fF.lt l hl
      · rw [List.mem_singleton.mp hl]; exact hm) x (fun l hl => by
      rcases List.mem_append.mp hl with hl | hl
      · exact hx l hl
      · rw [List.mem_singleton.mp hl]; exact hd)
    refine ⟨T, h1, ⟨⟨h2, h3⟩, hS, fun x => ?_⟩, by rw [List.length_append] at h4; exact h4⟩
    rw [h5]
    exact ⟨fun h => ⟨fun l hl => h l (List.mem_append.mpr (.inl hl)), h (m, b) (List.mem_append.mpr (.inr (List.mem_singleton.mpr rfl)))⟩, fun h l hl => by
      rcases List.mem_append.mp hl with hl | hl
      · exact h.1 l hl
      · rw [List.mem_singleton.mp hl]; exact h.2⟩
  obtain ⟨A, a1, a2, a3⟩ := go false
  obtain ⟨B, b1, b2, b3⟩ := go true
  refine ⟨A, B, ?_, a2, b2, a3, b3⟩
  have key := eLc_M (vs := [2]) (it := iSeq (eN mkT (aC (eC (.int 0)) (aC (eC (.int 1)) aN)))) (g := gN 2) (a := eN m_law_flat_of (aC (DL.e2 addD (eN (p1 lstD) (aC (eV 0) aN)) (eN mkL (aC (eN mkT (aC (eV 1) (aC (eV 2) aN))) aN))) aN)) (ρ := [.d (flatD F), .d (rowD m), .u]) bitD [false, true] (by simp [DL.sWipe, DL.wipeF, DL.wipeL_nil, DL.wipeL_cons, DL.sFrz, DL.eChain, sQ, sIf, sN, qFz, qB, qAnd, qOr, qNot, qYes, e1, DL.e2, eV, eC, eN, eI, eIf, eAnd, eOr, eFz, eSl, oS, oN, aN, aC, aX, sAsg, sAsgO, sRet, sRetO, sRetN, sDrop, sSet, sSetX, sAugI, sMut, sPar, sPat, sParM, mN, mC, DL.setM, iSeq, iN, gN, gT, gC, gZ, outP, outF, outI, en0, stillE, Sl.still, Sl.own, Sl.put, p1, tupD, lstD, mkT, mkL, DL.e3, sl1, sl2, sl3, sl4, sl0, sl5, sl6, sl7, sl8, List.length_cons, List.length_nil, List.length_map, List.getElem?_cons_zero, List.getElem?_cons_succ, List.set_cons_zero, List.set_cons_succ, List.map_cons, List.map_nil, List.replicate, List.cons_append, List.nil_append, List.append_nil, Option.map_some, if_true, if_false, ite_true, ite_false, reduceIte, Nat.reduceAdd, Nat.reduceSub, Nat.reduceLeDiff, Nat.reduceEqDiff, Nat.sub_self, Nat.zero_add, Option.map_none, decide_true, decide_false, Bool.not_true, Bool.not_false, seqOf, bitD]) rfl rfl (fun b => if b = true then flatD B else flatD A) (fun b hb => by
    refine ⟨[.d (flatD F), .d (rowD m), .d (bitD b)], [.d (flatD F), .d (rowD m), .d (bitD b)], rfl, ?_, rfl⟩
    have hl : lstD (flatD F) = some (.list (F.map lineD)) := rfl
    have hadd : addD (.list (F.map lineD)) (.list [.tuple [rowD m, bitD b]]) = some (.list ((F ++ [(m, b)]).map lineD)) := by
      show (if _ then _ else none) = _
      rw [if_pos (by have := rr_len fF.rr; rw [List.length_map, List.length_singleton, sizeLine_eq]; omega), List.map_append]
      rfl
    have hq : m_law_flat_of [.list ((F ++ [(m, b)]).map lineD)] = some (if b = true then flatD B else flatD A) := by
      cases b with
      | true => exact b1
      | false => exact a1
    generalize (F ++ [(m, b)]).map lineD = o1 at hadd hq
    generalize (if b = true then flatD B else flatD A) = o2 at hq
    have hfd : flatD F = .tuple (F.map lineD) := rfl
    rw [hfd]
    generalize F.map lineD = o3 at hadd
    simp [DL.sWipe, DL.wipeF, DL.wipeL_nil, DL.wipeL_cons, DL.sFrz, DL.eChain, sQ, sIf, sN, qFz, qB, qAnd, qOr, qNot, qYes, e1, DL.e2, eV, eC, eN, eI, eIf, eAnd, eOr, eFz, eSl, oS, oN, aN, aC, aX, sAsg, sAsgO, sRet, sRetO, sRetN, sDrop, sSet, sSetX, sAugI, sMut, sPar, sPat, sParM, mN, mC, DL.setM, iSeq, iN, gN, gT, gC, gZ, outP, outF, outI, en0, stillE, Sl.still, Sl.own, Sl.put, p1, tupD, lstD, mkT, mkL, DL.e3, sl1, sl2, sl3, sl4, sl0, sl5, sl6, sl7, sl8, List.length_cons, List.length_nil, List.length_map, List.getElem?_cons_zero, List.getElem?_cons_succ, List.set_cons_zero, List.set_cons_succ, List.map_cons, List.map_nil, List.replicate, List.cons_append, List.nil_append, List.append_nil, Option.map_some, if_true, if_false, ite_true, ite_false, reduceIte, Nat.reduceAdd, Nat.reduceSub, Nat.reduceLeDiff, Nat.reduceEqDiff, Nat.sub_self, Nat.zero_add, Option.map_none, decide_true, decide_false, Bool.not_true, Bool.not_false, hadd, hq])
  have key' : eLc [2] (iSeq (eN mkT (aC (eC (.int 0)) (aC (eC (.int 1)) aN)))) (gN 2) qYes (eN m_law_flat_of (aC (DL.e2 addD (eN (p1 lstD) (aC (eV 0) aN)) (eN mkL (aC (eN mkT (aC (eV 1) (aC (eV 2) aN))) aN))) aN)) [.d (flatD F), .d (rowD m), .u] = some (.list [flatD A, flatD B], [.d (flatD F), .d (rowD m), .u]) := key
  generalize flatD F = o4 at *
  simp [m_law_halves, runP, b_law_halves, DL.sWipe, DL.wipeF, DL.wipeL_nil, DL.wipeL_cons, DL.sFrz, DL.eChain, sQ, sIf, sN, qFz, qB, qAnd, qOr, qNot, qYes, e1, DL.e2, eV, eC, eN, eI, eIf, eAnd, eOr, eFz, eSl, oS, oN, aN, aC, aX, sAsg, sAsgO, sRet, sRetO, sRetN, sDrop, sSet, sSetX, sAugI, sMut, sPar, sPat, sParM, mN, mC, DL.setM, iSeq, iN, gN, gT, gC, gZ, outP, outF, outI, en0, stillE, Sl.still, Sl.own, Sl.put, p1, tupD, lstD, mkT, mkL, DL.e3, sl1, sl2, sl3, sl4, sl0, sl5, sl6, sl7, sl8, List.length_cons, List.length_nil, List.length_map, List.getElem?_cons_zero, List.getElem?_cons_succ, List.set_cons_zero, List.set_cons_succ, List.map_cons, List.map_nil, List.replicate, List.cons_append, List.nil_append, List.append_nil, Option.map_some, if_true, if_false, ite_true, ite_false, reduceIte, Nat.reduceAdd, Nat.reduceSub, Nat.reduceLeDiff, Nat.reduceEqDiff, Nat.sub_self, Nat.zero_add, Option.map_none, decide_true, decide_false, Bool.not_true, Bool.not_false, key']
theorem halves_of {n : Nat} (hn : n ≤ 12) {F : List Ln} (fF : Fl n F) {m : Nat} (hm : m < 2 ^ n) (ht : told F m = none) : ∃ A B, m_law_halves [flatD F, rowD m] = some (.tuple [flatD A, flatD B]) ∧ Fl n A ∧ Fl n B ∧ A.length ≤ F.length + 1 ∧ B.length ≤ F.length + 1 := by
  obtain ⟨A, B, h1, h2, h3, h4⟩ := halves_of2 hn fF hm ht
  exact ⟨A, B, h1, h2.1, h3.1, h4⟩
theorem wider_ok {b : Bag} (hb : BagOk b) (F : List Ln) : ∃ (G : List Ln) (b' : Bag), m_law_wider (bagV b) [flatD F] = some (flatD G, bagV b') ∧ BagOk b' ∧ G.Sublist F := by
  obtain ⟨more, ρ', k, S, b', rfl, ok, hS, e⟩ := lcD_invT (vs := [2]) (g := gN 2) (q := qB (DL.e2 gtI (eI m_law_take 0 (aC (eC (.int 5)) aN)) (eC (.int 0)))) (a := eV 2) lineD
    (fun dn out ρ => ∃ (S : List Ln) (b' : Bag), ρ = [.b (bagV b'), .d (flatD F), .u] ∧ BagOk b' ∧ S.Sublist dn ∧ out = S.map lineD) F
    (fun dn l rest out ρ ed ⟨S, b1, e, ok, hS, eo⟩ => by
      subst e
      obtain ⟨r, b2, ht, ok2, r1⟩ := take_nat ok (many := 5) (by decide) (by decide)
      have ht' : m_law_take (bagV b1) [.int 5] = some (.int (r : Nat), bagV b2) := ht
      have hg : gtI (.int (r : Nat)) (.int 0) = some (.bool (decide (0 < r))) := by
        show some (PyData.bool (decide ((0 : Int) < (r : Int)))) = _
        congr 2
        simp only [decide_eq_decide]
        omega
      refine ⟨[.b (bagV b1), .d (flatD F), .d (lineD l)], decide (0 < r), [.b (bagV b2), .d (flatD F), .d (lineD l)], rfl, ?_, fun _ => ⟨lineD l, [.b (bagV b2), .d (flatD F), .d (lineD l)], rfl, S ++ [l], b2, rfl, ok2, hS.append (List.Sublist.refl _), by rw [eo, List.map_append]; rfl⟩, fun _ => ⟨S, b2, rfl, ok2, hS.trans (List.sublist_append_left _ _), eo⟩⟩
      generalize decide (0 < r) = z at hg
      generalize (r : Int) = y at *
      simp [DL.sWipe, DL.wipeF, DL.wipeL_nil, DL.wipeL_cons, DL.sFrz, DL.eChain, sQ, sIf, sN, qFz, qB, qAnd, qOr, qNot, qYes, e1, DL.e2, eV, eC, eN, eI, eIf, eAnd, eOr, eFz, eSl, oS, oN, aN, aC, aX, sAsg, sAsgO, sRet, sRetO, sRetN, sDrop, sSet, sSetX, sAugI, sMut, sPar, sPat, sParM, mN, mC, DL.setM, iSeq, iN, gN, gT, gC, gZ, outP, outF, outI, en0, stillE, Sl.still, Sl.own, Sl.put, p1, tupD, lstD, mkT, mkL, DL.e3, sl1, sl2, sl3, sl4, sl0, sl5, sl6, sl7, sl8, List.length_cons, List.length_nil, List.length_map, List.getElem?_cons_zero, List.getElem?_cons_succ, List.set_cons_zero, List.set_cons_succ, List.map_cons, List.map_nil, List.replicate, List.cons_append, List.nil_append, List.append_nil, Option.map_some, if_true, if_false, ite_true, ite_false, reduceIte, Nat.reduceAdd, Nat.reduceSub, Nat.reduceLeDiff, Nat.reduceEqDiff, Nat.sub_self, Nat.zero_add, Option.map_none, decide_true, decide_false, Bool.not_true, Bool.not_false, ht', hg]) F [] [] [.b (bagV b), .d (flatD F), .u] rfl ⟨[], b, rfl, hb, List.Sublist.refl _, rfl⟩
  rw [List.nil_append] at e
  subst e
  refine ⟨S, b', ?_, ok, hS⟩
  have hl : eLc [2] (iSeq (eV 1)) (gN 2) (qB (DL.e2 gtI (eI m_law_take 0 (aC (eC (.int 5)) aN)) (eC (.int 0)))) (eV 2) [.b (bagV b), .d (flatD F), .u] = some (.list (S.map lineD), [.b (bagV b'), .d (flatD F), .u]) := by
    unfold eLc
    have hi : iSeq (eV 1) [.b (bagV b), .d (flatD F), .u] = some (F.map lineD, [.b (bagV b), .d (flatD F), .u]) := rfl
    have hw : wipeE [.b (bagV b), .d (flatD F), .u] [2] = [.b (bagV b), .d (flatD F), .u] := rfl
    rw [hi]
    simp only [hw, k]
    rfl
  have hf : flatD S = .tuple (S.map lineD) := rfl
  rw [hf]
  generalize flatD F = o1 at *
  generalize S.map lineD = o2 at *
  simp [m_law_wider, DL.runI, b_law_wider, DL.sWipe, DL.wipeF, DL.wipeL_nil, DL.wipeL_cons, DL.sFrz, DL.eChain, sQ, sIf, sN, qFz, qB, qAnd, qOr, qNot, qYes, e1, DL.e2, eV, eC, eN, eI, eIf, eAnd, eOr, eFz, eSl, oS, oN, aN, aC, aX, sAsg, sAsgO, sRet, sRetO, sRetN, sDrop, sSet, sSetX, sAugI, sMut, sPar, sPat, sParM, mN, mC, DL.setM, iSeq, iN, gN, gT, gC, gZ, outP, outF, outI, en0, stillE, Sl.still, Sl.own, Sl.put, p1, tupD, lstD, mkT, mkL, DL.e3, sl1, sl2, sl3, sl4, sl0, sl5, sl6, sl7, sl8, List.length_cons, List.length_nil, List.length_map, List.getElem?_cons_zero, List.getElem?_cons_succ, List.set_cons_zero, List.set_cons_succ, List.map_cons, List.map_nil, List.replicate, List.cons_append, List.nil_append, List.append_nil, Option.map_some, if_true, if_false, ite_true, ite_false, reduceIte, Nat.reduceAdd, Nat.reduceSub, Nat.reduceLeDiff, Nat.reduceEqDiff, Nat.sub_self, Nat.zero_add, Option.map_none, decide_true, decide_false, Bool.not_true, Bool.not_false, hl]
theorem new_row_ok {b : Bag} (hb : BagOk b) {n : Nat} (h1 : 0 < n) (h2 : n ≤ 12) {F : List Ln} (fF : Fl n F) (hlen : F.length < n) : ∃ (m : Nat) (b' : Bag), m_law_new_row (bagV b) [.int (n : Nat), flatD F] = some (rowD m, bagV b') ∧ BagOk b' ∧ m < 2 ^ n ∧ told F m = none := by
  have p16 : (2 : Nat) ^ n ≤ 2 ^ 16 := Nat.pow_le_pow_right (by decide) (by omega)
  have key : ∀ (xs : List PyData) (b : Bag) (s3 s4 : Sl), BagOk b → (∃ (m : Nat) (b' : Bag) (t3 t4 : Sl), forD (gN 3) (sQ (sAsg 4 (eI m_law_any_row 0 (aC (eV 1) aN))) (sIf (qB (e2 isN (eN m_law_told (aC (eV 2) (aC (eV 4) aN))) (eC .none))) (sRet (eV 4)) sN)) xs [.b (bagV b), .d (.int (n : Nat)), .d (flatD F), s3, s4, .u, .u, .u] = some (.ret (rowD m) [.b (bagV b'), .d (.int (n : Nat)), .d (flatD F), t3, t4, .u, .u, .u]) ∧ BagOk b' ∧ m < 2 ^ n ∧ told F m = none) ∨
      ∃ (b' : Bag) (t3 t4 : Sl), forD (gN 3) (sQ (sAsg 4 (eI m_law_any_row 0 (aC (eV 1) aN))) (sIf (qB (e2 isN (eN m_law_told (aC (eV 2) (aC (eV 4) aN))) (eC .none))) (sRet (eV 4)) sN)) xs [.b (bagV b), .d (.int (n : Nat)), .d (flatD F), s3, s4, .u, .u, .u] = some (.nx [.b (bagV b'), .d (.int (n : Nat)), .d (flatD F), t3, t4, .u, .u, .u]) ∧ BagOk b' := by
    intro xs
    induction xs with
    | nil => intro b s3 s4 hb; exact .inr ⟨b, s3, s4, rfl, hb⟩
    | cons x xs ih =>
      intro b s3 s4 hb
      obtain ⟨m, b1, hm, ok1, m0, m1⟩ := any_row_ok hb h1 h2
      have ht := ltold_ok fF.rr.pos (Nat.lt_of_lt_of_le m1 p16)
      have hi := isN_opt (told F m)
      cases e : told F m with
      | none =>
        rw [e] at hi ht
        refine .inl ⟨m, b1, .d x, .d (rowD m), ?_, ok1, m1, e⟩
        refine forD_ret (ρ1 := [.b (bagV b), .d (.int (n : Nat)), .d (flatD F), .d x, s4, .u, .u, .u]) rfl ?_
        have hi' : isN (optD none) .none = some (.bool true) := hi
        simp [DL.sWipe, DL.wipeF, DL.wipeL_nil, DL.wipeL_cons, DL.sFrz, DL.eChain, sQ, sIf, sN, qFz, qB, qAnd, qOr, qNot, qYes, e1, DL.e2, eV, eC, eN, eI, eIf, eAnd, eOr, eFz, eSl, oS, oN, aN, aC, aX, sAsg, sAsgO, sRet, sRetO, sRetN, sDrop, sSet, sSetX, sAugI, sMut, sPar, sPat, sParM, mN, mC, DL.setM, iSeq, iN, gN, gT, gC, gZ, outP, outF, outI, en0, stillE, Sl.still, Sl.own, Sl.put, p1, tupD, lstD, mkT, mkL, DL.e3, sl1, sl2, sl3, sl4, sl0, sl5, sl6, sl7, sl8, List.length_cons, List.length_nil, List.length_map, List.getElem?_cons_zero, List.getElem?_cons_succ, List.set_cons_zero, List.set_cons_succ, List.map_cons, List.map_nil, List.replicate, List.cons_append, List.nil_append, List.append_nil, Option.map_some, if_true, if_false, ite_true, ite_false, reduceIte, Nat.reduceAdd, Nat.reduceSub, Nat.reduceLeDiff, Nat.reduceEqDiff, Nat.sub_self, Nat.zero_add, Option.map_none, decide_true, decide_false, Bool.not_true, Bool.not_false, hm, ht, hi']
      | some v =>
        rw [e] at hi ht
        have hi' : isN (optD (some v)) .none = some (.bool false) := hi
        rw [forD_go (ρ1 := [.b (bagV b), .d (.int (n : Nat)), .d (flatD F), .d x, s4, .u, .u, .u]) rfl (ρ2 := [.b (bagV b1), .d (.int (n : Nat)), .d (flatD F), .d x, .d (rowD m), .u, .u, .u]) (by simp [DL.sWipe, DL.wipeF, DL.wipeL_nil, DL.wipeL_cons, DL.sFrz, DL.eChain, sQ, sIf, sN, qFz, qB, qAnd, qOr, qNot, qYes, e1, DL.e2, eV, eC, eN, eI, eIf, eAnd, eOr, eFz, eSl, oS, oN, aN, aC, aX, sAsg, sAsgO, sRet, sRetO, sRetN, sDrop, sSet, sSetX, sAugI, sMut, sPar, sPat, sParM, mN, mC, DL.setM, iSeq, iN, gN, gT, gC, gZ, outP, outF, outI, en0, stillE, Sl.still, Sl.own, Sl.put, p1, tupD, lstD, mkT, mkL, DL.e3, sl1, sl2, sl3, sl4, sl0, sl5, sl6, sl7, sl8, List.length_cons, List.length_nil, List.length_map, List.getElem?_cons_zero, List.getElem?_cons_succ, List.set_cons_zero, List.set_cons_succ, List.map_cons, List.map_nil, List.replicate, List.cons_append, List.nil_append, List.append_nil, Option.map_some, if_true, if_false, ite_true, ite_false, reduceIte, Nat.reduceAdd, Nat.reduceSub, Nat.reduceLeDiff, Nat.reduceEqDiff, Nat.sub_self, Nat.zero_add, Option.map_none, decide_true, decide_false, Bool.not_true, Bool.not_false, hm, ht, hi'])]
        exact ih b1 _ _ ok1
  have hr : rng1 [.int 5] = some ((List.range 5).map fun u : Nat => PyData.int (u : Int)) := rng_ok (n := 5) (by decide)
  rcases key ((List.range 5).map fun u : Nat => PyData.int (u : Int)) b .u .u hb with ⟨m, b', t3, t4, k, ok, m1, ht⟩ | ⟨b1, t3, t4, k, ok1⟩
  · refine ⟨m, b', ?_, ok, m1, ht⟩
    generalize (List.range 5).map (fun u : Nat => PyData.int (u : Int)) = o1 at *
    generalize flatD F = o2 at *
    simp [m_law_new_row, DL.runI, b_law_new_row, DL.sWipe, DL.wipeF, DL.wipeL_nil, DL.wipeL_cons, DL.sFrz, DL.eChain, sQ, sIf, sN, qFz, qB, qAnd, qOr, qNot, qYes, e1, DL.e2, eV, eC, eN, eI, eIf, eAnd, eOr, eFz, eSl, oS, oN, aN, aC, aX, sAsg, sAsgO, sRet, sRetO, sRetN, sDrop, sSet, sSetX, sAugI, sMut, sPar, sPat, sParM, mN, mC, DL.setM, iSeq, iN, gN, gT, gC, gZ, outP, outF, outI, en0, stillE, Sl.still, Sl.own, Sl.put, p1, tupD, lstD, mkT, mkL, DL.e3, sl1, sl2, sl3, sl4, sl0, sl5, sl6, sl7, sl8, List.length_cons, List.length_nil, List.length_map, List.getElem?_cons_zero, List.getElem?_cons_succ, List.set_cons_zero, List.set_cons_succ, List.map_cons, List.map_nil, List.replicate, List.cons_append, List.nil_append, List.append_nil, Option.map_some, if_true, if_false, ite_true, ite_false, reduceIte, Nat.reduceAdd, Nat.reduceSub, Nat.reduceLeDiff, Nat.reduceEqDiff, Nat.sub_self, Nat.zero_add, Option.map_none, decide_true, decide_false, Bool.not_true, Bool.not_false, sFor, hr, k]
  · have hh := eLc_M (vs := [6]) (it := iSeq (eV 2)) (g := gN 6) (a := DL.e2 ixX (DL.e2 ixX (eV 6) (eC (.int 0))) (eC (.int 0))) (ρ := [.b (bagV b1), .d (.int (n : Nat)), .d (flatD F), t3, t4, .u, .u, .u]) lineD F rfl rfl rfl (fun l => .int (hd l.1 : Nat)) (fun l hl => by
      refine ⟨[.b (bagV b1), .d (.int (n : Nat)), .d (flatD F), t3, t4, .u, .d (lineD l), .u], [.b (bagV b1), .d (.int (n : Nat)), .d (flatD F), t3, t4, .u, .d (lineD l), .u], rfl, ?_, rfl⟩
      have h1 := row_head (fF.rr.pos l hl).1 (fF.rr.pos l hl).2
      have y0 := ixX_line0 l
      simp [DL.sWipe, DL.wipeF, DL.wipeL_nil, DL.wipeL_cons, DL.sFrz, DL.eChain, sQ, sIf, sN, qFz, qB, qAnd, qOr, qNot, qYes, e1, DL.e2, eV, eC, eN, eI, eIf, eAnd, eOr, eFz, eSl, oS, oN, aN, aC, aX, sAsg, sAsgO, sRet, sRetO, sRetN, sDrop, sSet, sSetX, sAugI, sMut, sPar, sPat, sParM, mN, mC, DL.setM, iSeq, iN, gN, gT, gC, gZ, outP, outF, outI, en0, stillE, Sl.still, Sl.own, Sl.put, p1, tupD, lstD, mkT, mkL, DL.e3, sl1, sl2, sl3, sl4, sl0, sl5, sl6, sl7, sl8, List.length_cons, List.length_nil, List.length_map, List.getElem?_cons_zero, List.getElem?_cons_succ, List.set_cons_zero, List.set_cons_succ, List.map_cons, List.map_nil, List.replicate, List.cons_append, List.nil_append, List.append_nil, Option.map_some, if_true, if_false, ite_true, ite_false, reduceIte, Nat.reduceAdd, Nat.reduceSub, Nat.reduceLeDiff, Nat.reduceEqDiff, Nat.sub_self, Nat.zero_add, Option.map_none, decide_true, decide_false, Bool.not_true, Bool.not_false, y0, h1])
    have hh' : eLc [6] (iSeq (eV 2)) (gN 6) qYes (DL.e2 ixX (DL.e2 ixX (eV 6) (eC (.int 0))) (eC (.int 0))) [.b (bagV b1), .d (.int (n : Nat)), .d (flatD F), t3, t4, .u, .u, .u] = some (.list (natsD (F.map fun l => hd l.1)), [.b (bagV b1), .d (.int (n : Nat)), .d (flatD F), t3, t4, .u, .u, .u]) := by
      rw [hh]
      unfold natsD
      rw [List.map_map]
      rfl
    have hf := eLc_T (vs := [7]) (it := iN rng1 (aC (eV 1) aN)) (g := gN 7) (q := qB (DL.e2 ninX (eV 7) (eV 5))) (a := eV 7) (ρ := [.b (bagV b1), .d (.int (n : Nat)), .d (flatD F), t3, t4, .d (.list (natsD (F.map fun l => hd l.1))), .u, .u]) (ρ0 := [.b (bagV b1), .d (.int (n : Nat)), .d (flatD F), t3, t4, .d (.list (natsD (F.map fun l => hd l.1))), .u, .u])
      (fun u : Nat => PyData.int (u : Int)) (List.range n) (by have h := rng_ok (n := n) (by omega); simp [DL.sWipe, DL.wipeF, DL.wipeL_nil, DL.wipeL_cons, DL.sFrz, DL.eChain, sQ, sIf, sN, qFz, qB, qAnd, qOr, qNot, qYes, e1, DL.e2, eV, eC, eN, eI, eIf, eAnd, eOr, eFz, eSl, oS, oN, aN, aC, aX, sAsg, sAsgO, sRet, sRetO, sRetN, sDrop, sSet, sSetX, sAugI, sMut, sPar, sPat, sParM, mN, mC, DL.setM, iSeq, iN, gN, gT, gC, gZ, outP, outF, outI, en0, stillE, Sl.still, Sl.own, Sl.put, p1, tupD, lstD, mkT, mkL, DL.e3, sl1, sl2, sl3, sl4, sl0, sl5, sl6, sl7, sl8, List.length_cons, List.length_nil, List.length_map, List.getElem?_cons_zero, List.getElem?_cons_succ, List.set_cons_zero, List.set_cons_succ, List.map_cons, List.map_nil, List.replicate, List.cons_append, List.nil_append, List.append_nil, Option.map_some, if_true, if_false, ite_true, ite_false, reduceIte, Nat.reduceAdd, Nat.reduceSub, Nat.reduceLeDiff, Nat.reduceEqDiff, Nat.sub_self, Nat.zero_add, Option.map_none, decide_true, decide_false, Bool.not_true, Bool.not_false, h]) rfl rfl (fun u => !decide (u ∈ F.map fun l => hd l.1)) (fun u => .int (u : Int)) (fun u hu => by
        refine ⟨[.b (bagV b1), .d (.int (n : Nat)), .d (flatD F), t3, t4, .d (.list (natsD (F.map fun l => hd l.1))), .u, .d (.int (u : Int))], [.b (bagV b1), .d (.int (n : Nat)), .d (flatD F), t3, t4, .d (.list (natsD (F.map fun l => hd l.1))), .u, .d (.int (u : Int))], rfl, ?_, fun _ => ⟨_, rfl, rfl⟩, fun _ => rfl⟩
        have h2 := (in_nats (l := F.map fun l => hd l.1) (i := u) fun i hi => by
          obtain ⟨l, hl, rfl⟩ := List.mem_map.mp hi
          have := (hd_some (fF.rr.pos l hl).1 (fF.rr.pos l hl).2).2.1
          omega).2.2.2
        generalize (F.map fun l => hd l.1) = hs at h2
        simp [DL.sWipe, DL.wipeF, DL.wipeL_nil, DL.wipeL_cons, DL.sFrz, DL.eChain, sQ, sIf, sN, qFz, qB, qAnd, qOr, qNot, qYes, e1, DL.e2, eV, eC, eN, eI, eIf, eAnd, eOr, eFz, eSl, oS, oN, aN, aC, aX, sAsg, sAsgO, sRet, sRetO, sRetN, sDrop, sSet, sSetX, sAugI, sMut, sPar, sPat, sParM, mN, mC, DL.setM, iSeq, iN, gN, gT, gC, gZ, outP, outF, outI, en0, stillE, Sl.still, Sl.own, Sl.put, p1, tupD, lstD, mkT, mkL, DL.e3, sl1, sl2, sl3, sl4, sl0, sl5, sl6, sl7, sl8, List.length_cons, List.length_nil, List.length_map, List.getElem?_cons_zero, List.getElem?_cons_succ, List.set_cons_zero, List.set_cons_succ, List.map_cons, List.map_nil, List.replicate, List.cons_append, List.nil_append, List.append_nil, Option.map_some, if_true, if_false, ite_true, ite_false, reduceIte, Nat.reduceAdd, Nat.reduceSub, Nat.reduceLeDiff, Nat.reduceEqDiff, Nat.sub_self, Nat.zero_add, Option.map_none, decide_true, decide_false, Bool.not_true, Bool.not_false, h2])
    have hfree : ((List.range n).filter (fun u => !decide (u ∈ F.map fun l => hd l.1))).map (fun u : Nat => PyData.int (u : Int)) = natsD (freeN n F) := rfl
    rw [hfree] at hf
    have hne : 0 < (freeN n F).length := by
      rcases Nat.eq_zero_or_pos (freeN n F).length with z | z
      · exfalso
        have hnil := List.eq_nil_of_length_eq_zero z
        have := nodup_len (l := List.range n) (m := F.map fun l => hd l.1) List.nodup_range fun u hu => by
          by_cases w : u ∈ F.map fun l => hd l.1
          · exact w
          · have : u ∈ freeN n F := free_mem.mpr ⟨List.mem_range.mp hu, fun l hl z => w (List.mem_map.mpr ⟨l, hl, z⟩)⟩
            rw [hnil] at this; cases this
        rw [List.length_range, List.length_map] at this
        omega
      · exact z
    have hle : (freeN n F).length ≤ n := by
      unfold freeN
      have := List.length_filter_le (fun u => !decide (u ∈ F.map fun l => hd l.1)) (List.range n)
      rw [List.length_range] at this
      exact this
    obtain ⟨x, b2, hs, ok2, hx⟩ := some_ok ok1 (xs := natsD (freeN n F)) (by unfold natsD; rw [List.length_map]; exact hne) (by unfold natsD; rw [List.length_map]; omega)
    obtain ⟨u, hu, rfl⟩ := List.mem_map.mp hx
    obtain ⟨u1, u2⟩ := free_mem.mp hu
    refine ⟨2 ^ u, b2, ?_, ok2, Nat.pow_lt_pow_right (by decide) u1, ?_⟩
    · rw [row_pow u (by omega)]
      generalize (List.range 5).map (fun u : Nat => PyData.int (u : Int)) = o1 at *
      generalize natsD (F.map fun l => hd l.1) = o3 at *
      generalize natsD (freeN n F) = o4 at *
      generalize flatD F = o2 at *
      simp [m_law_new_row, DL.runI, b_law_new_row, DL.sWipe, DL.wipeF, DL.wipeL_nil, DL.wipeL_cons, DL.sFrz, DL.eChain, sQ, sIf, sN, qFz, qB, qAnd, qOr, qNot, qYes, e1, DL.e2, eV, eC, eN, eI, eIf, eAnd, eOr, eFz, eSl, oS, oN, aN, aC, aX, sAsg, sAsgO, sRet, sRetO, sRetN, sDrop, sSet, sSetX, sAugI, sMut, sPar, sPat, sParM, mN, mC, DL.setM, iSeq, iN, gN, gT, gC, gZ, outP, outF, outI, en0, stillE, Sl.still, Sl.own, Sl.put, p1, tupD, lstD, mkT, mkL, DL.e3, sl1, sl2, sl3, sl4, sl0, sl5, sl6, sl7, sl8, List.length_cons, List.length_nil, List.length_map, List.getElem?_cons_zero, List.getElem?_cons_succ, List.set_cons_zero, List.set_cons_succ, List.map_cons, List.map_nil, List.replicate, List.cons_append, List.nil_append, List.append_nil, Option.map_some, if_true, if_false, ite_true, ite_false, reduceIte, Nat.reduceAdd, Nat.reduceSub, Nat.reduceLeDiff, Nat.reduceEqDiff, Nat.sub_self, Nat.zero_add, Option.map_none, decide_true, decide_false, Bool.not_true, Bool.not_false, sFor, hr, k, hh', hf, hs]
    · have hfr : ∀ l ∈ F, (2 ^ u).testBit (hd l.1) = false := fun l hl => by
        rw [Nat.testBit_two_pow, decide_eq_false (fun z => u2 l hl z.symm)]
      unfold told
      rw [led_free hfr, if_neg (Nat.pos_iff_ne_zero.mp (Nat.two_pow_pos u))]
end LX
namespace LX
open PySem L2 DL FL
theorem fl_sub {n : Nat} {F G : List Ln} (f : Fl n F) (h : G.Sublist F) : Fl n G := ⟨f.rr.sub h, fun l hl => f.lt l (h.subset hl)⟩
theorem fl_nil (n : Nat) : Fl n [] := ⟨Rr.nil, fun _ h => (nomatch h)⟩
theorem alike_ok {d : PyData} (h : Nc 64 100000 d) : m_law_alike [d, d] = some (.bool true) := by
  have h1 := eqD_refl h (by decide)
  have h2 := reprD_of (h.repr (by decide) (by decide))
  have h3 : eqD (.str d.shown) (.str d.shown) = some (.bool true) := by rw [eqD_str]; simp
  simp [m_law_alike, runP, b_law_alike, DL.sWipe, DL.wipeF, DL.wipeL_nil, DL.wipeL_cons, DL.sFrz, DL.eChain, sQ, sIf, sN, qFz, qB, qAnd, qOr, qNot, qYes, e1, DL.e2, eV, eC, eN, eI, eIf, eAnd, eOr, eFz, eSl, oS, oN, aN, aC, aX, sAsg, sAsgO, sRet, sRetO, sRetN, sDrop, sSet, sSetX, sAugI, sMut, sPar, sPat, sParM, mN, mC, DL.setM, iSeq, iN, gN, gT, gC, gZ, outP, outF, outI, en0, stillE, Sl.still, Sl.own, Sl.put, p1, tupD, lstD, mkT, mkL, DL.e3, sl1, sl2, sl3, sl4, sl0, sl5, sl6, sl7, sl8, List.length_cons, List.length_nil, List.length_map, List.getElem?_cons_zero, List.getElem?_cons_succ, List.set_cons_zero, List.set_cons_succ, List.map_cons, List.map_nil, List.replicate, List.cons_append, List.nil_append, List.append_nil, Option.map_some, if_true, if_false, ite_true, ite_false, reduceIte, Nat.reduceAdd, Nat.reduceSub, Nat.reduceLeDiff, Nat.reduceEqDiff, Nat.sub_self, Nat.zero_add, Option.map_none, decide_true, decide_false, Bool.not_true, Bool.not_false, h1, h2, h3]
end LX
/-! PC2: numbers of all bits. -/
namespace DL
open PySem PySem.Spec L2 FL
theorem tupD_l (xs : List PyData) : tupD (.list xs) = some (.tuple xs) := rfl
theorem tupD_t (xs : List PyData) : tupD (.tuple xs) = some (.tuple xs) := rfl
theorem lstD_l (xs : List PyData) : lstD (.list xs) = some (.list xs) := rfl
theorem lstD_t (xs : List PyData) : lstD (.tuple xs) = some (.list xs) := rfl
theorem in_eq {n : Nat} (hn : n < 8) {F A : List Ln} (hF : ∀ l ∈ F, l.1 < 2 ^ n) (hA : ∀ l ∈ A, l.1 < 2 ^ n) : inN n F = inN n A ↔ ∀ x, Holds F x ↔ Holds A x := by
  constructor
  · intro e x
    have h1 := (sub_in hn hF hA).mp (by rw [e, Nat.and_self]) x
    have h2 := (sub_in hn hA hF).mp (by rw [e, Nat.and_self]) x
    exact ⟨h1, h2⟩
  · intro h
    have h1 := (sub_in hn hF hA).mpr fun x => (h x).mp
    have h2 := (sub_in hn hA hF).mpr fun x => (h x).mpr
    rw [Nat.and_comm] at h2
    exact h1.symm.trans h2
theorem in_app (n : Nat) (F : List Ln) (l : Ln) : inN n (F ++ [l]) = inN n F &&& heldN n l := by
  unfold inN
  rw [List.foldl_append]
  rfl
theorem holds_app {F : List Ln} {l : Ln} {x : Pt} : Holds (F ++ [l]) x ↔ Holds F x ∧ dot l.1 x = l.2 :=
  ⟨fun h => ⟨fun k hk => h k (List.mem_append.mpr (.inl hk)), h l (List.mem_append.mpr (.inr (List.mem_singleton.mpr rfl)))⟩, fun h k hk => by
    rcases List.mem_append.mp hk with hk | hk
    · exact h.1 k hk
    · rw [List.mem_singleton.mp hk]; exact h.2⟩
theorem lt_app {n : Nat} {F : List Ln} {l : Ln} (hF : ∀ l ∈ F, l.1 < 2 ^ n) (hl : l.1 < 2 ^ n) : ∀ k ∈ F ++ [l], k.1 < 2 ^ n := fun k hk => by
  rcases List.mem_append.mp hk with hk | hk
  · exact hF k hk
  · rw [List.mem_singleton.mp hk]; exact hl
theorem in_pos {n : Nat} (hn : n < 8) {F : List Ln} (hF : ∀ l ∈ F, l.1 < 2 ^ n) : 0 < inN n F ↔ ∃ x, Holds F x := by
  constructor
  · intro h
    obtain ⟨k, hk⟩ := Nat.exists_testBit_of_ne_zero (Nat.ne_of_gt h)
    exact ⟨_, (in_bit hn hF (in_out hk)).mp hk⟩
  · rintro ⟨x, hx⟩
    obtain ⟨k, hk, h1, _⟩ := holds_pt hn x
    have := (in_bit hn hF hk).mpr ((h1 F hF).mpr hx)
    refine Nat.pos_of_ne_zero fun z => ?_
    rw [z, Nat.zero_testBit] at this
    cases this
/-- the bits of a flat at which a line holds -/
theorem half_pos {n : Nat} (hn : n < 8) {F : List Ln} (hF : ∀ l ∈ F, l.1 < 2 ^ n) {m : Nat} (hm : m < 2 ^ n) (b : Bool) : 0 < inN n F &&& heldN n (m, b) ↔ ∃ x, Holds F x ∧ dot m x = b := by
  rw [← in_app, in_pos hn (lt_app (l := (m, b)) hF hm)]
  simp only [holds_app]
theorem told_half {F : List Ln} (r : Rr F) {m : Nat} (hm : m < 2 ^ 16) (b : Bool) : (∃ x, Holds F x ∧ dot m x = b) ↔ told F m = none ∨ told F m = some b := by
  cases h : told F m with
  | none =>
    refine ⟨fun _ => .inl rfl, fun _ => ?_⟩
    have lt := led_lt (w := false) (fun l hl => (r.pos l hl).2) hm
    have lh := led_heads (m := m) (w := false) r
    have n0 : (led F m false).1 ≠ 0 := fun z => by
      unfold told at h
      rw [if_pos z] at h
      cases h
    obtain ⟨x, hx, hd⟩ := both r n0 lt lh (b ^^ (led F m false).2)
    refine ⟨x, hx, ?_⟩
    have := led_worth (m := m) (w := false) hx
    rw [hd] at this
    revert this
    cases b <;> cases (led F m false).2 <;> cases dot m x <;> simp
  | some w =>
    have h2 := (told_some r hm).mp h
    constructor
    · rintro ⟨x, hx, e⟩
      rw [h2 x hx] at e
      rw [e]
      exact .inr rfl
    · rintro (q | q)
      · cases q
      · cases q
        obtain ⟨x, hx⟩ := r.pt
        exact ⟨x, hx, h2 x hx⟩
end DL
namespace LX
open PySem L2 DL FL
theorem isi_int (i : Int) : isiD "int" (.int i) = some (.bool true) := by
  have h : kitB "int" "int" = some true := by decide +kernel
  show (kitB "int" "int").map PyData.bool = _
  rw [h]; rfl
theorem isi_intb (i : Int) : isiD "bool" (.int i) = some (.bool false) := by
  have h : kitB "int" "bool" = some false := by decide +kernel
  show (kitB "int" "bool").map PyData.bool = _
  rw [h]; rfl
theorem isi_tup (xs : List PyData) : isiD "tuple" (.tuple xs) = some (.bool true) := by
  have h : kitB "tuple" "tuple" = some true := by decide +kernel
  show (kitB "tuple" "tuple").map PyData.bool = _
  rw [h]; rfl
theorem shaped_lnil : SeqAt.shaped (.list []) = true := by simp [SeqAt.shaped, PyData.canLay0, PyData.canLayAll0, PyData.depth, PyData.depthAll]
theorem neD_lnil : neD (.list []) (.list []) = some (.bool false) := by
  have h : neD (.list []) (.list []) = (if SeqAt.shaped (.list []) = true ∧ SeqAt.shaped (.list []) = true then some (.bool (!PyData.eqv (.list []) (.list []))) else none) := rfl
  rw [h, if_pos ⟨shaped_lnil, shaped_lnil⟩]
  simp [PyData.eqv, PyData.eqvAll]
theorem eqD_lnil : eqD (.list []) (.list []) = some (.bool true) := by
  have h : eqD (.list []) (.list []) = (if SeqAt.shaped (.list []) = true ∧ SeqAt.shaped (.list []) = true then some (.bool (PyData.eqv (.list []) (.list []))) else none) := rfl
  rw [h, if_pos ⟨shaped_lnil, shaped_lnil⟩]
  simp [PyData.eqv, PyData.eqvAll]
theorem eLc_none {α : Type} {vs : List Nat} {it : Es} {g : Gv} {q : Eq} {a : Ev} {ρ ρ0 : En} (enc : α → PyData) (xs : List α) (hit : it ρ = some (xs.map enc, ρ)) (hw : wipeE ρ vs = ρ0) (hm : mixE vs ρ ρ0 = ρ)
    (h : ∀ x ∈ xs, ∃ ρ1 ρ2, g (enc x) ρ0 = some ρ1 ∧ q ρ1 = some (false, ρ2) ∧ wipeE ρ2 vs = ρ0) : eLc vs it g q a ρ = some (.list [], ρ) := by
  have key := eLc_T (q := q) (a := a) (g := g) enc xs hit hw hm (fun _ => false) (fun _ => .none) (fun x hx => by
    obtain ⟨ρ1, ρ2, h1, h2, h3⟩ := h x hx
    exact ⟨ρ1, ρ2, h1, h2, (fun z => nomatch z), fun _ => h3⟩)
  rw [key]
  have : xs.filter (fun _ => false) = [] := by rw [List.filter_eq_nil_iff]; intro _ _ z; cases z
  rw [this]
  rfl
theorem whole_ok (i : Int) : m_law_is_whole [.int i] = some (.bool true) := by
  simp [m_law_is_whole, runP, b_law_is_whole, DL.sWipe, DL.wipeF, DL.wipeL_nil, DL.wipeL_cons, DL.sFrz, DL.eChain, sQ, sIf, sN, qFz, qB, qAnd, qOr, qNot, qYes, e1, DL.e2, eV, eC, eN, eI, eIf, eAnd, eOr, eFz, eSl, oS, oN, aN, aC, aX, sAsg, sAsgO, sRet, sRetO, sRetN, sDrop, sSet, sSetX, sAugI, sMut, sPar, sPat, sParM, mN, mC, DL.setM, iSeq, iN, gN, gT, gC, gZ, outP, outF, outI, en0, stillE, Sl.still, Sl.own, Sl.put, p1, DL.tupD_l, DL.tupD_t, DL.lstD_l, DL.lstD_t, mkT, mkL, DL.e3, sl1, sl2, sl3, sl4, sl0, sl5, sl6, sl7, sl8, List.length_cons, List.length_nil, List.length_map, List.getElem?_cons_zero, List.getElem?_cons_succ, List.set_cons_zero, List.set_cons_succ, List.map_cons, List.map_nil, List.replicate, List.cons_append, List.nil_append, List.append_nil, Option.map_some, if_true, if_false, ite_true, ite_false, reduceIte, Nat.reduceAdd, Nat.reduceSub, Nat.reduceLeDiff, Nat.reduceEqDiff, Nat.sub_self, Nat.zero_add, Option.map_none, decide_true, decide_false, Bool.not_true, Bool.not_false, isi_int, isi_intb, notD]
theorem isin_ok {u n : Nat} (h : u < n) : m_law_is_in [.int (u : Int), .int (n : Int)] = some (.bool true) := by
  have h1 := whole_ok (u : Int)
  have h2 : leI (.int 0) (.int (u : Int)) = some (.bool true) := by show some (PyData.bool (decide ((0 : Int) ≤ u))) = _; rw [decide_eq_true (by omega)]
  have h3 : ltI (.int (u : Int)) (.int (n : Int)) = some (.bool true) := by show some (PyData.bool (decide ((u : Int) < n))) = _; rw [decide_eq_true (by omega)]
  simp [m_law_is_in, runP, b_law_is_in, DL.sWipe, DL.wipeF, DL.wipeL_nil, DL.wipeL_cons, DL.sFrz, DL.eChain, sQ, sIf, sN, qFz, qB, qAnd, qOr, qNot, qYes, e1, DL.e2, eV, eC, eN, eI, eIf, eAnd, eOr, eFz, eSl, oS, oN, aN, aC, aX, sAsg, sAsgO, sRet, sRetO, sRetN, sDrop, sSet, sSetX, sAugI, sMut, sPar, sPat, sParM, mN, mC, DL.setM, iSeq, iN, gN, gT, gC, gZ, outP, outF, outI, en0, stillE, Sl.still, Sl.own, Sl.put, p1, DL.tupD_l, DL.tupD_t, DL.lstD_l, DL.lstD_t, mkT, mkL, DL.e3, sl1, sl2, sl3, sl4, sl0, sl5, sl6, sl7, sl8, List.length_cons, List.length_nil, List.length_map, List.getElem?_cons_zero, List.getElem?_cons_succ, List.set_cons_zero, List.set_cons_succ, List.map_cons, List.map_nil, List.replicate, List.cons_append, List.nil_append, List.append_nil, Option.map_some, if_true, if_false, ite_true, ite_false, reduceIte, Nat.reduceAdd, Nat.reduceSub, Nat.reduceLeDiff, Nat.reduceEqDiff, Nat.sub_self, Nat.zero_add, Option.map_none, decide_true, decide_false, Bool.not_true, Bool.not_false, h1, h2, h3]
theorem lsum_ok {n m : Nat} (hm : m < 2 ^ n) : m_law_is_sum [.int (n : Int), rowD m] = some (.bool true) := by
  have c : b_law_is_sum_C1 [.d (.int (n : Int)), .d (rowD m), .u] = some (.list [], [.d (.int (n : Int)), .d (rowD m), .u]) :=
    eLc_none (fun u : Nat => PyData.int (u : Int)) (bitsOf m) rfl rfl rfl fun u hu => by
      have h1 := isin_ok (bits_below hm u hu)
      refine ⟨[.d (.int (n : Int)), .d (rowD m), .d (.int (u : Int))], [.d (.int (n : Int)), .d (rowD m), .d (.int (u : Int))], rfl, ?_, rfl⟩
      simp [DL.sWipe, DL.wipeF, DL.wipeL_nil, DL.wipeL_cons, DL.sFrz, DL.eChain, sQ, sIf, sN, qFz, qB, qAnd, qOr, qNot, qYes, e1, DL.e2, eV, eC, eN, eI, eIf, eAnd, eOr, eFz, eSl, oS, oN, aN, aC, aX, sAsg, sAsgO, sRet, sRetO, sRetN, sDrop, sSet, sSetX, sAugI, sMut, sPar, sPat, sParM, mN, mC, DL.setM, iSeq, iN, gN, gT, gC, gZ, outP, outF, outI, en0, stillE, Sl.still, Sl.own, Sl.put, p1, DL.tupD_l, DL.tupD_t, DL.lstD_l, DL.lstD_t, mkT, mkL, DL.e3, sl1, sl2, sl3, sl4, sl0, sl5, sl6, sl7, sl8, List.length_cons, List.length_nil, List.length_map, List.getElem?_cons_zero, List.getElem?_cons_succ, List.set_cons_zero, List.set_cons_succ, List.map_cons, List.map_nil, List.replicate, List.cons_append, List.nil_append, List.append_nil, Option.map_some, if_true, if_false, ite_true, ite_false, reduceIte, Nat.reduceAdd, Nat.reduceSub, Nat.reduceLeDiff, Nat.reduceEqDiff, Nat.sub_self, Nat.zero_add, Option.map_none, decide_true, decide_false, Bool.not_true, Bool.not_false, h1]
  have h1 := sortSetA_row m
  have h2 : lstD (rowD m) = some (.list (natsD (bitsOf m))) := rfl
  have h3 : eqD (.list (natsD (bitsOf m))) (.list (natsD (bitsOf m))) = some (.bool true) := eqD_refl (natsD_nc fun i hi => by have := (mem_bits.mp hi).1; omega).lst (by decide)
  have h4 : isiD "tuple" (rowD m) = some (.bool true) := isi_tup _
  generalize natsD (bitsOf m) = z at h1 h2 h3
  generalize rowD m = y at *
  simp [m_law_is_sum, runP, b_law_is_sum, DL.sWipe, DL.wipeF, DL.wipeL_nil, DL.wipeL_cons, DL.sFrz, DL.eChain, sQ, sIf, sN, qFz, qB, qAnd, qOr, qNot, qYes, e1, DL.e2, eV, eC, eN, eI, eIf, eAnd, eOr, eFz, eSl, oS, oN, aN, aC, aX, sAsg, sAsgO, sRet, sRetO, sRetN, sDrop, sSet, sSetX, sAugI, sMut, sPar, sPat, sParM, mN, mC, DL.setM, iSeq, iN, gN, gT, gC, gZ, outP, outF, outI, en0, stillE, Sl.still, Sl.own, Sl.put, p1, DL.tupD_l, DL.tupD_t, DL.lstD_l, DL.lstD_t, mkT, mkL, DL.e3, sl1, sl2, sl3, sl4, sl0, sl5, sl6, sl7, sl8, List.length_cons, List.length_nil, List.length_map, List.getElem?_cons_zero, List.getElem?_cons_succ, List.set_cons_zero, List.set_cons_succ, List.map_cons, List.map_nil, List.replicate, List.cons_append, List.nil_append, List.append_nil, Option.map_some, if_true, if_false, ite_true, ite_false, reduceIte, Nat.reduceAdd, Nat.reduceSub, Nat.reduceLeDiff, Nat.reduceEqDiff, Nat.sub_self, Nat.zero_add, Option.map_none, decide_true, decide_false, Bool.not_true, Bool.not_false, c, neD_lnil, h1, h2, h4, h3]
theorem lrow_ok {n m : Nat} (hn : n ≤ 16) (hm : m < 2 ^ n) (h0 : m ≠ 0) : m_law_is_row [.int (n : Int), rowD m] = some (.bool true) := by
  have h1 := lsum_ok hm
  have h2 := neD_row_nil (Nat.lt_of_lt_of_le hm (Nat.pow_le_pow_right (by decide) hn))
  rw [decide_eq_false h0] at h2
  simp [m_law_is_row, runP, b_law_is_row, DL.sWipe, DL.wipeF, DL.wipeL_nil, DL.wipeL_cons, DL.sFrz, DL.eChain, sQ, sIf, sN, qFz, qB, qAnd, qOr, qNot, qYes, e1, DL.e2, eV, eC, eN, eI, eIf, eAnd, eOr, eFz, eSl, oS, oN, aN, aC, aX, sAsg, sAsgO, sRet, sRetO, sRetN, sDrop, sSet, sSetX, sAugI, sMut, sPar, sPat, sParM, mN, mC, DL.setM, iSeq, iN, gN, gT, gC, gZ, outP, outF, outI, en0, stillE, Sl.still, Sl.own, Sl.put, p1, DL.tupD_l, DL.tupD_t, DL.lstD_l, DL.lstD_t, mkT, mkL, DL.e3, sl1, sl2, sl3, sl4, sl0, sl5, sl6, sl7, sl8, List.length_cons, List.length_nil, List.length_map, List.getElem?_cons_zero, List.getElem?_cons_succ, List.set_cons_zero, List.set_cons_succ, List.map_cons, List.map_nil, List.replicate, List.cons_append, List.nil_append, List.append_nil, Option.map_some, if_true, if_false, ite_true, ite_false, reduceIte, Nat.reduceAdd, Nat.reduceSub, Nat.reduceLeDiff, Nat.reduceEqDiff, Nat.sub_self, Nat.zero_add, Option.map_none, decide_true, decide_false, Bool.not_true, Bool.not_false, h1, h2]
theorem lline_ok {n : Nat} (hn : n ≤ 16) {l : Ln} (hl : l.1 < 2 ^ n) (h0 : l.1 ≠ 0) : m_law_is_line [.int (n : Int), lineD l] = some (.bool true) := by
  have h1 := lrow_ok hn hl h0
  have h2 : m_law_is_in [bitD l.2, .int 2] = some (.bool true) := by
    unfold bitD
    cases l.2
    · exact isin_ok (u := 0) (n := 2) (by decide)
    · exact isin_ok (u := 1) (n := 2) (by decide)
  have h3 : isiD "tuple" (lineD l) = some (.bool true) := isi_tup _
  have h4 : lenX (lineD l) = some (.int 2) := rfl
  have h5 : neD (.int 2) (.int 2) = some (.bool false) := neD_int 2 2
  simp [m_law_is_line, runP, b_law_is_line, DL.sWipe, DL.wipeF, DL.wipeL_nil, DL.wipeL_cons, DL.sFrz, DL.eChain, sQ, sIf, sN, qFz, qB, qAnd, qOr, qNot, qYes, e1, DL.e2, eV, eC, eN, eI, eIf, eAnd, eOr, eFz, eSl, oS, oN, aN, aC, aX, sAsg, sAsgO, sRet, sRetO, sRetN, sDrop, sSet, sSetX, sAugI, sMut, sPar, sPat, sParM, mN, mC, DL.setM, iSeq, iN, gN, gT, gC, gZ, outP, outF, outI, en0, stillE, Sl.still, Sl.own, Sl.put, p1, DL.tupD_l, DL.tupD_t, DL.lstD_l, DL.lstD_t, mkT, mkL, DL.e3, sl1, sl2, sl3, sl4, sl0, sl5, sl6, sl7, sl8, List.length_cons, List.length_nil, List.length_map, List.getElem?_cons_zero, List.getElem?_cons_succ, List.set_cons_zero, List.set_cons_succ, List.map_cons, List.map_nil, List.replicate, List.cons_append, List.nil_append, List.append_nil, Option.map_some, if_true, if_false, ite_true, ite_false, reduceIte, Nat.reduceAdd, Nat.reduceSub, Nat.reduceLeDiff, Nat.reduceEqDiff, Nat.sub_self, Nat.zero_add, Option.map_none, decide_true, decide_false, Bool.not_true, Bool.not_false, h1, h2, h3, h4, h5, ixX_line0, ixX_line1]
theorem lclause_ok {n : Nat} (hn : n ≤ 16) {F : List Ln} (hF : ∀ l ∈ F, l.1 ≠ 0 ∧ l.1 < 2 ^ n) (s : Srt F) (nd : F.Nodup) (few : F.length < 64) : m_law_is_clause [.int (n : Int), flatD F] = some (.bool true) := by
  have c : b_law_is_clause_C1 [.d (.int (n : Int)), .d (flatD F), .u] = some (.list [], [.d (.int (n : Int)), .d (flatD F), .u]) :=
    eLc_none lineD F rfl rfl rfl fun l hl => by
      have h1 := lline_ok hn (hF l hl).2 (hF l hl).1
      refine ⟨[.d (.int (n : Int)), .d (flatD F), .d (lineD l)], [.d (.int (n : Int)), .d (flatD F), .d (lineD l)], rfl, ?_, rfl⟩
      simp [DL.sWipe, DL.wipeF, DL.wipeL_nil, DL.wipeL_cons, DL.sFrz, DL.eChain, sQ, sIf, sN, qFz, qB, qAnd, qOr, qNot, qYes, e1, DL.e2, eV, eC, eN, eI, eIf, eAnd, eOr, eFz, eSl, oS, oN, aN, aC, aX, sAsg, sAsgO, sRet, sRetO, sRetN, sDrop, sSet, sSetX, sAugI, sMut, sPar, sPat, sParM, mN, mC, DL.setM, iSeq, iN, gN, gT, gC, gZ, outP, outF, outI, en0, stillE, Sl.still, Sl.own, Sl.put, p1, DL.tupD_l, DL.tupD_t, DL.lstD_l, DL.lstD_t, mkT, mkL, DL.e3, sl1, sl2, sl3, sl4, sl0, sl5, sl6, sl7, sl8, List.length_cons, List.length_nil, List.length_map, List.getElem?_cons_zero, List.getElem?_cons_succ, List.set_cons_zero, List.set_cons_succ, List.map_cons, List.map_nil, List.replicate, List.cons_append, List.nil_append, List.append_nil, Option.map_some, if_true, if_false, ite_true, ite_false, reduceIte, Nat.reduceAdd, Nat.reduceSub, Nat.reduceLeDiff, Nat.reduceEqDiff, Nat.sub_self, Nat.zero_add, Option.map_none, decide_true, decide_false, Bool.not_true, Bool.not_false, h1]
  have h1 := sortSetA_srt s nd (fun l hl => Nat.lt_of_lt_of_le (hF l hl).2 (Nat.pow_le_pow_right (by decide) hn)) few
  have h2 : lstD (flatD F) = some (.list (F.map lineD)) := rfl
  have h3 : eqD (.list (F.map lineD)) (.list (F.map lineD)) = some (.bool true) := eqD_refl (linesD_nc F).lst (by decide)
  have h4 : isiD "tuple" (flatD F) = some (.bool true) := isi_tup _
  generalize F.map lineD = z at h1 h2 h3
  generalize flatD F = y at *
  simp [m_law_is_clause, runP, b_law_is_clause, DL.sWipe, DL.wipeF, DL.wipeL_nil, DL.wipeL_cons, DL.sFrz, DL.eChain, sQ, sIf, sN, qFz, qB, qAnd, qOr, qNot, qYes, e1, DL.e2, eV, eC, eN, eI, eIf, eAnd, eOr, eFz, eSl, oS, oN, aN, aC, aX, sAsg, sAsgO, sRet, sRetO, sRetN, sDrop, sSet, sSetX, sAugI, sMut, sPar, sPat, sParM, mN, mC, DL.setM, iSeq, iN, gN, gT, gC, gZ, outP, outF, outI, en0, stillE, Sl.still, Sl.own, Sl.put, p1, DL.tupD_l, DL.tupD_t, DL.lstD_l, DL.lstD_t, mkT, mkL, DL.e3, sl1, sl2, sl3, sl4, sl0, sl5, sl6, sl7, sl8, List.length_cons, List.length_nil, List.length_map, List.getElem?_cons_zero, List.getElem?_cons_succ, List.set_cons_zero, List.set_cons_succ, List.map_cons, List.map_nil, List.replicate, List.cons_append, List.nil_append, List.append_nil, Option.map_some, if_true, if_false, ite_true, ite_false, reduceIte, Nat.reduceAdd, Nat.reduceSub, Nat.reduceLeDiff, Nat.reduceEqDiff, Nat.sub_self, Nat.zero_add, Option.map_none, decide_true, decide_false, Bool.not_true, Bool.not_false, c, neD_lnil, h1, h2, h4, h3]
theorem neD_line {a b : Ln} (ha : a.1 < 2 ^ 16) (hb : b.1 < 2 ^ 16) : neD (lineD a) (lineD b) = some (.bool (!decide (a = b))) := by
  have s1 := (lineD_nc a).shaped (by decide)
  have s2 := (lineD_nc b).shaped (by decide)
  have h : neD (lineD a) (lineD b) = (if SeqAt.shaped (lineD a) = true ∧ SeqAt.shaped (lineD b) = true then some (.bool (!PyData.eqv (lineD a) (lineD b))) else none) := rfl
  rw [h, if_pos ⟨s1, s2⟩]
  congr 3
  rw [Bool.eq_iff_iff, decide_eq_true_eq, eqv_hash _ _ (hash_line a) (hash_line b)]
  exact ⟨fun e => lineD_inj ha hb e, fun e => by rw [e]⟩
theorem lflat_ok {n : Nat} (hn : n ≤ 16) {F : List Ln} (f : Fl n F) (s : Srt F) : m_law_is_flat [.int (n : Int), flatD F] = some (.bool true) := by
  have hc := lclause_ok hn (fun l hl => ⟨(f.rr.pos l hl).1, f.lt l hl⟩) s f.rr.nodup (Nat.lt_of_le_of_lt (rr_len f.rr) (by decide))
  have loop : b_law_is_flat_F1 [.d (.int (n : Int)), .d (flatD F), .u, .u] = some (.nx [.d (.int (n : Int)), .d (flatD F), .u, .u]) := by
    obtain ⟨_, h, _⟩ := sFor_run (it := iSeq (eV 1)) (g := gN 2) (ψ := b_law_is_flat_L1) (ρ := [.d (.int (n : Int)), .d (flatD F), .u, .u]) lineD (fun _ : Unit => [.d (.int (n : Int)), .d (flatD F), .u, .u]) (fun _ _ => True) F () rfl trivial (fun dn l rest b e _ => by
      have hl : l ∈ F := by rw [e]; simp
      refine ⟨[.d (.int (n : Int)), .d (flatD F), .d (lineD l), .u], (), rfl, ?_, trivial⟩
      have c : b_law_is_flat_C1 [.d (.int (n : Int)), .d (flatD F), .d (lineD l), .u] = some (.list [], [.d (.int (n : Int)), .d (flatD F), .d (lineD l), .u]) :=
        eLc_none lineD F rfl rfl rfl fun k hk => by
          have l16 := (f.rr.pos l hl).2
          have k16 := (f.rr.pos k hk).2
          have h1 := neD_line k16 l16
          have h2 := row_head (f.rr.pos l hl).1 l16
          have h3 := (in_row (i := hd l.1) k16).1
          refine ⟨[.d (.int (n : Int)), .d (flatD F), .d (lineD l), .d (lineD k)], [.d (.int (n : Int)), .d (flatD F), .d (lineD l), .d (lineD k)], rfl, ?_, rfl⟩
          by_cases e : k = l
          · rw [decide_eq_true e] at h1
            simp [DL.sWipe, DL.wipeF, DL.wipeL_nil, DL.wipeL_cons, DL.sFrz, DL.eChain, sQ, sIf, sN, qFz, qB, qAnd, qOr, qNot, qYes, e1, DL.e2, eV, eC, eN, eI, eIf, eAnd, eOr, eFz, eSl, oS, oN, aN, aC, aX, sAsg, sAsgO, sRet, sRetO, sRetN, sDrop, sSet, sSetX, sAugI, sMut, sPar, sPat, sParM, mN, mC, DL.setM, iSeq, iN, gN, gT, gC, gZ, outP, outF, outI, en0, stillE, Sl.still, Sl.own, Sl.put, p1, DL.tupD_l, DL.tupD_t, DL.lstD_l, DL.lstD_t, mkT, mkL, DL.e3, sl1, sl2, sl3, sl4, sl0, sl5, sl6, sl7, sl8, List.length_cons, List.length_nil, List.length_map, List.getElem?_cons_zero, List.getElem?_cons_succ, List.set_cons_zero, List.set_cons_succ, List.map_cons, List.map_nil, List.replicate, List.cons_append, List.nil_append, List.append_nil, Option.map_some, if_true, if_false, ite_true, ite_false, reduceIte, Nat.reduceAdd, Nat.reduceSub, Nat.reduceLeDiff, Nat.reduceEqDiff, Nat.sub_self, Nat.zero_add, Option.map_none, decide_true, decide_false, Bool.not_true, Bool.not_false, h1]
          · rw [decide_eq_false e] at h1
            have h4 : k.1.testBit (hd l.1) = false := f.rr.out l hl k hk fun z => e (rr_head f.rr hk hl z.symm)
            rw [h4] at h3
            simp [DL.sWipe, DL.wipeF, DL.wipeL_nil, DL.wipeL_cons, DL.sFrz, DL.eChain, sQ, sIf, sN, qFz, qB, qAnd, qOr, qNot, qYes, e1, DL.e2, eV, eC, eN, eI, eIf, eAnd, eOr, eFz, eSl, oS, oN, aN, aC, aX, sAsg, sAsgO, sRet, sRetO, sRetN, sDrop, sSet, sSetX, sAugI, sMut, sPar, sPat, sParM, mN, mC, DL.setM, iSeq, iN, gN, gT, gC, gZ, outP, outF, outI, en0, stillE, Sl.still, Sl.own, Sl.put, p1, DL.tupD_l, DL.tupD_t, DL.lstD_l, DL.lstD_t, mkT, mkL, DL.e3, sl1, sl2, sl3, sl4, sl0, sl5, sl6, sl7, sl8, List.length_cons, List.length_nil, List.length_map, List.getElem?_cons_zero, List.getElem?_cons_succ, List.set_cons_zero, List.set_cons_succ, List.map_cons, List.map_nil, List.replicate, List.cons_append, List.nil_append, List.append_nil, Option.map_some, if_true, if_false, ite_true, ite_false, reduceIte, Nat.reduceAdd, Nat.reduceSub, Nat.reduceLeDiff, Nat.reduceEqDiff, Nat.sub_self, Nat.zero_add, Option.map_none, decide_true, decide_false, Bool.not_true, Bool.not_false, h1, ixX_line0, h2, h3]
      simp [b_law_is_flat_L1, DL.sWipe, DL.wipeF, DL.wipeL_nil, DL.wipeL_cons, DL.sFrz, DL.eChain, sQ, sIf, sN, qFz, qB, qAnd, qOr, qNot, qYes, e1, DL.e2, eV, eC, eN, eI, eIf, eAnd, eOr, eFz, eSl, oS, oN, aN, aC, aX, sAsg, sAsgO, sRet, sRetO, sRetN, sDrop, sSet, sSetX, sAugI, sMut, sPar, sPat, sParM, mN, mC, DL.setM, iSeq, iN, gN, gT, gC, gZ, outP, outF, outI, en0, stillE, Sl.still, Sl.own, Sl.put, p1, DL.tupD_l, DL.tupD_t, DL.lstD_l, DL.lstD_t, mkT, mkL, DL.e3, sl1, sl2, sl3, sl4, sl0, sl5, sl6, sl7, sl8, List.length_cons, List.length_nil, List.length_map, List.getElem?_cons_zero, List.getElem?_cons_succ, List.set_cons_zero, List.set_cons_succ, List.map_cons, List.map_nil, List.replicate, List.cons_append, List.nil_append, List.append_nil, Option.map_some, if_true, if_false, ite_true, ite_false, reduceIte, Nat.reduceAdd, Nat.reduceSub, Nat.reduceLeDiff, Nat.reduceEqDiff, Nat.sub_self, Nat.zero_add, Option.map_none, decide_true, decide_false, Bool.not_true, Bool.not_false, c, neD_lnil])
    exact h
  simp [m_law_is_flat, runP, b_law_is_flat, DL.sWipe, DL.wipeF, DL.wipeL_nil, DL.wipeL_cons, DL.sFrz, DL.eChain, sQ, sIf, sN, qFz, qB, qAnd, qOr, qNot, qYes, e1, DL.e2, eV, eC, eN, eI, eIf, eAnd, eOr, eFz, eSl, oS, oN, aN, aC, aX, sAsg, sAsgO, sRet, sRetO, sRetN, sDrop, sSet, sSetX, sAugI, sMut, sPar, sPat, sParM, mN, mC, DL.setM, iSeq, iN, gN, gT, gC, gZ, outP, outF, outI, en0, stillE, Sl.still, Sl.own, Sl.put, p1, DL.tupD_l, DL.tupD_t, DL.lstD_l, DL.lstD_t, mkT, mkL, DL.e3, sl1, sl2, sl3, sl4, sl0, sl5, sl6, sl7, sl8, List.length_cons, List.length_nil, List.length_map, List.getElem?_cons_zero, List.getElem?_cons_succ, List.set_cons_zero, List.set_cons_succ, List.map_cons, List.map_nil, List.replicate, List.cons_append, List.nil_append, List.append_nil, Option.map_some, if_true, if_false, ite_true, ite_false, reduceIte, Nat.reduceAdd, Nat.reduceSub, Nat.reduceLeDiff, Nat.reduceEqDiff, Nat.sub_self, Nat.zero_add, Option.map_none, decide_true, decide_false, Bool.not_true, Bool.not_false, hc, loop]
end LX
set_option maxHeartbeats 400000
namespace LX
open PySem L2 DL FL
theorem led_fold : ∀ (F : List Ln) (m : Nat) (w : Bool), (led F m w).1 = F.foldl (fun mm l => if mm.testBit (hd l.1) = true then mm ^^^ l.1 else mm) m
  | [], _, _ => rfl
  | l :: F, m, w => by
    unfold led
    rw [List.foldl_cons]
    by_cases h : m.testBit (hd l.1) = true
    · rw [if_pos h, if_pos h, led_fold F]
    · rw [if_neg h, if_neg h, led_fold F]
theorem lreduced_ok {F : List Ln} (r : Rr F) {m : Nat} (hm : m < 2 ^ 16) : m_law_is_reduced [flatD F, rowD m, rowD (led F m false).1] = some (.bool true) := by
  have lt := led_lt (w := false) (fun l hl => (r.pos l hl).2) hm
  have hs := led_heads (m := m) (w := false) r
  have c1 : b_law_is_reduced_C1 [.d (flatD F), .d (rowD m), .d (rowD (led F m false).1), .u, .u, .u, .u] = some (.list (natsD (F.map fun l => hd l.1)), [.d (flatD F), .d (rowD m), .d (rowD (led F m false).1), .u, .u, .u, .u]) := by
    have key := eLc_M (vs := [5]) (it := iSeq (eV 0)) (g := gN 5) (a := DL.e2 ixX (DL.e2 ixX (eV 5) (eC (.int 0))) (eC (.int 0))) (ρ := [.d (flatD F), .d (rowD m), .d (rowD (led F m false).1), .u, .u, .u, .u]) lineD F rfl rfl rfl (fun l => .int (hd l.1 : Nat)) (fun l hl => by
      refine ⟨[.d (flatD F), .d (rowD m), .d (rowD (led F m false).1), .u, .u, .d (lineD l), .u], [.d (flatD F), .d (rowD m), .d (rowD (led F m false).1), .u, .u, .d (lineD l), .u], rfl, ?_, rfl⟩
      have h1 := row_head (r.pos l hl).1 (r.pos l hl).2
      simp [DL.sWipe, DL.wipeF, DL.wipeL_nil, DL.wipeL_cons, DL.sFrz, DL.eChain, sQ, sIf, sN, qFz, qB, qAnd, qOr, qNot, qYes, e1, DL.e2, eV, eC, eN, eI, eIf, eAnd, eOr, eFz, eSl, oS, oN, aN, aC, aX, sAsg, sAsgO, sRet, sRetO, sRetN, sDrop, sSet, sSetX, sAugI, sMut, sPar, sPat, sParM, mN, mC, DL.setM, iSeq, iN, gN, gT, gC, gZ, outP, outF, outI, en0, stillE, Sl.still, Sl.own, Sl.put, p1, DL.tupD_l, DL.tupD_t, DL.lstD_l, DL.lstD_t, mkT, mkL, DL.e3, sl1, sl2, sl3, sl4, sl0, sl5, sl6, sl7, sl8, List.length_cons, List.length_nil, List.length_map, List.getElem?_cons_zero, List.getElem?_cons_succ, List.set_cons_zero, List.set_cons_succ, List.map_cons, List.map_nil, List.replicate, List.cons_append, List.nil_append, List.append_nil, Option.map_some, if_true, if_false, ite_true, ite_false, reduceIte, Nat.reduceAdd, Nat.reduceSub, Nat.reduceLeDiff, Nat.reduceEqDiff, Nat.sub_self, Nat.zero_add, Option.map_none, decide_true, decide_false, Bool.not_true, Bool.not_false, ixX_line0, h1])
    unfold b_law_is_reduced_C1
    rw [key]
    unfold natsD
    rw [List.map_map]
    rfl
  generalize hh : (natsD (F.map fun l => hd l.1)) = heads at c1
  have loop : b_law_is_reduced_F1 [.d (flatD F), .d (rowD m), .d (rowD (led F m false).1), .d (.list heads), .d (.int (m : Nat)), .u, .u] = some (.nx [.d (flatD F), .d (rowD m), .d (rowD (led F m false).1), .d (.list heads), .d (.int ((led F m false).1 : Nat)), .u, .u]) := by
    have k := (sFor_fold (it := iSeq (eV 0)) (g := gN 5) (ψ := b_law_is_reduced_L1) (ρ := [.d (flatD F), .d (rowD m), .d (rowD (led F m false).1), .d (.list heads), .d (.int (m : Nat)), .u, .u]) lineD (fun mm : Nat => [.d (flatD F), .d (rowD m), .d (rowD (led F m false).1), .d (.list heads), .d (.int (mm : Nat)), .u, .u]) (fun mm l => if mm.testBit (hd l.1) = true then mm ^^^ l.1 else mm) (fun _ => True) F m rfl trivial (fun l mm hl _ => by
      refine ⟨[.d (flatD F), .d (rowD m), .d (rowD (led F m false).1), .d (.list heads), .d (.int (mm : Nat)), .d (lineD l), .u], rfl, ?_, trivial⟩
      have h1 := row_head (r.pos l hl).1 (r.pos l hl).2
      have h2 := mask_ok (r.pos l hl).2
      obtain ⟨b, c, h3, h4, h5⟩ := bit_test3 mm (hd l.1)
      have h6 := xorD_nn mm l.1
      have h7 := xorD_nn mm 0
      rw [Nat.xor_zero] at h7
      have h7' : xorD (.int (mm : Nat)) (.int 0) = some (.int (mm : Nat)) := h7
      by_cases hb : mm.testBit (hd l.1) = true
      · rw [hb] at h5
        rw [if_pos hb]
        generalize (mm ^^^ l.1) = z at h6
        simp [b_law_is_reduced_L1, DL.sWipe, DL.wipeF, DL.wipeL_nil, DL.wipeL_cons, DL.sFrz, DL.eChain, sQ, sIf, sN, qFz, qB, qAnd, qOr, qNot, qYes, e1, DL.e2, eV, eC, eN, eI, eIf, eAnd, eOr, eFz, eSl, oS, oN, aN, aC, aX, sAsg, sAsgO, sRet, sRetO, sRetN, sDrop, sSet, sSetX, sAugI, sMut, sPar, sPat, sParM, mN, mC, DL.setM, iSeq, iN, gN, gT, gC, gZ, outP, outF, outI, en0, stillE, Sl.still, Sl.own, Sl.put, p1, DL.tupD_l, DL.tupD_t, DL.lstD_l, DL.lstD_t, mkT, mkL, DL.e3, sl1, sl2, sl3, sl4, sl0, sl5, sl6, sl7, sl8, List.length_cons, List.length_nil, List.length_map, List.getElem?_cons_zero, List.getElem?_cons_succ, List.set_cons_zero, List.set_cons_succ, List.map_cons, List.map_nil, List.replicate, List.cons_append, List.nil_append, List.append_nil, Option.map_some, if_true, if_false, ite_true, ite_false, reduceIte, Nat.reduceAdd, Nat.reduceSub, Nat.reduceLeDiff, Nat.reduceEqDiff, Nat.sub_self, Nat.zero_add, Option.map_none, decide_true, decide_false, Bool.not_true, Bool.not_false, ixX_line0, h1, h2, h3, h4, h5, h6]
      · have hb' : mm.testBit (hd l.1) = false := by simpa using hb
        rw [hb'] at h5
        rw [if_neg hb]
        simp [b_law_is_reduced_L1, DL.sWipe, DL.wipeF, DL.wipeL_nil, DL.wipeL_cons, DL.sFrz, DL.eChain, sQ, sIf, sN, qFz, qB, qAnd, qOr, qNot, qYes, e1, DL.e2, eV, eC, eN, eI, eIf, eAnd, eOr, eFz, eSl, oS, oN, aN, aC, aX, sAsg, sAsgO, sRet, sRetO, sRetN, sDrop, sSet, sSetX, sAugI, sMut, sPar, sPat, sParM, mN, mC, DL.setM, iSeq, iN, gN, gT, gC, gZ, outP, outF, outI, en0, stillE, Sl.still, Sl.own, Sl.put, p1, DL.tupD_l, DL.tupD_t, DL.lstD_l, DL.lstD_t, mkT, mkL, DL.e3, sl1, sl2, sl3, sl4, sl0, sl5, sl6, sl7, sl8, List.length_cons, List.length_nil, List.length_map, List.getElem?_cons_zero, List.getElem?_cons_succ, List.set_cons_zero, List.set_cons_succ, List.map_cons, List.map_nil, List.replicate, List.cons_append, List.nil_append, List.append_nil, Option.map_some, if_true, if_false, ite_true, ite_false, reduceIte, Nat.reduceAdd, Nat.reduceSub, Nat.reduceLeDiff, Nat.reduceEqDiff, Nat.sub_self, Nat.zero_add, Option.map_none, decide_true, decide_false, Bool.not_true, Bool.not_false, ixX_line0, h1, h3, h4, h5, h7'])).1
    rw [← led_fold F m false] at k
    exact k
  have c2 : b_law_is_reduced_C2 [.d (flatD F), .d (rowD m), .d (rowD (led F m false).1), .d (.list heads), .d (.int ((led F m false).1 : Nat)), .u, .u] = some (.list [], [.d (flatD F), .d (rowD m), .d (rowD (led F m false).1), .d (.list heads), .d (.int ((led F m false).1 : Nat)), .u, .u]) :=
    eLc_none (fun u : Nat => PyData.int (u : Int)) (F.map fun l => hd l.1) (by rw [← hh]; rfl) rfl rfl fun u hu => by
      obtain ⟨l, hl, rfl⟩ := List.mem_map.mp hu
      have h1 := (in_row (i := hd l.1) lt).1
      rw [hs l hl] at h1
      refine ⟨[.d (flatD F), .d (rowD m), .d (rowD (led F m false).1), .d (.list heads), .d (.int ((led F m false).1 : Nat)), .u, .d (.int (hd l.1 : Nat))], [.d (flatD F), .d (rowD m), .d (rowD (led F m false).1), .d (.list heads), .d (.int ((led F m false).1 : Nat)), .u, .d (.int (hd l.1 : Nat))], rfl, ?_, rfl⟩
      simp [DL.sWipe, DL.wipeF, DL.wipeL_nil, DL.wipeL_cons, DL.sFrz, DL.eChain, sQ, sIf, sN, qFz, qB, qAnd, qOr, qNot, qYes, e1, DL.e2, eV, eC, eN, eI, eIf, eAnd, eOr, eFz, eSl, oS, oN, aN, aC, aX, sAsg, sAsgO, sRet, sRetO, sRetN, sDrop, sSet, sSetX, sAugI, sMut, sPar, sPat, sParM, mN, mC, DL.setM, iSeq, iN, gN, gT, gC, gZ, outP, outF, outI, en0, stillE, Sl.still, Sl.own, Sl.put, p1, DL.tupD_l, DL.tupD_t, DL.lstD_l, DL.lstD_t, mkT, mkL, DL.e3, sl1, sl2, sl3, sl4, sl0, sl5, sl6, sl7, sl8, List.length_cons, List.length_nil, List.length_map, List.getElem?_cons_zero, List.getElem?_cons_succ, List.set_cons_zero, List.set_cons_succ, List.map_cons, List.map_nil, List.replicate, List.cons_append, List.nil_append, List.append_nil, Option.map_some, if_true, if_false, ite_true, ite_false, reduceIte, Nat.reduceAdd, Nat.reduceSub, Nat.reduceLeDiff, Nat.reduceEqDiff, Nat.sub_self, Nat.zero_add, Option.map_none, decide_true, decide_false, Bool.not_true, Bool.not_false, h1]
  have h1 := mask_ok hm
  have h2 := lawrow_ok lt
  have h3 := alike_ok ((rowD_nc (led F m false).1).le (by decide) (by decide))
  generalize (led F m false).1 = m' at *
  simp [m_law_is_reduced, runP, b_law_is_reduced, DL.sWipe, DL.wipeF, DL.wipeL_nil, DL.wipeL_cons, DL.sFrz, DL.eChain, sQ, sIf, sN, qFz, qB, qAnd, qOr, qNot, qYes, e1, DL.e2, eV, eC, eN, eI, eIf, eAnd, eOr, eFz, eSl, oS, oN, aN, aC, aX, sAsg, sAsgO, sRet, sRetO, sRetN, sDrop, sSet, sSetX, sAugI, sMut, sPar, sPat, sParM, mN, mC, DL.setM, iSeq, iN, gN, gT, gC, gZ, outP, outF, outI, en0, stillE, Sl.still, Sl.own, Sl.put, p1, DL.tupD_l, DL.tupD_t, DL.lstD_l, DL.lstD_t, mkT, mkL, DL.e3, sl1, sl2, sl3, sl4, sl0, sl5, sl6, sl7, sl8, List.length_cons, List.length_nil, List.length_map, List.getElem?_cons_zero, List.getElem?_cons_succ, List.set_cons_zero, List.set_cons_succ, List.map_cons, List.map_nil, List.replicate, List.cons_append, List.nil_append, List.append_nil, Option.map_some, if_true, if_false, ite_true, ite_false, reduceIte, Nat.reduceAdd, Nat.reduceSub, Nat.reduceLeDiff, Nat.reduceEqDiff, Nat.sub_self, Nat.zero_add, Option.map_none, decide_true, decide_false, Bool.not_true, Bool.not_false, c1, h1, loop, h2, h3, c2, eqD_lnil]
/-- the program's halves -/
theorem phalves_ok {F : List Ln} (r : Rr F) (s : Srt F) {m : Nat} (hm : m < 2 ^ 16) : (∀ w, told F m = some w → m_halves [flatD F, rowD m] = some .none) ∧
    (told F m = none → ∃ A B, m_halves [flatD F, rowD m] = some (.tuple [flatD A, flatD B]) ∧ (Rr A ∧ Srt A ∧ ∀ x, Holds A x ↔ Holds F x ∧ dot m x = false) ∧ (Rr B ∧ Srt B ∧ ∀ x, Holds B x ↔ Holds F x ∧ dot m x = true)) := by
  have h1 := told_ok r hm
  have h2 := isNotN_opt (told F m)
  constructor
  · intro w e
    rw [e] at h1 h2
    have h2' : isNotN (optD (some w)) .none = some (.bool true) := h2
    simp [m_halves, runP, b_halves, DL.sWipe, DL.wipeF, DL.wipeL_nil, DL.wipeL_cons, DL.sFrz, DL.eChain, sQ, sIf, sN, qFz, qB, qAnd, qOr, qNot, qYes, e1, DL.e2, eV, eC, eN, eI, eIf, eAnd, eOr, eFz, eSl, oS, oN, aN, aC, aX, sAsg, sAsgO, sRet, sRetO, sRetN, sDrop, sSet, sSetX, sAugI, sMut, sPar, sPat, sParM, mN, mC, DL.setM, iSeq, iN, gN, gT, gC, gZ, outP, outF, outI, en0, stillE, Sl.still, Sl.own, Sl.put, p1, DL.tupD_l, DL.tupD_t, DL.lstD_l, DL.lstD_t, mkT, mkL, DL.e3, sl1, sl2, sl3, sl4, sl0, sl5, sl6, sl7, sl8, List.length_cons, List.length_nil, List.length_map, List.getElem?_cons_zero, List.getElem?_cons_succ, List.set_cons_zero, List.set_cons_succ, List.map_cons, List.map_nil, List.replicate, List.cons_append, List.nil_append, List.append_nil, Option.map_some, if_true, if_false, ite_true, ite_false, reduceIte, Nat.reduceAdd, Nat.reduceSub, Nat.reduceLeDiff, Nat.reduceEqDiff, Nat.sub_self, Nat.zero_add, Option.map_none, decide_true, decide_false, Bool.not_true, Bool.not_false, h1, h2']
  · intro e
    rw [e] at h1 h2
    have h2' : isNotN (optD none) .none = some (.bool false) := h2
    have go : ∀ b : Bool, ∃ A, m_put_in [flatD F, rowD m, bitD b] = some (flatD A) ∧ Rr A ∧ Srt A ∧ ∀ x, Holds A x ↔ Holds F x ∧ dot m x = b := fun b => by
      obtain ⟨o, p, hs, hp⟩ := put_ok2 r hm b
      obtain ⟨q1, q2⟩ := p.sem r hm
      cases o with
      | none =>
        obtain ⟨x, hx, hd⟩ := (told_half r hm b).mpr (.inl e)
        exact absurd hd (q1 rfl x hx)
      | some A =>
        obtain ⟨rA, hA⟩ := q2 A rfl
        exact ⟨A, hp, rA, hs A rfl s, hA⟩
    obtain ⟨A, a1, a2⟩ := go false
    obtain ⟨B, b1, b2⟩ := go true
    refine ⟨A, B, ?_, a2, b2⟩
    have a1' : m_put_in [flatD F, rowD m, .int 0] = some (flatD A) := a1
    have b1' : m_put_in [flatD F, rowD m, .int 1] = some (flatD B) := b1
    simp [m_halves, runP, b_halves, DL.sWipe, DL.wipeF, DL.wipeL_nil, DL.wipeL_cons, DL.sFrz, DL.eChain, sQ, sIf, sN, qFz, qB, qAnd, qOr, qNot, qYes, e1, DL.e2, eV, eC, eN, eI, eIf, eAnd, eOr, eFz, eSl, oS, oN, aN, aC, aX, sAsg, sAsgO, sRet, sRetO, sRetN, sDrop, sSet, sSetX, sAugI, sMut, sPar, sPat, sParM, mN, mC, DL.setM, iSeq, iN, gN, gT, gC, gZ, outP, outF, outI, en0, stillE, Sl.still, Sl.own, Sl.put, p1, DL.tupD_l, DL.tupD_t, DL.lstD_l, DL.lstD_t, mkT, mkL, DL.e3, sl1, sl2, sl3, sl4, sl0, sl5, sl6, sl7, sl8, List.length_cons, List.length_nil, List.length_map, List.getElem?_cons_zero, List.getElem?_cons_succ, List.set_cons_zero, List.set_cons_succ, List.map_cons, List.map_nil, List.replicate, List.cons_append, List.nil_append, List.append_nil, Option.map_some, if_true, if_false, ite_true, ite_false, reduceIte, Nat.reduceAdd, Nat.reduceSub, Nat.reduceLeDiff, Nat.reduceEqDiff, Nat.sub_self, Nat.zero_add, Option.map_none, decide_true, decide_false, Bool.not_true, Bool.not_false, h1, h2', a1', b1']
/-- both halves, the program's, the law's -/
theorem halves_both {n : Nat} (hn : n ≤ 12) {F : List Ln} (f : Fl n F) (s : Srt F) {m : Nat} (hm : m < 2 ^ n) (e : told F m = none) : ∃ A B, m_halves [flatD F, rowD m] = some (.tuple [flatD A, flatD B]) ∧ m_law_halves [flatD F, rowD m] = some (.tuple [flatD A, flatD B]) ∧
    (Fl n A ∧ Srt A ∧ ∀ x, Holds A x ↔ Holds F x ∧ dot m x = false) ∧ (Fl n B ∧ Srt B ∧ ∀ x, Holds B x ↔ Holds F x ∧ dot m x = true) := by
  obtain ⟨A, B, h1, ⟨ra, sa, ha⟩, ⟨rb, sb, hb⟩⟩ := (phalves_ok f.rr s (Nat.lt_of_lt_of_le hm (Nat.pow_le_pow_right (by decide) (by omega)))).2 e
  obtain ⟨A', B', h2, ⟨fa, sa', ha'⟩, ⟨fb, sb', hb'⟩, _⟩ := halves_of2 hn f hm e
  have ea := rr_eq ra fa.rr sa sa' fun x => (ha x).trans (ha' x).symm
  have eb := rr_eq rb fb.rr sb sb' fun x => (hb x).trans (hb' x).symm
  subst ea
  subst eb
  exact ⟨A, B, h1, h2, ⟨fa, sa, ha⟩, ⟨fb, sb, hb⟩⟩
theorem lhalves_ok {n : Nat} (hn : n < 8) {F A B : List Ln} (f : Fl n F) {m : Nat} (hm : m < 2 ^ n) (hA : Fl n A ∧ Srt A ∧ ∀ x, Holds A x ↔ Holds F x ∧ dot m x = false) (hB : Fl n B ∧ Srt B ∧ ∀ x, Holds B x ↔ Holds F x ∧ dot m x = true) :
    m_law_are_halves [roomD n, flatD F, rowD m, .tuple [flatD A, flatD B]] = some (.bool true) := by
  have i1 := in_ok hn f.lt
  have loop : b_law_are_halves_F1 [.d (roomD n), .d (flatD F), .d (rowD m), .d (.tuple [flatD A, flatD B]), .d (.int (inN n F : Nat)), .u] = some (.nx [.d (roomD n), .d (flatD F), .d (rowD m), .d (.tuple [flatD A, flatD B]), .d (.int (inN n F : Nat)), .u]) := by
    obtain ⟨_, h, _⟩ := sFor_run (it := iSeq (eN mkT (aC (eC (.int 0)) (aC (eC (.int 1)) aN)))) (g := gN 5) (ψ := b_law_are_halves_L1) (ρ := [.d (roomD n), .d (flatD F), .d (rowD m), .d (.tuple [flatD A, flatD B]), .d (.int (inN n F : Nat)), .u]) bitD (fun _ : Unit => [.d (roomD n), .d (flatD F), .d (rowD m), .d (.tuple [flatD A, flatD B]), .d (.int (inN n F : Nat)), .u]) (fun _ _ => True) [false, true] () (by simp [DL.sWipe, DL.wipeF, DL.wipeL_nil, DL.wipeL_cons, DL.sFrz, DL.eChain, sQ, sIf, sN, qFz, qB, qAnd, qOr, qNot, qYes, e1, DL.e2, eV, eC, eN, eI, eIf, eAnd, eOr, eFz, eSl, oS, oN, aN, aC, aX, sAsg, sAsgO, sRet, sRetO, sRetN, sDrop, sSet, sSetX, sAugI, sMut, sPar, sPat, sParM, mN, mC, DL.setM, iSeq, iN, gN, gT, gC, gZ, outP, outF, outI, en0, stillE, Sl.still, Sl.own, Sl.put, p1, DL.tupD_l, DL.tupD_t, DL.lstD_l, DL.lstD_t, mkT, mkL, DL.e3, sl1, sl2, sl3, sl4, sl0, sl5, sl6, sl7, sl8, List.length_cons, List.length_nil, List.length_map, List.getElem?_cons_zero, List.getElem?_cons_succ, List.set_cons_zero, List.set_cons_succ, List.map_cons, List.map_nil, List.replicate, List.cons_append, List.nil_append, List.append_nil, Option.map_some, if_true, if_false, ite_true, ite_false, reduceIte, Nat.reduceAdd, Nat.reduceSub, Nat.reduceLeDiff, Nat.reduceEqDiff, Nat.sub_self, Nat.zero_add, Option.map_none, decide_true, decide_false, Bool.not_true, Bool.not_false, seqOf, bitD]) trivial (fun dn b rest _ e _ => by
      refine ⟨[.d (roomD n), .d (flatD F), .d (rowD m), .d (.tuple [flatD A, flatD B]), .d (.int (inN n F : Nat)), .d (bitD b)], (), rfl, ?_, trivial⟩
      obtain ⟨C, c1, fc, sc, hc⟩ : ∃ C, ixX (.tuple [flatD A, flatD B]) (bitD b) = some (flatD C) ∧ Fl n C ∧ Srt C ∧ ∀ x, Holds C x ↔ Holds F x ∧ dot m x = b := by
        cases b
        · exact ⟨A, ixX_t0 _ _, hA⟩
        · exact ⟨B, ixX_t1 _ _ _, hB⟩
      have q0 : ixX (roomD n) (.int 0) = some (.int (n : Nat)) := ixX_t0 _ _
      have q1 := lflat_ok (by omega) fc sc
      have q2 := in_ok hn fc.lt
      have q3 := held_ok hn (l := (m, b)) hm
      have q3' : m_law_held [roomD n, .tuple [rowD m, bitD b]] = some (.int (heldN n (m, b) : Nat)) := q3
      have q4 := andD_nn (inN n F) (heldN n (m, b))
      have q5 : inN n C = inN n F &&& heldN n (m, b) := by
        have g1 : ∀ k ∈ F ++ [(m, b)], k.1 < 2 ^ n := lt_app (l := (m, b)) f.lt hm
        have g2 : ∀ x, Holds C x ↔ Holds (F ++ [(m, b)]) x := fun x => (hc x).trans (holds_app (l := (m, b))).symm
        have g3 := (in_eq hn fc.lt g1).mpr g2
        rw [g3, in_app]
      have q6 := neD_nat (inN n C) (inN n C)
      rw [← q5] at q4
      rw [decide_eq_true rfl] at q6
      generalize inN n C = z at *
      simp [b_law_are_halves_L1, DL.sWipe, DL.wipeF, DL.wipeL_nil, DL.wipeL_cons, DL.sFrz, DL.eChain, sQ, sIf, sN, qFz, qB, qAnd, qOr, qNot, qYes, e1, DL.e2, eV, eC, eN, eI, eIf, eAnd, eOr, eFz, eSl, oS, oN, aN, aC, aX, sAsg, sAsgO, sRet, sRetO, sRetN, sDrop, sSet, sSetX, sAugI, sMut, sPar, sPat, sParM, mN, mC, DL.setM, iSeq, iN, gN, gT, gC, gZ, outP, outF, outI, en0, stillE, Sl.still, Sl.own, Sl.put, p1, DL.tupD_l, DL.tupD_t, DL.lstD_l, DL.lstD_t, mkT, mkL, DL.e3, sl1, sl2, sl3, sl4, sl0, sl5, sl6, sl7, sl8, List.length_cons, List.length_nil, List.length_map, List.getElem?_cons_zero, List.getElem?_cons_succ, List.set_cons_zero, List.set_cons_succ, List.map_cons, List.map_nil, List.replicate, List.cons_append, List.nil_append, List.append_nil, Option.map_some, if_true, if_false, ite_true, ite_false, reduceIte, Nat.reduceAdd, Nat.reduceSub, Nat.reduceLeDiff, Nat.reduceEqDiff, Nat.sub_self, Nat.zero_add, Option.map_none, decide_true, decide_false, Bool.not_true, Bool.not_false, c1, q0, q1, q2, q3', q4, q6])
    exact h
  have h3 : isiD "tuple" (.tuple [flatD A, flatD B]) = some (.bool true) := isi_tup _
  have h4 : lenX (.tuple [flatD A, flatD B]) = some (.int 2) := rfl
  have h5 : neD (.int 2) (.int 2) = some (.bool false) := neD_int 2 2
  simp [m_law_are_halves, runP, b_law_are_halves, DL.sWipe, DL.wipeF, DL.wipeL_nil, DL.wipeL_cons, DL.sFrz, DL.eChain, sQ, sIf, sN, qFz, qB, qAnd, qOr, qNot, qYes, e1, DL.e2, eV, eC, eN, eI, eIf, eAnd, eOr, eFz, eSl, oS, oN, aN, aC, aX, sAsg, sAsgO, sRet, sRetO, sRetN, sDrop, sSet, sSetX, sAugI, sMut, sPar, sPat, sParM, mN, mC, DL.setM, iSeq, iN, gN, gT, gC, gZ, outP, outF, outI, en0, stillE, Sl.still, Sl.own, Sl.put, p1, DL.tupD_l, DL.tupD_t, DL.lstD_l, DL.lstD_t, mkT, mkL, DL.e3, sl1, sl2, sl3, sl4, sl0, sl5, sl6, sl7, sl8, List.length_cons, List.length_nil, List.length_map, List.getElem?_cons_zero, List.getElem?_cons_succ, List.set_cons_zero, List.set_cons_succ, List.map_cons, List.map_nil, List.replicate, List.cons_append, List.nil_append, List.append_nil, Option.map_some, if_true, if_false, ite_true, ite_false, reduceIte, Nat.reduceAdd, Nat.reduceSub, Nat.reduceLeDiff, Nat.reduceEqDiff, Nat.sub_self, Nat.zero_add, Option.map_none, decide_true, decide_false, Bool.not_true, Bool.not_false, i1, loop, h3, h4, h5]
end LX
namespace LX
open PySem L2 DL FL
theorem neD_bools (a b : Bool) : neD (.bool a) (.bool b) = some (.bool (a != b)) := by
  have h : neD (.bool a) (.bool b) = (if SeqAt.shaped (.bool a) = true ∧ SeqAt.shaped (.bool b) = true then some (.bool (!PyData.eqv (.bool a) (.bool b))) else none) := rfl
  rw [h, if_pos ⟨shaped_bool a, shaped_bool b⟩]
  cases a <;> cases b <;> simp [PyData.eqv]
theorem worths_ok {n : Nat} (hn : n < 8) {F : List Ln} (f : Fl n F) {m : Nat} (hm : m < 2 ^ n) {s4 : PyData} : b_law_is_told_right_C1 [.d (roomD n), .d (flatD F), .d (rowD m), .d (.int (inN n F : Nat)), .d s4, .u, .u, .u, .u] =
    some (.list (match told F m with | none => [.int 0, .int 1] | some w => [bitD w]), [.d (roomD n), .d (flatD F), .d (rowD m), .d (.int (inN n F : Nat)), .d s4, .u, .u, .u, .u]) := by
  have m16 : m < 2 ^ 16 := Nat.lt_of_lt_of_le hm (Nat.pow_le_pow_right (by decide) (by omega))
  have key := eLc_T (vs := [8]) (it := iSeq (eN mkT (aC (eC (.int 0)) (aC (eC (.int 1)) aN)))) (g := gN 8) (q := qB (e2 gtI (e2 andD (eV 3) (eN m_law_held (aC (eV 0) (aC (eN mkT (aC (eV 2) (aC (eV 8) aN))) aN)))) (eC (.int 0)))) (a := eV 8)
    (ρ := [.d (roomD n), .d (flatD F), .d (rowD m), .d (.int (inN n F : Nat)), .d s4, .u, .u, .u, .u]) bitD [false, true] (by simp [DL.sWipe, DL.wipeF, DL.wipeL_nil, DL.wipeL_cons, DL.sFrz, DL.eChain, sQ, sIf, sN, qFz, qB, qAnd, qOr, qNot, qYes, e1, DL.e2, eV, eC, eN, eI, eIf, eAnd, eOr, eFz, eSl, oS, oN, aN, aC, aX, sAsg, sAsgO, sRet, sRetO, sRetN, sDrop, sSet, sSetX, sAugI, sMut, sPar, sPat, sParM, mN, mC, DL.setM, iSeq, iN, gN, gT, gC, gZ, outP, outF, outI, en0, stillE, Sl.still, Sl.own, Sl.put, p1, DL.tupD_l, DL.tupD_t, DL.lstD_l, DL.lstD_t, mkT, mkL, DL.e3, sl1, sl2, sl3, sl4, sl0, sl5, sl6, sl7, sl8, List.length_cons, List.length_nil, List.length_map, List.getElem?_cons_zero, List.getElem?_cons_succ, List.set_cons_zero, List.set_cons_succ, List.map_cons, List.map_nil, List.replicate, List.cons_append, List.nil_append, List.append_nil, Option.map_some, if_true, if_false, ite_true, ite_false, reduceIte, Nat.reduceAdd, Nat.reduceSub, Nat.reduceLeDiff, Nat.reduceEqDiff, Nat.sub_self, Nat.zero_add, Option.map_none, decide_true, decide_false, Bool.not_true, Bool.not_false, seqOf, bitD]) rfl rfl (fun b => decide (0 < inN n F &&& heldN n (m, b))) bitD (fun b _ => by
      refine ⟨[.d (roomD n), .d (flatD F), .d (rowD m), .d (.int (inN n F : Nat)), .d s4, .u, .u, .u, .d (bitD b)], [.d (roomD n), .d (flatD F), .d (rowD m), .d (.int (inN n F : Nat)), .d s4, .u, .u, .u, .d (bitD b)], rfl, ?_, fun _ => ⟨_, rfl, rfl⟩, fun _ => rfl⟩
      have q3 := held_ok hn (l := (m, b)) hm
      have q3' : m_law_held [roomD n, .tuple [rowD m, bitD b]] = some (.int (heldN n (m, b) : Nat)) := q3
      have q4 := andD_nn (inN n F) (heldN n (m, b))
      have q5 : gtI (.int ((inN n F &&& heldN n (m, b) : Nat) : Int)) (.int 0) = some (.bool (decide (0 < inN n F &&& heldN n (m, b)))) := by
        show some (PyData.bool (decide ((0 : Int) < ((inN n F &&& heldN n (m, b) : Nat) : Int)))) = _
        congr 2
        simp only [decide_eq_decide]
        omega
      generalize (inN n F &&& heldN n (m, b)) = z at *
      simp [DL.sWipe, DL.wipeF, DL.wipeL_nil, DL.wipeL_cons, DL.sFrz, DL.eChain, sQ, sIf, sN, qFz, qB, qAnd, qOr, qNot, qYes, e1, DL.e2, eV, eC, eN, eI, eIf, eAnd, eOr, eFz, eSl, oS, oN, aN, aC, aX, sAsg, sAsgO, sRet, sRetO, sRetN, sDrop, sSet, sSetX, sAugI, sMut, sPar, sPat, sParM, mN, mC, DL.setM, iSeq, iN, gN, gT, gC, gZ, outP, outF, outI, en0, stillE, Sl.still, Sl.own, Sl.put, p1, DL.tupD_l, DL.tupD_t, DL.lstD_l, DL.lstD_t, mkT, mkL, DL.e3, sl1, sl2, sl3, sl4, sl0, sl5, sl6, sl7, sl8, List.length_cons, List.length_nil, List.length_map, List.getElem?_cons_zero, List.getElem?_cons_succ, List.set_cons_zero, List.set_cons_succ, List.map_cons, List.map_nil, List.replicate, List.cons_append, List.nil_append, List.append_nil, Option.map_some, if_true, if_false, ite_true, ite_false, reduceIte, Nat.reduceAdd, Nat.reduceSub, Nat.reduceLeDiff, Nat.reduceEqDiff, Nat.sub_self, Nat.zero_add, Option.map_none, decide_true, decide_false, Bool.not_true, Bool.not_false, q3', q4, q5])
  unfold b_law_is_told_right_C1
  rw [key]
  congr 3
  have hp : ∀ b, decide (0 < inN n F &&& heldN n (m, b)) = decide (told F m = none ∨ told F m = some b) := fun b => by
    rw [decide_eq_decide, half_pos hn f.lt hm, told_half f.rr m16]
  rw [List.filter_congr fun b _ => hp b]
  cases h : told F m with
  | none => rfl
  | some w => cases w <;> rfl
theorem told_right {n : Nat} (hn : n < 8) {F : List Ln} (f : Fl n F) (s : Srt F) {m : Nat} (hm : m < 2 ^ n) : m_law_is_told_right [roomD n, flatD F, rowD m] = some (.bool true) := by
  have m16 : m < 2 ^ 16 := Nat.lt_of_lt_of_le hm (Nat.pow_le_pow_right (by decide) (by omega))
  have i1 := in_ok hn f.lt
  have hrep : reprD (.list [flatD F, rowD m]) = some (.str (PyData.list [flatD F, rowD m]).shown) := by
    refine reprD_of (Nc.repr (D := 4) (W := 1000) ?_ (by decide) (by decide))
    exact (NcL.cons (flatD_nc F) (NcL.cons (rowD_nc m) NcL.nil)).lst.le (by simp) (by have := rr_len f.rr; omega)
  have hstr : ∀ S : Str, eqD (.str S) (.str S) = some (.bool true) := fun S => by rw [eqD_str]; simp
  have c1 := worths_ok hn f hm (s4 := .str (PyData.list [flatD F, rowD m]).shown)
  have t1 := told_ok f.rr m16
  have t2 := alike_ok ((optD_nc (told F m)).le (by decide) (by decide))
  have t3 := lreduced_ok f.rr m16
  have t4 := reduced_ok f.rr m16
  have lt := led_lt (w := false) (fun l hl => (f.rr.pos l hl).2) m16
  have t5 := eqD_row_nil lt
  generalize (PyData.list [flatD F, rowD m]).shown = S at *
  have hS := hstr S
  cases h : told F m with
  | none =>
    obtain ⟨A, B, hh, _, hA, hB⟩ := halves_both (by omega) f s hm h
    have t6 := lhalves_ok hn f hm hA hB
    have e0 : (led F m false).1 ≠ 0 := fun z => by unfold told at h; rw [if_pos z] at h; cases h
    rw [decide_eq_false e0] at t5
    rw [h] at c1 t1 t2
    simp only at c1
    have u1 : lenX (.list [.int 0, .int 1]) = some (.int 2) := rfl
    have u2 : eqD (.int 2) (.int 1) = some (.bool false) := eqD_int 2 1
    have u3 : optD none = .none := rfl
    rw [u3] at t1 t2
    have u4 : isNotN .none .none = some (.bool false) := rfl
    have u5 : isN (.tuple [flatD A, flatD B]) .none = some (.bool false) := rfl
    have u6 : isNotN (.tuple [flatD A, flatD B]) .none = some (.bool true) := rfl
    have u7 := neD_bools false false
    have u8 : (false != false) = false := rfl
    rw [u8] at u7
    generalize (led F m false).1 = m' at *
    simp [m_law_is_told_right, runP, b_law_is_told_right, DL.sWipe, DL.wipeF, DL.wipeL_nil, DL.wipeL_cons, DL.sFrz, DL.eChain, sQ, sIf, sN, qFz, qB, qAnd, qOr, qNot, qYes, e1, DL.e2, eV, eC, eN, eI, eIf, eAnd, eOr, eFz, eSl, oS, oN, aN, aC, aX, sAsg, sAsgO, sRet, sRetO, sRetN, sDrop, sSet, sSetX, sAugI, sMut, sPar, sPat, sParM, mN, mC, DL.setM, iSeq, iN, gN, gT, gC, gZ, outP, outF, outI, en0, stillE, Sl.still, Sl.own, Sl.put, p1, DL.tupD_l, DL.tupD_t, DL.lstD_l, DL.lstD_t, mkT, mkL, DL.e3, sl1, sl2, sl3, sl4, sl0, sl5, sl6, sl7, sl8, List.length_cons, List.length_nil, List.length_map, List.getElem?_cons_zero, List.getElem?_cons_succ, List.set_cons_zero, List.set_cons_succ, List.map_cons, List.map_nil, List.replicate, List.cons_append, List.nil_append, List.append_nil, Option.map_some, if_true, if_false, ite_true, ite_false, reduceIte, Nat.reduceAdd, Nat.reduceSub, Nat.reduceLeDiff, Nat.reduceEqDiff, Nat.sub_self, Nat.zero_add, Option.map_none, decide_true, decide_false, Bool.not_true, Bool.not_false, i1, hrep, c1, u1, u2, hh, t1, t2, t4, t3, t5, u4, u5, u6, u7, t6, hS]
  | some w =>
    have hh := (phalves_ok f.rr s m16).1 w h
    have e0 : (led F m false).1 = 0 := by
      by_cases z : (led F m false).1 = 0
      · exact z
      · unfold told at h; rw [if_neg z] at h; cases h
    rw [decide_eq_true e0] at t5
    rw [h] at c1 t1 t2
    simp only at c1
    have u1 : lenX (.list [bitD w]) = some (.int 1) := rfl
    have u2 : eqD (.int 1) (.int 1) = some (.bool true) := eqD_int 1 1
    have u3 : optD (some w) = bitD w := rfl
    rw [u3] at t1 t2
    have u0 : ixX (.list [bitD w]) (.int 0) = some (bitD w) := ixX_l0 _ _
    have u4 : isNotN (bitD w) .none = some (.bool true) := by unfold bitD; rfl
    have u5 : isN .none .none = some (.bool true) := rfl
    have u6 : isNotN .none .none = some (.bool false) := rfl
    have u7 := neD_bools true true
    have u8 : (true != true) = false := rfl
    rw [u8] at u7
    generalize (led F m false).1 = m' at *
    simp [m_law_is_told_right, runP, b_law_is_told_right, DL.sWipe, DL.wipeF, DL.wipeL_nil, DL.wipeL_cons, DL.sFrz, DL.eChain, sQ, sIf, sN, qFz, qB, qAnd, qOr, qNot, qYes, e1, DL.e2, eV, eC, eN, eI, eIf, eAnd, eOr, eFz, eSl, oS, oN, aN, aC, aX, sAsg, sAsgO, sRet, sRetO, sRetN, sDrop, sSet, sSetX, sAugI, sMut, sPar, sPat, sParM, mN, mC, DL.setM, iSeq, iN, gN, gT, gC, gZ, outP, outF, outI, en0, stillE, Sl.still, Sl.own, Sl.put, p1, DL.tupD_l, DL.tupD_t, DL.lstD_l, DL.lstD_t, mkT, mkL, DL.e3, sl1, sl2, sl3, sl4, sl0, sl5, sl6, sl7, sl8, List.length_cons, List.length_nil, List.length_map, List.getElem?_cons_zero, List.getElem?_cons_succ, List.set_cons_zero, List.set_cons_succ, List.map_cons, List.map_nil, List.replicate, List.cons_append, List.nil_append, List.append_nil, Option.map_some, if_true, if_false, ite_true, ite_false, reduceIte, Nat.reduceAdd, Nat.reduceSub, Nat.reduceLeDiff, Nat.reduceEqDiff, Nat.sub_self, Nat.zero_add, Option.map_none, decide_true, decide_false, Bool.not_true, Bool.not_false, i1, hrep, c1, u0, u1, u2, hh, t1, t2, t4, t3, t5, u4, u5, u6, u7, hS]
end LX
namespace LX
open PySem L2 DL FL
theorem dsum_ok {b : Bag} (hb : BagOk b) {n : Nat} (hn : n ≤ 12) {F : List Ln} (hF : ∀ l ∈ F, l.1 < 2 ^ n) (hlen : F.length ≤ 1000) : ∃ (m : Nat) (b' : Bag), m_law_drawn_sum (bagV b) [.int (n : Nat), flatD F] = some (rowD m, bagV b') ∧ BagOk b' ∧ m < 2 ^ n := by
  have p16 : (2 : Nat) ^ n ≤ 2 ^ 16 := Nat.pow_le_pow_right (by decide) (by omega)
  have hn0 := eqD_nat n 0
  have hn0' : eqD (.int (n : Int)) (.int 0) = some (.bool (decide (n = 0))) := hn0
  obtain ⟨r1, b1, k1, ok1, _⟩ := take_nat hb (many := 6) (by decide) (by decide)
  have k1' : m_law_take (bagV b) [.int 6] = some (.int (r1 : Nat), bagV b1) := k1
  have e1 : eqD (.int (r1 : Int)) (.int 0) = some (.bool (decide (r1 = 0))) := eqD_nat r1 0
  by_cases z1 : r1 = 0
  · rw [decide_eq_true z1] at e1
    refine ⟨0, b1, ?_, ok1, Nat.two_pow_pos n⟩
    generalize (r1 : Int) = y at *
    simp [m_law_drawn_sum, DL.runI, b_law_drawn_sum, DL.sWipe, DL.wipeF, DL.wipeL_nil, DL.wipeL_cons, DL.sFrz, DL.eChain, sQ, sIf, sN, qFz, qB, qAnd, qOr, qNot, qYes, e1, DL.e2, eV, eC, eN, eI, eIf, eAnd, eOr, eFz, eSl, oS, oN, aN, aC, aX, sAsg, sAsgO, sRet, sRetO, sRetN, sDrop, sSet, sSetX, sAugI, sMut, sPar, sPat, sParM, mN, mC, DL.setM, iSeq, iN, gN, gT, gC, gZ, outP, outF, outI, en0, stillE, Sl.still, Sl.own, Sl.put, p1, DL.tupD_l, DL.tupD_t, DL.lstD_l, DL.lstD_t, mkT, mkL, DL.e3, sl1, sl2, sl3, sl4, sl0, sl5, sl6, sl7, sl8, List.length_cons, List.length_nil, List.length_map, List.getElem?_cons_zero, List.getElem?_cons_succ, List.set_cons_zero, List.set_cons_succ, List.map_cons, List.map_nil, List.replicate, List.cons_append, List.nil_append, List.append_nil, Option.map_some, if_true, if_false, ite_true, ite_false, reduceIte, Nat.reduceAdd, Nat.reduceSub, Nat.reduceLeDiff, Nat.reduceEqDiff, Nat.sub_self, Nat.zero_add, Option.map_none, decide_true, decide_false, Bool.not_true, Bool.not_false, k1', e1, rowD_zero]
  · rw [decide_eq_false z1] at e1
    by_cases zn : n = 0
    · rw [decide_eq_true zn] at hn0'
      refine ⟨0, b1, ?_, ok1, Nat.two_pow_pos n⟩
      generalize (r1 : Int) = y at *
      generalize (n : Int) = y2 at *
      simp [m_law_drawn_sum, DL.runI, b_law_drawn_sum, DL.sWipe, DL.wipeF, DL.wipeL_nil, DL.wipeL_cons, DL.sFrz, DL.eChain, sQ, sIf, sN, qFz, qB, qAnd, qOr, qNot, qYes, e1, DL.e2, eV, eC, eN, eI, eIf, eAnd, eOr, eFz, eSl, oS, oN, aN, aC, aX, sAsg, sAsgO, sRet, sRetO, sRetN, sDrop, sSet, sSetX, sAugI, sMut, sPar, sPat, sParM, mN, mC, DL.setM, iSeq, iN, gN, gT, gC, gZ, outP, outF, outI, en0, stillE, Sl.still, Sl.own, Sl.put, p1, DL.tupD_l, DL.tupD_t, DL.lstD_l, DL.lstD_t, mkT, mkL, DL.e3, sl1, sl2, sl3, sl4, sl0, sl5, sl6, sl7, sl8, List.length_cons, List.length_nil, List.length_map, List.getElem?_cons_zero, List.getElem?_cons_succ, List.set_cons_zero, List.set_cons_succ, List.map_cons, List.map_nil, List.replicate, List.cons_append, List.nil_append, List.append_nil, Option.map_some, if_true, if_false, ite_true, ite_false, reduceIte, Nat.reduceAdd, Nat.reduceSub, Nat.reduceLeDiff, Nat.reduceEqDiff, Nat.sub_self, Nat.zero_add, Option.map_none, decide_true, decide_false, Bool.not_true, Bool.not_false, k1', e1, rowD_zero, hn0']
    · rw [decide_eq_false zn] at hn0'
      obtain ⟨r2, b2, k2, ok2, _⟩ := take_nat ok1 (many := 2) (by decide) (by decide)
      have k2' : m_law_take (bagV b1) [.int 2] = some (.int (r2 : Nat), bagV b2) := k2
      have e2' : eqD (.int (r2 : Int)) (.int 0) = some (.bool (decide (r2 = 0))) := eqD_nat r2 0
      by_cases z2 : r2 = 0
      · rw [decide_eq_true z2] at e2'
        obtain ⟨m, b3, k3, ok3, m0, m1⟩ := any_row_ok ok2 (many := n) (by omega) hn
        refine ⟨m, b3, ?_, ok3, m1⟩
        generalize (r1 : Int) = y at *
        generalize (r2 : Int) = y2 at *
        generalize (n : Int) = y3 at *
        simp [m_law_drawn_sum, DL.runI, b_law_drawn_sum, DL.sWipe, DL.wipeF, DL.wipeL_nil, DL.wipeL_cons, DL.sFrz, DL.eChain, sQ, sIf, sN, qFz, qB, qAnd, qOr, qNot, qYes, e1, DL.e2, eV, eC, eN, eI, eIf, eAnd, eOr, eFz, eSl, oS, oN, aN, aC, aX, sAsg, sAsgO, sRet, sRetO, sRetN, sDrop, sSet, sSetX, sAugI, sMut, sPar, sPat, sParM, mN, mC, DL.setM, iSeq, iN, gN, gT, gC, gZ, outP, outF, outI, en0, stillE, Sl.still, Sl.own, Sl.put, p1, DL.tupD_l, DL.tupD_t, DL.lstD_l, DL.lstD_t, mkT, mkL, DL.e3, sl1, sl2, sl3, sl4, sl0, sl5, sl6, sl7, sl8, List.length_cons, List.length_nil, List.length_map, List.getElem?_cons_zero, List.getElem?_cons_succ, List.set_cons_zero, List.set_cons_succ, List.map_cons, List.map_nil, List.replicate, List.cons_append, List.nil_append, List.append_nil, Option.map_some, if_true, if_false, ite_true, ite_false, reduceIte, Nat.reduceAdd, Nat.reduceSub, Nat.reduceLeDiff, Nat.reduceEqDiff, Nat.sub_self, Nat.zero_add, Option.map_none, decide_true, decide_false, Bool.not_true, Bool.not_false, k1', e1, hn0', k2', e2', k3]
      · rw [decide_eq_false z2] at e2'
        obtain ⟨r3, b3, k3, ok3, _⟩ := take_nat ok2 (many := 4) (by decide) (by decide)
        have k3' : m_law_take (bagV b2) [.int 4] = some (.int (r3 : Nat), bagV b3) := k3
        have e3' : eqD (.int (r3 : Int)) (.int 0) = some (.bool (decide (r3 = 0))) := eqD_nat r3 0
        have loop : ∀ (m0 : Nat) (b0 : Bag), m0 < 2 ^ n → BagOk b0 → ∃ (m : Nat) (b' : Bag), b_law_drawn_sum_F1 [.b (bagV b0), .d (.int (n : Nat)), .d (flatD F), .d (.int (m0 : Nat)), .u] = some (.nx [.b (bagV b'), .d (.int (n : Nat)), .d (flatD F), .d (.int (m : Nat)), .u]) ∧ m < 2 ^ n ∧ BagOk b' := fun m0 b0 h1 h2 => by
          obtain ⟨⟨m, b'⟩, h3, h4⟩ := sFor_run (it := iSeq (eV 2)) (g := gN 4) (ψ := b_law_drawn_sum_L1) (ρ := [.b (bagV b0), .d (.int (n : Nat)), .d (flatD F), .d (.int (m0 : Nat)), .u]) lineD (fun p : Nat × Bag => [.b (bagV p.2), .d (.int (n : Nat)), .d (flatD F), .d (.int (p.1 : Nat)), .u]) (fun _ p => p.1 < 2 ^ n ∧ BagOk p.2) F (m0, b0) rfl ⟨h1, h2⟩ (fun dn l rest p e ⟨q1, q2⟩ => by
            obtain ⟨m, b⟩ := p
            have hl : l.1 < 2 ^ n := hF l (by rw [e]; simp)
            obtain ⟨r, b', t1, t2, _⟩ := take_nat q2 (many := 2) (by decide) (by decide)
            have t1' : m_law_take (bagV b) [.int 2] = some (.int (r : Nat), bagV b') := t1
            have t3 : eqD (.int (r : Int)) (.int 0) = some (.bool (decide (r = 0))) := eqD_nat r 0
            have h6 := xorD_nn m l.1
            have h7 := xorD_nn m 0
            rw [Nat.xor_zero] at h7
            have h7' : xorD (.int (m : Nat)) (.int 0) = some (.int (m : Nat)) := h7
            have h8 := mask_ok (Nat.lt_of_lt_of_le hl p16)
            by_cases z : r = 0
            · rw [decide_eq_true z] at t3
              refine ⟨[.b (bagV b), .d (.int (n : Nat)), .d (flatD F), .d (.int (m : Nat)), .d (lineD l)], (m ^^^ l.1, b'), rfl, ?_, Nat.xor_lt_two_pow q1 hl, t2⟩
              generalize (r : Int) = y at *
              generalize (m ^^^ l.1) = y2 at *
              simp [b_law_drawn_sum_L1, DL.sWipe, DL.wipeF, DL.wipeL_nil, DL.wipeL_cons, DL.sFrz, DL.eChain, sQ, sIf, sN, qFz, qB, qAnd, qOr, qNot, qYes, e1, DL.e2, eV, eC, eN, eI, eIf, eAnd, eOr, eFz, eSl, oS, oN, aN, aC, aX, sAsg, sAsgO, sRet, sRetO, sRetN, sDrop, sSet, sSetX, sAugI, sMut, sPar, sPat, sParM, mN, mC, DL.setM, iSeq, iN, gN, gT, gC, gZ, outP, outF, outI, en0, stillE, Sl.still, Sl.own, Sl.put, p1, DL.tupD_l, DL.tupD_t, DL.lstD_l, DL.lstD_t, mkT, mkL, DL.e3, sl1, sl2, sl3, sl4, sl0, sl5, sl6, sl7, sl8, List.length_cons, List.length_nil, List.length_map, List.getElem?_cons_zero, List.getElem?_cons_succ, List.set_cons_zero, List.set_cons_succ, List.map_cons, List.map_nil, List.replicate, List.cons_append, List.nil_append, List.append_nil, Option.map_some, if_true, if_false, ite_true, ite_false, reduceIte, Nat.reduceAdd, Nat.reduceSub, Nat.reduceLeDiff, Nat.reduceEqDiff, Nat.sub_self, Nat.zero_add, Option.map_none, decide_true, decide_false, Bool.not_true, Bool.not_false, t1', t3, ixX_line0, h8, h6]
            · rw [decide_eq_false z] at t3
              refine ⟨[.b (bagV b), .d (.int (n : Nat)), .d (flatD F), .d (.int (m : Nat)), .d (lineD l)], (m, b'), rfl, ?_, q1, t2⟩
              generalize (r : Int) = y at *
              simp [b_law_drawn_sum_L1, DL.sWipe, DL.wipeF, DL.wipeL_nil, DL.wipeL_cons, DL.sFrz, DL.eChain, sQ, sIf, sN, qFz, qB, qAnd, qOr, qNot, qYes, e1, DL.e2, eV, eC, eN, eI, eIf, eAnd, eOr, eFz, eSl, oS, oN, aN, aC, aX, sAsg, sAsgO, sRet, sRetO, sRetN, sDrop, sSet, sSetX, sAugI, sMut, sPar, sPat, sParM, mN, mC, DL.setM, iSeq, iN, gN, gT, gC, gZ, outP, outF, outI, en0, stillE, Sl.still, Sl.own, Sl.put, p1, DL.tupD_l, DL.tupD_t, DL.lstD_l, DL.lstD_t, mkT, mkL, DL.e3, sl1, sl2, sl3, sl4, sl0, sl5, sl6, sl7, sl8, List.length_cons, List.length_nil, List.length_map, List.getElem?_cons_zero, List.getElem?_cons_succ, List.set_cons_zero, List.set_cons_succ, List.map_cons, List.map_nil, List.replicate, List.cons_append, List.nil_append, List.append_nil, Option.map_some, if_true, if_false, ite_true, ite_false, reduceIte, Nat.reduceAdd, Nat.reduceSub, Nat.reduceLeDiff, Nat.reduceEqDiff, Nat.sub_self, Nat.zero_add, Option.map_none, decide_true, decide_false, Bool.not_true, Bool.not_false, t1', t3, h7'])
          exact ⟨m, b', h3, h4⟩
        by_cases z3 : r3 = 0
        · rw [decide_eq_true z3] at e3'
          obtain ⟨m, b4, k4, ok4, m0, m1⟩ := any_row_ok ok3 (many := n) (by omega) hn
          have k5 := mask_ok (Nat.lt_of_lt_of_le m1 p16)
          obtain ⟨m', b5, k6, m2, ok5⟩ := loop m b4 m1 ok4
          have k7 := lawrow_ok (Nat.lt_of_lt_of_le m2 p16)
          refine ⟨m', b5, ?_, ok5, m2⟩
          generalize (r1 : Int) = y at *
          generalize (r2 : Int) = y2 at *
          generalize (r3 : Int) = y4 at *
          generalize (n : Int) = y3 at *
          simp [m_law_drawn_sum, DL.runI, b_law_drawn_sum, DL.sWipe, DL.wipeF, DL.wipeL_nil, DL.wipeL_cons, DL.sFrz, DL.eChain, sQ, sIf, sN, qFz, qB, qAnd, qOr, qNot, qYes, e1, DL.e2, eV, eC, eN, eI, eIf, eAnd, eOr, eFz, eSl, oS, oN, aN, aC, aX, sAsg, sAsgO, sRet, sRetO, sRetN, sDrop, sSet, sSetX, sAugI, sMut, sPar, sPat, sParM, mN, mC, DL.setM, iSeq, iN, gN, gT, gC, gZ, outP, outF, outI, en0, stillE, Sl.still, Sl.own, Sl.put, p1, DL.tupD_l, DL.tupD_t, DL.lstD_l, DL.lstD_t, mkT, mkL, DL.e3, sl1, sl2, sl3, sl4, sl0, sl5, sl6, sl7, sl8, List.length_cons, List.length_nil, List.length_map, List.getElem?_cons_zero, List.getElem?_cons_succ, List.set_cons_zero, List.set_cons_succ, List.map_cons, List.map_nil, List.replicate, List.cons_append, List.nil_append, List.append_nil, Option.map_some, if_true, if_false, ite_true, ite_false, reduceIte, Nat.reduceAdd, Nat.reduceSub, Nat.reduceLeDiff, Nat.reduceEqDiff, Nat.sub_self, Nat.zero_add, Option.map_none, decide_true, decide_false, Bool.not_true, Bool.not_false, k1', e1, hn0', k2', e2', k3', e3', k4, k5, k6, k7]
        · rw [decide_eq_false z3] at e3'
          obtain ⟨m', b5, k6, m2, ok5⟩ := loop 0 b3 (Nat.two_pow_pos n) ok3
          have k6' : b_law_drawn_sum_F1 [.b (bagV b3), .d (.int (n : Nat)), .d (flatD F), .d (.int 0), .u] = some (.nx [.b (bagV b5), .d (.int (n : Nat)), .d (flatD F), .d (.int (m' : Nat)), .u]) := k6
          have k7 := lawrow_ok (Nat.lt_of_lt_of_le m2 p16)
          refine ⟨m', b5, ?_, ok5, m2⟩
          generalize (r1 : Int) = y at *
          generalize (r2 : Int) = y2 at *
          generalize (r3 : Int) = y4 at *
          generalize (n : Int) = y3 at *
          simp [m_law_drawn_sum, DL.runI, b_law_drawn_sum, DL.sWipe, DL.wipeF, DL.wipeL_nil, DL.wipeL_cons, DL.sFrz, DL.eChain, sQ, sIf, sN, qFz, qB, qAnd, qOr, qNot, qYes, e1, DL.e2, eV, eC, eN, eI, eIf, eAnd, eOr, eFz, eSl, oS, oN, aN, aC, aX, sAsg, sAsgO, sRet, sRetO, sRetN, sDrop, sSet, sSetX, sAugI, sMut, sPar, sPat, sParM, mN, mC, DL.setM, iSeq, iN, gN, gT, gC, gZ, outP, outF, outI, en0, stillE, Sl.still, Sl.own, Sl.put, p1, DL.tupD_l, DL.tupD_t, DL.lstD_l, DL.lstD_t, mkT, mkL, DL.e3, sl1, sl2, sl3, sl4, sl0, sl5, sl6, sl7, sl8, List.length_cons, List.length_nil, List.length_map, List.getElem?_cons_zero, List.getElem?_cons_succ, List.set_cons_zero, List.set_cons_succ, List.map_cons, List.map_nil, List.replicate, List.cons_append, List.nil_append, List.append_nil, Option.map_some, if_true, if_false, ite_true, ite_false, reduceIte, Nat.reduceAdd, Nat.reduceSub, Nat.reduceLeDiff, Nat.reduceEqDiff, Nat.sub_self, Nat.zero_add, Option.map_none, decide_true, decide_false, Bool.not_true, Bool.not_false, k1', e1, hn0', k2', e2', k3', e3', k6', k7]
theorem room_all {n : Nat} (h : n < 8) : m_law_room [.int n] = some (roomD n) := by
  by_cases z : n = 0
  · subst z
    kernel_rfl
  · exact room_ok n (by omega) h
theorem drawn0 {b : Bag} (hb : BagOk b) {most : Nat} : m_law_drawn_flat (bagV b) [.int 0, .int (most : Nat)] = some (flatD [], bagV b) := by
  have h1 : rng1 [.int 0] = some [] := rfl
  have h2 : m_law_flat_of [.list []] = some (flatD []) := by
    obtain ⟨T, k, _, _, _, hl, _⟩ := flat_of_ok2 (n := 0) (by decide) (L := []) (fun _ h => nomatch h) (fun _ => false) (fun _ h => nomatch h)
    have e : T = [] := List.length_eq_zero_iff.mp (Nat.le_zero.mp hl)
    rw [e] at k
    exact k
  have h3 : DL.flatB (flatD []) = true := rfl
  have h4 : gtI (.int 0) (.int 0) = some (.bool false) := rfl
  simp [m_law_drawn_flat, DL.runI, b_law_drawn_flat, DL.sWipe, DL.wipeF, DL.wipeL_nil, DL.wipeL_cons, DL.sFrz, DL.eChain, sQ, sIf, sN, qFz, qB, qAnd, qOr, qNot, qYes, e1, DL.e2, eV, eC, eN, eI, eIf, eAnd, eOr, eFz, eSl, oS, oN, aN, aC, aX, sAsg, sAsgO, sRet, sRetO, sRetN, sDrop, sSet, sSetX, sAugI, sMut, sPar, sPat, sParM, mN, mC, DL.setM, iSeq, iN, gN, gT, gC, gZ, outP, outF, outI, en0, stillE, Sl.still, Sl.own, Sl.put, p1, DL.tupD_l, DL.tupD_t, DL.lstD_l, DL.lstD_t, mkT, mkL, DL.e3, sl1, sl2, sl3, sl4, sl0, sl5, sl6, sl7, sl8, List.length_cons, List.length_nil, List.length_map, List.getElem?_cons_zero, List.getElem?_cons_succ, List.set_cons_zero, List.set_cons_succ, List.map_cons, List.map_nil, List.replicate, List.cons_append, List.nil_append, List.append_nil, Option.map_some, if_true, if_false, ite_true, ite_false, reduceIte, Nat.reduceAdd, Nat.reduceSub, Nat.reduceLeDiff, Nat.reduceEqDiff, Nat.sub_self, Nat.zero_add, Option.map_none, decide_true, decide_false, Bool.not_true, Bool.not_false, eLc, lcD, wipeE, mixE, h1, sFor, forD, h2, h3, h4]
theorem drawn_all {b : Bag} (hb : BagOk b) {many most : Nat} (h2 : many ≤ 12) (h3 : most ≤ 1000) : ∃ (F : List Ln) (b' : Bag), m_law_drawn_flat (bagV b) [.int (many : Nat), .int (most : Nat)] = some (flatD F, bagV b') ∧ BagOk b' ∧ Srt F ∧ Fl many F := by
  by_cases z : many = 0
  · subst z
    exact ⟨[], b, drawn0 hb, hb, List.Pairwise.nil, Rr.nil, fun _ h => nomatch h⟩
  · obtain ⟨F, b', k1, k2, k3, k4, k5, _⟩ := drawn_ok2 hb (by omega : 0 < many) h2 h3
    exact ⟨F, b', k1, k2, k3, k4, k5⟩
theorem inner09 {n : Nat} (hn : n < 8) {F : List Ln} (f : Fl n F) (s : Srt F) {b : Bag} (hb : BagOk b) {s2 : Sl} : ∃ b', b_law_2_F1 [.u, .o (bagV b), s2, .d (.int (n : Nat)), .d (roomD n), .d (flatD F), .u, .u, .u, .u] = some (.nx [.u, .o (bagV b'), s2, .d (.int (n : Nat)), .d (roomD n), .d (flatD F), .u, .u, .u, .u]) ∧ BagOk b' :=
  sFor_run (it := iN rng1 (aC (eC (.int 3)) aN)) (g := gN 6) (ψ := b_law_2_L1) (fun u : Nat => PyData.int (u : Int)) (fun b : Bag => [.u, .o (bagV b), s2, .d (.int (n : Nat)), .d (roomD n), .d (flatD F), .u, .u, .u, .u]) (fun _ b => BagOk b) (List.range 3) b rfl hb (fun dn u rest b e hb => by
    obtain ⟨m, b', k1, k2, k3⟩ := dsum_ok hb (by omega) f.lt (by have := rr_len f.rr; omega)
    have k4 := told_right hn f s k3
    refine ⟨[.u, .o (bagV b), s2, .d (.int (n : Nat)), .d (roomD n), .d (flatD F), .d (.int (u : Nat)), .u, .u, .u], b', rfl, ?_, k2⟩
    generalize (n : Int) = y at *
    simp [b_law_2_L1, DL.sWipe, DL.wipeF, DL.wipeL_nil, DL.wipeL_cons, DL.sFrz, DL.eChain, sQ, sIf, sN, qFz, qB, qAnd, qOr, qNot, qYes, e1, DL.e2, eV, eC, eN, eI, eIf, eAnd, eOr, eFz, eSl, oS, oN, aN, aC, aX, sAsg, sAsgO, sRet, sRetO, sRetN, sDrop, sSet, sSetX, sAugI, sMut, sPar, sPat, sParM, mN, mC, DL.setM, iSeq, iN, gN, gT, gC, gZ, outP, outF, outI, en0, stillE, Sl.still, Sl.own, Sl.put, p1, DL.tupD_l, DL.tupD_t, DL.lstD_l, DL.lstD_t, mkT, mkL, DL.e3, sl1, sl2, sl3, sl4, sl0, sl5, sl6, sl7, sl8, List.length_cons, List.length_nil, List.length_map, List.getElem?_cons_zero, List.getElem?_cons_succ, List.set_cons_zero, List.set_cons_succ, List.map_cons, List.map_nil, List.replicate, List.cons_append, List.nil_append, List.append_nil, Option.map_some, if_true, if_false, ite_true, ite_false, reduceIte, Nat.reduceAdd, Nat.reduceSub, Nat.reduceLeDiff, Nat.reduceEqDiff, Nat.sub_self, Nat.zero_add, Option.map_none, decide_true, decide_false, Bool.not_true, Bool.not_false, k1, k4])
theorem outer09 {b : Bag} (hb : BagOk b) : ∃ b', b_law_2_F2 [.u, .o (bagV b), .u, .u, .u, .u, .u, .u, .u, .u] = some (.nx [.u, .o (bagV b'), .u, .u, .u, .u, .u, .u, .u, .u]) ∧ BagOk b' :=
  sFor_run (it := iN rng1 (aC (eC (.int 4)) aN)) (g := gN 2) (ψ := b_law_2_L2) (fun u : Nat => PyData.int (u : Int)) (fun b : Bag => [.u, .o (bagV b), .u, .u, .u, .u, .u, .u, .u, .u]) (fun _ b => BagOk b) (List.range 4) b rfl hb (fun dn u rest b e hb => by
    obtain ⟨x, b1, k1, ok1, hx⟩ := some_ok hb (xs := [.int 3, .int 5, .int 2, .int 7, .int 1, .int 0]) (by decide) (by decide)
    obtain ⟨n, rfl, hn⟩ : ∃ n : Nat, x = .int (n : Int) ∧ n < 8 := by
      simp only [List.mem_cons, List.not_mem_nil, or_false] at hx
      rcases hx with rfl | rfl | rfl | rfl | rfl | rfl
      · exact ⟨3, rfl, by decide⟩
      · exact ⟨5, rfl, by decide⟩
      · exact ⟨2, rfl, by decide⟩
      · exact ⟨7, rfl, by decide⟩
      · exact ⟨1, rfl, by decide⟩
      · exact ⟨0, rfl, by decide⟩
    have k2 := room_all hn
    obtain ⟨F, b2, k3, ok2, s, f⟩ := drawn_all ok1 (many := n) (most := 5) (by omega) (by decide)
    have k3' : m_law_drawn_flat (bagV b1) [.int (n : Nat), .int 5] = some (flatD F, bagV b2) := k3
    obtain ⟨b3, k4, ok3⟩ := inner09 hn f s ok2 (s2 := .d (.int (u : Nat)))
    obtain ⟨W, b4, k5, ok4, sW, fW⟩ := drawn_all ok3 (many := 12) (most := 8) (by omega) (by decide)
    have k5' : m_law_drawn_flat (bagV b3) [.int 12, .int 8] = some (flatD W, bagV b4) := k5
    obtain ⟨m, b5, k6, ok5, hm⟩ := dsum_ok ok4 (n := 12) (by omega) fW.lt (by have := rr_len fW.rr; omega)
    have k6' : m_law_drawn_sum (bagV b4) [.int 12, flatD W] = some (rowD m, bagV b5) := k6
    have m16 : m < 2 ^ 16 := Nat.lt_of_lt_of_le hm (by decide)
    have k7 := ltold_ok fW.rr.pos m16
    have k8 := told_ok fW.rr m16
    have k9 := alike_ok ((optD_nc (told W m)).le (by decide) (by decide))
    have k10 := reduced_ok fW.rr m16
    have k11 := lreduced_ok fW.rr m16
    have k12 := isN_opt (told W m)
    refine ⟨[.u, .o (bagV b), .d (.int (u : Nat)), .u, .u, .u, .u, .u, .u, .u], b5, rfl, ?_, ok5⟩
    cases h : told W m with
    | none =>
      obtain ⟨A, B, hh1, hh2, hA, hB⟩ := halves_both (by omega) fW sW hm h
      have k13 := alike_ok (d := .tuple [flatD A, flatD B]) (((NcL.cons (flatD_nc A) (NcL.cons (flatD_nc B) NcL.nil)).tup).le (by simp) (by have := rr_len hA.1.rr; have := rr_len hB.1.rr; omega))
      rw [h] at k7 k8 k9 k12
      have z : optD none = .none := rfl
      rw [z] at *
      have z2 : decide ((none : Option Bool) = none) = true := rfl
      rw [z2] at k12
      generalize (led W m false).1 = m' at *
      generalize (n : Int) = y at *
      simp [b_law_2_L2, DL.sWipe, DL.wipeF, DL.wipeL_nil, DL.wipeL_cons, DL.sFrz, DL.eChain, sQ, sIf, sN, qFz, qB, qAnd, qOr, qNot, qYes, e1, DL.e2, eV, eC, eN, eI, eIf, eAnd, eOr, eFz, eSl, oS, oN, aN, aC, aX, sAsg, sAsgO, sRet, sRetO, sRetN, sDrop, sSet, sSetX, sAugI, sMut, sPar, sPat, sParM, mN, mC, DL.setM, iSeq, iN, gN, gT, gC, gZ, outP, outF, outI, en0, stillE, Sl.still, Sl.own, Sl.put, p1, DL.tupD_l, DL.tupD_t, DL.lstD_l, DL.lstD_t, mkT, mkL, DL.e3, sl1, sl2, sl3, sl4, sl0, sl5, sl6, sl7, sl8, List.length_cons, List.length_nil, List.length_map, List.getElem?_cons_zero, List.getElem?_cons_succ, List.set_cons_zero, List.set_cons_succ, List.map_cons, List.map_nil, List.replicate, List.cons_append, List.nil_append, List.append_nil, Option.map_some, if_true, if_false, ite_true, ite_false, reduceIte, Nat.reduceAdd, Nat.reduceSub, Nat.reduceLeDiff, Nat.reduceEqDiff, Nat.sub_self, Nat.zero_add, Option.map_none, decide_true, decide_false, Bool.not_true, Bool.not_false, k1, k2, k3', k4, k5', k6', k7, k8, k9, k10, k11, k12, hh1, hh2, k13]
    | some w =>
      have hh := (phalves_ok fW.rr sW m16).1 w h
      have k13 := alike_ok (d := .none) (Nc.non.le (by decide) (by decide))
      rw [h] at k7 k8 k9 k12
      have z2 : decide (some w = none) = false := rfl
      rw [z2] at k12
      generalize (led W m false).1 = m' at *
      generalize (n : Int) = y at *
      generalize optD (some w) = ow at *
      simp [b_law_2_L2, DL.sWipe, DL.wipeF, DL.wipeL_nil, DL.wipeL_cons, DL.sFrz, DL.eChain, sQ, sIf, sN, qFz, qB, qAnd, qOr, qNot, qYes, e1, DL.e2, eV, eC, eN, eI, eIf, eAnd, eOr, eFz, eSl, oS, oN, aN, aC, aX, sAsg, sAsgO, sRet, sRetO, sRetN, sDrop, sSet, sSetX, sAugI, sMut, sPar, sPat, sParM, mN, mC, DL.setM, iSeq, iN, gN, gT, gC, gZ, outP, outF, outI, en0, stillE, Sl.still, Sl.own, Sl.put, p1, DL.tupD_l, DL.tupD_t, DL.lstD_l, DL.lstD_t, mkT, mkL, DL.e3, sl1, sl2, sl3, sl4, sl0, sl5, sl6, sl7, sl8, List.length_cons, List.length_nil, List.length_map, List.getElem?_cons_zero, List.getElem?_cons_succ, List.set_cons_zero, List.set_cons_succ, List.map_cons, List.map_nil, List.replicate, List.cons_append, List.nil_append, List.append_nil, Option.map_some, if_true, if_false, ite_true, ite_false, reduceIte, Nat.reduceAdd, Nat.reduceSub, Nat.reduceLeDiff, Nat.reduceEqDiff, Nat.sub_self, Nat.zero_add, Option.map_none, decide_true, decide_false, Bool.not_true, Bool.not_false, k1, k2, k3', k4, k5', k6', k7, k8, k9, k10, k11, k12, hh, k13])
theorem law_true (ns : List Int) (h : ns.length ≤ 63) : ∃ ρ', b_law_2 (DL.lawEn 10 1 ns) = some (.ret (.bool true) ρ') := by
  obtain ⟨b, e, hb⟩ := bag0 ns h
  obtain ⟨b', k, _⟩ := outer09 hb
  have e0 : DL.lawEn 10 1 ns = [.u, .o (bagV b), .u, .u, .u, .u, .u, .u, .u, .u] := by rw [← e]; rfl
  rw [e0]
  exact ⟨_, by unfold b_law_2; rw [sQ_nx k]; rfl⟩
end LX
open PySem PySem.W PyProof.Rows
set_option maxHeartbeats 0 in
theorem PySem.Challenge.cw_eithersums_k09_sums_on_a_flat_holds : PySem.Challenge.rw_eithersums_k09_sums_on_a_flat.Holds := by
  w_on; o_law; k_head; (case hw => w_witness2)
  k_fill
  refine DL.walkG (l := PySem.Challenge.rw_eithersums_k09_sums_on_a_flat) (k := 10) (x := "script") rfl rfl ⟨rfl, by decide, by decide⟩ (fun w h Y => PySem.W.kIn_of Y) ?F
  case F =>
    intro w mg fa h KX G hmg
    refine' LX.all_mk KX G hmg ?a1 ?l1 ?c1 ?k1 ?a2 ?l2 ?c2 ?k2 ?a4 ?l4 ?c4 ?k4 ?a5 ?l5 ?c5 ?k5 ?a6 ?l6 ?c6 ?k6 ?a7 ?l7 ?c7 ?k7 ?a8 ?l8 ?c8 ?k8 ?a10 ?l10 ?c10 ?k10 ?a11 ?l11 ?c11 ?k11 ?a12 ?l12 ?c12 ?k12 ?a13 ?l13 ?c13 ?k13 ?a14 ?l14 ?c14 ?k14 ?a15 ?l15 ?c15 ?k15 ?a16 ?l16 ?c16 ?k16 ?a17 ?l17 ?c17 ?k17 ?a18 ?l18 ?c18 ?k18 ?a19 ?l19 ?c19 ?k19 ?a20 ?l20 ?c20 ?k20 ?a21 ?l21 ?c21 ?k21 ?a22 ?l22 ?c22 ?k22 ?a23 ?l23 ?c23 ?k23 ?a24 ?l24 ?c24 ?k24 ?a25 ?l25 ?c25 ?k25 ?a26 ?l26 ?c26 ?k26 ?a27 ?l27 ?c27 ?k27 ?a28 ?l28 ?c28 ?k28 ?a29 ?l29 ?c29 ?k29 ?a30 ?l30 ?c30 ?k30 ?a31 ?l31 ?c31 ?k31 ?a32 ?l32 ?c32 ?k32 ?a33 ?l33 ?c33 ?k33 ?a34 ?l34 ?c34 ?k34 ?a35 ?l35 ?c35 ?k35 ?a36 ?l36 ?c36 ?k36 ?z0 ?z1 ?z2 ?z3 ?z4 ?z5 ?z6 ?z7 ?z8 ?z9 ?z10 ?z11 LX.law_true
    (case a1 => k_is); (case l1 => k_is); (case c1 => k_is); (case k1 => k_is); (case a2 => k_is); (case l2 => k_is); (case c2 => k_is); (case k2 => k_is)
    (case a4 => k_is); (case l4 => k_is); (case c4 => k_is); (case k4 => k_is); (case a5 => k_is); (case l5 => k_is); (case c5 => k_is); (case k5 => k_is)
    (case a6 => k_is); (case l6 => k_is); (case c6 => k_is); (case k6 => k_is); (case a7 => k_is); (case l7 => k_is); (case c7 => k_is); (case k7 => k_is)
    (case a8 => k_is); (case l8 => k_is); (case c8 => k_is); (case k8 => k_is); (case a10 => k_is); (case l10 => k_is); (case c10 => k_is); (case k10 => k_is)
    (case a11 => k_is); (case l11 => k_is); (case c11 => k_is); (case k11 => k_is); (case a12 => k_is); (case l12 => k_is); (case c12 => k_is); (case k12 => k_is)
    (case a13 => k_is); (case l13 => k_is); (case c13 => k_is); (case k13 => k_is); (case a14 => k_is); (case l14 => k_is); (case c14 => k_is); (case k14 => k_is)
    (case a15 => k_is); (case l15 => k_is); (case c15 => k_is); (case k15 => k_is); (case a16 => k_is); (case l16 => k_is); (case c16 => k_is); (case k16 => k_is)
    (case a17 => k_is); (case l17 => k_is); (case c17 => k_is); (case k17 => k_is); (case a18 => k_is); (case l18 => k_is); (case c18 => k_is); (case k18 => k_is)
    (case a19 => k_is); (case l19 => k_is); (case c19 => k_is); (case k19 => k_is); (case a20 => k_is); (case l20 => k_is); (case c20 => k_is); (case k20 => k_is)
    (case a21 => k_is); (case l21 => k_is); (case c21 => k_is); (case k21 => k_is); (case a22 => k_is); (case l22 => k_is); (case c22 => k_is); (case k22 => k_is)
    (case a23 => k_is); (case l23 => k_is); (case c23 => k_is); (case k23 => k_is); (case a24 => k_is); (case l24 => k_is); (case c24 => k_is); (case k24 => k_is)
    (case a25 => k_is); (case l25 => k_is); (case c25 => k_is); (case k25 => k_is); (case a26 => k_is); (case l26 => k_is); (case c26 => k_is); (case k26 => k_is)
    (case a27 => k_is); (case l27 => k_is); (case c27 => k_is); (case k27 => k_is); (case a28 => k_is); (case l28 => k_is); (case c28 => k_is); (case k28 => k_is)
    (case a29 => k_is); (case l29 => k_is); (case c29 => k_is); (case k29 => k_is); (case a30 => k_is); (case l30 => k_is); (case c30 => k_is); (case k30 => k_is)
    (case a31 => k_is); (case l31 => k_is); (case c31 => k_is); (case k31 => k_is); (case a32 => k_is); (case l32 => k_is); (case c32 => k_is); (case k32 => k_is)
    (case a33 => k_is); (case l33 => k_is); (case c33 => k_is); (case k33 => k_is); (case a34 => k_is); (case l34 => k_is); (case c34 => k_is); (case k34 => k_is)
    (case a35 => k_is); (case l35 => k_is); (case c35 => k_is); (case k35 => k_is); (case a36 => k_is); (case l36 => k_is); (case c36 => k_is); (case k36 => k_is)
    (case z0 => k_is); (case z1 => k_is); (case z2 => k_is); (case z3 => k_is); (case z4 => k_is); (case z5 => k_is); (case z6 => k_is); (case z7 => k_is)
    (case z8 => k_is); (case z9 => k_is); (case z10 => k_is); (case z11 => k_is)
