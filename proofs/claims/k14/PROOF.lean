import PyProof.Rows.All
import Wide.All
import OpenK.AllK
import Wide.FinOn
import HandS.ForMost
import HandS.Star
import HandS.WideBits
import HandS.TupAny
import HandS.Deep
import HandS.Zip
import HandS.Style
import HandS.IsInst
import HandS.More
import HandS.WordsDict
import KE.SortData
import HandS.TupMul
import KE.BitLaws
import KE.KBits
import KE.OsArith
import PySem.Challenge.RW_eithersums_k14_two_flats_together
set_option Elab.async false
set_option linter.all false
set_option maxRecDepth 100000
set_option maxHeartbeats 1000000
/-! DL1: data that values stand for, heaps that grow, the relation between slots and data. -/
namespace DL
open PySem PySem.Spec PyProof.Rows L2

def Ex (H H' : Hp) : Prop := ∀ a o, H a = some o → H' a = some o
theorem Ex.refl (H : Hp) : Ex H H := fun _ _ h => h
theorem Ex.trans {H H1 H2 : Hp} (p : Ex H H1) (q : Ex H1 H2) : Ex H H2 := fun a o h => q a o (p a o h)
theorem Ex.new {H : Hp} {p : Addr} {o : HO} (h : H p = none) : Ex H (upd H p o) := fun a u e => by
  by_cases q : a = p
  · subst q; rw [h] at e; cases e
  · rw [upd_ne q]; exact e
theorem Ex.none {H H' : Hp} (e : Ex H H') {a : Addr} (h : H' a = none) : H a = none := by
  cases q : H a with
  | none => rfl
  | some o => rw [e a o q] at h; cases h
theorem Ex.both {H H' : Hp} {p : Addr} {o : HO} (e : Ex H H') (h : H' p = Option.none) : Ex (upd H p o) (upd H' p o) := fun a u q => by
  by_cases r : a = p
  · subst r; rw [upd_same] at q ⊢; exact q
  · rw [upd_ne r] at q ⊢; exact e a u q
theorem Ex.side {H H' : Hp} {p : Addr} {o : HO} (e : Ex H H') (h : H p = Option.none) : Ex H (upd H' p o) := fun a u q => by
  by_cases r : a = p
  · subst r; rw [h] at q; cases q
  · rw [upd_ne r]; exact e a u q
theorem Ex.rd {H H' : Hp} (e : Ex H H') {a : Addr} {u : HO} (h : Rd H a u) : Rd H' a u := by
  rcases h with h | ⟨o, h⟩
  · exact .inl (e _ _ h)
  · exact .inr ⟨o, e _ _ h⟩
theorem Ex.sqL {K : PySem.W.Frag} {H H' : Hp} (e : Ex H H') {a : Addr} {xs : List V} (h : SqL K H a xs) : SqL K H' a xs := by
  rcases h with h | h
  · exact .inl (e.rd h)
  · exact .inr h
theorem Ex.sqT {K : PySem.W.Frag} {H H' : Hp} (e : Ex H H') {a : Addr} {xs : List V} (h : SqT K H a xs) : SqT K H' a xs := by
  rcases h with h | h
  · exact .inl (e.rd h)
  · exact .inr h

/-- the data of a key -/
def kD : Key → PyData
  | .inl i => .int i
  | .inr x => .str x

mutual
inductive Dr (K : PySem.W.Frag) (H : Hp) : V → PyData → Prop
  | non : Dr K H .non .none
  | bl (b : Bool) : Dr K H (.bl b) (.bool b)
  | int (i : Int) : Dr K H (.int i) (.int i)
  | str (x : Str) : Dr K H (.str x) (.str x)
  | lst {a : Addr} {xs : List V} {ds : List PyData} : H a = some (.lst xs) → xs.length ≤ sizeLine → DrAll K H xs ds → Dr K H (.ref a) (.list ds)
  | tup {a : Addr} {xs : List V} {ds : List PyData} : SqT K H a xs → xs.length ≤ sizeLine → DrAll K H xs ds → Dr K H (.ref a) (.tuple ds)
  | dk {a : Addr} {kvs : List (Key × V)} {ps : List (PyData × PyData)} : Rd H a (.dK kvs) → kvs.length ≤ sizeLine → DrKv K H kvs ps → Dr K H (.ref a) (.dict ps)
inductive DrAll (K : PySem.W.Frag) (H : Hp) : List V → List PyData → Prop
  | nil : DrAll K H [] []
  | cons {v : V} {vs : List V} {d : PyData} {ds : List PyData} : Dr K H v d → DrAll K H vs ds → DrAll K H (v :: vs) (d :: ds)
inductive DrKv (K : PySem.W.Frag) (H : Hp) : List (Key × V) → List (PyData × PyData) → Prop
  | nil : DrKv K H [] []
  | cons {k : Key} {v : V} {kvs : List (Key × V)} {d : PyData} {ps : List (PyData × PyData)} : Dr K H v d → DrKv K H kvs ps → DrKv K H ((k, v) :: kvs) ((kD k, d) :: ps)
end

section
variable {K : PySem.W.Frag} {H H' : Hp}
mutual
theorem Dr.mono (e : Ex H H') : ∀ {v : V} {d : PyData}, Dr K H v d → Dr K H' v d
  | _, _, .non => .non
  | _, _, .bl b => .bl b
  | _, _, .int i => .int i
  | _, _, .str x => .str x
  | _, _, .lst h z t => .lst (e _ _ h) z (DrAll.mono e t)
  | _, _, .tup h z t => .tup (e.sqT h) z (DrAll.mono e t)
  | _, _, .dk h z t => .dk (e.rd h) z (DrKv.mono e t)
theorem DrAll.mono (e : Ex H H') : ∀ {vs : List V} {ds : List PyData}, DrAll K H vs ds → DrAll K H' vs ds
  | _, _, .nil => .nil
  | _, _, .cons h t => .cons (Dr.mono e h) (DrAll.mono e t)
theorem DrKv.mono (e : Ex H H') : ∀ {kvs : List (Key × V)} {ps : List (PyData × PyData)}, DrKv K H kvs ps → DrKv K H' kvs ps
  | _, _, .nil => .nil
  | _, _, .cons h t => .cons (Dr.mono e h) (DrKv.mono e t)
end
theorem DrAll.len : ∀ {vs : List V} {ds : List PyData}, DrAll K H vs ds → vs.length = ds.length
  | _, _, .nil => rfl
  | _, _, .cons _ t => congrArg (· + 1) (DrAll.len t)
theorem DrAll.get : ∀ {vs : List V} {ds : List PyData} {i : Nat} {d : PyData}, DrAll K H vs ds → ds[i]? = some d → ∃ v, vs[i]? = some v ∧ Dr K H v d
  | _, _, i, d, .nil, e => by simp at e
  | _, _, 0, d, .cons h t, e => by
    simp only [List.getElem?_cons_zero] at e ⊢
    cases e
    exact ⟨_, rfl, h⟩
  | _, _, i + 1, d, .cons h t, e => by
    simp only [List.getElem?_cons_succ] at e ⊢
    exact DrAll.get t e
theorem DrAll.got : ∀ {vs : List V} {ds : List PyData} {i : Nat} {v : V}, DrAll K H vs ds → vs[i]? = some v → ∃ d, ds[i]? = some d ∧ Dr K H v d
  | _, _, i, d, .nil, e => by simp at e
  | _, _, 0, d, .cons h t, e => by
    simp only [List.getElem?_cons_zero] at e ⊢
    cases e
    exact ⟨_, rfl, h⟩
  | _, _, i + 1, d, .cons h t, e => by
    simp only [List.getElem?_cons_succ] at e ⊢
    exact DrAll.got t e
theorem DrAll.append : ∀ {vs ws : List V} {ds es : List PyData}, DrAll K H vs ds → DrAll K H ws es → DrAll K H (vs ++ ws) (ds ++ es)
  | _, _, _, _, .nil, s => s
  | _, _, _, _, .cons h t, s => .cons h (DrAll.append t s)
theorem DrAll.take : ∀ {vs : List V} {ds : List PyData} (n : Nat), DrAll K H vs ds → DrAll K H (vs.take n) (ds.take n)
  | _, _, 0, _ => .nil
  | _, _, _ + 1, .nil => .nil
  | _, _, n + 1, .cons h t => .cons h (DrAll.take n t)
theorem DrAll.drop : ∀ {vs : List V} {ds : List PyData} (n : Nat), DrAll K H vs ds → DrAll K H (vs.drop n) (ds.drop n)
  | _, _, 0, r => r
  | _, _, _ + 1, .nil => .nil
  | _, _, n + 1, .cons _ t => DrAll.drop n t
theorem DrAll.set {v : V} {d : PyData} (r : Dr K H v d) : ∀ {vs : List V} {ds : List PyData} (i : Nat), DrAll K H vs ds → DrAll K H (vs.set i v) (ds.set i d)
  | _, _, _, .nil => .nil
  | _, _, 0, .cons _ t => .cons r t
  | _, _, i + 1, .cons q t => .cons q (DrAll.set r i t)
theorem DrAll.ints : ∀ ns : List Int, DrAll K H (ns.map V.int) (ns.map PyData.int)
  | [] => .nil
  | n :: ns => .cons (.int n) (DrAll.ints ns)
theorem DrAll.of_ints : ∀ {vs : List V} {ns : List Int}, DrAll K H vs (ns.map PyData.int) → vs = ns.map V.int
  | vs, [], h => by
    have h' : DrAll K H vs [] := h
    cases h'
    rfl
  | vs, n :: ns, h => by
    have h' : DrAll K H vs (.int n :: ns.map PyData.int) := h
    cases h' with
    | cons a t =>
      cases a
      rw [DrAll.of_ints t]
      rfl
theorem DrAll.bools : ∀ bs : List Bool, DrAll K H (bs.map V.bl) (bs.map PyData.bool)
  | [] => .nil
  | b :: bs => .cons (.bl b) (DrAll.bools bs)
theorem DrAll.of_bools : ∀ {vs : List V} {bs : List Bool}, DrAll K H vs (bs.map PyData.bool) → vs = bs.map V.bl
  | vs, [], h => by
    have h' : DrAll K H vs [] := h
    cases h'
    rfl
  | vs, b :: bs, h => by
    have h' : DrAll K H vs (.bool b :: bs.map PyData.bool) := h
    cases h' with
    | cons a t =>
      cases a
      rw [DrAll.of_bools t]
      rfl
mutual
theorem Dr.dp : ∀ {v : V} {d : PyData}, Dr K H v d → d.hasDict = false → Dp K H v d
  | _, _, .non, _ => .non
  | _, _, .bl b, _ => .bl b
  | _, _, .int i, _ => .int i
  | _, _, .str x, _ => .str x
  | _, _, .lst h z t, q => .lst (.inl (.inl h)) (DrAll.dp t (by simpa [PyData.hasDict] using q))
  | _, _, .tup h z t, q => .tup h (DrAll.dp t (by simpa [PyData.hasDict] using q))
  | _, _, .dk h z t, q => by simp [PyData.hasDict] at q
theorem DrAll.dp : ∀ {vs : List V} {ds : List PyData}, DrAll K H vs ds → PyData.hasDictAll ds = false → DpAll K H vs ds
  | _, _, .nil, _ => .nil
  | _, _, .cons h t, q => by
    have q' := q
    simp only [PyData.hasDictAll, Bool.or_eq_false_iff] at q'
    exact .cons (Dr.dp h q'.1) (DrAll.dp t q'.2)
end
end


/-! ### slots -/
inductive Sl where
  | u | d (x : PyData) | o (x : PyData) | b (x : PyData)
def Sl.own : Sl → Option PyData
  | .o x => some x
  | .b x => some x
  | _ => none
abbrev En := List Sl
/-- a list or a dict that stands at a, written, its parts in the frozen heap -/
def OwnAt (K : PySem.W.Frag) (G H : Hp) (a : Addr) : PyData → Prop
  | .list ds => ∃ vs, H a = some (.lst vs) ∧ vs.length ≤ sizeLine ∧ DrAll K G vs ds
  | .dict ps => ∃ kvs, H a = some (.dK kvs) ∧ kvs.length ≤ sizeLine ∧ DrKv K G kvs ps
  | _ => False
structure Zn where
  G : Hp
  H : Hp
  pin : Nat → Option Addr
  io : Addr → Prop
def Owned (ρ : En) (i : Nat) : Prop := ∃ (s : Sl) (x : PyData), ρ[i]? = some s ∧ s.own = some x
structure SR (K : PySem.W.Frag) (Z : Zn) (G H : Hp) (σ : L2.St) (ρ : En) : Prop where
  len : ρ.length = σ.length
  gh : Ex G H
  zg : Ex Z.G G
  g0 : ∀ a o, Z.H a = some o → G a = Z.G a
  h0 : ∀ a o, Z.H a = some o → ¬ Z.io a → H a = some o
  h1 : ∀ a o, Z.H a = some o → ∃ o', H a = some o'
  str : ∀ (i : Nat) (x : PyData), ρ[i]? = some (.d x) → ∃ v, σ[i]? = some (some v) ∧ Dr K G v x
  own : ∀ (i : Nat) (s : Sl) (x : PyData), ρ[i]? = some s → s.own = some x → ∃ a, σ[i]? = some (some (.ref a)) ∧ G a = none ∧ OwnAt K G H a x ∧ (Z.io a ∨ Z.H a = none)
  bor : ∀ (i : Nat) (x : PyData), ρ[i]? = some (.b x) → ∃ a, Z.pin i = some a ∧ σ[i]? = some (some (.ref a))
  opin : ∀ (i : Nat) (x : PyData) (a : Addr), ρ[i]? = some (.o x) → σ[i]? = some (some (.ref a)) → ∀ j, Z.pin j ≠ some a
  zpin : ∀ (j : Nat) (a : Addr), Z.pin j = some a → ∃ o, Z.H a = some o
  inj : ∀ (i j : Nat) (a : Addr), Owned ρ i → Owned ρ j → σ[i]? = some (some (.ref a)) → σ[j]? = some (some (.ref a)) → i = j

section
variable {K : PySem.W.Frag} {Z : Zn} {G H G' H' : Hp} {σ σ' : L2.St} {ρ ρ' : En}
theorem OwnAt.mono {a : Addr} {x : PyData} (e : Ex G G') (h : H' a = H a) (o : OwnAt K G H a x) : OwnAt K G' H' a x := by
  cases x with
  | list ds => obtain ⟨vs, p, z, q⟩ := o; exact ⟨vs, h.trans p, z, q.mono e⟩
  | dict ps => obtain ⟨vs, p, z, q⟩ := o; exact ⟨vs, h.trans p, z, q.mono e⟩
  | _ => exact o
theorem OwnAt.some {a : Addr} {x : PyData} (o : OwnAt K G H a x) : ∃ u, H a = some u := by
  cases x with
  | list ds => obtain ⟨vs, p, _⟩ := o; exact ⟨_, p⟩
  | dict ps => obtain ⟨vs, p, _⟩ := o; exact ⟨_, p⟩
  | _ => exact o.elim
/-- frozen: the object joins the frozen heap -/
theorem OwnAt.frz {a : Addr} {x : PyData} {u : HO} (hg : G a = none) (hu : H a = Option.some u) (o : OwnAt K G H a x) : Dr K (upd G a u) (.ref a) x := by
  cases x with
  | list ds => obtain ⟨vs, p, z, q⟩ := o; rw [hu] at p; cases p; exact .lst upd_same z (q.mono (Ex.new hg))
  | dict ps => obtain ⟨vs, p, z, q⟩ := o; rw [hu] at p; cases p; exact .dk (.inl upd_same) z (q.mono (Ex.new hg))
  | _ => exact o.elim

/-- objects that are new to both heaps -/
inductive Al : Hp → Hp → Hp → Hp → Prop
  | refl {G H : Hp} : Al G H G H
  | one {G H : Hp} {p : Addr} {o : HO} : H p = none → Al G H (upd G p o) (upd H p o)
theorem Al.ex (e : Ex G H) (a : Al G H G' H') : Ex G G' ∧ Ex H H' ∧ Ex G' H' := by
  cases a with
  | refl => exact ⟨Ex.refl _, Ex.refl _, e⟩
  | one h => exact ⟨Ex.new (e.none h), Ex.new h, e.both h⟩
theorem SR.al (R : SR K Z G H σ ρ) (a : Al G H G' H') : SR K Z G' H' σ ρ := by
  cases a with
  | refl => exact R
  | one h =>
    rename_i p o
    have hg : G p = none := R.gh.none h
    have hz : Z.H p = none := by
      cases q : Z.H p with
      | none => rfl
      | some u => obtain ⟨u', e⟩ := R.h1 p u q; rw [h] at e; cases e
    refine ⟨R.len, R.gh.both h, R.zg.trans (Ex.new hg), fun a u e => ?_, fun a u e n => ?_, fun a u e => ?_, fun i x e => ?_, fun i s x e e2 => ?_, R.bor, R.opin, R.zpin, R.inj⟩
    · have ne : a ≠ p := fun z => by rw [z, hz] at e; cases e
      rw [upd_ne ne]; exact R.g0 a u e
    · have ne : a ≠ p := fun z => by rw [z, hz] at e; cases e
      rw [upd_ne ne]; exact R.h0 a u e n
    · have ne : a ≠ p := fun z => by rw [z, hz] at e; cases e
      rw [upd_ne ne]; exact R.h1 a u e
    · obtain ⟨v, h1, h2⟩ := R.str i x e
      exact ⟨v, h1, h2.mono (Ex.new hg)⟩
    · obtain ⟨a, h1, h2, h3, h4⟩ := R.own i s x e e2
      obtain ⟨u, hu⟩ := h3.some
      have ne : a ≠ p := fun z => by rw [z, h] at hu; cases hu
      exact ⟨a, h1, by rw [upd_ne ne]; exact h2, h3.mono (Ex.new hg) (upd_ne ne), h4⟩

theorem getElem?_set_cases {α : Type} {l : List α} {i j : Nat} {x y : α} (h : (l.set i x)[j]? = some y) : (j = i ∧ y = x) ∨ (j ≠ i ∧ l[j]? = some y) := by
  by_cases e : j = i
  · subst e
    by_cases hl : j < l.length
    · rw [List.getElem?_set_self hl] at h
      exact .inl ⟨rfl, (Option.some.inj h).symm⟩
    · rw [List.getElem?_eq_none (by rw [List.length_set]; omega)] at h
      cases h
  · rw [List.getElem?_set_ne (Ne.symm e)] at h
    exact .inr ⟨e, h⟩
/-- a slot takes data -/
theorem SR.setD {i : Nat} {v : V} {x : PyData} (R : SR K Z G H σ ρ) (r : Dr K G v x) : SR K Z G H (σ.set i (some v)) (ρ.set i (.d x)) := by
  refine ⟨by rw [List.length_set, List.length_set]; exact R.len, R.gh, R.zg, R.g0, R.h0, R.h1, fun j y e => ?_, fun j s y e e2 => ?_, fun j y e => ?_, fun j y b e e2 => ?_, R.zpin, fun j k a hj hk e1 e2 => ?_⟩
  · rcases getElem?_set_cases e with ⟨rfl, q⟩ | ⟨ne, q⟩
    · cases q
      have hl : j < ρ.length := by
        rcases Nat.lt_or_ge j ρ.length with h | h
        · exact h
        · rw [List.getElem?_eq_none (by rw [List.length_set]; exact h)] at e; cases e
      exact ⟨v, by rw [List.getElem?_set_self (by rw [← R.len]; exact hl)], r⟩
    · obtain ⟨v', h1, h2⟩ := R.str j y q
      exact ⟨v', by rw [List.getElem?_set_ne (Ne.symm ne)]; exact h1, h2⟩
  · rcases getElem?_set_cases e with ⟨rfl, q⟩ | ⟨ne, q⟩
    · subst q; cases e2
    · obtain ⟨a, h1, h2⟩ := R.own j s y q e2
      exact ⟨a, by rw [List.getElem?_set_ne (Ne.symm ne)]; exact h1, h2⟩
  · rcases getElem?_set_cases e with ⟨rfl, q⟩ | ⟨ne, q⟩
    · cases q
    · obtain ⟨a, h1, h2⟩ := R.bor j y q
      exact ⟨a, h1, by rw [List.getElem?_set_ne (Ne.symm ne)]; exact h2⟩
  · rcases getElem?_set_cases e with ⟨rfl, q⟩ | ⟨ne, q⟩
    · cases q
    · rw [List.getElem?_set_ne (Ne.symm ne)] at e2
      exact R.opin j y b q e2
  · obtain ⟨s1, x1, p1, q1⟩ := hj
    obtain ⟨s2, x2, p2, q2⟩ := hk
    rcases getElem?_set_cases p1 with ⟨rfl, q⟩ | ⟨n1, w1⟩
    · subst q; cases q1
    · rcases getElem?_set_cases p2 with ⟨rfl, q⟩ | ⟨n2, w2⟩
      · subst q; cases q2
      · rw [List.getElem?_set_ne (Ne.symm n1)] at e1
        rw [List.getElem?_set_ne (Ne.symm n2)] at e2
        exact R.inj j k a ⟨_, _, w1, q1⟩ ⟨_, _, w2, q2⟩ e1 e2
/-- a slot takes a fresh list or dict -/
theorem SR.setO {i : Nat} {a : Addr} {x : PyData} (R : SR K Z G H σ ρ) (hg : G a = none) (hz : Z.H a = none) (hn : ∀ j, Owned ρ j → σ[j]? ≠ some (some (.ref a))) (o : OwnAt K G H a x) :
    SR K Z G H (σ.set i (some (.ref a))) (ρ.set i (.o x)) := by
  refine ⟨by rw [List.length_set, List.length_set]; exact R.len, R.gh, R.zg, R.g0, R.h0, R.h1, fun j y e => ?_, fun j s y e e2 => ?_, fun j y e => ?_, fun j y c e e2 => ?_, R.zpin, fun j k b hj hk e1 e2 => ?_⟩
  · rcases getElem?_set_cases e with ⟨rfl, q⟩ | ⟨ne, q⟩
    · cases q
    · obtain ⟨v', h1, h2⟩ := R.str j y q
      exact ⟨v', by rw [List.getElem?_set_ne (Ne.symm ne)]; exact h1, h2⟩
  · rcases getElem?_set_cases e with ⟨rfl, q⟩ | ⟨ne, q⟩
    · subst q
      cases e2
      have hl : j < ρ.length := by
        rcases Nat.lt_or_ge j ρ.length with h | h
        · exact h
        · rw [List.getElem?_eq_none (by rw [List.length_set]; exact h)] at e; cases e
      exact ⟨a, by rw [List.getElem?_set_self (by rw [← R.len]; exact hl)], hg, o, .inr hz⟩
    · obtain ⟨a, h1, h2⟩ := R.own j s y q e2
      exact ⟨a, by rw [List.getElem?_set_ne (Ne.symm ne)]; exact h1, h2⟩
  · rcases getElem?_set_cases e with ⟨rfl, q⟩ | ⟨ne, q⟩
    · cases q
    · obtain ⟨a, h1, h2⟩ := R.bor j y q
      exact ⟨a, h1, by rw [List.getElem?_set_ne (Ne.symm ne)]; exact h2⟩
  · intro m hm
    rcases getElem?_set_cases e with ⟨rfl, q⟩ | ⟨ne, q⟩
    · cases q
      have hl : j < σ.length := by
        rcases Nat.lt_or_ge j σ.length with h | h
        · exact h
        · rw [List.getElem?_eq_none (by rw [List.length_set]; exact h)] at e2; cases e2
      rw [List.getElem?_set_self hl] at e2
      cases e2
      obtain ⟨o', ho'⟩ := R.zpin m _ hm
      rw [hz] at ho'; cases ho'
    · rw [List.getElem?_set_ne (Ne.symm ne)] at e2
      exact R.opin j y c q e2 m hm
  · obtain ⟨s1, x1, p1, q1⟩ := hj
    obtain ⟨s2, x2, p2, q2⟩ := hk
    rcases getElem?_set_cases p1 with ⟨r1, q⟩ | ⟨n1, w1⟩
    · rcases getElem?_set_cases p2 with ⟨r2, q'⟩ | ⟨n2, w2⟩
      · rw [r1, r2]
      · subst r1
        have hl : j < σ.length := by
          rcases Nat.lt_or_ge j σ.length with h | h
          · exact h
          · rw [List.getElem?_eq_none (by rw [List.length_set]; exact h)] at e1; cases e1
        rw [List.getElem?_set_self hl] at e1
        cases e1
        rw [List.getElem?_set_ne (Ne.symm n2)] at e2
        exact absurd e2 (hn k ⟨_, _, w2, q2⟩)
    · rcases getElem?_set_cases p2 with ⟨r2, q'⟩ | ⟨n2, w2⟩
      · subst r2
        have hl : k < σ.length := by
          rcases Nat.lt_or_ge k σ.length with h | h
          · exact h
          · rw [List.getElem?_eq_none (by rw [List.length_set]; exact h)] at e2; cases e2
        rw [List.getElem?_set_self hl] at e2
        cases e2
        rw [List.getElem?_set_ne (Ne.symm n1)] at e1
        exact absurd e1 (hn j ⟨_, _, w1, q1⟩)
      · rw [List.getElem?_set_ne (Ne.symm n1)] at e1
        rw [List.getElem?_set_ne (Ne.symm n2)] at e2
        exact R.inj j k b ⟨_, _, w1, q1⟩ ⟨_, _, w2, q2⟩ e1 e2
/-- the same kind with other content -/
def Sl.put (s : Sl) (y : PyData) : Sl := match s with
  | .o _ => .o y
  | .b _ => .b y
  | s => s
theorem Sl.put_own {s : Sl} {x : PyData} (h : s.own = some x) (y : PyData) : (s.put y).own = some y := by cases s <;> first | rfl | cases h
/-- the content of an owned slot changes, its object with it -/
theorem SR.mut {i : Nat} {s : Sl} {x y : PyData} {a : Addr} {u : HO} (R : SR K Z G H σ ρ) (hi : ρ[i]? = some s) (hs : s.own = some x) (ha : σ[i]? = some (some (.ref a))) (o : OwnAt K G (upd H a u) a y) :
    SR K Z G (upd H a u) σ (ρ.set i (s.put y)) := by
  obtain ⟨a', h1, h2, h3, h4⟩ := R.own i s x hi hs
  rw [ha] at h1; cases h1
  refine ⟨by rw [List.length_set]; exact R.len, R.gh.side h2, R.zg, R.g0, fun b w e n => ?_, fun b w e => ?_, fun j y' e => ?_, fun j s' y' e e2 => ?_, fun j y' e => ?_, fun j y' c e e2 => ?_, R.zpin, fun j k b hj hk e1 e2 => ?_⟩
  · have ne : b ≠ a := fun z => by
      subst z
      rcases h4 with h4 | h4
      · exact n h4
      · rw [h4] at e; cases e
    rw [upd_ne ne]; exact R.h0 b w e n
  · by_cases z : b = a
    · subst z; exact ⟨_, upd_same⟩
    · rw [upd_ne z]; exact R.h1 b w e
  · rcases getElem?_set_cases e with ⟨rfl, q⟩ | ⟨ne, q⟩
    · have := Sl.put_own hs y
      rw [← q] at this; cases this
    · exact R.str j y' q
  · rcases getElem?_set_cases e with ⟨rfl, q⟩ | ⟨ne, q⟩
    · have e3 := Sl.put_own hs y
      rw [← q, e2] at e3
      cases e3
      exact ⟨a, ha, h2, o, h4⟩
    · obtain ⟨b, q1, q2, q3, q4⟩ := R.own j s' y' q e2
      have nb : b ≠ a := fun z => by
        subst z
        exact ne (R.inj j i b ⟨_, _, q, e2⟩ ⟨_, _, hi, hs⟩ q1 ha)
      exact ⟨b, q1, q2, q3.mono (Ex.refl _) (upd_ne nb), q4⟩
  · rcases getElem?_set_cases e with ⟨rfl, q⟩ | ⟨ne, q⟩
    · cases s with
      | b z => exact R.bor j z hi
      | o z => cases q
      | d z => cases hs
      | u => cases hs
    · exact R.bor j y' q
  · rcases getElem?_set_cases e with ⟨rfl, q⟩ | ⟨ne, q⟩
    · cases s with
      | o z => exact R.opin j z c hi e2
      | b z => cases q
      | d z => cases hs
      | u => cases hs
    · exact R.opin j y' c q e2
  · obtain ⟨s1, x1, p1, q1⟩ := hj
    obtain ⟨s2, x2, p2, q2⟩ := hk
    have back : ∀ {m : Nat} {s3 : Sl} {x3 : PyData}, (ρ.set i (s.put y))[m]? = some s3 → s3.own = some x3 → Owned ρ m := fun {m s3 x3} p q => by
      rcases getElem?_set_cases p with ⟨rfl, _⟩ | ⟨_, w⟩
      · exact ⟨s, x, hi, hs⟩
      · exact ⟨_, _, w, q⟩
    exact R.inj j k b (back p1 q1) (back p2 q2) e1 e2
/-- forgotten slots -/
theorem SR.less {ρ2 : En} (R : SR K Z G H σ ρ) (hl : ρ2.length = ρ.length) (h : ∀ (i : Nat) (s : Sl), ρ2[i]? = some s → s = .u ∨ ρ[i]? = some s) : SR K Z G H σ ρ2 := by
  have own : ∀ i, Owned ρ2 i → Owned ρ i := fun i ⟨s, x, e, q⟩ => by
    rcases h i s e with z | z
    · subst z; cases q
    · exact ⟨s, x, z, q⟩
  refine ⟨hl.trans R.len, R.gh, R.zg, R.g0, R.h0, R.h1, fun i x e => ?_, fun i s x e q => ?_, fun i x e => ?_, fun i x a e => ?_, R.zpin, fun i j a hi hj => R.inj i j a (own i hi) (own j hj)⟩
  · rcases h i _ e with z | z
    · cases z
    · exact R.str i x z
  · rcases h i _ e with z | z
    · subst z; cases q
    · exact R.own i s x z q
  · rcases h i _ e with z | z
    · cases z
    · exact R.bor i x z
  · rcases h i _ e with z | z
    · cases z
    · exact R.opin i x a z
/-- other slots' values, the same data -/
theorem SR.slots {σ2 : L2.St} (R : SR K Z G H σ ρ) (hl : σ2.length = σ.length) (h : ∀ (i : Nat) (s : Sl) (v : Option V), ρ[i]? = some s → s ≠ .u → σ[i]? = some v → σ2[i]? = some v) : SR K Z G H σ2 ρ := by
  have ne : ∀ {s : Sl} {x : PyData}, s.own = some x → s ≠ .u := fun {s x} q z => by subst z; cases q
  refine ⟨R.len.trans hl.symm, R.gh, R.zg, R.g0, R.h0, R.h1, fun i x e => ?_, fun i s x e q => ?_, fun i x e => ?_, fun i x a e e1 => ?_, R.zpin, fun i j a hi hj e1 e2 => ?_⟩
  · obtain ⟨v, h1, h2⟩ := R.str i x e
    exact ⟨v, h i _ _ e (by intro z; cases z) h1, h2⟩
  · obtain ⟨a, h1, h2⟩ := R.own i s x e q
    exact ⟨a, h i _ _ e (ne q) h1, h2⟩
  · obtain ⟨a, h1, h2⟩ := R.bor i x e
    exact ⟨a, h1, h i _ _ e (by intro z; cases z) h2⟩
  · obtain ⟨b, h1, _⟩ := R.own i _ x e rfl
    rw [h i _ _ e (by intro z; cases z) h1] at e1
    cases e1
    exact R.opin i x _ e h1
  · obtain ⟨s1, x1, p1, q1⟩ := hi
    obtain ⟨s2, x2, p2, q2⟩ := hj
    obtain ⟨a1, r1, _⟩ := R.own i _ _ p1 q1
    obtain ⟨a2, r2, _⟩ := R.own j _ _ p2 q2
    rw [h i _ _ p1 (ne q1) r1] at e1
    rw [h j _ _ p2 (ne q2) r2] at e2
    cases e1
    cases e2
    exact R.inj i j _ ⟨_, _, p1, q1⟩ ⟨_, _, p2, q2⟩ r1 r2
/-- the zone as it stands now: what is owned may change -/
def snap (Z : Zn) (G H : Hp) (σ : L2.St) (ρ : En) : Zn := ⟨G, H, Z.pin, fun a => ∃ i, Owned ρ i ∧ σ[i]? = some (some (.ref a))⟩
theorem SR.snap (R : SR K Z G H σ ρ) : SR K (DL.snap Z G H σ ρ) G H σ ρ :=
  ⟨R.len, R.gh, Ex.refl _, fun _ _ _ => rfl, fun _ _ e _ => e, fun _ _ e => ⟨_, e⟩, R.str, fun i s x e q => by
    obtain ⟨a, h1, h2, h3, _⟩ := R.own i s x e q
    exact ⟨a, h1, h2, h3, .inl ⟨i, ⟨s, x, e, q⟩, h1⟩⟩, R.bor, R.opin, fun j a e => by
    obtain ⟨o, h⟩ := R.zpin j a e
    exact R.h1 a o h, R.inj⟩
theorem SR.back (R : SR K Z G H σ ρ) (R' : SR K (DL.snap Z G H σ ρ) G' H' σ' ρ') : SR K Z G' H' σ' ρ' := by
  refine ⟨R'.len, R'.gh, R.zg.trans R'.zg, fun a o e => ?_, fun a o e n => ?_, fun a o e => ?_, R'.str, fun i s x e q => ?_, R'.bor, R'.opin, R.zpin, R'.inj⟩
  · obtain ⟨o', e'⟩ := R.h1 a o e
    exact (R'.g0 a o' e').trans (R.g0 a o e)
  · refine R'.h0 a o (R.h0 a o e n) fun ⟨i, ⟨s, x, p, q⟩, h⟩ => ?_
    obtain ⟨a', h1, _, _, h4⟩ := R.own i s x p q
    rw [h] at h1; cases h1
    rcases h4 with h4 | h4
    · exact n h4
    · rw [e] at h4; cases h4
  · obtain ⟨o', e'⟩ := R.h1 a o e
    exact R'.h1 a o' e'
  · obtain ⟨a, h1, h2, h3, h4⟩ := R'.own i s x e q
    refine ⟨a, h1, h2, h3, ?_⟩
    rcases h4 with ⟨j, ⟨s2, x2, p, r⟩, h⟩ | h4
    · obtain ⟨a', g1, _, _, g4⟩ := R.own j s2 x2 p r
      rw [h] at g1; cases g1
      exact g4
    · refine .inr ?_
      cases w : Z.H a with
      | none => rfl
      | some o =>
        obtain ⟨o', e'⟩ := R.h1 a o w
        have h4' : H a = none := h4
        rw [h4'] at e'; cases e'
/-- a fresh object laid beside: not in the frozen heap -/
theorem SR.beside {p : Addr} {u : HO} (R : SR K Z G H σ ρ) (h : H p = none) : SR K Z G (upd H p u) σ ρ := by
  have hz : Z.H p = none := by
    cases q : Z.H p with
    | none => rfl
    | some u => obtain ⟨u', e⟩ := R.h1 p u q; rw [h] at e; cases e
  have hg : G p = none := R.gh.none h
  refine ⟨R.len, R.gh.side hg, R.zg, R.g0, fun a o e n => ?_, fun a o e => ?_, R.str, fun i s x e q => ?_, R.bor, R.opin, R.zpin, R.inj⟩
  · have ne : a ≠ p := fun z => by rw [z, hz] at e; cases e
    rw [upd_ne ne]; exact R.h0 a o e n
  · have ne : a ≠ p := fun z => by rw [z, hz] at e; cases e
    rw [upd_ne ne]; exact R.h1 a o e
  · obtain ⟨a, h1, h2, h3, h4⟩ := R.own i s x e q
    obtain ⟨w, hw⟩ := h3.some
    have ne : a ≠ p := fun z => by rw [z, h] at hw; cases hw
    exact ⟨a, h1, h2, h3.mono (Ex.refl _) (upd_ne ne), h4⟩
theorem SR.znone (R : SR K Z G H σ ρ) {p : Addr} (h : H p = none) : Z.H p = none := by
  cases q : Z.H p with
  | none => rfl
  | some u => obtain ⟨u', e⟩ := R.h1 p u q; rw [h] at e; cases e
theorem SR.notOwned (R : SR K Z G H σ ρ) {p : Addr} (h : H p = none) : ∀ j, Owned ρ j → σ[j]? ≠ some (some (.ref p)) := fun j ⟨s, x, e, q⟩ z => by
  obtain ⟨a, h1, _, h3, _⟩ := R.own j s x e q
  rw [z] at h1; cases h1
  obtain ⟨w, hw⟩ := h3.some
  rw [h] at hw; cases hw
/-- an object outside of the frozen heap that no slot owns joins the frozen heap -/
theorem SR.frz {a : Addr} {u : HO} (R : SR K Z G H σ ρ) (hg : G a = none) (hz : Z.H a = none) (hn : ∀ j, Owned ρ j → σ[j]? ≠ some (some (.ref a))) (hu : H a = some u) : SR K Z (upd G a u) H σ ρ := by
  refine ⟨R.len, fun b o e => ?_, R.zg.trans (Ex.new hg), fun b o e => ?_, R.h0, R.h1, fun i x e => ?_, fun i s x e q => ?_, R.bor, R.opin, R.zpin, R.inj⟩
  · by_cases z : b = a
    · subst z; rw [upd_same] at e; cases e; exact hu
    · rw [upd_ne z] at e; exact R.gh b o e
  · have ne : b ≠ a := fun z => by rw [z, hz] at e; cases e
    rw [upd_ne ne]; exact R.g0 b o e
  · obtain ⟨v, h1, h2⟩ := R.str i x e
    exact ⟨v, h1, h2.mono (Ex.new hg)⟩
  · obtain ⟨b, h1, h2, h3, h4⟩ := R.own i s x e q
    have ne : b ≠ a := fun z => by subst z; exact hn i ⟨s, x, e, q⟩ h1
    exact ⟨b, h1, by rw [upd_ne ne]; exact h2, h3.mono (Ex.new hg) rfl, h4⟩
end
end DL

set_option maxHeartbeats 1000000
/-! DL2: expressions that come to data. -/
namespace DL
open PySem PySem.Spec PyProof.Rows L2

abbrev Ev := En → Option (PyData × En)
abbrev Es := En → Option (List PyData × En)
abbrev Eq := En → Option (Bool × En)
/-- comes to data of the frozen heap -/
def tS (K : PySem.W.Frag) (φ : Ev) : TE := fun σ H Q => ∃ Z G ρ d ρ', SR K Z G H σ ρ ∧ φ ρ = some (d, ρ') ∧ ∀ v G' H', Ex G G' → SR K Z G' H' σ ρ' → Dr K G' v d → Q v H'
/-- comes to a new list or dict that nobody knows yet -/
def tF (K : PySem.W.Frag) (φ : Ev) : TE := fun σ H Q => ∃ Z G ρ d ρ', SR K Z G H σ ρ ∧ φ ρ = some (d, ρ') ∧
  ∀ a G' H', Ex G G' → SR K Z G' H' σ ρ' → G' a = none → Z.H a = none → (∀ j, Owned ρ' j → σ[j]? ≠ some (some (.ref a))) → OwnAt K G' H' a d → Q (.ref a) H'
def tQ (K : PySem.W.Frag) (φ : Eq) : TT := fun σ H Q => ∃ Z G ρ b ρ', SR K Z G H σ ρ ∧ φ ρ = some (b, ρ') ∧ ∀ G' H', Ex G G' → SR K Z G' H' σ ρ' → Q b H'
def tAs (K : PySem.W.Frag) (φ : Es) : TA := fun σ H Q => ∃ Z G ρ ds ρ', SR K Z G H σ ρ ∧ φ ρ = some (ds, ρ') ∧ ∀ vs G' H', Ex G G' → SR K Z G' H' σ ρ' → DrAll K G' vs ds → Q vs H'
/-- a part of a slice -/
def tPt (K : PySem.W.Frag) (φ : En → Option (Option Int × En)) : TO := fun σ H Q => ∃ Z G ρ o ρ', SR K Z G H σ ρ ∧ φ ρ = some (o, ρ') ∧ ∀ G' H', Ex G G' → SR K Z G' H' σ ρ' → Q o H'

section
variable {X : Cx} {e ea eb : Expr} {es : List Expr} {t t' : TE} {K : PySem.W.Frag}
theorem _root_.L2.PE.conv (h : PE X e t) (c : ∀ σ H Q, t' σ H Q → t σ H Q) : PE X e t' := ⟨fun pins s σ H Q I q => h.run pins s σ H Q I (c σ H Q q)⟩
theorem _root_.L2.PT.conv {t t' : TT} (h : PT X e t) (c : ∀ σ H Q, t' σ H Q → t σ H Q) : PT X e t' := ⟨fun pins s σ H Q I q => h.run pins s σ H Q I (c σ H Q q)⟩
theorem _root_.L2.PW.conv {t t' : TT} (h : PW X e t) (c : ∀ σ H Q, t' σ H Q → t σ H Q) : PW X e t' := ⟨fun w pins s σ H Q I q => h.run w pins s σ H Q I (c σ H Q q)⟩
theorem _root_.L2.PA.conv {t t' : TA} (h : PA X es t) (c : ∀ σ H Q, t' σ H Q → t σ H Q) : PA X es t' := ⟨fun pos pins s σ H Q I q => h.run pos pins s σ H Q I (c σ H Q q)⟩
theorem _root_.L2.PO.conv {o : Option Expr} {t t' : TO} (h : PO X o t) (c : ∀ σ H Q, t' σ H Q → t σ H Q) : PO X o t' := ⟨fun pins s σ H Q I q => h.run pins s σ H Q I (c σ H Q q)⟩
theorem _root_.L2.PE.alt (h : PE X e t) (h' : PE X e t') : PE X e (fun σ H Q => t σ H Q ∨ t' σ H Q) := ⟨fun pins s σ H Q I q => q.elim (h.run pins s σ H Q I) (h'.run pins s σ H Q I)⟩

/-! ### names, constants -/
def eV (i : Nat) : Ev := fun ρ => match ρ[i]? with
  | some (.d x) => some (x, ρ)
  | _ => none
def eC (d : PyData) : Ev := fun ρ => some (d, ρ)
theorem r_var {i : Nat} (h : PE X e (tVar i)) : PE X e (tS K (eV i)) := h.conv fun σ H Q ⟨Z, G, ρ, d, ρ', R, q, k⟩ => by
  unfold eV at q
  split at q
  · rename_i x e
    cases q
    obtain ⟨v, h1, h2⟩ := R.str i _ e
    exact ⟨v, h1, k v G H (Ex.refl _) R h2⟩
  · cases q
inductive Lit : V → PyData → Prop
  | non : Lit .non .none
  | bl (b : Bool) : Lit (.bl b) (.bool b)
  | int (i : Int) : Lit (.int i) (.int i)
  | str (x : Str) : Lit (.str x) (.str x)
theorem Lit.dr {v : V} {d : PyData} {G : Hp} (l : Lit v d) : Dr K G v d := by
  cases l with
  | non => exact .non
  | bl b => exact .bl b
  | int i => exact .int i
  | str x => exact .str x
theorem r_c {v : V} {d : PyData} (h : PE X e (tC v)) (l : Lit v d) : PE X e (tS K (eC d)) := h.conv fun σ H Q ⟨Z, G, ρ, d', ρ', R, q, k⟩ => by
  cases q
  exact k v G H (Ex.refl _) R l.dr
theorem r_int {i : Int} (h : PE X e (tC (.int i))) : PE X e (tS K (eC (.int i))) := r_c h (.int i)
theorem r_bl {b : Bool} (h : PE X e (tC (.bl b))) : PE X e (tS K (eC (.bool b))) := r_c h (.bl b)
theorem r_non (h : PE X e (tC .non)) : PE X e (tS K (eC .none)) := r_c h .non
theorem r_str {x : Str} (h : PE X e (tC (.str x))) : PE X e (tS K (eC (.str x))) := r_c h (.str x)

/-! ### fresh things -/
/-- a fresh thing is data, too -/
theorem r_fz {φ : Ev} (h : PE X e (tF K φ)) : PE X e (tS K φ) := h.conv fun σ H Q ⟨Z, G, ρ, d, ρ', R, q, k⟩ => ⟨Z, G, ρ, d, ρ', R, q, fun a G' H' ex R' ha hz hn o => by
  obtain ⟨u, hu⟩ := o.some
  exact k (.ref a) (upd G' a u) H' (ex.trans (Ex.new ha)) (R'.frz ha hz hn hu) (o.frz ha hu)⟩

/-! ### operations -/
def e1 (f : PyData → Option PyData) (a : Ev) : Ev := fun ρ => match a ρ with
  | some (x, ρ1) => (match f x with
    | some d => some (d, ρ1)
    | none => none)
  | none => none
def e2 (f : PyData → PyData → Option PyData) (a b : Ev) : Ev := fun ρ => match a ρ with
  | some (x, ρ1) => (match b ρ1 with
    | some (y, ρ2) => (match f x y with
      | some d => some (d, ρ2)
      | none => none)
    | none => none)
  | none => none
def eN (f : List PyData → Option PyData) (a : Es) : Ev := fun ρ => match a ρ with
  | some (xs, ρ1) => (match f xs with
    | some d => some (d, ρ1)
    | none => none)
  | none => none
/-- what an operation on values does, said by data -/
def Prim2 (K : PySem.W.Frag) (f : PyData → PyData → Option PyData) (r : R2) : Prop := ∀ G H v u x y d, Ex G H → Dr K G v x → Dr K G u y → f x y = some d →
  ∀ Q : VK, (∀ w G' H', Al G H G' H' → Dr K G' w d → Q w H') → r v u H Q
def Prim1 (K : PySem.W.Frag) (f : PyData → Option PyData) (r : V → Hp → VK → Prop) : Prop := ∀ G H v x d, Ex G H → Dr K G v x → f x = some d →
  ∀ Q : VK, (∀ w G' H', Al G H G' H' → Dr K G' w d → Q w H') → r v H Q
def PrimN (K : PySem.W.Frag) (f : List PyData → Option PyData) (r : List V → Hp → VK → Prop) : Prop := ∀ G H vs xs d, Ex G H → DrAll K G vs xs → f xs = some d →
  ∀ Q : VK, (∀ w G' H', Al G H G' H' → Dr K G' w d → Q w H') → r vs H Q
/-- .. a new list -/
def Fr1 (K : PySem.W.Frag) (G H : Hp) (d : PyData) (Q : VK) : Prop := ∀ p u, H p = none → OwnAt K G (upd H p u) p d → Q (.ref p) (upd H p u)
def PrimNF (K : PySem.W.Frag) (f : List PyData → Option PyData) (r : List V → Hp → VK → Prop) : Prop := ∀ G H vs xs d, Ex G H → DrAll K G vs xs → f xs = some d →
  ∀ Q : VK, Fr1 K G H d Q → r vs H Q
def Prim2F (K : PySem.W.Frag) (f : PyData → PyData → Option PyData) (r : R2) : Prop := ∀ G H v u x y d, Ex G H → Dr K G v x → Dr K G u y → f x y = some d →
  ∀ Q : VK, Fr1 K G H d Q → r v u H Q
theorem fr1_of {Z : Zn} {G H : Hp} {σ : L2.St} {ρ' : En} {d : PyData} {Q : VK} (R : SR K Z G H σ ρ')
    (k : ∀ a G' H', Ex G G' → SR K Z G' H' σ ρ' → G' a = none → Z.H a = none → (∀ j, Owned ρ' j → σ[j]? ≠ some (some (.ref a))) → OwnAt K G' H' a d → Q (.ref a) H') : Fr1 K G H d Q := fun p u hp o =>
  k p G (upd H p u) (Ex.refl _) (R.beside hp) (R.gh.none hp) (R.znone hp) (R.notOwned hp) o

variable {a b : Ev} {f2 : PyData → PyData → Option PyData} {f1 : PyData → Option PyData} {fn : List PyData → Option PyData}
theorem t_op2 {r : R2} (hf : Prim2 K f2 r) {σ : L2.St} {H : Hp} {Q : VK} (h : tS K (e2 f2 a b) σ H Q) : tOp r (tS K a) (tS K b) σ H Q := by
  obtain ⟨Z, G, ρ, d, ρ', R, q, k⟩ := h
  unfold e2 at q
  split at q
  · rename_i x ρ1 qa
    split at q
    · rename_i y ρ2 qb
      split at q
      · rename_i d' qf
        cases q
        refine ⟨Z, G, ρ, x, ρ1, R, qa, fun v G1 H1 ex1 R1 d1 => ?_⟩
        refine ⟨Z, G1, ρ1, y, _, R1, qb, fun u G2 H2 ex2 R2 d2 => ?_⟩
        refine hf G2 H2 v u x y d R2.gh (d1.mono ex2) d2 qf Q fun w G3 H3 al dw => ?_
        exact k w G3 H3 ((ex1.trans ex2).trans (al.ex R2.gh).1) (R2.al al) dw
      · cases q
    · cases q
  · cases q
theorem r_bin {op : Operator} {r : R2} {pos : Pos} (ho : OpR X (binaryOp op) r) (hf : Prim2 K f2 r) (h1 : PE X ea (tS K a)) (h2 : PE X eb (tS K b)) : PE X (.BinOp ea op eb pos) (tS K (e2 f2 a b)) :=
  (pe_op ho h1 h2).conv fun _ _ _ h => t_op2 hf h
theorem r_cmp {op : CmpOp} {r : R2} {pos : Pos} (ho : OpR X (compareOp op) r) (hf : Prim2 K f2 r) (h1 : PE X ea (tS K a)) (h2 : PE X eb (tS K b)) (hm : behindInMarks op eb = false) : PE X (.Compare ea [op] [eb] pos) (tS K (e2 f2 a b)) :=
  (pe_cmpR ho h1 h2 hm).conv fun _ _ _ h => t_op2 hf h
theorem r_binF {op : Operator} {r : R2} {pos : Pos} (ho : OpR X (binaryOp op) r) (hf : Prim2F K f2 r) (h1 : PE X ea (tS K a)) (h2 : PE X eb (tS K b)) : PE X (.BinOp ea op eb pos) (tF K (e2 f2 a b)) :=
  (pe_op ho h1 h2).conv fun σ H Q h => by
    obtain ⟨Z, G, ρ, d, ρ', R, q, k⟩ := h
    unfold e2 at q
    split at q
    · rename_i x ρ1 qa
      split at q
      · rename_i y ρ2 qb
        split at q
        · rename_i d' qf
          cases q
          refine ⟨Z, G, ρ, x, ρ1, R, qa, fun v G1 H1 ex1 R1 d1 => ?_⟩
          refine ⟨Z, G1, ρ1, y, _, R1, qb, fun u G2 H2 ex2 R2 d2 => ?_⟩
          exact hf G2 H2 v u x y d R2.gh (d1.mono ex2) d2 qf Q (fr1_of R2 fun a G' H' ex => k a G' H' ((ex1.trans ex2).trans ex))
        · cases q
      · cases q
    · cases q
theorem r_un {op : UnaryOp} {r : V → Hp → VK → Prop} {pos : Pos} (ho : UnR X (unaryOp op) r) (hf : Prim1 K f1 r) (h1 : PE X ea (tS K a)) : PE X (.UnaryOp op ea pos) (tS K (e1 f1 a)) :=
  (pe_un ho h1).conv fun σ H Q h => by
    obtain ⟨Z, G, ρ, d, ρ', R, q, k⟩ := h
    unfold e1 at q
    split at q
    · rename_i x ρ1 qa
      split at q
      · rename_i d' qf
        cases q
        refine ⟨Z, G, ρ, x, _, R, qa, fun v G1 H1 ex1 R1 d1 => ?_⟩
        exact hf G1 H1 v x d R1.gh d1 qf Q fun w G3 H3 al dw => k w G3 H3 (ex1.trans (al.ex R1.gh).1) (R1.al al) dw
      · cases q
    · cases q

/-! ### argument lists, displays -/
def aN : Es := fun ρ => some ([], ρ)
def aC (a : Ev) (r : Es) : Es := fun ρ => match a ρ with
  | some (x, ρ1) => (match r ρ1 with
    | some (xs, ρ2) => some (x :: xs, ρ2)
    | none => none)
  | none => none
def seqOf : PyData → Option (List PyData)
  | .list xs => some xs
  | .tuple xs => some xs
  | _ => none
/-- .. a starred one -/
def aX (a : Ev) (r : Es) : Es := fun ρ => match a ρ with
  | some (x, ρ1) => (match seqOf x with
    | some ys => (match r ρ1 with
      | some (xs, ρ2) => some (ys ++ xs, ρ2)
      | none => none)
    | none => none)
  | none => none
theorem ra_nil : PA X [] (tAs K aN) := pa_nil.conv fun σ H Q ⟨Z, G, ρ, d, ρ', R, q, k⟩ => by
  cases q
  exact k [] G H (Ex.refl _) R .nil
theorem ra_cons {r : Es} (h : PE X e (tS K a)) (hr : PA X es (tAs K r)) (hs : starEach (e :: es) X.env = (false, eval e X.env) :: starEach es X.env := by rfl) : PA X (e :: es) (tAs K (aC a r)) :=
  (pa_cons h hr hs).conv fun σ H Q ⟨Z, G, ρ, d, ρ', R, q, k⟩ => by
    unfold aC at q
    split at q
    · rename_i x ρ1 qa
      split at q
      · rename_i xs ρ2 qb
        cases q
        refine ⟨Z, G, ρ, x, ρ1, R, qa, fun v G1 H1 ex1 R1 d1 => ?_⟩
        exact ⟨Z, G1, ρ1, xs, _, R1, qb, fun vs G2 H2 ex2 R2 d2 => k (v :: vs) G2 H2 (ex1.trans ex2) R2 (.cons (d1.mono ex2) d2)⟩
      · cases q
    · cases q
theorem seqOf_at {G H : Hp} {v : V} {x : PyData} {ys : List PyData} (hx : Dr K G v x) (h : seqOf x = some ys) (ex : Ex G H) : ∃ p xs, v = .ref p ∧ (SqT K H p xs ∨ SqL K H p xs) ∧ DrAll K G xs ys ∧ xs.length ≤ sizeLine := by
  cases hx with
  | lst h1 z t => cases h; exact ⟨_, _, rfl, .inr (.inl (.inl (ex _ _ h1))), t, z⟩
  | tup h1 z t => cases h; exact ⟨_, _, rfl, .inl (ex.sqT h1), t, z⟩
  | non => cases h
  | bl b => cases h
  | int i => cases h
  | str x => cases h
  | dk _ _ _ => cases h
theorem ra_star {r : Es} {p : Pos} (h : PE X e (tS X.K a)) (hr : PA X es (tAs X.K r)) (hs : starEach (.Starred e p :: es) X.env = (true, eval e X.env) :: starEach es X.env := by rfl) : PA X (.Starred e p :: es) (tAs X.K (aX a r)) :=
  (StX.pa_star h hr hs).conv fun σ H Q ⟨Z, G, ρ, d, ρ', R, q, k⟩ => by
    unfold aX at q
    split at q
    · rename_i x ρ1 qa
      split at q
      · rename_i ys qs
        split at q
        · rename_i xs ρ2 qb
          cases q
          refine ⟨Z, G, ρ, x, ρ1, R, qa, fun v G1 H1 ex1 R1 d1 => ?_⟩
          obtain ⟨p, vs, rfl, sq, t, _⟩ := seqOf_at d1 qs R1.gh
          exact ⟨p, vs, rfl, sq, Z, G1, ρ1, xs, _, R1, qb, fun ws G2 H2 ex2 R2 d2 => k (vs ++ ws) G2 H2 (ex1.trans ex2) R2 ((t.mono ex2).append d2)⟩
        · cases q
      · cases q
    · cases q
def lenOk (xs : List PyData) : Bool := decide (xs.length ≤ sizeLine)
def mkT (xs : List PyData) : Option PyData := if xs.length ≤ sizeLine then some (.tuple xs) else none
def mkL (xs : List PyData) : Option PyData := if xs.length ≤ sizeLine then some (.list xs) else none
theorem r_tup {as : Es} {x1 : Nat} {pos : Pos} (h : PA X es (tAs K as)) : PE X (.Tuple es x1 pos) (tS K (eN mkT as)) := (pe_tup h).conv fun σ H Q ⟨Z, G, ρ, d, ρ', R, q, k⟩ => by
  unfold eN at q
  split at q
  · rename_i xs ρ1 qa
    split at q
    · rename_i d' qf
      cases q
      unfold mkT at qf
      split at qf
      · rename_i hz
        cases qf
        refine ⟨Z, G, ρ, xs, _, R, qa, fun vs G1 H1 ex1 R1 d1 => ⟨by rw [d1.len]; exact hz, fun p hp => ?_⟩⟩
        have al : Al G1 H1 (upd G1 p (.tup vs)) (upd H1 p (.tup vs)) := .one hp
        exact k (.ref p) _ _ (ex1.trans (al.ex R1.gh).1) (R1.al al) (.tup (.inl (.inl upd_same)) (by rw [d1.len]; exact hz) (d1.mono (al.ex R1.gh).1))
      · cases qf
    · cases q
  · cases q
theorem r_lst {as : Es} {pos : Pos} (h : PA X es (tAs K as)) : PE X (.List es pos) (tF K (eN mkL as)) := (pe_lst h).conv fun σ H Q ⟨Z, G, ρ, d, ρ', R, q, k⟩ => by
  unfold eN at q
  split at q
  · rename_i xs ρ1 qa
    split at q
    · rename_i d' qf
      cases q
      unfold mkL at qf
      split at qf
      · rename_i hz
        cases qf
        refine ⟨Z, G, ρ, xs, _, R, qa, fun vs G1 H1 ex1 R1 d1 => ⟨by rw [d1.len]; exact hz, fun p hp => ?_⟩⟩
        exact fr1_of R1 (fun a G' H' ex => k a G' H' (ex1.trans ex)) p _ hp ⟨vs, upd_same, by rw [d1.len]; exact hz, d1⟩
      · cases qf
    · cases q
  · cases q

/-! ### calls of what is built in -/
theorem t_callB {r : List V → Hp → VK → Prop} {as : Es} (hf : PrimN K fn r) {σ : L2.St} {H : Hp} {Q : VK} (h : tS K (eN fn as) σ H Q) : tCB r (tAs K as) σ H Q := by
  obtain ⟨Z, G, ρ, d, ρ', R, q, k⟩ := h
  unfold eN at q
  split at q
  · rename_i xs ρ1 qa
    split at q
    · rename_i d' qf
      cases q
      refine ⟨Z, G, ρ, xs, _, R, qa, fun vs G1 H1 ex1 R1 d1 => ?_⟩
      exact hf G1 H1 vs xs d R1.gh d1 qf Q fun w G3 H3 al dw => k w G3 H3 (ex1.trans (al.ex R1.gh).1) (R1.al al) dw
    · cases q
  · cases q
theorem t_callBF {r : List V → Hp → VK → Prop} {as : Es} (hf : PrimNF K fn r) {σ : L2.St} {H : Hp} {Q : VK} (h : tF K (eN fn as) σ H Q) : tCB r (tAs K as) σ H Q := by
  obtain ⟨Z, G, ρ, d, ρ', R, q, k⟩ := h
  unfold eN at q
  split at q
  · rename_i xs ρ1 qa
    split at q
    · rename_i d' qf
      cases q
      refine ⟨Z, G, ρ, xs, _, R, qa, fun vs G1 H1 ex1 R1 d1 => ?_⟩
      exact hf G1 H1 vs xs d R1.gh d1 qf Q (fr1_of R1 fun a G' H' ex => k a G' H' (ex1.trans ex))
    · cases q
  · cases q
/-- an expression that is read so (a call of a built-in, made by pe_callB, pe_callTy) -/
theorem r_cb {r : List V → Hp → VK → Prop} {as : Es} (h : PE X e (tCB r (tAs K as))) (hf : PrimN K fn r) : PE X e (tS K (eN fn as)) := h.conv fun _ _ _ q => t_callB hf q
theorem r_cbF {r : List V → Hp → VK → Prop} {as : Es} (h : PE X e (tCB r (tAs K as))) (hf : PrimNF K fn r) : PE X e (tF K (eN fn as)) := h.conv fun _ _ _ q => t_callBF hf q

/-! ### subscripts, slices -/
theorem r_ix {r : R2} {pos : Pos} (hr : IxR X r) (hf : Prim2 K f2 r) (h1 : PE X ea (tS K a)) (h2 : PE X eb (tS K b)) (hs : PlainIx eb := by intro _ _; rfl) : PE X (.Subscript ea eb pos) (tS K (e2 f2 a b)) :=
  (pe_ix hr h1 h2 hs).conv fun _ _ _ h => t_op2 hf h
def oN : En → Option (Option Int × En) := fun ρ => some (none, ρ)
def oS (a : Ev) : En → Option (Option Int × En) := fun ρ => match a ρ with
  | some (.int i, ρ1) => some (some i, ρ1)
  | _ => none
theorem ro_none : PO X none (tPt K oN) := po_none.conv fun σ H Q ⟨Z, G, ρ, d, ρ', R, q, k⟩ => by
  cases q
  exact k G H (Ex.refl _) R
theorem ro_some (h : PE X e (tS K a)) : PO X (some e) (tPt K (oS a)) := (po_some h).conv fun σ H Q ⟨Z, G, ρ, d, ρ', R, q, k⟩ => by
  unfold oS at q
  split at q
  · rename_i i ρ1 qa
    cases q
    exact ⟨Z, G, ρ, .int i, _, R, qa, fun v G1 H1 ex1 R1 d1 => by cases d1; exact ⟨i, rfl, k G1 H1 ex1 R1⟩⟩
  · cases q
/-- xs[lo:hi] of a list is new; of a tuple it is data -/
def eSl (f : PyData → Option Int → Option Int → Option PyData) (a : Ev) (lo hi : En → Option (Option Int × En)) : Ev := fun ρ => match a ρ with
  | some (x, ρ1) => (match lo ρ1 with
    | some (l, ρ2) => (match hi ρ2 with
      | some (h, ρ3) => (match f x l h with
        | some d => some (d, ρ3)
        | none => none)
      | none => none)
    | none => none)
  | none => none
def cutD (xs : List PyData) (lo hi : Option Int) : List PyData := (xs.drop (HT.sIx xs.length 0 lo)).take (HT.sIx xs.length xs.length hi - HT.sIx xs.length 0 lo)
theorem DrAll.cut {G : Hp} {vs : List V} {ds : List PyData} (h : DrAll K G vs ds) (lo hi : Option Int) : DrAll K G (cutV vs lo hi) (cutD ds lo hi) := by
  unfold cutV cutD
  rw [h.len]
  exact (h.drop _).take _
def slD : PyData → Option Int → Option Int → Option PyData
  | .list xs, lo, hi => some (.list (cutD xs lo hi))
  | .tuple xs, lo, hi => some (.tuple (cutD xs lo hi))
  | _, _, _ => none
def slL : PyData → Option Int → Option Int → Option PyData
  | .list xs, lo, hi => some (.list (cutD xs lo hi))
  | _, _, _ => none
def rSlX (K : PySem.W.Frag) : V → Option Int → Option Int → Hp → VK → Prop := fun x lo hi H Q => rSlL K x lo hi H Q ∨ rSlA K x lo hi H Q
theorem sl_any : SlR X (rSlX X.K) := sl_list.or sl_tupA
end
end DL

set_option maxHeartbeats 1000000
/-! DL3: tests, operations on data. -/
namespace DL
open PySem PySem.Spec PyProof.Rows L2

section
variable {X : Cx} {e ea eb ec : Expr} {es : List Expr} {K : PySem.W.Frag} {a b : Ev} {f2 : PyData → PyData → Option PyData} {f1 : PyData → Option PyData} {fn : List PyData → Option PyData}
/-! ### tests -/
def qB (a : Ev) : Eq := fun ρ => match a ρ with
  | some (.bool b, ρ1) => some (b, ρ1)
  | _ => none
theorem tS_bool {σ : L2.St} {H : Hp} {Q : Bool → Hp → Prop} (h : tQ K (qB a) σ H Q) : tS K a σ H (fun x H' => ∃ k, x = .bl k ∧ Q k H') := by
  obtain ⟨Z, G, ρ, d, ρ', R, q, k⟩ := h
  unfold qB at q
  split at q
  · rename_i qa
    cases q
    exact ⟨Z, G, ρ, _, _, R, qa, fun v G' H' ex R' d' => by cases d'; exact ⟨_, rfl, k G' H' ex R'⟩⟩
  · cases q
theorem r_tcmp {op : CmpOp} {r : R2} {pos : Pos} (ho : OpR X (compareOp op) r) (hf : Prim2 K f2 r) (h1 : PE X ea (tS K a)) (h2 : PE X eb (tS K b)) (hm : behindInMarks op eb = false) : PT X (.Compare ea [op] [eb] pos) (tQ K (qB (e2 f2 a b))) :=
  (pt_cmpR ho h1 h2 hm).conv fun _ _ _ h => t_op2 hf (tS_bool h)
theorem r_tval (h : PE X e (tS K a)) (he : ∀ whole, isTrue e X.env whole = (do let v ← whole; standAt e.pos; holding [v] (truthy v)) := by intro _; rfl) : PT X e (tQ K (qB a)) := (pt_val h he).conv fun _ _ _ h => tS_bool h
def qAnd (a b : Eq) : Eq := fun ρ => match a ρ with
  | some (true, ρ1) => b ρ1
  | some (false, ρ1) => some (false, ρ1)
  | none => none
def qOr (a b : Eq) : Eq := fun ρ => match a ρ with
  | some (true, ρ1) => some (true, ρ1)
  | some (false, ρ1) => b ρ1
  | none => none
def qNot (a : Eq) : Eq := fun ρ => match a ρ with
  | some (b, ρ1) => some (!b, ρ1)
  | none => none
section
variable {qa qb : Eq} {rest : List Expr} {pos : Pos}
theorem t_and {σ : L2.St} {H : Hp} {Q : Bool → Hp → Prop} (h : tQ K (qAnd qa qb) σ H Q) : tAnd (tQ K qa) (tQ K qb) σ H Q := by
  obtain ⟨Z, G, ρ, d, ρ', R, q, k⟩ := h
  unfold qAnd at q
  split at q
  · rename_i ρ1 q1
    refine ⟨Z, G, ρ, true, ρ1, R, q1, fun G' H' ex R' => ?_⟩
    refine iteT ?_
    exact ⟨Z, G', ρ1, d, ρ', R', q, fun G2 H2 ex2 R2 => k G2 H2 (ex.trans ex2) R2⟩
  · rename_i ρ1 q1
    cases q
    refine ⟨Z, G, ρ, false, _, R, q1, fun G' H' ex R' => ?_⟩
    refine iteF ?_
    exact k G' H' ex R'
  · cases q
theorem t_or {σ : L2.St} {H : Hp} {Q : Bool → Hp → Prop} (h : tQ K (qOr qa qb) σ H Q) : tOr (tQ K qa) (tQ K qb) σ H Q := by
  obtain ⟨Z, G, ρ, d, ρ', R, q, k⟩ := h
  unfold qOr at q
  split at q
  · rename_i ρ1 q1
    cases q
    refine ⟨Z, G, ρ, true, _, R, q1, fun G' H' ex R' => ?_⟩
    refine iteT ?_
    exact k G' H' ex R'
  · rename_i ρ1 q1
    refine ⟨Z, G, ρ, false, ρ1, R, q1, fun G' H' ex R' => ?_⟩
    refine iteF ?_
    exact ⟨Z, G', ρ1, d, ρ', R', q, fun G2 H2 ex2 R2 => k G2 H2 (ex.trans ex2) R2⟩
  · cases q
theorem rw_and1 (h : PT X ea (tQ K qa)) : PW X (.BoolOp .And [ea] pos) (tQ K qa) := pw_and1 h
theorem rw_or1 (h : PT X ea (tQ K qa)) : PW X (.BoolOp .Or [ea] pos) (tQ K qa) := pw_or1 h
theorem rw_and (ha : PT X ea (tQ K qa)) (hb : PW X (.BoolOp .And (eb :: rest) pos) (tQ K qb)) : PW X (.BoolOp .And (ea :: eb :: rest) pos) (tQ K (qAnd qa qb)) := (pw_and ha hb).conv fun _ _ _ h => t_and h
theorem rw_or (ha : PT X ea (tQ K qa)) (hb : PW X (.BoolOp .Or (eb :: rest) pos) (tQ K qb)) : PW X (.BoolOp .Or (ea :: eb :: rest) pos) (tQ K (qOr qa qb)) := (pw_or ha hb).conv fun _ _ _ h => t_or h
theorem r_tnot (h : PT X ea (tQ K qa)) : PT X (.UnaryOp .Not ea pos) (tQ K (qNot qa)) := (pt_not h).conv fun σ H Q ⟨Z, G, ρ, d, ρ', R, q, k⟩ => by
  unfold qNot at q
  split at q
  · rename_i b ρ1 q1
    cases q
    exact ⟨Z, G, ρ, b, _, R, q1, k⟩
  · cases q
/-- a if t else b -/
def eIf (c : Eq) (a b : Ev) : Ev := fun ρ => match c ρ with
  | some (true, ρ1) => a ρ1
  | some (false, ρ1) => b ρ1
  | none => none
theorem r_if (hc : PT X ec (tQ K qa)) (h1 : PE X ea (tS K a)) (h2 : PE X eb (tS K b)) : PE X (.IfExp ec ea eb pos) (tS K (eIf qa a b)) := (pe_ifExp hc h1 h2).conv fun σ H Q ⟨Z, G, ρ, d, ρ', R, q, k⟩ => by
  unfold eIf at q
  split at q
  · rename_i ρ1 q1
    refine ⟨Z, G, ρ, true, ρ1, R, q1, fun G' H' ex R' => ?_⟩
    refine iteT ?_
    exact ⟨Z, G', ρ1, d, ρ', R', q, fun v G2 H2 ex2 R2 => k v G2 H2 (ex.trans ex2) R2⟩
  · rename_i ρ1 q1
    refine ⟨Z, G, ρ, false, ρ1, R, q1, fun G' H' ex R' => ?_⟩
    refine iteF ?_
    exact ⟨Z, G', ρ1, d, ρ', R', q, fun v G2 H2 ex2 R2 => k v G2 H2 (ex.trans ex2) R2⟩
  · cases q
/-- and, or of truths, as values (the last one of any kind) -/
def eAnd (a b : Ev) : Ev := fun ρ => match a ρ with
  | some (.bool true, ρ1) => b ρ1
  | some (.bool false, ρ1) => some (.bool false, ρ1)
  | _ => none
def eOr (a b : Ev) : Ev := fun ρ => match a ρ with
  | some (.bool true, ρ1) => some (.bool true, ρ1)
  | some (.bool false, ρ1) => b ρ1
  | _ => none
def notD : PyData → Option PyData
  | .bool b => some (.bool (!b))
  | _ => none
theorem r_one {op} {t : TE} (h : PE X ea t) : PE X (.BoolOp op [ea] pos) t := pe_one h
theorem r_and (ha : PE X ea (tS K a)) (hb : PE X (.BoolOp .And (eb :: rest) pos) (tS K b)) : PE X (.BoolOp .And (ea :: eb :: rest) pos) (tS K (eAnd a b)) := (pe_and ha hb).conv fun σ H Q ⟨Z, G, ρ, d, ρ', R, q, k⟩ => by
  unfold eAnd at q
  split at q
  · rename_i ρ1 q1
    refine ⟨Z, G, ρ, _, ρ1, R, q1, fun v G' H' ex R' dv => ?_⟩
    cases dv
    refine ⟨true, rfl, ?_⟩
    refine iteT ?_
    exact ⟨Z, G', ρ1, d, ρ', R', q, fun v G2 H2 ex2 R2 => k v G2 H2 (ex.trans ex2) R2⟩
  · rename_i ρ1 q1
    cases q
    refine ⟨Z, G, ρ, _, _, R, q1, fun v G' H' ex R' dv => ?_⟩
    cases dv
    refine ⟨false, rfl, ?_⟩
    refine iteF ?_
    exact k _ G' H' ex R' (.bl false)
  · cases q
theorem r_or (ha : PE X ea (tS K a)) (hb : PE X (.BoolOp .Or (eb :: rest) pos) (tS K b)) : PE X (.BoolOp .Or (ea :: eb :: rest) pos) (tS K (eOr a b)) := (pe_or ha hb).conv fun σ H Q ⟨Z, G, ρ, d, ρ', R, q, k⟩ => by
  unfold eOr at q
  split at q
  · rename_i ρ1 q1
    cases q
    refine ⟨Z, G, ρ, _, _, R, q1, fun v G' H' ex R' dv => ?_⟩
    cases dv
    refine ⟨true, rfl, ?_⟩
    refine iteT ?_
    exact k _ G' H' ex R' (.bl true)
  · rename_i ρ1 q1
    refine ⟨Z, G, ρ, _, ρ1, R, q1, fun v G' H' ex R' dv => ?_⟩
    cases dv
    refine ⟨false, rfl, ?_⟩
    refine iteF ?_
    exact ⟨Z, G', ρ1, d, ρ', R', q, fun v G2 H2 ex2 R2 => k v G2 H2 (ex.trans ex2) R2⟩
  · cases q
theorem r_not (h : PE X ea (tS K a)) : PE X (.UnaryOp .Not ea pos) (tS K (e1 notD a)) := (pe_not h).conv fun σ H Q ⟨Z, G, ρ, d, ρ', R, q, k⟩ => by
  unfold e1 at q
  split at q
  · rename_i x ρ1 qa
    split at q
    · rename_i d' qf
      cases q
      refine ⟨Z, G, ρ, x, _, R, qa, fun v G1 H1 ex1 R1 d1 => ?_⟩
      unfold notD at qf
      split at qf
      · rename_i bb
        cases qf
        cases d1
        exact ⟨bb, rfl, k _ G1 H1 ex1 R1 (.bl _)⟩
      · cases qf
    · cases q
  · cases q
end
/-! ### slices -/
theorem fin_al {Z : Zn} {G0 G H : Hp} {σ : L2.St} {ρ : En} {d : PyData} {Q : VK} {p : Addr} {o : HO} (R : SR K Z G H σ ρ) (ex : Ex G0 G) (k : ∀ v G' H', Ex G0 G' → SR K Z G' H' σ ρ → Dr K G' v d → Q v H')
    (hp : H p = none) (dr : Ex G (upd G p o) → Dr K (upd G p o) (.ref p) d) : Q (.ref p) (upd H p o) :=
  k (.ref p) _ _ (ex.trans (Ex.new (R.gh.none hp))) (R.al (.one hp)) (dr (Ex.new (R.gh.none hp)))
section
variable {lo hi : Option Expr} {l h : En → Option (Option Int × En)} {pos p2 : Pos}
theorem r_sl (he : PE X ea (tS X.K a)) (hl : PO X lo (tPt X.K l)) (hh : PO X hi (tPt X.K h)) : PE X (.Subscript ea (.Slice lo hi none p2) pos) (tS X.K (eSl slD a l h)) :=
  (pe_slice sl_any he hl hh).conv fun σ H Q ⟨Z, G, ρ, d, ρ', R, q, k⟩ => by
    unfold eSl at q
    split at q
    · rename_i x ρ1 qa
      split at q
      · rename_i ol ρ2 ql
        split at q
        · rename_i oh ρ3 qh
          split at q
          · rename_i d' qf
            cases q
            refine ⟨Z, G, ρ, x, ρ1, R, qa, fun v G1 H1 ex1 R1 d1 => ?_⟩
            refine ⟨Z, G1, ρ1, ol, ρ2, R1, ql, fun G2 H2 ex2 R2 => ?_⟩
            refine ⟨Z, G2, ρ2, oh, _, R2, qh, fun G3 H3 ex3 R3 => ?_⟩
            have d3 := d1.mono (ex2.trans ex3)
            have ex : Ex G G3 := (ex1.trans ex2).trans ex3
            cases d3 with
            | lst h1 z t =>
              cases qf
              refine .inl ⟨_, _, rfl, .inl (.inl (R3.gh _ _ h1)), fun p hp => ?_⟩
              exact fin_al R3 ex k hp fun e' => .lst upd_same (Nat.le_trans (cutV_length _ _ _) z) ((t.cut ol oh).mono e')
            | tup h1 z t =>
              cases qf
              refine .inr ⟨_, _, rfl, R3.gh.sqT h1, fun w => ?_, fun w p hp => ?_⟩
              · refine k (.ref _) G3 H3 ex R3 (.tup h1 z ?_)
                have := t.cut ol oh
                unfold cutV at this
                rw [w.1, w.2, List.drop_zero, Nat.sub_zero, List.take_length] at this
                exact this
              · exact fin_al R3 ex k hp fun e' => .tup (.inl (.inl upd_same)) (Nat.le_trans (cutV_length _ _ _) z) ((t.cut ol oh).mono e')
            | _ => cases qf
          · cases q
        · cases q
      · cases q
    · cases q
theorem r_slF (he : PE X ea (tS X.K a)) (hl : PO X lo (tPt X.K l)) (hh : PO X hi (tPt X.K h)) : PE X (.Subscript ea (.Slice lo hi none p2) pos) (tF X.K (eSl slL a l h)) :=
  (pe_slice sl_list he hl hh).conv fun σ H Q ⟨Z, G, ρ, d, ρ', R, q, k⟩ => by
    unfold eSl at q
    split at q
    · rename_i x ρ1 qa
      split at q
      · rename_i ol ρ2 ql
        split at q
        · rename_i oh ρ3 qh
          split at q
          · rename_i d' qf
            cases q
            refine ⟨Z, G, ρ, x, ρ1, R, qa, fun v G1 H1 ex1 R1 d1 => ?_⟩
            refine ⟨Z, G1, ρ1, ol, ρ2, R1, ql, fun G2 H2 ex2 R2 => ?_⟩
            refine ⟨Z, G2, ρ2, oh, _, R2, qh, fun G3 H3 ex3 R3 => ?_⟩
            have d3 := d1.mono (ex2.trans ex3)
            have ex : Ex G G3 := (ex1.trans ex2).trans ex3
            cases d3 with
            | lst h1 z t =>
              cases qf
              refine ⟨_, _, rfl, .inl (.inl (R3.gh _ _ h1)), fun p hp => ?_⟩
              exact fr1_of R3 (fun a G' H' e' => k a G' H' (ex.trans e')) p _ hp ⟨_, upd_same, Nat.le_trans (cutV_length _ _ _) z, t.cut ol oh⟩
            | _ => cases qf
          · cases q
        · cases q
      · cases q
    · cases q
end

/-! ### operations on data -/
def iI (f : Int → Int → Option Int) : PyData → PyData → Option PyData
  | .int i, .int j => (f i j).map .int
  | _, _ => none
theorem prim_I {C : Int → Int → Prop} {g : Int → Int → Int} {f : Int → Int → Option Int} (hf : ∀ i j k, f i j = some k → C i j ∧ k = g i j) : Prim2 K (iI f) (rI C fun i j => .int (g i j)) := by
  intro G H v u x y d ex dx dy q Q k
  unfold iI at q
  split at q
  · rename_i i j
    cases dx
    cases dy
    cases e : f i j with
    | none => rw [e] at q; cases q
    | some m =>
      rw [e] at q
      cases q
      obtain ⟨c, rfl⟩ := hf i j m e
      exact ⟨i, j, rfl, rfl, c, k _ G H .refl (.int _)⟩
  · cases q
theorem prim_I0 {g : Int → Int → Int} : Prim2 K (iI fun i j => some (g i j)) (rI0 fun i j => .int (g i j)) := by
  intro G H v u x y d ex dx dy q Q k
  unfold iI at q
  split at q
  · rename_i i j
    cases dx
    cases dy
    cases q
    exact ⟨i, j, rfl, rfl, k _ G H .refl (.int _)⟩
  · cases q
def subD := iI fun i j => some (i - j)
def andD := iI fun i j => some (Builtin.bitAnd i j)
def orD := iI fun i j => some (Builtin.bitOr i j)
def xorD := iI fun i j => some (Builtin.bitXor i j)
def modD := iI fun i j => if j = 0 then none else some (i.fmod j)
def fdivD := iI fun i j => if j ≠ 0 ∧ j.natAbs < 1073741824 then some (i.fdiv j) else none
def mulI := iI fun i j => if (-(2 ^ 64) < i ∧ i < 2 ^ 64) ∨ (-(2 ^ 64) < j ∧ j < 2 ^ 64) then some (i * j) else none
def powD := iI fun i j => if 0 ≤ j ∧ j ≤ 1000000 ∧ i.natAbs < 2 ^ 64 then some (i ^ j.toNat) else none
def shlD := iI fun i j => if 0 ≤ j ∧ j ≤ 1000000 ∧ i.natAbs < 2 ^ 64 then some (i * 2 ^ j.toNat) else none
def shrD := iI fun i j => if 0 ≤ j then some (i / 2 ^ j.toNat) else none
theorem p_sub : Prim2 K subD (rI0 fun i j => .int (i - j)) := prim_I0
theorem p_and : Prim2 K andD (rI0 fun i j => .int (Builtin.bitAnd i j)) := prim_I0
theorem p_or : Prim2 K orD (rI0 fun i j => .int (Builtin.bitOr i j)) := prim_I0
theorem p_xor : Prim2 K xorD (rI0 fun i j => .int (Builtin.bitXor i j)) := prim_I0
theorem p_mod : Prim2 K modD (rI (fun _ j => j ≠ 0) fun i j => .int (i.fmod j)) := prim_I fun i j k q => by
  split at q
  · cases q
  · rename_i h; cases q; exact ⟨h, rfl⟩
theorem p_fdiv : Prim2 K fdivD (rI CDivN fun i j => .int (i.fdiv j)) := prim_I fun i j k q => by
  split at q
  · rename_i h; cases q; exact ⟨h, rfl⟩
  · cases q
theorem p_pow : Prim2 K powD (rI CPow fun i j => .int (i ^ j.toNat)) := prim_I fun i j k q => by
  split at q
  · rename_i h; cases q; exact ⟨h, rfl⟩
  · cases q
theorem p_shl : Prim2 K shlD (rI CPow fun i j => .int (i * 2 ^ j.toNat)) := prim_I fun i j k q => by
  split at q
  · rename_i h; cases q; exact ⟨h, rfl⟩
  · cases q
theorem p_shr : Prim2 K shrD (rI (fun _ j => 0 ≤ j) fun i j => .int (i / 2 ^ j.toNat)) := prim_I fun i j k q => by
  split at q
  · rename_i h; cases q; exact ⟨h, rfl⟩
  · cases q
theorem p_mulI : Prim2 K mulI (rI CMul fun i j => .int (i * j)) := prim_I fun i j k q => by
  split at q
  · rename_i h; cases q; exact ⟨h, rfl⟩
  · cases q
/-- + -/
def addD : PyData → PyData → Option PyData
  | .int i, .int j => some (.int (i + j))
  | .str x, .str y => if x.length + y.length ≤ sizeLine then some (.str (x ++ y)) else none
  | .tuple xs, .tuple ys => if xs.length + ys.length ≤ sizeLine then some (.tuple (xs ++ ys)) else none
  | .list xs, .list ys => if xs.length + ys.length ≤ sizeLine then some (.list (xs ++ ys)) else none
  | _, _ => none
def rAddX (K : PySem.W.Frag) : R2 := fun x y H Q => (∃ i j, x = .int i ∧ y = .int j ∧ Q (.int (i + j)) H) ∨ ((∃ i j, x = .str i ∧ y = .str j ∧ i.length + j.length ≤ sizeLine ∧ Q (.str (i ++ j)) H) ∨ (rCatA K x y H Q ∨ rCat x y H Q))
theorem o_add : OpR X (binaryOp .Add) (rAddX X.K) := op_add.or (op_add_str.or (op_catA.or op_cat))
theorem p_add : Prim2 K addD (rAddX K) := by
  intro G H v u x y d ex dx dy q Q k
  unfold addD at q
  split at q
  · cases dx; cases dy; cases q
    exact .inl ⟨_, _, rfl, rfl, k _ G H .refl (.int _)⟩
  · split at q
    · rename_i hz
      cases dx; cases dy; cases q
      exact .inr (.inl ⟨_, _, rfl, rfl, hz, k _ G H .refl (.str _)⟩)
    · cases q
  · split at q
    · rename_i xs ys hz
      cases q
      cases dx with
      | tup h1 z1 t1 =>
        cases dy with
        | tup h2 z2 t2 =>
          refine .inr (.inr (.inl ⟨_, _, _, _, rfl, rfl, ex.sqT h1, ex.sqT h2, by rw [t1.len, t2.len]; exact hz, fun e => ?_, fun n e => ?_, fun n1 n2 p hp => ?_⟩))
          · subst e
            cases t1
            exact k _ G H .refl (.tup h2 z2 t2)
          · subst e
            cases t2
            exact k _ G H .refl (by rw [List.append_nil]; exact .tup h1 z1 t1)
          · exact k (.ref p) _ _ (.one hp) (.tup (.inl (.inl upd_same)) (by rw [List.length_append, t1.len, t2.len]; exact hz) ((t1.append t2).mono (Ex.new (ex.none hp))))
    · cases q
  · split at q
    · rename_i xs ys hz
      cases q
      cases dx with
      | lst h1 z1 t1 =>
        cases dy with
        | lst h2 z2 t2 =>
          refine .inr (.inr (.inr ⟨_, _, _, _, rfl, rfl, ex _ _ h1, ex _ _ h2, by rw [t1.len, t2.len]; exact hz, fun p hp => ?_⟩))
          exact k (.ref p) _ _ (.one hp) (.lst upd_same (by rw [List.length_append, t1.len, t2.len]; exact hz) ((t1.append t2).mono (Ex.new (ex.none hp))))
    · cases q
  · cases q
/-- list + list, a new one -/
def catF : PyData → PyData → Option PyData
  | .list xs, .list ys => if xs.length + ys.length ≤ sizeLine then some (.list (xs ++ ys)) else none
  | _, _ => none
theorem p_catF : Prim2F K catF rCat := by
  intro G H v u x y d ex dx dy q Q k
  unfold catF at q
  split at q
  · split at q
    · rename_i xs ys hz
      cases q
      cases dx with
      | lst h1 z1 t1 =>
        cases dy with
        | lst h2 z2 t2 =>
          refine ⟨_, _, _, _, rfl, rfl, ex _ _ h1, ex _ _ h2, by rw [t1.len, t2.len]; exact hz, fun p hp => ?_⟩
          exact k p _ hp ⟨_, upd_same, by rw [List.length_append, t1.len, t2.len]; exact hz, t1.append t2⟩
    · cases q
  · cases q
/-- -x -/
def negD : PyData → Option PyData
  | .int i => some (.int (-i))
  | _ => none
theorem p_neg : Prim1 K negD (rU fun i => .int (-i)) := by
  intro G H v x d ex dx q Q k
  unfold negD at q
  split at q
  · cases dx; cases q; exact ⟨_, rfl, k _ G H .refl (.int _)⟩
  · cases q
/-- < <= > >= of ints -/
def iB (g : Int → Int → Bool) : PyData → PyData → Option PyData
  | .int i, .int j => some (.bool (g i j))
  | _, _ => none
theorem p_iB {g : Int → Int → Bool} : Prim2 K (iB g) (rI0 fun i j => .bl (g i j)) := by
  intro G H v u x y d ex dx dy q Q k
  unfold iB at q
  split at q
  · cases dx; cases dy; cases q
    exact ⟨_, _, rfl, rfl, k _ G H .refl (.bl _)⟩
  · cases q
def ltI := iB fun i j => decide (i < j)
def leI := iB fun i j => decide (i ≤ j)
def gtI := iB fun i j => decide (j < i)
def geI := iB fun i j => decide (j ≤ i)
theorem p_lt : Prim2 K ltI (rI0 fun i j => .bl (decide (i < j))) := p_iB
theorem p_le : Prim2 K leI (rI0 fun i j => .bl (decide (i ≤ j))) := p_iB
theorem p_gt : Prim2 K gtI (rI0 fun i j => .bl (decide (j < i))) := p_iB
theorem p_ge : Prim2 K geI (rI0 fun i j => .bl (decide (j ≤ i))) := p_iB
/-- is None -/
def isN (x y : PyData) : Option PyData := match y with
  | .none => some (.bool (match x with | .none => true | _ => false))
  | _ => none
def isNotN (x y : PyData) : Option PyData := match y with
  | .none => some (.bool (match x with | .none => false | _ => true))
  | _ => none
theorem p_isN : Prim2 K isN (fun x y H Q => y = .non ∧ Q (.bl (decide (x = .non))) H) := by
  intro G H v u x y d ex dx dy q Q k
  unfold isN at q
  split at q
  · cases dy; cases q
    refine ⟨rfl, ?_⟩
    cases dx <;> exact k _ G H .refl (.bl _)
  · cases q
theorem p_isNotN : Prim2 K isNotN (fun x y H Q => y = .non ∧ Q (.bl (!decide (x = .non))) H) := by
  intro G H v u x y d ex dx dy q Q k
  unfold isNotN at q
  split at q
  · cases dy; cases q
    refine ⟨rfl, ?_⟩
    cases dx <;> exact k _ G H .refl (.bl _)
  · cases q
/-- == of texts, and of data of any depth -/
def eqD (x y : PyData) : Option PyData := match x, y with
  | .str a, .str b => some (.bool (a == b))
  | x, y => if SeqAt.shaped x = true ∧ SeqAt.shaped y = true then some (.bool (PyData.eqv x y)) else none
def neD (x y : PyData) : Option PyData := match x, y with
  | .str a, .str b => some (.bool (!(a == b)))
  | x, y => if SeqAt.shaped x = true ∧ SeqAt.shaped y = true then some (.bool (!PyData.eqv x y)) else none
def rEqX (K : PySem.W.Frag) : R2 := fun x y H Q => rEqD K x y H Q ∨ rEq x y H Q
def rNeX (K : PySem.W.Frag) : R2 := fun x y H Q => rNeD K x y H Q ∨ rNe x y H Q
theorem op_eqX {X : Cx} (hu : X.A.units + 64 < cLine) : OpR X (compareOp .Eq) (rEqX X.K) := (op_eqD hu).or op_eq
theorem op_neX {X : Cx} (hu : X.A.units + 64 < cLine) : OpR X (compareOp .NotEq) (rNeX X.K) := (op_neD hu).or op_ne
theorem p_eq : Prim2 K eqD (rEqX K) := by
  intro G H v u x y d ex dx dy q Q k
  unfold eqD at q
  split at q
  · cases q
    cases dx
    cases dy
    refine .inr ⟨rfl, ?_⟩
    rw [dec_str]
    exact k _ G H .refl (.bl _)
  · split at q
    · rename_i h
      cases q
      exact .inl ⟨x, y, (dx.mono ex).dp (PyData.hasDict_of_canLay x (SeqAt.canLay_of_shaped h.1)), (dy.mono ex).dp (PyData.hasDict_of_canLay y (SeqAt.canLay_of_shaped h.2)), h.1, h.2, k _ G H .refl (.bl _)⟩
    · cases q
theorem p_ne : Prim2 K neD (rNeX K) := by
  intro G H v u x y d ex dx dy q Q k
  unfold neD at q
  split at q
  · cases q
    cases dx
    cases dy
    refine .inr ⟨rfl, ?_⟩
    rw [dec_str]
    exact k _ G H .refl (.bl _)
  · split at q
    · rename_i h
      cases q
      exact .inl ⟨x, y, (dx.mono ex).dp (PyData.hasDict_of_canLay x (SeqAt.canLay_of_shaped h.1)), (dy.mono ex).dp (PyData.hasDict_of_canLay y (SeqAt.canLay_of_shaped h.2)), h.1, h.2, k _ G H .refl (.bl _)⟩
    · cases q
/-- in, not in -/
def inData (x : PyData) (ds : List PyData) : Bool := ds.any fun z => PyData.eqv z x
def inD (x y : PyData) : Option PyData := match seqOf y with
  | some ds => if x.hasDict = false ∧ PyData.hasDictAll ds = false ∧ SeqAt.shaped x = true ∧ PyData.canLayAll0 ds = true then some (.bool (inData x ds)) else none
  | none => none
def ninD (x y : PyData) : Option PyData := match seqOf y with
  | some ds => if x.hasDict = false ∧ PyData.hasDictAll ds = false ∧ SeqAt.shaped x = true ∧ PyData.canLayAll0 ds = true then some (.bool (!inData x ds)) else none
  | none => none
def rInX (K : PySem.W.Frag) (neg : Bool) : R2 := fun x y H Q => ∃ d e ds, Dp K H x d ∧ Dp K H y e ∧ seqOf e = some ds ∧ SeqAt.shaped d = true ∧ PyData.canLayAll0 ds = true ∧ Q (.bl (if neg then !inData d ds else inData d ds)) H
theorem room_in {A : Around} {d : PyData} {n : Nat} (hd : SeqAt.shaped d = true) (hu : A.units + 65 < cLine) : A.units + 1 + min n d.depth < cLine := by
  have h1 := SeqAt.depth_of_shaped hd
  have h2 : min n d.depth ≤ d.depth := Nat.min_le_right _ _
  omega
theorem o_in (hu : X.A.units + 65 < cLine) : OpR X (compareOp .In) (rInX X.K false) := by
  intro pins s σ H x y v u Q I rx ry h
  obtain ⟨d, e, ds, hd, he, hs, sd, se, q⟩ := h
  obtain ⟨as, r1⟩ := Dp.reads I d x v hd rx
  obtain ⟨bs, r2⟩ := Dp.reads I e y u he ry
  cases e with
  | list zs => cases hs; exact SeqAt.in_list_reads r2 r1 se (SeqAt.canLay_of_shaped sd) (room_in sd hu) ⟨.bl _, H, I, rfl, q⟩
  | tuple zs => cases hs; exact SeqAt.in_tuple_reads r2 r1 se (SeqAt.canLay_of_shaped sd) (room_in sd hu) ⟨.bl _, H, I, rfl, q⟩
  | _ => cases hs
theorem o_nin (hu : X.A.units + 65 < cLine) : OpR X (compareOp .NotIn) (rInX X.K true) := by
  intro pins s σ H x y v u Q I rx ry h
  obtain ⟨d, e, ds, hd, he, hs, sd, se, q⟩ := h
  obtain ⟨as, r1⟩ := Dp.reads I d x v hd rx
  obtain ⟨bs, r2⟩ := Dp.reads I e y u he ry
  cases e with
  | list zs => cases hs; exact SeqAt.notIn_list_reads r2 r1 se (SeqAt.canLay_of_shaped sd) (room_in sd hu) ⟨.bl _, H, I, rfl, q⟩
  | tuple zs => cases hs; exact SeqAt.notIn_tuple_reads r2 r1 se (SeqAt.canLay_of_shaped sd) (room_in sd hu) ⟨.bl _, H, I, rfl, q⟩
  | _ => cases hs
theorem hasDict_seq {e : PyData} {ds : List PyData} (h : seqOf e = some ds) : e.hasDict = PyData.hasDictAll ds := by
  cases e with
  | list xs => cases h; simp [PyData.hasDict]
  | tuple xs => cases h; simp [PyData.hasDict]
  | _ => cases h
theorem p_in : Prim2 K inD (rInX K false) := by
  intro G H v u x y d ex dx dy q Q k
  unfold inD at q
  split at q
  · rename_i ds hs
    split at q
    · rename_i h
      cases q
      exact ⟨x, y, ds, (dx.mono ex).dp h.1, (dy.mono ex).dp (by rw [hasDict_seq hs]; exact h.2.1), hs, h.2.2.1, h.2.2.2, k _ G H .refl (.bl _)⟩
    · cases q
  · cases q
theorem p_nin : Prim2 K ninD (rInX K true) := by
  intro G H v u x y d ex dx dy q Q k
  unfold ninD at q
  split at q
  · rename_i ds hs
    split at q
    · rename_i h
      cases q
      exact ⟨x, y, ds, (dx.mono ex).dp h.1, (dy.mono ex).dp (by rw [hasDict_seq hs]; exact h.2.1), hs, h.2.2.1, h.2.2.2, k _ G H .refl (.bl _)⟩
    · cases q
  · cases q
/-- xs[i] of lists, tuples, texts -/
def ixD : PyData → PyData → Option PyData
  | .list xs, .int i => atI xs i
  | .tuple xs, .int i => atI xs i
  | .str z, .int i => if z.length ≤ sizeLine then (atI z.cps.toList i).map fun c => .str ⟨#[c]⟩ else none
  | _, _ => none
theorem DrAll.at {G : Hp} {vs : List V} {ds : List PyData} {i : Int} {d : PyData} (h : DrAll K G vs ds) (e : atI ds i = some d) : ∃ v, atI vs i = some v ∧ Dr K G v d := by
  unfold atI at e ⊢
  rw [h.len]
  cases q : ixN ds.length i with
  | none => rw [q] at e; cases e
  | some j =>
    rw [q] at e
    exact h.get e
theorem p_ix : Prim2 K ixD (rIx K) := by
  intro G H v u x y d ex dx dy q Q k
  unfold ixD at q
  split at q
  · cases dy
    cases dx with
    | lst h1 z t =>
      obtain ⟨w, e1, e2⟩ := t.at q
      exact .inl ⟨_, _, _, w, rfl, rfl, .inl (.inl (ex _ _ h1)), e1, k _ G H .refl e2⟩
  · cases dy
    cases dx with
    | tup h1 z t =>
      obtain ⟨w, e1, e2⟩ := t.at q
      exact .inr (.inl ⟨_, _, _, w, rfl, rfl, ex.sqT h1, e1, k _ G H .refl e2⟩)
  · split at q
    · rename_i z i hz
      cases dy
      cases dx
      cases e : atI z.cps.toList i with
      | none => rw [e] at q; cases q
      | some c =>
        rw [e] at q
        cases q
        exact .inr (.inr ⟨z, i, c, rfl, rfl, hz, e, k _ G H .refl (.str _)⟩)
    · cases q
  · cases q
theorem seqOf_eq {e : PyData} {ds : List PyData} (h : seqOf e = some ds) : e = .list ds ∨ e = .tuple ds := by
  cases e with
  | list xs => cases h; exact .inl rfl
  | tuple xs => cases h; exact .inr rfl
  | _ => cases h
end
end DL

set_option maxHeartbeats 1000000
/-! DL4: statements, loops, comprehensions. -/
namespace DL
open PySem PySem.Spec PyProof.Rows L2

inductive Fw where
  | nx (ρ : En) | ret (d : PyData) (ρ : En) | brk (ρ : En) | ct (ρ : En)
abbrev Sv := En → Option Fw
def ZP (Z : Zn) : Prop := ∀ a, Z.io a → ∃ j, Z.pin j = some a
/-- what a def hands back -/
def RetR (K : PySem.W.Frag) (fr : Bool) (Z : Zn) (G H : Hp) (v : V) (d : PyData) : Prop :=
  if fr = true then ∃ a, v = .ref a ∧ G a = none ∧ Z.H a = none ∧ OwnAt K G H a d else Dr K G v d
/-- what follows a flow -/
def KT (K : PySem.W.Frag) (fr : Bool) (Z : Zn) (G : Hp) (D : Ends) : Fw → Prop
  | .nx ρ' => ∀ σ' G' H', Ex G G' → SR K Z G' H' σ' ρ' → D.nx σ' H'
  | .ret d ρ' => ∀ v σ' G' H', Ex G G' → SR K Z G' H' σ' ρ' → RetR K fr Z G' H' v d → D.rt v H'
  | .brk ρ' => ∀ σ' G' H', Ex G G' → SR K Z G' H' σ' ρ' → D.bk σ' H'
  | .ct ρ' => ∀ σ' G' H', Ex G G' → SR K Z G' H' σ' ρ' → D.ct σ' H'
theorem KT.mono {K : PySem.W.Frag} {fr : Bool} {Z : Zn} {G G1 : Hp} {D : Ends} {w : Fw} (ex : Ex G G1) (k : KT K fr Z G D w) : KT K fr Z G1 D w := by
  cases w with
  | nx ρ2 => exact fun σ' G' H' ex' R' => k σ' G' H' (ex.trans ex') R'
  | brk ρ2 => exact fun σ' G' H' ex' R' => k σ' G' H' (ex.trans ex') R'
  | ct ρ2 => exact fun σ' G' H' ex' R' => k σ' G' H' (ex.trans ex') R'
  | ret d ρ2 => exact fun v σ' G' H' ex' R' => k v σ' G' H' (ex.trans ex') R'
def tT (K : PySem.W.Frag) (fr : Bool) (ψ : Sv) : TS := fun D σ H => ∃ Z G ρ w, ZP Z ∧ SR K Z G H σ ρ ∧ ψ ρ = some w ∧ KT K fr Z G D w
theorem _root_.L2.PS.conv {X : Cx} {st : Stmt} {t t' : TS} (h : PS X st t) (c : ∀ D σ H, t' D σ H → t D σ H) : PS X st t' := ⟨fun pins s σ H D I q => h.run pins s σ H D I (c D σ H q)⟩
theorem _root_.L2.PSs.conv {X : Cx} {st : List Stmt} {t t' : TS} (h : PSs X st t) (c : ∀ D σ H, t' D σ H → t D σ H) : PSs X st t' := ⟨fun pins s σ H D I q => h.run pins s σ H D I (c D σ H q)⟩
theorem _root_.L2.PI.conv {X : Cx} {tg e : Expr} {t t' : TI} (h : PI X tg e t) (c : ∀ σ H Q, t' σ H Q → t σ H Q) : PI X tg e t' := ⟨fun pins s σ H Q I q => h.run pins s σ H Q I (c σ H Q q)⟩
theorem _root_.L2.PI.alt {X : Cx} {tg e : Expr} {t t' : TI} (h : PI X tg e t) (h' : PI X tg e t') : PI X tg e (fun σ H R => t σ H R ∨ t' σ H R) := ⟨fun pins s σ H Q I q => q.elim (h.run pins s σ H Q I) (h'.run pins s σ H Q I)⟩
theorem _root_.L2.PG.conv {X : Cx} {tg : Expr} {t t' : TG} (h : PG X tg t) (c : ∀ v σ H Q, t' v σ H Q → t v σ H Q) : PG X tg t' := ⟨fun pins s σ H v u Q I r q => h.run pins s σ H v u Q I r (c v σ H Q q)⟩
theorem _root_.L2.PGs.conv {X : Cx} {tg : List Expr} {t t' : TGs} (h : PGs X tg t) (c : ∀ v σ H Q, t' v σ H Q → t v σ H Q) : PGs X tg t' := ⟨fun pins s σ H v u Q I r q => h.run pins s σ H v u Q I r (c v σ H Q q)⟩
theorem _root_.L2.PTs.conv {X : Cx} {es : List Expr} {t t' : TT} (h : PTs X es t) (c : ∀ σ H Q, t' σ H Q → t σ H Q) : PTs X es t' := ⟨fun pins s σ H Q I q => h.run pins s σ H Q I (c σ H Q q)⟩

section
variable {X : Cx} {K : PySem.W.Frag} {fr : Bool} {st : Stmt} {sts : List Stmt} {e : Expr} {a : Ev} {q : Eq} {ψ φ : Sv} {pos : Pos}
/-! ### blocks -/
def sN : Sv := fun ρ => some (.nx ρ)
def sQ (ψ φ : Sv) : Sv := fun ρ => match ψ ρ with
  | some (.nx ρ1) => φ ρ1
  | r => r
theorem rs_nil : PSs X [] (tT K fr sN) := pss_nil.conv fun D σ H ⟨Z, G, ρ, w, zp, R, q, k⟩ => by
  cases q
  exact k σ G H (Ex.refl _) R
theorem rs_cons (h1 : PS X st (tT K fr ψ)) (h2 : PSs X sts (tT K fr φ)) : PSs X (st :: sts) (tT K fr (sQ ψ φ)) := (pss_cons h1 h2).conv fun D σ H ⟨Z, G, ρ, w, zp, R, q, k⟩ => by
  unfold sQ at q
  split at q
  · rename_i ρ1 q1
    exact ⟨Z, G, ρ, .nx ρ1, zp, R, q1, fun σ1 G1 H1 ex R1 => ⟨Z, G1, ρ1, w, zp, R1, q, k.mono ex⟩⟩
  · rename_i hne
    refine ⟨Z, G, ρ, w, zp, R, q, ?_⟩
    cases w with
    | nx ρ2 => exact absurd q (hne ρ2)
    | brk ρ2 => exact k
    | ct ρ2 => exact k
    | ret d ρ2 => exact k
theorem rs_one (h1 : PS X st (tT K fr ψ)) : PSs X [st] (tT K fr ψ) := pss_one h1
/-! ### small statements -/
def sAsg (i : Nat) (a : Ev) : Sv := fun ρ => match a ρ with
  | some (d, ρ1) => some (.nx (ρ1.set i (.d d)))
  | none => none
def sAsgO (i : Nat) (a : Ev) : Sv := fun ρ => match a ρ with
  | some (d, ρ1) => some (.nx (ρ1.set i (.o d)))
  | none => none
theorem r_asg {i : Nat} (h : PS X st (tAsg (tS K a) (gName i))) : PS X st (tT K fr (sAsg i a)) := h.conv fun D σ H ⟨Z, G, ρ, w, zp, R, q, k⟩ => by
  unfold sAsg at q
  split at q
  · rename_i d ρ1 qa
    cases q
    exact ⟨Z, G, ρ, d, ρ1, R, qa, fun v G' H' ex R' dr => k _ G' H' ex (R'.setD dr)⟩
  · cases q
theorem r_asgO {i : Nat} (h : PS X st (tAsg (tF K a) (gName i))) : PS X st (tT K fr (sAsgO i a)) := h.conv fun D σ H ⟨Z, G, ρ, w, zp, R, q, k⟩ => by
  unfold sAsgO at q
  split at q
  · rename_i d ρ1 qa
    cases q
    exact ⟨Z, G, ρ, d, ρ1, R, qa, fun p G' H' ex R' hg hz hn o => k _ G' H' ex (R'.setO hg hz hn o)⟩
  · cases q
/-- the reading of what is assigned, changed -/
theorem asg_conv {te te' : TE} {g : TG} (h : PS X st (tAsg te g)) (c : ∀ σ H Q, te' σ H Q → te σ H Q) : PS X st (tAsg te' g) := h.conv fun D σ H q => c σ H _ q
def sDrop (a : Ev) : Sv := fun ρ => match a ρ with
  | some (_, ρ1) => some (.nx ρ1)
  | none => none
theorem r_drop (h : PS X st (tDrop (tS K a))) : PS X st (tT K fr (sDrop a)) := h.conv fun D σ H ⟨Z, G, ρ, w, zp, R, q, k⟩ => by
  unfold sDrop at q
  split at q
  · rename_i d ρ1 qa
    cases q
    exact ⟨Z, G, ρ, d, _, R, qa, fun v G' H' ex R' dr => k σ G' H' ex R'⟩
  · cases q
def sRet (a : Ev) : Sv := fun ρ => match a ρ with
  | some (d, ρ1) => some (.ret d ρ1)
  | none => none
theorem r_ret (h : PE X e (tS K a)) : PS X (.Return (some e) pos) (tT K false (sRet a)) := (ps_ret h).conv fun D σ H ⟨Z, G, ρ, w, zp, R, q, k⟩ => by
  unfold sRet at q
  split at q
  · rename_i d ρ1 qa
    cases q
    exact ⟨Z, G, ρ, d, _, R, qa, fun v G' H' ex R' dr => k v σ G' H' ex R' dr⟩
  · cases q
theorem r_retF (h : PE X e (tF K a)) : PS X (.Return (some e) pos) (tT K true (sRet a)) := (ps_ret h).conv fun D σ H ⟨Z, G, ρ, w, zp, R, q, k⟩ => by
  unfold sRet at q
  split at q
  · rename_i d ρ1 qa
    cases q
    exact ⟨Z, G, ρ, d, _, R, qa, fun p G' H' ex R' hg hz hn o => k (.ref p) σ G' H' ex R' ⟨p, rfl, hg, hz, o⟩⟩
  · cases q
/-- return x, x a list or dict of the def's own -/
def sRetO (i : Nat) : Sv := fun ρ => match ρ[i]? with
  | some (.o d) => some (.ret d (ρ.set i .u))
  | _ => none
theorem ret_own {Z : Zn} {G H : Hp} {σ : L2.St} {ρ : En} {i : Nat} {d : PyData} (zp : ZP Z) (R : SR K Z G H σ ρ) (e : ρ[i]? = some (.o d)) :
    ∃ p, σ[i]? = some (some (.ref p)) ∧ G p = none ∧ Z.H p = none ∧ OwnAt K G H p d ∧ SR K Z G H σ (ρ.set i .u) ∧ ∀ j, Owned (ρ.set i .u) j → σ[j]? ≠ some (some (.ref p)) := by
  obtain ⟨p, h1, h2, h3, h4⟩ := R.own i _ d e rfl
  refine ⟨p, h1, h2, ?_, h3, R.less (by rw [List.length_set]) fun j s hj => ?_, fun j ⟨s, x, hj, hs⟩ hp => ?_⟩
  · rcases h4 with h4 | h4
    · obtain ⟨j, hj⟩ := zp _ h4
      exact absurd hj (R.opin i d p e h1 j)
    · exact h4
  · rcases getElem?_set_cases hj with ⟨_, z⟩ | ⟨_, z⟩
    · exact .inl z
    · exact .inr z
  · rcases getElem?_set_cases hj with ⟨_, z⟩ | ⟨n, z⟩
    · subst z; cases hs
    · exact n (R.inj j i p ⟨s, x, z, hs⟩ ⟨_, d, e, rfl⟩ hp h1)
theorem r_retOF {i : Nat} (h : PE X e (tVar i)) : PS X (.Return (some e) pos) (tT K true (sRetO i)) := (ps_ret h).conv fun D σ H ⟨Z, G, ρ, w, zp, R, q, k⟩ => by
  unfold sRetO at q
  split at q
  · rename_i d hd
    cases q
    obtain ⟨p, h1, h2, h3, h4, h5, _⟩ := ret_own zp R hd
    exact ⟨.ref p, h1, k (.ref p) σ G H (Ex.refl _) h5 ⟨p, rfl, h2, h3, h4⟩⟩
  · cases q
theorem r_retO {i : Nat} (h : PE X e (tVar i)) : PS X (.Return (some e) pos) (tT K false (sRetO i)) := (ps_ret h).conv fun D σ H ⟨Z, G, ρ, w, zp, R, q, k⟩ => by
  unfold sRetO at q
  split at q
  · rename_i d hd
    cases q
    obtain ⟨p, h1, h2, h3, h4, h5, h6⟩ := ret_own zp R hd
    obtain ⟨u, hu⟩ := h4.some
    exact ⟨.ref p, h1, k (.ref p) σ (upd G p u) H (Ex.new h2) (h5.frz h2 h3 h6 hu) (h4.frz h2 hu)⟩
  · cases q
def sRetN : Sv := fun ρ => some (.ret .none ρ)
theorem r_retN : PS X (.Return none pos) (tT K false sRetN) := ps_retN.conv fun D σ H ⟨Z, G, ρ, w, zp, R, q, k⟩ => by
  cases q
  exact k .non σ G H (Ex.refl _) R .non
def sBrk : Sv := fun ρ => some (.brk ρ)
def sCt : Sv := fun ρ => some (.ct ρ)
theorem r_brk : PS X (.Break pos) (tT K fr sBrk) := ps_break.conv fun D σ H ⟨Z, G, ρ, w, zp, R, q, k⟩ => by
  cases q
  exact k σ G H (Ex.refl _) R
theorem r_ct : PS X (.Continue pos) (tT K fr sCt) := ps_continue.conv fun D σ H ⟨Z, G, ρ, w, zp, R, q, k⟩ => by
  cases q
  exact k σ G H (Ex.refl _) R
theorem r_pass : PS X (.Pass pos) (tT K fr sN) := ps_pass.conv fun D σ H ⟨Z, G, ρ, w, zp, R, q, k⟩ => by
  cases q
  exact k σ G H (Ex.refl _) R
def sIf (c : Eq) (ψ φ : Sv) : Sv := fun ρ => match c ρ with
  | some (true, ρ1) => ψ ρ1
  | some (false, ρ1) => φ ρ1
  | none => none
theorem weakT {Z : Zn} {G G1 H1 : Hp} {σ1 : L2.St} {ρ1 : En} {w : Fw} {D : Ends} (zp : ZP Z) (R1 : SR K Z G1 H1 σ1 ρ1) (q : ψ ρ1 = some w) (ex : Ex G G1) (k : KT K fr Z G D w) : tT K fr ψ D σ1 H1 :=
  ⟨Z, G1, ρ1, w, zp, R1, q, k.mono ex⟩
theorem r_ifS {c : Expr} {sa sb : List Stmt} (hc : PT X c (tQ K q)) (ha : PSs X sa (tT K fr ψ)) (hb : PSs X sb (tT K fr φ)) : PS X (.If c sa sb pos) (tT K fr (sIf q ψ φ)) := (ps_if hc ha hb).conv fun D σ H ⟨Z, G, ρ, w, zp, R, hq, k⟩ => by
  unfold sIf at hq
  split at hq
  · rename_i ρ1 q1
    exact ⟨Z, G, ρ, true, ρ1, R, q1, fun G' H' ex R' => iteT (weakT zp R' hq ex k)⟩
  · rename_i ρ1 q1
    exact ⟨Z, G, ρ, false, ρ1, R, q1, fun G' H' ex R' => iteF (weakT zp R' hq ex k)⟩
  · cases hq

/-! ### targets -/
abbrev Gv := PyData → En → Option En
abbrev Gvs := List PyData → En → Option En
/-- a target that stores to the slots vs alone -/
def gD (K : PySem.W.Frag) (vs : List Nat) (g : Gv) : TG := fun v σ H Q => ∃ Z G ρ x ρ', SR K Z G H σ ρ ∧ Dr K G v x ∧ g x ρ = some ρ' ∧ ∀ σ', SR K Z G H σ' ρ' → wipe σ' vs = wipe σ vs → Q σ' H
def gDs (K : PySem.W.Frag) (vs : List Nat) (g : Gvs) : TGs := fun us σ H Q => ∃ Z G ρ xs ρ', SR K Z G H σ ρ ∧ DrAll K G us xs ∧ g xs ρ = some ρ' ∧ ∀ σ', SR K Z G H σ' ρ' → wipe σ' vs = wipe σ vs → Q σ' H
theorem wipe_set {σ : L2.St} {i : Nat} {x : Option V} : ∀ {vs : List Nat}, i ∈ vs → wipe (σ.set i x) vs = wipe σ vs
  | v :: vs, h => by
    by_cases e : i = v
    · subst e
      unfold wipe
      by_cases h' : i ∈ vs
      · rw [wipe_set h']
      · have : ∀ vs : List Nat, i ∉ vs → wipe (σ.set i x) vs = (wipe σ vs).set i x := by
          intro ws hw
          induction ws with
          | nil => rfl
          | cons w ws ih =>
            unfold wipe
            rw [ih (fun z => hw (List.mem_cons_of_mem _ z)), List.set_comm _ _ (fun z => hw (by rw [z]; exact List.mem_cons_self))]
        rw [this vs h', List.set_set]
    · have h' : i ∈ vs := by
        rcases List.mem_cons.mp h with z | z
        · exact absurd z e
        · exact z
      unfold wipe
      rw [wipe_set h']
def gN (i : Nat) : Gv := fun x ρ => some (ρ.set i (.d x))
def gT (n : Nat) (g : Gvs) : Gv := fun x ρ => match x with
  | .tuple xs => if xs.length = n then g xs ρ else none
  | _ => none
def gZ : Gvs := fun xs ρ => match xs with
  | [] => some ρ
  | _ :: _ => none
def gC (g : Gv) (h : Gvs) : Gvs := fun xs ρ => match xs with
  | x :: r => (match g x ρ with
    | some ρ1 => h r ρ1
    | none => none)
  | [] => none
section
variable {tg : Expr} {tgs : List Expr} {g : Gv} {gs : Gvs} {vs : List Nat} {i n : Nat}
theorem rg_name (h : PG X tg (gName i)) (hi : i ∈ vs) : PG X tg (gD K vs (gN i)) := h.conv fun v σ H Q ⟨Z, G, ρ, x, ρ', R, dx, q, k⟩ => by
  cases q
  exact k _ (R.setD dx) (wipe_set hi)
theorem rg_nil : PGs X [] (gDs K vs gZ) := pgs_nil.conv fun us σ H Q ⟨Z, G, ρ, xs, ρ', R, dx, q, k⟩ => by
  unfold gZ at q
  split at q
  · cases q
    cases dx
    exact ⟨rfl, k σ R rfl⟩
  · cases q
theorem rg_cons {e : Expr} {es : List Expr} (h1 : PG X e (gD K vs g)) (h2 : PGs X es (gDs K vs gs)) (hs : (assignEach (e :: es) X.env).map (·.2) = assign e X.env :: (assignEach es X.env).map (·.2) := by rfl) : PGs X (e :: es) (gDs K vs (gC g gs)) :=
  (pgs_cons h1 h2 hs).conv fun us σ H Q ⟨Z, G, ρ, xs, ρ', R, dx, q, k⟩ => by
    unfold gC at q
    split at q
    · split at q
      · rename_i x r ρ1 q1
        cases dx with
        | cons d1 d2 =>
          exact ⟨_, _, rfl, Z, G, ρ, _, ρ1, R, d1, q1, fun σ1 R1 w1 => ⟨Z, G, ρ1, _, ρ', R1, d2, q, fun σ2 R2 w2 => k σ2 R2 (w2.trans w1)⟩⟩
      · cases q
    · cases q
theorem rg_tup {es : List Expr} {k : Nat} (h : PG X (.Tuple es k pos) (gTup X.K n (gDs X.K vs gs))) : PG X (.Tuple es k pos) (gD X.K vs (gT n gs)) := h.conv fun v σ H Q ⟨Z, G, ρ, x, ρ', R, dx, q, k⟩ => by
  unfold gT at q
  split at q
  · split at q
    · rename_i xs hl
      cases dx with
      | tup h1 z t => exact ⟨_, _, rfl, R.gh.sqT h1, by rw [t.len]; exact hl, Z, G, ρ, _, ρ', R, t, q, k⟩
    · cases q
  · cases q
end
end
end DL

set_option maxHeartbeats 1000000
/-! DL5: walks, loops, comprehensions. -/
namespace DL
open PySem PySem.Spec PyProof.Rows L2

/-- a walk over data -/
structure ItD (K : PySem.W.Frag) (J : It) (G : Hp) (ds : List PyData) : Prop where
  len : ds.length ≤ sizeLine
  turn : ∀ (i : Nat) (G' H' : Hp), Ex G G' → Ex G' H' →
    (∀ d, ds[i]? = some d → J.go i H' ∧ ∀ x H'', J.yld i H' x H'' → ∃ G'', Al G' H' G'' H'' ∧ Dr K G'' x d) ∧ (ds.length ≤ i → J.stop i H')
def tI (K : PySem.W.Frag) (φ : Es) : TI := fun σ H R => ∃ Z G ρ ds ρ', SR K Z G H σ ρ ∧ φ ρ = some (ds, ρ') ∧ ∀ J G' H', Ex G G' → SR K Z G' H' σ ρ' → ItD K J G' ds → R J H'
def iSeq (a : Ev) : Es := fun ρ => match a ρ with
  | some (x, ρ1) => (match seqOf x with
    | some ds => some (ds, ρ1)
    | none => none)
  | none => none
section
variable {X : Cx} {K : PySem.W.Frag} {tg iter e : Expr} {es : List Expr} {a : Ev} {as : Es} {pos : Pos}
theorem itD_list {G : Hp} {p : Addr} {vs : List V} {ds : List PyData} (h : G p = some (.lst vs)) (z : vs.length ≤ sizeLine) (t : DrAll K G vs ds) : ItD K (Itl K p) G ds := ⟨by rw [← t.len]; exact z, fun i G' H' ex gh => by
  have hq : SqL K H' p vs := .inl (.inl (gh _ _ (ex _ _ h)))
  refine ⟨fun d hd => ?_, fun hl => ⟨vs, hq, by rw [t.len]; exact hl⟩⟩
  obtain ⟨v, e1, e2⟩ := t.get hd
  refine ⟨⟨vs, v, hq, e1⟩, fun x H'' y => ?_⟩
  obtain ⟨rfl, f⟩ := y
  have := f vs hq
  rw [e1] at this
  cases this
  exact ⟨G', .refl, e2.mono ex⟩⟩
theorem itD_tup {G : Hp} {p : Addr} {vs : List V} {ds : List PyData} (h : SqT K G p vs) (z : vs.length ≤ sizeLine) (t : DrAll K G vs ds) : ItD K (Itt K p) G ds := ⟨by rw [← t.len]; exact z, fun i G' H' ex gh => by
  have hq : SqT K H' p vs := gh.sqT (ex.sqT h)
  refine ⟨fun d hd => ?_, fun hl => ⟨vs, hq, by rw [t.len]; exact hl⟩⟩
  obtain ⟨v, e1, e2⟩ := t.get hd
  refine ⟨⟨vs, v, hq, e1⟩, fun x H'' y => ?_⟩
  obtain ⟨rfl, f⟩ := y
  have := f vs hq
  rw [e1] at this
  cases this
  exact ⟨G', .refl, e2.mono ex⟩⟩
theorem ri_seq (h : PE X e (tS X.K a)) : PI X tg e (tI X.K (iSeq a)) := ((pi_list h).alt (pi_tup h)).conv fun σ H Rc ⟨Z, G, ρ, ds, ρ', R, q, k⟩ => by
  unfold iSeq at q
  split at q
  · rename_i x ρ1 qa
    split at q
    · rename_i ds' hs
      cases q
      rcases seqOf_eq hs with rfl | rfl
      · refine .inl ⟨Z, G, ρ, _, _, R, qa, fun v G' H' ex R' dv => ?_⟩
        cases dv with
        | lst h1 z t => exact ⟨_, rfl, ⟨_, .inl (.inl (R'.gh _ _ h1))⟩, k _ G' H' ex R' (itD_list h1 z t)⟩
      · refine .inr ⟨Z, G, ρ, _, _, R, qa, fun v G' H' ex R' dv => ?_⟩
        cases dv with
        | tup h1 z t => exact ⟨_, rfl, ⟨_, R'.gh.sqT h1⟩, k _ G' H' ex R' (itD_tup h1 z t)⟩
    · cases q
  · cases q
/-- range -/
def iN (f : List PyData → Option (List PyData)) (as : Es) : Es := fun ρ => match as ρ with
  | some (xs, ρ1) => (match f xs with
    | some ds => some (ds, ρ1)
    | none => none)
  | none => none
def upI (lo : Int) (n : Nat) : List PyData := (List.range n).map fun (i : Nat) => PyData.int (lo + i)
def rng1 : List PyData → Option (List PyData)
  | [.int n] => if -(2 ^ 62) ≤ n ∧ n ≤ 16777216 then some (upI 0 n.toNat) else none
  | _ => none
def rng2 : List PyData → Option (List PyData)
  | [.int i, .int j] => if -(2 ^ 62) ≤ i ∧ i < 2 ^ 62 ∧ -(2 ^ 62) ≤ j ∧ j < 2 ^ 62 ∧ j - i ≤ 16777216 then some (upI i (j - i).toNat) else none
  | _ => none
theorem itD_rng {G : Hp} {lo : Int} {n : Nat} (hn : n ≤ sizeLine) : ItD K (Itr lo n) G (upI lo n) := ⟨by unfold upI; rw [List.length_map, List.length_range]; exact hn, fun i G' H' ex gh => by
  refine ⟨fun d hd => ?_, fun hl => ?_⟩
  · unfold upI at hd
    rw [List.getElem?_map] at hd
    by_cases hi : i < n
    · rw [List.getElem?_range hi] at hd
      cases hd
      refine ⟨hi, fun x H'' y => ?_⟩
      obtain ⟨rfl, rfl⟩ := y
      exact ⟨G', .refl, .int _⟩
    · rw [List.getElem?_eq_none (by rw [List.length_range]; omega)] at hd
      cases hd
  · unfold upI at hl
    rw [List.length_map, List.length_range] at hl
    exact hl⟩
/-- the opening of a walk made by arguments -/
theorem iN_open {f : List PyData → Option (List PyData)} {Z : Zn} {G H : Hp} {σ : L2.St} {ρ ρ' : En} {ds : List PyData} (R : SR K Z G H σ ρ) (q : iN f as ρ = some (ds, ρ'))
    {Rc : It → Hp → Prop} (k : ∀ J G' H', Ex G G' → SR K Z G' H' σ ρ' → ItD K J G' ds → Rc J H') {Q : List V → Hp → Prop}
    (h : ∀ xs vs G' H', f xs = some ds → Ex G G' → SR K Z G' H' σ ρ' → DrAll K G' vs xs → (∀ J G'' H'', Ex G' G'' → SR K Z G'' H'' σ ρ' → ItD K J G'' ds → Rc J H'') → Q vs H') : tAs K as σ H Q := by
  unfold iN at q
  split at q
  · rename_i xs ρ1 qa
    split at q
    · rename_i ds' hf
      cases q
      exact ⟨Z, G, ρ, xs, _, R, qa, fun vs G' H' ex R' dvs => h xs vs G' H' hf ex R' dvs fun J G'' H'' e2 => k J G'' H'' (ex.trans e2)⟩
    · cases q
  · cases q
theorem ri_range1 {e1 : Expr} {p : Pos} (hg : Gl X "range") (hm : X.mg "range" = none) (ha : PA X [e1] (tAs K as)) (hs : starEach [e1] X.env = [(false, eval e1 X.env)] := by rfl) :
    PI X tg (.Call (.Name "range" p) [e1] [] pos) (tI K (iN rng1 as)) := (pi_range1 hg hm ha hs).conv fun σ H Rc ⟨Z, G, ρ, ds, ρ', R, q, k⟩ => iN_open R q k fun xs vs G' H' hf ex R' dvs k' => by
  unfold rng1 at hf
  split at hf
  · split at hf
    · rename_i n hn
      cases hf
      cases dvs with
      | cons d1 d2 =>
        cases d1
        cases d2
        exact ⟨n, rfl, hn.1, by omega, k' _ G' H' (Ex.refl _) R' (itD_rng (by rw [sizeLine_eq]; omega))⟩
    · cases hf
  · cases hf
theorem ri_range2 {e1 e2 : Expr} {p : Pos} (hg : Gl X "range") (hm : X.mg "range" = none) (ha : PA X [e1, e2] (tAs K as)) (hs : starEach [e1, e2] X.env = [(false, eval e1 X.env), (false, eval e2 X.env)] := by rfl) (hs2 : starEach [e2] X.env = [(false, eval e2 X.env)] := by rfl) :
    PI X tg (.Call (.Name "range" p) [e1, e2] [] pos) (tI K (iN rng2 as)) := (pi_range2 hg hm ha hs hs2).conv fun σ H Rc ⟨Z, G, ρ, ds, ρ', R, q, k⟩ => iN_open R q k fun xs vs G' H' hf ex R' dvs k' => by
  unfold rng2 at hf
  split at hf
  · split at hf
    · rename_i i j hn
      cases hf
      cases dvs with
      | cons d1 d2 =>
        cases d2 with
        | cons d2 d3 =>
          cases d1
          cases d2
          cases d3
          exact ⟨i, j, rfl, ⟨hn.1, hn.2.1, hn.2.2.1, hn.2.2.2.1⟩, k' _ G' H' (Ex.refl _) R' (itD_rng (by rw [sizeLine_eq]; omega))⟩
    · cases hf
  · cases hf
/-- enumerate of a list -/
def enumD : List PyData → Option (List PyData)
  | [.list xs] => some (xs.mapIdx fun i x => .tuple [.int i, x])
  | _ => none
theorem itD_enum {G : Hp} {p : Addr} {vs : List V} {ds : List PyData} (h : G p = some (.lst vs)) (z : vs.length ≤ sizeLine) (t : DrAll K G vs ds) : ItD K (Ite K p) G (ds.mapIdx fun i x => .tuple [.int i, x]) := ⟨by rw [List.length_mapIdx, ← t.len]; exact z, fun i G' H' ex gh => by
  have hq : SqL K H' p vs := .inl (.inl (gh _ _ (ex _ _ h)))
  refine ⟨fun d hd => ?_, fun hl => ⟨vs, hq, by rw [t.len]; rw [List.length_mapIdx] at hl; exact hl⟩⟩
  rw [List.getElem?_mapIdx] at hd
  cases e : ds[i]? with
  | none => rw [e] at hd; cases hd
  | some y =>
    rw [e] at hd
    cases hd
    obtain ⟨v, e1, e2⟩ := t.get e
    refine ⟨⟨vs, v, hq, e1⟩, fun x H'' yl => ?_⟩
    obtain ⟨T, z, rfl, hT, rfl, f⟩ := yl
    have := f vs hq
    rw [e1] at this
    cases this
    exact ⟨_, .one hT, .tup (.inl (.inl upd_same)) (by show 2 ≤ sizeLine; decide) (.cons (.int _) (.cons (e2.mono (ex.trans (Ex.new (gh.none hT)))) .nil))⟩⟩
theorem ri_enum {e1 : Expr} {p tpos : Pos} {elts : List Expr} {kk : Nat} (hg : Gl X "enumerate") (hm : X.mg "enumerate" = none) (ha : PA X [e1] (tAs X.K as)) (hs : starEach [e1] X.env = [(false, eval e1 X.env)] := by rfl) :
    PI X (.Tuple elts kk tpos) (.Call (.Name "enumerate" p) [e1] [] pos) (tI X.K (iN enumD as)) := (pi_enum hg hm ha hs).conv fun σ H Rc ⟨Z, G, ρ, ds, ρ', R, q, k⟩ => iN_open R q k fun xs vs G' H' hf ex R' dvs k' => by
  unfold enumD at hf
  split at hf
  · cases hf
    cases dvs with
    | cons d1 d2 =>
      cases d2
      cases d1 with
      | lst h1 z t => exact ⟨_, _, rfl, .inl (.inl (R'.gh _ _ h1)), k' _ G' H' (Ex.refl _) R' (itD_enum h1 z t)⟩
  · cases hf

/-! ### for -/
def forD (g : Gv) (ψ : Sv) : List PyData → En → Option Fw
  | [], ρ => some (.nx ρ)
  | x :: xs, ρ => match g x ρ with
    | some ρ1 => (match ψ ρ1 with
      | some (.nx ρ2) => forD g ψ xs ρ2
      | some (.ct ρ2) => forD g ψ xs ρ2
      | some (.brk ρ2) => some (.nx ρ2)
      | some (.ret d ρ2) => some (.ret d ρ2)
      | none => none)
    | none => none
def sFor (it : Es) (g : Gv) (ψ : Sv) : Sv := fun ρ => match it ρ with
  | some (ds, ρ1) => forD g ψ ds ρ1
  | none => none
variable {fr : Bool} {it : Es} {g : Gv} {ψ : Sv} {vs : List Nat}
theorem r_for {body : List Stmt} (hp : PassesOwn (model X.prog X.w) X.A X.env X.xe) (hc : X.calm = true) (hi : PI X tg iter (tI K it)) (hg : PG X tg (gD K vs g)) (hb : PSs X body (tT K fr ψ))
    (hs : ∀ x, foldedSetIterable iter X.env x = pure x := by intro _; rfl) : PS X (.For tg iter body [] pos) (tT K fr (sFor it g ψ)) := (ps_for hp hc hi hg hb hs).conv fun D σ H ⟨Z, G, ρ, w, zp, R, q, k⟩ => by
  unfold sFor at q
  split at q
  · rename_i ds ρ1 qi
    refine ⟨Z, G, ρ, ds, ρ1, R, qi, fun J G1 H1 ex R1 it1 => ?_⟩
    refine ⟨fun i m σ H => m = ds.length - i ∧ i ≤ ds.length ∧ ∃ G' ρ', Ex G1 G' ∧ SR K Z G' H σ ρ' ∧ forD g ψ (ds.drop i) ρ' = some w, ⟨_, rfl, Nat.zero_le _, G1, ρ1, Ex.refl _, R1, q⟩, ?_⟩
    rintro i m σ2 H2 ⟨rfl, hi, G2, ρ2, ex2, R2, q2⟩
    obtain ⟨f1, f2⟩ := it1.turn i G2 H2 ex2 R2.gh
    by_cases hlt : i < ds.length
    · have e0 : ds[i]? = some ds[i] := List.getElem?_eq_getElem hlt
      obtain ⟨go, fy⟩ := f1 _ e0
      rw [List.drop_eq_getElem_cons hlt] at q2
      unfold forD at q2
      refine .inr ⟨go, fun σ' H' => ∃ G' ρ', Ex G1 G' ∧ SR K Z G' H' σ' ρ' ∧ forD g ψ (ds.drop (i + 1)) ρ' = some w, fun σ' H' hN => ⟨ds.length - (i + 1), by omega, rfl, hlt, hN⟩, fun x H3 yl => ?_⟩
      obtain ⟨G3, al, dx⟩ := fy x H3 yl
      have R3 := R2.al al
      have e3 := (al.ex R2.gh).1
      split at q2
      · rename_i ρ4 qg
        refine ⟨Z, G3, ρ2, _, ρ4, R3, dx, qg, fun σ4 R4 _ => ?_⟩
        have e13 : Ex G1 G3 := ex2.trans e3
        split at q2
        · rename_i ρ5 qb
          exact ⟨Z, G3, ρ4, .nx ρ5, zp, R4, qb, fun σ' G' H' e' R' => ⟨G', ρ5, e13.trans e', R', q2⟩⟩
        · rename_i ρ5 qb
          exact ⟨Z, G3, ρ4, .ct ρ5, zp, R4, qb, fun σ' G' H' e' R' => ⟨G', ρ5, e13.trans e', R', q2⟩⟩
        · rename_i ρ5 qb
          cases q2
          exact ⟨Z, G3, ρ4, .brk ρ5, zp, R4, qb, fun σ' G' H' e' R' => k σ' G' H' ((ex.trans e13).trans e') R'⟩
        · rename_i d ρ5 qb
          cases q2
          exact ⟨Z, G3, ρ4, .ret d ρ5, zp, R4, qb, fun v σ' G' H' e' R' => k v σ' G' H' ((ex.trans e13).trans e') R'⟩
        · cases q2
      · cases q2
    · have e0 : i = ds.length := by omega
      subst e0
      rw [List.drop_length] at q2
      unfold forD at q2
      cases q2
      exact .inl ⟨f2 (Nat.le_refl _), k σ2 G2 H2 (ex.trans ex2) R2⟩
  · cases q

/-! ### while -/
def whileD (c : Eq) (ψ : Sv) : Nat → En → Option Fw
  | 0, _ => none
  | n + 1, ρ => match c ρ with
    | some (true, ρ1) => (match ψ ρ1 with
      | some (.nx ρ2) => whileD c ψ n ρ2
      | some (.ct ρ2) => whileD c ψ n ρ2
      | some (.brk ρ2) => some (.nx ρ2)
      | some (.ret d ρ2) => some (.ret d ρ2)
      | none => none)
    | some (false, ρ1) => some (.nx ρ1)
    | none => none
variable {c : Eq}
theorem r_while {ce : Expr} {body : List Stmt} (n : Nat) (hp : PassesOwn (model X.prog X.w) X.A X.env X.xe) (hc : PT X ce (tQ K c)) (hb : PSs X body (tT K fr ψ)) : PS X (.While ce body [] pos) (tT K fr (whileD c ψ n)) :=
  (ps_while hp hc hb).conv fun D σ H ⟨Z, G, ρ, w, zp, R, q, k⟩ => by
    refine ⟨fun m σ H => ∃ G' ρ', Ex G G' ∧ SR K Z G' H σ ρ' ∧ whileD c ψ m ρ' = some w, ⟨n, G, ρ, Ex.refl _, R, q⟩, ?_⟩
    rintro m σ2 H2 ⟨G2, ρ2, ex2, R2, q2⟩
    cases m with
    | zero => cases q2
    | succ m =>
      unfold whileD at q2
      split at q2
      · rename_i ρ3 qc
        refine ⟨Z, G2, ρ2, true, ρ3, R2, qc, fun G3 H3 e3 R3 => ?_⟩
        have e13 := ex2.trans e3
        refine iteT ⟨fun σ' H' => ∃ G' ρ', Ex G G' ∧ SR K Z G' H' σ' ρ' ∧ whileD c ψ m ρ' = some w, fun σ' H' hN => ⟨m, Nat.lt_succ_self _, hN⟩, ?_⟩
        split at q2
        · rename_i ρ5 qb
          exact ⟨Z, G3, ρ3, .nx ρ5, zp, R3, qb, fun σ' G' H' e' R' => ⟨G', ρ5, e13.trans e', R', q2⟩⟩
        · rename_i ρ5 qb
          exact ⟨Z, G3, ρ3, .ct ρ5, zp, R3, qb, fun σ' G' H' e' R' => ⟨G', ρ5, e13.trans e', R', q2⟩⟩
        · rename_i ρ5 qb
          cases q2
          exact ⟨Z, G3, ρ3, .brk ρ5, zp, R3, qb, fun σ' G' H' e' R' => k σ' G' H' (e13.trans e') R'⟩
        · rename_i d ρ5 qb
          cases q2
          exact ⟨Z, G3, ρ3, .ret d ρ5, zp, R3, qb, fun v σ' G' H' e' R' => k v σ' G' H' (e13.trans e') R'⟩
        · cases q2
      · rename_i ρ3 qc
        cases q2
        exact ⟨Z, G2, ρ2, false, ρ3, R2, qc, fun G3 H3 e3 R3 => iteF (k σ2 G3 H3 (ex2.trans e3) R3)⟩
      · cases q2

/-! ### comprehensions -/
def wipeE (ρ : En) : List Nat → En
  | [] => ρ
  | v :: vs => (wipeE ρ vs).set v .u
/-- behind a comprehension: its own slots as they were (data alone), the others as they are -/
def mixE (vs : List Nat) (ρ1 ρ2 : En) : En := ρ2.mapIdx fun i s => if vs.contains i then (match ρ1[i]? with
  | some (.d x) => .d x
  | _ => .u) else s
def lcD (vs : List Nat) (g : Gv) (q : Eq) (a : Ev) : List PyData → En → Option (List PyData × En)
  | [], ρ => some ([], ρ)
  | x :: xs, ρ => match g x ρ with
    | some ρ1 => (match q ρ1 with
      | some (true, ρ2) => (match a ρ2 with
        | some (d, ρ3) => (match lcD vs g q a xs (wipeE ρ3 vs) with
          | some (r, ρ4) => some (d :: r, ρ4)
          | none => none)
        | none => none)
      | some (false, ρ2) => lcD vs g q a xs (wipeE ρ2 vs)
      | none => none)
    | none => none
def eLc (vs : List Nat) (it : Es) (g : Gv) (q : Eq) (a : Ev) : Ev := fun ρ => match it ρ with
  | some (ds, ρ1) => (match lcD vs g q a ds (wipeE ρ1 vs) with
    | some (out, ρ2) => some (.list out, mixE vs ρ1 ρ2)
    | none => none)
  | none => none
def qYes : Eq := fun ρ => some (true, ρ)
theorem rt_nil : PTs X [] (tQ K qYes) := pts_nil.conv fun σ H Q ⟨Z, G, ρ, b, ρ', R, q, k⟩ => by
  cases q
  exact k G H (Ex.refl _) R
theorem rt_one {q : Eq} (h : PT X e (tQ K q)) : PTs X [e] (tQ K q) := pts_one h

theorem wipe_wipe {σ : L2.St} {vs : List Nat} : L2.wipe (L2.wipe σ vs) vs = L2.wipe σ vs := by
  have : ∀ ws : List Nat, (∀ i ∈ ws, i ∈ vs) → L2.wipe (L2.wipe σ vs) ws = L2.wipe σ vs := by
    intro ws
    induction ws with
    | nil => intro _; rfl
    | cons w ws ih =>
      intro h
      show (L2.wipe (L2.wipe σ vs) ws).set w none = L2.wipe σ vs
      rw [ih fun i hi => h i (List.mem_cons_of_mem _ hi)]
      have hw := h w List.mem_cons_self
      have : ∀ us : List Nat, w ∈ us → (L2.wipe σ us).set w none = L2.wipe σ us := by
        intro us
        induction us with
        | nil => intro z; cases z
        | cons u us ih2 =>
          intro z
          show ((L2.wipe σ us).set u none).set w none = (L2.wipe σ us).set u none
          by_cases e : w = u
          · subst e; rw [List.set_set]
          · rw [List.set_comm _ _ (Ne.symm e), ih2 (by rcases List.mem_cons.mp z with q | q; exact absurd q e; exact q)]
      exact this vs hw
  exact this vs fun _ h => h
theorem wipeE_len (ρ : En) : ∀ vs : List Nat, (wipeE ρ vs).length = ρ.length
  | [] => rfl
  | v :: vs => by unfold wipeE; rw [List.length_set, wipeE_len ρ vs]
theorem wipeE_at {ρ : En} {i : Nat} {s : Sl} : ∀ {vs : List Nat}, (wipeE ρ vs)[i]? = some s → s = .u ∨ (i ∉ vs ∧ ρ[i]? = some s)
  | [], h => .inr ⟨by simp, h⟩
  | v :: vs, h => by
    unfold wipeE at h
    rcases getElem?_set_cases h with ⟨_, z⟩ | ⟨n, z⟩
    · exact .inl z
    · rcases wipeE_at z with z | ⟨z1, z2⟩
      · exact .inl z
      · exact .inr ⟨fun m => by rcases List.mem_cons.mp m with q | q; exact n q; exact z1 q, z2⟩
theorem SR.wipe {Z : Zn} {G H : Hp} {σ : L2.St} {ρ : En} (R : SR K Z G H σ ρ) (vs : List Nat) : SR K Z G H (wipe σ vs) (wipeE ρ vs) := by
  have R1 : SR K Z G H σ (wipeE ρ vs) := R.less (wipeE_len ρ vs) fun i s h => by
    rcases wipeE_at h with z | z
    · exact .inl z
    · exact .inr z.2
  refine R1.slots (wipe_length σ vs) fun i s v h hu hv => ?_
  rcases wipeE_at h with z | z
  · exact absurd z hu
  · rw [wipe_out z.1]; exact hv
theorem mixE_at {vs : List Nat} {ρ1 ρ2 : En} {i : Nat} {s : Sl} (h : (mixE vs ρ1 ρ2)[i]? = some s) : (i ∈ vs ∧ (s = .u ∨ ∃ x, s = .d x ∧ ρ1[i]? = some (.d x))) ∨ (i ∉ vs ∧ ρ2[i]? = some s) := by
  unfold mixE at h
  rw [List.getElem?_mapIdx] at h
  cases e : ρ2[i]? with
  | none => rw [e] at h; cases h
  | some t =>
    rw [e] at h
    simp only [Option.map_some, Option.some.injEq] at h
    by_cases hv : i ∈ vs
    · refine .inl ⟨hv, ?_⟩
      rw [if_pos (by simpa using hv)] at h
      split at h
      · rename_i x hx; exact .inr ⟨x, h.symm, hx⟩
      · exact .inl h.symm
    · rw [if_neg (by simpa using hv)] at h
      subst h
      exact .inr ⟨hv, rfl⟩
theorem SR.mix {Z : Zn} {G1 H1 G2 H2 : Hp} {σ : L2.St} {ρ1 ρ2 : En} (vs : List Nat) (R1 : SR K Z G1 H1 σ ρ1) (R2 : SR K Z G2 H2 (L2.wipe σ vs) ρ2) (ex : Ex G1 G2) : SR K Z G2 H2 σ (mixE vs ρ1 ρ2) := by
  have out : ∀ {i : Nat}, i ∉ vs → (L2.wipe σ vs)[i]? = σ[i]? := fun h => wipe_out h
  have own : ∀ {i : Nat} {s : Sl} {x : PyData}, (mixE vs ρ1 ρ2)[i]? = some s → s.own = some x → i ∉ vs ∧ ρ2[i]? = some s := fun {i s x} h q => by
    rcases mixE_at h with ⟨_, z | ⟨y, z, _⟩⟩ | z
    · subst z; cases q
    · subst z; cases q
    · exact z
  refine ⟨?_, R2.gh, R2.zg, R2.g0, R2.h0, R2.h1, fun i x e => ?_, fun i s x e q => ?_, fun i x e => ?_, fun i x a e e2 => ?_, R2.zpin, fun i j a hi hj e1 e2 => ?_⟩
  · unfold mixE; rw [List.length_mapIdx, R2.len, wipe_length]
  · rcases mixE_at e with ⟨_, z | ⟨y, z, h⟩⟩ | ⟨n, h⟩
    · cases z
    · cases z
      obtain ⟨v, h1, h2⟩ := R1.str i x h
      exact ⟨v, h1, h2.mono ex⟩
    · obtain ⟨v, h1, h2⟩ := R2.str i x h
      rw [out n] at h1
      exact ⟨v, h1, h2⟩
  · obtain ⟨n, h⟩ := own e q
    obtain ⟨a, h1, h2⟩ := R2.own i s x h q
    rw [out n] at h1
    exact ⟨a, h1, h2⟩
  · obtain ⟨n, h⟩ := own e rfl
    obtain ⟨a, h1, h2⟩ := R2.bor i x h
    rw [out n] at h2
    exact ⟨a, h1, h2⟩
  · obtain ⟨n, h⟩ := own e rfl
    rw [← out n] at e2
    exact R2.opin i x a h e2
  · obtain ⟨s1, x1, p1, q1⟩ := hi
    obtain ⟨s2, x2, p2, q2⟩ := hj
    obtain ⟨n1, r1⟩ := own p1 q1
    obtain ⟨n2, r2⟩ := own p2 q2
    rw [← out n1] at e1
    rw [← out n2] at e2
    exact R2.inj i j a ⟨_, _, r1, q1⟩ ⟨_, _, r2, q2⟩ e1 e2
/-- an object that is nobody's changes -/
theorem SR.other {Z : Zn} {G H : Hp} {σ : L2.St} {ρ : En} {D : Addr} {u : HO} (R : SR K Z G H σ ρ) (hg : G D = none) (hz : Z.H D = none) (hn : ∀ j, Owned ρ j → σ[j]? ≠ some (some (.ref D))) : SR K Z G (upd H D u) σ ρ := by
  have ne : ∀ {a : Addr} {o : HO}, Z.H a = some o → a ≠ D := fun e z => by rw [z, hz] at e; cases e
  refine ⟨R.len, R.gh.side hg, R.zg, R.g0, fun a o e n => ?_, fun a o e => ?_, R.str, fun i s x e q => ?_, R.bor, R.opin, R.zpin, R.inj⟩
  · rw [upd_ne (ne e)]; exact R.h0 a o e n
  · rw [upd_ne (ne e)]; exact R.h1 a o e
  · obtain ⟨a, h1, h2, h3, h4⟩ := R.own i s x e q
    have na : a ≠ D := fun z => by subst z; exact hn i ⟨s, x, e, q⟩ h1
    exact ⟨a, h1, h2, h3.mono (Ex.refl _) (upd_ne na), h4⟩
theorem notOwned_wipe {σ : L2.St} {ρ : En} {D : Addr} {vs : List Nat} (hn : ∀ j, Owned ρ j → σ[j]? ≠ some (some (.ref D))) : ∀ j, Owned (wipeE ρ vs) j → (L2.wipe σ vs)[j]? ≠ some (some (.ref D)) := fun j ⟨s, x, e, q⟩ => by
  rcases wipeE_at e with z | ⟨z1, z2⟩
  · subst z; cases q
  · rw [wipe_out z1]; exact hn j ⟨s, x, z2, q⟩
theorem notOwned_snap {Z : Zn} {G H G' H' : Hp} {σ σ' : L2.St} {ρ ρ' : En} {D : Addr} {u : HO} (hn : ∀ j, Owned ρ j → σ[j]? ≠ some (some (.ref D))) (hD : H D = some u) (R' : SR K (snap Z G H σ ρ) G' H' σ' ρ') :
    ∀ j, Owned ρ' j → σ'[j]? ≠ some (some (.ref D)) := fun j ⟨s, x, e, q⟩ z => by
  obtain ⟨a, h1, _, _, h4⟩ := R'.own j s x e q
  rw [z] at h1; cases h1
  rcases h4 with ⟨i, hi, hs⟩ | h4
  · exact hn i hi hs
  · have h4' : H D = none := h4
    rw [hD] at h4'; cases h4'
theorem t_lc {q : Eq} {σ : L2.St} {H : Hp} {Q : VK} (h : tF K (eLc vs it g q a) σ H Q) : tLc (tI K it) (gD K vs g) (tQ K q) (tS K a) vs σ H Q := by
  obtain ⟨Z, G, ρ, d, ρ', R, hq, k⟩ := h
  unfold eLc at hq
  split at hq
  · rename_i ds ρ1 qi
    split at hq
    · rename_i out ρ2 ql
      cases hq
      refine ⟨Z, G, ρ, ds, ρ1, R, qi, fun J G1 H1 ex1 R1 it1 D hD => ?_⟩
      have hgD : G1 D = none := R1.gh.none hD
      have hzD : Z.H D = none := R1.znone hD
      refine ⟨fun i m H => m = ds.length - i ∧ i ≤ ds.length ∧ ∃ G' ρ' acc ac rest, Ex G1 G' ∧ SR K Z G' H (L2.wipe σ vs) ρ' ∧ G' D = none ∧ (∀ j, Owned ρ' j → (L2.wipe σ vs)[j]? ≠ some (some (.ref D))) ∧
        H D = some (.lst acc) ∧ DrAll K G' acc ac ∧ acc.length ≤ i ∧ lcD vs g q a (ds.drop i) ρ' = some (rest, ρ2) ∧ out = ac ++ rest,
        ⟨_, rfl, Nat.zero_le _, G1, wipeE ρ1 vs, [], [], out, Ex.refl _, (R1.beside hD).wipe vs, hgD, notOwned_wipe (R1.notOwned hD), upd_same, .nil, Nat.zero_le _, ql, rfl⟩, ?_⟩
      rintro i m H2 ⟨rfl, hi, G2, ρ3, acc, ac, rest, ex2, R2, g2, n2, hD2, da, hal, q2, ho⟩
      obtain ⟨f1, f2⟩ := it1.turn i G2 H2 ex2 R2.gh
      by_cases hlt : i < ds.length
      · obtain ⟨go, fy⟩ := f1 _ (List.getElem?_eq_getElem hlt)
        rw [List.drop_eq_getElem_cons hlt] at q2
        unfold lcD at q2
        refine .inr ⟨go, fun H' => ∃ G' ρ' acc ac rest, Ex G1 G' ∧ SR K Z G' H' (L2.wipe σ vs) ρ' ∧ G' D = none ∧ (∀ j, Owned ρ' j → (L2.wipe σ vs)[j]? ≠ some (some (.ref D))) ∧
          H' D = some (.lst acc) ∧ DrAll K G' acc ac ∧ acc.length ≤ i + 1 ∧ lcD vs g q a (ds.drop (i + 1)) ρ' = some (rest, ρ2) ∧ out = ac ++ rest, fun H' hN => ⟨ds.length - (i + 1), by omega, rfl, hlt, hN⟩, fun x H3 yl => ?_⟩
        obtain ⟨G3, al, dx⟩ := fy x H3 yl
        have R3 := R2.al al
        have e3 := (al.ex R2.gh).1
        have hD3 : H3 D = some (.lst acc) := (al.ex R2.gh).2.1 _ _ hD2
        have g3 : G3 D = none := by
          cases al with
          | refl => exact g2
          | one hp => rw [upd_ne (fun z => by rw [z, hp] at hD2; cases hD2)]; exact g2
        split at q2
        · rename_i ρ4 qg
          -- a turn's zone
          refine ⟨snap Z G3 H3 (L2.wipe σ vs) ρ3, G3, ρ3, _, ρ4, R3.snap, dx, qg, fun σ4 R4 hw => ⟨by rw [hw]; exact wipe_wipe, ?_⟩⟩
          have keep : ∀ {σ' : L2.St} {G' H' : Hp} {ρ' : En}, SR K (snap Z G3 H3 (L2.wipe σ vs) ρ3) G' H' σ' ρ' → H' D = some (.lst acc) ∧ G' D = none := fun {σ' G' H' ρ'} R' => by
            refine ⟨R'.h0 D _ hD3 fun ⟨j, hj, hs⟩ => n2 j hj hs, (R'.g0 D _ hD3).trans g3⟩
          split at q2
          · rename_i ρ5 qq
            refine ⟨_, G3, ρ4, true, ρ5, R4, qq, fun G5 H5 ex5 R5 => iteT ?_⟩
            split at q2
            · rename_i y ρ6 qa
              split at q2
              · rename_i r ρ7 qr
                cases q2
                refine ⟨_, G5, ρ5, y, ρ6, R5, qa, fun v G6 H6 ex6 R6 dv => ?_⟩
                obtain ⟨hD6, g6⟩ := keep R6
                refine ⟨acc, hD6, by have := it1.len; omega, G6, wipeE ρ6 vs, acc ++ [v], ac ++ [y], r, ((ex2.trans e3).trans ex5).trans ex6, ?_, g6, ?_, upd_same, ?_, ?_, qr, ?_⟩
                · have RB := R3.back R6
                  have R7 := (RB.other (D := D) (u := .lst (acc ++ [v])) g6 hzD (notOwned_snap n2 hD3 R6)).wipe vs
                  rw [hw, wipe_wipe] at R7
                  exact R7
                · have n7 := notOwned_wipe (vs := vs) (notOwned_snap n2 hD3 R6)
                  rw [hw, wipe_wipe] at n7
                  exact n7
                · exact (da.mono ((e3.trans ex5).trans ex6)).append (.cons dv .nil)
                · rw [List.length_append, List.length_singleton]; omega
                · rw [ho, List.append_assoc]; rfl
              · cases q2
            · cases q2
          · rename_i ρ5 qq
            refine ⟨_, G3, ρ4, false, ρ5, R4, qq, fun G5 H5 ex5 R5 => iteF ?_⟩
            obtain ⟨hD5, g5⟩ := keep R5
            refine ⟨G5, wipeE ρ5 vs, acc, ac, rest, (ex2.trans e3).trans ex5, ?_, g5, ?_, hD5, da.mono (e3.trans ex5), by omega, q2, ho⟩
            · have R7 := (R3.back R5).wipe vs
              rw [hw, wipe_wipe] at R7
              exact R7
            · have n7 := notOwned_wipe (vs := vs) (notOwned_snap n2 hD3 R5)
              rw [hw, wipe_wipe] at n7
              exact n7
          · cases q2
        · cases q2
      · have e0 : i = ds.length := by omega
        subst e0
        rw [List.drop_length] at q2
        unfold lcD at q2
        cases q2
        rw [List.append_nil] at ho
        subst ho
        refine .inl ⟨f2 (Nat.le_refl _), ?_⟩
        refine k D G2 H2 (ex1.trans ex2) (R1.mix vs R2 ex2) g2 hzD (fun j hj => ?_) ⟨acc, hD2, Nat.le_trans hal it1.len, da⟩
        obtain ⟨s, x, e, qo⟩ := hj
        rcases mixE_at e with ⟨_, z | ⟨y, z, _⟩⟩ | ⟨n, z⟩
        · subst z; cases qo
        · subst z; cases qo
        · have := n2 j ⟨s, x, z, qo⟩
          rw [wipe_out n] at this
          exact this
    · cases hq
  · cases hq

theorem r_lc {elt : Expr} {ifs : List Expr} {scope : Scope} {own : List (Str × Nat)} {q : Eq} (hc : X.calm = true) (hN : X.N.Nodup) (hi : PI X tg iter (tI K it)) (ok : BlkOk X.N X.env.scope scope own)
    (hg : ∀ (s : Shared) (H : Hp) (C : Addr) (cl : List (Str × Addr)) (fp : List Addr), PG (X.blk s H scope (compEnvC scope cl C X.env) fp) tg (gD K (own.map (·.2)) g))
    (ht : ∀ (s : Shared) (H : Hp) (C : Addr) (cl : List (Str × Addr)) (fp : List Addr), PTs (X.blk s H scope (compEnvC scope cl C X.env) fp) ifs (tQ K q))
    (he : ∀ (s : Shared) (H : Hp) (C : Addr) (cl : List (Str × Addr)) (fp : List Addr), PE (X.blk s H scope (compEnvC scope cl C X.env) fp) elt (tS K a)) (hs : ∀ x, foldedSetIterable iter X.env x = pure x := by intro _; rfl) :
    PE X (.ListComp elt [⟨tg, iter, ifs, 0⟩] scope pos) (tF K (eLc (own.map (·.2)) it g q a)) := (pe_lc hc hN hi ok hg ht he hs).conv fun _ _ _ h => t_lc h
end
end DL

set_option maxHeartbeats 1000000
/-! DL6: defs, their promises, their calls; where nothing is being shown (guards). -/
namespace DL
open PySem PySem.Spec PyProof.Rows L2

/-- as FnOk, for callers under whom no container is being shown -/
structure FnG (P : Program) (w : World) (K : PySem.W.Frag) (mg : Str → Option Value) (base : Heap) (k : Nat) (f : Addr) (fd : FuncData) (ps : List Str) (sp : Sp) : Prop where
  len : ∀ vs H Q E, sp vs H Q E → vs.length = ps.length
  run : ∀ (A : Around) (outer : List Env) (s : Shared) (H : Hp) (args : Args) (us : List Value) (vs : List V) (Q : VK) (E : XK), Room k A → A.guards = some [] →
    Env0 P w K mg base A outer s H → BindsTo s fd args (ps.zip us) → Vals vs us → sp vs H Q E → codeAny (model P w) A (.call (.ref f) args) (CR CX0 outer P w H s Q E) s
section
variable {P : Program} {w : World} {K : PySem.W.Frag} {mg : Str → Option Value} {base : Heap}
theorem FnG.mono {j k : Nat} {f : Addr} {fd : FuncData} {ps : List Str} {sp : Sp} (F : FnG P w K mg base j f fd ps sp) (h : j ≤ k) : FnG P w K mg base k f fd ps sp :=
  ⟨F.len, fun A outer s H args us vs Q E hr hg => F.run A outer s H args us vs Q E (hr.mono h) hg⟩
theorem FnG.imp {k : Nat} {f : Addr} {fd : FuncData} {ps : List Str} {sp sp' : Sp} (F : FnG P w K mg base k f fd ps sp) (h : ∀ vs H Q E, sp' vs H Q E → sp vs H Q E) : FnG P w K mg base k f fd ps sp' :=
  ⟨fun vs H Q E q => F.len vs H Q E (h _ _ _ _ q), fun A outer s H args us vs Q E hr hg he hb hv hs => F.run A outer s H args us vs Q E hr hg he hb hv (h _ _ _ _ hs)⟩
theorem FnG.of {k : Nat} {f : Addr} {fd : FuncData} {ps : List Str} {sp : Sp} (F : FnOk P w K mg base CX0 k f fd ps sp) : FnG P w K mg base k f fd ps sp :=
  ⟨F.len, fun A outer s H args us vs Q E hr _ => F.run A outer s H args us vs Q E hr⟩
/-- the context of a def's body -/
abbrev cxG (P : Program) (w : World) (K : PySem.W.Frag) (mg : Str → Option Value) (base : Heap) (N : List Str) (qual : Str) (st : Stmt) (f : Addr) (cdv : Value) (A : Around) (outer : List Env) (s : Shared) (H : Hp) (E : XK) : Cx :=
  (cxOf CX0 P w K mg base N qual (defScope st) f cdv A outer s H E).nox
theorem fnG_ok {x qual : Str} {st : Stmt} {f : Addr} {fd : FuncData} {N ps : List Str} {k : Nat} {sp : Sp} (F : Fun K x qual st f fd) (S : FnScope N ps (defScope st)) (len : ∀ vs H Q E, sp vs H Q E → vs.length = ps.length)
    (body : ∀ (cdv : Value) (A : Around) (outer : List Env) (s : Shared) (H : Hp) (vs : List V) (Q : VK) (E : XK), Room k (A.deeper (envOfC qual (defScope st) s.heap.objs.size f cdv)) → A.guards = some [] → sp vs H Q E →
      ∃ t, PSs (cxG P w K mg base N qual st f cdv A outer s H E) (defBody st) t ∧ t { nx := fun _ H' => Q .non H', rt := Q } (start N vs) H) : FnG P w K mg base (k + 1) f fd ps sp := by
  obtain ⟨oc, od, kV, doc, pm, an, cdv, ct, osl, rfl, lk, hcd⟩ := F.ex
  refine ⟨len, ?_⟩
  intro A outer s H args us vs Q E hr hg e0 hb rv hsp
  have keepB : ∀ b o, base.get? b = some o → s.heap.get? b = some o := fun b o e => (e0.bs b o e).1
  have KX : K.In s.heap := e0.mod.kin.keeps keepB
  have kinds : ∀ y ∈ ps.zip us, (defScope st).names.lookup y.1 = some .local ∨ ((defScope st).names.lookup y.1 = some .cell ∧ ((cellsFrom (s.heap.objs.size + 1) (defScope st).names []).lookup y.1).isSome = true) := by
    intro y hy
    rcases S.par y.1 (List.of_mem_zip (show (y.1, y.2) ∈ ps.zip us from hy)).1 with loc | cel
    · exact .inl loc
    · exact .inr ⟨cel, PySem.W.cellsFrom_some _ _ _ (.inl cel)⟩
  refine codeAny_call_function hr.depth (KX _ _ lk) rfl S.co S.gen rfl (PySem.W.codeRec_of KX hcd) (hb _ _ _ _ ?_)
  refine wpAny_newFunctionEnv_cells S.kind kinds fun env he s1 x1 => ?_
  subst he
  refine ⟨(e0.mod.nolimit.keeps keepB).keeps x1.toInCall.keep, codeAny_func ?_⟩
  obtain ⟨t, ht, hq⟩ := body cdv A outer s H vs Q E (hr.deeper _) hg hsp
  have I0 := inv_start (CX := CX0) (E := E) S hr.hd e0 (len _ _ _ _ hsp) rv x1
  refine wpAny_mono (ht.nox.run [] s1 (start N vs) H _ I0 hq) (fun fl s2 h2 => ?_) fun e s2 h2 => h2
  cases fl with
  | ret u =>
    obtain ⟨v, σ2, H2, J, r2, q2⟩ := h2
    exact ⟨v, H2, J.os, J.bare, J.base, J.hok, r2, q2⟩
  | next =>
    obtain ⟨σ2, H2, J, q2⟩ := h2
    exact ⟨V.non, H2, J.os, J.bare, J.base, J.hok, rfl, q2⟩
  | brk =>
    obtain ⟨_, _, _, q2⟩ := h2
    exact q2.elim
  | cont =>
    obtain ⟨_, _, _, q2⟩ := h2
    exact q2.elim
end
section
variable {X : Cx} {k : Nat} {f : Addr} {fd : FuncData} {ps : List Str} {sp : Sp} {x : Str} {p pos : Pos} {e : Expr} {es : List Expr} {t : TA}
theorem runG {pins : List (Addr × Obj)} {σ : L2.St} {H : Hp} {s : Shared} {Q : VK} {us : List Value} {vs : List V} (F : FnG X.prog X.w X.K X.mg X.base k f fd ps sp) (hr : Room k X.A) (hg : X.A.guards = some []) (hb : Binds X.K fd ps [])
    (I : Inv X pins σ H s) (r : Vals vs us) (h : sp vs H Q E0) : wpAny (model X.prog X.w) X.A (call (.ref f) us) (EP X pins σ Q) X.xe s := by
  have hl : (us ++ []).length = ps.length := by rw [List.append_nil, ← r.length]; exact F.len _ _ _ _ h
  have hb' := hb s us I.kIn hl
  rw [List.append_nil] at hb'
  refine wpAny_call (codeAny_mono (F.run X.A X.stack s H ⟨us, []⟩ us vs Q E0 hr hg I.env0 hb' r h) fun res s' hq => ?_)
  cases res with
  | error er => exact False.elim hq
  | ok fl =>
    cases fl with
    | ret u => exact I.after hq
    | next => exact False.elim hq
    | brk => exact False.elim hq
    | cont => exact False.elim hq
def tCallG (sp : Sp) (t : TA) : TE := fun σ H Q => t σ H fun vs H1 => sp vs H1 Q E0
theorem pe_callG (F : FnG X.prog X.w X.K X.mg X.base k f fd ps sp) (hr : Room k X.A) (hgd : X.A.guards = some []) (hg : Gl X x) (hm : X.mg x = some (.ref f)) (hk : PySem.W.keepIn X.K (.ref f) = true) (hb : Binds X.K fd ps [])
    (ha : PA X (e :: es) t) (hdb : (x == ("__debug__" : Str)) = false := by decide) (he : starEach (e :: es) X.env = (false, eval e X.env) :: starEach es X.env := by rfl) (hpl : (backTo pos (starEach es X.env)).any (·.1) = false := by rfl) :
    PE X (.Call (.Name x p) (e :: es) [] pos) (tCallG sp t) := by
  refine ⟨fun pins s σ H Q I h => wpAny_Call_Name_kw (ld_glob I hg hm ?_ hdb)⟩
  refine PySem.W.callWith_K (h₀ := X.base) I.ok.mod.kin hk (thn (ha.run pos pins s σ H _ I h) ?_) he hpl
  rintro us s1 ⟨vs, H1, I1, r, q⟩
  exact ⟨I1.kIn, runG F hr hgd hb I1 r q⟩
end

/-! ### promises -/
/-- all arguments data, the answer data -/
def SpP (K : PySem.W.Frag) (f : List PyData → Option PyData) : Sp := fun vs H Q _ => ∃ G ds d, Ex G H ∧ DrAll K G vs ds ∧ f ds = some d ∧
  ∀ v G' H', Ex G G' → Ex G' H' → Ex H H' → (∀ a o, H a = some o → G' a = G a) → Dr K G' v d → Q v H'
/-- .. a new list or dict -/
def SpF (K : PySem.W.Frag) (f : List PyData → Option PyData) : Sp := fun vs H Q _ => ∃ G ds d, Ex G H ∧ DrAll K G vs ds ∧ f ds = some d ∧
  ∀ p G' H', Ex G G' → Ex G' H' → Ex H H' → (∀ a o, H a = some o → G' a = G a) → H p = none → G' p = none → OwnAt K G' H' p d → Q (.ref p) H'
/-- the first argument a list or dict that the def changes -/
def SpI (K : PySem.W.Frag) (f : PyData → List PyData → Option (PyData × PyData)) : Sp := fun vs H Q _ => ∃ G a ws x ds d y, vs = .ref a :: ws ∧ Ex G H ∧ G a = none ∧ OwnAt K G H a x ∧ DrAll K G ws ds ∧ f x ds = some (d, y) ∧
  ∀ v G' H', Ex G G' → Ex G' H' → (∀ b o, H b = some o → b ≠ a → H' b = some o) → (∀ b o, H b = some o → G' b = G b) → OwnAt K G' H' a y → Dr K G' v d → Q v H'
section
variable {K : PySem.W.Frag} {Z : Zn} {G H G' H' : Hp} {σ : L2.St} {ρ : En}
theorem SR.frame (R : SR K Z G H σ ρ) (e1 : Ex G G') (e2 : Ex G' H') (e3 : Ex H H') (e4 : ∀ a o, H a = some o → G' a = G a) : SR K Z G' H' σ ρ := by
  refine ⟨R.len, e2, R.zg.trans e1, fun a o e => ?_, fun a o e n => e3 a o (R.h0 a o e n), fun a o e => ?_, fun i y e => ?_, fun i s y e q => ?_, R.bor, R.opin, R.zpin, R.inj⟩
  · obtain ⟨o', h'⟩ := R.h1 a o e
    exact (e4 a o' h').trans (R.g0 a o e)
  · obtain ⟨o', h'⟩ := R.h1 a o e
    exact ⟨o', e3 a o' h'⟩
  · obtain ⟨v, h1, h2⟩ := R.str i y e
    exact ⟨v, h1, h2.mono e1⟩
  · obtain ⟨a, h1, h2, h3, h4⟩ := R.own i s y e q
    obtain ⟨u, hu⟩ := h3.some
    exact ⟨a, h1, (e4 a u hu).trans h2, h3.mono e1 ((e3 a u hu).trans hu.symm), h4⟩
theorem SR.inout {i : Nat} {s : Sl} {x y : PyData} {a : Addr} (R : SR K Z G H σ ρ) (hi : ρ[i]? = some s) (hs : s.own = some x) (ha : σ[i]? = some (some (.ref a))) (e1 : Ex G G') (e2 : Ex G' H')
    (e3 : ∀ b o, H b = some o → b ≠ a → H' b = some o) (e4 : ∀ b o, H b = some o → G' b = G b) (o : OwnAt K G' H' a y) : SR K Z G' H' σ (ρ.set i (s.put y)) := by
  obtain ⟨a', h1, h2, h3, h4⟩ := R.own i s x hi hs
  rw [ha] at h1; cases h1
  have nz : ∀ b w, Z.H b = some w → ¬ Z.io b → b ≠ a := fun b w e n z => by
    subst z
    rcases h4 with h4 | h4
    · exact n h4
    · rw [h4] at e; cases e
  have own : ∀ {j : Nat} {t : Sl} {z : PyData}, (ρ.set i (s.put y))[j]? = some t → t.own = some z → Owned ρ j := fun {j t z} p q => by
    rcases getElem?_set_cases p with ⟨rfl, _⟩ | ⟨_, w⟩
    · exact ⟨s, x, hi, hs⟩
    · exact ⟨_, _, w, q⟩
  obtain ⟨ua, hua⟩ := h3.some
  obtain ⟨ub, hub⟩ := o.some
  refine ⟨by rw [List.length_set]; exact R.len, e2, R.zg.trans e1, fun b w e => ?_, fun b w e n => e3 b w (R.h0 b w e n) (nz b w e n), fun b w e => ?_, fun j z e => ?_, fun j t z e q => ?_, fun j z e => ?_, fun j z c e e5 => ?_, R.zpin, fun j m c hj hm e5 e6 => ?_⟩
  · obtain ⟨o', h'⟩ := R.h1 b w e
    exact (e4 b o' h').trans (R.g0 b w e)
  · by_cases z : b = a
    · subst z; exact ⟨ub, hub⟩
    · obtain ⟨o', h'⟩ := R.h1 b w e
      exact ⟨o', e3 b o' h' z⟩
  · rcases getElem?_set_cases e with ⟨rfl, q⟩ | ⟨_, q⟩
    · have := Sl.put_own hs y
      rw [← q] at this; cases this
    · obtain ⟨v, g1, g2⟩ := R.str j z q
      exact ⟨v, g1, g2.mono e1⟩
  · rcases getElem?_set_cases e with ⟨rfl, q'⟩ | ⟨ne, q'⟩
    · have e7 := Sl.put_own hs y
      rw [← q', q] at e7
      cases e7
      exact ⟨a, ha, (e4 a ua hua).trans h2, o, h4⟩
    · obtain ⟨b, g1, g2, g3, g4⟩ := R.own j t z q' q
      obtain ⟨u, hu⟩ := g3.some
      have nb : b ≠ a := fun w => by
        subst w
        exact ne (R.inj j i b ⟨_, _, q', q⟩ ⟨_, _, hi, hs⟩ g1 ha)
      exact ⟨b, g1, (e4 b u hu).trans g2, g3.mono e1 ((e3 b u hu nb).trans hu.symm), g4⟩
  · rcases getElem?_set_cases e with ⟨rfl, q⟩ | ⟨_, q⟩
    · cases s with
      | b z' => exact R.bor j z' hi
      | o z' => cases q
      | d z' => cases hs
      | u => cases hs
    · exact R.bor j z q
  · rcases getElem?_set_cases e with ⟨rfl, q⟩ | ⟨_, q⟩
    · cases s with
      | o z' => exact R.opin j z' c hi e5
      | b z' => cases q
      | d z' => cases hs
      | u => cases hs
    · exact R.opin j z c q e5
  · obtain ⟨s1, x1, p1, q1⟩ := hj
    obtain ⟨s2, x2, p2, q2⟩ := hm
    exact R.inj j m c (own p1 q1) (own p2 q2) e5 e6
end
section
variable {X : Cx} {k : Nat} {f : Addr} {fd : FuncData} {ps : List Str} {x : Str} {p pos : Pos} {e : Expr} {es : List Expr} {as : Es} {m : List PyData → Option PyData}
theorem t_callP {σ : L2.St} {H : Hp} {Q : VK} {K : PySem.W.Frag} (h : tS K (eN m as) σ H Q) : tCallG (SpP K m) (tAs K as) σ H Q := by
  obtain ⟨Z, G, ρ, d, ρ', R, q, k⟩ := h
  unfold eN at q
  split at q
  · rename_i xs ρ1 qa
    split at q
    · rename_i d' qf
      cases q
      exact ⟨Z, G, ρ, xs, _, R, qa, fun vs G1 H1 ex1 R1 d1 => ⟨G1, xs, d, R1.gh, d1, qf, fun v G' H' e1 e2 e3 e4 dv => k v G' H' (ex1.trans e1) (R1.frame e1 e2 e3 e4) dv⟩⟩
    · cases q
  · cases q
theorem t_callF {σ : L2.St} {H : Hp} {Q : VK} {K : PySem.W.Frag} (h : tF K (eN m as) σ H Q) : tCallG (SpF K m) (tAs K as) σ H Q := by
  obtain ⟨Z, G, ρ, d, ρ', R, q, k⟩ := h
  unfold eN at q
  split at q
  · rename_i xs ρ1 qa
    split at q
    · rename_i d' qf
      cases q
      exact ⟨Z, G, ρ, xs, _, R, qa, fun vs G1 H1 ex1 R1 d1 => ⟨G1, xs, d, R1.gh, d1, qf, fun p G' H' e1 e2 e3 e4 hp gp o =>
        k p G' H' (ex1.trans e1) (R1.frame e1 e2 e3 e4) gp (R1.znone hp) (R1.notOwned hp) o⟩⟩
    · cases q
  · cases q
def eI (m : PyData → List PyData → Option (PyData × PyData)) (i : Nat) (as : Es) : Ev := fun ρ => match ρ[i]? with
  | some s0 => (match s0.own with
    | some _ => (match as ρ with
      | some (ds, ρ1) => (match ρ1[i]? with
        | some s => (match s.own with
          | some x => (match m x ds with
            | some (d, y) => some (d, ρ1.set i (s.put y))
            | none => none)
          | none => none)
        | none => none)
      | none => none)
    | none => none)
  | none => none
theorem t_callI {m : PyData → List PyData → Option (PyData × PyData)} {i : Nat} {σ : L2.St} {H : Hp} {Q : VK} {K : PySem.W.Frag} (h : tS K (eI m i as) σ H Q) : tCallG (SpI K m) (tCons (tVar i) (tAs K as)) σ H Q := by
  obtain ⟨Z, G, ρ, d, ρ', R, q, k⟩ := h
  unfold eI at q
  split at q
  · rename_i s0 e0
    split at q
    · rename_i x0 o0
      split at q
      · rename_i ds ρ1 qa
        split at q
        · rename_i s es
          split at q
          · rename_i x ox
            split at q
            · rename_i d' y qf
              cases q
              obtain ⟨a, ha, _⟩ := R.own i s0 x0 e0 o0
              refine ⟨.ref a, ha, Z, G, ρ, ds, ρ1, R, qa, fun vs G1 H1 ex1 R1 d1 => ?_⟩
              obtain ⟨a', ha', g1, o1, _⟩ := R1.own i s x es ox
              rw [ha] at ha'; cases ha'
              exact ⟨G1, a, vs, x, ds, d, y, rfl, R1.gh, g1, o1, d1, qf, fun v G' H' e1 e2 e3 e4 oy dv => k v G' H' (ex1.trans e1) (R1.inout es ox ha e1 e2 e3 e4 oy) dv⟩
            · cases q
          · cases q
        · cases q
      · cases q
    · cases q
  · cases q
variable {sp : Sp}
theorem r_callP {K : PySem.W.Frag} (h : PE X e (tCallG (SpP K m) (tAs K as))) : PE X e (tS K (eN m as)) := h.conv fun _ _ _ q => t_callP q
theorem r_callF {K : PySem.W.Frag} (h : PE X e (tCallG (SpF K m) (tAs K as))) : PE X e (tF K (eN m as)) := h.conv fun _ _ _ q => t_callF q
theorem r_callI {K : PySem.W.Frag} {m : PyData → List PyData → Option (PyData × PyData)} {i : Nat} (h : PE X e (tCallG (SpI K m) (tCons (tVar i) (tAs K as)))) : PE X e (tS K (eI m i as)) := h.conv fun _ _ _ q => t_callI q
end

/-! ### bodies -/
def en0 (n : Nat) (ds : List PyData) : En := ds.map Sl.d ++ List.replicate (n - ds.length) .u
def outP : Option Fw → Option PyData
  | some (.ret d _) => some d
  | some (.nx _) => some .none
  | _ => none
def outF : Option Fw → Option PyData
  | some (.ret d _) => some d
  | _ => none
def outI : Option Fw → Option (PyData × PyData)
  | some (.ret d ρ) => (match ρ[(0 : Nat)]? with
    | some (.b y) => some (d, y)
    | _ => none)
  | some (.nx ρ) => (match ρ[(0 : Nat)]? with
    | some (.b y) => some (.none, y)
    | _ => none)
  | _ => none
/-- n: how many slots, m: how many parameters -/
def runP (n m : Nat) (ψ : Sv) (ds : List PyData) : Option PyData := if ds.length = m then outP (ψ (en0 n ds)) else none
def runF (n m : Nat) (ψ : Sv) (ds : List PyData) : Option PyData := if ds.length = m then outF (ψ (en0 n ds)) else none
def runI (n m : Nat) (ψ : Sv) (x : PyData) (ds : List PyData) : Option (PyData × PyData) := if ds.length + 1 = m then outI (ψ (.b x :: en0 (n - 1) ds)) else none
section
variable {K : PySem.W.Frag} {G H : Hp} {vs : List V} {ds : List PyData} {N : List Str}
theorem start_at {i : Nat} {v : V} (h : vs[i]? = some v) : (start N vs)[i]? = some (some v) := by
  unfold L2.start
  rw [List.getElem?_append_left (by rw [List.length_map]; exact (List.getElem?_eq_some_iff.mp h).1), List.getElem?_map, h]
  rfl
theorem en0_at {n i : Nat} {s : Sl} (h : (en0 n ds)[i]? = some s) : s = .u ∨ ∃ d, s = .d d ∧ ds[i]? = some d := by
  unfold en0 at h
  by_cases hi : i < ds.length
  · rw [List.getElem?_append_left (by rw [List.length_map]; exact hi), List.getElem?_map] at h
    cases e : ds[i]? with
    | none => rw [e] at h; cases h
    | some d => rw [e] at h; cases h; exact .inr ⟨d, rfl, rfl⟩
  · rw [List.getElem?_append_right (by rw [List.length_map]; omega), List.getElem?_replicate] at h
    split at h
    · cases h; exact .inl rfl
    · cases h
theorem start_len (hl : vs.length ≤ N.length) : (start N vs).length = N.length := by
  unfold L2.start
  rw [List.length_append, List.length_map, List.length_replicate]
  omega
theorem en0_len {n : Nat} (hl : ds.length ≤ n) : (en0 n ds).length = n := by
  unfold en0
  rw [List.length_append, List.length_map, List.length_replicate]
  omega
theorem SR.entry (hl : vs.length ≤ N.length) (gh : Ex G H) (da : DrAll K G vs ds) : SR K ⟨G, H, fun _ => none, fun _ => False⟩ G H (start N vs) (en0 N.length ds) := by
  have no : ∀ {i : Nat} {s : Sl} {x : PyData}, (en0 N.length ds)[i]? = some s → s.own = some x → False := fun {i s x} h q => by
    rcases en0_at h with z | ⟨d, z, _⟩
    · subst z; cases q
    · subst z; cases q
  refine ⟨by rw [start_len hl, en0_len (by rw [← da.len]; exact hl)], gh, Ex.refl _, fun _ _ _ => rfl, fun _ _ e _ => e, fun _ _ e => ⟨_, e⟩, fun i x e => ?_, fun i s x e q => (no e q).elim, fun i x e => (no e rfl).elim, fun i x a e => (no e rfl).elim, fun j a e => (by cases e), fun i j a ⟨s, x, e, q⟩ => (no e q).elim⟩
  rcases en0_at e with z | ⟨d, z, h⟩
  · cases z
  · cases z
    obtain ⟨v, h1, h2⟩ := da.get h
    exact ⟨v, start_at h1, h2⟩
theorem SR.entryI {a : Addr} {x : PyData} (hl : vs.length + 1 ≤ N.length) (gh : Ex G H) (hg : G a = none) (o : OwnAt K G H a x) (da : DrAll K G vs ds) :
    SR K ⟨G, H, fun i => if i = 0 then some a else none, fun b => b = a⟩ G H (start N (.ref a :: vs)) (.b x :: en0 (N.length - 1) ds) := by
  have cs : ∀ {i : Nat} {s : Sl}, (Sl.b x :: en0 (N.length - 1) ds)[i]? = some s → (i = 0 ∧ s = .b x) ∨ s = .u ∨ ∃ j d, i = j + 1 ∧ s = .d d ∧ ds[j]? = some d := fun {i s} h => by
    cases i with
    | zero =>
      rw [List.getElem?_cons_zero] at h
      cases h
      exact .inl ⟨rfl, rfl⟩
    | succ j =>
      rw [List.getElem?_cons_succ] at h
      rcases en0_at h with z | ⟨d, z, e⟩
      · exact .inr (.inl z)
      · exact .inr (.inr ⟨j, d, rfl, z, e⟩)
  have ow : ∀ {i : Nat} {s : Sl} {y : PyData}, (Sl.b x :: en0 (N.length - 1) ds)[i]? = some s → s.own = some y → i = 0 ∧ s = .b x := fun {i s y} h q => by
    rcases cs h with z | z | ⟨j, d, _, z, _⟩
    · exact z
    · subst z; cases q
    · subst z; cases q
  have s0 : (start N (.ref a :: vs))[0]? = some (some (.ref a)) := start_at rfl
  obtain ⟨u, hu⟩ := o.some
  refine ⟨?_, gh, Ex.refl _, fun _ _ _ => rfl, fun _ _ e _ => e, fun _ _ e => ⟨_, e⟩, fun i y e => ?_, fun i s y e q => ?_, fun i y e => ?_, fun i y b e => ?_, fun j b e => ?_, fun i j b hi hj _ _ => ?_⟩
  · rw [start_len (by rw [List.length_cons]; exact hl), List.length_cons, en0_len (by rw [← da.len]; omega)]
    omega
  · rcases cs e with ⟨_, z⟩ | z | ⟨j, d, rfl, z, h⟩
    · cases z
    · cases z
    · cases z
      obtain ⟨v, h1, h2⟩ := da.get h
      exact ⟨v, start_at (by rw [List.getElem?_cons_succ]; exact h1), h2⟩
  · obtain ⟨rfl, rfl⟩ := ow e q
    cases q
    exact ⟨a, s0, hg, o, .inl rfl⟩
  · obtain ⟨rfl, z⟩ := ow e rfl
    exact ⟨a, rfl, s0⟩
  · obtain ⟨_, z⟩ := ow e rfl
    cases z
  · by_cases hj : j = 0
    · have e' : (if j = 0 then some a else none) = some b := e
      rw [if_pos hj] at e'
      cases e'
      exact ⟨u, hu⟩
    · have e' : (if j = 0 then some a else none) = some b := e
      rw [if_neg hj] at e'
      cases e'
  · obtain ⟨s1, x1, p1, q1⟩ := hi
    obtain ⟨s2, x2, p2, q2⟩ := hj
    rw [(ow p1 q1).1, (ow p2 q2).1]
end
section
variable {P : Program} {w : World} {K : PySem.W.Frag} {mg : Str → Option Value} {base : Heap} {x qual : Str} {st : Stmt} {f : Addr} {fd : FuncData} {N ps : List Str} {k : Nat} {ψ : Sv}
theorem fnP (F : Fun K x qual st f fd) (S : FnScope N ps (defScope st)) (hN : ps.length ≤ N.length)
    (body : ∀ (cdv : Value) (A : Around) (outer : List Env) (s : Shared) (H : Hp) (E : XK), Room k (A.deeper (envOfC qual (defScope st) s.heap.objs.size f cdv)) → A.guards = some [] →
      PSs (cxG P w K mg base N qual st f cdv A outer s H E) (defBody st) (tT K false ψ)) : FnG P w K mg base (k + 1) f fd ps (SpP K (runP N.length ps.length ψ)) := by
  have hlen : ∀ vs H Q E, SpP K (runP N.length ps.length ψ) vs H Q E → vs.length = ps.length := fun vs H Q E ⟨G, ds, d, gh, da, hf, _⟩ => by
    unfold runP at hf
    split at hf
    · rename_i e; rw [da.len]; exact e
    · cases hf
  refine fnG_ok F S hlen fun cdv A outer s H vs Q E hr hg hsp => ⟨_, body cdv A outer s H E hr hg, ?_⟩
  have hl := hlen _ _ _ _ hsp
  obtain ⟨G, ds, d, gh, da, hf, kk⟩ := hsp
  unfold runP at hf
  rw [if_pos (by rw [← da.len]; exact hl)] at hf
  have R0 := SR.entry (N := N) (by omega) gh da
  have fin : ∀ {σ' : L2.St} {G' H' : Hp} {ρ' : En} {v : V}, Ex G G' → SR K ⟨G, H, fun _ => none, fun _ => False⟩ G' H' σ' ρ' → Dr K G' v d → Q v H' := fun {σ' G' H' ρ' v} ex R' dv =>
    kk v G' H' ex R'.gh (fun a o e => R'.h0 a o e fun z => z) (fun a o e => R'.g0 a o e) dv
  cases e : ψ (en0 N.length ds) with
  | none => rw [e] at hf; cases hf
  | some r =>
    rw [e] at hf
    refine ⟨_, G, _, r, fun a z => (show False from z).elim, R0, e, ?_⟩
    cases r with
    | nx ρ' => cases hf; exact fun σ' G' H' ex R' => fin ex R' .non
    | ret d' ρ' => cases hf; exact fun v σ' G' H' ex R' dv => fin ex R' dv
    | brk ρ' => cases hf
    | ct ρ' => cases hf
theorem fnF (F : Fun K x qual st f fd) (S : FnScope N ps (defScope st)) (hN : ps.length ≤ N.length)
    (body : ∀ (cdv : Value) (A : Around) (outer : List Env) (s : Shared) (H : Hp) (E : XK), Room k (A.deeper (envOfC qual (defScope st) s.heap.objs.size f cdv)) → A.guards = some [] →
      PSs (cxG P w K mg base N qual st f cdv A outer s H E) (defBody st) (tT K true ψ)) : FnG P w K mg base (k + 1) f fd ps (SpF K (runF N.length ps.length ψ)) := by
  have hlen : ∀ vs H Q E, SpF K (runF N.length ps.length ψ) vs H Q E → vs.length = ps.length := fun vs H Q E ⟨G, ds, d, gh, da, hf, _⟩ => by
    unfold runF at hf
    split at hf
    · rename_i e; rw [da.len]; exact e
    · cases hf
  refine fnG_ok F S hlen fun cdv A outer s H vs Q E hr hg hsp => ⟨_, body cdv A outer s H E hr hg, ?_⟩
  have hl := hlen _ _ _ _ hsp
  obtain ⟨G, ds, d, gh, da, hf, kk⟩ := hsp
  unfold runF at hf
  rw [if_pos (by rw [← da.len]; exact hl)] at hf
  have R0 := SR.entry (N := N) (by omega) gh da
  cases e : ψ (en0 N.length ds) with
  | none => rw [e] at hf; cases hf
  | some r =>
    rw [e] at hf
    refine ⟨_, G, _, r, fun a z => (show False from z).elim, R0, e, ?_⟩
    cases r with
    | nx ρ' => cases hf
    | ret d' ρ' =>
      cases hf
      rintro v σ' G' H' ex R' ⟨p, rfl, h1, h2, h3⟩
      exact kk p G' H' ex R'.gh (fun a o e => R'.h0 a o e fun z => z) (fun a o e => R'.g0 a o e) h2 h1 h3
    | brk ρ' => cases hf
    | ct ρ' => cases hf
theorem fnI (F : Fun K x qual st f fd) (S : FnScope N ps (defScope st)) (hN : ps.length ≤ N.length)
    (body : ∀ (cdv : Value) (A : Around) (outer : List Env) (s : Shared) (H : Hp) (E : XK), Room k (A.deeper (envOfC qual (defScope st) s.heap.objs.size f cdv)) → A.guards = some [] →
      PSs (cxG P w K mg base N qual st f cdv A outer s H E) (defBody st) (tT K false ψ)) : FnG P w K mg base (k + 1) f fd ps (SpI K (runI N.length ps.length ψ)) := by
  have hlen : ∀ vs H Q E, SpI K (runI N.length ps.length ψ) vs H Q E → vs.length = ps.length := fun vs H Q E ⟨G, a, ws, x, ds, d, y, hv, gh, hga, o, da, hf, _⟩ => by
    unfold runI at hf
    split at hf
    · rename_i e; rw [hv, List.length_cons, da.len]; exact e
    · cases hf
  refine fnG_ok F S hlen fun cdv A outer s H vs Q E hr hg hsp => ⟨_, body cdv A outer s H E hr hg, ?_⟩
  have hl := hlen _ _ _ _ hsp
  obtain ⟨G, a, ws, xx, ds, d, y, rfl, gh, hga, o, da, hf, kk⟩ := hsp
  rw [List.length_cons] at hl
  unfold runI at hf
  rw [if_pos (by rw [← da.len]; exact hl)] at hf
  have R0 := SR.entryI (N := N) (by omega) gh hga o da
  have fin : ∀ {σ' : L2.St} {G' H' : Hp} {ρ' : En} {v : V}, Ex G G' → SR K ⟨G, H, fun i => if i = 0 then some a else none, fun b => b = a⟩ G' H' σ' ρ' → ρ'[0]? = some (.b y) → Dr K G' v d → Q v H' := fun {σ' G' H' ρ' v} ex R' h0 dv => by
    obtain ⟨a1, g1, g2⟩ := R'.bor 0 y h0
    have g1' : (if (0 : Nat) = 0 then some a else none) = some a1 := g1
    rw [if_pos rfl] at g1'
    cases g1'
    obtain ⟨a2, g3, g4, g5, _⟩ := R'.own 0 _ y h0 rfl
    rw [g2] at g3; cases g3
    exact kk v G' H' ex R'.gh (fun b o' e n => R'.h0 b o' e n) (fun b o' e => R'.g0 b o' e) g5 dv
  cases e : ψ (.b xx :: en0 (N.length - 1) ds) with
  | none => rw [e] at hf; cases hf
  | some r =>
    rw [e] at hf
    refine ⟨_, G, _, r, fun b z => ⟨0, by subst z; exact (show (if (0 : Nat) = 0 then some b else none) = some b from if_pos rfl)⟩, R0, e, ?_⟩
    cases r with
    | nx ρ' =>
      simp only [outI] at hf
      split at hf
      · rename_i z e3; cases hf; exact fun σ' G' H' ex R' => fin ex R' e3 .non
      · cases hf
    | ret d' ρ' =>
      simp only [outI] at hf
      split at hf
      · rename_i z e3; cases hf; exact fun v σ' G' H' ex R' dv => fin ex R' e3 dv
      · cases hf
    | brk ρ' => cases hf
    | ct ρ' => cases hf
end
end DL

set_option maxHeartbeats 1000000
/-! DL7: what changes lists, what is built in. -/
namespace DL
open PySem PySem.Spec PyProof.Rows L2

section
variable {X : Cx} {K : PySem.W.Frag} {fr : Bool} {st : Stmt} {e : Expr} {a ix : Ev} {as : Es} {pos : Pos} {i : Nat}
/-! ### lists that are changed -/
/-- x.m(..), x an owned list, by what its items become -/
def sMut (i : Nat) (m : List PyData → List PyData → Option (List PyData)) (as : Es) : Sv := fun ρ => match ρ[i]? with
  | some s0 => (match s0.own with
    | some (.list _) => (match as ρ with
      | some (ds, ρ1) => (match ρ1[i]? with
        | some s => (match s.own with
          | some (.list xs) => (match m xs ds with
            | some ys => some (.nx (ρ1.set i (s.put (.list ys))))
            | none => none)
          | _ => none)
        | none => none)
      | none => none)
    | _ => none)
  | none => none
def MutR (K : PySem.W.Frag) (m : List PyData → List PyData → Option (List PyData)) (r : V → List V → Hp → VK → Prop) : Prop := ∀ G H p vs us xs ds ys, Ex G H → H p = some (.lst vs) → vs.length ≤ sizeLine → DrAll K G vs xs → DrAll K G us ds → m xs ds = some ys →
  ∀ Q : VK, (∀ ws v, ws.length ≤ sizeLine → DrAll K G ws ys → Q v (upd H p (.lst ws))) → r (.ref p) us H Q
theorem r_mut {m : List PyData → List PyData → Option (List PyData)} {r : V → List V → Hp → VK → Prop} (h : PS X st (tDrop (tBM K "list" r (tVar i) (tAs K as)))) (hm : MutR K m r) : PS X st (tT K fr (sMut i m as)) :=
  h.conv fun D σ H ⟨Z, G, ρ, w, zp, R, q, k⟩ => by
    unfold sMut at q
    split at q
    · rename_i s0 e0
      split at q
      · rename_i o0
        split at q
        · rename_i ds ρ1 qa
          split at q
          · rename_i s es
            split at q
            · rename_i xs ox
              split at q
              · rename_i ys qm
                cases q
                obtain ⟨p, hp, _, o1, _⟩ := R.own i s0 _ e0 o0
                obtain ⟨vs0, hv0, _⟩ := o1
                refine ⟨.ref p, hp, .inl ⟨rfl, vs0, .inl (.inl hv0)⟩, Z, G, ρ, ds, ρ1, R, qa, fun us G1 H1 ex1 R1 d1 => ?_⟩
                obtain ⟨p', hp', g1, o2, _⟩ := R1.own i s _ es ox
                rw [hp] at hp'; cases hp'
                obtain ⟨vs, hv, z, da⟩ := o2
                exact hm G1 H1 p vs us xs ds ys R1.gh hv z da d1 qm _ fun ws v hz dw => k σ G1 _ ex1 (R1.mut es ox hp ⟨ws, upd_same, hz, dw⟩)
              · cases q
            · cases q
          · cases q
        · cases q
      · cases q
    · cases q
def appD (xs ds : List PyData) : Option (List PyData) := match ds with
  | [d] => if xs.length < 16777216 then some (xs ++ [d]) else none
  | _ => none
theorem m_app : MutR K appD rAppend := by
  intro G H p vs us xs ds ys ex hv z da du q Q k
  unfold appD at q
  split at q
  · rename_i d
    split at q
    · rename_i hz
      cases q
      cases du with
      | cons d1 d2 =>
        cases d2
        have hl := da.len
        have hs := sizeLine_eq
        exact ⟨p, vs, _, rfl, rfl, hv, by omega, k _ _ (by rw [List.length_append, List.length_singleton]; omega) (da.append (.cons d1 .nil))⟩
    · cases q
  · cases q
def insD (xs ds : List PyData) : Option (List PyData) := match ds with
  | [.int j, d] => if xs.length < 16777216 ∧ 0 ≤ j ∧ j < 2 ^ 63 then some (xs.take j.toNat ++ [d] ++ xs.drop j.toNat) else none
  | _ => none
def rIns : V → List V → Hp → VK → Prop := fun x vs H Q => ∃ (l : Addr) (xs : List V) (i : Int) (y : V), x = .ref l ∧ vs = [.int i, y] ∧ H l = some (.lst xs) ∧ xs.length < sizeLine ∧ 0 ≤ i ∧ i < 2 ^ 63 ∧
  Q .non (upd H l (.lst (xs.take i.toNat ++ [y] ++ xs.drop i.toNat)))
theorem m_ins : MutR K insD rIns := by
  intro G H p vs us xs ds ys ex hv z da du q Q k
  unfold insD at q
  split at q
  · rename_i j d
    split at q
    · rename_i hz
      cases q
      cases du with
      | cons d1 d2 =>
        cases d2 with
        | cons d2 d3 =>
          cases d3
          cases d1
          have hl := da.len
          have hs := sizeLine_eq
          refine ⟨p, vs, j, _, rfl, rfl, hv, by omega, hz.2.1, hz.2.2, k _ _ ?_ (((da.take _).append (.cons d2 .nil)).append (da.drop _))⟩
          rw [List.length_append, List.length_append, List.length_singleton, List.length_take, List.length_drop]
          omega
    · cases q
  · cases q
def extD (xs ds : List PyData) : Option (List PyData) := match ds with
  | [.list zs] => if xs.length + zs.length ≤ 16777216 then some (xs ++ zs) else none
  | _ => none
theorem m_ext : MutR K extD rExtend := by
  intro G H p vs us xs ds ys ex hv z da du q Q k
  unfold extD at q
  split at q
  · rename_i zs
    split at q
    · rename_i hz
      cases q
      cases du with
      | cons d1 d2 =>
        cases d2
        cases d1 with
        | lst h1 z1 t1 =>
          have hl := da.len
          have hl1 := t1.len
          have hs := sizeLine_eq
          exact ⟨p, _, vs, _, rfl, rfl, hv, ex _ _ h1, by omega, k _ _ (by rw [List.length_append]; omega) (da.append t1)⟩
    · cases q
  · cases q
/-- x[k] = e, x an owned list -/
def setLD (x : PyData) (k d : PyData) : Option PyData := match x, k with
  | .list xs, .int n => (match ixN xs.length n with
    | some j => some (.list (xs.set j d))
    | none => none)
  | _, _ => none
def sSet (i : Nat) (ix a : Ev) : Sv := fun ρ => match a ρ with
  | some (d, ρ1) => (match ρ1[i]? with
    | some s0 => (match s0.own with
      | some _ => (match ix ρ1 with
        | some (k, ρ2) => (match ρ2[i]? with
          | some s => (match s.own with
            | some x => (match setLD x k d with
              | some y => some (.nx (ρ2.set i (s.put y)))
              | none => none)
            | none => none)
          | none => none)
        | none => none)
      | none => none)
    | none => none)
  | none => none
theorem r_set (h : PS X st (tAsg (tS K a) (gSub (tVar i) (tS K ix) rSetL))) : PS X st (tT K fr (sSet i ix a)) := h.conv fun D σ H ⟨Z, G, ρ, w, zp, R, q, k⟩ => by
  unfold sSet at q
  split at q
  · rename_i d ρ1 qa
    split at q
    · rename_i s0 e0
      split at q
      · rename_i x0 o0
        split at q
        · rename_i kd ρ2 qi
          split at q
          · rename_i s es
            split at q
            · rename_i x ox
              split at q
              · rename_i y qs
                cases q
                refine ⟨Z, G, ρ, d, ρ1, R, qa, fun v G1 H1 ex1 R1 dv => ?_⟩
                obtain ⟨p, hp, _⟩ := R1.own i s0 x0 e0 o0
                refine ⟨.ref p, hp, Z, G1, ρ1, kd, ρ2, R1, qi, fun u G2 H2 ex2 R2 du => ?_⟩
                obtain ⟨p', hp', g1, o2, _⟩ := R2.own i s x es ox
                rw [hp] at hp'; cases hp'
                unfold setLD at qs
                split at qs
                · rename_i xs n
                  split at qs
                  · rename_i j hj
                    cases qs
                    cases du
                    obtain ⟨vs, hv, z, da⟩ := o2
                    exact ⟨p, vs, n, j, rfl, rfl, hv, by rw [da.len]; exact hj, k σ G2 _ (ex1.trans ex2) (R2.mut es ox hp ⟨_, upd_same, by rw [List.length_set]; exact z, da.set (dv.mono ex2) j⟩)⟩
                  · cases qs
                · cases qs
              · cases q
            · cases q
          · cases q
        · cases q
      · cases q
    · cases q
  · cases q
/-- x[k], x a list, by values -/
theorem get_list : PGet X (rIxL X.K) := by
  intro pins s σ H o i ov iv Q I ro ri h
  obtain ⟨p, xs, n, v, rfl, rfl, hq, he, q⟩ := h
  cases ro
  obtain ⟨t, rfl⟩ := ri
  obtain ⟨its, r, pl, hz⟩ := I.list hq
  obtain ⟨j, h1, h2, h3, h4, h5⟩ := atI_get he
  obtain ⟨w, ew, rw'⟩ := r.get h2
  have hl := r.length
  have hn := line63
  by_cases h0 : 0 ≤ n
  · have hj : n.toNat = j := by
      rw [seqIndex_of h0 h5] at h1
      exact Option.some.inj h1
    exact wpAny_getItem_list pl.isList h0 (by omega) (by rw [hj]; simpa using ew) ⟨v, H, I, rw', q⟩
  · have hj : (n + (its.toArray.size : Int)).toNat = j := by
      rw [seqIndex_neg (by omega) h4] at h1
      rw [List.size_toArray, ← hl]
      exact Option.some.inj h1
    exact wpAny_getItem_list_neg pl.isList (by omega) (by rw [List.size_toArray]; omega) (by omega) (by rw [hj]; simpa using ew) ⟨v, H, I, rw', q⟩
/-- x[k] += e of ints, x an owned list -/
def sAugI (i : Nat) (ix a : Ev) : Sv := fun ρ => match ρ[i]? with
  | some s0 => (match s0.own with
    | some _ => (match ix ρ with
      | some (.int n, ρ1) => (match ρ1[i]? with
        | some s1 => (match s1.own with
          | some (.list xs1) => (match atI xs1 n with
            | some (.int old) => (match a ρ1 with
              | some (.int d, ρ2) => (match ρ2[i]? with
                | some s => (match s.own with
                  | some (.list xs) => (match ixN xs.length n with
                    | some j => some (.nx (ρ2.set i (s.put (.list (xs.set j (.int (old + d)))))))
                    | none => none)
                  | _ => none)
                | none => none)
              | _ => none)
            | _ => none)
          | _ => none)
        | none => none)
      | _ => none)
    | none => none)
  | none => none
theorem r_augI (h : PS X st (tAugS (tVar i) (tS K ix) (tS K a) (rIxL K) (fun x y H Q => ∃ m n, x = .int m ∧ y = .int n ∧ Q (.int (m + n)) H) rSetL)) : PS X st (tT K fr (sAugI i ix a)) := h.conv fun D σ H ⟨Z, G, ρ, w, zp, R, q, k⟩ => by
  unfold sAugI at q
  split at q
  · rename_i s0 e0
    split at q
    · rename_i x0 o0
      split at q
      · rename_i n ρ1 qi
        split at q
        · rename_i s1 e1
          split at q
          · rename_i xs1 o1
            split at q
            · rename_i old qo
              split at q
              · rename_i d ρ2 qa
                split at q
                · rename_i s es
                  split at q
                  · rename_i xs ox
                    split at q
                    · rename_i j qj
                      cases q
                      obtain ⟨p, hp, _⟩ := R.own i s0 x0 e0 o0
                      refine ⟨.ref p, hp, Z, G, ρ, .int n, ρ1, R, qi, fun u G1 H1 ex1 R1 du => ?_⟩
                      cases du
                      obtain ⟨p', hp', g1, oo, _⟩ := R1.own i s1 _ e1 o1
                      rw [hp] at hp'; cases hp'
                      obtain ⟨vs, hv, z, da⟩ := oo
                      obtain ⟨vo, ho, dvo⟩ := da.at qo
                      cases dvo
                      refine ⟨p, vs, n, .int old, rfl, rfl, .inl (.inl hv), ho, Z, G1, ρ1, .int d, ρ2, R1, qa, fun v G2 H2 ex2 R2 dv => ?_⟩
                      cases dv
                      obtain ⟨p', hp', g2, oo2, _⟩ := R2.own i s _ es ox
                      rw [hp] at hp'; cases hp'
                      obtain ⟨vs2, hv2, z2, da2⟩ := oo2
                      exact ⟨old, d, rfl, rfl, p, vs2, n, j, rfl, rfl, hv2, by rw [da2.len]; exact qj, k σ G2 _ (ex1.trans ex2) (R2.mut es ox hp ⟨_, upd_same, by rw [List.length_set]; exact z2, da2.set (.int _) j⟩)⟩
                    · cases q
                  · cases q
                · cases q
              · cases q
            · cases q
          · cases q
        · cases q
      · cases q
    · cases q
  · cases q

/-! ### what is built in -/
def p1 (f : PyData → Option PyData) : List PyData → Option PyData
  | [x] => f x
  | _ => none
def lenD : PyData → Option PyData
  | .list xs => some (.int xs.length)
  | .tuple xs => some (.int xs.length)
  | .str z => if z.length ≤ sizeLine then some (.int z.length) else none
  | .dict ps => some (.int ps.length)
  | _ => none
theorem drkv_len {G : Hp} : ∀ {kvs : List (Key × V)} {ps : List (PyData × PyData)}, DrKv K G kvs ps → kvs.length = ps.length
  | _, _, .nil => rfl
  | _, _, .cons _ t => congrArg (· + 1) (drkv_len t)
def absD : PyData → Option PyData
  | .int i => some (.int (if i < 0 then -i else i))
  | _ => none
theorem b_abs : PrimN K (p1 absD) (fun xs H Q => ∃ i, xs = [.int i] ∧ Q (.int (if i < 0 then -i else i)) H) := by
  intro G H vs xs d ex da q Q k
  unfold p1 at q
  split at q
  · unfold absD at q
    split at q
    · cases q
      cases da with
      | cons d1 d2 => cases d2; cases d1; exact ⟨_, rfl, k _ G H .refl (.int _)⟩
    · cases q
  · cases q
def intD : PyData → Option PyData
  | .int i => some (.int i)
  | .bool b => some (.int (if b then 1 else 0))
  | _ => none
theorem b_int : PrimN K (p1 intD) (fun xs H Q => (∃ i, xs = [.int i] ∧ Q (.int i) H) ∨ ∃ k, xs = [.bl k] ∧ Q (.int (if k then 1 else 0)) H) := by
  intro G H vs xs d ex da q Q k
  unfold p1 at q
  split at q
  · unfold intD at q
    split at q
    · cases q
      cases da with
      | cons d1 d2 => cases d2; cases d1; exact .inl ⟨_, rfl, k _ G H .refl (.int _)⟩
    · cases q
      cases da with
      | cons d1 d2 => cases d2; cases d1; exact .inr ⟨_, rfl, k _ G H .refl (.int _)⟩
    · cases q
  · cases q
def lenS : PyData → Option PyData
  | .list xs => some (.int xs.length)
  | .tuple xs => some (.int xs.length)
  | _ => none
theorem b_len : PrimN K (p1 lenS) (fun xs H Q => ∃ p ys, xs = [.ref p] ∧ (SqL K H p ys ∨ SqT K H p ys) ∧ Q (.int ys.length) H) := by
  intro G H vs xs d ex da q Q k
  unfold p1 at q
  split at q
  · unfold lenS at q
    split at q
    · cases q
      cases da with
      | cons d1 d2 =>
        cases d2
        cases d1 with
        | lst h z t => exact ⟨_, _, rfl, .inl (.inl (.inl (ex _ _ h))), k _ G H .refl (by rw [t.len]; exact .int _)⟩
    · cases q
      cases da with
      | cons d1 d2 =>
        cases d2
        cases d1 with
        | tup h z t => exact ⟨_, _, rfl, .inr (ex.sqT h), k _ G H .refl (by rw [t.len]; exact .int _)⟩
    · cases q
  · cases q
def max2D : List PyData → Option PyData
  | [.int i, .int j] => some (.int (if j > i then j else i))
  | _ => none
def min2D : List PyData → Option PyData
  | [.int i, .int j] => some (.int (if j < i then j else i))
  | _ => none
theorem b_max2 : PrimN K max2D (fun xs H Q => ∃ i j, xs = [.int i, .int j] ∧ Q (.int (if j > i then j else i)) H) := by
  intro G H vs xs d ex da q Q k
  unfold max2D at q
  split at q
  · cases q
    cases da with
    | cons d1 d2 =>
      cases d2 with
      | cons d2 d3 => cases d3; cases d1; cases d2; exact ⟨_, _, rfl, k _ G H .refl (.int _)⟩
  · cases q
theorem b_min2 : PrimN K min2D (fun xs H Q => ∃ i j, xs = [.int i, .int j] ∧ Q (.int (if j < i then j else i)) H) := by
  intro G H vs xs d ex da q Q k
  unfold min2D at q
  split at q
  · cases q
    cases da with
    | cons d1 d2 =>
      cases d2 with
      | cons d2 d3 => cases d3; cases d1; cases d2; exact ⟨_, _, rfl, k _ G H .refl (.int _)⟩
  · cases q
def tupD : PyData → Option PyData
  | .list xs => some (.tuple xs)
  | .tuple xs => some (.tuple xs)
  | _ => none
theorem b_tuple : PrimN K (p1 tupD) (fun xs H Q => ∃ p ys, xs = [.ref p] ∧ ((SqL K H p ys ∧ ∀ l, H l = none → Q (.ref l) (upd H l (.tup ys))) ∨ (SqT K H p ys ∧ Q (.ref p) H))) := by
  intro G H vs xs d ex da q Q k
  unfold p1 at q
  split at q
  · unfold tupD at q
    split at q
    · cases q
      cases da with
      | cons d1 d2 =>
        cases d2
        cases d1 with
        | lst h z t => exact ⟨_, _, rfl, .inl ⟨.inl (.inl (ex _ _ h)), fun l hl => k _ _ _ (.one hl) (.tup (.inl (.inl upd_same)) z (t.mono (Ex.new (ex.none hl))))⟩⟩
    · cases q
      cases da with
      | cons d1 d2 =>
        cases d2
        cases d1 with
        | tup h z t => exact ⟨_, _, rfl, .inr ⟨ex.sqT h, k _ G H .refl (.tup h z t)⟩⟩
    · cases q
  · cases q
def lstD : PyData → Option PyData
  | .list xs => some (.list xs)
  | .tuple xs => some (.list xs)
  | _ => none
theorem b_list : PrimNF K (p1 lstD) (fun xs H Q => ∃ p ys, xs = [.ref p] ∧ (SqL K H p ys ∨ SqT K H p ys) ∧ ∀ l, H l = none → Q (.ref l) (upd H l (.lst ys))) := by
  intro G H vs xs d ex da q Q k
  unfold p1 at q
  split at q
  · unfold lstD at q
    split at q
    · cases q
      cases da with
      | cons d1 d2 =>
        cases d2
        cases d1 with
        | lst h z t => exact ⟨_, _, rfl, .inl (.inl (.inl (ex _ _ h))), fun l hl => k l _ hl ⟨_, upd_same, z, t⟩⟩
    · cases q
      cases da with
      | cons d1 d2 =>
        cases d2
        cases d1 with
        | tup h z t => exact ⟨_, _, rfl, .inr (ex.sqT h), fun l hl => k l _ hl ⟨_, upd_same, z, t⟩⟩
    · cases q
  · cases q
def intsOf : List PyData → Option (List Int)
  | [] => some []
  | .int b :: r => (intsOf r).map (b :: ·)
  | _ :: _ => none
theorem intsOf_eq : ∀ {xs : List PyData} {bs : List Int}, intsOf xs = some bs → xs = bs.map PyData.int
  | [], bs, h => by cases h; rfl
  | .int b :: r, bs, h => by
    simp only [intsOf] at h
    cases e : intsOf r with
    | none => rw [e] at h; cases h
    | some cs => rw [e] at h; cases h; rw [intsOf_eq e]; rfl
  | .none :: _, _, h => by cases h
  | .bool _ :: _, _, h => by cases h
  | .str _ :: _, _, h => by cases h
  | .list _ :: _, _, h => by cases h
  | .tuple _ :: _, _, h => by cases h
  | .dict _ :: _, _, h => by cases h
theorem intsOf_map : ∀ bs : List Int, intsOf (bs.map PyData.int) = some bs
  | [] => rfl
  | b :: bs => by
    show (intsOf (bs.map PyData.int)).map (b :: ·) = some (b :: bs)
    rw [intsOf_map bs]
    rfl
def sumD : PyData → Option PyData
  | .list xs => (intsOf xs).map fun ns => .int ns.sum
  | _ => none
theorem b_sum : PrimN K (p1 sumD) (rSum K) := by
  intro G H vs xs d ex da q Q k
  unfold p1 at q
  split at q
  · rename_i x
    cases x with
    | list zs =>
      simp only [sumD] at q
      cases e : intsOf zs with
      | none => rw [e] at q; cases q
      | some bs =>
        rw [e] at q
        cases q
        cases da with
        | cons d1 d2 =>
          cases d2
          cases d1 with
          | lst h z t =>
            have e2 := intsOf_eq e
            subst e2
            have e3 := t.of_ints
            subst e3
            exact ⟨_, bs, rfl, .inl (.inl (ex _ _ h)), k _ G H .refl (.int _)⟩
    | _ => cases q
  · cases q
def bitsD : PyData → Option PyData
  | .int i => some (.int (Builtin.Int.intBits i : Nat))
  | _ => none
theorem r_bits (h : PE X e (tBits (tS K a))) : PE X e (tS K (e1 bitsD a)) := h.conv fun σ H Q ⟨Z, G, ρ, d, ρ', R, q, k⟩ => by
  unfold e1 at q
  split at q
  · rename_i x ρ1 qa
    split at q
    · rename_i d' qf
      cases q
      refine ⟨Z, G, ρ, x, _, R, qa, fun v G1 H1 ex1 R1 d1 => ?_⟩
      unfold bitsD at qf
      split at qf
      · cases qf
        cases d1
        exact ⟨_, rfl, k _ G1 H1 ex1 R1 (.int _)⟩
      · cases qf
    · cases q
  · cases q
/-- repr -/
def reprOk (d : PyData) : Prop := d.canLay0 = true ∧ d.depth ≤ 64 ∧ d.showable = true ∧ d.shown.length ≤ sizeLine
open Classical in
noncomputable def reprD (d : PyData) : Option PyData := if reprOk d then some (.str d.shown) else none
def rRepr (K : PySem.W.Frag) : List V → Hp → VK → Prop := fun vs H Q => ∃ v d, vs = [v] ∧ Dp K H v d ∧ reprOk d ∧ Q (.str d.shown) H
theorem c_repr (hg : X.A.guards = some []) (hu : X.A.units + 66 < cLine) : CallR X (.builtin "repr") (rRepr X.K) := by
  intro pins s σ H vs us Q I r h
  obtain ⟨v, d, rfl, dp, ok, q⟩ := h
  obtain ⟨u, rfl, rv⟩ := vals1 r
  obtain ⟨h1, h2, h3, h4⟩ := ok
  have hd := PyData.hasDict_of_canLay d h1
  obtain ⟨as, rd⟩ := Dp.reads I d v u dp rv
  cases dp with
  | non => cases rv; exact PySem.P.repr_of_none ⟨.str _, H, I.tok _, ⟨_, rfl⟩, by simpa [PyData.shown] using q⟩
  | bl b => cases rv; exact PySem.P.repr_of_bool ⟨.str _, H, I.tok _, ⟨_, rfl⟩, by simpa [PyData.shown] using q⟩
  | int i => obtain ⟨t, rfl⟩ := rv; exact PySem.P.repr_of_int (by simpa [PyData.showable] using h3) ⟨.str _, H, I.tok _, ⟨_, rfl⟩, by simpa [PyData.shown] using q⟩
  | str x => obtain ⟨t, rfl⟩ := rv; exact PySem.P.repr_of_str ⟨.str _, H, I.tok _, ⟨_, rfl⟩, by simpa [PyData.shown] using q⟩ (by simpa [PyData.shown] using h4)
  | lst h5 h6 => cases rv; exact repr_of_reads' rd h3 (PyData.noDict_hsm hd) hg (by omega) (fun _ _ e => e) (fun h' u tk hk => ⟨.str _, H, I.kept hk, ⟨_, rfl⟩, q⟩) h4
  | tup h5 h6 => cases rv; exact repr_of_reads' rd h3 (PyData.noDict_hsm hd) hg (by omega) (fun _ _ e => e) (fun h' u tk hk => ⟨.str _, H, I.kept hk, ⟨_, rfl⟩, q⟩) h4
theorem b_repr : PrimN K (p1 reprD) (rRepr K) := by
  intro G H vs xs d ex da q Q k
  unfold p1 at q
  split at q
  · unfold reprD at q
    split at q
    · rename_i x ok
      cases q
      cases da with
      | cons d1 d2 =>
        cases d2
        exact ⟨_, x, rfl, (d1.mono ex).dp (PyData.hasDict_of_canLay x ok.1), ok, k _ G H .refl (.str _)⟩
    · cases q
  · cases q
/-- any, all of truths -/
def boolsOf : List PyData → Option (List Bool)
  | [] => some []
  | .bool b :: r => (boolsOf r).map (b :: ·)
  | _ :: _ => none
theorem boolsOf_eq : ∀ {xs : List PyData} {bs : List Bool}, boolsOf xs = some bs → xs = bs.map PyData.bool
  | [], bs, h => by cases h; rfl
  | .bool b :: r, bs, h => by
    simp only [boolsOf] at h
    cases e : boolsOf r with
    | none => rw [e] at h; cases h
    | some cs => rw [e] at h; cases h; rw [boolsOf_eq e]; rfl
  | .none :: _, _, h => by cases h
  | .int _ :: _, _, h => by cases h
  | .str _ :: _, _, h => by cases h
  | .list _ :: _, _, h => by cases h
  | .tuple _ :: _, _, h => by cases h
  | .dict _ :: _, _, h => by cases h
theorem boolsOf_map : ∀ bs : List Bool, boolsOf (bs.map PyData.bool) = some bs
  | [] => rfl
  | b :: bs => by
    show (boolsOf (bs.map PyData.bool)).map (b :: ·) = some (b :: bs)
    rw [boolsOf_map bs]
    rfl
def anyD : PyData → Option PyData
  | .list xs => (boolsOf xs).map fun bs => .bool (bs.any id)
  | _ => none
def allD : PyData → Option PyData
  | .list xs => (boolsOf xs).map fun bs => .bool (bs.all id)
  | _ => none
theorem b_any : PrimN K (p1 anyD) (rAny K) := by
  intro G H vs xs d ex da q Q k
  unfold p1 at q
  split at q
  · rename_i x
    cases x with
    | list zs =>
      simp only [anyD] at q
      cases e : boolsOf zs with
      | none => rw [e] at q; cases q
      | some bs =>
        rw [e] at q
        cases q
        cases da with
        | cons d1 d2 =>
          cases d2
          cases d1 with
          | lst h z t =>
            have e2 := boolsOf_eq e
            subst e2
            have e3 := t.of_bools
            subst e3
            exact ⟨_, bs, rfl, .inl (.inl (ex _ _ h)), k _ G H .refl (.bl _)⟩
    | _ => cases q
  · cases q
theorem b_all : PrimN K (p1 allD) (rAll K) := by
  intro G H vs xs d ex da q Q k
  unfold p1 at q
  split at q
  · rename_i x
    cases x with
    | list zs =>
      simp only [allD] at q
      cases e : boolsOf zs with
      | none => rw [e] at q; cases q
      | some bs =>
        rw [e] at q
        cases q
        cases da with
        | cons d1 d2 =>
          cases d2
          cases d1 with
          | lst h z t =>
            have e2 := boolsOf_eq e
            subst e2
            have e3 := t.of_bools
            subst e3
            exact ⟨_, bs, rfl, .inl (.inl (ex _ _ h)), k _ G H .refl (.bl _)⟩
    | _ => cases q
  · cases q
end
end DL

set_option maxHeartbeats 1000000
/-! DL8: the law's def, the end of a row. -/
namespace DL
open PySem PySem.Spec PyProof.Rows L2

/-- the heap behind the top, the script known as it stands -/
structure Top0 (P : Program) (w : World) (K : PySem.W.Frag) (h : Heap) (a : Addr) (ns : List Int) (H : Hp) : Prop where
  only : Only H
  seq : SqL K H a (ns.map V.int)
  ok : HOk P w H h
  at_ : ∀ b, H b ≠ none → b = a
  free : H a ≠ none → K.lookup a = none
theorem top0 {P : Program} {w : World} {K : PySem.W.Frag} {h : Heap} {a : Addr} {vs : List Value} {ns : List Int} (KX : K.In h) (ha : h.get? a = some { cls := .type "list", data := .seq vs.toArray }) (hi : IntsAre vs ns) (hl : ns.length ≤ sizeLine) : ∃ H, Top0 P w K h a ns H := by
  have rv := vals_ints hi
  have hlen := hi.length
  cases hk : K.lookup a with
  | some o =>
    have e := KX a o hk
    rw [ha] at e
    cases e
    refine ⟨fun _ => none, fun _ => .inl rfl, .inr ⟨_, vs.toArray, _, hk, rfl, rfl, rfl, ?_, ?_⟩, ?_, ?_, ?_⟩
    · rw [List.size_toArray, hlen]; exact hl
    · simpa using rv
    · intro b u z
      cases z
    · intro b z
      exact absurd rfl z
    · intro z
      exact absurd rfl z
  | none =>
    let ob : Obj := { cls := .type "list", data := .seq vs.toArray }
    have at1 : ∀ {b : Addr} {u : HO}, (if b = a then some (HO.frz ob (.lst (ns.map V.int))) else none) = some u → b = a ∧ u = HO.frz ob (.lst (ns.map V.int)) := by
      intro b u z
      by_cases q : b = a
      · rw [if_pos q] at z; exact ⟨q, (Option.some.inj z).symm⟩
      · rw [if_neg q] at z; cases z
    refine ⟨fun b => if b = a then some (.frz ob (.lst (ns.map V.int))) else none, fun b => ?_, .inl (.inr ⟨ob, if_pos rfl⟩), fun b u z => ?_, fun b z => ?_, fun _ => hk⟩
    · by_cases q : b = a
      · exact .inr ⟨_, _, if_pos q⟩
      · exact .inl (if_neg q)
    · obtain ⟨rfl, rfl⟩ := at1 z
      exact ⟨ha, by rw [List.length_map]; exact hl, vs, _, rv, ha⟩
    · by_cases q : b = a
      · exact q
      · exact absurd (if_neg q) z
theorem callG {P : Program} {w : World} {K : PySem.W.Frag} {mg mb : Str → Option Value} {k : Nat} {fa a : Addr} {fd : FuncData} {x : Str} {sp : Sp} {s1 : Shared} {vs : List Value} {ns : List Int}
    (KX : K.In s1.heap) (hns : s1.heap.Ns mainGlobals mg) (hb : s1.heap.Ns builtinsNs mb) (hbb : ∀ x : Str, x ≠ "__name__" → mb x = bootBuiltins x) (hlim : s1.heap.NoLimit) (hg : s1.gens = #[])
    (ha : s1.heap.get? a = some { cls := .type "list", data := .seq vs.toArray }) (hi : IntsAre vs ns) (hl : ns.length ≤ sizeLine) (hr : Room k callerA)
    (F : ∀ base : Heap, K.In base → base.Ns mainGlobals mg → FnG P w K mg base k fa fd [x] sp) (hbind : ∀ (s : Shared) (u : Value), BindsTo s fd ⟨[u], []⟩ [(x, u)])
    (hsp : ∀ H : Hp, Only H → SqL K H a (ns.map V.int) → sp [.ref a] H (fun v _ => v = .bl true) E0) :
    codeAny (model P w) callerA (.call (.ref fa) ⟨[.ref a], []⟩) (fun r s' => r = .ok (.ret (.bool true)) ∧ OldK s1.heap s'.heap ∧ s'.os = s1.os ∧ AllBare s'.gens) s1 := by
  obtain ⟨H, T⟩ := top0 (P := P) (w := w) KX ha hi hl
  have onlyA : ∀ {b : Addr} {u : HO}, H b = some u → b = a := fun {b u} e => T.at_ b fun z => by rw [z] at e; cases e
  -- what is a dict is not tracked
  have dictFree : ∀ {b : Addr} {o : Obj} {es : Array DictEntry} {ep : Nat}, s1.heap.get? b = some o → o.data = .dict es ep → H b = none := by
    intro b o es ep e d
    cases q : H b with
    | none => rfl
    | some u =>
      have eb := onlyA q
      rw [eb, ha] at e
      cases e
      exact nomatch d
  have ns0 : ∀ {b : Addr} {m : Str → Option Value}, s1.heap.Ns b m → (hidT s1.heap H).Ns b m := by
    rintro b m ⟨o, es, ep, e, d, r⟩
    exact ⟨o, es, ep, hidT_get e (dictFree e d), d, r⟩
  have KB : K.In (hidT s1.heap H) := by
    intro b o e
    refine hidT_get (KX b o e) ?_
    cases q : H b with
    | none => rfl
    | some u =>
      have eb := onlyA q
      subst eb
      rw [T.free (by rw [q]; intro z; cases z)] at e
      cases e
  have lim0 : (hidT s1.heap H).NoLimit := by
    obtain ⟨mc, c1, c2⟩ := hlim
    exact ⟨mc, ns0 c1, c2⟩
  have none0 : ∀ b ∈ frs ([] : List Env), H b = none := by
    intro b z
    have z' : b ∈ ([] : List Addr) := z
    cases z'
  have e0 : Env0 P w K mg (hidT s1.heap H) callerA [] s1 H := { frames := rfl, mod := ⟨KB, ns0 hns, ⟨mb, ns0 hb, hbb⟩, lim0⟩, bs := fun b o e => of_hidT e, bsz := Nat.le_of_eq (hidT_size _ _), funs := trivial, frf := none0, hok := T.ok, bare := .of_eq hg }
  have run := (F _ KB (ns0 hns)).run callerA [] s1 H ⟨[.ref a], []⟩ [.ref a] [.ref a] _ E0 hr rfl e0 (hbind s1 (.ref a)) (.cons rfl .nil) (hsp H T.only T.seq)
  refine codeAny_mono run fun r s2 h2 => ?_
  cases r with
  | error e => exact False.elim h2
  | ok fl =>
    cases fl with
    | next => exact False.elim h2
    | brk => exact False.elim h2
    | cont => exact False.elim h2
    | ret u =>
      obtain ⟨v, H2, os, bare, un, hok2, rv, qv⟩ := h2
      have ev : v = .bl true := qv
      subst ev
      have eu : u = Value.bool true := rv
      subst eu
      have nofr : ∀ b : Addr, b ∉ frs ([] : List Env) := by
        intro b z
        have z' : b ∈ ([] : List Addr) := z
        cases z'
      refine ⟨rfl, OldK.of_keep fun b o e => ?_, os, bare⟩
      cases q : H b with
      | none => exact un.keep b o e q (nofr b) (by simp)
      | some u =>
        rcases T.only b with z | ⟨ob, xs, z⟩
        · rw [q] at z; cases z
        · obtain ⟨g1, _⟩ := T.ok b _ z
          obtain ⟨g2, _⟩ := hok2 b _ (un.frzs b ob _ z)
          rw [e] at g1
          cases g1
          exact g2
/-- what a law promises -/
def spLaw (K : PySem.W.Frag) : Sp := fun vs H Q _ => ∃ (a : Addr) (ns : List Int), vs = [.ref a] ∧ SqL K H a (ns.map V.int) ∧ ns.length ≤ 63 ∧ ∀ H', Q (.bl true) H'
theorem walkG {l : PySem.W.OpenLaw} {k : Nat} {q : Program} {loose : List Str} {XP : (Str → Option Value) → Heap → Prop} {YP : World → Heap → Prop} {d : DefRec} {K : Params → PySem.W.Frag} {x : Str}
    (hn : l.most = some 63) (hdf : d.params.defaults = []) (hr : Room k callerA) (hY : ∀ (w : World) (h : Heap), YP w h → (K w.params).In h)
    (F : ∀ (w : World) (mg : Str → Option Value) (fa : Addr) (h : Heap), (K w.params).In h → h.Ns mainGlobals mg → mg d.name = some (.ref fa) →
      ∃ fd : FuncData, (∀ (s : Shared) (u : Value), BindsTo s fd ⟨[u], []⟩ [(x, u)]) ∧ ∀ base : Heap, (K w.params).In base → base.Ns mainGlobals mg → FnG l.prog w (K w.params) mg base k fa fd [x] (spLaw (K w.params))) :
    PySem.W.WalkO q loose XP YP l.row.toRowW d [] (fun f vs => PySem.call f vs) := by
  refine Att.attach_call hn hdf ?_
  intro w s0 s1 mg mb fa o pm cd doc a vs ns G Y ho hd hcd hmg hobj hints hlen hg
  have KX := hY w _ Y
  obtain ⟨fd, hb, hF⟩ := F w mg fa _ KX G.T.g hmg
  exact callG KX G.T.g G.T.b G.T.builtins G.T.nolimit hg hobj hints (Nat.le_trans hlen (by decide)) hr hF hb fun H hO hS => ⟨a, ns, rfl, hS, hlen, fun _ => rfl⟩

/-! ### the bag of a script -/
def bagD (ns : List Int) : PyData := .list [.int 0, .int 1234567891, .int 0, .list ((ns.map fun n => if n < 0 then -n else n).map .int)]
def spBag (K : PySem.W.Frag) : Sp := fun vs H Q _ => ∃ (a : Addr) (ns : List Int), vs = [.ref a] ∧ SqL K H a (ns.map V.int) ∧ ns.length ≤ 63 ∧
  ∀ p c H', Ex H H' → H p = none → H c = none → p ≠ c → H' c = some (.lst ((ns.map fun n => if n < 0 then -n else n).map V.int)) → H' p = some (.lst [.int 0, .int 1234567891, .int 0, .ref c]) → Q (.ref p) H'
section
variable {P : Program} {w : World} {K : PySem.W.Frag} {mg : Str → Option Value} {base : Heap} {x qual : Str} {st : Stmt} {f : Addr} {fd : FuncData} {N : List Str} {k i : Nat} {ψ : Sv}
def lawEn (n i : Nat) (ns : List Int) : En := (List.replicate n .u).set i (.o (bagD ns))
theorem fnLaw (F : Fun K x qual st f fd) (S : FnScope N ["script"] (defScope st)) (hi : i < N.length)
    (body : ∀ (cdv : Value) (A : Around) (outer : List Env) (s : Shared) (H : Hp) (E : XK), Room k (A.deeper (envOfC qual (defScope st) s.heap.objs.size f cdv)) → A.guards = some [] →
      PSs (cxG P w K mg base N qual st f cdv A outer s H E) (defBody st) (tSeq (tAsg (tCallG (spBag K) (tCons (tVar 0) tNil)) (gName i)) (tT K false ψ)))
    (hψ : ∀ ns : List Int, ns.length ≤ 63 → ∃ ρ', ψ (lawEn N.length i ns) = some (.ret (.bool true) ρ')) : FnG P w K mg base (k + 1) f fd ["script"] (spLaw K) := by
  refine fnG_ok F S (fun vs H Q E ⟨a, ns, e, _⟩ => by rw [e]; rfl) fun cdv A outer s H vs Q E hr hg hsp => ⟨_, body cdv A outer s H E hr hg, ?_⟩
  obtain ⟨a, ns, rfl, hS, hl, kk⟩ := hsp
  obtain ⟨ρ', hρ⟩ := hψ ns hl
  refine ⟨.ref a, start_at rfl, a, ns, rfl, hS, hl, fun p c H1 ex hp hc hpc hcc hpp => ?_⟩
  let G1 : Hp := fun b => if b = c then some (.lst ((ns.map fun n => if n < 0 then -n else n).map V.int)) else none
  have gc : G1 c = some (.lst ((ns.map fun n => if n < 0 then -n else n).map V.int)) := if_pos rfl
  have gn : ∀ b, b ≠ c → G1 b = none := fun b h => if_neg h
  have hlen : (start N [V.ref a]).length = N.length := start_len (by rw [List.length_singleton]; omega)
  have R : SR K ⟨fun _ => none, H, fun _ => none, fun _ => False⟩ G1 H1 (start N [V.ref a]) (List.replicate N.length .u) := by
    have no : ∀ {j : Nat} {s : Sl}, (List.replicate N.length Sl.u)[j]? = some s → s = .u := fun {j s} h => by
      rw [List.getElem?_replicate] at h
      split at h
      · cases h; rfl
      · cases h
    refine ⟨by rw [hlen, List.length_replicate], fun b o e => ?_, fun b o e => (by cases e), fun b o e => ?_, fun b o e _ => ex b o e, fun b o e => ⟨_, ex b o e⟩, fun j y e => ?_, fun j s y e q => ?_, fun j y e => ?_, fun j y b e => ?_, fun j b e => (by cases e), fun j m b ⟨s, y, e, q⟩ => ?_⟩
    · by_cases z : b = c
      · subst z; rw [gc] at e; cases e; exact hcc
      · rw [gn b z] at e; cases e
    · refine gn b fun z => ?_
      have e' : H b = some o := e
      rw [z, hc] at e'
      cases e'
    · cases no e
    · rw [no e] at q; cases q
    · cases no e
    · cases no e
    · rw [no e] at q; cases q
  have R2 := R.setO (i := i) (a := p) (x := bagD ns) (gn p hpc) hp (fun j ⟨s, y, e, q⟩ => by
    rw [List.getElem?_replicate] at e
    split at e
    · cases e; cases q
    · cases e) ⟨_, hpp, by show 4 ≤ sizeLine; decide, .cons (.int 0) (.cons (.int _) (.cons (.int 0) (.cons (.lst gc (by rw [List.length_map, List.length_map, sizeLine_eq]; omega) (DrAll.ints _)) .nil)))⟩
  refine ⟨_, G1, _, _, fun b z => (show False from z).elim, R2, hρ, ?_⟩
  intro v σ' G' H' ex' R' dv
  have dv' : Dr K G' v (.bool true) := dv
  cases dv'
  exact kk H'

/-- the reading of «return [0, 1234567891, 0, [abs(cell) for cell in script[:63]]]» -/
theorem bag_reads {D : Ends} {H : Hp} {a : Addr} {ns : List Int} {Q : VK} (hrt : D.rt = Q) (hS : SqL K H a (ns.map V.int)) (hl : ns.length ≤ 63)
    (q : ∀ p c H', Ex H H' → H p = none → H c = none → p ≠ c → H' c = some (.lst ((ns.map fun n => if n < 0 then -n else n).map V.int)) → H' p = some (.lst [.int 0, .int 1234567891, .int 0, .ref c]) → Q (.ref p) H') :
    tRet (tLst (tCons (tC (.int 0)) (tCons (tC (.int 1234567891)) (tCons (tC (.int 0)) (tCons (tLc (iList K (tSl (rSlL K) (tVar 0) tNoPart (tPart (tC (.int 63))))) (gName 1) tYes
      (tCB (fun xs H Q => ∃ i, xs = [.int i] ∧ Q (.int (if i < 0 then -i else i)) H) (tCons (tVar 1) tNil)) [1]) tNil))))) D [some (.ref a), none] H := by
  have hcut : cutV (ns.map V.int) none (some 63) = ns.map V.int := by
    unfold cutV
    rw [HT.sIx_none, show HT.sIx (ns.map V.int).length (ns.map V.int).length (some 63) = min 63 (ns.map V.int).length from HT.sIx_nat _ _ 63, List.drop_zero, Nat.sub_zero]
    exact List.take_of_length_le (by rw [List.length_map]; omega)
  refine ⟨.ref a, rfl, 63, rfl, a, _, rfl, hS, fun l hL => ?_⟩
  rw [hcut]
  refine ⟨l, rfl, ⟨_, .inl (.inl upd_same)⟩, fun D1 hD1 => ?_⟩
  have ne : l ≠ D1 := fun z => by rw [← z, upd_same] at hD1; cases hD1
  have hD0 : H D1 = none := by rw [upd_ne ne.symm] at hD1; exact hD1
  refine lc_list (K := K) (a := l) (xs := ns.map V.int) (fun m H' => Ex (upd H l (.lst (ns.map V.int))) H' ∧ H' D1 = some (.lst (((ns.take m).map fun n => if n < 0 then -n else n).map V.int)))
    ⟨Ex.new hD1, upd_same⟩ (fun m H' _ h => .inl (.inl (h.1 _ _ upd_same))) (fun m y H' hy h => ?_) (fun H' h => ?_)
  · rw [List.getElem?_map] at hy
    cases e : ns[m]? with
    | none => rw [e] at hy; cases hy
    | some n =>
      rw [e] at hy
      cases hy
      have hm : m < ns.length := (List.getElem?_eq_some_iff.mp e).1
      refine ⟨rfl, ?_⟩
      refine ⟨.int n, rfl, n, rfl, _, h.2, ?_, ?_, ?_⟩
      · rw [List.length_map, List.length_map, List.length_take, sizeLine_eq]; omega
      · intro b o hb
        have nb : b ≠ D1 := fun z => by rw [z, hD1] at hb; cases hb
        rw [upd_ne nb]
        exact h.1 b o hb
      · rw [upd_same, List.take_add_one, e, List.map_append, List.map_append]
        rfl
  · refine ⟨by show 4 ≤ sizeLine; decide, fun p hp => ?_⟩
    have hH : Ex H H' := (Ex.new hL).trans h.1
    have np : p ≠ D1 := fun z => by rw [z, h.2] at hp; cases hp
    have ep : H p = none := hH.none hp
    rw [hrt]
    refine q p D1 _ ?_ ep hD0 np ?_ upd_same
    · intro b o hb
      rw [upd_ne (fun z => by rw [z, ep] at hb; cases hb)]
      exact hH b o hb
    · rw [upd_ne np.symm, h.2, List.take_of_length_le (by rw [List.length_map]; exact Nat.le_refl _)]
end
end DL

set_option maxHeartbeats 1000000
/-! DL9: what changes no slot; a look at lists that are still to be changed; several targets. -/
namespace DL
open PySem PySem.Spec PyProof.Rows L2

def PuE (a : Ev) : Prop := ∀ ρ d ρ', a ρ = some (d, ρ') → ρ' = ρ
def PuQ (a : Eq) : Prop := ∀ ρ d ρ', a ρ = some (d, ρ') → ρ' = ρ
def PuA (a : Es) : Prop := ∀ ρ d ρ', a ρ = some (d, ρ') → ρ' = ρ
section
variable {a b : Ev} {q r : Eq} {as : Es} {i : Nat} {d : PyData} {f1 : PyData → Option PyData} {f2 : PyData → PyData → Option PyData} {fn : List PyData → Option PyData}
theorem pu_V : PuE (eV i) := fun ρ x ρ' h => by
  unfold eV at h
  split at h
  · cases h; rfl
  · cases h
theorem pu_C : PuE (eC d) := fun ρ x ρ' h => by cases h; rfl
theorem pu_1 (ha : PuE a) : PuE (e1 f1 a) := fun ρ x ρ' h => by
  unfold e1 at h
  split at h
  · rename_i y ρ1 qa
    split at h
    · cases h; exact ha _ _ _ qa
    · cases h
  · cases h
theorem pu_2 (ha : PuE a) (hb : PuE b) : PuE (e2 f2 a b) := fun ρ x ρ' h => by
  unfold e2 at h
  split at h
  · rename_i y ρ1 qa
    split at h
    · rename_i z ρ2 qb
      split at h
      · cases h
        have e1 := ha _ _ _ qa
        subst e1
        exact hb _ _ _ qb
      · cases h
    · cases h
  · cases h
theorem pu_N (ha : PuA as) : PuE (eN fn as) := fun ρ x ρ' h => by
  unfold eN at h
  split at h
  · rename_i y ρ1 qa
    split at h
    · cases h; exact ha _ _ _ qa
    · cases h
  · cases h
theorem pu_aN : PuA aN := fun ρ x ρ' h => by cases h; rfl
theorem pu_aC (ha : PuE a) (hb : PuA as) : PuA (aC a as) := fun ρ x ρ' h => by
  unfold aC at h
  split at h
  · rename_i y ρ1 qa
    split at h
    · rename_i z ρ2 qb
      cases h
      have e1 := ha _ _ _ qa
      subst e1
      exact hb _ _ _ qb
    · cases h
  · cases h
theorem pu_B (ha : PuE a) : PuQ (qB a) := fun ρ x ρ' h => by
  unfold qB at h
  split at h
  · rename_i qa; cases h; exact ha _ _ _ qa
  · cases h
theorem pu_And (ha : PuQ q) (hb : PuQ r) : PuQ (qAnd q r) := fun ρ x ρ' h => by
  unfold qAnd at h
  split at h
  · rename_i ρ1 qa
    have e1 := ha _ _ _ qa
    subst e1
    exact hb _ _ _ h
  · rename_i ρ1 qa; cases h; exact ha _ _ _ qa
  · cases h
theorem pu_Or (ha : PuQ q) (hb : PuQ r) : PuQ (qOr q r) := fun ρ x ρ' h => by
  unfold qOr at h
  split at h
  · rename_i ρ1 qa; cases h; exact ha _ _ _ qa
  · rename_i ρ1 qa
    have e1 := ha _ _ _ qa
    subst e1
    exact hb _ _ _ h
  · cases h
theorem pu_Not (ha : PuQ q) : PuQ (qNot q) := fun ρ x ρ' h => by
  unfold qNot at h
  split at h
  · rename_i qa; cases h; exact ha _ _ _ qa
  · cases h
theorem pu_If {c : Eq} (hc : PuQ c) (ha : PuE a) (hb : PuE b) : PuE (eIf c a b) := fun ρ x ρ' h => by
  unfold eIf at h
  split at h
  · rename_i ρ1 qa
    have e1 := hc _ _ _ qa
    subst e1
    exact ha _ _ _ h
  · rename_i ρ1 qa
    have e1 := hc _ _ _ qa
    subst e1
    exact hb _ _ _ h
  · cases h
theorem pu_eAnd (ha : PuE a) (hb : PuE b) : PuE (eAnd a b) := fun ρ x ρ' h => by
  unfold eAnd at h
  split at h
  · rename_i ρ1 qa
    have e1 := ha _ _ _ qa
    subst e1
    exact hb _ _ _ h
  · rename_i ρ1 qa; cases h; exact ha _ _ _ qa
  · cases h
theorem pu_eOr (ha : PuE a) (hb : PuE b) : PuE (eOr a b) := fun ρ x ρ' h => by
  unfold eOr at h
  split at h
  · rename_i ρ1 qa; cases h; exact ha _ _ _ qa
  · rename_i ρ1 qa
    have e1 := ha _ _ _ qa
    subst e1
    exact hb _ _ _ h
  · cases h
end

/-! ### all that is owned, looked at -/
def Sl.still : Sl → Sl
  | .o x => .d x
  | .b x => .d x
  | s => s
def stillE (ρ : En) : En := ρ.map Sl.still
def OwnAddr (σ : L2.St) (ρ : En) (b : Addr) : Prop := ∃ j, Owned ρ j ∧ σ[j]? = some (some (.ref b))
section
variable {K : PySem.W.Frag} {Z : Zn} {G H : Hp} {σ : L2.St} {ρ : En}
open Classical in
noncomputable def stillG (G H : Hp) (σ : L2.St) (ρ : En) : Hp := fun b => if OwnAddr σ ρ b then H b else G b
open Classical in
noncomputable def backG (G' : Hp) (σ : L2.St) (ρ : En) : Hp := fun b => if OwnAddr σ ρ b then none else G' b
theorem stillE_at {i : Nat} {s : Sl} (h : (stillE ρ)[i]? = some s) : ∃ s0, ρ[i]? = some s0 ∧ s = s0.still := by
  unfold stillE at h
  rw [List.getElem?_map] at h
  cases e : ρ[i]? with
  | none => rw [e] at h; cases h
  | some s0 => rw [e] at h; cases h; exact ⟨s0, rfl, rfl⟩
theorem still_own {s : Sl} {x : PyData} (h : s.still.own = some x) : False := by cases s <;> cases h
theorem exG (R : SR K Z G H σ ρ) : Ex G (stillG G H σ ρ) := fun b o e => by
  unfold stillG
  by_cases h : OwnAddr σ ρ b
  · rw [if_pos h]; exact R.gh b o e
  · rw [if_neg h]; exact e
theorem SR.still (R : SR K Z G H σ ρ) : SR K ⟨stillG G H σ ρ, H, Z.pin, fun _ => False⟩ (stillG G H σ ρ) H σ (stillE ρ) := by
  have no : ∀ {i : Nat} {s : Sl} {x : PyData}, (stillE ρ)[i]? = some s → s.own = some x → False := fun {i s x} h q => by
    obtain ⟨s0, _, rfl⟩ := stillE_at h
    exact still_own q
  refine ⟨by unfold stillE; rw [List.length_map]; exact R.len, fun b o e => ?_, Ex.refl _, fun _ _ _ => rfl, fun _ _ e _ => e, fun _ _ e => ⟨_, e⟩, fun i x e => ?_, fun i s x e q => (no e q).elim, fun i x e => (no e rfl).elim, fun i x a e => (no e rfl).elim, fun j a e => ?_, fun i j a ⟨s, x, e, q⟩ => (no e q).elim⟩
  · unfold stillG at e
    by_cases h : OwnAddr σ ρ b
    · rw [if_pos h] at e; exact e
    · rw [if_neg h] at e; exact R.gh b o e
  · obtain ⟨s0, h0, hs⟩ := stillE_at e
    have fz : ∀ {s : Sl} {y : PyData}, ρ[i]? = some s → s.own = some y → ∃ v, σ[i]? = some (some v) ∧ Dr K (stillG G H σ ρ) v y := fun {s y} h1 h2 => by
      obtain ⟨a, g1, g2, g3, g4⟩ := R.own i s y h1 h2
      refine ⟨.ref a, g1, ?_⟩
      have oa : OwnAddr σ ρ a := ⟨i, ⟨s, y, h1, h2⟩, g1⟩
      have ga : stillG G H σ ρ a = H a := by unfold stillG; rw [if_pos oa]
      cases y with
      | list ds => obtain ⟨vs, p1, z, p2⟩ := g3; exact .lst (ga.trans p1) z (p2.mono (exG R))
      | dict ps => obtain ⟨vs, p1, z, p2⟩ := g3; exact .dk (.inl (ga.trans p1)) z (p2.mono (exG R))
      | _ => exact g3.elim
    cases s0 with
    | u => cases hs
    | d y =>
      cases hs
      obtain ⟨v, h1, h2⟩ := R.str i x h0
      exact ⟨v, h1, h2.mono (exG R)⟩
    | o y => cases hs; exact fz h0 rfl
    | b y => cases hs; exact fz h0 rfl
  · obtain ⟨o, h⟩ := R.zpin j a e
    exact R.h1 a o h
theorem SR.unstill {G' H' : Hp} (R : SR K Z G H σ ρ) (R' : SR K ⟨stillG G H σ ρ, H, Z.pin, fun _ => False⟩ G' H' σ (stillE ρ)) (ex : Ex (stillG G H σ ρ) G') : SR K Z (backG G' σ ρ) H' σ ρ ∧ Ex G (backG G' σ ρ) := by
  have keepH : ∀ b o, H b = some o → H' b = some o := fun b o e => R'.h0 b o e fun z => z
  have gOwn : ∀ {b : Addr}, OwnAddr σ ρ b → G b = none := fun {b} ⟨j, ⟨s, x, e, q⟩, h⟩ => by
    obtain ⟨a, g1, g2, _⟩ := R.own j s x e q
    rw [h] at g1; cases g1
    exact g2
  have exb : Ex G (backG G' σ ρ) := fun b o e => by
    have n : ¬ OwnAddr σ ρ b := fun z => by rw [gOwn z] at e; cases e
    unfold backG
    rw [if_neg n]
    refine ex b o ?_
    unfold stillG
    rw [if_neg n]
    exact e
  refine ⟨⟨R.len, fun b o e => ?_, R.zg.trans exb, fun b o e => ?_, fun b o e n => keepH b o (R.h0 b o e n), fun b o e => ?_, fun i x e => ?_, fun i s x e q => ?_, R.bor, R.opin, R.zpin, R.inj⟩, exb⟩
  · unfold backG at e
    by_cases h : OwnAddr σ ρ b
    · rw [if_pos h] at e; cases e
    · rw [if_neg h] at e; exact R'.gh b o e
  · obtain ⟨o', h'⟩ := R.h1 b o e
    have g := R.g0 b o e
    unfold backG
    by_cases h : OwnAddr σ ρ b
    · rw [if_pos h, ← g]; exact (gOwn h).symm
    · rw [if_neg h, ← g]
      have := R'.g0 b o' h'
      rw [this]
      show stillG G H σ ρ b = G b
      unfold stillG
      rw [if_neg h]
  · obtain ⟨o', h'⟩ := R.h1 b o e
    exact ⟨o', keepH b o' h'⟩
  · obtain ⟨v, h1, h2⟩ := R.str i x e
    exact ⟨v, h1, h2.mono exb⟩
  · obtain ⟨a, h1, h2, h3, h4⟩ := R.own i s x e q
    obtain ⟨u, hu⟩ := h3.some
    refine ⟨a, h1, ?_, h3.mono exb ((keepH a u hu).trans hu.symm), h4⟩
    unfold backG
    rw [if_pos ⟨i, ⟨s, x, e, q⟩, h1⟩]
/-- data in which no list and no dict stands -/
inductive FlatT : PyData → Prop
  | non : FlatT .none
  | bl (b : Bool) : FlatT (.bool b)
  | int (i : Int) : FlatT (.int i)
  | str (x : Str) : FlatT (.str x)
  | tup {xs : List PyData} : (∀ x ∈ xs, FlatT x) → FlatT (.tuple xs)
end
section
variable {X : Cx} {K : PySem.W.Frag} {e : Expr} {a : Ev} {q : Eq}
def qFz (q : Eq) : Eq := fun ρ => match q (stillE ρ) with
  | some (b, _) => some (b, ρ)
  | none => none
theorem pu_Fz : PuQ (qFz q) := fun ρ x ρ' h => by
  unfold qFz at h
  split at h
  · cases h; rfl
  · cases h
theorem r_tfz (h : PT X e (tQ K q)) (hp : PuQ q) : PT X e (tQ K (qFz q)) := h.conv fun σ H Q ⟨Z, G, ρ, b, ρ', R, hq, k⟩ => by
  unfold qFz at hq
  split at hq
  · rename_i b' ρ1 q1
    cases hq
    have e1 := hp _ _ _ q1
    subst e1
    refine ⟨_, _, _, b, _, R.still, q1, fun G' H' ex R' => ?_⟩
    obtain ⟨R2, ex2⟩ := R.unstill R' ex
    exact k _ H' ex2 R2
  · cases hq
/-- a, b = e1, e2 -/
def sPar (i j : Nat) (as : Es) : Sv := fun ρ => match as ρ with
  | some ([x, y], ρ1) => some (.nx ((ρ1.set i (.d x)).set j (.d y)))
  | _ => none
variable {fr : Bool} {st : Stmt} {as : Es} {i j : Nat}
theorem r_par (h : PS X st (tPar i j (tAs K as))) : PS X st (tT K fr (sPar i j as)) := h.conv fun D σ H ⟨Z, G, ρ, w, zp, R, hq, k⟩ => by
  unfold sPar at hq
  split at hq
  · rename_i x y ρ1 qa
    cases hq
    refine ⟨Z, G, ρ, _, ρ1, R, qa, fun vs G1 H1 ex R1 dv => ?_⟩
    cases dv with
    | cons d1 d2 =>
      cases d2 with
      | cons d2 d3 =>
        cases d3
        exact ⟨_, _, rfl, k _ G1 H1 ex ((R1.setD d1).setD d2)⟩
  · cases hq
/-- a target of a pattern, the value data -/
def sPat (vs : List Nat) (g : Gv) (a : Ev) : Sv := fun ρ => match a ρ with
  | some (d, ρ1) => (match g d ρ1 with
    | some ρ2 => some (.nx ρ2)
    | none => none)
  | none => none
theorem r_pat {vs : List Nat} {g : Gv} (h : PS X st (tAsg (tS K a) (gD K vs g))) : PS X st (tT K fr (sPat vs g a)) := h.conv fun D σ H ⟨Z, G, ρ, w, zp, R, hq, k⟩ => by
  unfold sPat at hq
  split at hq
  · rename_i d ρ1 qa
    split at hq
    · rename_i ρ2 qg
      cases hq
      exact ⟨Z, G, ρ, d, ρ1, R, qa, fun v G1 H1 ex R1 dv => ⟨Z, G1, ρ1, d, ρ2, R1, dv, qg, fun σ' R2 _ => k σ' G1 H1 ex R2⟩⟩
    · cases hq
  · cases hq

theorem pu_Sl {f : PyData → Option Int → Option Int → Option PyData} {l h : En → Option (Option Int × En)} (ha : PuE a) (hl : ∀ ρ o ρ', l ρ = some (o, ρ') → ρ' = ρ) (hh : ∀ ρ o ρ', h ρ = some (o, ρ') → ρ' = ρ) : PuE (eSl f a l h) := fun ρ x ρ' q => by
  unfold eSl at q
  split at q
  · rename_i y ρ1 qa
    have e1 := ha _ _ _ qa
    subst e1
    split at q
    · rename_i o1 ρ2 ql
      have e2 := hl _ _ _ ql
      subst e2
      split at q
      · rename_i o2 ρ3 qh
        have e3 := hh _ _ _ qh
        subst e3
        split at q
        · cases q; rfl
        · cases q
      · cases q
    · cases q
  · cases q
theorem pu_oN : ∀ ρ o ρ', oN ρ = some (o, ρ') → ρ' = ρ := fun ρ o ρ' h => by cases h; rfl
theorem pu_oS (ha : PuE a) : ∀ ρ o ρ', oS a ρ = some (o, ρ') → ρ' = ρ := fun ρ o ρ' h => by
  unfold oS at h
  split at h
  · rename_i qa; cases h; exact ha _ _ _ qa
  · cases h
mutual
def flatB : PyData → Bool
  | .list _ => false
  | .dict _ => false
  | .tuple xs => flatBs xs
  | _ => true
def flatBs : List PyData → Bool
  | [] => true
  | x :: xs => flatB x && flatBs xs
end
section
variable {Z : Zn} {G H G' H' : Hp} {σ : L2.St} {ρ : En}
theorem notOwn_tup (R : SR K Z G H σ ρ) (keep : ∀ b o, H b = some o → H' b = some o) (gh : Ex G' H') {p : Addr} {vs : List V} (h : SqT K G' p vs) : SqT K (backG G' σ ρ) p vs := by
  rcases h with (h | ⟨o, h⟩) | h
  · refine .inl (.inl ?_)
    unfold backG
    rw [if_neg fun z => ?_]
    · exact h
    · obtain ⟨j, ⟨s, x, e, q⟩, hs⟩ := z
      obtain ⟨a, g1, _, g3, _⟩ := R.own j s x e q
      rw [hs] at g1; cases g1
      have h' := gh _ _ h
      cases x with
      | list ds => obtain ⟨ws, p1, _⟩ := g3; rw [keep _ _ p1] at h'; cases h'
      | dict ps => obtain ⟨ws, p1, _⟩ := g3; rw [keep _ _ p1] at h'; cases h'
      | _ => exact g3.elim
  · refine .inl (.inr ⟨o, ?_⟩)
    unfold backG
    rw [if_neg fun z => ?_]
    · exact h
    · obtain ⟨j, ⟨s, x, e, q⟩, hs⟩ := z
      obtain ⟨a, g1, _, g3, _⟩ := R.own j s x e q
      rw [hs] at g1; cases g1
      have h' := gh _ _ h
      cases x with
      | list ds => obtain ⟨ws, p1, _⟩ := g3; rw [keep _ _ p1] at h'; cases h'
      | dict ps => obtain ⟨ws, p1, _⟩ := g3; rw [keep _ _ p1] at h'; cases h'
      | _ => exact g3.elim
  · exact .inr h
mutual
theorem Dr.flat (R : SR K Z G H σ ρ) (keep : ∀ b o, H b = some o → H' b = some o) (gh : Ex G' H') : ∀ {v : V} {d : PyData}, Dr K G' v d → flatB d = true → Dr K (backG G' σ ρ) v d
  | _, _, .non, _ => .non
  | _, _, .bl b, _ => .bl b
  | _, _, .int i, _ => .int i
  | _, _, .str x, _ => .str x
  | _, _, .lst _ _ _, q => by simp [flatB] at q
  | _, _, .dk _ _ _, q => by simp [flatB] at q
  | _, _, .tup h z t, q => .tup (notOwn_tup R keep gh h) z (DrAll.flat R keep gh t (by simpa [flatB] using q))
theorem DrAll.flat (R : SR K Z G H σ ρ) (keep : ∀ b o, H b = some o → H' b = some o) (gh : Ex G' H') : ∀ {vs : List V} {ds : List PyData}, DrAll K G' vs ds → flatBs ds = true → DrAll K (backG G' σ ρ) vs ds
  | _, _, .nil, _ => .nil
  | _, _, .cons h t, q => by
    have q' := q
    simp only [flatBs, Bool.and_eq_true] at q'
    exact .cons (Dr.flat R keep gh h q'.1) (DrAll.flat R keep gh t q'.2)
end
end
def eFz (a : Ev) : Ev := fun ρ => match a (stillE ρ) with
  | some (d, _) => if flatB d = true then some (d, ρ) else none
  | none => none
theorem pu_eFz : PuE (eFz a) := fun ρ x ρ' h => by
  unfold eFz at h
  split at h
  · split at h
    · cases h; rfl
    · cases h
  · cases h
theorem r_sfz (h : PE X e (tS K a)) (hp : PuE a) : PE X e (tS K (eFz a)) := h.conv fun σ H Q ⟨Z, G, ρ, b, ρ', R, hq, k⟩ => by
  unfold eFz at hq
  split at hq
  · rename_i b' ρ1 q1
    split at hq
    · rename_i hf
      cases hq
      have e1 := hp _ _ _ q1
      subst e1
      refine ⟨_, _, _, b, _, R.still, q1, fun v G' H' ex R' dv => ?_⟩
      obtain ⟨R2, ex2⟩ := R.unstill R' ex
      exact k v _ H' ex2 R2 (dv.flat R (fun b o e => R'.h0 b o e fun z => z) R'.gh hf)
    · cases hq
  · cases hq
theorem t_fz {φ : Ev} {σ : L2.St} {H : Hp} {Q : VK} (h : tS K φ σ H Q) : tF K φ σ H Q := by
  obtain ⟨Z, G, ρ, d, ρ', R, q, k⟩ := h
  exact ⟨Z, G, ρ, d, ρ', R, q, fun a G' H' ex R' ha hz hn o => by
    obtain ⟨u, hu⟩ := o.some
    exact k (.ref a) (upd G' a u) H' (ex.trans (Ex.new ha)) (R'.frz ha hz hn hu) (o.frz ha hu)⟩
/-- y = [..] on one line -/
theorem r_setLc {y : Str} {py spos pos : Pos} {elt tg iter : Expr} {ifs : List Expr} {scope : Scope} {own : List (Str × Nat)} {it : Es} {g : Gv} {q : Eq} (hc : X.calm = true) (hN : X.N.Nodup) (hy : X.N[i]? = some y) (hyl : X.env.scope.names.lookup y = some .local)
    (hsw : swapsWith (.ListComp elt [⟨tg, iter, ifs, 0⟩] scope pos) (some (.Name y py)) spos.line X.env = pure true) (hi : PI X tg iter (tI K it)) (ok : BlkOk X.N X.env.scope scope own)
    (hg : ∀ (s : Shared) (H : Hp) (C : Addr) (cl : List (Str × Addr)) (fp : List Addr), PG (X.blk s H scope (compEnvC scope cl C X.env) fp) tg (gD K (own.map (·.2)) g))
    (ht : ∀ (s : Shared) (H : Hp) (C : Addr) (cl : List (Str × Addr)) (fp : List Addr), PTs (X.blk s H scope (compEnvC scope cl C X.env) fp) ifs (tQ K q))
    (he : ∀ (s : Shared) (H : Hp) (C : Addr) (cl : List (Str × Addr)) (fp : List Addr), PE (X.blk s H scope (compEnvC scope cl C X.env) fp) elt (tS K a)) (hs : ∀ x, foldedSetIterable iter X.env x = pure x := by intro _; rfl) :
    PS X (.Assign [.Name y py] (.ListComp elt [⟨tg, iter, ifs, 0⟩] scope pos) spos) (tT K fr (sAsg i (eLc (own.map (·.2)) it g q a))) :=
  r_asg (asg_conv (ps_setLc hc hN hy hyl hsw hi ok hg ht he hs) fun _ _ _ h => t_lc (t_fz h))
theorem r_setLcO {y : Str} {py spos pos : Pos} {elt tg iter : Expr} {ifs : List Expr} {scope : Scope} {own : List (Str × Nat)} {it : Es} {g : Gv} {q : Eq} (hc : X.calm = true) (hN : X.N.Nodup) (hy : X.N[i]? = some y) (hyl : X.env.scope.names.lookup y = some .local)
    (hsw : swapsWith (.ListComp elt [⟨tg, iter, ifs, 0⟩] scope pos) (some (.Name y py)) spos.line X.env = pure true) (hi : PI X tg iter (tI K it)) (ok : BlkOk X.N X.env.scope scope own)
    (hg : ∀ (s : Shared) (H : Hp) (C : Addr) (cl : List (Str × Addr)) (fp : List Addr), PG (X.blk s H scope (compEnvC scope cl C X.env) fp) tg (gD K (own.map (·.2)) g))
    (ht : ∀ (s : Shared) (H : Hp) (C : Addr) (cl : List (Str × Addr)) (fp : List Addr), PTs (X.blk s H scope (compEnvC scope cl C X.env) fp) ifs (tQ K q))
    (he : ∀ (s : Shared) (H : Hp) (C : Addr) (cl : List (Str × Addr)) (fp : List Addr), PE (X.blk s H scope (compEnvC scope cl C X.env) fp) elt (tS K a)) (hs : ∀ x, foldedSetIterable iter X.env x = pure x := by intro _; rfl) :
    PS X (.Assign [.Name y py] (.ListComp elt [⟨tg, iter, ifs, 0⟩] scope pos) spos) (tT K fr (sAsgO i (eLc (own.map (·.2)) it g q a))) :=
  r_asgO (asg_conv (ps_setLc hc hN hy hyl hsw hi ok hg ht he hs) fun _ _ _ h => t_lc h)
end
theorem room65 {A : Around} {k : Nat} (r : Room k A) : A.units + 65 < cLine := by have := r.un; omega
theorem room66 {A : Around} {k : Nat} (r : Room k A) : A.units + 66 < cLine := by have := r.un; omega
section
variable {P : Program} {w : World} {K : PySem.W.Frag} {mg : Str → Option Value} {base : Heap} {k : Nat} {f : Addr} {fd : FuncData} {ps : List Str}
theorem FnG.badP : FnG P w K mg base k f fd ps (SpP K fun _ => none) := ⟨fun vs H Q E ⟨_, _, _, _, _, h, _⟩ => (by cases h), fun A o s H args us vs Q E _ _ _ _ _ ⟨_, _, _, _, _, h, _⟩ => (by cases h)⟩
theorem FnG.badF : FnG P w K mg base k f fd ps (SpF K fun _ => none) := ⟨fun vs H Q E ⟨_, _, _, _, _, h, _⟩ => (by cases h), fun A o s H args us vs Q E _ _ _ _ _ ⟨_, _, _, _, _, h, _⟩ => (by cases h)⟩
theorem FnG.badI : FnG P w K mg base k f fd ps (SpI K fun _ _ => none) := ⟨fun vs H Q E ⟨_, _, _, _, _, _, _, _, _, _, _, _, h, _⟩ => (by cases h), fun A o s H args us vs Q E _ _ _ _ _ ⟨_, _, _, _, _, _, _, _, _, _, _, _, h, _⟩ => (by cases h)⟩
end
end DL

set_option maxHeartbeats 1000000
/-! DL10: looks at owned things that are checked as they run; several targets, some of them new things. -/
namespace DL
open PySem PySem.Spec PyProof.Rows L2

/-! ### a look, checked -/
open Classical in
noncomputable def eFc (a : Ev) : Ev := fun ρ => match a (stillE ρ) with
  | some (d, ρ1) => if ρ1 = stillE ρ ∧ flatB d = true then some (d, ρ) else none
  | none => none
open Classical in
noncomputable def eFl (a : Ev) : Ev := fun ρ => match a (stillE ρ) with
  | some (.list ds, ρ1) => if ρ1 = stillE ρ ∧ flatBs ds = true then some (.list ds, ρ) else none
  | _ => none
open Classical in
noncomputable def qFc (a : Eq) : Eq := fun ρ => match a (stillE ρ) with
  | some (b, ρ1) => if ρ1 = stillE ρ then some (b, ρ) else none
  | none => none
section
variable {X : Cx} {K : PySem.W.Frag} {e : Expr} {a : Ev} {q : Eq}
theorem r_tfc (h : PT X e (tQ K q)) : PT X e (tQ K (qFc q)) := h.conv fun σ H Q ⟨Z, G, ρ, b, ρ', R, hq, k⟩ => by
  unfold qFc at hq
  split at hq
  · rename_i b' ρ1 q1
    split at hq
    · rename_i e1
      cases hq
      subst e1
      refine ⟨_, _, _, b, _, R.still, q1, fun G' H' ex R' => ?_⟩
      obtain ⟨R2, ex2⟩ := R.unstill R' ex
      exact k _ H' ex2 R2
    · cases hq
  · cases hq
theorem r_sfc (h : PE X e (tS K a)) : PE X e (tS K (eFc a)) := h.conv fun σ H Q ⟨Z, G, ρ, b, ρ', R, hq, k⟩ => by
  unfold eFc at hq
  split at hq
  · rename_i b' ρ1 q1
    split at hq
    · rename_i hf
      cases hq
      have e1 := hf.1
      subst e1
      refine ⟨_, _, _, b, _, R.still, q1, fun v G' H' ex R' dv => ?_⟩
      obtain ⟨R2, ex2⟩ := R.unstill R' ex
      exact k v _ H' ex2 R2 (dv.flat R (fun b o e => R'.h0 b o e fun z => z) R'.gh hf.2)
    · cases hq
  · cases hq
/-- a new list of flat data, made by a look -/
theorem r_sfl (h : PE X e (tF K a)) : PE X e (tF K (eFl a)) := h.conv fun σ H Q ⟨Z, G, ρ, b, ρ', R, hq, k⟩ => by
  unfold eFl at hq
  split at hq
  · rename_i ds ρ1 q1
    split at hq
    · rename_i hf
      cases hq
      have e1 := hf.1
      subst e1
      refine ⟨_, _, _, _, _, R.still, q1, fun p G' H' ex R' ga hz hn o => ?_⟩
      obtain ⟨R2, ex2⟩ := R.unstill R' ex
      have hz' : H p = none := hz
      refine k p _ H' ex2 R2 ?_ (R.znone hz') (R.notOwned hz') ?_
      · unfold backG
        split
        · rfl
        · exact ga
      · obtain ⟨vs, p1, z, p2⟩ := o
        exact ⟨vs, p1, z, p2.flat R (fun b o e => R'.h0 b o e fun z => z) R'.gh hf.2⟩
    · cases hq
  · cases hq
end

/-! ### several values, some of them new things -/
abbrev Em := En → Option (List (Bool × PyData) × En)
inductive Mx (K : PySem.W.Frag) (Z : Zn) (G H : Hp) (σ : L2.St) (ρ : En) : List V → List (Bool × PyData) → List Addr → Prop
  | nil : Mx K Z G H σ ρ [] [] []
  | cd {v : V} {vs : List V} {d : PyData} {ms : List (Bool × PyData)} {fs : List Addr} : Dr K G v d → Mx K Z G H σ ρ vs ms fs → Mx K Z G H σ ρ (v :: vs) ((false, d) :: ms) fs
  | cf {a : Addr} {vs : List V} {d : PyData} {ms : List (Bool × PyData)} {fs : List Addr} : G a = none → Z.H a = none → (∀ j, Owned ρ j → σ[j]? ≠ some (some (.ref a))) → OwnAt K G H a d → a ∉ fs →
      Mx K Z G H σ ρ vs ms fs → Mx K Z G H σ ρ (.ref a :: vs) ((true, d) :: ms) (a :: fs)
def tAsM (K : PySem.W.Frag) (φ : Em) : TA := fun σ H Q => ∃ Z G ρ ms ρ', SR K Z G H σ ρ ∧ φ ρ = some (ms, ρ') ∧ ∀ vs fs G' H', Ex G G' → SR K Z G' H' σ ρ' → Mx K Z G' H' σ ρ' vs ms fs → Q vs H'
def mN : Em := fun ρ => some ([], ρ)
def mC (fresh : Bool) (a : Ev) (r : Em) : Em := fun ρ => match a ρ with
  | some (x, ρ1) => (match r ρ1 with
    | some (xs, ρ2) => some ((fresh, x) :: xs, ρ2)
    | none => none)
  | none => none
theorem Mx.len {K : PySem.W.Frag} {Z : Zn} {G H : Hp} {σ : L2.St} {ρ : En} {vs : List V} {ms : List (Bool × PyData)} {fs : List Addr} (m : Mx K Z G H σ ρ vs ms fs) : vs.length = ms.length := by
  induction m with
  | nil => rfl
  | cd _ _ ih => exact congrArg (· + 1) ih
  | cf _ _ _ _ _ _ ih => exact congrArg (· + 1) ih
/-- values of a later time, told from an earlier one -/
theorem Mx.back {K : PySem.W.Frag} {Z : Zn} {G0 H0 G H : Hp} {σ : L2.St} {ρ0 ρ : En} {vs : List V} {ms : List (Bool × PyData)} {fs : List Addr} (R : SR K Z G0 H0 σ ρ0) (m : Mx K (snap Z G0 H0 σ ρ0) G H σ ρ vs ms fs) : Mx K Z G H σ ρ vs ms fs := by
  induction m with
  | nil => exact .nil
  | cd h _ ih => exact .cd h ih
  | cf h1 h2 h3 h4 h5 _ ih => exact .cf h1 (R.znone h2) h3 h4 h5 ih
theorem Mx.fresh_not {K : PySem.W.Frag} {Z : Zn} {G H : Hp} {σ : L2.St} {ρ : En} {vs : List V} {ms : List (Bool × PyData)} {fs : List Addr} {p : Addr} {o : HO} (m : Mx K Z G H σ ρ vs ms fs) (hz : Z.H p = some o) : p ∉ fs := by
  induction m with
  | nil => simp
  | cd h _ ih => exact ih
  | cf h1 h2 h3 h4 h5 _ ih =>
    intro hm
    rcases List.mem_cons.mp hm with e | e
    · subst e
      rw [hz] at h2; cases h2
    · exact ih e
section
variable {X : Cx} {K : PySem.W.Frag} {e : Expr} {es : List Expr} {a : Ev} {r : Em}
theorem rm_nil : PA X [] (tAsM K mN) := pa_nil.conv fun σ H Q ⟨Z, G, ρ, d, ρ', R, q, k⟩ => by
  cases q
  exact k [] [] G H (Ex.refl _) R .nil
theorem rm_D (h : PE X e (tS K a)) (hr : PA X es (tAsM K r)) (hs : starEach (e :: es) X.env = (false, eval e X.env) :: starEach es X.env := by rfl) : PA X (e :: es) (tAsM K (mC false a r)) :=
  (pa_cons h hr hs).conv fun σ H Q ⟨Z, G, ρ, d, ρ', R, q, k⟩ => by
    unfold mC at q
    split at q
    · rename_i x ρ1 qa
      split at q
      · rename_i xs ρ2 qb
        cases q
        refine ⟨Z, G, ρ, x, ρ1, R, qa, fun v G1 H1 ex1 R1 d1 => ?_⟩
        exact ⟨Z, G1, ρ1, xs, _, R1, qb, fun vs fs G2 H2 ex2 R2 d2 => k (v :: vs) fs G2 H2 (ex1.trans ex2) R2 (.cd (d1.mono ex2) d2)⟩
      · cases q
    · cases q
theorem rm_F (h : PE X e (tF K a)) (hr : PA X es (tAsM K r)) (hs : starEach (e :: es) X.env = (false, eval e X.env) :: starEach es X.env := by rfl) : PA X (e :: es) (tAsM K (mC true a r)) :=
  (pa_cons h hr hs).conv fun σ H Q ⟨Z, G, ρ, d, ρ', R, q, k⟩ => by
    unfold mC at q
    split at q
    · rename_i x ρ1 qa
      split at q
      · rename_i xs ρ2 qb
        cases q
        refine ⟨Z, G, ρ, x, ρ1, R, qa, fun p G1 H1 ex1 R1 ga hz hn o => ?_⟩
        refine ⟨snap Z G1 H1 σ ρ1, G1, ρ1, xs, _, R1.snap, qb, fun vs fs G2 H2 ex2 R2 d2 => ?_⟩
        obtain ⟨u, hu⟩ := o.some
        have nio : ¬ (snap Z G1 H1 σ ρ1).io p := fun ⟨i, oi, hi⟩ => hn i oi hi
        have e1 : H2 p = H1 p := (R2.h0 p u hu nio).trans hu.symm
        have g2 : G2 p = none := (R2.g0 p u hu).trans ga
        refine k (.ref p :: vs) (p :: fs) G2 H2 (ex1.trans ex2) (R1.back R2) (.cf g2 hz (fun j ⟨s, y, e2, q2⟩ z => ?_) (o.mono ex2 e1) (d2.fresh_not hu) (d2.back R1))
        obtain ⟨b, b1, _, _, b4⟩ := R2.own j s y e2 q2
        rw [z] at b1; cases b1
        rcases b4 with b4 | b4
        · exact nio b4
        · have b4' : H1 p = none := b4
          rw [hu] at b4'; cases b4'
      · cases q
    · cases q
/-- stored one behind the other -/
def setV : List Nat → List V → L2.St → L2.St
  | i :: is, v :: vs, σ => setV is vs (σ.set i (some v))
  | _, _, σ => σ
def setM : List Nat → List (Bool × PyData) → En → En
  | i :: is, (f, d) :: ms, ρ => setM is ms (ρ.set i (if f = true then .o d else .d d))
  | _, _, ρ => ρ
theorem owned_set {ρ : En} {σ : L2.St} {i : Nat} {s : Sl} {v : V} {a : Addr} (hl : ρ.length = σ.length) (h : ∀ j, Owned ρ j → σ[j]? ≠ some (some (.ref a))) (hi : s.own = none ∨ v ≠ .ref a) : ∀ j, Owned (ρ.set i s) j → (σ.set i (some v))[j]? ≠ some (some (.ref a)) := by
  intro j ⟨s2, x, e, q⟩ z
  rcases getElem?_set_cases e with ⟨rfl, w⟩ | ⟨ne, w⟩
  · subst w
    rcases hi with hi | hi
    · rw [hi] at q; cases q
    · rcases getElem?_set_cases z with ⟨_, w2⟩ | ⟨n2, _⟩
      · cases w2; exact hi rfl
      · exact n2 rfl
  · rw [List.getElem?_set_ne (Ne.symm ne)] at z
    exact h j ⟨s2, x, w, q⟩ z
theorem Mx.setD {Z : Zn} {G H : Hp} {σ : L2.St} {ρ : En} {vs : List V} {ms : List (Bool × PyData)} {fs : List Addr} {i : Nat} {s : Sl} {v : V} (hl : ρ.length = σ.length) (hi : s.own = none ∨ ∀ a ∈ fs, v ≠ .ref a) (m : Mx K Z G H σ ρ vs ms fs) : Mx K Z G H (σ.set i (some v)) (ρ.set i s) vs ms fs := by
  induction m with
  | nil => exact .nil
  | cd h _ ih => exact .cd h (ih hi)
  | cf h1 h2 h3 h4 h5 _ ih => exact .cf h1 h2 (owned_set hl h3 (hi.imp id fun w => w _ (List.mem_cons_self ..))) h4 h5 (ih (hi.imp id fun w b hb => w b (List.mem_cons_of_mem _ hb)))
theorem SR.setM {Z : Zn} {G H : Hp} : ∀ {is : List Nat} {vs : List V} {ms : List (Bool × PyData)} {fs : List Addr} {σ : L2.St} {ρ : En}, is.length = ms.length → SR K Z G H σ ρ → Mx K Z G H σ ρ vs ms fs → SR K Z G H (setV is vs σ) (setM is ms ρ)
  | [], _, _, _, _, _, hl, R, m => by
    cases m with
    | nil => exact R
    | cd _ _ => cases hl
    | cf _ _ _ _ _ _ => cases hl
  | i :: is, _, _, _, σ, ρ, hl, R, m => by
    cases m with
    | nil => cases hl
    | @cd v vs d ms fs h t =>
      have t2 := t.setD (i := i) (s := .d d) (v := v) R.len (.inl rfl)
      exact SR.setM (ρ := ρ.set i (.d d)) (by simpa using hl) (R.setD h) t2
    | @cf a vs d ms fs h1 h2 h3 h4 h5 t =>
      have t2 := t.setD (i := i) (s := .o d) (v := .ref a) R.len (.inr fun b hb z => h5 (by injection z with z; rw [z]; exact hb))
      exact SR.setM (ρ := ρ.set i (.o d)) (by simpa using hl) (R.setO h1 h2 h3 h4) t2
variable {fr : Bool} {st : Stmt} {m : Em} {i j l : Nat}
def sParM (is : List Nat) (m : Em) : Sv := fun ρ => match m ρ with
  | some (ms, ρ1) => if is.length = ms.length then some (.nx (setM is ms ρ1)) else none
  | none => none
theorem r_parM2 (h : PS X st (tPar i j (tAsM K m))) : PS X st (tT K fr (sParM [i, j] m)) := h.conv fun D σ H ⟨Z, G, ρ, w, zp, R, hq, k⟩ => by
  unfold sParM at hq
  split at hq
  · rename_i ms ρ1 qa
    split at hq
    · rename_i hl
      cases hq
      refine ⟨Z, G, ρ, _, ρ1, R, qa, fun vs fs G1 H1 ex R1 mx => ?_⟩
      have := mx.len
      match vs, this with
      | [u, v], _ => exact ⟨u, v, rfl, k _ G1 H1 ex (R1.setM hl mx)⟩
      | [], e => rw [← e] at hl; cases hl
      | [u], e => rw [← e] at hl; cases hl
      | _ :: _ :: _ :: _, e => rw [← e] at hl; simp at hl
    · cases hq
  · cases hq
theorem r_parM3 (h : PS X st (tPar3 i j l (tAsM K m))) : PS X st (tT K fr (sParM [i, j, l] m)) := h.conv fun D σ H ⟨Z, G, ρ, w, zp, R, hq, k⟩ => by
  unfold sParM at hq
  split at hq
  · rename_i ms ρ1 qa
    split at hq
    · rename_i hl
      cases hq
      refine ⟨Z, G, ρ, _, ρ1, R, qa, fun vs fs G1 H1 ex R1 mx => ?_⟩
      have := mx.len
      match vs, this with
      | [u, v, w], _ => exact ⟨u, v, w, rfl, k _ G1 H1 ex (R1.setM hl mx)⟩
      | [], e => rw [← e] at hl; cases hl
      | [u], e => rw [← e] at hl; cases hl
      | [u, v], e => rw [← e] at hl; cases hl
      | _ :: _ :: _ :: _ :: _, e => rw [← e] at hl; simp at hl
    · cases hq
  · cases hq
/-- by a pattern: cells among the names -/
def gNames : List Nat → TGs
  | [] => gNil
  | i :: is => gCons (gName i) (gNames is)
theorem gNames_of : ∀ {is : List Nat} {vs : List V} {σ : L2.St} {H : Hp} {Q : L2.St → Hp → Prop}, is.length = vs.length → Q (setV is vs σ) H → gNames is vs σ H Q
  | [], [], _, _, _, _, q => ⟨rfl, q⟩
  | i :: is, v :: vs, σ, H, Q, hl, q => ⟨v, vs, rfl, gNames_of (by simpa using hl) q⟩
theorem Mx.beside {Z : Zn} {G H : Hp} {σ : L2.St} {ρ : En} {vs : List V} {ms : List (Bool × PyData)} {fs : List Addr} {p : Addr} {u : HO} (hp : H p = none) (m : Mx K Z G H σ ρ vs ms fs) : Mx K Z G (upd H p u) σ ρ vs ms fs := by
  induction m with
  | nil => exact .nil
  | cd h _ ih => exact .cd h ih
  | cf h1 h2 h3 h4 h5 _ ih =>
    obtain ⟨w, hw⟩ := h4.some
    have ne : ∀ {b : Addr}, H b = some w → b ≠ p := fun hb z => by rw [z, hp] at hb; cases hb
    exact .cf h1 h2 h3 (h4.mono (Ex.refl _) (upd_ne (ne hw))) h5 ih
theorem r_parMC {is : List Nat} (hn : is.length ≤ 16777216) (h : PS X st (tAsg (tTup (tAsM K m)) (gTup K is.length (gNames is)))) : PS X st (tT K fr (sParM is m)) := h.conv fun D σ H ⟨Z, G, ρ, w, zp, R, hq, k⟩ => by
  unfold sParM at hq
  split at hq
  · rename_i ms ρ1 qa
    split at hq
    · rename_i hl
      cases hq
      refine ⟨Z, G, ρ, _, ρ1, R, qa, fun vs fs G1 H1 ex R1 mx => ?_⟩
      have hv := mx.len
      refine ⟨by rw [hv, ← hl, sizeLine_eq]; exact hn, fun p hp => ?_⟩
      refine ⟨p, vs, rfl, .inl (.inl upd_same), hv.trans hl.symm, gNames_of (hl.trans hv.symm) ?_⟩
      exact k _ G1 _ ex ((R1.beside hp).setM hl (mx.beside hp))
    · cases hq
  · cases hq
end
end DL

set_option maxHeartbeats 1000000
/-! DL11: dicts, sorted, isinstance, chains. -/
namespace DL
open PySem PySem.Spec PyProof.Rows L2

/-! ### dicts -/
def keyD : PyData → Option Key
  | .int i => some (.inl i)
  | .str x => some (.inr x)
  | _ => none
theorem keyD_kD (k : Key) : keyD (kD k) = some k := by cases k <;> rfl
def getK : List (PyData × PyData) → Key → Option PyData
  | [], _ => none
  | (a, b) :: r, k => if keyD a = some k then some b else getK r k
def putD (ps : List (PyData × PyData)) (k : Key) (d : PyData) : List (PyData × PyData) :=
  if (getK ps k).isSome = true then ps.map fun p => if keyD p.1 = some k then (p.1, d) else p else ps ++ [(kD k, d)]
section
variable {K : PySem.W.Frag} {G H : Hp}
theorem keyV {y : V} {x : PyData} {k : Key} (h : Dr K G y x) (e : keyD x = some k) : y = kV k := by
  unfold keyD at e
  split at e
  · cases e; cases h; rfl
  · cases e; cases h; rfl
  · cases e
theorem getK_none : ∀ {kvs : List (Key × V)} {ps : List (PyData × PyData)} {k : Key}, DrKv K G kvs ps → getK ps k = none → valV kvs k = none
  | _, _, k, .nil, _ => valV_nil
  | _, _, k, .cons (k := k') h t, q => by
    unfold getK at q
    rw [keyD_kD] at q
    split at q
    · cases q
    · rename_i n
      rw [valV_neg (fun z => n (by rw [← z]))]
      exact getK_none t q
theorem getK_some : ∀ {kvs : List (Key × V)} {ps : List (PyData × PyData)} {k : Key} {d : PyData}, DrKv K G kvs ps → getK ps k = some d → ∃ v, valV kvs k = some v ∧ Dr K G v d
  | _, _, k, d, .nil, q => by cases q
  | _, _, k, d, .cons (k := k') h t, q => by
    unfold getK at q
    rw [keyD_kD] at q
    split at q
    · rename_i n
      cases q
      exact ⟨_, valV_pos (Option.some.inj n), h⟩
    · rename_i n
      rw [valV_neg (fun z => n (by rw [← z]))]
      exact getK_some t q
theorem drkv_append {kvs : List (Key × V)} {ps : List (PyData × PyData)} {k : Key} {v : V} {d : PyData} (r : Dr K G v d) : DrKv K G kvs ps → DrKv K G (kvs ++ [(k, v)]) (ps ++ [(kD k, d)])
  | .nil => .cons r .nil
  | .cons h t => .cons h (drkv_append r t)
theorem drkv_map {k : Key} {v : V} {d : PyData} (r : Dr K G v d) : ∀ {kvs : List (Key × V)} {ps : List (PyData × PyData)}, DrKv K G kvs ps → DrKv K G (kvs.map fun kv => if kv.1 = k then (kv.1, v) else kv) (ps.map fun p => if keyD p.1 = some k then (p.1, d) else p)
  | _, _, .nil => .nil
  | _, _, .cons (k := k') h t => by
    simp only [List.map_cons, keyD_kD]
    by_cases e : k' = k
    · rw [if_pos e, if_pos (by rw [e])]
      exact .cons r (drkv_map r t)
    · rw [if_neg e, if_neg (fun z => e (Option.some.inj z))]
      exact .cons h (drkv_map r t)
theorem drkv_put {kvs : List (Key × V)} {ps : List (PyData × PyData)} {k : Key} {v : V} {d : PyData} (t : DrKv K G kvs ps) (r : Dr K G v d) : DrKv K G (putK kvs k v) (putD ps k d) := by
  unfold putK putD
  rw [valV_any]
  cases e : getK ps k with
  | none =>
    rw [getK_none t e, if_neg (by simp), if_neg (by simp)]
    exact drkv_append r t
  | some d' =>
    obtain ⟨v', e', _⟩ := getK_some t e
    rw [e', if_pos (by rfl), if_pos (by rfl)]
    exact drkv_map r t
theorem putK_len {kvs : List (Key × V)} {k : Key} {v : V} (h : kvs.length < sizeLine) : (putK kvs k v).length ≤ sizeLine := by
  unfold putK
  split
  · rw [List.length_map]; omega
  · rw [List.length_append, List.length_singleton]; omega
end
def dgetD (x k : PyData) : Option PyData := match x with
  | .dict ps => (keyD k).bind (getK ps)
  | _ => none
def ixX (x k : PyData) : Option PyData := match x with
  | .dict ps => (keyD k).bind (getK ps)
  | _ => ixD x k
section
variable {X : Cx} {ea eb : Expr} {a b : Ev} {pos : Pos}
theorem dr_dict {K : PySem.W.Frag} {G H : Hp} {v : V} {ps : List (PyData × PyData)} (h : Dr K G v (.dict ps)) (e : Ex G H) : ∃ p kvs, v = .ref p ∧ Rd H p (.dK kvs) ∧ DrKv K G kvs ps ∧ kvs.length ≤ sizeLine := by
  cases h with
  | dk h1 z t => exact ⟨_, _, rfl, e.rd h1, t, z⟩
theorem r_dget (hu : X.A.units + 1 < cLine) (h1 : PE X ea (tS X.K a)) (h2 : PE X eb (tS X.K b)) (hs : NoSl eb := by intro _ _; rfl) : PE X (.Subscript ea eb pos) (tS X.K (e2 dgetD a b)) :=
  (pe_dget hu h1 h2 hs).conv fun σ H Q h => by
    obtain ⟨Z, G, ρ, d, ρ', R, q, k⟩ := h
    unfold e2 at q
    split at q
    · rename_i x ρ1 qa
      split at q
      · rename_i y ρ2 qb
        split at q
        · rename_i d' qf
          cases q
          refine ⟨Z, G, ρ, x, ρ1, R, qa, fun v G1 H1 ex1 R1 d1 => ?_⟩
          refine ⟨Z, G1, ρ1, y, _, R1, qb, fun u G2 H2 ex2 R2 d2 => ?_⟩
          unfold dgetD at qf
          split at qf
          · rename_i ps
            obtain ⟨p, kvs, rfl, hr, t, _⟩ := dr_dict (d1.mono ex2) R2.gh
            cases e : keyD y with
            | none => rw [e] at qf; cases qf
            | some ky =>
              rw [e] at qf
              have hy := keyV d2 e
              obtain ⟨w, hw, dw⟩ := getK_some t qf
              exact ⟨p, w, rfl, .inl ⟨kvs, ky, hr, hy, hw.symm⟩, k w _ H2 (ex1.trans ex2) R2 dw⟩
          · cases qf
        · cases q
      · cases q
    · cases q
theorem r_ixX {K' : PySem.W.Frag} (h : PE X (.Subscript ea eb pos) (tS X.K (e2 ixD a b))) (h' : PE X (.Subscript ea eb pos) (tS X.K (e2 dgetD a b))) : PE X (.Subscript ea eb pos) (tS X.K (e2 ixX a b)) := (h.alt h').conv fun σ H Q h => by
  obtain ⟨Z, G, ρ, d, ρ', R, q, k⟩ := h
  unfold e2 at q
  split at q
  · rename_i x ρ1 qa
    split at q
    · rename_i y ρ2 qb
      split at q
      · rename_i d' qf
        cases q
        unfold ixX at qf
        split at qf
        · refine .inr ⟨Z, G, ρ, _, _, R, ?_, k⟩
          unfold e2
          rw [qa]
          simp only [qb]
          unfold dgetD
          simp only [qf]
        · refine .inl ⟨Z, G, ρ, _, _, R, ?_, k⟩
          unfold e2
          rw [qa]
          simp only [qb, qf]
      · cases q
    · cases q
  · cases q
/-- k in d, beside k in xs -/
def dinD (y x : PyData) : Option PyData := match x with
  | .dict ps => (keyD y).map fun k => .bool (getK ps k).isSome
  | _ => none
def dninD (y x : PyData) : Option PyData := match x with
  | .dict ps => (keyD y).map fun k => .bool (!(getK ps k).isSome)
  | _ => none
def inX (y x : PyData) : Option PyData := match x with
  | .dict ps => (keyD y).map fun k => .bool (getK ps k).isSome
  | _ => inD y x
def ninX (y x : PyData) : Option PyData := match x with
  | .dict ps => (keyD y).map fun k => .bool (!(getK ps k).isSome)
  | _ => ninD y x
theorem getK_iff {K : PySem.W.Frag} {G : Hp} {kvs : List (Key × V)} {ps : List (PyData × PyData)} {k : Key} (t : DrKv K G kvs ps) : (valV kvs k).isSome = (getK ps k).isSome := by
  cases e : getK ps k with
  | none => rw [getK_none t e]; rfl
  | some d => obtain ⟨v, e', _⟩ := getK_some t e; rw [e']; rfl
theorem t_din {σ : L2.St} {H : Hp} {Q : VK} (h : tS X.K (e2 dinD a b) σ H Q) : tDIn (tS X.K a) (tS X.K b) σ H Q := by
    obtain ⟨Z, G, ρ, d, ρ', R, q, k⟩ := h
    unfold e2 at q
    split at q
    · rename_i x ρ1 qa
      split at q
      · rename_i y ρ2 qb
        split at q
        · rename_i d' qf
          cases q
          refine ⟨Z, G, ρ, x, ρ1, R, qa, fun v G1 H1 ex1 R1 d1 => ?_⟩
          refine ⟨Z, G1, ρ1, y, _, R1, qb, fun u G2 H2 ex2 R2 d2 => ?_⟩
          unfold dinD at qf
          split at qf
          · rename_i ps
            obtain ⟨p, kvs, rfl, hr, t, _⟩ := dr_dict d2 R2.gh
            cases e : keyD x with
            | none => rw [e] at qf; cases qf
            | some ky =>
              rw [e] at qf
              cases qf
              have hy := keyV (d1.mono ex2) e
              refine ⟨p, valV kvs ky, rfl, .inl ⟨kvs, ky, hr, hy, rfl⟩, ?_⟩
              rw [getK_iff t]
              exact k _ _ H2 (ex1.trans ex2) R2 (.bl _)
          · cases qf
        · cases q
      · cases q
    · cases q
theorem r_din (hu : X.A.units + 1 < cLine) (h1 : PE X ea (tS X.K a)) (h2 : PE X eb (tS X.K b)) (hm : behindInMarks .In eb = false := by rfl) : PE X (.Compare ea [.In] [eb] pos) (tS X.K (e2 dinD a b)) :=
  (pe_cmp (pc_din hu h1 h2) hm).conv fun _ _ _ h => t_din h
theorem r_tdin (hu : X.A.units + 1 < cLine) (h1 : PE X ea (tS X.K a)) (h2 : PE X eb (tS X.K b)) (hm : behindInMarks .In eb = false := by rfl) : PT X (.Compare ea [.In] [eb] pos) (tQ X.K (qB (e2 dinD a b))) :=
  (pt_cmp (pc_din hu h1 h2) hm).conv fun _ _ _ h => t_din (tS_bool h)
theorem t_dnin {σ : L2.St} {H : Hp} {Q : VK} (h : tS X.K (e2 dninD a b) σ H Q) : tDNotIn (tS X.K a) (tS X.K b) σ H Q := by
    obtain ⟨Z, G, ρ, d, ρ', R, q, k⟩ := h
    unfold e2 at q
    split at q
    · rename_i x ρ1 qa
      split at q
      · rename_i y ρ2 qb
        split at q
        · rename_i d' qf
          cases q
          refine ⟨Z, G, ρ, x, ρ1, R, qa, fun v G1 H1 ex1 R1 d1 => ?_⟩
          refine ⟨Z, G1, ρ1, y, _, R1, qb, fun u G2 H2 ex2 R2 d2 => ?_⟩
          unfold dninD at qf
          split at qf
          · rename_i ps
            obtain ⟨p, kvs, rfl, hr, t, _⟩ := dr_dict d2 R2.gh
            cases e : keyD x with
            | none => rw [e] at qf; cases qf
            | some ky =>
              rw [e] at qf
              cases qf
              have hy := keyV (d1.mono ex2) e
              refine ⟨p, valV kvs ky, rfl, .inl ⟨kvs, ky, hr, hy, rfl⟩, ?_⟩
              rw [getK_iff t]
              exact k _ _ H2 (ex1.trans ex2) R2 (.bl _)
          · cases qf
        · cases q
      · cases q
    · cases q
theorem r_dnin (hu : X.A.units + 1 < cLine) (h1 : PE X ea (tS X.K a)) (h2 : PE X eb (tS X.K b)) (hm : behindInMarks .NotIn eb = false := by rfl) : PE X (.Compare ea [.NotIn] [eb] pos) (tS X.K (e2 dninD a b)) :=
  (pe_cmp (pc_dnotin hu h1 h2) hm).conv fun _ _ _ h => t_dnin h
theorem r_tdnin (hu : X.A.units + 1 < cLine) (h1 : PE X ea (tS X.K a)) (h2 : PE X eb (tS X.K b)) (hm : behindInMarks .NotIn eb = false := by rfl) : PT X (.Compare ea [.NotIn] [eb] pos) (tQ X.K (qB (e2 dninD a b))) :=
  (pt_cmp (pc_dnotin hu h1 h2) hm).conv fun _ _ _ h => t_dnin (tS_bool h)
theorem t_orD {f g h : PyData → PyData → Option PyData} {t : TE} {σ : L2.St} {H : Hp} {Q : VK} {K : PySem.W.Frag} (w : ∀ x y d, h x y = some d → f x y = some d ∨ g x y = some d) (q : tS K (e2 h a b) σ H Q) : tS K (e2 f a b) σ H Q ∨ tS K (e2 g a b) σ H Q := by
  obtain ⟨Z, G, ρ, d, ρ', R, q, k⟩ := q
  unfold e2 at q
  split at q
  · rename_i x ρ1 qa
    split at q
    · rename_i y ρ2 qb
      split at q
      · rename_i d' qf
        cases q
        rcases w _ _ _ qf with c | c
        · refine .inl ⟨Z, G, ρ, _, _, R, ?_, k⟩
          unfold e2
          rw [qa]
          simp only [qb, c]
        · refine .inr ⟨Z, G, ρ, _, _, R, ?_, k⟩
          unfold e2
          rw [qa]
          simp only [qb, c]
      · cases q
    · cases q
  · cases q
theorem _root_.L2.PT.alt {e : Expr} {t t' : TT} (h : PT X e t) (h' : PT X e t') : PT X e (fun σ H Q => t σ H Q ∨ t' σ H Q) := ⟨fun pins s σ H Q I q => q.elim (h.run pins s σ H Q I) (h'.run pins s σ H Q I)⟩
theorem q_orD {f g h : PyData → PyData → Option PyData} {σ : L2.St} {H : Hp} {Q : Bool → Hp → Prop} {K : PySem.W.Frag} (w : ∀ x y d, h x y = some d → f x y = some d ∨ g x y = some d) (q : tQ K (qB (e2 h a b)) σ H Q) : tQ K (qB (e2 f a b)) σ H Q ∨ tQ K (qB (e2 g a b)) σ H Q := by
  obtain ⟨Z, G, ρ, d, ρ', R, q, k⟩ := q
  unfold qB e2 at q
  split at q
  · rename_i qq
    cases q
    split at qq
    · rename_i x ρ1 qa
      split at qq
      · rename_i y ρ2 qb
        split at qq
        · rename_i d' qf
          cases qq
          rcases w _ _ _ qf with c | c
          · refine .inl ⟨Z, G, ρ, _, _, R, ?_, k⟩
            unfold qB e2
            rw [qa]
            simp only [qb, c]
          · refine .inr ⟨Z, G, ρ, _, _, R, ?_, k⟩
            unfold qB e2
            rw [qa]
            simp only [qb, c]
        · cases qq
      · cases qq
    · cases qq
  · cases q
theorem r_inX {e : Expr} (h : PE X e (tS X.K (e2 inD a b))) (h' : PE X e (tS X.K (e2 dinD a b))) : PE X e (tS X.K (e2 inX a b)) := (h.alt h').conv fun σ H Q q => t_orD (t := tS X.K a) (fun x y d z => by
  unfold inX at z
  split at z
  · exact .inr z
  · exact .inl z) q
theorem r_ninX {e : Expr} (h : PE X e (tS X.K (e2 ninD a b))) (h' : PE X e (tS X.K (e2 dninD a b))) : PE X e (tS X.K (e2 ninX a b)) := (h.alt h').conv fun σ H Q q => t_orD (t := tS X.K a) (fun x y d z => by
  unfold ninX at z
  split at z
  · exact .inr z
  · exact .inl z) q
theorem r_tinX {e : Expr} (h : PT X e (tQ X.K (qB (e2 inD a b)))) (h' : PT X e (tQ X.K (qB (e2 dinD a b)))) : PT X e (tQ X.K (qB (e2 inX a b))) := (h.alt h').conv fun σ H Q q => q_orD (fun x y d z => by
  unfold inX at z
  split at z
  · exact .inr z
  · exact .inl z) q
theorem r_tninX {e : Expr} (h : PT X e (tQ X.K (qB (e2 ninD a b)))) (h' : PT X e (tQ X.K (qB (e2 dninD a b)))) : PT X e (tQ X.K (qB (e2 ninX a b))) := (h.alt h').conv fun σ H Q q => q_orD (fun x y d z => by
  unfold ninX at z
  split at z
  · exact .inr z
  · exact .inl z) q
end
end DL

set_option maxHeartbeats 1000000
/-! DL12: stores into dicts, get, len, sorted, isinstance, chains. -/
namespace DL
open PySem PySem.Spec PyProof.Rows L2
section
variable {X : Cx} {K : PySem.W.Frag} {e ea eb ec : Expr} {a b c ix : Ev} {pos : Pos} {st : Stmt} {i : Nat} {fr : Bool}
theorem _root_.L2.PS.alt {t t' : TS} (h : PS X st t) (h' : PS X st t') : PS X st (fun D σ H => t D σ H ∨ t' D σ H) := ⟨fun pins s σ H D I q => q.elim (h.run pins s σ H D I) (h'.run pins s σ H D I)⟩
def setXD (x k d : PyData) : Option PyData := match x with
  | .dict ps => (match keyD k with
    | some ky => if ps.length < 16777216 then some (.dict (putD ps ky d)) else none
    | none => none)
  | x => setLD x k d
def sSetX (i : Nat) (ix a : Ev) : Sv := fun ρ => match a ρ with
  | some (d, ρ1) => (match ρ1[i]? with
    | some s0 => (match s0.own with
      | some _ => (match ix ρ1 with
        | some (k, ρ2) => (match ρ2[i]? with
          | some s => (match s.own with
            | some x => (match setXD x k d with
              | some y => some (.nx (ρ2.set i (s.put y)))
              | none => none)
            | none => none)
          | none => none)
        | none => none)
      | none => none)
    | none => none)
  | none => none
theorem r_setX (h : PS X st (tAsg (tS K a) (gSub (tVar i) (tS K ix) rSetL))) (h' : PS X st (sDPut (tVar i) (tS K ix) (tS K a))) : PS X st (tT K fr (sSetX i ix a)) := (h.alt h').conv fun D σ H ⟨Z, G, ρ, w, zp, R, q, k⟩ => by
  unfold sSetX at q
  split at q
  · rename_i d ρ1 qa
    split at q
    · rename_i s0 e0
      split at q
      · rename_i x0 o0
        split at q
        · rename_i kd ρ2 qi
          split at q
          · rename_i s es
            split at q
            · rename_i x ox
              split at q
              · rename_i y qs
                cases q
                unfold setXD at qs
                split at qs
                · rename_i ps
                  split at qs
                  · rename_i ky ek
                    split at qs
                    · rename_i hl
                      cases qs
                      refine .inr ⟨Z, G, ρ, d, ρ1, R, qa, fun v G1 H1 ex1 R1 dv => ?_⟩
                      obtain ⟨p, hp, _⟩ := R1.own i s0 x0 e0 o0
                      refine ⟨.ref p, hp, Z, G1, ρ1, kd, ρ2, R1, qi, fun u G2 H2 ex2 R2 du => ?_⟩
                      obtain ⟨p', hp', g1, o2, _⟩ := R2.own i s (.dict ps) es ox
                      rw [hp] at hp'; cases hp'
                      obtain ⟨kvs, hv, z, da⟩ := o2
                      have hu := keyV du ek
                      have hl' : kvs.length < sizeLine := by rw [drkv_len da, sizeLine_eq]; exact hl
                      refine ⟨p, _, rfl, .inl ⟨kvs, ky, hv, hu, hl', rfl⟩, ?_⟩
                      exact k σ G2 _ (ex1.trans ex2) (R2.mut es ox hp ⟨_, upd_same, putK_len hl', drkv_put da (dv.mono ex2)⟩)
                    · cases qs
                  · cases qs
                · refine .inl ⟨Z, G, ρ, d, ρ1, R, qa, fun v G1 H1 ex1 R1 dv => ?_⟩
                  obtain ⟨p, hp, _⟩ := R1.own i s0 x0 e0 o0
                  refine ⟨.ref p, hp, Z, G1, ρ1, kd, ρ2, R1, qi, fun u G2 H2 ex2 R2 du => ?_⟩
                  obtain ⟨p', hp', g1, o2, _⟩ := R2.own i s x es ox
                  rw [hp] at hp'; cases hp'
                  unfold setLD at qs
                  split at qs
                  · rename_i xs n _
                    split at qs
                    · rename_i j hj
                      cases qs
                      cases du
                      obtain ⟨vs, hv, z, da⟩ := o2
                      exact ⟨p, vs, n, j, rfl, rfl, hv, by rw [da.len]; exact hj, k σ G2 _ (ex1.trans ex2) (R2.mut es ox hp ⟨_, upd_same, by rw [List.length_set]; exact z, da.set (dv.mono ex2) j⟩)⟩
                    · cases qs
                  · cases qs
              · cases q
            · cases q
          · cases q
        · cases q
      · cases q
    · cases q
  · cases q
/-- {} -/
theorem r_dict0 (h : PE X e tDNewK) : PE X e (tF K (eC (.dict []))) := h.conv fun σ H Q ⟨Z, G, ρ, d, ρ', R, q, k⟩ => by
  cases q
  exact fun p hp => fr1_of R (fun a G' H' ex => k a G' H' ex) p _ hp ⟨[], upd_same, Nat.zero_le _, .nil⟩
/-- d.get(k, x) -/
def get2D (x k z : PyData) : Option PyData := match x with
  | .dict ps => (keyD k).map fun ky => (getK ps ky).getD z
  | _ => none
def e3 (f : PyData → PyData → PyData → Option PyData) (a b c : Ev) : Ev := fun ρ => match a ρ with
  | some (x, ρ1) => (match b ρ1 with
    | some (y, ρ2) => (match c ρ2 with
      | some (z, ρ3) => (match f x y z with
        | some d => some (d, ρ3)
        | none => none)
      | none => none)
    | none => none)
  | none => none
theorem r_get2 (h : PE X e (tDGet2 (tS K a) (tS K b) (tS K c))) : PE X e (tS K (e3 get2D a b c)) := h.conv fun σ H Q ⟨Z, G, ρ, d, ρ', R, q, k⟩ => by
  unfold e3 at q
  split at q
  · rename_i x ρ1 qa
    split at q
    · rename_i y ρ2 qb
      split at q
      · rename_i z ρ3 qc
        split at q
        · rename_i d' qf
          cases q
          unfold get2D at qf
          split at qf
          · rename_i ps
            refine ⟨Z, G, ρ, _, ρ1, R, qa, fun v G1 H1 ex1 R1 d1 => ?_⟩
            obtain ⟨p, kvs, rfl, hr1, t1, _⟩ := dr_dict d1 R1.gh
            refine ⟨p, rfl, .inl ⟨kvs, hr1⟩, Z, G1, ρ1, y, ρ2, R1, qb, fun u G2 H2 ex2 R2 d2 => ?_⟩
            refine ⟨Z, G2, ρ2, z, _, R2, qc, fun w G3 H3 ex3 R3 d3 => ?_⟩
            obtain ⟨p', kvs', hp, hr, t, _⟩ := dr_dict (d1.mono (ex2.trans ex3)) R3.gh
            cases hp
            cases ey : keyD y with
            | none => rw [ey] at qf; cases qf
            | some ky =>
              rw [ey] at qf
              cases qf
              have hy := keyV (d2.mono ex3) ey
              refine ⟨valV kvs' ky, .inl ⟨kvs', ky, hr, hy, rfl⟩, ?_⟩
              refine k _ G3 H3 ((ex1.trans ex2).trans ex3) R3 ?_
              show Dr K G3 ((valV kvs' ky).getD w) ((getK ps ky).getD z)
              cases eg : getK ps ky with
              | none => rw [getK_none t eg]; exact d3
              | some d4 => obtain ⟨w', hw, dw⟩ := getK_some t eg; rw [hw]; exact dw
          · cases qf
        · cases q
      · cases q
    · cases q
  · cases q
/-- chains -/
def eChain (f g : PyData → PyData → Option PyData) (a b c : Ev) : Ev := fun ρ => match a ρ with
  | some (x, ρ1) => (match b ρ1 with
    | some (y, ρ2) => (match f x y with
      | some (.bool true) => (match c ρ2 with
        | some (z, ρ3) => (match g y z with
          | some d => some (d, ρ3)
          | none => none)
        | none => none)
      | some (.bool false) => some (.bool false, ρ2)
      | _ => none)
    | none => none)
  | none => none
theorem t_chain {r r' : R2} {f g : PyData → PyData → Option PyData} (hf : Prim2 K f r) (hg : Prim2 K g r') {σ : L2.St} {H : Hp} {Q : VK} (h : tS K (eChain f g a b c) σ H Q) : tChain r r' (tS K a) (tS K b) (tS K c) σ H Q := by
  obtain ⟨Z, G, ρ, d, ρ', R, q, k⟩ := h
  unfold eChain at q
  split at q
  · rename_i x ρ1 qa
    split at q
    · rename_i y ρ2 qb
      split at q
      · rename_i qf
        split at q
        · rename_i z ρ3 qc
          split at q
          · rename_i d' qg
            cases q
            refine ⟨Z, G, ρ, x, ρ1, R, qa, fun v G1 H1 ex1 R1 d1 => ?_⟩
            refine ⟨Z, G1, ρ1, y, _, R1, qb, fun u G2 H2 ex2 R2 d2 => ?_⟩
            refine hf G2 H2 v u x y _ R2.gh (d1.mono ex2) d2 qf _ fun w G3 H3 al dw => ?_
            cases dw
            refine ⟨true, rfl, iteT ?_⟩
            refine ⟨Z, G3, ρ2, z, _, R2.al al, qc, fun w4 G4 H4 ex4 R4 d4 => ?_⟩
            refine hg G4 H4 u w4 y z _ R4.gh (d2.mono ((al.ex R2.gh).1.trans ex4)) d4 qg Q fun w5 G5 H5 al5 d5 => ?_
            exact k w5 G5 H5 ((((ex1.trans ex2).trans (al.ex R2.gh).1).trans ex4).trans (al5.ex R4.gh).1) (R4.al al5) d5
          · cases q
        · cases q
      · rename_i qf
        cases q
        refine ⟨Z, G, ρ, x, ρ1, R, qa, fun v G1 H1 ex1 R1 d1 => ?_⟩
        refine ⟨Z, G1, ρ1, y, _, R1, qb, fun u G2 H2 ex2 R2 d2 => ?_⟩
        refine hf G2 H2 v u x y _ R2.gh (d1.mono ex2) d2 qf _ fun w G3 H3 al dw => ?_
        cases dw
        refine ⟨false, rfl, iteF ?_⟩
        exact k _ G3 H3 ((ex1.trans ex2).trans (al.ex R2.gh).1) (R2.al al) (.bl false)
      · cases q
    · cases q
  · cases q
theorem r_chain {op op' : CmpOp} {r r' : R2} {f g : PyData → PyData → Option PyData} (ho : OpR X (compareOp op) r) (hf : Prim2 K f r) (ho' : OpR X (compareOp op') r') (hg : Prim2 K g r') (h1 : PE X ea (tS K a)) (h2 : PE X eb (tS K b)) (h3 : PE X ec (tS K c))
    (hm : lastMarks [op, op'] [eb, ec] = false := by with_unfolding_all rfl) : PE X (.Compare ea [op, op'] [eb, ec] pos) (tS K (eChain f g a b c)) := (pe_chain ho ho' h1 h2 h3 hm).conv fun _ _ _ h => t_chain hf hg h
theorem r_tchain {op op' : CmpOp} {r r' : R2} {f g : PyData → PyData → Option PyData} (ho : OpR X (compareOp op) r) (hf : Prim2 K f r) (ho' : OpR X (compareOp op') r') (hg : Prim2 K g r') (h1 : PE X ea (tS K a)) (h2 : PE X eb (tS K b)) (h3 : PE X ec (tS K c))
    (hm : lastMarks [op, op'] [eb, ec] = false := by with_unfolding_all rfl) : PT X (.Compare ea [op, op'] [eb, ec] pos) (tQ K (qB (eChain f g a b c))) := (pt_chain ho ho' h1 h2 h3 hm).conv fun _ _ _ h => t_chain hf hg (tS_bool h)
end
end DL

set_option maxHeartbeats 1000000
/-! DL13: sorted, len, isinstance. -/
namespace DL
open PySem PySem.Spec PyProof.Rows L2
def rSortX (K : PySem.W.Frag) : List V → Hp → VK → Prop := fun vs H Q => ∃ (a : Addr) (ps : List (V × PyData)), vs = [.ref a] ∧ SqL K H a (ps.map (·.1)) ∧ (∀ p ∈ ps, Dp K H p.1 p.2) ∧ PySem.W.AllAlike (ps.map (·.2)) ∧ PySem.W.Sortable (ps.map (·.2)) ∧ (∀ p ∈ ps, p.2.depth ≤ 60) ∧
  ∀ l, H l = none → Q (.ref l) (upd H l (.lst ((ps.mergeSort (PySem.W.dataLe false fun p => p.2)).map (·.1))))
theorem each_rel : ∀ {ps : List (V × PyData)} {us : List Value}, Vals (ps.map (·.1)) us → PySem.W.EachIs (fun v (p : V × PyData) => RelV p.1 v) us ps
  | [], us, r => by
    cases us with
    | nil => exact .nil
    | cons u us => cases r
  | p :: ps, us, r => by
    cases us with
    | nil => cases r
    | cons u us =>
      cases r with
      | cons h t => exact .cons h (each_rel t)
theorem rel_each : ∀ {ps : List (V × PyData)} {us : List Value}, PySem.W.EachIs (fun v (p : V × PyData) => RelV p.1 v) us ps → Vals (ps.map (·.1)) us
  | _, _, .nil => .nil
  | _, _, .cons h t => .cons h (rel_each t)
theorem each_mem' {P : V × PyData → Prop} : ∀ {ps : List (V × PyData)} {us : List Value}, PySem.W.EachIs (fun v (p : V × PyData) => RelV p.1 v) us ps → (∀ p ∈ ps, P p) → PySem.W.EachIs (fun v (p : V × PyData) => RelV p.1 v ∧ P p) us ps
  | _, _, .nil, _ => .nil
  | _, _, .cons h t, q => .cons ⟨h, q _ (List.mem_cons_self ..)⟩ (each_mem' t fun p hp => q p (List.mem_cons_of_mem _ hp))
theorem cr_sortX {X : Cx} (hu : X.A.units + 64 < cLine) : CallR X (.builtin "sorted") (rSortX X.K) := by
  intro pins s σ H vs us Q I r h
  obtain ⟨a, ps, rfl, hs, hd, hal, hso, hdp, q⟩ := h
  obtain ⟨its, rv, hl, hz⟩ := I.list hs
  rw [Vals.ref1 r]
  have e := each_rel rv
  rw [List.length_map] at hz
  refine PySem.W.sorted_data (enc := fun p : V × PyData => p.2) hl.isList e ((each_mem' (P := fun p => Dp X.K H p.1 p.2) e hd).mono fun v p w => Dp.reads I p.2 p.1 v w.2 w.1) hal hso hz (fun p hp => by have := hdp p hp; omega) fun out ho he => ?_
  obtain ⟨ep, he'⟩ := PyProof.Rows.sortedAll_at s.heap its out.toArray
  refine ⟨.ref _, upd H (s.heap.objs.size + 1) (.lst ((ps.mergeSort (PySem.W.dataLe false fun p => p.2)).map (·.1))), I.laid (t' := s.toks) (fun _ _ => PyProof.Rows.sortedAll_old) (Nat.le_succ _) ⟨?_, out, ep, rel_each he, he'⟩, rfl, q _ (I.hok.fresh (Nat.le_succ _))⟩
  rw [List.length_map, List.length_mergeSort]
  exact hz
def SortOk (ds : List PyData) : Prop := PySem.W.AllAlike ds ∧ PySem.W.Sortable ds ∧ ∀ d ∈ ds, d.depth ≤ 60 ∧ d.hasDict = false
open Classical in
noncomputable def sortD : PyData → Option PyData
  | .list ds => if SortOk ds then some (.list (ds.mergeSort (PySem.W.dataLe false fun d => d))) else none
  | _ => none
theorem zip_of {K : PySem.W.Frag} {G : Hp} : ∀ {vs : List V} {ds : List PyData}, DrAll K G vs ds → ∃ ps : List (V × PyData), vs = ps.map (·.1) ∧ ds = ps.map (·.2) ∧ ∀ p ∈ ps, Dr K G p.1 p.2
  | _, _, .nil => ⟨[], rfl, rfl, fun _ h => nomatch h⟩
  | _, _, .cons h t => by
    obtain ⟨ps, e1, e2, e3⟩ := zip_of t
    refine ⟨(_, _) :: ps, by rw [e1]; rfl, by rw [e2]; rfl, fun p hp => ?_⟩
    rcases List.mem_cons.mp hp with rfl | hp
    · exact h
    · exact e3 p hp
theorem all_of {K : PySem.W.Frag} {G : Hp} : ∀ {ps : List (V × PyData)}, (∀ p ∈ ps, Dr K G p.1 p.2) → DrAll K G (ps.map (·.1)) (ps.map (·.2))
  | [], _ => .nil
  | p :: ps, h => .cons (h p (List.mem_cons_self ..)) (all_of fun q hq => h q (List.mem_cons_of_mem _ hq))
theorem b_sort {K : PySem.W.Frag} : PrimNF K (p1 sortD) (rSortX K) := by
  intro G H vs xs d ex da q Q k
  unfold p1 at q
  split at q
  · unfold sortD at q
    split at q
    · split at q
      · rename_i ds ok
        cases q
        cases da with
        | cons d1 d2 =>
          cases d2
          cases d1 with
          | lst h z t =>
            obtain ⟨ps, rfl, rfl, hp⟩ := zip_of t
            obtain ⟨o1, o2, o3⟩ := ok
            refine ⟨_, ps, rfl, .inl (.inl (ex _ _ h)), fun p hp' => ((hp p hp').mono ex).dp (o3 _ (List.mem_map.mpr ⟨p, hp', rfl⟩)).2, o1, o2, fun p hp' => (o3 _ (List.mem_map.mpr ⟨p, hp', rfl⟩)).1, fun l hl => ?_⟩
            refine k l _ hl ⟨_, upd_same, by rw [List.length_map, List.length_mergeSort]; rw [List.length_map] at z; exact z, ?_⟩
            have e := List.map_mergeSort (r := PySem.W.dataLe false fun p : V × PyData => p.2) (s := PySem.W.dataLe false fun d : PyData => d) (f := fun p => p.2) (l := ps) (fun _ _ _ _ => rfl)
            rw [← e]
            exact all_of fun p hp' => hp p ((List.mergeSort_perm _ _).mem_iff.mp hp')
      · cases q
    · cases q
  · cases q
section
variable {K : PySem.W.Frag} {f g h : List PyData → Option PyData} {r r' : List V → Hp → VK → Prop}
theorem b_orF (hf : PrimNF K f r) (hg : PrimNF K g r') (w : ∀ xs d, h xs = some d → f xs = some d ∨ g xs = some d) : PrimNF K h (fun xs H Q => r xs H Q ∨ r' xs H Q) := by
  intro G H vs xs d ex da q Q k
  rcases w xs d q with c | c
  · exact .inl (hf G H vs xs d ex da c Q k)
  · exact .inr (hg G H vs xs d ex da c Q k)
theorem b_or (hf : PrimN K f r) (hg : PrimN K g r') (w : ∀ xs d, h xs = some d → f xs = some d ∨ g xs = some d) : PrimN K h (fun xs H Q => r xs H Q ∨ r' xs H Q) := by
  intro G H vs xs d ex da q Q k
  rcases w xs d q with c | c
  · exact .inl (hf G H vs xs d ex da c Q k)
  · exact .inr (hg G H vs xs d ex da c Q k)
end
def isort (ns : List Int) : List Int := ns.mergeSort fun a b => decide (a ≤ b)
theorem isort_perm (ns : List Int) : (isort ns).Perm ns := List.mergeSort_perm _ _
theorem isort_sorted (ns : List Int) : (isort ns).Pairwise (· ≤ ·) := by
  have := List.pairwise_mergeSort (le := fun a b : Int => decide (a ≤ b)) (fun a b c h1 h2 => by simp only [decide_eq_true_eq] at *; omega) (fun a b => by simp only [Bool.or_eq_true, decide_eq_true_eq]; omega) ns
  exact this.imp fun h => by simpa using h
theorem isort_eq {ys ns : List Int} (h : ys.Perm ns) (hs : ys.Pairwise (· ≤ ·)) : ys = isort ns :=
  List.Perm.eq_of_pairwise (fun a b _ _ h1 h2 => by omega) hs (isort_sorted ns) (h.trans (isort_perm ns).symm)
def sortK : PyData → Option PyData
  | .dict ps => (match intsOf (ps.map (·.1)) with
    | some ks => if ks.length < 64 then some (.list ((isort ks).map .int)) else none
    | none => none)
  | _ => none
theorem drkv_ints {K : PySem.W.Frag} {G : Hp} : ∀ {kvs : List (Key × V)} {ps : List (PyData × PyData)} {ks : List Int}, DrKv K G kvs ps → ps.map (·.1) = ks.map PyData.int → kvs.map (·.1) = ks.map Sum.inl
  | _, _, ks, .nil, e => by
    cases ks with
    | nil => rfl
    | cons k ks => cases e
  | _, _, ks, .cons (k := k') h t, e => by
    cases ks with
    | nil => cases e
    | cons k ks =>
      rw [List.map_cons, List.map_cons] at e
      injection e with e1 e2
      rw [List.map_cons, List.map_cons, drkv_ints t e2]
      congr 1
      cases k' with
      | inl i => injection e1 with e1; rw [e1]
      | inr x => cases e1
def rSK : List V → Hp → VK → Prop := fun xs H Q => ∃ (a : Addr) (kvs : List (Key × V)) (ks : List Int), xs = [.ref a] ∧ Rd H a (.dK kvs) ∧ kvs.map (·.1) = ks.map Sum.inl ∧ ks.length < 64 ∧
    ∀ (ys : List Int) (p : Addr), ys.Perm ks → ys.Pairwise (· ≤ ·) → H p = none → Q (.ref p) (upd H p (.lst (ys.map V.int)))
theorem b_sortK {K : PySem.W.Frag} : PrimNF K (p1 sortK) rSK := by
  intro G H vs xs d ex da q Q k
  unfold p1 at q
  split at q
  · unfold sortK at q
    split at q
    · split at q
      · rename_i ps _ ks hk
        split at q
        · rename_i h64
          cases q
          cases da with
          | cons d1 d2 =>
            cases d2
            obtain ⟨p, kvs, rfl, hr, t, z⟩ := dr_dict d1 ex
            refine ⟨p, kvs, ks, rfl, hr, drkv_ints t (intsOf_eq hk), h64, fun ys l hp hs hl => ?_⟩
            have e := isort_eq hp hs
            subst e
            refine k l _ hl ⟨_, upd_same, ?_, DrAll.ints _⟩
            rw [List.length_map, (isort_perm ks).length_eq, sizeLine_eq]
            omega
        · cases q
      · cases q
    · cases q
  · cases q
open Classical in
noncomputable def sortX (x : PyData) : Option PyData := match x with
  | .dict ps => sortK (.dict ps)
  | x => sortD x
theorem b_sortX {K : PySem.W.Frag} : PrimNF K (p1 sortX) (fun xs H Q => rSortX K xs H Q ∨ rSK xs H Q) := b_orF b_sort b_sortK fun xs d q => by
  unfold p1 at q
  split at q
  · unfold sortX at q
    split at q
    · exact .inr q
    · exact .inl q
  · cases q
/-- len of a dict, too -/
def lenK : PyData → Option PyData
  | .dict ps => some (.int ps.length)
  | _ => none
def lenX : PyData → Option PyData
  | .dict ps => some (.int ps.length)
  | x => lenS x
def rLK : List V → Hp → VK → Prop := fun xs H Q => ∃ a kvs, xs = [V.ref a] ∧ Rd H a (.dK kvs) ∧ Q (.int kvs.length) H
def rLS (K : PySem.W.Frag) : List V → Hp → VK → Prop := fun xs H Q => ∃ p ys, xs = [.ref p] ∧ (SqL K H p ys ∨ SqT K H p ys) ∧ Q (.int ys.length) H
theorem call_lenK {X : Cx} : CallR X (.builtin "len") rLK := by
  intro pins s σ H xs us Q I r ⟨a, kvs, ex, e, q⟩
  subst ex
  rw [Vals.ref1 r]
  exact d_len I e fun t s' I' => ⟨.int kvs.length, H, I', ⟨t, rfl⟩, q⟩
theorem b_lenK {K : PySem.W.Frag} : PrimN K (p1 lenK) rLK := by
  intro G H vs xs d ex da q Q k
  unfold p1 at q
  split at q
  · unfold lenK at q
    split at q
    · cases q
      cases da with
      | cons d1 d2 =>
        cases d2
        obtain ⟨p, kvs, rfl, hr, t, z⟩ := dr_dict d1 ex
        exact ⟨p, kvs, rfl, hr, k _ G H .refl (by rw [drkv_len t]; exact .int _)⟩
    · cases q
  · cases q
theorem b_lenX {K : PySem.W.Frag} : PrimN K (p1 lenX) (fun xs H Q => rLS K xs H Q ∨ rLK xs H Q) := b_or (r := rLS K) b_len b_lenK fun xs d q => by
  unfold p1 at q
  split at q
  · unfold lenX at q
    split at q
    · exact .inr q
    · exact .inl q
  · cases q
theorem call_lenX {X : Cx} : CallR X (.builtin "len") (fun xs H Q => rLS X.K xs H Q ∨ rLK xs H Q) := CallR.or (r := rLS X.K) call_len_seq call_lenK
theorem cr_sortAll {X : Cx} (hc : X.calm = true) (hu : X.A.units + 64 < cLine) : CallR X (.builtin "sorted") (fun xs H Q => rSortX X.K xs H Q ∨ rSK xs H Q) := CallR.or (cr_sortX hu) (call_sortedDI hc)
/-! ### isinstance -/
def tyD : PyData → String
  | .none => "NoneType"
  | .bool _ => "bool"
  | .int _ => "int"
  | .str _ => "str"
  | .list _ => "list"
  | .tuple _ => "tuple"
  | .dict _ => "dict"
def isiD (n : String) (x : PyData) : Option PyData := (kitB (tyD x) n).map .bool
theorem dr_ty {K : PySem.W.Frag} {G H : Hp} {v : V} {x : PyData} (h : Dr K G v x) (e : Ex G H) : TyX K H v (.type (tyD x)) := by
  cases h with
  | non => exact .base .non
  | bl b => exact .base (.bl b)
  | int i => exact .base (.int i)
  | str z => exact .base (.str z)
  | lst h _ _ => exact .base (.lst (e _ _ h))
  | tup h _ _ =>
    rcases e.sqT h with (h | ⟨o, h⟩) | ⟨o, its, n, h1, h2, _⟩
    · exact .base (.tup h)
    · exact .fTuple h
    · exact .kTuple h1 h2
  | dk h _ _ =>
    rcases e.rd h with h | ⟨o, h⟩
    · exact .base (.dK h)
    · exact .fDict h
theorem r_isi {X : Cx} {e : Expr} {a : Ev} {n : String} (h : PE X e (tCB (rIsi X.K) (tCons (tS X.K a) (tCons (tC (.ty n)) tNil)))) : PE X e (tS X.K (e1 (isiD n) a)) := h.conv fun σ H Q ⟨Z, G, ρ, d, ρ', R, q, k⟩ => by
  unfold e1 at q
  split at q
  · rename_i x ρ1 qa
    split at q
    · rename_i d' qf
      cases q
      refine ⟨Z, G, ρ, x, _, R, qa, fun v G1 H1 ex1 R1 d1 => ?_⟩
      unfold isiD at qf
      cases e : kitB (tyD x) n with
      | none => rw [e] at qf; cases qf
      | some b =>
        rw [e] at qf
        cases qf
        exact ⟨v, .ty n, .type (tyD x), .type n, b, rfl, .ty n, dr_ty d1 R1.gh, kit_ty e, k _ G1 H1 ex1 R1 (.bl b)⟩
    · cases q
  · cases q
end DL

set_option maxHeartbeats 1000000
/-! DL14: rules by one name for lists and dicts. -/
namespace DL
open PySem PySem.Spec PyProof.Rows L2
section
variable {X : Cx} {e ea eb ec : Expr} {a b c ix : Ev} {pos pos' spos apos cpos : Pos} {i : Nat} {fr : Bool}
theorem r_ixY (hu : X.A.units + 1 < cLine) (h1 : PE X ea (tS X.K a)) (h2 : PE X eb (tS X.K b)) (hs : PlainIx eb := by intro _ _; rfl) (hs' : NoSl eb := by intro _ _; rfl) : PE X (.Subscript ea eb pos) (tS X.K (e2 ixX a b)) :=
  r_ixX (K' := X.K) (r_ix ix_seq p_ix h1 h2 hs) (r_dget hu h1 h2 hs')
theorem r_inY (hu : X.A.units + 65 < cLine) (h1 : PE X ea (tS X.K a)) (h2 : PE X eb (tS X.K b)) (hm : behindInMarks .In eb = false := by rfl) : PE X (.Compare ea [.In] [eb] pos) (tS X.K (e2 inX a b)) :=
  r_inX (r_cmp (o_in hu) p_in h1 h2 hm) (r_din (by omega) h1 h2 hm)
theorem r_ninY (hu : X.A.units + 65 < cLine) (h1 : PE X ea (tS X.K a)) (h2 : PE X eb (tS X.K b)) (hm : behindInMarks .NotIn eb = false := by rfl) : PE X (.Compare ea [.NotIn] [eb] pos) (tS X.K (e2 ninX a b)) :=
  r_ninX (r_cmp (o_nin hu) p_nin h1 h2 hm) (r_dnin (by omega) h1 h2 hm)
theorem r_tinY (hu : X.A.units + 65 < cLine) (h1 : PE X ea (tS X.K a)) (h2 : PE X eb (tS X.K b)) (hm : behindInMarks .In eb = false := by rfl) : PT X (.Compare ea [.In] [eb] pos) (tQ X.K (qB (e2 inX a b))) :=
  r_tinX (r_tcmp (o_in hu) p_in h1 h2 hm) (r_tdin (by omega) h1 h2 hm)
theorem r_tninY (hu : X.A.units + 65 < cLine) (h1 : PE X ea (tS X.K a)) (h2 : PE X eb (tS X.K b)) (hm : behindInMarks .NotIn eb = false := by rfl) : PT X (.Compare ea [.NotIn] [eb] pos) (tQ X.K (qB (e2 ninX a b))) :=
  r_tninX (r_tcmp (o_nin hu) p_nin h1 h2 hm) (r_tdnin (by omega) h1 h2 hm)
end
theorem room1 {A : Around} {k : Nat} (r : Room k A) : A.units + 1 < cLine := by have := r.un; omega
theorem room64 {A : Around} {k : Nat} (r : Room k A) : A.units + 64 < cLine := by have := r.un; omega
end DL

set_option maxHeartbeats 1000000
/-! DL15: wide shifts, lists and tuples again and again. -/
namespace DL
open PySem PySem.Spec PyProof.Rows L2
section
variable {K : PySem.W.Frag}
def shlX := iI fun i j => if 0 ≤ j ∧ (Builtin.Int.intBits i : Int) + j ≤ 2 ^ 27 then some (i * 2 ^ j.toNat) else none
theorem p_shlX : Prim2 K shlX (rI CShl fun i j => .int (i * 2 ^ j.toNat)) := prim_I fun i j k q => by
  split at q
  · rename_i h; cases q; exact ⟨h, rfl⟩
  · cases q
theorem DrAll.rep {G : Hp} {vs : List V} {ds : List PyData} (t : DrAll K G vs ds) : ∀ n : Nat, DrAll K G (List.replicate n vs).flatten (List.replicate n ds).flatten
  | 0 => .nil
  | n + 1 => by
    rw [List.replicate_succ, List.replicate_succ, List.flatten_cons, List.flatten_cons]
    exact t.append (DrAll.rep t n)
theorem rep_len {α : Type} (xs : List α) (n : Nat) : (List.replicate n xs).flatten.length = xs.length * n := by
  induction n with
  | zero => rfl
  | succ n ih => rw [List.replicate_succ, List.flatten_cons, List.length_append, ih, Nat.mul_succ]; omega
def repL (x y : PyData) : Option PyData := match x, y with
  | .list xs, .int k => if -(2 ^ 63) ≤ k ∧ k < 2 ^ 63 ∧ xs.length * k.toNat ≤ 16777216 then some (.list (List.replicate k.toNat xs).flatten) else none
  | _, _ => none
theorem p_repL : Prim2F K repL rRep := by
  intro G H v u x y d ex dx dy q Q k
  unfold repL at q
  split at q
  · split at q
    · rename_i xs n h
      cases q
      cases dy
      cases dx with
      | lst h1 z t =>
        have hz : ∀ m : Nat, xs.length * m ≤ 16777216 → _ := fun m hm => t.len
        have hl := t.len
        refine ⟨_, n, _, rfl, rfl, ex _ _ h1, h.1, h.2.1, by rw [hl, sizeLine_eq]; exact h.2.2, fun p hp => ?_⟩
        exact k p _ hp ⟨_, upd_same, by rw [rep_len, hl, sizeLine_eq]; exact h.2.2, t.rep _⟩
    · cases q
  · cases q
def repT (x y : PyData) : Option PyData := match x, y with
  | .tuple xs, .int k => if xs ≠ [] ∧ 2 ≤ k ∧ k ≤ 1000 ∧ xs.length ≤ 1000 then some (.tuple (List.replicate k.toNat xs).flatten) else none
  | _, _ => none
theorem p_repT : Prim2 K repT (rRepT K) := by
  intro G H v u x y d ex dx dy q Q k
  unfold repT at q
  split at q
  · split at q
    · rename_i xs n h
      cases q
      cases dy
      cases dx with
      | tup h1 z t =>
        have hl := t.len
        refine ⟨_, n, _, rfl, rfl, ex.sqT h1, fun z => h.1 (by rw [z] at hl; exact List.eq_nil_of_length_eq_zero hl.symm), h.2.1, h.2.2.1, by rw [hl]; exact h.2.2.2, fun p hp => ?_⟩
        refine k (.ref p) _ _ (.one hp) (.tup (.inl (.inl upd_same)) ?_ ((t.rep n.toNat).mono (Ex.new (ex.none hp))))
        rw [rep_len, hl, sizeLine_eq]
        have h3 : n.toNat ≤ 1000 := by omega
        have := Nat.mul_le_mul h.2.2.2 h3
        omega
    · cases q
  · cases q
end
end DL

/-! PL1: plain facts about the combinators. -/
namespace DL
open PySem L2

theorem eV_at {ρ : En} {i : Nat} {x : PyData} (h : ρ[i]? = some (.d x)) : eV i ρ = some (x, ρ) := by unfold eV; rw [h]
theorem atI_int {xs : List PyData} {i : Nat} {x : PyData} (h : xs[i]? = some x) : atI xs (i : Int) = some x := L2.atI_nat h
theorem atI_0 {x : PyData} {xs : List PyData} : atI (x :: xs) 0 = some x := atI_int (i := 0) rfl
theorem atI_1 {x y : PyData} {xs : List PyData} : atI (x :: y :: xs) 1 = some y := atI_int (i := 1) rfl
theorem atI_2 {x y z : PyData} {xs : List PyData} : atI (x :: y :: z :: xs) 2 = some z := atI_int (i := 2) rfl
theorem atI_3 {x y z w : PyData} {xs : List PyData} : atI (x :: y :: z :: w :: xs) 3 = some w := atI_int (i := 3) rfl
theorem ixN_lt {n j : Nat} (h : j < n) : ixN n (j : Int) = some j := by
  unfold ixN
  rw [if_pos (by omega), if_pos (by omega)]
  rfl
theorem ixN_40 : ixN 4 0 = some 0 := rfl
theorem ixN_41 : ixN 4 1 = some 1 := rfl
theorem ixN_42 : ixN 4 2 = some 2 := rfl
/-! equality of small data -/
theorem shaped_int (i : Int) : SeqAt.shaped (.int i) = true := by simp [SeqAt.shaped, PyData.canLay0, PyData.depth]
theorem shaped_bool (i : Bool) : SeqAt.shaped (.bool i) = true := by simp [SeqAt.shaped, PyData.canLay0, PyData.depth]
theorem shaped_none : SeqAt.shaped .none = true := by simp [SeqAt.shaped, PyData.canLay0, PyData.depth]
theorem eqv_int (i j : Int) : PyData.eqv (.int i) (.int j) = decide (i = j) := by simp [PyData.eqv, Bool.beq_eq_decide_eq]
theorem eqD_int (i j : Int) : eqD (.int i) (.int j) = some (.bool (decide (i = j))) := by
  show (if SeqAt.shaped (.int i) = true ∧ SeqAt.shaped (.int j) = true then some (PyData.bool (PyData.eqv (.int i) (.int j))) else none) = _
  rw [if_pos ⟨shaped_int i, shaped_int j⟩, eqv_int]
theorem neD_int (i j : Int) : neD (.int i) (.int j) = some (.bool (!decide (i = j))) := by
  show (if SeqAt.shaped (.int i) = true ∧ SeqAt.shaped (.int j) = true then some (PyData.bool (!PyData.eqv (.int i) (.int j))) else none) = _
  rw [if_pos ⟨shaped_int i, shaped_int j⟩, eqv_int]
theorem modD_int {i j : Int} (h : 0 < j) : modD (.int i) (.int j) = some (.int (i % j)) := by
  show ((if j = 0 then none else some (i.fmod j)).map PyData.int) = _
  rw [if_neg (by omega), Int.fmod_eq_emod_of_nonneg _ (by omega)]
  rfl
theorem fdivD_int {i j : Int} (h : 0 < j) (h2 : j < 1073741824) : fdivD (.int i) (.int j) = some (.int (i / j)) := by
  show ((if j ≠ 0 ∧ j.natAbs < 1073741824 then some (i.fdiv j) else none).map PyData.int) = _
  rw [if_pos ⟨by omega, by omega⟩, Int.fdiv_eq_ediv_of_nonneg _ (by omega)]
  rfl
theorem mulI_int {i j : Int} (h : (-(2 ^ 64) < i ∧ i < 2 ^ 64) ∨ (-(2 ^ 64) < j ∧ j < 2 ^ 64)) : mulI (.int i) (.int j) = some (.int (i * j)) := by
  show ((if (-(2 ^ 64) < i ∧ i < 2 ^ 64) ∨ (-(2 ^ 64) < j ∧ j < 2 ^ 64) then some (i * j) else none).map PyData.int) = _
  rw [if_pos h]
  rfl

/-! ### the bag -/
structure Bag where
  big : Int
  seed : Int
  pos : Int
  cells : List Int
def bagV (b : Bag) : PyData := .list [.int b.big, .int b.seed, .int b.pos, .list (b.cells.map .int)]
structure BagOk (b : Bag) : Prop where
  big : 0 ≤ b.big
  seed : 0 ≤ b.seed ∧ b.seed < 2147483647
  pos : 0 ≤ b.pos
  cells : ∀ c ∈ b.cells, 0 ≤ c
  len : b.cells.length ≤ 63
theorem bag0 (ns : List Int) (h : ns.length ≤ 63) : ∃ b, bagD ns = bagV b ∧ BagOk b := by
  refine ⟨⟨0, 1234567891, 0, ns.map fun n => if n < 0 then -n else n⟩, rfl, Int.le_refl 0, ⟨(by show (0 : Int) ≤ 1234567891; decide), (by show (1234567891 : Int) < 2147483647; decide)⟩, Int.le_refl 0, fun c hc => ?_, by rw [List.length_map]; exact h⟩
  obtain ⟨n, _, rfl⟩ := List.mem_map.mp hc
  split <;> omega
end DL
namespace DL
open PySem L2
theorem sl0 : (0 ≤ sizeLine) = True := by simp
theorem sl1 : (1 ≤ sizeLine) = True := by simp [sizeLine_eq]
theorem sl2 : (2 ≤ sizeLine) = True := by simp [sizeLine_eq]
theorem sl3 : (3 ≤ sizeLine) = True := by simp [sizeLine_eq]
theorem sl4 : (4 ≤ sizeLine) = True := by simp [sizeLine_eq]
theorem pow18 : powD (.int 10) (.int 18) = some (.int 1000000000000000000) := by
  show ((if 0 ≤ (18 : Int) ∧ (18 : Int) ≤ 1000000 ∧ (10 : Int).natAbs < 2 ^ 64 then some ((10 : Int) ^ (18 : Int).toNat) else none).map PyData.int) = _
  rw [if_pos (by decide)]
  rfl
theorem cell_of (cs : List Int) (p : Int) : ∃ c : Int, ((∀ x ∈ cs, 0 ≤ x) → 0 ≤ c) ∧ (cs.length ≤ 63 → ∃ r, cutD (cs.map .int) (some p) none = r ∧ (r.length + 1 ≤ sizeLine) ∧ atI (r ++ [.int 0]) 0 = some (.int c)) := by
  have hc : ∃ ds : List Int, cutD (cs.map PyData.int) (some p) none = ds.map .int ∧ (∀ x ∈ ds, x ∈ cs) ∧ ds.length ≤ cs.length := by
    unfold cutD
    rw [← List.map_drop, ← List.map_take]
    refine ⟨_, rfl, fun x hx => List.mem_of_mem_drop (List.mem_of_mem_take hx), ?_⟩
    rw [List.length_take, List.length_drop]
    omega
  obtain ⟨ds, e, hm, hl⟩ := hc
  cases ds with
  | nil => exact ⟨0, fun _ => Int.le_refl 0, fun h => ⟨_, e, by rw [sizeLine_eq]; simp, rfl⟩⟩
  | cons d ds =>
    refine ⟨d, fun h => h d (hm d (List.mem_cons_self ..)), fun h => ⟨_, e, ?_, atI_0⟩⟩
    rw [sizeLine_eq, List.length_map]
    omega
end DL
namespace DL
open PySem L2
theorem mulR {i j : Int} (h : -18446744073709551616 < j) (h2 : j < 18446744073709551616) : mulI (.int i) (.int j) = some (.int (i * j)) := mulI_int (.inr ⟨by omega, by omega⟩)
theorem mulL {i j : Int} (h : -18446744073709551616 < i) (h2 : i < 18446744073709551616) : mulI (.int i) (.int j) = some (.int (i * j)) := mulI_int (.inl ⟨by omega, by omega⟩)
end DL
theorem DL.sl5 : (5 ≤ PySem.sizeLine) = True := by simp [PySem.sizeLine_eq]
theorem DL.sl6 : (6 ≤ PySem.sizeLine) = True := by simp [PySem.sizeLine_eq]
theorem DL.sl7 : (7 ≤ PySem.sizeLine) = True := by simp [PySem.sizeLine_eq]
theorem DL.sl8 : (8 ≤ PySem.sizeLine) = True := by simp [PySem.sizeLine_eq]

/-! PL2: loops with an invariant; data of small texts. -/
namespace DL
open PySem L2
theorem forD_inv {g : Gv} {ψ : Sv} (I : List PyData → En → Prop) (ds : List PyData)
    (step : ∀ (done : List PyData) (x : PyData) (rest : List PyData) (ρ : En), ds = done ++ x :: rest → I done ρ → ∃ ρ1 ρ2, g x ρ = some ρ1 ∧ ψ ρ1 = some (.nx ρ2) ∧ I (done ++ [x]) ρ2) :
    ∀ (rest done : List PyData) (ρ : En), ds = done ++ rest → I done ρ → ∃ ρ', forD g ψ rest ρ = some (.nx ρ') ∧ I ds ρ'
  | [], done, ρ, e, h => ⟨ρ, rfl, by rw [e, List.append_nil]; exact h⟩
  | x :: rest, done, ρ, e, h => by
    obtain ⟨ρ1, ρ2, h1, h2, h3⟩ := step done x rest ρ e h
    obtain ⟨ρ', h4, h5⟩ := forD_inv I ds step rest (done ++ [x]) ρ2 (by rw [e, List.append_assoc]; rfl) h3
    refine ⟨ρ', ?_, h5⟩
    unfold forD
    rw [h1]
    simp only [h2]
    exact h4
theorem sFor_inv {it : Es} {g : Gv} {ψ : Sv} {ρ ρ0 : En} {ds : List PyData} (hi : it ρ = some (ds, ρ0)) (I : List PyData → En → Prop)
    (h0 : I [] ρ0)
    (step : ∀ (done : List PyData) (x : PyData) (rest : List PyData) (ρ : En), ds = done ++ x :: rest → I done ρ → ∃ ρ1 ρ2, g x ρ = some ρ1 ∧ ψ ρ1 = some (.nx ρ2) ∧ I (done ++ [x]) ρ2) :
    ∃ ρ', sFor it g ψ ρ = some (.nx ρ') ∧ I ds ρ' := by
  unfold sFor
  rw [hi]
  exact forD_inv I ds step ds [] ρ0 rfl h0
/-- a loop that goes on -/
theorem sQ_nx {ψ φ : Sv} {ρ ρ1 : En} (h : ψ ρ = some (.nx ρ1)) : sQ ψ φ ρ = φ ρ1 := by unfold sQ; rw [h]
theorem sQ_ret {ψ φ : Sv} {ρ ρ1 : En} {d : PyData} (h : ψ ρ = some (.ret d ρ1)) : sQ ψ φ ρ = some (.ret d ρ1) := by unfold sQ; rw [h]
theorem lcD_pure {vs : List Nat} {g : Gv} {q : Eq} {a : Ev} {ρ0 : En} (p : PyData → Bool) (f : PyData → PyData) :
    ∀ (ds : List PyData), (∀ x ∈ ds, ∃ ρ1 ρ2, g x ρ0 = some ρ1 ∧ q ρ1 = some (p x, ρ2) ∧ (p x = true → ∃ ρ3, a ρ2 = some (f x, ρ3) ∧ wipeE ρ3 vs = ρ0) ∧ (p x = false → wipeE ρ2 vs = ρ0)) →
    lcD vs g q a ds ρ0 = some ((ds.filter p).map f, ρ0)
  | [], _ => rfl
  | x :: xs, h => by
    obtain ⟨ρ1, ρ2, h1, h2, h3, h4⟩ := h x (List.mem_cons_self ..)
    have ih := lcD_pure p f xs fun y hy => h y (List.mem_cons_of_mem _ hy)
    unfold lcD
    rw [h1]
    simp only [h2]
    cases hp : p x with
    | true =>
      obtain ⟨ρ3, h5, h6⟩ := h3 hp
      simp only [h5, h6, ih, List.filter_cons, hp, if_true, List.map_cons]
    | false =>
      have h6 := h4 hp
      simp only [h6, ih, List.filter_cons, hp]
      rfl
/-! ### data of bounded size -/
structure Nc (D W : Nat) (d : PyData) : Prop where
  lay : d.canLay0 = true
  dep : d.depth ≤ D
  blk : d.bulk ≤ W
  ish : d.intsShort 13 = true
  shw : d.showable = true
structure NcL (D W : Nat) (ds : List PyData) : Prop where
  lay : PyData.canLayAll0 ds = true
  dep : PyData.depthAll ds ≤ D
  blk : PyData.bulkAll ds ≤ W
  ish : PyData.intsShortAll 13 ds = true
  shw : PyData.showableAll ds = true
theorem Nc.le {D W D' W' : Nat} {d : PyData} (h : Nc D W d) (h1 : D ≤ D') (h2 : W ≤ W') : Nc D' W' d := ⟨h.lay, Nat.le_trans h.dep h1, Nat.le_trans h.blk h2, h.ish, h.shw⟩
theorem NcL.le {D W D' W' : Nat} {d : List PyData} (h : NcL D W d) (h1 : D ≤ D') (h2 : W ≤ W') : NcL D' W' d := ⟨h.lay, Nat.le_trans h.dep h1, Nat.le_trans h.blk h2, h.ish, h.shw⟩
theorem Nc.int {i : Int} (h : i.natAbs < 1000000000000) : Nc 0 0 (.int i) := by
  refine ⟨by simp [PyData.canLay0], by simp [PyData.depth], by simp [PyData.bulk], ?_, ?_⟩
  · simp only [PyData.intsShort, decide_eq_true_eq]
    exact PyData.shown_int_le (by simpa using h)
  · simp only [PyData.showable, decide_eq_true_eq]
    by_cases h0 : i.natAbs = 0
    · rw [h0]; decide
    · exact Nat.log2_lt h0 |>.mpr (Nat.lt_of_lt_of_le h (by decide))
theorem Nc.non : Nc 0 0 .none := ⟨by simp [PyData.canLay0], by simp [PyData.depth], by simp [PyData.bulk], by simp [PyData.intsShort], by simp [PyData.showable]⟩
theorem Nc.bool (b : Bool) : Nc 0 0 (.bool b) := ⟨by simp [PyData.canLay0], by simp [PyData.depth], by simp [PyData.bulk], by simp [PyData.intsShort], by simp [PyData.showable]⟩
theorem Nc.str {x : Str} {n : Nat} (h : PyData.strOk x = true) (h2 : x.cps.size ≤ n) : Nc 0 n (.str x) := ⟨by simpa [PyData.canLay0] using h, by simp [PyData.depth], by simpa [PyData.bulk] using h2, by simp [PyData.intsShort], by simp [PyData.showable]⟩
theorem NcL.nil : NcL 0 0 [] := ⟨rfl, Nat.le_refl 0, Nat.le_refl 0, rfl, rfl⟩
theorem NcL.cons {D D' W W' : Nat} {d : PyData} {ds : List PyData} (h : Nc D W d) (t : NcL D' W' ds) : NcL (max D D') (W + 1 + W') (d :: ds) := by
  refine ⟨?_, ?_, ?_, ?_, ?_⟩
  · simp only [PyData.canLayAll0, h.lay, t.lay, Bool.and_self]
  · simp only [PyData.depthAll]; have := h.dep; have := t.dep; omega
  · simp only [PyData.bulkAll]; have := h.blk; have := t.blk; omega
  · simp only [PyData.intsShortAll, h.ish, t.ish, Bool.and_self]
  · simp only [PyData.showableAll, h.shw, t.shw, Bool.and_self]
theorem NcL.append {D D' W' : Nat} {es : List PyData} (t : NcL D' W' es) : ∀ {ds : List PyData} {W : Nat}, NcL D W ds → NcL (max D D') (W + W') (ds ++ es)
  | [], W, _ => t.le (by omega) (by omega)
  | d :: ds, W, h => by
    have h1 : d.canLay0 = true ∧ PyData.canLayAll0 ds = true := by have := h.lay; simpa only [PyData.canLayAll0, Bool.and_eq_true] using this
    have h2 : d.intsShort 13 = true ∧ PyData.intsShortAll 13 ds = true := by have := h.ish; simpa only [PyData.intsShortAll, Bool.and_eq_true] using this
    have h3 : d.showable = true ∧ PyData.showableAll ds = true := by have := h.shw; simpa only [PyData.showableAll, Bool.and_eq_true] using this
    have h4 : max d.depth (PyData.depthAll ds) ≤ D := by have := h.dep; simpa only [PyData.depthAll] using this
    have h5 : d.bulk + 1 + PyData.bulkAll ds ≤ W := by have := h.blk; simpa only [PyData.bulkAll] using this
    have a : Nc D d.bulk d := ⟨h1.1, by omega, Nat.le_refl _, h2.1, h3.1⟩
    have b : NcL D (PyData.bulkAll ds) ds := ⟨h1.2, by omega, Nat.le_refl _, h2.2, h3.2⟩
    have c := NcL.cons a (NcL.append t b)
    exact c.le (by omega) (by omega)
theorem NcL.tup {D W : Nat} {ds : List PyData} (t : NcL D W ds) : Nc (D + 1) W (.tuple ds) :=
  ⟨by simpa [PyData.canLay0] using t.lay, by simpa [PyData.depth] using t.dep, by simpa [PyData.bulk] using t.blk, by simpa [PyData.intsShort] using t.ish, by simpa [PyData.showable] using t.shw⟩
theorem NcL.lst {D W : Nat} {ds : List PyData} (t : NcL D W ds) : Nc (D + 1) W (.list ds) :=
  ⟨by simpa [PyData.canLay0] using t.lay, by simpa [PyData.depth] using t.dep, by simpa [PyData.bulk] using t.blk, by simpa [PyData.intsShort] using t.ish, by simpa [PyData.showable] using t.shw⟩
theorem NcL.of {D W : Nat} : ∀ {ds : List PyData}, (∀ d ∈ ds, Nc D W d) → NcL D ((W + 1) * ds.length) ds
  | [], _ => NcL.nil.le (Nat.zero_le _) (Nat.zero_le _)
  | d :: ds, h => (NcL.cons (h d (List.mem_cons_self ..)) (NcL.of fun e he => h e (List.mem_cons_of_mem _ he))).le (by omega) (by rw [List.length_cons, Nat.mul_succ]; omega)
theorem NcL.ints' {xs : List Int} (h : ∀ i ∈ xs, i.natAbs < 1000000000000) : NcL 0 xs.length (xs.map .int) := by
  have := NcL.of (ds := xs.map PyData.int) (D := 0) (W := 0) fun d hd => by
    obtain ⟨i, hi, rfl⟩ := List.mem_map.mp hd
    exact Nc.int (h i hi)
  rw [List.length_map, Nat.zero_add, Nat.one_mul] at this
  exact this
theorem Nc.shaped {D W : Nat} {d : PyData} (h : Nc D W d) (h1 : D ≤ 64) : SeqAt.shaped d = true := by
  unfold SeqAt.shaped
  rw [h.lay, Bool.true_and, decide_eq_true_eq]
  exact Nat.le_trans h.dep h1
theorem Nc.repr {D W : Nat} {d : PyData} (h : Nc D W d) (h1 : D ≤ 64) (h2 : W ≤ 1000000) : reprOk d := by
  refine ⟨h.lay, Nat.le_trans h.dep h1, h.shw, ?_⟩
  have e := PyData.shown_le_bulk 13 (by decide) d (PyData.leavesShort_of_canLay0 13 d h.lay h.ish)
  have := h.blk
  rw [sizeLine_eq]
  omega
theorem reprD_of {d : PyData} (h : reprOk d) : reprD d = some (.str d.shown) := by unfold reprD; rw [if_pos h]
theorem eqD_refl {D W : Nat} {d : PyData} (h : Nc D W d) (h1 : D ≤ 64) : eqD d d = some (.bool true) := by
  have := h.shaped h1
  unfold eqD
  split
  · simp
  · rw [if_pos ⟨this, this⟩, SeqAt.eqv_refl d h.lay]
theorem eqD_str {x y : Str} : eqD (.str x) (.str y) = some (.bool (x == y)) := rfl
theorem neD_str {x y : Str} : neD (.str x) (.str y) = some (.bool (!(x == y))) := rfl
end DL

/-! PF1: rows as masks, points, lines, flats: plain algebra of bits. -/
namespace FL
abbrev Pt := Nat → Bool
abbrev Ln := Nat × Bool
/-- the worth of a row at a point -/
def dotN : Nat → Nat → Pt → Bool
  | 0, _, _ => false
  | k + 1, m, x => dotN k m x ^^ (m.testBit k && x k)
def dot (m : Nat) (x : Pt) : Bool := dotN 16 m x
theorem dotN_xor (a b : Nat) (x : Pt) : ∀ k, dotN k (a ^^^ b) x = (dotN k a x ^^ dotN k b x)
  | 0 => rfl
  | k + 1 => by
    simp only [dotN, dotN_xor a b x k, Nat.testBit_xor]
    cases dotN k a x <;> cases dotN k b x <;> cases a.testBit k <;> cases b.testBit k <;> cases x k <;> rfl
theorem dot_xor (a b : Nat) (x : Pt) : dot (a ^^^ b) x = (dot a x ^^ dot b x) := dotN_xor a b x 16
theorem dotN_add (a : Nat) (x y : Pt) : ∀ k, dotN k a (fun i => x i ^^ y i) = (dotN k a x ^^ dotN k a y)
  | 0 => rfl
  | k + 1 => by
    simp only [dotN, dotN_add a x y k]
    cases dotN k a x <;> cases dotN k a y <;> cases a.testBit k <;> cases x k <;> cases y k <;> rfl
theorem dot_add (a : Nat) (x y : Pt) : dot a (fun i => x i ^^ y i) = (dot a x ^^ dot a y) := dotN_add a x y 16
theorem dotN_zero (x : Pt) : ∀ k, dotN k 0 x = false
  | 0 => rfl
  | k + 1 => by simp [dotN, dotN_zero x k]
theorem dot_zero (x : Pt) : dot 0 x = false := dotN_zero x 16
theorem dotN_congr {m : Nat} {x y : Pt} : ∀ k, (∀ i, i < k → m.testBit i = true → x i = y i) → dotN k m x = dotN k m y
  | 0, _ => rfl
  | k + 1, h => by
    simp only [dotN, dotN_congr k fun i hi => h i (by omega)]
    cases e : m.testBit k with
    | false => simp
    | true => rw [h k (by omega) e]
theorem dot_congr {m : Nat} {x y : Pt} (h : ∀ i, i < 16 → m.testBit i = true → x i = y i) : dot m x = dot m y := dotN_congr 16 h
theorem dotN_one (m : Nat) (c : Bool) (h : Nat) : ∀ k, dotN k m (fun i => c && decide (i = h)) = (decide (h < k) && m.testBit h && c)
  | 0 => by simp [dotN]
  | k + 1 => by
    simp only [dotN, dotN_one m c h k]
    by_cases e : k = h
    · subst e
      simp
    · have e2 : decide (k = h) = false := by simp [e]
      have e3 : decide (h < k + 1) = decide (h < k) := by simp only [decide_eq_decide]; omega
      rw [e2, e3]
      simp
theorem dot_one {m h : Nat} (c : Bool) (hh : h < 16) : dot m (fun i => c && decide (i = h)) = (m.testBit h && c) := by
  unfold dot
  rw [dotN_one]
  simp [hh]
/-- the least unknown of a row -/
def hd (m : Nat) : Nat := ((List.range 16).find? fun i => m.testBit i).getD 16
theorem hd_some {m : Nat} (h : m ≠ 0) (h2 : m < 2 ^ 16) : m.testBit (hd m) = true ∧ hd m < 16 ∧ ∀ j, j < hd m → m.testBit j = false := by
  unfold hd
  cases e : (List.range 16).find? fun i => m.testBit i with
  | none =>
    exfalso
    apply h
    refine Nat.eq_of_testBit_eq fun i => ?_
    rw [Nat.zero_testBit]
    by_cases hi : i < 16
    · have := List.find?_eq_none.mp e i (List.mem_range.mpr hi)
      simpa using this
    · exact Nat.testBit_lt_two_pow (Nat.lt_of_lt_of_le h2 (Nat.pow_le_pow_right (by decide) (by omega)))
  | some a =>
    have h3 := List.find?_some e
    have h4 := List.mem_of_find?_eq_some e
    refine ⟨h3, List.mem_range.mp h4, fun j hj => ?_⟩
    have h5 : a < 16 := List.mem_range.mp h4
    obtain ⟨_, as, bs, e1, e2⟩ := List.find?_eq_some_iff_append.mp e
    have hja : j ∈ as := by
      have hlen : (List.range 16)[as.length]? = some a := by rw [e1]; simp
      have hl : as.length = a := by
        have hb : as.length < 16 := by
          have := congrArg List.length e1
          simp at this; omega
        rw [List.getElem?_range hb] at hlen
        exact Option.some.inj hlen
      have hjm : (List.range 16)[j]? = some j := List.getElem?_range (by simp at hj; omega)
      rw [e1] at hjm
      have hj' : j < as.length := by simp at hj; omega
      rw [List.getElem?_append_left hj'] at hjm
      exact List.mem_of_getElem? hjm
    have := e2 j hja
    simpa using this
theorem bit_lt {m i : Nat} (h : m < 2 ^ 16) (hb : m.testBit i = true) : i < 16 := by
  rcases Nat.lt_or_ge i 16 with c | c
  · exact c
  · rw [Nat.testBit_lt_two_pow (Nat.lt_of_lt_of_le h (Nat.pow_le_pow_right (by decide) c))] at hb
    cases hb
theorem hd_uniq {m h : Nat} (h2 : m < 2 ^ 16) (hb : m.testBit h = true) (hl : ∀ j, j < h → m.testBit j = false) : hd m = h := by
  have hm : m ≠ 0 := fun z => by rw [z, Nat.zero_testBit] at hb; cases hb
  obtain ⟨a, b, c⟩ := hd_some hm h2
  rcases Nat.lt_trichotomy (hd m) h with w | w | w
  · rw [hl _ w] at a; cases a
  · exact w
  · rw [c _ w] at hb; cases hb
/-- lines that hold -/
def Holds (F : List Ln) (x : Pt) : Prop := ∀ l ∈ F, dot l.1 x = l.2
/-- a flat: heads in no other line -/
structure Rr (F : List Ln) : Prop where
  pos : ∀ l ∈ F, l.1 ≠ 0 ∧ l.1 < 2 ^ 16
  nod : (F.map fun l => hd l.1).Nodup
  out : ∀ l ∈ F, ∀ k ∈ F, hd l.1 ≠ hd k.1 → k.1.testBit (hd l.1) = false
theorem Rr.nil : Rr [] := ⟨fun _ h => (nomatch h), List.nodup_nil, fun _ h => (nomatch h)⟩
theorem Rr.tail {l : Ln} {F : List Ln} (r : Rr (l :: F)) : Rr F :=
  ⟨fun k hk => r.pos k (List.mem_cons_of_mem _ hk), (List.nodup_cons.mp r.nod).2, fun k hk j hj => r.out k (List.mem_cons_of_mem _ hk) j (List.mem_cons_of_mem _ hj)⟩
theorem Rr.perm {F G : List Ln} (r : Rr F) (p : G.Perm F) : Rr G :=
  ⟨fun l hl => r.pos l (p.mem_iff.mp hl), ((p.map _).nodup_iff).mpr r.nod, fun l hl k hk => r.out l (p.mem_iff.mp hl) k (p.mem_iff.mp hk)⟩
theorem Rr.sub {F G : List Ln} (r : Rr F) (p : G.Sublist F) : Rr G :=
  ⟨fun l hl => r.pos l (p.subset hl), r.nod.sublist (p.map _), fun l hl k hk => r.out l (p.subset hl) k (p.subset hk)⟩
theorem Rr.head_out {l : Ln} {F : List Ln} (r : Rr (l :: F)) : ∀ k ∈ F, k.1.testBit (hd l.1) = false := fun k hk =>
  r.out l (List.mem_cons_self ..) k (List.mem_cons_of_mem _ hk) fun z => (List.nodup_cons.mp r.nod).1 (List.mem_map.mpr ⟨k, hk, z.symm⟩)
/-- a row led down by a flat -/
def led : List Ln → Nat → Bool → Nat × Bool
  | [], m, w => (m, w)
  | l :: F, m, w => if m.testBit (hd l.1) = true then led F (m ^^^ l.1) (w ^^ l.2) else led F m w
theorem led_worth {x : Pt} : ∀ {F : List Ln} {m : Nat} {w : Bool}, Holds F x → (dot (led F m w).1 x ^^ (led F m w).2) = (dot m x ^^ w)
  | [], _, _, _ => rfl
  | l :: F, m, w, h => by
    have h' : Holds F x := fun k hk => h k (List.mem_cons_of_mem _ hk)
    have hl := h l (List.mem_cons_self ..)
    unfold led
    split
    · rw [led_worth h', dot_xor, hl]
      cases dot m x <;> cases l.2 <;> cases w <;> rfl
    · exact led_worth h'
theorem led_keep {h : Nat} : ∀ {F : List Ln} {m : Nat} {w : Bool}, (∀ k ∈ F, k.1.testBit h = false) → (led F m w).1.testBit h = m.testBit h
  | [], _, _, _ => rfl
  | l :: F, m, w, q => by
    have q' : ∀ k ∈ F, k.1.testBit h = false := fun k hk => q k (List.mem_cons_of_mem _ hk)
    unfold led
    split
    · rw [led_keep q', Nat.testBit_xor, q l (List.mem_cons_self ..)]
      simp
    · exact led_keep q'
theorem led_heads : ∀ {F : List Ln} {m : Nat} {w : Bool}, Rr F → ∀ l ∈ F, (led F m w).1.testBit (hd l.1) = false
  | k :: F, m, w, r, l, hl => by
    unfold led
    rcases List.mem_cons.mp hl with rfl | hl
    · split
      · rename_i hm
        rw [led_keep r.head_out, Nat.testBit_xor, hm, (hd_some (r.pos l (List.mem_cons_self ..)).1 (r.pos l (List.mem_cons_self ..)).2).1]
        rfl
      · rename_i hm
        rw [led_keep r.head_out]
        simpa using hm
    · split
      · exact led_heads r.tail l hl
      · exact led_heads r.tail l hl
theorem led_lt : ∀ {F : List Ln} {m : Nat} {w : Bool}, (∀ l ∈ F, l.1 < 2 ^ 16) → m < 2 ^ 16 → (led F m w).1 < 2 ^ 16
  | [], _, _, _, h => h
  | l :: F, m, w, q, h => by
    have q' : ∀ k ∈ F, k.1 < 2 ^ 16 := fun k hk => q k (List.mem_cons_of_mem _ hk)
    unfold led
    split
    · exact led_lt q' (Nat.xor_lt_two_pow h (q l (List.mem_cons_self ..)))
    · exact led_lt q' h
theorem led_free : ∀ {F : List Ln} {m : Nat} {w : Bool}, (∀ l ∈ F, m.testBit (hd l.1) = false) → led F m w = (m, w)
  | [], _, _, _ => rfl
  | l :: F, m, w, q => by
    unfold led
    rw [if_neg (by rw [q l (List.mem_cons_self ..)]; decide)]
    exact led_free fun k hk => q k (List.mem_cons_of_mem _ hk)
theorem led_low {h : Nat} : ∀ {F : List Ln} {m : Nat} {w : Bool}, (∀ l ∈ F, l.1 ≠ 0 ∧ l.1 < 2 ^ 16) → (∀ l ∈ F, hd l.1 ≠ h) → m.testBit h = true → (∀ j, j < h → m.testBit j = false) → (led F m w).1.testBit h = true
  | [], _, _, _, _, hm, _ => hm
  | l :: F, m, w, q, n, hm, hl => by
    have q' : ∀ k ∈ F, k.1 ≠ 0 ∧ k.1 < 2 ^ 16 := fun k hk => q k (List.mem_cons_of_mem _ hk)
    have n' : ∀ k ∈ F, hd k.1 ≠ h := fun k hk => n k (List.mem_cons_of_mem _ hk)
    unfold led
    split
    · rename_i hb
      obtain ⟨a, b, c⟩ := hd_some (q l (List.mem_cons_self ..)).1 (q l (List.mem_cons_self ..)).2
      have hgt : h < hd l.1 := by
        rcases Nat.lt_trichotomy (hd l.1) h with z | z | z
        · rw [hl _ z] at hb; cases hb
        · exact absurd z (n l (List.mem_cons_self ..))
        · exact z
      refine led_low q' n' ?_ fun j hj => ?_
      · rw [Nat.testBit_xor, hm, c _ hgt]; rfl
      · rw [Nat.testBit_xor, hl j hj, c _ (by omega)]; rfl
    · exact led_low q' n' hm hl
/-- a point of the flat that is y off the heads -/
def fixP (F : List Ln) (y : Pt) : Pt := fun i => match F.find? fun l => decide (hd l.1 = i) with
  | some l => y i ^^ (l.2 ^^ dot l.1 y)
  | none => y i
theorem fix_off {F : List Ln} {y : Pt} {i : Nat} (h : ∀ l ∈ F, hd l.1 ≠ i) : fixP F y i = y i := by
  unfold fixP
  have : F.find? (fun l => decide (hd l.1 = i)) = none := List.find?_eq_none.mpr fun l hl => by simp [h l hl]
  rw [this]
theorem find_head {l : Ln} : ∀ {F : List Ln}, (F.map fun l => hd l.1).Nodup → l ∈ F → F.find? (fun k => decide (hd k.1 = hd l.1)) = some l
  | k :: F, nd, hl => by
    rw [List.map_cons, List.nodup_cons] at nd
    rcases List.mem_cons.mp hl with rfl | hl
    · simp [List.find?_cons]
    · have : hd k.1 ≠ hd l.1 := fun z => nd.1 (List.mem_map.mpr ⟨l, hl, z.symm⟩)
      rw [List.find?_cons]
      simp only [this, decide_false]
      exact find_head nd.2 hl
theorem fix_holds {F : List Ln} (r : Rr F) (y : Pt) : Holds F (fixP F y) := fun l hl => by
  obtain ⟨a, b, c⟩ := hd_some (r.pos l hl).1 (r.pos l hl).2
  have e : dot l.1 (fixP F y) = dot l.1 (fun i => y i ^^ ((l.2 ^^ dot l.1 y) && decide (i = hd l.1))) := dot_congr fun i hi hb => by
    by_cases z : i = hd l.1
    · subst z
      unfold fixP
      rw [find_head r.nod hl]
      simp
    · rw [fix_off fun k hk w => ?_]
      · simp [z]
      · subst w
        have := r.out k hk l hl z
        rw [this] at hb
        cases hb
  rw [e, dot_add, dot_one _ b, a]
  cases dot l.1 y <;> cases l.2 <;> rfl
theorem fix_free {F : List Ln} {y : Pt} {m : Nat} (h : ∀ l ∈ F, m.testBit (hd l.1) = false) : dot m (fixP F y) = dot m y := dot_congr fun i hi hb => fix_off fun l hl w => by
  subst w
  rw [h l hl] at hb
  cases hb
/-- a row without heads, not nothing, has both worths -/
theorem both {F : List Ln} (r : Rr F) {m : Nat} (h0 : m ≠ 0) (h1 : m < 2 ^ 16) (h : ∀ l ∈ F, m.testBit (hd l.1) = false) (v : Bool) : ∃ x, Holds F x ∧ dot m x = v := by
  obtain ⟨a, b, _⟩ := hd_some h0 h1
  refine ⟨fixP F (fun i => v && decide (i = hd m)), fix_holds r _, ?_⟩
  rw [fix_free h, dot_one _ b, a]
  rfl
theorem Rr.pt {F : List Ln} (r : Rr F) : ∃ x, Holds F x := ⟨_, fix_holds r fun _ => false⟩
def told (F : List Ln) (m : Nat) : Option Bool := if (led F m false).1 = 0 then some (led F m false).2 else none
theorem told_some {F : List Ln} (r : Rr F) {m : Nat} (hm : m < 2 ^ 16) {w : Bool} : told F m = some w ↔ ∀ x, Holds F x → dot m x = w := by
  have lt := led_lt (w := false) (fun l hl => (r.pos l hl).2) hm
  have hs := led_heads (m := m) (w := false) r
  unfold told
  constructor
  · intro h x hx
    split at h
    · rename_i e
      cases h
      have := led_worth (m := m) (w := false) hx
      rw [e, dot_zero] at this
      simpa using this.symm
    · cases h
  · intro h
    by_cases e : (led F m false).1 = 0
    · rw [if_pos e]
      obtain ⟨x, hx⟩ := r.pt
      have := led_worth (m := m) (w := false) hx
      rw [e, dot_zero, h x hx] at this
      simp at this
      rw [this]
    · exfalso
      obtain ⟨x, hx, d1⟩ := both r e lt hs (!(w ^^ (led F m false).2))
      have := led_worth (m := m) (w := false) hx
      rw [d1, h x hx] at this
      revert this
      cases w <;> cases (led F m false).2 <;> simp
end FL

/-! PF2: lines put into flats, flats that meet, one flat in two. -/
namespace FL
/-- a line put in: the lines in any order -/
def put1 (F : List Ln) (m : Nat) (b : Bool) : List Ln := (m, b) :: F.map fun l => if l.1.testBit (hd m) = true then (l.1 ^^^ m, l.2 ^^ b) else l
theorem put1_len {F : List Ln} {m : Nat} {b : Bool} : (put1 F m b).length = F.length + 1 := by unfold put1; rw [List.length_cons, List.length_map]
theorem hd_xor {l m : Nat} (hl0 : l ≠ 0) (hl : l < 2 ^ 16) (hm0 : m ≠ 0) (hm : m < 2 ^ 16) (hb : l.testBit (hd m) = true) (hf : m.testBit (hd l) = false) : hd (l ^^^ m) = hd l ∧ l ^^^ m ≠ 0 ∧ hd l < hd m := by
  obtain ⟨a, b, c⟩ := hd_some hl0 hl
  obtain ⟨a', b', c'⟩ := hd_some hm0 hm
  have hlt : hd l < hd m := by
    rcases Nat.lt_trichotomy (hd l) (hd m) with z | z | z
    · exact z
    · rw [z, a'] at hf; cases hf
    · rw [c _ z] at hb; cases hb
  have h1 : (l ^^^ m).testBit (hd l) = true := by rw [Nat.testBit_xor, a, hf]; rfl
  refine ⟨hd_uniq (Nat.xor_lt_two_pow hl hm) h1 fun j hj => ?_, fun z => ?_, hlt⟩
  · rw [Nat.testBit_xor, c j hj, c' j (by omega)]; rfl
  · rw [z, Nat.zero_testBit] at h1; cases h1
theorem put1_head {F : List Ln} (r : Rr F) {m : Nat} {b : Bool} (h0 : m ≠ 0) (h1 : m < 2 ^ 16) (hf : ∀ l ∈ F, m.testBit (hd l.1) = false) {l : Ln} (hl : l ∈ F) :
    hd (if l.1.testBit (hd m) = true then (l.1 ^^^ m, l.2 ^^ b) else l).1 = hd l.1 := by
  split
  · rename_i hb
    exact (hd_xor (r.pos l hl).1 (r.pos l hl).2 h0 h1 hb (hf l hl)).1
  · rfl
theorem put1_rr {F : List Ln} (r : Rr F) {m : Nat} {b : Bool} (h0 : m ≠ 0) (h1 : m < 2 ^ 16) (hf : ∀ l ∈ F, m.testBit (hd l.1) = false) : Rr (put1 F m b) := by
  obtain ⟨ma, mb, mc⟩ := hd_some h0 h1
  have hh : ∀ l ∈ F, hd (if l.1.testBit (hd m) = true then (l.1 ^^^ m, l.2 ^^ b) else l).1 = hd l.1 := fun l hl => put1_head r h0 h1 hf hl
  have nh : ∀ l ∈ F, hd l.1 ≠ hd m := fun l hl z => by
    have := hf l hl
    rw [z, ma] at this; cases this
  have out2 : ∀ l ∈ F, ∀ k ∈ F, hd l.1 ≠ hd k.1 → (if k.1.testBit (hd m) = true then (k.1 ^^^ m, k.2 ^^ b) else k).1.testBit (hd l.1) = false := fun l hl k hk ne => by
    split
    · show (k.1 ^^^ m).testBit (hd l.1) = false
      rw [Nat.testBit_xor, r.out l hl k hk ne, hf l hl]; rfl
    · exact r.out l hl k hk ne
  have outm : ∀ k ∈ F, (if k.1.testBit (hd m) = true then (k.1 ^^^ m, k.2 ^^ b) else k).1.testBit (hd m) = false := fun k hk => by
    split
    · rename_i hb
      show (k.1 ^^^ m).testBit (hd m) = false
      rw [Nat.testBit_xor, hb, ma]; rfl
    · rename_i hb
      simpa using hb
  refine ⟨fun l hl => ?_, ?_, fun l hl k hk ne => ?_⟩
  · rcases List.mem_cons.mp hl with rfl | hl
    · exact ⟨h0, h1⟩
    · obtain ⟨k, hk, rfl⟩ := List.mem_map.mp hl
      split
      · rename_i hb
        exact ⟨(hd_xor (r.pos k hk).1 (r.pos k hk).2 h0 h1 hb (hf k hk)).2.1, Nat.xor_lt_two_pow (r.pos k hk).2 h1⟩
      · exact r.pos k hk
  · unfold put1
    rw [List.map_cons, List.nodup_cons, List.map_map]
    have e : F.map ((fun l : Ln => hd l.1) ∘ fun l => if l.1.testBit (hd m) = true then (l.1 ^^^ m, l.2 ^^ b) else l) = F.map fun l => hd l.1 := List.map_congr_left fun l hl => hh l hl
    rw [e]
    refine ⟨fun z => ?_, r.nod⟩
    obtain ⟨l, hl, w⟩ := List.mem_map.mp z
    exact nh l hl w
  · rcases List.mem_cons.mp hl with rfl | hl
    · rcases List.mem_cons.mp hk with rfl | hk
      · exact absurd rfl ne
      · obtain ⟨k', hk', rfl⟩ := List.mem_map.mp hk
        exact outm k' hk'
    · obtain ⟨l', hl', rfl⟩ := List.mem_map.mp hl
      rw [hh l' hl'] at ne ⊢
      rcases List.mem_cons.mp hk with rfl | hk
      · exact hf l' hl'
      · obtain ⟨k', hk', rfl⟩ := List.mem_map.mp hk
        rw [hh k' hk'] at ne
        exact out2 l' hl' k' hk' ne
theorem put1_holds {F : List Ln} {m : Nat} {b : Bool} {x : Pt} : Holds (put1 F m b) x ↔ Holds F x ∧ dot m x = b := by
  constructor
  · intro h
    have hm : dot m x = b := h (m, b) (List.mem_cons_self ..)
    refine ⟨fun l hl => ?_, hm⟩
    have := h _ (List.mem_cons_of_mem _ (List.mem_map.mpr ⟨l, hl, rfl⟩))
    split at this
    · have this : dot (l.1 ^^^ m) x = (l.2 ^^ b) := this
      rw [dot_xor, hm] at this
      revert this
      cases dot l.1 x <;> cases l.2 <;> cases b <;> simp
    · exact this
  · intro ⟨h, hm⟩ l hl
    rcases List.mem_cons.mp hl with rfl | hl
    · exact hm
    · obtain ⟨k, hk, rfl⟩ := List.mem_map.mp hl
      split
      · show dot (k.1 ^^^ m) x = (k.2 ^^ b)
        rw [dot_xor, hm, h k hk]
      · exact h k hk
theorem holds_perm {A B : List Ln} (p : A.Perm B) {x : Pt} : Holds A x ↔ Holds B x := ⟨fun h l hl => h l (p.mem_iff.mpr hl), fun h l hl => h l (p.mem_iff.mp hl)⟩
/-- what putting in a line tells: none, or a flat of these lines in some order -/
inductive PutIn (F : List Ln) (m : Nat) (b : Bool) : Option (List Ln) → Prop
  | no : (led F m false).1 = 0 → (b ^^ (led F m false).2) = true → PutIn F m b none
  | same : (led F m false).1 = 0 → (b ^^ (led F m false).2) = false → PutIn F m b (some F)
  | more {G : List Ln} : (led F m false).1 ≠ 0 → G.Perm (put1 F (led F m false).1 (b ^^ (led F m false).2)) → PutIn F m b (some G)
theorem PutIn.sem {F : List Ln} {m : Nat} {b : Bool} {o : Option (List Ln)} (r : Rr F) (hm : m < 2 ^ 16) (p : PutIn F m b o) :
    (o = none → ∀ x, Holds F x → dot m x ≠ b) ∧ (∀ G, o = some G → Rr G ∧ ∀ x, Holds G x ↔ Holds F x ∧ dot m x = b) := by
  have lt := led_lt (w := false) (fun l hl => (r.pos l hl).2) hm
  have hs := led_heads (m := m) (w := false) r
  cases p with
  | no h1 h2 =>
    refine ⟨fun _ x hx z => ?_, fun G e => nomatch e⟩
    have := led_worth (m := m) (w := false) hx
    rw [h1, dot_zero, z] at this
    revert this h2
    cases b <;> cases (led F m false).2 <;> simp
  | same h1 h2 =>
    refine ⟨fun e => (nomatch e), fun G e => ?_⟩
    cases e
    refine ⟨r, fun x => ⟨fun hx => ⟨hx, ?_⟩, fun hx => hx.1⟩⟩
    have := led_worth (m := m) (w := false) hx
    rw [h1, dot_zero] at this
    revert this h2
    cases b <;> cases (led F m false).2 <;> cases dot m x <;> simp
  | more h1 h2 =>
    refine ⟨fun e => (nomatch e), fun G e => ?_⟩
    cases e
    refine ⟨(put1_rr r h1 lt hs).perm h2, fun x => ?_⟩
    rw [holds_perm h2, put1_holds]
    refine and_congr_right fun hx => ?_
    have := led_worth (m := m) (w := false) hx
    revert this
    cases b <;> cases (led F m false).2 <;> cases dot m x <;> cases dot (led F m false).1 x <;> simp
theorem PutIn.len {F G : List Ln} {m : Nat} {b : Bool} (p : PutIn F m b (some G)) (h : (led F m false).1 ≠ 0) : G.length = F.length + 1 := by
  cases p with
  | same h1 _ => exact absurd h1 h
  | more _ h2 => rw [h2.length_eq, put1_len]
/-- all lines of A put in -/
inductive Meet : List Ln → List Ln → Option (List Ln) → Prop
  | nil {F : List Ln} : Meet F [] (some F)
  | stop {F A : List Ln} {l : Ln} : PutIn F l.1 l.2 none → Meet F (l :: A) none
  | go {F G A : List Ln} {l : Ln} {o : Option (List Ln)} : PutIn F l.1 l.2 (some G) → Meet G A o → Meet F (l :: A) o
theorem Meet.sem {F A : List Ln} {o : Option (List Ln)} (p : Meet F A o) : Rr F → (∀ l ∈ A, l.1 < 2 ^ 16) → (o = none → ∀ x, Holds F x → ¬ Holds A x) ∧ (∀ G, o = some G → Rr G ∧ ∀ x, Holds G x ↔ Holds F x ∧ Holds A x) := by
  induction p with
  | nil =>
    intro r _
    refine ⟨fun e => (nomatch e), fun G e => ?_⟩
    cases e
    exact ⟨r, fun x => ⟨fun h => ⟨h, fun l hl => nomatch hl⟩, fun h => h.1⟩⟩
  | stop h =>
    intro r hA
    refine ⟨fun _ x hx hA' => (h.sem r (hA _ (List.mem_cons_self ..))).1 rfl x hx (hA' _ (List.mem_cons_self ..)), fun G e => nomatch e⟩
  | @go F G A l o h _ ih =>
    intro r hA
    obtain ⟨r2, s2⟩ := (h.sem r (hA _ (List.mem_cons_self ..))).2 G rfl
    obtain ⟨i1, i2⟩ := ih r2 fun k hk => hA k (List.mem_cons_of_mem _ hk)
    have hc : ∀ x, Holds (l :: A) x ↔ dot l.1 x = l.2 ∧ Holds A x := fun x => ⟨fun q => ⟨q l (List.mem_cons_self ..), fun k hk => q k (List.mem_cons_of_mem _ hk)⟩, fun q k hk => by
      rcases List.mem_cons.mp hk with rfl | hk
      · exact q.1
      · exact q.2 k hk⟩
    refine ⟨fun e x hx hA' => ?_, fun G' e => ?_⟩
    · rw [hc] at hA'
      exact i1 e x ((s2 x).mpr ⟨hx, hA'.1⟩) hA'.2
    · obtain ⟨r3, s3⟩ := i2 G' e
      refine ⟨r3, fun x => ?_⟩
      rw [s3, s2, hc, and_assoc]
/-- equal points, equal heads -/
theorem heads_sub {F G : List Ln} (r : Rr F) (q : Rr G) (h : ∀ x, Holds F x ↔ Holds G x) : ∀ l ∈ F, ∃ k ∈ G, hd k.1 = hd l.1 := by
  intro l hl
  obtain ⟨a, b, c⟩ := hd_some (r.pos l hl).1 (r.pos l hl).2
  have ht : told G l.1 = some l.2 := (told_some q (r.pos l hl).2).mpr fun x hx => (h x).mpr hx l hl
  by_cases w : ∃ k ∈ G, hd k.1 = hd l.1
  · exact w
  · exfalso
    have n : ∀ k ∈ G, hd k.1 ≠ hd l.1 := fun k hk z => w ⟨k, hk, z⟩
    have := led_low (w := false) q.pos n a c
    unfold told at ht
    split at ht
    · rename_i e
      rw [e, Nat.zero_testBit] at this; cases this
    · cases ht
theorem nodup_len {α : Type} [DecidableEq α] : ∀ {l m : List α}, l.Nodup → (∀ a ∈ l, a ∈ m) → l.length ≤ m.length
  | [], _, _, _ => Nat.zero_le _
  | a :: l, m, nd, h => by
    rw [List.nodup_cons] at nd
    have ha := h a (List.mem_cons_self ..)
    have := nodup_len (l := l) (m := m.erase a) nd.2 fun b hb => (List.mem_erase_of_ne (fun z => nd.1 (by rw [← z]; exact hb))).mpr (h b (List.mem_cons_of_mem _ hb))
    rw [List.length_erase_of_mem ha] at this
    have : 0 < m.length := List.length_pos_of_mem ha
    rw [List.length_cons]
    omega
theorem len_eq {F G : List Ln} (r : Rr F) (q : Rr G) (h : ∀ x, Holds F x ↔ Holds G x) : F.length = G.length := by
  have key : ∀ {F G : List Ln}, Rr F → Rr G → (∀ x, Holds F x ↔ Holds G x) → F.length ≤ G.length := fun {F G} r q h => by
    have := nodup_len (l := F.map fun l => hd l.1) (m := G.map fun l => hd l.1) r.nod fun a ha => by
      obtain ⟨l, hl, rfl⟩ := List.mem_map.mp ha
      obtain ⟨k, hk, e⟩ := heads_sub r q h l hl
      exact List.mem_map.mpr ⟨k, hk, e⟩
    rw [List.length_map, List.length_map] at this
    exact this
  have h1 := key r q h
  have h2 := key q r fun x => (h x).symm
  omega
/-- the only reduced row that a half of a flat tells -/
theorem one_row {F : List Ln} (r : Rr F) {m s : Nat} {b w : Bool} (m0 : m ≠ 0) (m1 : m < 2 ^ 16) (mf : ∀ l ∈ F, m.testBit (hd l.1) = false) (s0 : s ≠ 0) (s1 : s < 2 ^ 16) (sf : ∀ l ∈ F, s.testBit (hd l.1) = false)
    (h : ∀ x, Holds F x → dot m x = b → dot s x = w) : s = m := by
  by_cases e : s ^^^ m = 0
  · exact Nat.eq_of_testBit_eq fun i => by
      have := congrArg (fun z => z.testBit i) e
      simp only [Nat.testBit_xor, Nat.zero_testBit] at this
      revert this
      cases s.testBit i <;> cases m.testBit i <;> simp
  · exfalso
    have rr := put1_rr (b := b) r m0 m1 mf
    obtain ⟨ma, mb, mc⟩ := hd_some m0 m1
    -- the row s, or s with m, is free of the new heads
    have key : ∀ t : Nat, t ≠ 0 → t < 2 ^ 16 → (∀ l ∈ F, t.testBit (hd l.1) = false) → t.testBit (hd m) = false → ∀ v, ∃ x, (Holds F x ∧ dot m x = b) ∧ dot t x = v := fun t t0 t1 tf tm v => by
      have hf : ∀ l ∈ put1 F m b, t.testBit (hd l.1) = false := fun l hl => by
        rcases List.mem_cons.mp hl with rfl | hl
        · exact tm
        · obtain ⟨k, hk, rfl⟩ := List.mem_map.mp hl
          rw [put1_head r m0 m1 mf hk]
          exact tf k hk
      obtain ⟨x, hx, d⟩ := both rr t0 t1 hf v
      exact ⟨x, put1_holds.mp hx, d⟩
    cases c : s.testBit (hd m) with
    | false =>
      obtain ⟨x, ⟨hx, hm⟩, d⟩ := key s s0 s1 sf c (!w)
      have := h x hx hm
      rw [d] at this
      revert this
      cases w <;> simp
    | true =>
      obtain ⟨x, ⟨hx, hm⟩, d⟩ := key (s ^^^ m) e (Nat.xor_lt_two_pow s1 m1) (fun l hl => by rw [Nat.testBit_xor, sf l hl, mf l hl]; rfl) (by rw [Nat.testBit_xor, c, ma]; rfl) (!(w ^^ b))
      rw [dot_xor, h x hx hm, hm] at d
      revert d
      cases w <;> cases b <;> simp
end FL

/-! PF3: one flat in two others. -/
namespace FL
theorem holds_sum {X : List Ln} {x y z : Pt} (hx : Holds X x) (hy : Holds X y) (hz : Holds X z) : Holds X (fun i => x i ^^ (y i ^^ z i)) := fun l hl => by
  rw [dot_add, dot_add, hx l hl, hy l hl, hz l hl]
  cases l.2 <;> rfl
theorem holds_congr {X : List Ln} {x y : Pt} (h : ∀ i, x i = y i) : Holds X x ↔ Holds X y := by
  have : x = y := funext h
  rw [this]
def newRow (F : List Ln) : List Ln → Nat
  | [] => 0
  | l :: f => if (led F l.1 false).1 ≠ 0 then (led F l.1 false).1 else newRow F f
theorem newRow_spec (F : List Ln) : ∀ f : List Ln, (newRow F f = 0 ∧ ∀ l ∈ f, (led F l.1 false).1 = 0) ∨ ∃ l ∈ f, newRow F f = (led F l.1 false).1 ∧ (led F l.1 false).1 ≠ 0
  | [] => .inl ⟨rfl, fun _ h => (nomatch h)⟩
  | l :: f => by
    unfold newRow
    by_cases h : (led F l.1 false).1 = 0
    · rw [if_neg (by simpa using h)]
      rcases newRow_spec F f with ⟨a, b⟩ | ⟨k, hk, a⟩
      · refine .inl ⟨a, fun k hk => ?_⟩
        rcases List.mem_cons.mp hk with rfl | hk
        · exact h
        · exact b k hk
      · exact .inr ⟨k, List.mem_cons_of_mem _ hk, a⟩
    · rw [if_pos h]
      exact .inr ⟨l, List.mem_cons_self .., rfl, h⟩
/-- points of a flat that are alike off the heads are alike -/
theorem det {g : List Ln} (r : Rr g) {x y : Pt} (hx : Holds g x) (hy : Holds g y) (h : ∀ i, (∀ l ∈ g, hd l.1 ≠ i) → x i = y i) : ∀ i, x i = y i := by
  intro i
  by_cases e : ∃ l ∈ g, hd l.1 = i
  · obtain ⟨l, hl, rfl⟩ := e
    obtain ⟨a, b, c⟩ := hd_some (r.pos l hl).1 (r.pos l hl).2
    have e1 : dot l.1 (fun i => x i ^^ y i) = false := by rw [dot_add, hx l hl, hy l hl]; simp
    have e2 : dot l.1 (fun i => x i ^^ y i) = dot l.1 (fun i => (x (hd l.1) ^^ y (hd l.1)) && decide (i = hd l.1)) := dot_congr fun i hi hb => by
      by_cases z : i = hd l.1
      · subst z; simp
      · rw [h i fun k hk w => ?_]
        · simp [z]
        · subst w
          rw [r.out k hk l hl z] at hb
          cases hb
    rw [e2, dot_one _ b, a] at e1
    revert e1
    cases x (hd l.1) <;> cases y (hd l.1) <;> simp
  · exact h i fun l hl z => e ⟨l, hl, z⟩
/-- a flat within another one of the same number of lines is it -/
theorem within_eq {f g : List Ln} (rf : Rr f) (rg : Rr g) (h : ∀ x, Holds f x → Holds g x) (hl : f.length = g.length) : ∀ x, Holds g x → Holds f x := by
  have sub : ∀ l ∈ g, ∃ k ∈ f, hd k.1 = hd l.1 := by
    intro l hl'
    obtain ⟨a, b, c⟩ := hd_some (rg.pos l hl').1 (rg.pos l hl').2
    have ht : told f l.1 = some l.2 := (told_some rf (rg.pos l hl').2).mpr fun x hx => h x hx l hl'
    by_cases w : ∃ k ∈ f, hd k.1 = hd l.1
    · exact w
    · exfalso
      have n : ∀ k ∈ f, hd k.1 ≠ hd l.1 := fun k hk z => w ⟨k, hk, z⟩
      have := led_low (w := false) rf.pos n a c
      unfold told at ht
      split at ht
      · rename_i e
        rw [e, Nat.zero_testBit] at this; cases this
      · cases ht
  have back : ∀ k ∈ f, ∃ l ∈ g, hd l.1 = hd k.1 := fun k hk => by
    by_cases w : ∃ l ∈ g, hd l.1 = hd k.1
    · exact w
    · exfalso
      have := nodup_len (l := hd k.1 :: g.map fun l => hd l.1) (m := f.map fun l => hd l.1) (List.nodup_cons.mpr ⟨fun z => by
        obtain ⟨l, hl, e⟩ := List.mem_map.mp z
        exact w ⟨l, hl, e⟩, rg.nod⟩) fun a ha => by
          rcases List.mem_cons.mp ha with rfl | ha
          · exact List.mem_map.mpr ⟨k, hk, rfl⟩
          · obtain ⟨l, hl, rfl⟩ := List.mem_map.mp ha
            obtain ⟨k', hk', e⟩ := sub l hl
            exact List.mem_map.mpr ⟨k', hk', e⟩
      rw [List.length_cons, List.length_map, List.length_map] at this
      omega
  intro x hx
  have hy := fix_holds rf x
  have := det rg (h _ hy) hx fun i hi => fix_off fun k hk z => by
    obtain ⟨l, hl, e⟩ := back k hk
    exact hi l hl (e.trans z)
  exact (holds_congr this).mp hy
/-- F lies in A and B together, in neither alone: halves -/
structure Cut (F A B f s : List Ln) (r : Nat) (w : Bool) : Prop where
  r0 : r ≠ 0
  r1 : r < 2 ^ 16
  rf : ∀ l ∈ F, r.testBit (hd l.1) = false
  lf : f.length = F.length + 1
  ls : s.length = F.length + 1
  nr : newRow F f = r
  tf : told f r = some w
  ts : told s r = some (!w)
  inA : ∀ x, Holds F x → (Holds A x ↔ dot r x = w)
  inB : ∀ x, Holds F x → (Holds B x ↔ dot r x = !w)
theorem cut_ok {F A B : List Ln} {oA oB : Option (List Ln)} (rF : Rr F) (rA : Rr A) (rB : Rr B) (mA : Meet F A oA) (mB : Meet F B oB) (cov : ∀ x, Holds F x → Holds A x ∨ Holds B x)
    (nA : ¬ ∀ x, Holds F x → Holds A x) (nB : ¬ ∀ x, Holds F x → Holds B x) : ∃ f s r w, oA = some f ∧ oB = some s ∧ Cut F A B f s r w := by
  have sA := mA.sem rF fun l hl => (rA.pos l hl).2
  have sB := mB.sem rF fun l hl => (rB.pos l hl).2
  obtain ⟨x0, hx0⟩ := Classical.not_forall.mp nA
  obtain ⟨fx0, ax0⟩ := Classical.not_imp.mp hx0
  obtain ⟨y0, hy0⟩ := Classical.not_forall.mp nB
  obtain ⟨fy0, by0⟩ := Classical.not_imp.mp hy0
  have bx0 : Holds B x0 := (cov x0 fx0).resolve_left ax0
  have ay0 : Holds A y0 := (cov y0 fy0).resolve_right by0
  have disj : ∀ z, Holds F z → Holds A z → Holds B z → False := fun z fz az bz => by
    have fw := holds_sum fx0 fy0 fz
    rcases cov _ fw with aw | bw
    · have := holds_sum aw ay0 az
      exact ax0 ((holds_congr fun i => by cases x0 i <;> cases y0 i <;> cases z i <;> rfl).mp this)
    · have := holds_sum bw bx0 bz
      exact by0 ((holds_congr fun i => by cases x0 i <;> cases y0 i <;> cases z i <;> rfl).mp this)
  obtain ⟨l, hl⟩ := Classical.not_forall.mp ax0
  obtain ⟨hlA, hld⟩ := Classical.not_imp.mp hl
  have l16 := (rA.pos l hlA).2
  have hy := ay0 l hlA
  have inA0 : ∀ u, Holds F u → (Holds A u ↔ dot l.1 u = l.2) := fun u fu => ⟨fun au => au l hlA, fun du => by
    by_cases au : Holds A u
    · exact au
    · exfalso
      have bu := (cov u fu).resolve_left au
      have fw := holds_sum fu fy0 fx0
      have nw : ¬ Holds A (fun i => u i ^^ (y0 i ^^ x0 i)) := fun aw => by
        have := aw l hlA
        rw [dot_add, dot_add, du, hy] at this
        apply hld
        revert this
        cases l.2 <;> cases dot l.1 x0 <;> simp
      have bw := (cov _ fw).resolve_left nw
      have := holds_sum bw bu bx0
      exact by0 ((holds_congr fun i => by cases x0 i <;> cases y0 i <;> cases u i <;> rfl).mp this)⟩
  have inB0 : ∀ u, Holds F u → (Holds B u ↔ dot l.1 u = !l.2) := fun u fu => ⟨fun bu => by
    have : ¬ dot l.1 u = l.2 := fun du => disj u fu ((inA0 u fu).mpr du) bu
    revert this
    cases dot l.1 u <;> cases l.2 <;> simp, fun du => (cov u fu).resolve_left fun au => by
      have := (inA0 u fu).mp au
      rw [du] at this
      revert this
      cases l.2 <;> simp⟩
  have lt := led_lt (w := false) (fun l hl => (rF.pos l hl).2) l16
  have hs := led_heads (m := l.1) (w := false) rF
  have hw : ∀ x, Holds F x → dot (led F l.1 false).1 x = (dot l.1 x ^^ (led F l.1 false).2) := fun x hx => by
    have := led_worth (m := l.1) (w := false) hx
    revert this
    cases dot (led F l.1 false).1 x <;> cases dot l.1 x <;> cases (led F l.1 false).2 <;> simp
  have r0 : (led F l.1 false).1 ≠ 0 := fun z => by
    have h1 := hw x0 fx0
    have h2 := hw y0 fy0
    rw [z, dot_zero] at h1 h2
    rw [hy] at h2
    apply hld
    revert h1 h2
    cases dot l.1 x0 <;> cases l.2 <;> cases (led F l.1 false).2 <;> simp
  have inA : ∀ x, Holds F x → (Holds A x ↔ dot (led F l.1 false).1 x = (l.2 ^^ (led F l.1 false).2)) := fun x hx => by
    rw [inA0 x hx, hw x hx]
    cases dot l.1 x <;> cases l.2 <;> cases (led F l.1 false).2 <;> simp
  have inB : ∀ x, Holds F x → (Holds B x ↔ dot (led F l.1 false).1 x = !(l.2 ^^ (led F l.1 false).2)) := fun x hx => by
    rw [inB0 x hx, hw x hx]
    cases dot l.1 x <;> cases l.2 <;> cases (led F l.1 false).2 <;> simp
  generalize (led F l.1 false).1 = r at lt hs r0 inA inB
  generalize (l.2 ^^ (led F l.1 false).2) = w at inA inB
  cases oA with
  | none => exact absurd ay0 (sA.1 rfl y0 fy0)
  | some f =>
    cases oB with
    | none => exact absurd bx0 (sB.1 rfl x0 fx0)
    | some s =>
      obtain ⟨rf, hf⟩ := sA.2 f rfl
      obtain ⟨rs, hs'⟩ := sB.2 s rfl
      have ef : ∀ x, Holds f x ↔ Holds (put1 F r w) x := fun x => by
        rw [hf, put1_holds]
        exact and_congr_right fun hx => inA x hx
      have es : ∀ x, Holds s x ↔ Holds (put1 F r (!w)) x := fun x => by
        rw [hs', put1_holds]
        exact and_congr_right fun hx => inB x hx
      refine ⟨f, s, r, w, rfl, rfl, r0, lt, hs, ?_, ?_, ?_, ?_, ?_, inA, inB⟩
      · rw [len_eq rf (put1_rr rF r0 lt hs) ef, put1_len]
      · rw [len_eq rs (put1_rr rF r0 lt hs) es, put1_len]
      · rcases newRow_spec F f with ⟨_, h0⟩ | ⟨k, hk, e, hk0⟩
        · exfalso
          apply ax0
          have : Holds f x0 := fun k hk => by
            have hv : ∀ x, Holds F x → dot k.1 x = (led F k.1 false).2 := fun x hx => by
              have := led_worth (m := k.1) (w := false) hx
              rw [h0 k hk, dot_zero] at this
              simpa using this.symm
            rw [hv x0 fx0, ← hv y0 fy0]
            exact (hf y0).mpr ⟨fy0, ay0⟩ k hk
          exact ((hf x0).mp this).2
        · rw [e]
          refine one_row rF r0 lt hs hk0 (led_lt (fun l hl => (rF.pos l hl).2) (rf.pos k hk).2) (led_heads rF) (b := w) (w := k.2 ^^ (led F k.1 false).2) fun x hx hxw => ?_
          have h1 := led_worth (m := k.1) (w := false) hx
          have h2 : dot k.1 x = k.2 := (hf x).mpr ⟨hx, (inA x hx).mpr hxw⟩ k hk
          rw [h2] at h1
          revert h1
          cases dot (led F k.1 false).1 x <;> cases k.2 <;> cases (led F k.1 false).2 <;> simp
      · exact (told_some rf lt).mpr fun x hx => (put1_holds.mp ((ef x).mp hx)).2
      · exact (told_some rs lt).mpr fun x hx => (put1_holds.mp ((es x).mp hx)).2
/-- the rows that cut so: one alone -/
theorem Cut.only {F A B f s : List Ln} {r : Nat} {w : Bool} (rF : Rr F) (c : Cut F A B f s r w) {t : Nat} (t0 : t ≠ 0) (t1 : t < 2 ^ 16) (tf : ∀ l ∈ F, t.testBit (hd l.1) = false) :
    (∃ v : Bool, (∀ x, Holds F x → dot t x = v → Holds A x) ∧ (∀ x, Holds F x → dot t x = !v → Holds B x)) ↔ t = r := by
  constructor
  · intro ⟨v, h1, _⟩
    exact (one_row rF t0 t1 tf c.r0 c.r1 c.rf (b := v) (w := w) fun x hx hd => (c.inA x hx).mp (h1 x hx hd)).symm
  · intro e
    subst e
    exact ⟨w, fun x hx hd => (c.inA x hx).mpr hd, fun x hx hd => (c.inB x hx).mpr hd⟩
/-- what the program finds lies in both together -/
theorem found_cov {F A B f s : List Ln} (rF : Rr F) (rA : Rr A) (rB : Rr B) (mA : Meet F A (some f)) (mB : Meet F B (some s)) (lf : f.length = F.length + 1) (ls : s.length = F.length + 1) {v : Bool}
    (ts : told s (newRow F f) = some v) (tf : told f (newRow F f) ≠ some v) : ∀ x, Holds F x → Holds A x ∨ Holds B x := by
  obtain ⟨rf, hf⟩ := (mA.sem rF fun l hl => (rA.pos l hl).2).2 f rfl
  obtain ⟨rs, hs⟩ := (mB.sem rF fun l hl => (rB.pos l hl).2).2 s rfl
  rcases newRow_spec F f with ⟨e, _⟩ | ⟨k, hk, e, hk0⟩
  · exfalso
    rw [e] at ts tf
    have h1 := (told_some rs (by decide)).mp ts
    obtain ⟨x, hx⟩ := rs.pt
    have := h1 x hx
    rw [dot_zero] at this
    apply tf
    refine (told_some rf (by decide)).mpr fun x _ => ?_
    rw [dot_zero]; exact this
  · rw [e] at ts tf
    have k16 := (rf.pos k hk).2
    have lt := led_lt (w := false) (fun l hl => (rF.pos l hl).2) k16
    have hh := led_heads (m := k.1) (w := false) rF
    have tf2 : ∀ x, Holds f x → dot (led F k.1 false).1 x = (k.2 ^^ (led F k.1 false).2) := fun x hx => by
      have h1 := led_worth (m := k.1) (w := false) ((hf x).mp hx).1
      rw [hx k hk] at h1
      revert h1
      cases dot (led F k.1 false).1 x <;> cases k.2 <;> cases (led F k.1 false).2 <;> simp
    have ne : (k.2 ^^ (led F k.1 false).2) ≠ v := fun z => tf ((told_some rf lt).mpr fun x hx => (tf2 x hx).trans z)
    have ts2 := (told_some rs lt).mp ts
    have w1 := within_eq rf (put1_rr (b := (k.2 ^^ (led F k.1 false).2)) rF hk0 lt hh) (fun x hx => put1_holds.mpr ⟨((hf x).mp hx).1, tf2 x hx⟩) (by rw [lf, put1_len])
    have w2 := within_eq rs (put1_rr (b := v) rF hk0 lt hh) (fun x hx => put1_holds.mpr ⟨((hs x).mp hx).1, ts2 x hx⟩) (by rw [ls, put1_len])
    intro x hx
    by_cases d : dot (led F k.1 false).1 x = v
    · exact .inr ((hs x).mp (w2 x (put1_holds.mpr ⟨hx, d⟩))).2
    · refine .inl ((hf x).mp (w1 x (put1_holds.mpr ⟨hx, ?_⟩))).2
      revert d ne
      cases dot (led F k.1 false).1 x <;> cases v <;> cases (k.2 ^^ (led F k.1 false).2) <;> simp
end FL

/-! PB1: rows, lines and flats as data. -/
namespace DL
open PySem L2 FL
def bitsOf (m : Nat) : List Nat := (List.range 16).filter fun i => m.testBit i
def intsOfN (l : List Nat) : List Int := l.map fun (i : Nat) => (i : Int)
def natsD (l : List Nat) : List PyData := l.map fun (i : Nat) => PyData.int (i : Int)
def rowD (m : Nat) : PyData := .tuple (natsD (bitsOf m))
def bitD (b : Bool) : PyData := .int (if b then 1 else 0)
def lineD (l : Ln) : PyData := .tuple [rowD l.1, bitD l.2]
def flatD (F : List Ln) : PyData := .tuple (F.map lineD)
theorem natsD_eq (l : List Nat) : natsD l = (intsOfN l).map .int := by unfold natsD intsOfN; rw [List.map_map]; rfl
theorem mem_bits {m i : Nat} : i ∈ bitsOf m ↔ i < 16 ∧ m.testBit i = true := by unfold bitsOf; rw [List.mem_filter, List.mem_range]
theorem bits_sorted (m : Nat) : (bitsOf m).Pairwise (· < ·) := List.Pairwise.filter _ List.pairwise_lt_range
theorem bits_nodup (m : Nat) : (bitsOf m).Nodup := (bits_sorted m).imp fun h => Nat.ne_of_lt h
theorem bits_len (m : Nat) : (bitsOf m).length ≤ 16 := by
  have := List.length_filter_le (fun i => m.testBit i) (List.range 16)
  rw [List.length_range] at this
  exact this
theorem rowD_zero : rowD 0 = .tuple [] := by
  have : bitsOf 0 = [] := by unfold bitsOf; simp
  unfold rowD
  rw [this]
  rfl
theorem bits_cons {m : Nat} (h0 : m ≠ 0) (h1 : m < 2 ^ 16) : ∃ r, bitsOf m = hd m :: r := by
  obtain ⟨a, b, c⟩ := hd_some h0 h1
  have hm : hd m ∈ bitsOf m := mem_bits.mpr ⟨b, a⟩
  cases e : bitsOf m with
  | nil => rw [e] at hm; cases hm
  | cons x r =>
    refine ⟨r, ?_⟩
    have hx : x ∈ bitsOf m := by rw [e]; exact List.mem_cons_self ..
    have hx' := mem_bits.mp hx
    have hle : hd m ≤ x := by
      rcases Nat.lt_or_ge x (hd m) with w | w
      · rw [c x w] at hx'; cases hx'.2
      · exact w
    have hs := bits_sorted m
    rw [e] at hs hm
    rcases List.mem_cons.mp hm with w | w
    · rw [w]
    · have := (List.pairwise_cons.mp hs).1 _ w
      omega
theorem row_head {m : Nat} (h0 : m ≠ 0) (h1 : m < 2 ^ 16) : ixX (rowD m) (.int 0) = some (.int (hd m : Nat)) := by
  obtain ⟨r, e⟩ := bits_cons h0 h1
  show atI (natsD (bitsOf m)) 0 = _
  rw [e]
  exact atI_0
theorem natsD_nc {l : List Nat} (h : ∀ i ∈ l, i < 1000000) : NcL 0 l.length (natsD l) := by
  rw [natsD_eq]
  have := NcL.ints' (xs := intsOfN l) fun i hi => by
    obtain ⟨n, hn, rfl⟩ := List.mem_map.mp hi
    have := h n hn
    omega
  unfold intsOfN at this
  rw [List.length_map] at this
  exact this
theorem rowD_nc (m : Nat) : Nc 1 16 (rowD m) := (natsD_nc fun i hi => by have := (mem_bits.mp hi).1; omega).tup.le (by decide) (bits_len m)
theorem bitD_nc (b : Bool) : Nc 0 0 (bitD b) := by unfold bitD; cases b <;> exact Nc.int (by decide)
theorem lineD_nc (l : Ln) : Nc 2 18 (lineD l) := (NcL.cons (rowD_nc l.1) (NcL.cons (bitD_nc l.2) NcL.nil)).tup.le (by decide) (by decide)
theorem linesD_nc (F : List Ln) : NcL 2 (19 * F.length) (F.map lineD) := by
  have := NcL.of (ds := F.map lineD) (D := 2) (W := 18) fun d hd => by
    obtain ⟨l, _, rfl⟩ := List.mem_map.mp hd
    exact lineD_nc l
  rw [List.length_map] at this
  exact this
theorem flatD_nc (F : List Ln) : Nc 3 (19 * F.length) (flatD F) := (linesD_nc F).tup
theorem eqv_nat_zero (l : List Nat) : PyData.eqvAll (natsD l) [] = decide (l = []) := by
  cases l with
  | nil => rfl
  | cons x r => simp [natsD, PyData.eqvAll]
theorem bits_nil {m : Nat} (h : m < 2 ^ 16) : bitsOf m = [] ↔ m = 0 := by
  constructor
  · intro e
    by_cases h0 : m = 0
    · exact h0
    · obtain ⟨r, e'⟩ := bits_cons h0 h
      rw [e] at e'; cases e'
  · intro e
    subst e
    unfold bitsOf; simp
theorem shaped_nil : SeqAt.shaped (.tuple []) = true := by simp [SeqAt.shaped, PyData.canLay0, PyData.canLayAll0, PyData.depth, PyData.depthAll]
theorem eqD_row_nil {m : Nat} (h : m < 2 ^ 16) : eqD (rowD m) (.tuple []) = some (.bool (decide (m = 0))) := by
  show (if SeqAt.shaped (rowD m) = true ∧ SeqAt.shaped (.tuple []) = true then some (PyData.bool (PyData.eqv (rowD m) (.tuple []))) else none) = _
  rw [if_pos ⟨(rowD_nc m).shaped (by decide), shaped_nil⟩]
  unfold rowD
  simp only [PyData.eqv, eqv_nat_zero]
  congr 2
  simp only [decide_eq_decide]
  exact bits_nil h
theorem neD_row_nil {m : Nat} (h : m < 2 ^ 16) : neD (rowD m) (.tuple []) = some (.bool (!decide (m = 0))) := by
  show (if SeqAt.shaped (rowD m) = true ∧ SeqAt.shaped (.tuple []) = true then some (PyData.bool (!PyData.eqv (rowD m) (.tuple []))) else none) = _
  rw [if_pos ⟨(rowD_nc m).shaped (by decide), shaped_nil⟩]
  unfold rowD
  simp only [PyData.eqv, eqv_nat_zero]
  congr 3
  simp only [decide_eq_decide]
  exact bits_nil h
theorem hasDict_int (i : Int) : (PyData.int i).hasDict = false := by simp [PyData.hasDict]
theorem any_nats (l : List Nat) (i : Nat) : ((natsD l).any fun z => PyData.eqv z (.int (i : Int))) = decide (i ∈ l) := by
  unfold natsD
  rw [List.any_map]
  induction l with
  | nil => simp
  | cons x r ih =>
    rw [List.any_cons, ih]
    simp only [Function.comp, PyData.eqv]
    by_cases e : i = x
    · subst e; simp
    · have e2 : ((x : Int) == (i : Int)) = false := by simp; omega
      rw [e2]
      simp [e]
theorem in_nats {l : List Nat} {i : Nat} (h : ∀ i ∈ l, i < 1000000) : inX (.int (i : Int)) (.tuple (natsD l)) = some (.bool (decide (i ∈ l))) ∧ ninX (.int (i : Int)) (.tuple (natsD l)) = some (.bool (!decide (i ∈ l))) ∧
    inX (.int (i : Int)) (.list (natsD l)) = some (.bool (decide (i ∈ l))) ∧ ninX (.int (i : Int)) (.list (natsD l)) = some (.bool (!decide (i ∈ l))) := by
  have hl := natsD_nc h
  have c : (PyData.int (i : Int)).hasDict = false ∧ PyData.hasDictAll (natsD l) = false ∧ SeqAt.shaped (.int (i : Int)) = true ∧ PyData.canLayAll0 (natsD l) = true := ⟨hasDict_int _, PyData.hasDictAll_of_canLayAll _ hl.lay, shaped_int _, hl.lay⟩
  have e1 : inD (.int (i : Int)) (.tuple (natsD l)) = some (.bool (inData (.int (i : Int)) (natsD l))) := by show (if _ then _ else none) = _; rw [if_pos c]
  have e2 : ninD (.int (i : Int)) (.tuple (natsD l)) = some (.bool (!inData (.int (i : Int)) (natsD l))) := by show (if _ then _ else none) = _; rw [if_pos c]
  have e3 : inD (.int (i : Int)) (.list (natsD l)) = some (.bool (inData (.int (i : Int)) (natsD l))) := by show (if _ then _ else none) = _; rw [if_pos c]
  have e4 : ninD (.int (i : Int)) (.list (natsD l)) = some (.bool (!inData (.int (i : Int)) (natsD l))) := by show (if _ then _ else none) = _; rw [if_pos c]
  have e5 : inData (.int (i : Int)) (natsD l) = decide (i ∈ l) := any_nats l i
  rw [e5] at e1 e2 e3 e4
  exact ⟨e1, e2, e3, e4⟩
theorem in_row {m i : Nat} (h : m < 2 ^ 16) : inX (.int (i : Int)) (rowD m) = some (.bool (m.testBit i)) ∧ ninX (.int (i : Int)) (rowD m) = some (.bool (!m.testBit i)) := by
  have := in_nats (l := bitsOf m) (i := i) fun j hj => by have := (mem_bits.mp hj).1; omega
  have e : decide (i ∈ bitsOf m) = m.testBit i := by
    rw [Bool.eq_iff_iff, decide_eq_true_eq, mem_bits]
    exact ⟨fun h => h.2, fun hb => ⟨bit_lt h hb, hb⟩⟩
  rw [e] at this
  exact ⟨this.1, this.2.1⟩
/-! sorted -/
theorem sort_ints (ns : List Int) : sortX (.list (ns.map .int)) = some (.list ((isort ns).map .int)) := by
  show sortD (.list (ns.map .int)) = _
  simp only [sortD]
  have ok : SortOk (ns.map PyData.int) := by
    refine ⟨PySem.W.AllAlike.of fun a b => by simp [PySem.W.alike], PySem.W.Sortable.others fun a => ⟨by simp, by simp⟩, fun d hd => ?_⟩
    obtain ⟨i, _, rfl⟩ := List.mem_map.mp hd
    exact ⟨by simp [PyData.depth], hasDict_int i⟩
  rw [if_pos ok]
  have e := List.map_mergeSort (r := PySem.W.dataLe false fun n : Int => PyData.int n) (s := PySem.W.dataLe false fun d : PyData => d) (f := fun n => PyData.int n) (l := ns) (fun _ _ _ _ => rfl)
  rw [← e, PySem.W.dataLe_int (fun n : Int => n)]
  rfl
theorem alike_rows (a b : Nat) : PySem.W.alike (rowD a) (rowD b) = true := by
  unfold rowD
  rw [natsD_eq, natsD_eq]
  simp only [PySem.W.alike]
  exact PySem.W.alike_ints _ _
theorem alike_bits (a b : Bool) : PySem.W.alike (bitD a) (bitD b) = true := by unfold bitD; simp [PySem.W.alike]
theorem sort_lines (F : List Ln) : ∃ G : List Ln, G.Perm F ∧ sortX (.list (F.map lineD)) = some (.list (G.map lineD)) := by
  have e := List.map_mergeSort (r := PySem.W.dataLe false lineD) (s := PySem.W.dataLe false fun d : PyData => d) (f := lineD) (l := F) (fun _ _ _ _ => rfl)
  refine ⟨F.mergeSort (PySem.W.dataLe false lineD), List.mergeSort_perm _ _, ?_⟩
  show sortD (.list (F.map lineD)) = _
  simp only [sortD]
  have ok : SortOk (F.map lineD) := by
    refine ⟨PySem.W.AllAlike.of fun a b => ?_, PySem.W.Sortable.tuples fun a => ⟨_, _, rfl⟩, fun d hd => ?_⟩
    · unfold lineD
      simp only [PySem.W.alike, PySem.W.alikeAll, alike_rows, alike_bits, Bool.and_self]
    · obtain ⟨l, _, rfl⟩ := List.mem_map.mp hd
      have := lineD_nc l
      exact ⟨Nat.le_trans this.dep (by decide), PyData.hasDict_of_canLay _ this.lay⟩
  rw [if_pos ok, e]
theorem nodup_append_of {l m : List Nat} (h1 : l.Nodup) (h2 : m.Nodup) (h : ∀ a ∈ l, a ∉ m) : (l ++ m).Nodup := List.nodup_append.mpr ⟨h1, h2, fun a ha b hb z => h a ha (by rw [z]; exact hb)⟩
/-- two rows together -/
theorem plus_bits {a b : Nat} : isort (intsOfN ((bitsOf a).filter fun i => !b.testBit i) ++ intsOfN ((bitsOf b).filter fun i => !a.testBit i)) = intsOfN (bitsOf (a ^^^ b)) := by
  symm
  refine isort_eq ?_ ?_
  · unfold intsOfN
    rw [← List.map_append]
    refine List.Perm.map _ ?_
    refine (List.perm_ext_iff_of_nodup (bits_nodup _) (nodup_append_of ((bits_nodup a).filter _) ((bits_nodup b).filter _) fun i hi hj => ?_)).mpr fun i => ?_
    · have h1 := List.mem_filter.mp hi
      have h2 := mem_bits.mp (List.mem_filter.mp hj).1
      rw [h2.2] at h1
      cases h1.2
    · rw [List.mem_append, List.mem_filter, List.mem_filter, mem_bits, mem_bits, mem_bits, Nat.testBit_xor]
      cases a.testBit i <;> cases b.testBit i <;> simp
  · unfold intsOfN
    exact List.pairwise_map.mpr ((bits_sorted _).imp fun h => by omega)
end DL

/-! PB2: comprehensions and loops, once more. -/
namespace DL
open PySem L2 FL
theorem eLc_pure {vs : List Nat} {it : Es} {g : Gv} {q : Eq} {a : Ev} {ρ ρ0 : En} {ds : List PyData} (hit : it ρ = some (ds, ρ)) (hw : wipeE ρ vs = ρ0) (hm : mixE vs ρ ρ0 = ρ) (p : PyData → Bool) (f : PyData → PyData)
    (h : ∀ x ∈ ds, ∃ ρ1 ρ2, g x ρ0 = some ρ1 ∧ q ρ1 = some (p x, ρ2) ∧ (p x = true → ∃ ρ3, a ρ2 = some (f x, ρ3) ∧ wipeE ρ3 vs = ρ0) ∧ (p x = false → wipeE ρ2 vs = ρ0)) :
    eLc vs it g q a ρ = some (.list ((ds.filter p).map f), ρ) := by
  unfold eLc
  rw [hit]
  simp only [hw, lcD_pure p f ds h, hm]
/-- without a condition -/
theorem eLc_map {vs : List Nat} {it : Es} {g : Gv} {a : Ev} {ρ ρ0 : En} {ds : List PyData} (hit : it ρ = some (ds, ρ)) (hw : wipeE ρ vs = ρ0) (hm : mixE vs ρ ρ0 = ρ) (f : PyData → PyData)
    (h : ∀ x ∈ ds, ∃ ρ1 ρ3, g x ρ0 = some ρ1 ∧ a ρ1 = some (f x, ρ3) ∧ wipeE ρ3 vs = ρ0) :
    eLc vs it g qYes a ρ = some (.list (ds.map f), ρ) := by
  have := eLc_pure (q := qYes) hit hw hm (fun _ => true) f fun x hx => by
    obtain ⟨ρ1, ρ3, h1, h2, h3⟩ := h x hx
    exact ⟨ρ1, ρ1, h1, rfl, fun _ => ⟨ρ3, h2, h3⟩, fun z => (nomatch z)⟩
  rw [List.filter_eq_self.mpr (fun _ _ => rfl)] at this
  exact this
/-- typed items -/
theorem lcD_T {α : Type} {vs : List Nat} {g : Gv} {q : Eq} {a : Ev} {ρ0 : En} (enc : α → PyData) (p : α → Bool) (f : α → PyData) :
    ∀ (xs : List α), (∀ x ∈ xs, ∃ ρ1 ρ2, g (enc x) ρ0 = some ρ1 ∧ q ρ1 = some (p x, ρ2) ∧ (p x = true → ∃ ρ3, a ρ2 = some (f x, ρ3) ∧ wipeE ρ3 vs = ρ0) ∧ (p x = false → wipeE ρ2 vs = ρ0)) →
    lcD vs g q a (xs.map enc) ρ0 = some ((xs.filter p).map f, ρ0)
  | [], _ => rfl
  | x :: xs, h => by
    obtain ⟨ρ1, ρ2, h1, h2, h3, h4⟩ := h x (List.mem_cons_self ..)
    have ih := lcD_T enc p f xs fun y hy => h y (List.mem_cons_of_mem _ hy)
    rw [List.map_cons]
    unfold lcD
    rw [h1]
    simp only [h2]
    cases hp : p x with
    | true =>
      obtain ⟨ρ3, h5, h6⟩ := h3 hp
      simp only [h5, h6, ih, List.filter_cons, hp, if_true, List.map_cons]
    | false =>
      have h6 := h4 hp
      simp only [h6, ih, List.filter_cons, hp]
      rfl
theorem eLc_T {α : Type} {vs : List Nat} {it : Es} {g : Gv} {q : Eq} {a : Ev} {ρ ρ0 : En} (enc : α → PyData) (xs : List α) (hit : it ρ = some (xs.map enc, ρ)) (hw : wipeE ρ vs = ρ0) (hm : mixE vs ρ ρ0 = ρ) (p : α → Bool) (f : α → PyData)
    (h : ∀ x ∈ xs, ∃ ρ1 ρ2, g (enc x) ρ0 = some ρ1 ∧ q ρ1 = some (p x, ρ2) ∧ (p x = true → ∃ ρ3, a ρ2 = some (f x, ρ3) ∧ wipeE ρ3 vs = ρ0) ∧ (p x = false → wipeE ρ2 vs = ρ0)) :
    eLc vs it g q a ρ = some (.list ((xs.filter p).map f), ρ) := by
  unfold eLc
  rw [hit]
  simp only [hw, lcD_T enc p f xs h, hm]
theorem eLc_M {α : Type} {vs : List Nat} {it : Es} {g : Gv} {a : Ev} {ρ ρ0 : En} (enc : α → PyData) (xs : List α) (hit : it ρ = some (xs.map enc, ρ)) (hw : wipeE ρ vs = ρ0) (hm : mixE vs ρ ρ0 = ρ) (f : α → PyData)
    (h : ∀ x ∈ xs, ∃ ρ1 ρ3, g (enc x) ρ0 = some ρ1 ∧ a ρ1 = some (f x, ρ3) ∧ wipeE ρ3 vs = ρ0) :
    eLc vs it g qYes a ρ = some (.list (xs.map f), ρ) := by
  have := eLc_T (q := qYes) enc xs hit hw hm (fun _ => true) f fun x hx => by
    obtain ⟨ρ1, ρ3, h1, h2, h3⟩ := h x hx
    exact ⟨ρ1, ρ1, h1, rfl, fun _ => ⟨ρ3, h2, h3⟩, fun z => (nomatch z)⟩
  rw [List.filter_eq_self.mpr (fun _ _ => rfl)] at this
  exact this
/-- with changes: what comes out, and an invariant -/
theorem lcD_inv {vs : List Nat} {g : Gv} {q : Eq} {a : Ev} (I : List PyData → List PyData → En → Prop) (ds : List PyData)
    (step : ∀ (done : List PyData) (x : PyData) (rest out : List PyData) (ρ : En), ds = done ++ x :: rest → I done out ρ → ∃ ρ1 b ρ2, g x ρ = some ρ1 ∧ q ρ1 = some (b, ρ2) ∧
      (b = true → ∃ d ρ3, a ρ2 = some (d, ρ3) ∧ I (done ++ [x]) (out ++ [d]) (wipeE ρ3 vs)) ∧ (b = false → I (done ++ [x]) out (wipeE ρ2 vs))) :
    ∀ (rest done out : List PyData) (ρ : En), ds = done ++ rest → I done out ρ → ∃ more ρ', lcD vs g q a rest ρ = some (more, ρ') ∧ I ds (out ++ more) ρ'
  | [], done, out, ρ, e, h => ⟨[], ρ, rfl, by rw [e, List.append_nil, List.append_nil]; exact h⟩
  | x :: rest, done, out, ρ, e, h => by
    obtain ⟨ρ1, b, ρ2, h1, h2, h3, h4⟩ := step done x rest out ρ e h
    cases b with
    | true =>
      obtain ⟨d, ρ3, h5, h6⟩ := h3 rfl
      obtain ⟨more, ρ', h7, h8⟩ := lcD_inv I ds step rest (done ++ [x]) (out ++ [d]) _ (by rw [e, List.append_assoc]; rfl) h6
      refine ⟨d :: more, ρ', ?_, by rw [List.append_assoc] at h8; exact h8⟩
      unfold lcD
      rw [h1]
      simp only [h2, h5, h7]
    | false =>
      obtain ⟨more, ρ', h7, h8⟩ := lcD_inv I ds step rest (done ++ [x]) out _ (by rw [e, List.append_assoc]; rfl) (h4 rfl)
      refine ⟨more, ρ', ?_, h8⟩
      unfold lcD
      rw [h1]
      simp only [h2, h7]
/-- a loop that may end early: from the front -/
theorem forD_go {g : Gv} {ψ : Sv} {x : PyData} {xs : List PyData} {ρ ρ1 ρ2 : En} (h1 : g x ρ = some ρ1) (h2 : ψ ρ1 = some (.nx ρ2)) : forD g ψ (x :: xs) ρ = forD g ψ xs ρ2 := by
  conv => lhs; unfold forD
  rw [h1]
  simp only [h2]
theorem forD_ret {g : Gv} {ψ : Sv} {x : PyData} {xs : List PyData} {ρ ρ1 ρ2 : En} {d : PyData} (h1 : g x ρ = some ρ1) (h2 : ψ ρ1 = some (.ret d ρ2)) : forD g ψ (x :: xs) ρ = some (.ret d ρ2) := by
  conv => lhs; unfold forD
  rw [h1]
  simp only [h2]
theorem sFor_eq {it : Es} {g : Gv} {ψ : Sv} {ρ ρ0 : En} {ds : List PyData} (hi : it ρ = some (ds, ρ0)) : sFor it g ψ ρ = forD g ψ ds ρ0 := by
  unfold sFor
  rw [hi]
theorem seqOf_flat (F : List Ln) : seqOf (flatD F) = some (F.map lineD) := rfl
theorem seqOf_row (m : Nat) : seqOf (rowD m) = some (natsD (bitsOf m)) := rfl
theorem ixX_line0 (l : Ln) : ixX (lineD l) (.int 0) = some (rowD l.1) := by show atI [rowD l.1, bitD l.2] 0 = _; exact atI_0
theorem ixX_line1 (l : Ln) : ixX (lineD l) (.int 1) = some (bitD l.2) := by show atI [rowD l.1, bitD l.2] 1 = _; exact atI_1
theorem bit_add (a b : Bool) : ∃ c, addD (bitD a) (bitD b) = some (.int c) ∧ modD (.int c) (.int 2) = some (bitD (a ^^ b)) := by
  cases a <;> cases b <;> exact ⟨_, rfl, rfl⟩
def optD : Option Bool → PyData
  | none => .none
  | some b => bitD b
def oflD : Option (List Ln) → PyData
  | none => .none
  | some F => flatD F
theorem rr_len {F : List Ln} (r : Rr F) : F.length ≤ 16 := by
  have := nodup_len (l := F.map fun l => hd l.1) (m := List.range 16) r.nod fun a ha => by
    obtain ⟨l, hl, rfl⟩ := List.mem_map.mp ha
    exact List.mem_range.mpr (hd_some (r.pos l hl).1 (r.pos l hl).2).2.1
  rw [List.length_map, List.length_range] at this
  exact this
theorem eqD_bit (a b : Bool) : eqD (bitD a) (bitD b) = some (.bool (decide (a = b))) := by unfold bitD; rw [eqD_int]; cases a <;> cases b <;> rfl
theorem neD_bit (a b : Bool) : neD (bitD a) (bitD b) = some (.bool (!decide (a = b))) := by unfold bitD; rw [neD_int]; cases a <;> cases b <;> rfl
theorem optD_nc (o : Option Bool) : Nc 0 0 (optD o) := by
  cases o with
  | none => exact Nc.non
  | some b => exact bitD_nc b
theorem eqv_opt (a b : Option Bool) : PyData.eqv (optD a) (optD b) = decide (a = b) := by
  cases a with
  | none =>
    cases b with
    | none => simp [optD, PyData.eqv]
    | some b => simp [optD, bitD, PyData.eqv]
  | some a =>
    cases b with
    | none => simp [optD, bitD, PyData.eqv]
    | some b => cases a <;> cases b <;> simp [optD, bitD, PyData.eqv]
theorem eqD_opt (a b : Option Bool) : eqD (optD a) (optD b) = some (.bool (decide (a = b))) := by
  have h : eqD (optD a) (optD b) = (if SeqAt.shaped (optD a) = true ∧ SeqAt.shaped (optD b) = true then some (PyData.bool (PyData.eqv (optD a) (optD b))) else none) := by
    unfold eqD
    cases a <;> cases b <;> rfl
  rw [h, if_pos ⟨(optD_nc a).shaped (by decide), (optD_nc b).shaped (by decide)⟩, eqv_opt]
theorem neD_opt (a b : Option Bool) : neD (optD a) (optD b) = some (.bool (!decide (a = b))) := by
  have h : neD (optD a) (optD b) = (if SeqAt.shaped (optD a) = true ∧ SeqAt.shaped (optD b) = true then some (PyData.bool (!PyData.eqv (optD a) (optD b))) else none) := by
    unfold neD
    cases a <;> cases b <;> rfl
  rw [h, if_pos ⟨(optD_nc a).shaped (by decide), (optD_nc b).shaped (by decide)⟩, eqv_opt]
theorem isN_opt (a : Option Bool) : isN (optD a) .none = some (.bool (decide (a = none))) := by
  cases a with
  | none => rfl
  | some b => cases b <;> rfl
theorem isNotN_opt (a : Option Bool) : isNotN (optD a) .none = some (.bool (!decide (a = none))) := by
  cases a with
  | none => rfl
  | some b => cases b <;> rfl
theorem isN_ofl (a : Option (List Ln)) : isN (oflD a) .none = some (.bool a.isNone) := by cases a <;> rfl
theorem allD_bools (bs : List Bool) : allD (.list (bs.map .bool)) = some (.bool (bs.all id)) := by
  show (boolsOf (bs.map PyData.bool)).map _ = _
  rw [boolsOf_map]
  rfl
theorem ixX_t0 (x : PyData) (r : List PyData) : ixX (.tuple (x :: r)) (.int 0) = some x := by show atI (x :: r) 0 = _; exact atI_0
theorem ixX_t1 (x y : PyData) (r : List PyData) : ixX (.tuple (x :: y :: r)) (.int 1) = some y := by show atI (x :: y :: r) 1 = _; exact atI_1
theorem ixX_t2 (x y z : PyData) (r : List PyData) : ixX (.tuple (x :: y :: z :: r)) (.int 2) = some z := by show atI (x :: y :: z :: r) 2 = _; exact atI_2
theorem ixX_l0 (x : PyData) (r : List PyData) : ixX (.list (x :: r)) (.int 0) = some x := by show atI (x :: r) 0 = _; exact atI_0
theorem ixX_l1 (x y : PyData) (r : List PyData) : ixX (.list (x :: y :: r)) (.int 1) = some y := by show atI (x :: y :: r) 1 = _; exact atI_1
theorem sFor_T {α : Type} (enc : α → PyData) (xs : List α) {it : Es} {g : Gv} {ψ : Sv} {ρ ρ0 : En} (hi : it ρ = some (xs.map enc, ρ0)) (I : List α → En → Prop) (h0 : I [] ρ0)
    (step : ∀ (done : List α) (x : α) (rest : List α) (ρ : En), xs = done ++ x :: rest → I done ρ → ∃ ρ1 ρ2, g (enc x) ρ = some ρ1 ∧ ψ ρ1 = some (.nx ρ2) ∧ I (done ++ [x]) ρ2) :
    ∃ ρ', sFor it g ψ ρ = some (.nx ρ') ∧ I xs ρ' := by
  rw [sFor_eq hi]
  have key : ∀ (rest done : List α) (ρ : En), xs = done ++ rest → I done ρ → ∃ ρ', forD g ψ (rest.map enc) ρ = some (.nx ρ') ∧ I xs ρ' := by
    intro rest
    induction rest with
    | nil => intro done ρ e h; exact ⟨ρ, rfl, by rw [e, List.append_nil]; exact h⟩
    | cons x rest ih =>
      intro done ρ e h
      obtain ⟨ρ1, ρ2, h1, h2, h3⟩ := step done x rest ρ e h
      obtain ⟨ρ', h4, h5⟩ := ih (done ++ [x]) ρ2 (by rw [e, List.append_assoc]; rfl) h3
      exact ⟨ρ', by rw [List.map_cons, forD_go h1 h2]; exact h4, h5⟩
  exact key xs [] ρ0 rfl h0
/-- the lines of a flat while a line is put in -/
def putL (m : Nat) (b : Bool) (dn : List Ln) : List PyData := (put1 dn m b).map lineD
theorem putL_nil (m : Nat) (b : Bool) : putL m b [] = [.tuple [rowD m, bitD b]] := rfl
theorem putL_len (m : Nat) (b : Bool) (dn : List Ln) : (putL m b dn).length = dn.length + 1 := by unfold putL; rw [List.length_map, put1_len]
theorem putL_t {m : Nat} {b : Bool} {dn : List Ln} {l : Ln} (h : l.1.testBit (hd m) = true) : putL m b (dn ++ [l]) = putL m b dn ++ [.tuple [rowD (l.1 ^^^ m), bitD (l.2 ^^ b)]] := by
  unfold putL put1
  rw [List.map_append, List.map_cons, List.map_cons, List.map_append]
  simp [h, lineD]
theorem putL_f {m : Nat} {b : Bool} {dn : List Ln} {l : Ln} (h : l.1.testBit (hd m) = false) : putL m b (dn ++ [l]) = putL m b dn ++ [.tuple [rowD l.1, bitD l.2]] := by
  unfold putL put1
  rw [List.map_append, List.map_cons, List.map_cons, List.map_append]
  simp [h, lineD]
theorem app_ok {xs : List PyData} {y : PyData} (h : xs.length < 16777216) : appD xs [y] = some (xs ++ [y]) := by
  show (if _ then _ else none) = _
  rw [if_pos h]
theorem flat_lines (F : List Ln) : DL.flatBs (F.map lineD) = true := by
  have hn : ∀ l : List Nat, DL.flatBs (natsD l) = true := fun l => by
    induction l with
    | nil => rfl
    | cons x r ih => show (DL.flatB (.int x) && DL.flatBs (natsD r)) = true; rw [ih]; rfl
  induction F with
  | nil => rfl
  | cons l F ih =>
    show (DL.flatB (.tuple [rowD l.1, bitD l.2]) && DL.flatBs (F.map lineD)) = true
    rw [ih, Bool.and_true]
    show (DL.flatB (.tuple (natsD (bitsOf l.1))) && (DL.flatB (bitD l.2) && true)) = true
    show (DL.flatBs (natsD (bitsOf l.1)) && (DL.flatB (bitD l.2) && true)) = true
    rw [hn]
    rfl
theorem flat_flat (F : List Ln) : DL.flatB (flatD F) = true := flat_lines F
end DL

/-! PB3: the law's room of all bits. -/
namespace DL
open PySem L2 FL
/-- the numbers of the bits at which an unknown is 1 -/
def colN (n u : Nat) : Nat := (List.range (2 ^ u)).foldl (fun f at' => f ||| ((2 ^ (2 ^ (n - 1 - u)) - 1) * 2 ^ (2 ^ (n - 1 - u))) * 2 ^ (2 * 2 ^ (n - 1 - u) * at')) 0
def colsN (n : Nat) : List Nat := (List.range n).map (colN n)
def roomD (n : Nat) : PyData := .tuple [.int (n : Nat), .int ((2 ^ (2 ^ n) - 1 : Nat) : Int), .tuple (natsD (colsN n))]
def ptN (n k : Nat) : Pt := fun u => k.testBit (n - 1 - u)
theorem col_bits : ∀ n < 8, ∀ u < n, ∀ k < 2 ^ n, (colN n u).testBit k = k.testBit (n - 1 - u) := by decide +kernel
theorem col_lt : ∀ n < 8, ∀ u < n, colN n u < 2 ^ (2 ^ n) := by decide +kernel
end DL

/-! PB4: operations on bits. -/
namespace DL
open PySem L2 FL
theorem nat_xor_and : ∀ (n a b : Nat), a < 2 ^ n → b < 2 ^ n → (a ^^^ b) + 2 * (a &&& b) = a + b
  | 0, a, b, ha, hb => by
    have h1 : a = 0 := by simpa using ha
    have h2 : b = 0 := by simpa using hb
    subst h1 h2
    rfl
  | n + 1, a, b, ha, hb => by
    have ih := nat_xor_and n (a / 2) (b / 2) (by rw [Nat.pow_succ] at ha; omega) (by rw [Nat.pow_succ] at hb; omega)
    have h1 : (a ^^^ b) / 2 = a / 2 ^^^ b / 2 := Nat.xor_div_two
    have h2 : (a &&& b) / 2 = a / 2 &&& b / 2 := Nat.and_div_two
    have h3 : (a ^^^ b) % 2 = 1 ↔ ¬(a % 2 = 1 ↔ b % 2 = 1) := Nat.xor_mod_two_eq_one
    have h4 : (a &&& b) % 2 = 1 ↔ a % 2 = 1 ∧ b % 2 = 1 := Nat.and_mod_two_eq_one
    rw [← h1, ← h2] at ih
    omega
theorem and_nn (a b : Nat) : Builtin.bitAnd (a : Int) (b : Int) = ((a &&& b : Nat) : Int) := PySem.W.os_band a b
theorem xor_nn (a b : Nat) : Builtin.bitXor (a : Int) (b : Int) = ((a ^^^ b : Nat) : Int) := by
  rw [PyProof.Rows.bitXor_and, and_nn]
  have hp : ∀ x : Nat, x < 2 ^ (a + b + 1) ↔ x < 2 ^ (a + b + 1) := fun _ => Iff.rfl
  have ha : a < 2 ^ (a + b + 1) := Nat.lt_of_lt_of_le Nat.lt_two_pow_self (Nat.pow_le_pow_right (by decide) (by omega))
  have hb : b < 2 ^ (a + b + 1) := Nat.lt_of_lt_of_le Nat.lt_two_pow_self (Nat.pow_le_pow_right (by decide) (by omega))
  have := nat_xor_and (a + b + 1) a b ha hb
  omega
theorem or_nn (a b : Nat) : Builtin.bitOr (a : Int) (b : Int) = ((a ||| b : Nat) : Int) := by
  rw [bitOr_nn (by omega) (by omega), Int.toNat_natCast, Int.toNat_natCast]
theorem xorD_nn (a b : Nat) : xorD (.int (a : Int)) (.int (b : Int)) = some (.int ((a ^^^ b : Nat) : Int)) := by
  show some (PyData.int (Builtin.bitXor (a : Int) (b : Int))) = _
  rw [xor_nn]
theorem andD_nn (a b : Nat) : andD (.int (a : Int)) (.int (b : Int)) = some (.int ((a &&& b : Nat) : Int)) := by
  show some (PyData.int (Builtin.bitAnd (a : Int) (b : Int))) = _
  rw [and_nn]
theorem orD_nn (a b : Nat) : orD (.int (a : Int)) (.int (b : Int)) = some (.int ((a ||| b : Nat) : Int)) := by
  show some (PyData.int (Builtin.bitOr (a : Int) (b : Int))) = _
  rw [or_nn]
theorem shr_nn (a h : Nat) : shrD (.int (a : Int)) (.int (h : Int)) = some (.int ((a >>> h : Nat) : Int)) := by
  show ((if 0 ≤ (h : Int) then some ((a : Int) / 2 ^ (h : Int).toNat) else none).map PyData.int) = _
  rw [if_pos (by omega), Int.toNat_natCast, Nat.shiftRight_eq_div_pow]
  simp
/-- mask >> at & 1 == 1 -/
theorem bit_test (a h : Nat) : ∃ c, andD (.int ((a >>> h : Nat) : Int)) (.int 1) = some (.int c) ∧ eqD (.int c) (.int 1) = some (.bool (a.testBit h)) := by
  refine ⟨_, andD_nn (a >>> h) 1, ?_⟩
  rw [eqD_int]
  congr 2
  have : (a >>> h &&& 1) = (a.testBit h).toNat := by
    rw [Nat.testBit, Nat.and_comm]
    have := Nat.one_and_eq_mod_two (a >>> h)
    rw [this]
    rcases Nat.mod_two_eq_zero_or_one (a >>> h) with w | w <;> rw [w] <;> rfl
  rw [this]
  cases a.testBit h <;> rfl
theorem shl_one {u : Nat} (h : u ≤ 1000) : shlX (.int 1) (.int (u : Int)) = some (.int ((2 ^ u : Nat) : Int)) := by
  show ((if 0 ≤ (u : Int) ∧ (Builtin.Int.intBits 1 : Int) + (u : Int) ≤ 2 ^ 27 then some ((1 : Int) * 2 ^ (u : Int).toNat) else none).map PyData.int) = _
  rw [if_pos ⟨by omega, by have : Builtin.Int.intBits 1 = 1 := by decide
                           rw [this]; omega⟩, Int.toNat_natCast]
  simp
theorem dotN_fold (m : Nat) (x : Pt) : ∀ k, dotN k m x = ((List.range k).filter fun i => m.testBit i).foldl (fun b u => b ^^ x u) false
  | 0 => rfl
  | k + 1 => by
    rw [List.range_succ, List.filter_append, List.foldl_append, ← dotN_fold m x k]
    show (dotN k m x ^^ (m.testBit k && x k)) = _
    cases e : m.testBit k with
    | true => simp [List.filter_cons, e]
    | false => simp [List.filter_cons, e]
theorem dot_fold (m : Nat) (x : Pt) : dot m x = (bitsOf m).foldl (fun b u => b ^^ x u) false := dotN_fold m x 16
/-- the least unknown, by the law's own way -/
theorem low_bit {m : Nat} (h0 : m ≠ 0) (h1 : m < 2 ^ 16) : Builtin.bitAnd (m : Int) (-(m : Int)) = ((2 ^ hd m : Nat) : Int) := by
  obtain ⟨a, b, c⟩ := hd_some h0 h1
  have hm : m = 2 ^ hd m * (2 * (m / 2 ^ hd m / 2) + 1) := by
    have e1 : m % 2 ^ hd m = 0 := by
      refine Nat.eq_of_testBit_eq fun i => ?_
      rw [Nat.testBit_mod_two_pow, Nat.zero_testBit]
      by_cases w : i < hd m
      · rw [c i w]; simp
      · simp [w]
    have e2 : m / 2 ^ hd m % 2 = 1 := by
      rw [Nat.testBit_eq_decide_div_mod_eq] at a
      simpa using a
    have e3 := Nat.div_add_mod m (2 ^ hd m)
    have e4 : m / 2 ^ hd m = 2 * (m / 2 ^ hd m / 2) + 1 := by omega
    rw [e1, Nat.add_zero] at e3
    rw [← e4]
    exact e3.symm
  have := PySem.W.kbt_low (hd m) ((m / 2 ^ hd m / 2 : Nat) : Int)
  have e : (m : Int) = 2 ^ hd m * (2 * ((m / 2 ^ hd m / 2 : Nat) : Int) + 1) := by
    have := congrArg (fun z : Nat => (z : Int)) hm
    simpa using this
  rw [← e] at this
  rw [this]
  simp
theorem bits_pow (k : Nat) : Builtin.Int.intBits ((2 ^ k : Nat) : Int) = k + 1 := by
  unfold Builtin.Int.intBits
  have h : (2 : Nat) ^ k ≠ 0 := Nat.pos_iff_ne_zero.mp (Nat.two_pow_pos k)
  rw [if_neg (fun z => h (by have : ((2 ^ k : Nat) : Int) = 0 := by simpa using z
                             omega)), Int.natAbs_natCast, Nat.log2_two_pow]
end DL

/-! PB5: numbers of bits at which lines hold. -/
namespace DL
open PySem L2 FL
theorem or_fold (i : Nat) : ∀ (l : List Nat) (f : Nat), (l.foldl (fun f u => f ||| 2 ^ u) f).testBit i = (f.testBit i || decide (i ∈ l))
  | [], f => by simp
  | u :: l, f => by
    rw [List.foldl_cons, or_fold i l, Nat.testBit_or, Nat.testBit_two_pow]
    by_cases e : u = i
    · subst e; simp
    · have : ¬ i = u := fun z => e z.symm
      simp [e, this]
theorem or_bits {m : Nat} (h : m < 2 ^ 16) : (bitsOf m).foldl (fun f u => f ||| 2 ^ u) 0 = m := by
  refine Nat.eq_of_testBit_eq fun i => ?_
  rw [or_fold, Nat.zero_testBit, Bool.false_or, Bool.eq_iff_iff, decide_eq_true_eq, mem_bits]
  exact ⟨fun h => h.2, fun hb => ⟨bit_lt h hb, hb⟩⟩
theorem bits_range {m : Nat} (h : m < 2 ^ 16) : (List.range (Builtin.Int.intBits (m : Int))).filter (fun i => m.testBit i) = bitsOf m ∧ Builtin.Int.intBits (m : Int) ≤ 16 := by
  have hn : Builtin.Int.intBits (m : Int) ≤ 16 ∧ m < 2 ^ Builtin.Int.intBits (m : Int) := by
    unfold Builtin.Int.intBits
    by_cases e : m = 0
    · subst e; exact ⟨by decide, by decide⟩
    · rw [if_neg (fun z => e (by have : ((m : Nat) : Int) = 0 := by simpa using z
                                 omega)), Int.natAbs_natCast]
      exact ⟨by have := (Nat.log2_lt e).mpr h; omega, Nat.lt_log2_self⟩
  refine ⟨?_, hn.1⟩
  unfold bitsOf
  obtain ⟨k, hk⟩ := Nat.exists_eq_add_of_le hn.1
  rw [hk, List.range_add, List.filter_append]
  rw [show (List.map (fun x => Builtin.Int.intBits (m : Int) + x) (List.range k)).filter (fun i => m.testBit i) = [] from List.filter_eq_nil_iff.mpr fun i hi => by
    obtain ⟨j, _, rfl⟩ := List.mem_map.mp hi
    rw [Nat.testBit_lt_two_pow (Nat.lt_of_lt_of_le hn.2 (Nat.pow_le_pow_right (by decide) (Nat.le_add_right _ _)))]
    decide]
  rw [List.append_nil]
def colX (n m : Nat) : Nat := (bitsOf m).foldl (fun f u => f ^^^ colN n u) 0
def fullN (n : Nat) : Nat := 2 ^ (2 ^ n) - 1
def heldN (n : Nat) (l : Ln) : Nat := if l.2 = true then colX n l.1 else fullN n ^^^ colX n l.1
def inN (n : Nat) (F : List Ln) : Nat := F.foldl (fun f l => f &&& heldN n l) (fullN n)
theorem bits_below {n m : Nat} (h : m < 2 ^ n) : ∀ u ∈ bitsOf m, u < n := fun u hu => by
  rcases Nat.lt_or_ge u n with c | c
  · exact c
  · have := (mem_bits.mp hu).2
    rw [Nat.testBit_lt_two_pow (Nat.lt_of_lt_of_le h (Nat.pow_le_pow_right (by decide) c))] at this
    cases this
theorem colX_bits {n : Nat} (hn : n < 8) {k : Nat} (hk : k < 2 ^ n) : ∀ (l : List Nat) (f : Nat) (b : Bool), (∀ u ∈ l, u < n) → f.testBit k = b → (l.foldl (fun f u => f ^^^ colN n u) f).testBit k = l.foldl (fun b u => b ^^ ptN n k u) b
  | [], f, b, _, h => h
  | u :: l, f, b, q, h => by
    rw [List.foldl_cons, List.foldl_cons]
    exact colX_bits hn hk l _ _ (fun v hv => q v (List.mem_cons_of_mem _ hv)) (by rw [Nat.testBit_xor, h, col_bits n hn u (q u (List.mem_cons_self ..)) k hk]; rfl)
theorem colX_lt {n : Nat} (hn : n < 8) : ∀ (l : List Nat) (f : Nat), (∀ u ∈ l, u < n) → f < 2 ^ (2 ^ n) → l.foldl (fun f u => f ^^^ colN n u) f < 2 ^ (2 ^ n)
  | [], f, _, h => h
  | u :: l, f, q, h => colX_lt hn l _ (fun v hv => q v (List.mem_cons_of_mem _ hv)) (Nat.xor_lt_two_pow h (col_lt n hn u (q u (List.mem_cons_self ..))))
theorem full_bit {n k : Nat} : (fullN n).testBit k = decide (k < 2 ^ n) := Nat.testBit_two_pow_sub_one ..
theorem held_bit {n : Nat} (hn : n < 8) {l : Ln} (hl : l.1 < 2 ^ n) {k : Nat} (hk : k < 2 ^ n) : (heldN n l).testBit k = decide (dot l.1 (ptN n k) = l.2) := by
  have h := colX_bits hn hk (bitsOf l.1) 0 false (bits_below hl) (Nat.zero_testBit _)
  rw [← dot_fold] at h
  unfold heldN
  cases e : l.2 with
  | true => rw [if_pos rfl]; show (colX n l.1).testBit k = _; unfold colX; rw [h]; cases dot l.1 (ptN n k) <;> rfl
  | false =>
    rw [if_neg (by decide), Nat.testBit_xor, full_bit]
    unfold colX
    rw [h]
    simp only [hk, decide_true]
    cases dot l.1 (ptN n k) <;> rfl
theorem held_lt {n : Nat} (hn : n < 8) {l : Ln} (hl : l.1 < 2 ^ n) : heldN n l < 2 ^ (2 ^ n) := by
  have h : colX n l.1 < 2 ^ (2 ^ n) := colX_lt hn (bitsOf l.1) 0 (bits_below hl) (Nat.two_pow_pos _)
  unfold heldN
  split
  · exact h
  · exact Nat.xor_lt_two_pow (by unfold fullN; have := Nat.two_pow_pos (2 ^ n); omega) h
theorem in_bits {n : Nat} (hn : n < 8) {k : Nat} (hk : k < 2 ^ n) : ∀ (F : List Ln) (f : Nat), (∀ l ∈ F, l.1 < 2 ^ n) → (F.foldl (fun f l => f &&& heldN n l) f).testBit k = (f.testBit k && F.all fun l => decide (dot l.1 (ptN n k) = l.2))
  | [], f, _ => by simp
  | l :: F, f, h => by
    rw [List.foldl_cons, in_bits hn hk F _ (fun j hj => h j (List.mem_cons_of_mem _ hj)), Nat.testBit_and, held_bit hn (h l (List.mem_cons_self ..)) hk, List.all_cons, Bool.and_assoc]
theorem in_bit {n : Nat} (hn : n < 8) {F : List Ln} (hF : ∀ l ∈ F, l.1 < 2 ^ n) {k : Nat} (hk : k < 2 ^ n) : (inN n F).testBit k = true ↔ Holds F (ptN n k) := by
  unfold inN
  rw [in_bits hn hk F _ hF, full_bit]
  simp only [hk, decide_true, Bool.true_and, List.all_eq_true, decide_eq_true_eq]
  exact Iff.rfl
theorem and_le {n : Nat} : ∀ (F : List Ln) (f : Nat), f < 2 ^ (2 ^ n) → F.foldl (fun f l => f &&& heldN n l) f < 2 ^ (2 ^ n)
  | [], f, h => h
  | l :: F, f, h => and_le F _ (Nat.lt_of_le_of_lt Nat.and_le_left h)
theorem in_lt {n : Nat} {F : List Ln} : inN n F < 2 ^ (2 ^ n) := and_le F _ (by unfold fullN; have := Nat.two_pow_pos (2 ^ n); omega)
/-- every point is a number of bits -/
theorem pt_of {n : Nat} (hn : n < 8) (x : Pt) : ∃ k, k < 2 ^ n ∧ ∀ m, m < 2 ^ n → dot m (ptN n k) = dot m x := by
  have key : ∀ j, j ≤ n → ∃ k, k < 2 ^ j ∧ ∀ i, i < j → k.testBit i = x (n - 1 - i) := by
    intro j
    induction j with
    | zero => intro _; exact ⟨0, by decide, fun i hi => absurd hi (by omega)⟩
    | succ j ih =>
      intro hj
      obtain ⟨k, hk, h⟩ := ih (by omega)
      cases e : x (n - 1 - j) with
      | false =>
        refine ⟨k, by rw [Nat.pow_succ]; omega, fun i hi => ?_⟩
        by_cases w : i = j
        · subst w; rw [e, Nat.testBit_lt_two_pow hk]
        · exact h i (by omega)
      | true =>
        refine ⟨2 ^ j + k, by rw [Nat.pow_succ]; omega, fun i hi => ?_⟩
        by_cases w : i = j
        · subst w; rw [e, Nat.testBit_two_pow_add_eq, Nat.testBit_lt_two_pow hk]; rfl
        · rw [Nat.testBit_two_pow_add_gt (by omega)]; exact h i (by omega)
  obtain ⟨k, hk, h⟩ := key n (Nat.le_refl _)
  refine ⟨k, hk, fun m hm => dot_congr fun i hi hb => ?_⟩
  have hin : i < n := by
    rcases Nat.lt_or_ge i n with c | c
    · exact c
    · rw [Nat.testBit_lt_two_pow (Nat.lt_of_lt_of_le hm (Nat.pow_le_pow_right (by decide) c))] at hb; cases hb
  show k.testBit (n - 1 - i) = x i
  rw [h _ (by omega)]
  congr 1
  omega
theorem bit_test3 (a h : Nat) : ∃ b c, shrD (.int (a : Int)) (.int (h : Int)) = some (.int b) ∧ andD (.int b) (.int 1) = some (.int c) ∧ eqD (.int c) (.int 1) = some (.bool (a.testBit h)) := by
  obtain ⟨c, h1, h2⟩ := bit_test a h
  exact ⟨_, c, shr_nn a h, h1, h2⟩
end DL

/-! PB6: all rows beside a flat; one flat in two, by numbers of bits. -/
namespace DL
open PySem L2 FL
def freeN (n : Nat) (F : List Ln) : List Nat := (List.range n).filter fun u => !decide (u ∈ F.map fun l => hd l.1)
def masksN (fr : List Nat) : List Nat := fr.foldl (fun ms u => ms ++ ms.map fun m => m ||| 2 ^ u) [0]
structure Msk (P : List Nat) (ms : List Nat) : Prop where
  nod : ms.Nodup
  mem : ∀ m, m ∈ ms ↔ ∀ i, m.testBit i = true → i ∈ P
  fst : ∃ t, ms = 0 :: t
  len : ms.length = 2 ^ P.length
theorem Msk.step {P ms : List Nat} (h : Msk P ms) {u : Nat} (hu : u ∉ P) : Msk (P ++ [u]) (ms ++ ms.map fun m => m ||| 2 ^ u) := by
  have nb : ∀ m ∈ ms, m.testBit u = false := fun m hm => by
    cases e : m.testBit u with
    | false => rfl
    | true => exact absurd ((h.mem m).mp hm u e) hu
  have bit : ∀ m i : Nat, (m ||| 2 ^ u).testBit i = (m.testBit i || decide (u = i)) := fun m i => by rw [Nat.testBit_or, Nat.testBit_two_pow]
  refine ⟨?_, fun m => ?_, ?_, ?_⟩
  · refine List.nodup_append.mpr ⟨h.nod, ?_, fun a ha b hb e => ?_⟩
    · refine List.pairwise_map.mpr (List.Pairwise.imp_of_mem (fun {a b} ha hb hne e => hne ?_) h.nod)
      refine Nat.eq_of_testBit_eq fun i => ?_
      have := congrArg (fun z => z.testBit i) e
      simp only [bit] at this
      by_cases w : u = i
      · subst w; rw [nb a ha, nb b hb]
      · simpa [w] using this
    · obtain ⟨c, _, rfl⟩ := List.mem_map.mp hb
      have h1 := nb a ha
      rw [e, bit] at h1
      simp at h1
  · rw [List.mem_append, List.mem_map]
    constructor
    · intro hm i hi
      rw [List.mem_append, List.mem_singleton]
      rcases hm with hm | ⟨c, hc, rfl⟩
      · exact .inl ((h.mem m).mp hm i hi)
      · rw [bit] at hi
        rcases Bool.or_eq_true_iff.mp hi with w | w
        · exact .inl ((h.mem c).mp hc i w)
        · exact .inr (of_decide_eq_true w).symm
    · intro hm
      cases e : m.testBit u with
      | false =>
        refine .inl ((h.mem m).mpr fun i hi => ?_)
        rcases List.mem_append.mp (hm i hi) with w | w
        · exact w
        · rw [List.mem_singleton.mp w, e] at hi; cases hi
      | true =>
        refine .inr ⟨m ^^^ 2 ^ u, (h.mem _).mpr fun i hi => ?_, ?_⟩
        · rw [Nat.testBit_xor, Nat.testBit_two_pow] at hi
          by_cases w : u = i
          · subst w; rw [e] at hi; simp at hi
          · rw [decide_eq_false w, Bool.xor_false] at hi
            rcases List.mem_append.mp (hm i hi) with z | z
            · exact z
            · exact absurd (List.mem_singleton.mp z).symm w
        · refine Nat.eq_of_testBit_eq fun i => ?_
          rw [bit, Nat.testBit_xor, Nat.testBit_two_pow]
          by_cases w : u = i
          · subst w; rw [e]; simp
          · simp [w]
  · obtain ⟨t, rfl⟩ := h.fst
    exact ⟨_, rfl⟩
  · rw [List.length_append, List.length_map, h.len, List.length_append, List.length_singleton, Nat.pow_succ]
    omega
theorem msk_fold : ∀ (fr P ms : List Nat), (P ++ fr).Nodup → Msk P ms → Msk (P ++ fr) (fr.foldl (fun ms u => ms ++ ms.map fun m => m ||| 2 ^ u) ms)
  | [], P, ms, _, h => by rw [List.append_nil]; exact h
  | u :: fr, P, ms, nd, h => by
    have hu : u ∉ P := fun z => (List.nodup_append.mp nd).2.2 u z u (List.mem_cons_self ..) rfl
    have := msk_fold fr (P ++ [u]) _ (by rw [List.append_assoc]; exact nd) (h.step hu)
    rw [List.append_assoc] at this
    exact this
theorem masks_ok {fr : List Nat} (nd : fr.Nodup) : Msk fr (masksN fr) := by
  have := msk_fold fr [] [0] nd ⟨by simp, fun m => ⟨fun h i hi => (by rw [List.mem_singleton.mp h, Nat.zero_testBit] at hi; cases hi), fun h => by
    rw [List.mem_singleton]
    exact Nat.eq_of_testBit_eq fun i => by
      rw [Nat.zero_testBit]
      cases e : m.testBit i with
      | false => rfl
      | true => exact absurd (h i e) (by simp)⟩, ⟨[], rfl⟩, rfl⟩
  exact this
theorem free_nodup (n : Nat) (F : List Ln) : (freeN n F).Nodup := (List.nodup_range).filter _
theorem free_mem {n : Nat} {F : List Ln} {u : Nat} : u ∈ freeN n F ↔ u < n ∧ ∀ l ∈ F, hd l.1 ≠ u := by
  unfold freeN
  rw [List.mem_filter, List.mem_range]
  simp only [Bool.not_eq_true', decide_eq_false_iff_not, List.mem_map, not_exists, not_and]
def besideN (n : Nat) (F : List Ln) : List Nat := (masksN (freeN n F)).tail
theorem beside_mem {n : Nat} (hn : n < 8) {F : List Ln} {m : Nat} : m ∈ besideN n F ↔ m ≠ 0 ∧ m < 2 ^ n ∧ ∀ l ∈ F, m.testBit (hd l.1) = false := by
  have k := masks_ok (free_nodup n F)
  obtain ⟨t, ht⟩ := k.fst
  have nd := k.nod
  unfold besideN
  rw [ht, List.tail_cons]
  rw [ht, List.nodup_cons] at nd
  have hm : m ∈ t ↔ m ≠ 0 ∧ m ∈ masksN (freeN n F) := by
    rw [ht, List.mem_cons]
    constructor
    · intro h; exact ⟨fun z => nd.1 (by rw [← z]; exact h), .inr h⟩
    · intro ⟨h1, h2⟩; exact h2.resolve_left h1
  rw [hm, k.mem]
  refine and_congr_right fun _ => ?_
  constructor
  · intro h
    refine ⟨?_, fun l hl => ?_⟩
    · by_cases c : m < 2 ^ n
      · exact c
      · exfalso
        obtain ⟨i, hi, hb⟩ := Nat.exists_ge_and_testBit_of_ge_two_pow (Nat.le_of_not_lt c)
        have := (free_mem.mp (h i hb)).1
        omega
    · cases e : m.testBit (hd l.1) with
      | false => rfl
      | true => exact absurd rfl ((free_mem.mp (h _ e)).2 l hl)
  · intro ⟨h1, h2⟩ i hi
    refine free_mem.mpr ⟨?_, fun l hl z => ?_⟩
    · rcases Nat.lt_or_ge i n with c | c
      · exact c
      · rw [Nat.testBit_lt_two_pow (Nat.lt_of_lt_of_le h1 (Nat.pow_le_pow_right (by decide) c))] at hi; cases hi
    · rw [← z, h2 l hl] at hi; cases hi
theorem beside_nodup (n : Nat) (F : List Ln) : (besideN n F).Nodup := by
  have k := masks_ok (free_nodup n F)
  obtain ⟨t, ht⟩ := k.fst
  have nd := k.nod
  unfold besideN
  rw [ht] at nd ⊢
  exact (List.nodup_cons.mp nd).2
/-- bits within bits -/
theorem sub_iff {a b : Nat} : a &&& b = a ↔ ∀ k, a.testBit k = true → b.testBit k = true := by
  constructor
  · intro h k hk
    have := congrArg (fun z => z.testBit k) h
    simp only [Nat.testBit_and, hk, Bool.true_and] at this
    exact this
  · intro h
    refine Nat.eq_of_testBit_eq fun k => ?_
    rw [Nat.testBit_and]
    cases e : a.testBit k with
    | false => rfl
    | true => rw [h k e]; rfl
theorem in_out {n : Nat} {F : List Ln} {k : Nat} (h : (inN n F).testBit k = true) : k < 2 ^ n := by
  rcases Nat.lt_or_ge k (2 ^ n) with c | c
  · exact c
  · rw [Nat.testBit_lt_two_pow (Nat.lt_of_lt_of_le in_lt (Nat.pow_le_pow_right (by decide) c))] at h; cases h
structure Fl (n : Nat) (F : List Ln) : Prop where
  rr : Rr F
  lt : ∀ l ∈ F, l.1 < 2 ^ n
theorem holds_pt {n : Nat} (hn : n < 8) (x : Pt) : ∃ k, k < 2 ^ n ∧ (∀ F : List Ln, (∀ l ∈ F, l.1 < 2 ^ n) → (Holds F (ptN n k) ↔ Holds F x)) ∧ ∀ m, m < 2 ^ n → dot m (ptN n k) = dot m x := by
  obtain ⟨k, hk, h⟩ := pt_of hn x
  exact ⟨k, hk, fun F hF => ⟨fun q l hl => (h l.1 (hF l hl)).symm.trans (q l hl), fun q l hl => (h l.1 (hF l hl)).trans (q l hl)⟩, h⟩
theorem sub_in {n : Nat} (hn : n < 8) {F A : List Ln} (hF : ∀ l ∈ F, l.1 < 2 ^ n) (hA : ∀ l ∈ A, l.1 < 2 ^ n) : inN n F &&& inN n A = inN n F ↔ ∀ x, Holds F x → Holds A x := by
  rw [sub_iff]
  constructor
  · intro h x hx
    obtain ⟨k, hk, e, _⟩ := holds_pt hn x
    exact (e A hA).mp ((in_bit hn hA hk).mp (h k ((in_bit hn hF hk).mpr ((e F hF).mpr hx))))
  · intro h k hk
    have k' := in_out hk
    exact (in_bit hn hA k').mpr (h _ ((in_bit hn hF k').mp hk))
theorem sub_or {n : Nat} (hn : n < 8) {F A B : List Ln} (hF : ∀ l ∈ F, l.1 < 2 ^ n) (hA : ∀ l ∈ A, l.1 < 2 ^ n) (hB : ∀ l ∈ B, l.1 < 2 ^ n) : inN n F &&& (inN n A ||| inN n B) = inN n F ↔ ∀ x, Holds F x → Holds A x ∨ Holds B x := by
  rw [sub_iff]
  constructor
  · intro h x hx
    obtain ⟨k, hk, e, _⟩ := holds_pt hn x
    have := h k ((in_bit hn hF hk).mpr ((e F hF).mpr hx))
    rw [Nat.testBit_or] at this
    rcases Bool.or_eq_true_iff.mp this with w | w
    · exact .inl ((e A hA).mp ((in_bit hn hA hk).mp w))
    · exact .inr ((e B hB).mp ((in_bit hn hB hk).mp w))
  · intro h k hk
    have k' := in_out hk
    rw [Nat.testBit_or, Bool.or_eq_true_iff]
    exact (h _ ((in_bit hn hF k').mp hk)).imp (in_bit hn hA k').mpr (in_bit hn hB k').mpr
theorem sub_half {n : Nat} (hn : n < 8) {F A : List Ln} (hF : ∀ l ∈ F, l.1 < 2 ^ n) (hA : ∀ l ∈ A, l.1 < 2 ^ n) {m : Nat} {b : Bool} (hm : m < 2 ^ n) :
    inN n F &&& heldN n (m, b) &&& inN n A = inN n F &&& heldN n (m, b) ↔ ∀ x, Holds F x → dot m x = b → Holds A x := by
  rw [sub_iff]
  constructor
  · intro h x hx hd
    obtain ⟨k, hk, e, d⟩ := holds_pt hn x
    refine (e A hA).mp ((in_bit hn hA hk).mp (h k ?_))
    rw [Nat.testBit_and, (in_bit hn hF hk).mpr ((e F hF).mpr hx), held_bit hn hm hk, d m hm, hd]
    simp
  · intro h k hk
    rw [Nat.testBit_and, Bool.and_eq_true_iff] at hk
    have k' := in_out hk.1
    have h2 := hk.2
    rw [held_bit hn hm k', decide_eq_true_eq] at h2
    exact (in_bit hn hA k').mpr (h _ ((in_bit hn hF k').mp hk.1) h2)
/-- a row cuts so, by numbers of bits -/
def cutsB (here mine its h0 h1 : Nat) : Bool := decide (h0 &&& mine = h0) && decide (h1 &&& its = h1)
def cutsN (n : Nat) (F A B : List Ln) (m : Nat) : Bool :=
  cutsB (inN n F) (inN n A) (inN n B) (inN n F &&& heldN n (m, false)) (inN n F &&& heldN n (m, true)) || cutsB (inN n F) (inN n A) (inN n B) (inN n F &&& heldN n (m, true)) (inN n F &&& heldN n (m, false))
theorem cuts_iff {n : Nat} (hn : n < 8) {F A B : List Ln} (hF : ∀ l ∈ F, l.1 < 2 ^ n) (hA : ∀ l ∈ A, l.1 < 2 ^ n) (hB : ∀ l ∈ B, l.1 < 2 ^ n) {m : Nat} (hm : m < 2 ^ n) :
    cutsN n F A B m = true ↔ ∃ v : Bool, (∀ x, Holds F x → dot m x = v → Holds A x) ∧ (∀ x, Holds F x → dot m x = !v → Holds B x) := by
  unfold cutsN cutsB
  rw [Bool.or_eq_true_iff, Bool.and_eq_true_iff, Bool.and_eq_true_iff, decide_eq_true_eq, decide_eq_true_eq, decide_eq_true_eq, decide_eq_true_eq, sub_half hn hF hA hm, sub_half hn hF hB hm, sub_half hn hF hA hm, sub_half hn hF hB hm]
  constructor
  · rintro (h | h)
    · exact ⟨false, h⟩
    · exact ⟨true, h⟩
  · rintro ⟨v, h⟩
    cases v with
    | false => exact .inl h
    | true => exact .inr h
theorem filter_one {l : List Nat} (nd : l.Nodup) {r : Nat} (hr : r ∈ l) {p : Nat → Bool} (h : ∀ m ∈ l, p m = true ↔ m = r) : l.filter p = [r] := by
  induction l with
  | nil => cases hr
  | cons a l ih =>
    rw [List.nodup_cons] at nd
    rw [List.filter_cons]
    by_cases e : a = r
    · subst e
      rw [if_pos ((h a (List.mem_cons_self ..)).mpr rfl)]
      congr 1
      refine List.filter_eq_nil_iff.mpr fun m hm hp => ?_
      have := (h m (List.mem_cons_of_mem _ hm)).mp hp
      rw [this] at hm
      exact nd.1 hm
    · rw [if_neg (fun z => e ((h a (List.mem_cons_self ..)).mp z))]
      exact ih nd.2 ((List.mem_cons.mp hr).resolve_left fun z => e z.symm) fun m hm => h m (List.mem_cons_of_mem _ hm)
end DL

/-! PB7: rows stay within the unknowns. -/
namespace DL
open PySem L2 FL
theorem led_ltn {n : Nat} : ∀ {F : List Ln} {m : Nat} {w : Bool}, (∀ l ∈ F, l.1 < 2 ^ n) → m < 2 ^ n → (led F m w).1 < 2 ^ n
  | [], _, _, _, h => h
  | l :: F, m, w, q, h => by
    have q' : ∀ k ∈ F, k.1 < 2 ^ n := fun k hk => q k (List.mem_cons_of_mem _ hk)
    unfold led
    split
    · exact led_ltn q' (Nat.xor_lt_two_pow h (q l (List.mem_cons_self ..)))
    · exact led_ltn q' h
theorem put1_ltn {n : Nat} {F : List Ln} {m : Nat} {b : Bool} (hF : ∀ l ∈ F, l.1 < 2 ^ n) (hm : m < 2 ^ n) : ∀ l ∈ put1 F m b, l.1 < 2 ^ n := fun l hl => by
  rcases List.mem_cons.mp hl with rfl | hl
  · exact hm
  · obtain ⟨k, hk, rfl⟩ := List.mem_map.mp hl
    split
    · exact Nat.xor_lt_two_pow (hF k hk) hm
    · exact hF k hk
theorem putIn_ltn {n : Nat} {F G : List Ln} {m : Nat} {b : Bool} (hF : ∀ l ∈ F, l.1 < 2 ^ n) (hm : m < 2 ^ n) (p : PutIn F m b (some G)) : ∀ l ∈ G, l.1 < 2 ^ n := by
  cases p with
  | same _ _ => exact hF
  | more _ h => exact fun l hl => put1_ltn hF (led_ltn hF hm) l (h.mem_iff.mp hl)
theorem meet_ltn {n : Nat} {F A : List Ln} {o : Option (List Ln)} (p : Meet F A o) : (∀ l ∈ F, l.1 < 2 ^ n) → (∀ l ∈ A, l.1 < 2 ^ n) → ∀ G, o = some G → ∀ l ∈ G, l.1 < 2 ^ n := by
  induction p with
  | nil => intro hF _ G e; cases e; exact hF
  | stop _ => intro _ _ G e; cases e
  | go h _ ih => intro hF hA; exact ih (putIn_ltn hF (hA _ (List.mem_cons_self ..)) h) fun k hk => hA k (List.mem_cons_of_mem _ hk)
theorem newRow_ltn {n : Nat} {F f : List Ln} (hF : ∀ l ∈ F, l.1 < 2 ^ n) (hf : ∀ l ∈ f, l.1 < 2 ^ n) : newRow F f < 2 ^ n := by
  rcases newRow_spec F f with ⟨e, _⟩ | ⟨l, hl, e, _⟩
  · rw [e]; exact Nat.two_pow_pos n
  · rw [e]; exact led_ltn hF (hf l hl)
end DL

/-! PB8: a dict of heads. -/
namespace DL
open PySem L2 FL
def entD (l : Ln) : PyData := .tuple [.int (l.1 : Nat), bitD l.2]
def dictK (G : List Ln) : List (PyData × PyData) := G.map fun l => (PyData.int (hd l.1 : Nat), entD l)
def dictD (G : List Ln) : PyData := .dict (dictK G)
theorem dict_get {G : List Ln} : (G.map fun l => hd l.1).Nodup → ∀ l ∈ G, getK (dictK G) (.inl (hd l.1 : Nat)) = some (entD l) := by
  induction G with
  | nil => intro _ l h; cases h
  | cons k G ih =>
    intro nd l hl
    rw [List.map_cons, List.nodup_cons] at nd
    show (if keyD (.int (hd k.1 : Nat)) = some (.inl (hd l.1 : Nat)) then some (entD k) else getK (dictK G) (.inl (hd l.1 : Nat))) = _
    rcases List.mem_cons.mp hl with rfl | hl
    · rw [if_pos (by rfl)]
    · rw [if_neg (fun z => ?_)]
      · exact ih nd.2 l hl
      · have z' : ((hd k.1 : Nat) : Int) = ((hd l.1 : Nat) : Int) := by
          have : (Sum.inl ((hd k.1 : Nat) : Int) : Key) = Sum.inl ((hd l.1 : Nat) : Int) := Option.some.inj z
          exact Sum.inl.inj this
        exact nd.1 (List.mem_map.mpr ⟨l, hl, by omega⟩)
theorem dict_not {G : List Ln} {h : Nat} : (∀ l ∈ G, hd l.1 ≠ h) → getK (dictK G) (.inl (h : Nat)) = none := by
  induction G with
  | nil => intro _; rfl
  | cons k G ih =>
    intro nd
    show (if keyD (.int (hd k.1 : Nat)) = some (.inl (h : Nat)) then some (entD k) else getK (dictK G) (.inl (h : Nat))) = _
    rw [if_neg (fun z => ?_)]
    · exact ih fun l hl => nd l (List.mem_cons_of_mem _ hl)
    · have : (Sum.inl ((hd k.1 : Nat) : Int) : Key) = Sum.inl ((h : Nat) : Int) := Option.some.inj z
      have := Sum.inl.inj this
      exact nd k (List.mem_cons_self ..) (by omega)
theorem ix_dict {G : List Ln} (nd : (G.map fun l => hd l.1).Nodup) {l : Ln} (hl : l ∈ G) : ixX (dictD G) (.int (hd l.1 : Nat)) = some (entD l) := by
  show (keyD (.int (hd l.1 : Nat))).bind (getK (dictK G)) = _
  exact dict_get nd l hl
theorem ix_ent0 (l : Ln) : ixX (entD l) (.int 0) = some (.int (l.1 : Nat)) := ixX_t0 _ _
theorem ix_ent1 (l : Ln) : ixX (entD l) (.int 1) = some (bitD l.2) := ixX_t1 _ _ _
theorem set_dict {G : List Ln} (hn : G.length < 16777216) {l l2 : Ln} (hl : l ∈ G) (nd : (G.map fun l => hd l.1).Nodup) (he : hd l2.1 = hd l.1) : setXD (dictD G) (.int (hd l.1 : Nat)) (entD l2) = some (dictD (G.map fun k => if hd k.1 = hd l.1 then l2 else k)) := by
  show (if (dictK G).length < 16777216 then some (PyData.dict (putD (dictK G) (.inl (hd l.1 : Nat)) (entD l2))) else none) = _
  rw [if_pos (by unfold dictK; rw [List.length_map]; exact hn)]
  unfold putD
  rw [dict_get nd l hl, if_pos (by rfl)]
  unfold dictD dictK
  rw [List.map_map, List.map_map]
  congr 2
  refine List.map_congr_left fun k _ => ?_
  show (if keyD (.int (hd k.1 : Nat)) = some (.inl (hd l.1 : Nat)) then (PyData.int (hd k.1 : Nat), entD l2) else (PyData.int (hd k.1 : Nat), entD k)) = _
  by_cases e : hd k.1 = hd l.1
  · rw [if_pos (by rw [e]; rfl)]
    simp only [Function.comp, e, if_true, he]
  · rw [if_neg (fun z => ?_)]
    · simp only [Function.comp, e, if_false]
    · have : (Sum.inl ((hd k.1 : Nat) : Int) : Key) = Sum.inl ((hd l.1 : Nat) : Int) := Option.some.inj z
      have := Sum.inl.inj this
      exact e (by omega)
theorem add_dict {G : List Ln} (hn : G.length < 16777216) {l : Ln} (h : ∀ k ∈ G, hd k.1 ≠ hd l.1) : setXD (dictD G) (.int (hd l.1 : Nat)) (entD l) = some (dictD (G ++ [l])) := by
  show (if (dictK G).length < 16777216 then some (PyData.dict (putD (dictK G) (.inl (hd l.1 : Nat)) (entD l))) else none) = _
  rw [if_pos (by unfold dictK; rw [List.length_map]; exact hn)]
  unfold putD
  rw [dict_not h, if_neg (by simp)]
  unfold dictD dictK
  rw [List.map_append]
  rfl
theorem intsOf_nats (l : List Nat) : intsOf (natsD l) = some (intsOfN l) := by
  induction l with
  | nil => rfl
  | cons x r ih =>
    show (intsOf (natsD r)).map _ = _
    rw [ih]
    rfl
/-- the heads in order -/
theorem sort_heads (G : List Ln) (h : G.length < 64) : ∃ S : List Ln, S.Perm G ∧ sortX (dictD G) = some (.list (S.map fun l => PyData.int (hd l.1 : Nat))) := by
  have e := List.map_mergeSort (r := fun a b : Ln => decide ((hd a.1 : Int) ≤ (hd b.1 : Int))) (s := fun a b : Int => decide (a ≤ b)) (f := fun l : Ln => ((hd l.1 : Nat) : Int)) (l := G) (fun _ _ _ _ => rfl)
  refine ⟨G.mergeSort fun a b => decide ((hd a.1 : Int) ≤ (hd b.1 : Int)), List.mergeSort_perm _ _, ?_⟩
  have hk : (dictK G).map (·.1) = natsD (G.map fun l => hd l.1) := by unfold dictK natsD; rw [List.map_map, List.map_map]; rfl
  have hi : intsOf ((dictK G).map (·.1)) = some (G.map fun l : Ln => ((hd l.1 : Nat) : Int)) := by rw [hk, intsOf_nats]; unfold intsOfN; rw [List.map_map]; rfl
  show sortK (.dict (dictK G)) = _
  unfold sortK
  simp only [hi]
  rw [if_pos (by rw [List.length_map]; exact h)]
  unfold isort
  rw [← e, List.map_map]
  rfl
theorem nats_flat (l : List Nat) : DL.flatBs (natsD l) = true := by
  induction l with
  | nil => rfl
  | cons x r ih => show (DL.flatB (.int x) && DL.flatBs (natsD r)) = true; rw [ih]; rfl
/-- a look within an owned thing -/
theorem eFl_ok {a : Ev} {ρ : En} {ds : List PyData} (h : a (stillE ρ) = some (.list ds, stillE ρ)) (hf : DL.flatBs ds = true) : eFl a ρ = some (.list ds, ρ) := by
  unfold eFl
  rw [h]
  simp only [hf, and_self, if_true]
theorem eFc_ok {a : Ev} {ρ : En} {d : PyData} (h : a (stillE ρ) = some (d, stillE ρ)) (hf : DL.flatB d = true) : eFc a ρ = some (d, ρ) := by
  unfold eFc
  rw [h]
  simp only [hf, and_self, if_true]
theorem xor_bit (a b : Bool) : xorD (bitD a) (bitD b) = some (bitD (a ^^ b)) := by cases a <;> cases b <;> rfl
end DL

/-! the mirrors of the law k14 -/
noncomputable section
namespace Lk14
open PySem L2 DL
/-- turns of a while -/
def fuelW : Nat := 1000000
def b_plus : Sv := (sRet (eN (p1 tupD) (aC (eN (p1 sortX) (aC (e2 addD (eLc [2] (iSeq (eV 0)) (gN 2) (qB (e2 ninX (eV 2) (eV 1))) (eV 2)) (eLc [2] (iSeq (eV 1)) (gN 2) (qB (e2 ninX (eV 2) (eV 0))) (eV 2))) aN)) aN)))
def m_plus : List PyData → Option PyData := runP 3 2 b_plus
def b_together : Sv := (sQ (sAsg 1 (eN mkT aN)) (sQ (sFor (iSeq (eV 0)) (gN 2) (sAsg 1 (eN m_plus (aC (eV 1) (aC (eV 2) aN))))) (sRet (eV 1))))
def m_together : List PyData → Option PyData := runP 3 1 b_together
def b_led_by : Sv := (sQ (sAsg 2 (eC (.int 0))) (sQ (sFor (iSeq (eV 0)) (gT 2 (gC (gN 3) (gC (gN 4) gZ))) (sIf (qB (e2 inX (e2 ixX (eV 3) (eC (.int 0))) (eV 1))) (sPar 1 2 (aC (eN m_together (aC (eN mkL (aC (eV 1) (aC (eV 3) aN))) aN)) (aC (e2 modD (e2 addD (eV 2) (eV 4)) (eC (.int 2))) aN))) sN)) (sRet (eN mkT (aC (eV 1) (aC (eV 2) aN))))))
def m_led_by : List PyData → Option PyData := runP 5 2 b_led_by
def b_put_in : Sv := (sQ (sPat [1, 3] (gT 2 (gC (gN 1) (gC (gN 3) gZ))) (eN m_led_by (aC (eV 0) (aC (eV 1) aN)))) (sQ (sAsg 2 (e2 modD (e2 addD (eV 2) (eV 3)) (eC (.int 2)))) (sQ (sIf (qB (e2 eqD (eV 1) (eN mkT aN))) (sRet (eIf (qB (e2 eqD (eV 2) (eC (.int 0)))) (eV 0) (eC .none))) sN) (sQ (sAsgO 4 (eN mkL (aC (eN mkT (aC (eV 1) (aC (eV 2) aN))) aN))) (sQ (sFor (iSeq (eV 0)) (gT 2 (gC (gN 5) (gC (gN 6) gZ))) (sQ (sIf (qB (e2 inX (e2 ixX (eV 1) (eC (.int 0))) (eV 5))) (sPar 5 6 (aC (eN m_together (aC (eN mkL (aC (eV 5) (aC (eV 1) aN))) aN)) (aC (e2 modD (e2 addD (eV 6) (eV 2)) (eC (.int 2))) aN))) sN) (sMut 4 appD (aC (eN mkT (aC (eV 5) (aC (eV 6) aN))) aN)))) (sRet (eFz (eN (p1 tupD) (aC (eN (p1 sortX) (aC (eV 4) aN)) aN)))))))))
def m_put_in : List PyData → Option PyData := runP 7 3 b_put_in
def b_reduced : Sv := (sRet (e2 ixX (eN m_led_by (aC (eV 0) (aC (eV 1) aN))) (eC (.int 0))))
def m_reduced : List PyData → Option PyData := runP 2 2 b_reduced
def b_told_on : Sv := (sQ (sPat [2, 3] (gT 2 (gC (gN 2) (gC (gN 3) gZ))) (eN m_led_by (aC (eV 0) (aC (eV 1) aN)))) (sRet (eIf (qB (e2 eqD (eV 2) (eN mkT aN))) (eV 3) (eC .none))))
def m_told_on : List PyData → Option PyData := runP 4 2 b_told_on
def b_lies_in : Sv := (sRet (eN (p1 allD) (aC (eLc [2, 3] (iSeq (eV 1)) (gT 2 (gC (gN 2) (gC (gN 3) gZ))) qYes (e2 eqD (eN m_told_on (aC (eV 0) (aC (eV 2) aN))) (eV 3))) aN)))
def m_lies_in : List PyData → Option PyData := runP 4 2 b_lies_in
def b_meet : Sv := (sQ (sAsg 2 (eV 0)) (sQ (sFor (iSeq (eV 1)) (gT 2 (gC (gN 3) (gC (gN 4) gZ))) (sQ (sAsg 2 (eN m_put_in (aC (eV 2) (aC (eV 3) (aC (eV 4) aN))))) (sIf (qB (e2 isN (eV 2) (eC .none))) (sRet (eC .none)) sN))) (sRet (eV 2))))
def m_meet : List PyData → Option PyData := runP 5 2 b_meet
def b_new_row : Sv := (sQ (sFor (iSeq (eV 1)) (gT 2 (gC (gN 2) (gC (gN 3) gZ))) (sQ (sAsg 4 (eN m_reduced (aC (eV 0) (aC (eV 2) aN)))) (sIf (qB (e2 neD (eV 4) (eN mkT aN))) (sRet (eV 4)) sN))) (sRet (eN mkT aN)))
def m_new_row : List PyData → Option PyData := runP 5 2 b_new_row
def b_cut_by : Sv := (sQ (sIf (qOr (qB (eN m_lies_in (aC (eV 0) (aC (eV 1) aN)))) (qB (eN m_lies_in (aC (eV 0) (aC (eV 2) aN))))) (sRet (eN mkT aN)) sN) (sQ (sPar 3 4 (aC (eN m_meet (aC (eV 0) (aC (eV 1) aN))) (aC (eN m_meet (aC (eV 0) (aC (eV 2) aN))) aN))) (sQ (sIf (qOr (qB (e2 isN (eV 3) (eC .none))) (qOr (qB (e2 isN (eV 4) (eC .none))) (qOr (qB (e2 neD (eN (p1 lenX) (aC (eV 3) aN)) (e2 addD (eN (p1 lenX) (aC (eV 0) aN)) (eC (.int 1))))) (qB (e2 neD (eN (p1 lenX) (aC (eV 4) aN)) (e2 addD (eN (p1 lenX) (aC (eV 0) aN)) (eC (.int 1)))))))) (sRet (eC .none)) sN) (sQ (sAsg 5 (eN m_new_row (aC (eV 0) (aC (eV 3) aN)))) (sQ (sAsg 6 (eN m_told_on (aC (eV 4) (aC (eV 5) aN)))) (sRet (eIf (qAnd (qB (e2 isNotN (eV 6) (eC .none))) (qB (e2 neD (eV 6) (eN m_told_on (aC (eV 3) (aC (eV 5) aN)))))) (eV 5) (eC .none))))))))
def m_cut_by : List PyData → Option PyData := runP 7 3 b_cut_by
def b_lies_in_both : Sv := (sRet (e2 isNotN (eN m_cut_by (aC (eV 0) (aC (eV 1) (aC (eV 2) aN)))) (eC .none)))
def m_lies_in_both : List PyData → Option PyData := runP 3 3 b_lies_in_both
def b_law_take : Sv := (sQ (sIf (qFz (qB (e2 eqD (e2 ixX (eV 0) (eC (.int 0))) (eC (.int 0))))) (sQ (sAsg 2 (eFz (e2 ixX (e2 addD (eSl slD (e2 ixX (eV 0) (eC (.int 3))) (oS (e2 ixX (eV 0) (eC (.int 2)))) oN) (eN mkL (aC (eC (.int 0)) aN))) (eC (.int 0))))) (sQ (sAugI 0 (eC (.int 2)) (eC (.int 1))) (sQ (sIf (qB (e2 geI (eV 2) (e2 powD (eC (.int 10)) (eC (.int 18))))) (sSetX 0 (eC (.int 0)) (eV 2)) sN) (sQ (sAsg 3 (eFz (e2 addD (e2 addD (e2 mulI (e2 ixX (eV 0) (eC (.int 1))) (eC (.int 48271))) (e2 modD (eN (p1 intD) (aC (eV 2) aN)) (eC (.int 2147483647)))) (e2 mulI (eC (.int 7919)) (e2 ixX (eV 0) (eC (.int 2))))))) (sSetX 0 (eC (.int 1)) (e2 modD (eN (p1 intD) (aC (eV 3) aN)) (eC (.int 2147483647)))))))) sN) (sQ (sIf (qFz (qB (e2 gtI (e2 ixX (eV 0) (eC (.int 0))) (eC (.int 0))))) (sQ (sAsg 4 (eFz (e2 modD (eN (p1 intD) (aC (e2 ixX (eV 0) (eC (.int 0))) aN)) (eV 1)))) (sQ (sSetX 0 (eC (.int 0)) (eFz (e2 fdivD (eN (p1 intD) (aC (e2 ixX (eV 0) (eC (.int 0))) aN)) (eV 1)))) (sRet (eV 4)))) sN) (sQ (sAsg 5 (eFz (e2 modD (eN (p1 intD) (aC (e2 mulI (e2 addD (e2 ixX (eV 0) (eC (.int 1))) (eC (.int 1))) (eC (.int 39373))) aN)) (eC (.int 1000000007))))) (sQ (sAsg 6 (e2 modD (eN (p1 intD) (aC (e2 mulI (e2 modD (eN (p1 intD) (aC (e2 mulI (eV 5) (eV 5)) aN)) (eC (.int 998244353))) (eC (.int 30011))) aN)) (eC (.int 998244353)))) (sRet (e2 modD (eN (p1 intD) (aC (e2 fdivD (eV 6) (eC (.int 7))) aN)) (eV 1)))))))
def m_law_take : PyData → List PyData → Option (PyData × PyData) := runI 7 2 b_law_take
def b_law_some : Sv := (sRet (e2 ixX (eV 1) (eI m_law_take 0 (aC (eN (p1 lenX) (aC (eV 1) aN)) aN))))
def m_law_some : PyData → List PyData → Option (PyData × PyData) := runI 2 2 b_law_some
def b_law_alike : Sv := (sRet (eAnd (e2 eqD (eV 0) (eV 1)) (e2 eqD (eN (p1 reprD) (aC (eV 0) aN)) (eN (p1 reprD) (aC (eV 1) aN)))))
def m_law_alike : List PyData → Option PyData := runP 2 2 b_law_alike
def b_law_mask : Sv := (sQ (sAsg 1 (eC (.int 0))) (sQ (sFor (iSeq (eV 0)) (gN 2) (sAsg 1 (e2 orD (eV 1) (e2 shlX (eC (.int 1)) (eV 2))))) (sRet (eV 1))))
def m_law_mask : List PyData → Option PyData := runP 3 1 b_law_mask
def b_law_row : Sv := (sRet (eN (p1 tupD) (aC (eLc [1] (iN rng1 (aC (e1 bitsD (eV 0)) aN)) (gN 1) (qB (e2 eqD (e2 andD (e2 shrD (eV 0) (eV 1)) (eC (.int 1))) (eC (.int 1)))) (eV 1)) aN)))
def m_law_row : List PyData → Option PyData := runP 2 1 b_law_row
def b_law_worth : Sv := (sRet (e2 modD (eN (p1 intD) (aC (eN (p1 sumD) (aC (eLc [2] (iSeq (eV 0)) (gN 2) qYes (e2 ixX (eV 1) (eV 2))) aN)) aN)) (eC (.int 2))))
def m_law_worth : List PyData → Option PyData := runP 3 2 b_law_worth
def b_law_room : Sv := (sQ (sParM [1, 2] (mC false (e2 subD (e2 shlX (eC (.int 1)) (e2 shlX (eC (.int 1)) (eV 0))) (eC (.int 1))) (mC true (eN mkL aN) mN))) (sQ (sFor (iN rng1 (aC (eV 0) aN)) (gN 3) (sQ (sAsg 4 (e2 shlX (eC (.int 1)) (e2 subD (e2 subD (eV 0) (eC (.int 1))) (eV 3)))) (sQ (sAsg 5 (e2 shlX (e2 subD (e2 shlX (eC (.int 1)) (eV 4)) (eC (.int 1))) (eV 4))) (sQ (sAsg 6 (eC (.int 0))) (sQ (sFor (iN rng1 (aC (e2 shlX (eC (.int 1)) (eV 3)) aN)) (gN 7) (sAsg 6 (e2 orD (eV 6) (e2 shlX (eV 5) (e2 mulI (e2 mulI (eC (.int 2)) (eV 4)) (eV 7)))))) (sMut 2 appD (aC (eV 6) aN))))))) (sRet (eFz (eN mkT (aC (eV 0) (aC (eV 1) (aC (eN (p1 tupD) (aC (eV 2) aN)) aN))))))))
def m_law_room : List PyData → Option PyData := runP 8 1 b_law_room
def b_law_held : Sv := (sQ (sAsg 2 (eC (.int 0))) (sQ (sFor (iSeq (e2 ixX (eV 1) (eC (.int 0)))) (gN 3) (sAsg 2 (e2 xorD (eV 2) (e2 ixX (e2 ixX (eV 0) (eC (.int 2))) (eV 3))))) (sRet (eIf (qB (e2 eqD (e2 ixX (eV 1) (eC (.int 1))) (eC (.int 1)))) (eV 2) (e2 xorD (e2 ixX (eV 0) (eC (.int 1))) (eV 2))))))
def m_law_held : List PyData → Option PyData := runP 4 2 b_law_held
def b_law_in : Sv := (sQ (sAsg 2 (e2 ixX (eV 0) (eC (.int 1)))) (sQ (sFor (iSeq (eV 1)) (gN 3) (sAsg 2 (e2 andD (eV 2) (eN m_law_held (aC (eV 0) (aC (eV 3) aN)))))) (sRet (eV 2))))
def m_law_in : List PyData → Option PyData := runP 4 2 b_law_in
def b_law_flat_of : Sv := (sQ (sAsgO 1 (eC (.dict []))) (sQ (sFor (iSeq (eV 0)) (gT 2 (gC (gN 2) (gC (gN 3) gZ))) (sQ (sAsg 4 (eN m_law_mask (aC (eV 2) aN))) (sQ (sFor (iSeq (eFl (eN (p1 sortX) (aC (eV 1) aN)))) (gN 5) (sIf (qB (e2 eqD (e2 andD (e2 shrD (eV 4) (eV 5)) (eC (.int 1))) (eC (.int 1)))) (sPar 4 3 (aC (eFz (e2 xorD (eV 4) (e2 ixX (e2 ixX (eV 1) (eV 5)) (eC (.int 0))))) (aC (eFz (e2 xorD (eV 3) (e2 ixX (e2 ixX (eV 1) (eV 5)) (eC (.int 1))))) aN))) sN)) (sQ (sIf (qAnd (qB (e2 eqD (eV 4) (eC (.int 0)))) (qB (e2 eqD (eV 3) (eC (.int 1))))) (sRet (eC .none)) sN) (sIf (qB (e2 gtI (eV 4) (eC (.int 0)))) (sQ (sAsg 6 (e2 subD (e1 bitsD (e2 andD (eV 4) (e1 negD (eV 4)))) (eC (.int 1)))) (sQ (sFor (iSeq (eFl (eN (p1 sortX) (aC (eV 1) aN)))) (gN 5) (sIf (qFz (qB (e2 eqD (e2 andD (e2 shrD (e2 ixX (e2 ixX (eV 1) (eV 5)) (eC (.int 0))) (eV 6)) (eC (.int 1))) (eC (.int 1))))) (sSetX 1 (eV 5) (eFz (eN mkT (aC (e2 xorD (e2 ixX (e2 ixX (eV 1) (eV 5)) (eC (.int 0))) (eV 4)) (aC (e2 xorD (e2 ixX (e2 ixX (eV 1) (eV 5)) (eC (.int 1))) (eV 3)) aN))))) sN)) (sSetX 1 (eV 6) (eN mkT (aC (eV 4) (aC (eV 3) aN)))))) sN))))) (sRet (eFc (eN (p1 tupD) (aC (eN (p1 sortX) (aC (eLc [5] (iSeq (eN (p1 sortX) (aC (eV 1) aN))) (gN 5) qYes (eN mkT (aC (eN m_law_row (aC (e2 ixX (e2 ixX (eV 1) (eV 5)) (eC (.int 0))) aN)) (aC (e2 ixX (e2 ixX (eV 1) (eV 5)) (eC (.int 1))) aN)))) aN)) aN))))))
def m_law_flat_of : List PyData → Option PyData := runP 7 1 b_law_flat_of
def b_law_told : Sv := (sQ (sPar 2 3 (aC (eN m_law_mask (aC (eV 1) aN)) (aC (eC (.int 0)) aN))) (sQ (sFor (iSeq (eV 0)) (gN 4) (sIf (qB (e2 eqD (e2 andD (e2 shrD (eV 2) (e2 ixX (e2 ixX (eV 4) (eC (.int 0))) (eC (.int 0)))) (eC (.int 1))) (eC (.int 1)))) (sPar 2 3 (aC (e2 xorD (eV 2) (eN m_law_mask (aC (e2 ixX (eV 4) (eC (.int 0))) aN))) (aC (e2 xorD (eV 3) (e2 ixX (eV 4) (eC (.int 1)))) aN))) sN)) (sRet (eIf (qB (e2 eqD (eV 2) (eC (.int 0)))) (eV 3) (eC .none)))))
def m_law_told : List PyData → Option PyData := runP 5 2 b_law_told
def b_law_halves : Sv := (sRet (eN (p1 tupD) (aC (eLc [2] (iSeq (eN mkT (aC (eC (.int 0)) (aC (eC (.int 1)) aN)))) (gN 2) qYes (eN m_law_flat_of (aC (e2 addD (eN (p1 lstD) (aC (eV 0) aN)) (eN mkL (aC (eN mkT (aC (eV 1) (aC (eV 2) aN))) aN))) aN))) aN)))
def m_law_halves : List PyData → Option PyData := runP 3 2 b_law_halves
def b_law_any_row : Sv := (sQ (sAsg 2 (eC (.int 0))) (sQ (sFor (iN rng1 (aC (eI m_law_some 0 (aC (eN mkL (aC (eC (.int 1)) (aC (eC (.int 2)) (aC (eC (.int 2)) (aC (eC (.int 3)) (aC (eV 1) aN)))))) aN)) aN)) (gN 3) (sAsg 2 (e2 xorD (eV 2) (e2 shlX (eC (.int 1)) (eI m_law_take 0 (aC (eV 1) aN)))))) (sRet (eIf (qB (e2 gtI (eV 2) (eC (.int 0)))) (eN m_law_row (aC (eV 2) aN)) (eN mkT (aC (eI m_law_take 0 (aC (eV 1) aN)) aN))))))
def m_law_any_row : PyData → List PyData → Option (PyData × PyData) := runI 4 2 b_law_any_row
def b_law_drawn_flat : Sv := (sQ (sParM [3, 4] (mC false (eLc [7] (iN rng1 (aC (eV 1) aN)) (gN 7) qYes (eI m_law_take 0 (aC (eC (.int 2)) aN))) (mC true (eN mkL aN) mN))) (sQ (sFor (iN rng1 (aC (eIf (qB (e2 gtI (eV 1) (eC (.int 0)))) (eI m_law_take 0 (aC (e2 addD (eV 2) (eC (.int 1))) aN)) (eC (.int 0))) aN)) (gN 5) (sQ (sAsg 6 (eI m_law_any_row 0 (aC (eV 1) aN))) (sMut 4 appD (aC (eN mkT (aC (eV 6) (aC (eN m_law_worth (aC (eV 6) (aC (eV 3) aN))) aN))) aN)))) (sRet (eFz (eN m_law_flat_of (aC (eV 4) aN))))))
def m_law_drawn_flat : PyData → List PyData → Option (PyData × PyData) := runI 8 3 b_law_drawn_flat
def b_law_new_row : Sv := (sQ (sFor (iN rng1 (aC (eC (.int 5)) aN)) (gN 3) (sQ (sAsg 4 (eI m_law_any_row 0 (aC (eV 1) aN))) (sIf (qB (e2 isN (eN m_law_told (aC (eV 2) (aC (eV 4) aN))) (eC .none))) (sRet (eV 4)) sN))) (sQ (sAsg 5 (eLc [6] (iSeq (eV 2)) (gN 6) qYes (e2 ixX (e2 ixX (eV 6) (eC (.int 0))) (eC (.int 0))))) (sRet (eN mkT (aC (eI m_law_some 0 (aC (eLc [7] (iN rng1 (aC (eV 1) aN)) (gN 7) (qB (e2 ninX (eV 7) (eV 5))) (eV 7)) aN)) aN)))))
def m_law_new_row : PyData → List PyData → Option (PyData × PyData) := runI 8 3 b_law_new_row
def b_law_wider : Sv := (sRet (eN (p1 tupD) (aC (eLc [2] (iSeq (eV 1)) (gN 2) (qB (e2 gtI (eI m_law_take 0 (aC (eC (.int 5)) aN)) (eC (.int 0)))) (eV 2)) aN)))
def m_law_wider : PyData → List PyData → Option (PyData × PyData) := runI 3 2 b_law_wider
def b_law_rows_beside : Sv := (sQ (sPar 2 3 (aC (eLc [4] (iN rng1 (aC (eV 0) aN)) (gN 4) (qB (e2 ninX (eV 4) (eLc [6] (iSeq (eV 1)) (gN 6) qYes (e2 ixX (e2 ixX (eV 6) (eC (.int 0))) (eC (.int 0)))))) (eV 4)) (aC (eN mkL (aC (eC (.int 0)) aN)) aN))) (sQ (sFor (iSeq (eV 2)) (gN 4) (sAsg 3 (e2 addD (eV 3) (eLc [5] (iSeq (eV 3)) (gN 5) qYes (e2 orD (eV 5) (e2 shlX (eC (.int 1)) (eV 4))))))) (sRet (eLc [5] (iSeq (eSl slD (eV 3) (oS (eC (.int 1))) oN)) (gN 5) qYes (eN m_law_row (aC (eV 5) aN))))))
def m_law_rows_beside : List PyData → Option PyData := runP 7 2 b_law_rows_beside
def b_law_cut_due : Sv := (sQ (sParM [4, 5, 6] (mC false (eN m_law_in (aC (eV 0) (aC (eV 1) aN))) (mC false (eN m_law_in (aC (eV 0) (aC (eV 2) aN))) (mC false (eN m_law_in (aC (eV 0) (aC (eV 3) aN))) mN)))) (sQ (sIf (qOr (qB (e2 eqD (e2 andD (eV 4) (eV 5)) (eV 4))) (qB (e2 eqD (e2 andD (eV 4) (eV 6)) (eV 4)))) (sRet (eN mkT aN)) sN) (sQ (sIf (qB (e2 neD (e2 andD (eV 4) (e2 orD (eV 5) (eV 6))) (eV 4))) (sRet (eC .none)) sN) (sQ (sAsgO 7 (eN mkL aN)) (sQ (sFor (iSeq (eN m_law_rows_beside (aC (e2 ixX (eV 0) (eC (.int 0))) (aC (eV 1) aN)))) (gN 8) (sQ (sAsg 9 (eLc [11] (iSeq (eN mkT (aC (eC (.int 0)) (aC (eC (.int 1)) aN)))) (gN 11) qYes (e2 andD (eV 4) (eN m_law_held (aC (eV 0) (aC (eN mkT (aC (eV 8) (aC (eV 11) aN))) aN)))))) (sQ (sAsg 10 (eN mkL (aC (eN mkT (aC (e2 ixX (eV 9) (eC (.int 0))) (aC (e2 ixX (eV 9) (eC (.int 1))) aN))) (aC (eN mkT (aC (e2 ixX (eV 9) (eC (.int 1))) (aC (e2 ixX (eV 9) (eC (.int 0))) aN))) aN)))) (sMut 7 extD (aC (e2 repL (eN mkL (aC (eV 8) aN)) (eN (p1 intD) (aC (e2 neD (eLc [12, 13] (iSeq (eV 10)) (gT 2 (gC (gN 12) (gC (gN 13) gZ))) (qAnd (qB (e2 eqD (e2 andD (eV 12) (eV 5)) (eV 12))) (qB (e2 eqD (e2 andD (eV 13) (eV 6)) (eV 13)))) (eC (.int 1))) (eN mkL aN)) aN))) aN))))) (sRet (eFz (eIf (qB (e2 eqD (eN (p1 lenX) (aC (eV 7) aN)) (eC (.int 1)))) (e2 ixX (eV 7) (eC (.int 0))) (eC (.str "none"))))))))))
def m_law_cut_due : List PyData → Option PyData := runP 14 4 b_law_cut_due
def b_law_three_flats : Sv := (sQ (sPar 2 3 (aC (eI m_law_drawn_flat 0 (aC (eV 1) (aC (e2 subD (eV 1) (eC (.int 1))) aN))) (aC (eI m_law_take 0 (aC (eC (.int 6)) aN)) aN))) (sQ (sIf (qB (e2 ltI (eV 3) (eC (.int 4)))) (sQ (sPat [4, 5] (gT 2 (gC (gN 4) (gC (gN 5) gZ))) (eN m_law_halves (aC (eV 2) (aC (eI m_law_new_row 0 (aC (eV 1) (aC (eV 2) aN))) aN)))) (sQ (sPar 4 5 (aC (eI m_law_wider 0 (aC (eV 4) aN)) (aC (eI m_law_wider 0 (aC (eV 5) aN)) aN))) (sQ (sIf (qAnd (qB (e2 eqD (eV 3) (eC (.int 3)))) (qB (e2 ltI (eN (p1 lenX) (aC (eV 4) aN)) (eV 1)))) (sAsg 4 (e2 ixX (eN m_law_halves (aC (eV 4) (aC (eI m_law_new_row 0 (aC (eV 1) (aC (eV 4) aN))) aN))) (eI m_law_take 0 (aC (eC (.int 2)) aN)))) sN) (sRet (eIf (qB (e2 neD (eV 3) (eC (.int 2)))) (eN mkT (aC (eV 2) (aC (eV 4) (aC (eV 5) aN)))) (eN mkT (aC (eI m_law_wider 0 (aC (eV 2) aN)) (aC (eV 4) (aC (eV 5) aN))))))))) sN) (sQ (sIf (qB (e2 eqD (eV 3) (eC (.int 4)))) (sRet (eN mkT (aC (eV 2) (aC (eI m_law_wider 0 (aC (eV 2) aN)) (aC (eI m_law_drawn_flat 0 (aC (eV 1) (aC (eV 1) aN))) aN))))) sN) (sRet (eN mkT (aC (eV 2) (aC (eI m_law_drawn_flat 0 (aC (eV 1) (aC (eV 1) aN))) (aC (eI m_law_some 0 (aC (eN mkL (aC (eN mkT aN) (aC (eV 2) (aC (eI m_law_drawn_flat 0 (aC (eV 1) (aC (eC (.int 2)) aN))) aN)))) aN)) aN))))))))
def m_law_three_flats : PyData → List PyData → Option (PyData × PyData) := runI 6 2 b_law_three_flats
def b_law : Sv := (sQ (sFor (iN rng1 (aC (eC (.int 12)) aN)) (gN 2) (sQ (sAsg 3 (e2 addD (eC (.int 1)) (eI m_law_take 1 (aC (eI m_law_some 1 (aC (eN mkL (aC (eC (.int 3)) (aC (eC (.int 5)) (aC (eC (.int 7)) aN)))) aN)) aN)))) (sQ (sPar 4 5 (aC (eN m_law_room (aC (eV 3) aN)) (aC (eI m_law_three_flats 1 (aC (eV 3) aN)) aN))) (sFor (iSeq (eN mkT (aC (eV 5) (aC (eN mkT (aC (e2 ixX (eV 5) (eC (.int 0))) (aC (e2 ixX (eV 5) (eC (.int 2))) (aC (e2 ixX (eV 5) (eC (.int 1))) aN)))) (aC (eN mkT (aC (e2 ixX (eV 5) (eC (.int 1))) (aC (e2 ixX (eV 5) (eC (.int 0))) (aC (e2 ixX (eV 5) (eC (.int 2))) aN)))) (aC (e2 repT (eN mkT (aC (e2 ixX (eV 5) (eC (.int 0))) aN)) (eC (.int 3))) aN)))))) (gT 3 (gC (gN 6) (gC (gN 7) (gC (gN 8) gZ)))) (sQ (sPar 9 10 (aC (eN m_law_cut_due (aC (eV 4) (aC (eV 6) (aC (eV 7) (aC (eV 8) aN))))) (aC (eN (p1 reprD) (aC (eN mkT (aC (eV 6) (aC (eV 7) (aC (eV 8) aN)))) aN)) aN))) (sQ (sAsg 11 (eN mkL (aC (eN m_cut_by (aC (eV 6) (aC (eV 7) (aC (eV 8) aN)))) (aC (eN m_lies_in_both (aC (eV 6) (aC (eV 7) (aC (eV 8) aN)))) aN)))) (sIf (qOr (qNot (qB (eN m_law_alike (aC (eV 11) (aC (eN mkL (aC (eV 9) (aC (e2 isNotN (eV 9) (eC .none)) aN))) aN))))) (qB (e2 neD (eN (p1 reprD) (aC (eN mkT (aC (eV 6) (aC (eV 7) (aC (eV 8) aN)))) aN)) (eV 10)))) (sRet (eC (.bool false))) sN))))))) (sRet (eC (.bool true))))
end Lk14
end

set_option maxHeartbeats 4000000
namespace Lk14
open PySem L2 DL FL
theorem filter_nats (l : List Nat) (p : PyData → Bool) : ((natsD l).filter p).map (fun x => x) = natsD (l.filter fun (i : Nat) => p (.int (i : Int))) := by
  rw [List.map_id']
  unfold natsD
  rw [List.filter_map]
  rfl
theorem half_ok {a b : Nat} (hb : b < 2 ^ 16) {s0 s1 : Sl} {o j : Nat} (hj : eV j [s0, s1, .u] = some (rowD a, [s0, s1, .u])) (ho : ∀ x, ([s0, s1, .d x] : En)[o]? = some (.d (rowD b))) :
    eLc [2] (iSeq (eV j)) (gN 2) (qB (e2 ninX (eV 2) (eV o))) (eV 2) [s0, s1, .u] = some (.list (natsD ((bitsOf a).filter fun i => !b.testBit i)), [s0, s1, .u]) := by
  have key := eLc_pure (vs := [2]) (it := iSeq (eV j)) (g := gN 2) (q := qB (e2 ninX (eV 2) (eV o))) (a := eV 2) (ρ := [s0, s1, .u]) (ds := natsD (bitsOf a)) (by unfold iSeq; rw [hj]; rfl) rfl rfl
    (fun x => match x with | .int i => !b.testBit i.toNat | _ => false) (fun x => x) (fun x hx => by
      obtain ⟨i, hi, rfl⟩ := List.mem_map.mp hx
      refine ⟨[s0, s1, .d (.int (i : Int))], [s0, s1, .d (.int (i : Int))], rfl, ?_, fun _ => ⟨_, rfl, rfl⟩, fun _ => rfl⟩
      have h1 : eV 2 [s0, s1, .d (.int (i : Int))] = some (.int (i : Int), [s0, s1, .d (.int (i : Int))]) := rfl
      have h2 : eV o [s0, s1, .d (.int (i : Int))] = some (rowD b, [s0, s1, .d (.int (i : Int))]) := eV_at (ho _)
      have h3 := (in_row (i := i) hb).2
      show qB (e2 ninX (eV 2) (eV o)) [s0, s1, .d (.int (i : Int))] = some (!b.testBit ((i : Int)).toNat, _)
      unfold qB e2
      simp only [h1, h2, h3, Int.toNat_natCast])
  rw [filter_nats] at key
  exact key
theorem plus_ok {a b : Nat} (ha : a < 2 ^ 16) (hb : b < 2 ^ 16) : m_plus [rowD a, rowD b] = some (rowD (a ^^^ b)) := by
  have h1 := half_ok (a := a) hb (s0 := .d (rowD a)) (s1 := .d (rowD b)) (o := 1) (j := 0) rfl (fun _ => rfl)
  have h2 := half_ok (a := b) ha (s0 := .d (rowD a)) (s1 := .d (rowD b)) (o := 0) (j := 1) rfl (fun _ => rfl)
  have hs : sortX (.list (natsD ((bitsOf a).filter fun i => !b.testBit i) ++ natsD ((bitsOf b).filter fun i => !a.testBit i))) = some (.list (natsD (bitsOf (a ^^^ b)))) := by
    rw [natsD_eq, natsD_eq, ← List.map_append, sort_ints, plus_bits, natsD_eq]
  have hl : (natsD ((bitsOf a).filter fun i => !b.testBit i)).length + (natsD ((bitsOf b).filter fun i => !a.testBit i)).length ≤ sizeLine := by
    have l1 := List.length_filter_le (fun i => !b.testBit i) (bitsOf a)
    have l2 := List.length_filter_le (fun i => !a.testBit i) (bitsOf b)
    have := bits_len a
    have := bits_len b
    unfold natsD
    rw [List.length_map, List.length_map, sizeLine_eq]
    omega
  have e0 : en0 3 [rowD a, rowD b] = [.d (rowD a), .d (rowD b), .u] := rfl
  have hadd : addD (.list (natsD ((bitsOf a).filter fun i => !b.testBit i))) (.list (natsD ((bitsOf b).filter fun i => !a.testBit i))) = some (.list (natsD ((bitsOf a).filter fun i => !b.testBit i) ++ natsD ((bitsOf b).filter fun i => !a.testBit i))) := by
    show (if _ then _ else none) = _
    rw [if_pos hl]
  unfold m_plus runP b_plus
  rw [e0]
  simp only [sRet, eN, aC, aN, e2, h1, h2, hadd, p1, hs, tupD, List.length_cons, List.length_nil, outP]
  rfl
theorem together2_ok {a b : Nat} (ha : a < 2 ^ 16) (hb : b < 2 ^ 16) : m_together [.list [rowD a, rowD b]] = some (rowD (a ^^^ b)) := by
  have h1 := plus_ok (a := 0) (b := a) (by decide) ha
  rw [rowD_zero, Nat.zero_xor] at h1
  have h2 := plus_ok ha hb
  simp [m_together, runP, b_together, sQ, sIf, sN, qFz, qB, qAnd, qOr, qNot, qYes, e1, DL.e2, eV, eC, eN, eI, eIf, eAnd, eOr, eFz, eSl, oS, oN, aN, aC, aX, sAsg, sAsgO, sRet, sRetO, sRetN, sDrop, sSet, sAugI, sMut, sPar, sPat, iSeq, iN, gN, gT, gC, gZ, outP, outF, outI, en0, stillE, Sl.still, Sl.own, Sl.put, seqOf, ixD, p1, lenS, intD, absD, ixX, lenX, sSetX, setXD, sParM, mN, mC, DL.setM, tupD, lstD, mkT, mkL, slD, slL, setLD, notD, negD, ltI, leI, gtI, geI, iB, addD, subD, isN, isNotN, atI_0, atI_1, atI_2, atI_3, ixN_40, ixN_41, ixN_42, eqD_int, neD_int, DL.flatB, DL.flatBs, max2D, min2D, iI, sl1, sl2, sl3, sl4, sl0, sl5, sl6, sl7, sl8, List.length_cons, List.length_nil, List.length_append, List.length_map, List.getElem?_cons_zero, List.getElem?_cons_succ, List.set_cons_zero, List.set_cons_succ, List.map_cons, List.map_nil, List.replicate, List.cons_append, List.nil_append, List.append_nil, Option.map_some, if_true, if_false, ite_true, ite_false, reduceIte, Nat.reduceAdd, Nat.reduceSub, Nat.reduceLeDiff, Nat.reduceEqDiff, Int.reduceAdd, modD_int, fdivD_int, mulR, mulL, Nat.sub_self, Nat.zero_add, Option.map_none, decide_true, decide_false, Bool.not_true, Bool.not_false, sFor, forD, h1, h2]
/-- led_by -/
theorem led_ok {F : List Ln} (hF : ∀ l ∈ F, l.1 ≠ 0 ∧ l.1 < 2 ^ 16) {m : Nat} (hm : m < 2 ^ 16) : m_led_by [flatD F, rowD m] = some (.tuple [rowD (led F m false).1, bitD (led F m false).2]) := by
  have key : ∀ (G : List Ln) (m : Nat) (w : Bool) (s3 s4 : Sl), (∀ l ∈ G, l.1 ≠ 0 ∧ l.1 < 2 ^ 16) → m < 2 ^ 16 → ∃ t3 t4, forD (gT 2 (gC (gN 3) (gC (gN 4) gZ))) (sIf (qB (e2 inX (e2 ixX (eV 3) (eC (.int 0))) (eV 1))) (sPar 1 2 (aC (eN m_together (aC (eN mkL (aC (eV 1) (aC (eV 3) aN))) aN)) (aC (e2 modD (e2 addD (eV 2) (eV 4)) (eC (.int 2))) aN))) sN) (G.map lineD) [.d (flatD F), .d (rowD m), .d (bitD w), s3, s4] = some (.nx [.d (flatD F), .d (rowD (led G m w).1), .d (bitD (led G m w).2), t3, t4]) := by
    intro G
    induction G with
    | nil => intro m w s3 s4 _ _; exact ⟨s3, s4, rfl⟩
    | cons l G ih =>
      intro m w s3 s4 hG hm
      have hl := hG l (List.mem_cons_self ..)
      have h1 := row_head hl.1 hl.2
      have h2 := (in_row (i := hd l.1) hm).1
      have h3 := together2_ok hm hl.2
      obtain ⟨c, h4, h5⟩ := bit_add w l.2
      unfold led
      by_cases hb : m.testBit (hd l.1) = true
      · rw [if_pos hb]
        obtain ⟨t3, t4, h⟩ := ih (m ^^^ l.1) (w ^^ l.2) (.d (rowD l.1)) (.d (bitD l.2)) (fun k hk => hG k (List.mem_cons_of_mem _ hk)) (Nat.xor_lt_two_pow hm hl.2)
        refine ⟨t3, t4, ?_⟩
        rw [List.map_cons, forD_go (ρ1 := [.d (flatD F), .d (rowD m), .d (bitD w), .d (rowD l.1), .d (bitD l.2)]) rfl (ρ2 := [.d (flatD F), .d (rowD (m ^^^ l.1)), .d (bitD (w ^^ l.2)), .d (rowD l.1), .d (bitD l.2)]) ?_]
        · exact h
        · rw [hb] at h2
          simp [sQ, sIf, sN, qFz, qB, qAnd, qOr, qNot, qYes, e1, DL.e2, eV, eC, eN, eI, eIf, eAnd, eOr, eFz, eSl, oS, oN, aN, aC, aX, sAsg, sAsgO, sRet, sRetO, sRetN, sDrop, sSet, sSetX, sAugI, sMut, sPar, sPat, sParM, mN, mC, DL.setM, iSeq, iN, gN, gT, gC, gZ, outP, outF, outI, en0, stillE, Sl.still, Sl.own, Sl.put, p1, tupD, lstD, mkT, mkL, DL.e3, sl1, sl2, sl3, sl4, sl0, sl5, sl6, sl7, sl8, List.length_cons, List.length_nil, List.length_map, List.getElem?_cons_zero, List.getElem?_cons_succ, List.set_cons_zero, List.set_cons_succ, List.map_cons, List.map_nil, List.replicate, List.cons_append, List.nil_append, List.append_nil, Option.map_some, if_true, if_false, ite_true, ite_false, reduceIte, Nat.reduceAdd, Nat.reduceSub, Nat.reduceLeDiff, Nat.reduceEqDiff, Nat.sub_self, Nat.zero_add, Option.map_none, decide_true, decide_false, Bool.not_true, Bool.not_false, h1, h2, h3, h4, h5]
      · rw [if_neg hb]
        obtain ⟨t3, t4, h⟩ := ih m w (.d (rowD l.1)) (.d (bitD l.2)) (fun k hk => hG k (List.mem_cons_of_mem _ hk)) hm
        refine ⟨t3, t4, ?_⟩
        rw [List.map_cons, forD_go (ρ1 := [.d (flatD F), .d (rowD m), .d (bitD w), .d (rowD l.1), .d (bitD l.2)]) rfl (ρ2 := [.d (flatD F), .d (rowD m), .d (bitD w), .d (rowD l.1), .d (bitD l.2)]) ?_]
        · exact h
        · have hb' : m.testBit (hd l.1) = false := by simpa using hb
          rw [hb'] at h2
          simp [sQ, sIf, sN, qFz, qB, qAnd, qOr, qNot, qYes, e1, DL.e2, eV, eC, eN, eI, eIf, eAnd, eOr, eFz, eSl, oS, oN, aN, aC, aX, sAsg, sAsgO, sRet, sRetO, sRetN, sDrop, sSet, sSetX, sAugI, sMut, sPar, sPat, sParM, mN, mC, DL.setM, iSeq, iN, gN, gT, gC, gZ, outP, outF, outI, en0, stillE, Sl.still, Sl.own, Sl.put, p1, tupD, lstD, mkT, mkL, DL.e3, sl1, sl2, sl3, sl4, sl0, sl5, sl6, sl7, sl8, List.length_cons, List.length_nil, List.length_map, List.getElem?_cons_zero, List.getElem?_cons_succ, List.set_cons_zero, List.set_cons_succ, List.map_cons, List.map_nil, List.replicate, List.cons_append, List.nil_append, List.append_nil, Option.map_some, if_true, if_false, ite_true, ite_false, reduceIte, Nat.reduceAdd, Nat.reduceSub, Nat.reduceLeDiff, Nat.reduceEqDiff, Nat.sub_self, Nat.zero_add, Option.map_none, decide_true, decide_false, Bool.not_true, Bool.not_false, h1, h2]
  obtain ⟨t3, t4, h⟩ := key F m false .u .u hF hm
  have hb : bitD false = .int 0 := rfl
  rw [hb] at h
  simp [m_led_by, runP, b_led_by, sQ, sIf, sN, qFz, qB, qAnd, qOr, qNot, qYes, e1, DL.e2, eV, eC, eN, eI, eIf, eAnd, eOr, eFz, eSl, oS, oN, aN, aC, aX, sAsg, sAsgO, sRet, sRetO, sRetN, sDrop, sSet, sSetX, sAugI, sMut, sPar, sPat, sParM, mN, mC, DL.setM, iSeq, iN, gN, gT, gC, gZ, outP, outF, outI, en0, stillE, Sl.still, Sl.own, Sl.put, p1, tupD, lstD, mkT, mkL, DL.e3, sl1, sl2, sl3, sl4, sl0, sl5, sl6, sl7, sl8, List.length_cons, List.length_nil, List.length_map, List.getElem?_cons_zero, List.getElem?_cons_succ, List.set_cons_zero, List.set_cons_succ, List.map_cons, List.map_nil, List.replicate, List.cons_append, List.nil_append, List.append_nil, Option.map_some, if_true, if_false, ite_true, ite_false, reduceIte, Nat.reduceAdd, Nat.reduceSub, Nat.reduceLeDiff, Nat.reduceEqDiff, Nat.sub_self, Nat.zero_add, Option.map_none, decide_true, decide_false, Bool.not_true, Bool.not_false, sFor, seqOf_flat, h]
theorem reduced_ok {F : List Ln} (r : Rr F) {m : Nat} (hm : m < 2 ^ 16) : m_reduced [flatD F, rowD m] = some (rowD (led F m false).1) := by
  have h := led_ok r.pos hm
  simp [m_reduced, runP, b_reduced, sQ, sIf, sN, qFz, qB, qAnd, qOr, qNot, qYes, e1, DL.e2, eV, eC, eN, eI, eIf, eAnd, eOr, eFz, eSl, oS, oN, aN, aC, aX, sAsg, sAsgO, sRet, sRetO, sRetN, sDrop, sSet, sSetX, sAugI, sMut, sPar, sPat, sParM, mN, mC, DL.setM, iSeq, iN, gN, gT, gC, gZ, outP, outF, outI, en0, stillE, Sl.still, Sl.own, Sl.put, p1, tupD, lstD, mkT, mkL, DL.e3, sl1, sl2, sl3, sl4, sl0, sl5, sl6, sl7, sl8, List.length_cons, List.length_nil, List.length_map, List.getElem?_cons_zero, List.getElem?_cons_succ, List.set_cons_zero, List.set_cons_succ, List.map_cons, List.map_nil, List.replicate, List.cons_append, List.nil_append, List.append_nil, Option.map_some, if_true, if_false, ite_true, ite_false, reduceIte, Nat.reduceAdd, Nat.reduceSub, Nat.reduceLeDiff, Nat.reduceEqDiff, Nat.sub_self, Nat.zero_add, Option.map_none, decide_true, decide_false, Bool.not_true, Bool.not_false, h, ixX_t0]
theorem told_ok {F : List Ln} (r : Rr F) {m : Nat} (hm : m < 2 ^ 16) : m_told_on [flatD F, rowD m] = some (optD (told F m)) := by
  have h := led_ok r.pos hm
  have lt := led_lt (w := false) (fun l hl => (r.pos l hl).2) hm
  have h2 := eqD_row_nil lt
  unfold told
  by_cases e : (led F m false).1 = 0
  · rw [if_pos e]
    rw [e] at h2
    simp [m_told_on, runP, b_told_on, sQ, sIf, sN, qFz, qB, qAnd, qOr, qNot, qYes, e1, DL.e2, eV, eC, eN, eI, eIf, eAnd, eOr, eFz, eSl, oS, oN, aN, aC, aX, sAsg, sAsgO, sRet, sRetO, sRetN, sDrop, sSet, sSetX, sAugI, sMut, sPar, sPat, sParM, mN, mC, DL.setM, iSeq, iN, gN, gT, gC, gZ, outP, outF, outI, en0, stillE, Sl.still, Sl.own, Sl.put, p1, tupD, lstD, mkT, mkL, DL.e3, sl1, sl2, sl3, sl4, sl0, sl5, sl6, sl7, sl8, List.length_cons, List.length_nil, List.length_map, List.getElem?_cons_zero, List.getElem?_cons_succ, List.set_cons_zero, List.set_cons_succ, List.map_cons, List.map_nil, List.replicate, List.cons_append, List.nil_append, List.append_nil, Option.map_some, if_true, if_false, ite_true, ite_false, reduceIte, Nat.reduceAdd, Nat.reduceSub, Nat.reduceLeDiff, Nat.reduceEqDiff, Nat.sub_self, Nat.zero_add, Option.map_none, decide_true, decide_false, Bool.not_true, Bool.not_false, h, h2, e, optD]
  · rw [if_neg e]
    simp [e] at h2
    simp [m_told_on, runP, b_told_on, sQ, sIf, sN, qFz, qB, qAnd, qOr, qNot, qYes, e1, DL.e2, eV, eC, eN, eI, eIf, eAnd, eOr, eFz, eSl, oS, oN, aN, aC, aX, sAsg, sAsgO, sRet, sRetO, sRetN, sDrop, sSet, sSetX, sAugI, sMut, sPar, sPat, sParM, mN, mC, DL.setM, iSeq, iN, gN, gT, gC, gZ, outP, outF, outI, en0, stillE, Sl.still, Sl.own, Sl.put, p1, tupD, lstD, mkT, mkL, DL.e3, sl1, sl2, sl3, sl4, sl0, sl5, sl6, sl7, sl8, List.length_cons, List.length_nil, List.length_map, List.getElem?_cons_zero, List.getElem?_cons_succ, List.set_cons_zero, List.set_cons_succ, List.map_cons, List.map_nil, List.replicate, List.cons_append, List.nil_append, List.append_nil, Option.map_some, if_true, if_false, ite_true, ite_false, reduceIte, Nat.reduceAdd, Nat.reduceSub, Nat.reduceLeDiff, Nat.reduceEqDiff, Nat.sub_self, Nat.zero_add, Option.map_none, decide_true, decide_false, Bool.not_true, Bool.not_false, h, h2, optD]
theorem lies_ok {F A : List Ln} (r : Rr F) (rA : Rr A) : m_lies_in [flatD F, flatD A] = some (.bool (A.all fun l => decide (told F l.1 = some l.2))) := by
  have key := eLc_M (vs := [2, 3]) (it := iSeq (eV 1)) (g := gT 2 (gC (gN 2) (gC (gN 3) gZ))) (a := e2 eqD (eN m_told_on (aC (eV 0) (aC (eV 2) aN))) (eV 3)) (ρ := [.d (flatD F), .d (flatD A), .u, .u]) lineD A rfl rfl rfl (fun l => .bool (decide (told F l.1 = some l.2))) (fun l hl => by
    refine ⟨[.d (flatD F), .d (flatD A), .d (rowD l.1), .d (bitD l.2)], [.d (flatD F), .d (flatD A), .d (rowD l.1), .d (bitD l.2)], rfl, ?_, rfl⟩
    have h1 := told_ok r (rA.pos l hl).2
    have h2 := eqD_opt (told F l.1) (some l.2)
    have h3 : bitD l.2 = optD (some l.2) := rfl
    simp [sQ, sIf, sN, qFz, qB, qAnd, qOr, qNot, qYes, e1, DL.e2, eV, eC, eN, eI, eIf, eAnd, eOr, eFz, eSl, oS, oN, aN, aC, aX, sAsg, sAsgO, sRet, sRetO, sRetN, sDrop, sSet, sSetX, sAugI, sMut, sPar, sPat, sParM, mN, mC, DL.setM, iSeq, iN, gN, gT, gC, gZ, outP, outF, outI, en0, stillE, Sl.still, Sl.own, Sl.put, p1, tupD, lstD, mkT, mkL, DL.e3, sl1, sl2, sl3, sl4, sl0, sl5, sl6, sl7, sl8, List.length_cons, List.length_nil, List.length_map, List.getElem?_cons_zero, List.getElem?_cons_succ, List.set_cons_zero, List.set_cons_succ, List.map_cons, List.map_nil, List.replicate, List.cons_append, List.nil_append, List.append_nil, Option.map_some, if_true, if_false, ite_true, ite_false, reduceIte, Nat.reduceAdd, Nat.reduceSub, Nat.reduceLeDiff, Nat.reduceEqDiff, Nat.sub_self, Nat.zero_add, Option.map_none, decide_true, decide_false, Bool.not_true, Bool.not_false, h1, h3, h2])
  have hall : allD (.list (A.map fun l => .bool (decide (told F l.1 = some l.2)))) = some (.bool (A.all fun l => decide (told F l.1 = some l.2))) := by
    have := allD_bools (A.map fun l => decide (told F l.1 = some l.2))
    rw [List.map_map, List.all_map] at this
    exact this
  simp [m_lies_in, runP, b_lies_in, sQ, sIf, sN, qFz, qB, qAnd, qOr, qNot, qYes, e1, DL.e2, eV, eC, eN, eI, eIf, eAnd, eOr, eFz, eSl, oS, oN, aN, aC, aX, sAsg, sAsgO, sRet, sRetO, sRetN, sDrop, sSet, sSetX, sAugI, sMut, sPar, sPat, sParM, mN, mC, DL.setM, iSeq, iN, gN, gT, gC, gZ, outP, outF, outI, en0, stillE, Sl.still, Sl.own, Sl.put, p1, tupD, lstD, mkT, mkL, DL.e3, sl1, sl2, sl3, sl4, sl0, sl5, sl6, sl7, sl8, List.length_cons, List.length_nil, List.length_map, List.getElem?_cons_zero, List.getElem?_cons_succ, List.set_cons_zero, List.set_cons_succ, List.map_cons, List.map_nil, List.replicate, List.cons_append, List.nil_append, List.append_nil, Option.map_some, if_true, if_false, ite_true, ite_false, reduceIte, Nat.reduceAdd, Nat.reduceSub, Nat.reduceLeDiff, Nat.reduceEqDiff, Nat.sub_self, Nat.zero_add, Option.map_none, decide_true, decide_false, Bool.not_true, Bool.not_false, key, hall]
/-- put_in -/
theorem put_ok {F : List Ln} (r : Rr F) {m : Nat} (hm : m < 2 ^ 16) (b : Bool) : ∃ o, PutIn F m b o ∧ m_put_in [flatD F, rowD m, bitD b] = some (oflD o) := by
  have h := led_ok r.pos hm
  have lt := led_lt (w := false) (fun l hl => (r.pos l hl).2) hm
  have hs := led_heads (m := m) (w := false) r
  obtain ⟨c, a1, a2⟩ := bit_add b (led F m false).2
  have h2 := eqD_row_nil lt
  have h3 : eqD (bitD (b ^^ (led F m false).2)) (.int 0) = some (.bool (!(b ^^ (led F m false).2))) := by unfold bitD; rw [eqD_int]; cases (b ^^ (led F m false).2) <;> rfl
  by_cases e : (led F m false).1 = 0
  · simp [e] at h2
    cases hb : (b ^^ (led F m false).2) with
    | true =>
      rw [hb] at a2 h3
      refine ⟨none, .no e hb, ?_⟩
      simp [m_put_in, runP, b_put_in, sQ, sIf, sN, qFz, qB, qAnd, qOr, qNot, qYes, e1, DL.e2, eV, eC, eN, eI, eIf, eAnd, eOr, eFz, eSl, oS, oN, aN, aC, aX, sAsg, sAsgO, sRet, sRetO, sRetN, sDrop, sSet, sSetX, sAugI, sMut, sPar, sPat, sParM, mN, mC, DL.setM, iSeq, iN, gN, gT, gC, gZ, outP, outF, outI, en0, stillE, Sl.still, Sl.own, Sl.put, p1, tupD, lstD, mkT, mkL, DL.e3, sl1, sl2, sl3, sl4, sl0, sl5, sl6, sl7, sl8, List.length_cons, List.length_nil, List.length_map, List.getElem?_cons_zero, List.getElem?_cons_succ, List.set_cons_zero, List.set_cons_succ, List.map_cons, List.map_nil, List.replicate, List.cons_append, List.nil_append, List.append_nil, Option.map_some, if_true, if_false, ite_true, ite_false, reduceIte, Nat.reduceAdd, Nat.reduceSub, Nat.reduceLeDiff, Nat.reduceEqDiff, Nat.sub_self, Nat.zero_add, Option.map_none, decide_true, decide_false, Bool.not_true, Bool.not_false, h, e, h2, a1, a2, h3, oflD]
    | false =>
      rw [hb] at a2 h3
      refine ⟨some F, .same e hb, ?_⟩
      simp [m_put_in, runP, b_put_in, sQ, sIf, sN, qFz, qB, qAnd, qOr, qNot, qYes, e1, DL.e2, eV, eC, eN, eI, eIf, eAnd, eOr, eFz, eSl, oS, oN, aN, aC, aX, sAsg, sAsgO, sRet, sRetO, sRetN, sDrop, sSet, sSetX, sAugI, sMut, sPar, sPat, sParM, mN, mC, DL.setM, iSeq, iN, gN, gT, gC, gZ, outP, outF, outI, en0, stillE, Sl.still, Sl.own, Sl.put, p1, tupD, lstD, mkT, mkL, DL.e3, sl1, sl2, sl3, sl4, sl0, sl5, sl6, sl7, sl8, List.length_cons, List.length_nil, List.length_map, List.getElem?_cons_zero, List.getElem?_cons_succ, List.set_cons_zero, List.set_cons_succ, List.map_cons, List.map_nil, List.replicate, List.cons_append, List.nil_append, List.append_nil, Option.map_some, if_true, if_false, ite_true, ite_false, reduceIte, Nat.reduceAdd, Nat.reduceSub, Nat.reduceLeDiff, Nat.reduceEqDiff, Nat.sub_self, Nat.zero_add, Option.map_none, decide_true, decide_false, Bool.not_true, Bool.not_false, h, e, h2, a1, a2, h3, oflD]
  · simp [e] at h2
    obtain ⟨rowHead, hd0, hd1⟩ : ∃ q, ixX (rowD (led F m false).1) (.int 0) = some q ∧ q = .int (hd (led F m false).1 : Nat) := ⟨_, row_head e lt, rfl⟩
    subst hd1
    generalize hw : (b ^^ (led F m false).2) = b' at a2 h3
    generalize hr : (led F m false).1 = m' at h hs lt e h2 hd0
    generalize (led F m false).2 = w' at h a1
    obtain ⟨ρ', k1, s5, s6, rfl⟩ := sFor_T lineD F (it := (iSeq (eV 0))) (g := (gT 2 (gC (gN 5) (gC (gN 6) gZ)))) (ψ := (sQ (sIf (qB (e2 inX (e2 ixX (eV 1) (eC (.int 0))) (eV 5))) (sPar 5 6 (aC (eN m_together (aC (eN mkL (aC (eV 5) (aC (eV 1) aN))) aN)) (aC (e2 modD (e2 addD (eV 6) (eV 2)) (eC (.int 2))) aN))) sN) (sMut 4 appD (aC (eN mkT (aC (eV 5) (aC (eV 6) aN))) aN)))) (ρ := [.d (flatD F), .d (rowD m'), .d (bitD b'), .d (bitD w'), .o (.list (putL m' b' [])), .u, .u]) (ρ0 := [.d (flatD F), .d (rowD m'), .d (bitD b'), .d (bitD w'), .o (.list (putL m' b' [])), .u, .u]) (by simp [sQ, sIf, sN, qFz, qB, qAnd, qOr, qNot, qYes, e1, DL.e2, eV, eC, eN, eI, eIf, eAnd, eOr, eFz, eSl, oS, oN, aN, aC, aX, sAsg, sAsgO, sRet, sRetO, sRetN, sDrop, sSet, sSetX, sAugI, sMut, sPar, sPat, sParM, mN, mC, DL.setM, iSeq, iN, gN, gT, gC, gZ, outP, outF, outI, en0, stillE, Sl.still, Sl.own, Sl.put, p1, tupD, lstD, mkT, mkL, DL.e3, sl1, sl2, sl3, sl4, sl0, sl5, sl6, sl7, sl8, List.length_cons, List.length_nil, List.length_map, List.getElem?_cons_zero, List.getElem?_cons_succ, List.set_cons_zero, List.set_cons_succ, List.map_cons, List.map_nil, List.replicate, List.cons_append, List.nil_append, List.append_nil, Option.map_some, if_true, if_false, ite_true, ite_false, reduceIte, Nat.reduceAdd, Nat.reduceSub, Nat.reduceLeDiff, Nat.reduceEqDiff, Nat.sub_self, Nat.zero_add, Option.map_none, decide_true, decide_false, Bool.not_true, Bool.not_false, seqOf_flat])
      (fun dn ρ => ∃ (s5 s6 : Sl), ρ = [.d (flatD F), .d (rowD m'), .d (bitD b'), .d (bitD w'), .o (.list (putL m' b' dn)), s5, s6])
      ⟨.u, .u, rfl⟩
      (fun dn l rest ρ ed ⟨s5, s6, e3⟩ => by
        subst e3
        have hl : l ∈ F := by rw [ed]; simp
        have l16 := (r.pos l hl).2
        have i1 := (in_row (i := hd m') l16).1
        have i2 := together2_ok l16 lt
        obtain ⟨c2, i3, i4⟩ := bit_add l.2 b'
        have hlen : (putL m' b' dn).length < 16777216 := by
          have q := congrArg List.length ed
          rw [List.length_append, List.length_cons] at q
          have := rr_len r
          rw [putL_len]
          omega
        cases hb : l.1.testBit (hd m') with
        | true =>
          rw [hb] at i1
          refine ⟨[.d (flatD F), .d (rowD m'), .d (bitD b'), .d (bitD w'), .o (.list (putL m' b' dn)), .d (rowD l.1), .d (bitD l.2)], _, rfl, ?_, .d (rowD (l.1 ^^^ m')), .d (bitD (l.2 ^^ b')), rfl⟩
          rw [putL_t hb]
          simp [sQ, sIf, sN, qFz, qB, qAnd, qOr, qNot, qYes, e1, DL.e2, eV, eC, eN, eI, eIf, eAnd, eOr, eFz, eSl, oS, oN, aN, aC, aX, sAsg, sAsgO, sRet, sRetO, sRetN, sDrop, sSet, sSetX, sAugI, sMut, sPar, sPat, sParM, mN, mC, DL.setM, iSeq, iN, gN, gT, gC, gZ, outP, outF, outI, en0, stillE, Sl.still, Sl.own, Sl.put, p1, tupD, lstD, mkT, mkL, DL.e3, sl1, sl2, sl3, sl4, sl0, sl5, sl6, sl7, sl8, List.length_cons, List.length_nil, List.length_map, List.getElem?_cons_zero, List.getElem?_cons_succ, List.set_cons_zero, List.set_cons_succ, List.map_cons, List.map_nil, List.replicate, List.cons_append, List.nil_append, List.append_nil, Option.map_some, if_true, if_false, ite_true, ite_false, reduceIte, Nat.reduceAdd, Nat.reduceSub, Nat.reduceLeDiff, Nat.reduceEqDiff, Nat.sub_self, Nat.zero_add, Option.map_none, decide_true, decide_false, Bool.not_true, Bool.not_false, hd0, i1, i2, i3, i4, app_ok hlen]
        | false =>
          rw [hb] at i1
          refine ⟨[.d (flatD F), .d (rowD m'), .d (bitD b'), .d (bitD w'), .o (.list (putL m' b' dn)), .d (rowD l.1), .d (bitD l.2)], _, rfl, ?_, .d (rowD l.1), .d (bitD l.2), rfl⟩
          rw [putL_f hb]
          simp [sQ, sIf, sN, qFz, qB, qAnd, qOr, qNot, qYes, e1, DL.e2, eV, eC, eN, eI, eIf, eAnd, eOr, eFz, eSl, oS, oN, aN, aC, aX, sAsg, sAsgO, sRet, sRetO, sRetN, sDrop, sSet, sSetX, sAugI, sMut, sPar, sPat, sParM, mN, mC, DL.setM, iSeq, iN, gN, gT, gC, gZ, outP, outF, outI, en0, stillE, Sl.still, Sl.own, Sl.put, p1, tupD, lstD, mkT, mkL, DL.e3, sl1, sl2, sl3, sl4, sl0, sl5, sl6, sl7, sl8, List.length_cons, List.length_nil, List.length_map, List.getElem?_cons_zero, List.getElem?_cons_succ, List.set_cons_zero, List.set_cons_succ, List.map_cons, List.map_nil, List.replicate, List.cons_append, List.nil_append, List.append_nil, Option.map_some, if_true, if_false, ite_true, ite_false, reduceIte, Nat.reduceAdd, Nat.reduceSub, Nat.reduceLeDiff, Nat.reduceEqDiff, Nat.sub_self, Nat.zero_add, Option.map_none, decide_true, decide_false, Bool.not_true, Bool.not_false, hd0, i1, app_ok hlen])
    obtain ⟨G, hG, hsort⟩ := sort_lines (put1 F m' b')
    refine ⟨some G, .more (by rw [hr]; exact e) (by rw [hr, hw]; exact hG), ?_⟩
    have hs2 : sortX (.list (putL m' b' F)) = some (.list (G.map lineD)) := hsort
    have hfl : DL.flatB (.tuple (G.map lineD)) = true := flat_lines G
    rw [putL_nil] at k1
    simp [m_put_in, runP, b_put_in, sQ, sIf, sN, qFz, qB, qAnd, qOr, qNot, qYes, e1, DL.e2, eV, eC, eN, eI, eIf, eAnd, eOr, eFz, eSl, oS, oN, aN, aC, aX, sAsg, sAsgO, sRet, sRetO, sRetN, sDrop, sSet, sSetX, sAugI, sMut, sPar, sPat, sParM, mN, mC, DL.setM, iSeq, iN, gN, gT, gC, gZ, outP, outF, outI, en0, stillE, Sl.still, Sl.own, Sl.put, p1, tupD, lstD, mkT, mkL, DL.e3, sl1, sl2, sl3, sl4, sl0, sl5, sl6, sl7, sl8, List.length_cons, List.length_nil, List.length_map, List.getElem?_cons_zero, List.getElem?_cons_succ, List.set_cons_zero, List.set_cons_succ, List.map_cons, List.map_nil, List.replicate, List.cons_append, List.nil_append, List.append_nil, Option.map_some, if_true, if_false, ite_true, ite_false, reduceIte, Nat.reduceAdd, Nat.reduceSub, Nat.reduceLeDiff, Nat.reduceEqDiff, Nat.sub_self, Nat.zero_add, Option.map_none, decide_true, decide_false, Bool.not_true, Bool.not_false, h, h2, a1, a2, k1, hs2, hfl, oflD]
    rfl
theorem meet_key (dF dA : PyData) : ∀ (B F : List Ln) (s3 s4 : Sl), Rr F → (∀ l ∈ B, l.1 < 2 ^ 16) → ∃ o, Meet F B o ∧
    ((∃ G t3 t4, o = some G ∧ forD (gT 2 (gC (gN 3) (gC (gN 4) gZ))) (sQ (sAsg 2 (eN m_put_in (aC (eV 2) (aC (eV 3) (aC (eV 4) aN))))) (sIf (qB (e2 isN (eV 2) (eC .none))) (sRet (eC .none)) sN)) (B.map lineD) [.d dF, .d dA, .d (flatD F), s3, s4] = some (.nx [.d dF, .d dA, .d (flatD G), t3, t4])) ∨
     (o = none ∧ ∃ ρ', forD (gT 2 (gC (gN 3) (gC (gN 4) gZ))) (sQ (sAsg 2 (eN m_put_in (aC (eV 2) (aC (eV 3) (aC (eV 4) aN))))) (sIf (qB (e2 isN (eV 2) (eC .none))) (sRet (eC .none)) sN)) (B.map lineD) [.d dF, .d dA, .d (flatD F), s3, s4] = some (.ret .none ρ'))) := by
  intro B
  induction B with
  | nil => intro F s3 s4 r _; exact ⟨some F, .nil, .inl ⟨F, s3, s4, rfl, rfl⟩⟩
  | cons l B ih =>
    intro F s3 s4 r hB
    have l16 := hB l (List.mem_cons_self ..)
    obtain ⟨o, hp, hm⟩ := put_ok r l16 l.2
    have h2 := isN_ofl o
    rw [List.map_cons]
    cases o with
    | none =>
      refine ⟨none, .stop hp, .inr ⟨rfl, _, forD_ret (ρ1 := [.d dF, .d dA, .d (flatD F), .d (rowD l.1), .d (bitD l.2)]) rfl (ρ2 := [.d dF, .d dA, .d .none, .d (rowD l.1), .d (bitD l.2)]) ?_⟩⟩
      have h2' : isN .none .none = some (.bool true) := rfl
      have hm' : m_put_in [flatD F, rowD l.1, bitD l.2] = some .none := hm
      simp [sQ, sIf, sN, qFz, qB, qAnd, qOr, qNot, qYes, e1, DL.e2, eV, eC, eN, eI, eIf, eAnd, eOr, eFz, eSl, oS, oN, aN, aC, aX, sAsg, sAsgO, sRet, sRetO, sRetN, sDrop, sSet, sSetX, sAugI, sMut, sPar, sPat, sParM, mN, mC, DL.setM, iSeq, iN, gN, gT, gC, gZ, outP, outF, outI, en0, stillE, Sl.still, Sl.own, Sl.put, p1, tupD, lstD, mkT, mkL, DL.e3, sl1, sl2, sl3, sl4, sl0, sl5, sl6, sl7, sl8, List.length_cons, List.length_nil, List.length_map, List.getElem?_cons_zero, List.getElem?_cons_succ, List.set_cons_zero, List.set_cons_succ, List.map_cons, List.map_nil, List.replicate, List.cons_append, List.nil_append, List.append_nil, Option.map_some, if_true, if_false, ite_true, ite_false, reduceIte, Nat.reduceAdd, Nat.reduceSub, Nat.reduceLeDiff, Nat.reduceEqDiff, Nat.sub_self, Nat.zero_add, Option.map_none, decide_true, decide_false, Bool.not_true, Bool.not_false, hm', h2']
    | some G =>
      obtain ⟨r2, _⟩ := (hp.sem r l16).2 G rfl
      have hgo : ∀ φ : List PyData → En → Option Fw, True := fun _ => trivial
      have e : forD (gT 2 (gC (gN 3) (gC (gN 4) gZ))) (sQ (sAsg 2 (eN m_put_in (aC (eV 2) (aC (eV 3) (aC (eV 4) aN))))) (sIf (qB (e2 isN (eV 2) (eC .none))) (sRet (eC .none)) sN)) (lineD l :: B.map lineD) [.d dF, .d dA, .d (flatD F), s3, s4] = forD (gT 2 (gC (gN 3) (gC (gN 4) gZ))) (sQ (sAsg 2 (eN m_put_in (aC (eV 2) (aC (eV 3) (aC (eV 4) aN))))) (sIf (qB (e2 isN (eV 2) (eC .none))) (sRet (eC .none)) sN)) (B.map lineD) [.d dF, .d dA, .d (flatD G), .d (rowD l.1), .d (bitD l.2)] := by
        refine forD_go (ρ1 := [.d dF, .d dA, .d (flatD F), .d (rowD l.1), .d (bitD l.2)]) rfl ?_
        have h2' : isN (flatD G) .none = some (.bool false) := h2
        have hm' : m_put_in [flatD F, rowD l.1, bitD l.2] = some (flatD G) := hm
        simp [sQ, sIf, sN, qFz, qB, qAnd, qOr, qNot, qYes, e1, DL.e2, eV, eC, eN, eI, eIf, eAnd, eOr, eFz, eSl, oS, oN, aN, aC, aX, sAsg, sAsgO, sRet, sRetO, sRetN, sDrop, sSet, sSetX, sAugI, sMut, sPar, sPat, sParM, mN, mC, DL.setM, iSeq, iN, gN, gT, gC, gZ, outP, outF, outI, en0, stillE, Sl.still, Sl.own, Sl.put, p1, tupD, lstD, mkT, mkL, DL.e3, sl1, sl2, sl3, sl4, sl0, sl5, sl6, sl7, sl8, List.length_cons, List.length_nil, List.length_map, List.getElem?_cons_zero, List.getElem?_cons_succ, List.set_cons_zero, List.set_cons_succ, List.map_cons, List.map_nil, List.replicate, List.cons_append, List.nil_append, List.append_nil, Option.map_some, if_true, if_false, ite_true, ite_false, reduceIte, Nat.reduceAdd, Nat.reduceSub, Nat.reduceLeDiff, Nat.reduceEqDiff, Nat.sub_self, Nat.zero_add, Option.map_none, decide_true, decide_false, Bool.not_true, Bool.not_false, hm', h2']
      rw [e]
      obtain ⟨o, h3, h4⟩ := ih G (.d (rowD l.1)) (.d (bitD l.2)) r2 fun k hk => hB k (List.mem_cons_of_mem _ hk)
      exact ⟨o, .go hp h3, h4⟩
theorem meet_ok {F A : List Ln} (r : Rr F) (rA : Rr A) : ∃ o, Meet F A o ∧ m_meet [flatD F, flatD A] = some (oflD o) := by
  obtain ⟨o, h1, h2⟩ := meet_key (flatD F) (flatD A) A F .u .u r fun l hl => (rA.pos l hl).2
  refine ⟨o, h1, ?_⟩
  rcases h2 with ⟨G, t3, t4, rfl, h⟩ | ⟨rfl, ρ', h⟩
  · simp [m_meet, runP, b_meet, sQ, sIf, sN, qFz, qB, qAnd, qOr, qNot, qYes, e1, DL.e2, eV, eC, eN, eI, eIf, eAnd, eOr, eFz, eSl, oS, oN, aN, aC, aX, sAsg, sAsgO, sRet, sRetO, sRetN, sDrop, sSet, sSetX, sAugI, sMut, sPar, sPat, sParM, mN, mC, DL.setM, iSeq, iN, gN, gT, gC, gZ, outP, outF, outI, en0, stillE, Sl.still, Sl.own, Sl.put, p1, tupD, lstD, mkT, mkL, DL.e3, sl1, sl2, sl3, sl4, sl0, sl5, sl6, sl7, sl8, List.length_cons, List.length_nil, List.length_map, List.getElem?_cons_zero, List.getElem?_cons_succ, List.set_cons_zero, List.set_cons_succ, List.map_cons, List.map_nil, List.replicate, List.cons_append, List.nil_append, List.append_nil, Option.map_some, if_true, if_false, ite_true, ite_false, reduceIte, Nat.reduceAdd, Nat.reduceSub, Nat.reduceLeDiff, Nat.reduceEqDiff, Nat.sub_self, Nat.zero_add, Option.map_none, decide_true, decide_false, Bool.not_true, Bool.not_false, sFor, seqOf_flat, h, oflD]
  · simp [m_meet, runP, b_meet, sQ, sIf, sN, qFz, qB, qAnd, qOr, qNot, qYes, e1, DL.e2, eV, eC, eN, eI, eIf, eAnd, eOr, eFz, eSl, oS, oN, aN, aC, aX, sAsg, sAsgO, sRet, sRetO, sRetN, sDrop, sSet, sSetX, sAugI, sMut, sPar, sPat, sParM, mN, mC, DL.setM, iSeq, iN, gN, gT, gC, gZ, outP, outF, outI, en0, stillE, Sl.still, Sl.own, Sl.put, p1, tupD, lstD, mkT, mkL, DL.e3, sl1, sl2, sl3, sl4, sl0, sl5, sl6, sl7, sl8, List.length_cons, List.length_nil, List.length_map, List.getElem?_cons_zero, List.getElem?_cons_succ, List.set_cons_zero, List.set_cons_succ, List.map_cons, List.map_nil, List.replicate, List.cons_append, List.nil_append, List.append_nil, Option.map_some, if_true, if_false, ite_true, ite_false, reduceIte, Nat.reduceAdd, Nat.reduceSub, Nat.reduceLeDiff, Nat.reduceEqDiff, Nat.sub_self, Nat.zero_add, Option.map_none, decide_true, decide_false, Bool.not_true, Bool.not_false, sFor, seqOf_flat, h, oflD]
theorem newRow_key {F : List Ln} (r : Rr F) (df : PyData) : ∀ (f : List Ln) (s2 s3 s4 : Sl), (∀ l ∈ f, l.1 < 2 ^ 16) →
    (newRow F f = 0 ∧ ∃ t2 t3 t4, forD (gT 2 (gC (gN 2) (gC (gN 3) gZ))) (sQ (sAsg 4 (eN m_reduced (aC (eV 0) (aC (eV 2) aN)))) (sIf (qB (e2 neD (eV 4) (eN mkT aN))) (sRet (eV 4)) sN)) (f.map lineD) [.d (flatD F), .d df, s2, s3, s4] = some (.nx [.d (flatD F), .d df, t2, t3, t4])) ∨
    ∃ ρ', forD (gT 2 (gC (gN 2) (gC (gN 3) gZ))) (sQ (sAsg 4 (eN m_reduced (aC (eV 0) (aC (eV 2) aN)))) (sIf (qB (e2 neD (eV 4) (eN mkT aN))) (sRet (eV 4)) sN)) (f.map lineD) [.d (flatD F), .d df, s2, s3, s4] = some (.ret (rowD (newRow F f)) ρ') := by
  intro f
  induction f with
  | nil => intro s2 s3 s4 _; exact .inl ⟨rfl, s2, s3, s4, rfl⟩
  | cons l f ih =>
    intro s2 s3 s4 hf
    have l16 := hf l (List.mem_cons_self ..)
    have h1 := reduced_ok r l16
    have lt := led_lt (w := false) (fun l hl => (r.pos l hl).2) l16
    have h2 := neD_row_nil lt
    rw [List.map_cons]
    unfold newRow
    by_cases e : (led F l.1 false).1 = 0
    · rw [if_neg (by simpa using e)]
      have e2 : forD (gT 2 (gC (gN 2) (gC (gN 3) gZ))) (sQ (sAsg 4 (eN m_reduced (aC (eV 0) (aC (eV 2) aN)))) (sIf (qB (e2 neD (eV 4) (eN mkT aN))) (sRet (eV 4)) sN)) (lineD l :: f.map lineD) [.d (flatD F), .d df, s2, s3, s4] = forD (gT 2 (gC (gN 2) (gC (gN 3) gZ))) (sQ (sAsg 4 (eN m_reduced (aC (eV 0) (aC (eV 2) aN)))) (sIf (qB (e2 neD (eV 4) (eN mkT aN))) (sRet (eV 4)) sN)) (f.map lineD) [.d (flatD F), .d df, .d (rowD l.1), .d (bitD l.2), .d (rowD (led F l.1 false).1)] := by
        refine forD_go (ρ1 := [.d (flatD F), .d df, .d (rowD l.1), .d (bitD l.2), s4]) rfl ?_
        simp [e] at h2
        simp [sQ, sIf, sN, qFz, qB, qAnd, qOr, qNot, qYes, e1, DL.e2, eV, eC, eN, eI, eIf, eAnd, eOr, eFz, eSl, oS, oN, aN, aC, aX, sAsg, sAsgO, sRet, sRetO, sRetN, sDrop, sSet, sSetX, sAugI, sMut, sPar, sPat, sParM, mN, mC, DL.setM, iSeq, iN, gN, gT, gC, gZ, outP, outF, outI, en0, stillE, Sl.still, Sl.own, Sl.put, p1, tupD, lstD, mkT, mkL, DL.e3, sl1, sl2, sl3, sl4, sl0, sl5, sl6, sl7, sl8, List.length_cons, List.length_nil, List.length_map, List.getElem?_cons_zero, List.getElem?_cons_succ, List.set_cons_zero, List.set_cons_succ, List.map_cons, List.map_nil, List.replicate, List.cons_append, List.nil_append, List.append_nil, Option.map_some, if_true, if_false, ite_true, ite_false, reduceIte, Nat.reduceAdd, Nat.reduceSub, Nat.reduceLeDiff, Nat.reduceEqDiff, Nat.sub_self, Nat.zero_add, Option.map_none, decide_true, decide_false, Bool.not_true, Bool.not_false, h1, h2, e]
      rw [e2]
      exact ih _ _ _ fun k hk => hf k (List.mem_cons_of_mem _ hk)
    · rw [if_pos e]
      refine .inr ⟨_, forD_ret (ρ1 := [.d (flatD F), .d df, .d (rowD l.1), .d (bitD l.2), s4]) rfl (ρ2 := [.d (flatD F), .d df, .d (rowD l.1), .d (bitD l.2), .d (rowD (led F l.1 false).1)]) ?_⟩
      simp [e] at h2
      simp [sQ, sIf, sN, qFz, qB, qAnd, qOr, qNot, qYes, e1, DL.e2, eV, eC, eN, eI, eIf, eAnd, eOr, eFz, eSl, oS, oN, aN, aC, aX, sAsg, sAsgO, sRet, sRetO, sRetN, sDrop, sSet, sSetX, sAugI, sMut, sPar, sPat, sParM, mN, mC, DL.setM, iSeq, iN, gN, gT, gC, gZ, outP, outF, outI, en0, stillE, Sl.still, Sl.own, Sl.put, p1, tupD, lstD, mkT, mkL, DL.e3, sl1, sl2, sl3, sl4, sl0, sl5, sl6, sl7, sl8, List.length_cons, List.length_nil, List.length_map, List.getElem?_cons_zero, List.getElem?_cons_succ, List.set_cons_zero, List.set_cons_succ, List.map_cons, List.map_nil, List.replicate, List.cons_append, List.nil_append, List.append_nil, Option.map_some, if_true, if_false, ite_true, ite_false, reduceIte, Nat.reduceAdd, Nat.reduceSub, Nat.reduceLeDiff, Nat.reduceEqDiff, Nat.sub_self, Nat.zero_add, Option.map_none, decide_true, decide_false, Bool.not_true, Bool.not_false, h1, h2]
theorem newRow_ok {F f : List Ln} (r : Rr F) (rf : Rr f) : m_new_row [flatD F, flatD f] = some (rowD (newRow F f)) := by
  rcases newRow_key r (flatD f) f .u .u .u fun l hl => (rf.pos l hl).2 with ⟨e, t2, t3, t4, h⟩ | ⟨ρ', h⟩
  · rw [e]
    simp [m_new_row, runP, b_new_row, sQ, sIf, sN, qFz, qB, qAnd, qOr, qNot, qYes, e1, DL.e2, eV, eC, eN, eI, eIf, eAnd, eOr, eFz, eSl, oS, oN, aN, aC, aX, sAsg, sAsgO, sRet, sRetO, sRetN, sDrop, sSet, sSetX, sAugI, sMut, sPar, sPat, sParM, mN, mC, DL.setM, iSeq, iN, gN, gT, gC, gZ, outP, outF, outI, en0, stillE, Sl.still, Sl.own, Sl.put, p1, tupD, lstD, mkT, mkL, DL.e3, sl1, sl2, sl3, sl4, sl0, sl5, sl6, sl7, sl8, List.length_cons, List.length_nil, List.length_map, List.getElem?_cons_zero, List.getElem?_cons_succ, List.set_cons_zero, List.set_cons_succ, List.map_cons, List.map_nil, List.replicate, List.cons_append, List.nil_append, List.append_nil, Option.map_some, if_true, if_false, ite_true, ite_false, reduceIte, Nat.reduceAdd, Nat.reduceSub, Nat.reduceLeDiff, Nat.reduceEqDiff, Nat.sub_self, Nat.zero_add, Option.map_none, decide_true, decide_false, Bool.not_true, Bool.not_false, sFor, seqOf_flat, h, rowD_zero]
  · simp [m_new_row, runP, b_new_row, sQ, sIf, sN, qFz, qB, qAnd, qOr, qNot, qYes, e1, DL.e2, eV, eC, eN, eI, eIf, eAnd, eOr, eFz, eSl, oS, oN, aN, aC, aX, sAsg, sAsgO, sRet, sRetO, sRetN, sDrop, sSet, sSetX, sAugI, sMut, sPar, sPat, sParM, mN, mC, DL.setM, iSeq, iN, gN, gT, gC, gZ, outP, outF, outI, en0, stillE, Sl.still, Sl.own, Sl.put, p1, tupD, lstD, mkT, mkL, DL.e3, sl1, sl2, sl3, sl4, sl0, sl5, sl6, sl7, sl8, List.length_cons, List.length_nil, List.length_map, List.getElem?_cons_zero, List.getElem?_cons_succ, List.set_cons_zero, List.set_cons_succ, List.map_cons, List.map_nil, List.replicate, List.cons_append, List.nil_append, List.append_nil, Option.map_some, if_true, if_false, ite_true, ite_false, reduceIte, Nat.reduceAdd, Nat.reduceSub, Nat.reduceLeDiff, Nat.reduceEqDiff, Nat.sub_self, Nat.zero_add, Option.map_none, decide_true, decide_false, Bool.not_true, Bool.not_false, sFor, seqOf_flat, h]
def liesB (F A : List Ln) : Bool := A.all fun l => decide (told F l.1 = some l.2)
def cutR (F A B : List Ln) (oA oB : Option (List Ln)) : PyData :=
  if (liesB F A || liesB F B) = true then .tuple [] else match oA, oB with
    | some f, some s => if f.length = F.length + 1 ∧ s.length = F.length + 1 then (if told s (newRow F f) ≠ none ∧ told s (newRow F f) ≠ told f (newRow F f) then rowD (newRow F f) else .none) else .none
    | _, _ => .none
theorem len_flat (F : List Ln) : lenX (flatD F) = some (.int (F.length : Nat)) := by show some (PyData.int ((F.map lineD).length : Nat)) = _; rw [List.length_map]
theorem neD_int' (i j : Int) : neD (.int i) (.int j) = some (.bool (!decide (i = j))) := neD_int i j
theorem newRow_lt {F f : List Ln} (r : Rr F) (rf : Rr f) : newRow F f < 2 ^ 16 := by
  rcases newRow_spec F f with ⟨e, _⟩ | ⟨l, hl, e, _⟩
  · rw [e]; decide
  · rw [e]; exact led_lt (fun l hl => (r.pos l hl).2) (rf.pos l hl).2
theorem cut_by_ok {F A B : List Ln} (r : Rr F) (rA : Rr A) (rB : Rr B) : ∃ oA oB, Meet F A oA ∧ Meet F B oB ∧ m_cut_by [flatD F, flatD A, flatD B] = some (cutR F A B oA oB) := by
  obtain ⟨oA, mA, hA⟩ := meet_ok r rA
  obtain ⟨oB, mB, hB⟩ := meet_ok r rB
  refine ⟨oA, oB, mA, mB, ?_⟩
  have l1 := lies_ok r rA
  have l2 := lies_ok r rB
  have e1 : (A.all fun l => decide (told F l.1 = some l.2)) = liesB F A := rfl
  have e2 : (B.all fun l => decide (told F l.1 = some l.2)) = liesB F B := rfl
  rw [e1] at l1
  rw [e2] at l2
  unfold cutR
  cases hl1 : liesB F A with
  | true =>
    rw [hl1] at l1
    simp [m_cut_by, runP, b_cut_by, sQ, sIf, sN, qFz, qB, qAnd, qOr, qNot, qYes, e1, DL.e2, eV, eC, eN, eI, eIf, eAnd, eOr, eFz, eSl, oS, oN, aN, aC, aX, sAsg, sAsgO, sRet, sRetO, sRetN, sDrop, sSet, sSetX, sAugI, sMut, sPar, sPat, sParM, mN, mC, DL.setM, iSeq, iN, gN, gT, gC, gZ, outP, outF, outI, en0, stillE, Sl.still, Sl.own, Sl.put, p1, tupD, lstD, mkT, mkL, DL.e3, sl1, sl2, sl3, sl4, sl0, sl5, sl6, sl7, sl8, List.length_cons, List.length_nil, List.length_map, List.getElem?_cons_zero, List.getElem?_cons_succ, List.set_cons_zero, List.set_cons_succ, List.map_cons, List.map_nil, List.replicate, List.cons_append, List.nil_append, List.append_nil, Option.map_some, if_true, if_false, ite_true, ite_false, reduceIte, Nat.reduceAdd, Nat.reduceSub, Nat.reduceLeDiff, Nat.reduceEqDiff, Nat.sub_self, Nat.zero_add, Option.map_none, decide_true, decide_false, Bool.not_true, Bool.not_false, l1]
  | false =>
    rw [hl1] at l1
    cases hl2 : liesB F B with
    | true =>
      rw [hl2] at l2
      simp [m_cut_by, runP, b_cut_by, sQ, sIf, sN, qFz, qB, qAnd, qOr, qNot, qYes, e1, DL.e2, eV, eC, eN, eI, eIf, eAnd, eOr, eFz, eSl, oS, oN, aN, aC, aX, sAsg, sAsgO, sRet, sRetO, sRetN, sDrop, sSet, sSetX, sAugI, sMut, sPar, sPat, sParM, mN, mC, DL.setM, iSeq, iN, gN, gT, gC, gZ, outP, outF, outI, en0, stillE, Sl.still, Sl.own, Sl.put, p1, tupD, lstD, mkT, mkL, DL.e3, sl1, sl2, sl3, sl4, sl0, sl5, sl6, sl7, sl8, List.length_cons, List.length_nil, List.length_map, List.getElem?_cons_zero, List.getElem?_cons_succ, List.set_cons_zero, List.set_cons_succ, List.map_cons, List.map_nil, List.replicate, List.cons_append, List.nil_append, List.append_nil, Option.map_some, if_true, if_false, ite_true, ite_false, reduceIte, Nat.reduceAdd, Nat.reduceSub, Nat.reduceLeDiff, Nat.reduceEqDiff, Nat.sub_self, Nat.zero_add, Option.map_none, decide_true, decide_false, Bool.not_true, Bool.not_false, l1, l2]
    | false =>
      rw [hl2] at l2
      have n1 : isN .none .none = some (.bool true) := rfl
      cases oA with
      | none =>
        have hA' : m_meet [flatD F, flatD A] = some .none := hA
        simp [m_cut_by, runP, b_cut_by, sQ, sIf, sN, qFz, qB, qAnd, qOr, qNot, qYes, e1, DL.e2, eV, eC, eN, eI, eIf, eAnd, eOr, eFz, eSl, oS, oN, aN, aC, aX, sAsg, sAsgO, sRet, sRetO, sRetN, sDrop, sSet, sSetX, sAugI, sMut, sPar, sPat, sParM, mN, mC, DL.setM, iSeq, iN, gN, gT, gC, gZ, outP, outF, outI, en0, stillE, Sl.still, Sl.own, Sl.put, p1, tupD, lstD, mkT, mkL, DL.e3, sl1, sl2, sl3, sl4, sl0, sl5, sl6, sl7, sl8, List.length_cons, List.length_nil, List.length_map, List.getElem?_cons_zero, List.getElem?_cons_succ, List.set_cons_zero, List.set_cons_succ, List.map_cons, List.map_nil, List.replicate, List.cons_append, List.nil_append, List.append_nil, Option.map_some, if_true, if_false, ite_true, ite_false, reduceIte, Nat.reduceAdd, Nat.reduceSub, Nat.reduceLeDiff, Nat.reduceEqDiff, Nat.sub_self, Nat.zero_add, Option.map_none, decide_true, decide_false, Bool.not_true, Bool.not_false, l1, l2, hA', hB, n1]
      | some f =>
        have hA' : m_meet [flatD F, flatD A] = some (flatD f) := hA
        have n2 : isN (flatD f) .none = some (.bool false) := rfl
        cases oB with
        | none =>
          have hB' : m_meet [flatD F, flatD B] = some .none := hB
          simp [m_cut_by, runP, b_cut_by, sQ, sIf, sN, qFz, qB, qAnd, qOr, qNot, qYes, e1, DL.e2, eV, eC, eN, eI, eIf, eAnd, eOr, eFz, eSl, oS, oN, aN, aC, aX, sAsg, sAsgO, sRet, sRetO, sRetN, sDrop, sSet, sSetX, sAugI, sMut, sPar, sPat, sParM, mN, mC, DL.setM, iSeq, iN, gN, gT, gC, gZ, outP, outF, outI, en0, stillE, Sl.still, Sl.own, Sl.put, p1, tupD, lstD, mkT, mkL, DL.e3, sl1, sl2, sl3, sl4, sl0, sl5, sl6, sl7, sl8, List.length_cons, List.length_nil, List.length_map, List.getElem?_cons_zero, List.getElem?_cons_succ, List.set_cons_zero, List.set_cons_succ, List.map_cons, List.map_nil, List.replicate, List.cons_append, List.nil_append, List.append_nil, Option.map_some, if_true, if_false, ite_true, ite_false, reduceIte, Nat.reduceAdd, Nat.reduceSub, Nat.reduceLeDiff, Nat.reduceEqDiff, Nat.sub_self, Nat.zero_add, Option.map_none, decide_true, decide_false, Bool.not_true, Bool.not_false, l1, l2, hA', hB', n1, n2]
        | some s =>
          have hB' : m_meet [flatD F, flatD B] = some (flatD s) := hB
          have n3 : isN (flatD s) .none = some (.bool false) := rfl
          have rf := ((mA.sem r fun l hl => (rA.pos l hl).2).2 f rfl).1
          have rs := ((mB.sem r fun l hl => (rB.pos l hl).2).2 s rfl).1
          have hn := newRow_ok r rf
          have lt := newRow_lt r rf
          have t1 := told_ok rs lt
          have t2 := told_ok rf lt
          have a1 : addD (.int (F.length : Nat)) (.int 1) = some (.int ((F.length : Nat) + 1)) := rfl
          have c1 := neD_int' (f.length : Nat) ((F.length : Nat) + 1)
          have c2 := neD_int' (s.length : Nat) ((F.length : Nat) + 1)
          have d1 := isNotN_opt (told s (newRow F f))
          have d2 := neD_opt (told s (newRow F f)) (told f (newRow F f))
          have q1 : decide ((f.length : Int) = (F.length : Int) + 1) = decide (f.length = F.length + 1) := by simp only [decide_eq_decide]; omega
          have q2 : decide ((s.length : Int) = (F.length : Int) + 1) = decide (s.length = F.length + 1) := by simp only [decide_eq_decide]; omega
          rw [q1] at c1
          rw [q2] at c2
          show m_cut_by _ = some (if (false || false) = true then _ else (if f.length = F.length + 1 ∧ s.length = F.length + 1 then (if told s (newRow F f) ≠ none ∧ told s (newRow F f) ≠ told f (newRow F f) then rowD (newRow F f) else .none) else .none))
          rw [if_neg (by decide)]
          generalize told s (newRow F f) = ts at t1 d1 d2
          generalize told f (newRow F f) = tf at t2 d2
          by_cases k1 : f.length = F.length + 1
          · rw [decide_eq_true k1] at c1
            by_cases k2 : s.length = F.length + 1
            · rw [decide_eq_true k2] at c2
              rw [if_pos ⟨k1, k2⟩]
              by_cases k3 : ts = none
              · rw [if_neg (fun h => h.1 k3)]
                rw [decide_eq_true k3] at d1
                simp [m_cut_by, runP, b_cut_by, sQ, sIf, sN, qFz, qB, qAnd, qOr, qNot, qYes, e1, DL.e2, eV, eC, eN, eI, eIf, eAnd, eOr, eFz, eSl, oS, oN, aN, aC, aX, sAsg, sAsgO, sRet, sRetO, sRetN, sDrop, sSet, sSetX, sAugI, sMut, sPar, sPat, sParM, mN, mC, DL.setM, iSeq, iN, gN, gT, gC, gZ, outP, outF, outI, en0, stillE, Sl.still, Sl.own, Sl.put, p1, tupD, lstD, mkT, mkL, DL.e3, sl1, sl2, sl3, sl4, sl0, sl5, sl6, sl7, sl8, List.length_cons, List.length_nil, List.length_map, List.getElem?_cons_zero, List.getElem?_cons_succ, List.set_cons_zero, List.set_cons_succ, List.map_cons, List.map_nil, List.replicate, List.cons_append, List.nil_append, List.append_nil, Option.map_some, if_true, if_false, ite_true, ite_false, reduceIte, Nat.reduceAdd, Nat.reduceSub, Nat.reduceLeDiff, Nat.reduceEqDiff, Nat.sub_self, Nat.zero_add, Option.map_none, decide_true, decide_false, Bool.not_true, Bool.not_false, l1, l2, hA', hB', n2, n3, len_flat, a1, c1, c2, hn, t1, t2, d1]
              · rw [decide_eq_false k3] at d1
                by_cases k4 : ts = tf
                · rw [if_neg (fun h => h.2 k4)]
                  rw [decide_eq_true k4] at d2
                  simp [m_cut_by, runP, b_cut_by, sQ, sIf, sN, qFz, qB, qAnd, qOr, qNot, qYes, e1, DL.e2, eV, eC, eN, eI, eIf, eAnd, eOr, eFz, eSl, oS, oN, aN, aC, aX, sAsg, sAsgO, sRet, sRetO, sRetN, sDrop, sSet, sSetX, sAugI, sMut, sPar, sPat, sParM, mN, mC, DL.setM, iSeq, iN, gN, gT, gC, gZ, outP, outF, outI, en0, stillE, Sl.still, Sl.own, Sl.put, p1, tupD, lstD, mkT, mkL, DL.e3, sl1, sl2, sl3, sl4, sl0, sl5, sl6, sl7, sl8, List.length_cons, List.length_nil, List.length_map, List.getElem?_cons_zero, List.getElem?_cons_succ, List.set_cons_zero, List.set_cons_succ, List.map_cons, List.map_nil, List.replicate, List.cons_append, List.nil_append, List.append_nil, Option.map_some, if_true, if_false, ite_true, ite_false, reduceIte, Nat.reduceAdd, Nat.reduceSub, Nat.reduceLeDiff, Nat.reduceEqDiff, Nat.sub_self, Nat.zero_add, Option.map_none, decide_true, decide_false, Bool.not_true, Bool.not_false, l1, l2, hA', hB', n2, n3, len_flat, a1, c1, c2, hn, t1, t2, d1, d2]
                · rw [if_pos ⟨k3, k4⟩]
                  rw [decide_eq_false k4] at d2
                  simp [m_cut_by, runP, b_cut_by, sQ, sIf, sN, qFz, qB, qAnd, qOr, qNot, qYes, e1, DL.e2, eV, eC, eN, eI, eIf, eAnd, eOr, eFz, eSl, oS, oN, aN, aC, aX, sAsg, sAsgO, sRet, sRetO, sRetN, sDrop, sSet, sSetX, sAugI, sMut, sPar, sPat, sParM, mN, mC, DL.setM, iSeq, iN, gN, gT, gC, gZ, outP, outF, outI, en0, stillE, Sl.still, Sl.own, Sl.put, p1, tupD, lstD, mkT, mkL, DL.e3, sl1, sl2, sl3, sl4, sl0, sl5, sl6, sl7, sl8, List.length_cons, List.length_nil, List.length_map, List.getElem?_cons_zero, List.getElem?_cons_succ, List.set_cons_zero, List.set_cons_succ, List.map_cons, List.map_nil, List.replicate, List.cons_append, List.nil_append, List.append_nil, Option.map_some, if_true, if_false, ite_true, ite_false, reduceIte, Nat.reduceAdd, Nat.reduceSub, Nat.reduceLeDiff, Nat.reduceEqDiff, Nat.sub_self, Nat.zero_add, Option.map_none, decide_true, decide_false, Bool.not_true, Bool.not_false, l1, l2, hA', hB', n2, n3, len_flat, a1, c1, c2, hn, t1, t2, d1, d2]
            · rw [decide_eq_false k2] at c2
              rw [if_neg (fun h => k2 h.2)]
              simp [m_cut_by, runP, b_cut_by, sQ, sIf, sN, qFz, qB, qAnd, qOr, qNot, qYes, e1, DL.e2, eV, eC, eN, eI, eIf, eAnd, eOr, eFz, eSl, oS, oN, aN, aC, aX, sAsg, sAsgO, sRet, sRetO, sRetN, sDrop, sSet, sSetX, sAugI, sMut, sPar, sPat, sParM, mN, mC, DL.setM, iSeq, iN, gN, gT, gC, gZ, outP, outF, outI, en0, stillE, Sl.still, Sl.own, Sl.put, p1, tupD, lstD, mkT, mkL, DL.e3, sl1, sl2, sl3, sl4, sl0, sl5, sl6, sl7, sl8, List.length_cons, List.length_nil, List.length_map, List.getElem?_cons_zero, List.getElem?_cons_succ, List.set_cons_zero, List.set_cons_succ, List.map_cons, List.map_nil, List.replicate, List.cons_append, List.nil_append, List.append_nil, Option.map_some, if_true, if_false, ite_true, ite_false, reduceIte, Nat.reduceAdd, Nat.reduceSub, Nat.reduceLeDiff, Nat.reduceEqDiff, Nat.sub_self, Nat.zero_add, Option.map_none, decide_true, decide_false, Bool.not_true, Bool.not_false, l1, l2, hA', hB', n2, n3, len_flat, a1, c1, c2]
          · rw [decide_eq_false k1] at c1
            rw [if_neg (fun h => k1 h.1)]
            simp [m_cut_by, runP, b_cut_by, sQ, sIf, sN, qFz, qB, qAnd, qOr, qNot, qYes, e1, DL.e2, eV, eC, eN, eI, eIf, eAnd, eOr, eFz, eSl, oS, oN, aN, aC, aX, sAsg, sAsgO, sRet, sRetO, sRetN, sDrop, sSet, sSetX, sAugI, sMut, sPar, sPat, sParM, mN, mC, DL.setM, iSeq, iN, gN, gT, gC, gZ, outP, outF, outI, en0, stillE, Sl.still, Sl.own, Sl.put, p1, tupD, lstD, mkT, mkL, DL.e3, sl1, sl2, sl3, sl4, sl0, sl5, sl6, sl7, sl8, List.length_cons, List.length_nil, List.length_map, List.getElem?_cons_zero, List.getElem?_cons_succ, List.set_cons_zero, List.set_cons_succ, List.map_cons, List.map_nil, List.replicate, List.cons_append, List.nil_append, List.append_nil, Option.map_some, if_true, if_false, ite_true, ite_false, reduceIte, Nat.reduceAdd, Nat.reduceSub, Nat.reduceLeDiff, Nat.reduceEqDiff, Nat.sub_self, Nat.zero_add, Option.map_none, decide_true, decide_false, Bool.not_true, Bool.not_false, l1, l2, hA', hB', n2, n3, len_flat, a1, c1]
/-! the law's own -/
theorem room_ok : ∀ n : Nat, 1 ≤ n → n < 8 → m_law_room [.int n] = some (roomD n)
  | 1, _, _ => by kernel_rfl
  | 2, _, _ => by kernel_rfl
  | 3, _, _ => by kernel_rfl
  | 4, _, _ => by kernel_rfl
  | 5, _, _ => by kernel_rfl
  | 6, _, _ => by kernel_rfl
  | 7, _, _ => by kernel_rfl
  | 0, h, _ => by omega
  | n + 8, _, h => by omega
theorem mask_ok {m : Nat} (h : m < 2 ^ 16) : m_law_mask [rowD m] = some (.int (m : Nat)) := by
  obtain ⟨ρ', k1, s, rfl⟩ := sFor_T (fun u : Nat => PyData.int (u : Int)) (bitsOf m) (it := (iSeq (eV 0))) (g := (gN 2)) (ψ := (sAsg 1 (e2 orD (eV 1) (e2 shlX (eC (.int 1)) (eV 2))))) (ρ := [.d (rowD m), .d (.int 0), .u]) (ρ0 := [.d (rowD m), .d (.int 0), .u]) (by simp [sQ, sIf, sN, qFz, qB, qAnd, qOr, qNot, qYes, e1, DL.e2, eV, eC, eN, eI, eIf, eAnd, eOr, eFz, eSl, oS, oN, aN, aC, aX, sAsg, sAsgO, sRet, sRetO, sRetN, sDrop, sSet, sSetX, sAugI, sMut, sPar, sPat, sParM, mN, mC, DL.setM, iSeq, iN, gN, gT, gC, gZ, outP, outF, outI, en0, stillE, Sl.still, Sl.own, Sl.put, p1, tupD, lstD, mkT, mkL, DL.e3, sl1, sl2, sl3, sl4, sl0, sl5, sl6, sl7, sl8, List.length_cons, List.length_nil, List.length_map, List.getElem?_cons_zero, List.getElem?_cons_succ, List.set_cons_zero, List.set_cons_succ, List.map_cons, List.map_nil, List.replicate, List.cons_append, List.nil_append, List.append_nil, Option.map_some, if_true, if_false, ite_true, ite_false, reduceIte, Nat.reduceAdd, Nat.reduceSub, Nat.reduceLeDiff, Nat.reduceEqDiff, Nat.sub_self, Nat.zero_add, Option.map_none, decide_true, decide_false, Bool.not_true, Bool.not_false, seqOf_row, natsD])
    (fun dn ρ => ∃ s : Sl, ρ = [.d (rowD m), .d (.int ((dn.foldl (fun f u => f ||| 2 ^ u) 0 : Nat) : Int)), s])
    ⟨.u, rfl⟩
    (fun dn u rest ρ ed ⟨s, e⟩ => by
      subst e
      have hu : u ≤ 1000 := by
        have : u ∈ bitsOf m := by rw [ed]; simp
        have := (mem_bits.mp this).1
        omega
      refine ⟨[.d (rowD m), .d (.int ((dn.foldl (fun f u => f ||| 2 ^ u) 0 : Nat) : Int)), .d (.int (u : Int))], _, rfl, ?_, .d (.int (u : Int)), rfl⟩
      have h1 := shl_one hu
      have h2 := orD_nn (dn.foldl (fun f u => f ||| 2 ^ u) 0) (2 ^ u)
      rw [List.foldl_append]
      generalize dn.foldl (fun f u => f ||| 2 ^ u) 0 = g at h2
      simp [sQ, sIf, sN, qFz, qB, qAnd, qOr, qNot, qYes, e1, DL.e2, eV, eC, eN, eI, eIf, eAnd, eOr, eFz, eSl, oS, oN, aN, aC, aX, sAsg, sAsgO, sRet, sRetO, sRetN, sDrop, sSet, sSetX, sAugI, sMut, sPar, sPat, sParM, mN, mC, DL.setM, iSeq, iN, gN, gT, gC, gZ, outP, outF, outI, en0, stillE, Sl.still, Sl.own, Sl.put, p1, tupD, lstD, mkT, mkL, DL.e3, sl1, sl2, sl3, sl4, sl0, sl5, sl6, sl7, sl8, List.length_cons, List.length_nil, List.length_map, List.getElem?_cons_zero, List.getElem?_cons_succ, List.set_cons_zero, List.set_cons_succ, List.map_cons, List.map_nil, List.replicate, List.cons_append, List.nil_append, List.append_nil, Option.map_some, if_true, if_false, ite_true, ite_false, reduceIte, Nat.reduceAdd, Nat.reduceSub, Nat.reduceLeDiff, Nat.reduceEqDiff, Nat.sub_self, Nat.zero_add, Option.map_none, decide_true, decide_false, Bool.not_true, Bool.not_false] at *
      simp [sQ, sIf, sN, qFz, qB, qAnd, qOr, qNot, qYes, e1, DL.e2, eV, eC, eN, eI, eIf, eAnd, eOr, eFz, eSl, oS, oN, aN, aC, aX, sAsg, sAsgO, sRet, sRetO, sRetN, sDrop, sSet, sSetX, sAugI, sMut, sPar, sPat, sParM, mN, mC, DL.setM, iSeq, iN, gN, gT, gC, gZ, outP, outF, outI, en0, stillE, Sl.still, Sl.own, Sl.put, p1, tupD, lstD, mkT, mkL, DL.e3, sl1, sl2, sl3, sl4, sl0, sl5, sl6, sl7, sl8, List.length_cons, List.length_nil, List.length_map, List.getElem?_cons_zero, List.getElem?_cons_succ, List.set_cons_zero, List.set_cons_succ, List.map_cons, List.map_nil, List.replicate, List.cons_append, List.nil_append, List.append_nil, Option.map_some, if_true, if_false, ite_true, ite_false, reduceIte, Nat.reduceAdd, Nat.reduceSub, Nat.reduceLeDiff, Nat.reduceEqDiff, Nat.sub_self, Nat.zero_add, Option.map_none, decide_true, decide_false, Bool.not_true, Bool.not_false, h1, h2])
  rw [or_bits h] at k1
  have e0 : PyData.int ((([] : List Nat).foldl (fun f u => f ||| 2 ^ u) 0 : Nat) : Int) = .int 0 := rfl
  simp [m_law_mask, runP, b_law_mask, sQ, sIf, sN, qFz, qB, qAnd, qOr, qNot, qYes, e1, DL.e2, eV, eC, eN, eI, eIf, eAnd, eOr, eFz, eSl, oS, oN, aN, aC, aX, sAsg, sAsgO, sRet, sRetO, sRetN, sDrop, sSet, sSetX, sAugI, sMut, sPar, sPat, sParM, mN, mC, DL.setM, iSeq, iN, gN, gT, gC, gZ, outP, outF, outI, en0, stillE, Sl.still, Sl.own, Sl.put, p1, tupD, lstD, mkT, mkL, DL.e3, sl1, sl2, sl3, sl4, sl0, sl5, sl6, sl7, sl8, List.length_cons, List.length_nil, List.length_map, List.getElem?_cons_zero, List.getElem?_cons_succ, List.set_cons_zero, List.set_cons_succ, List.map_cons, List.map_nil, List.replicate, List.cons_append, List.nil_append, List.append_nil, Option.map_some, if_true, if_false, ite_true, ite_false, reduceIte, Nat.reduceAdd, Nat.reduceSub, Nat.reduceLeDiff, Nat.reduceEqDiff, Nat.sub_self, Nat.zero_add, Option.map_none, decide_true, decide_false, Bool.not_true, Bool.not_false, k1]
theorem lawrow_ok {m : Nat} (h : m < 2 ^ 16) : m_law_row [.int (m : Nat)] = some (rowD m) := by
  obtain ⟨br1, br2⟩ := bits_range h
  have hr : rng1 [.int ((Builtin.Int.intBits (m : Int) : Nat) : Int)] = some ((List.range (Builtin.Int.intBits (m : Int))).map fun u : Nat => PyData.int (u : Int)) := by
    show (if -(2 ^ 62) ≤ ((Builtin.Int.intBits (m : Int) : Nat) : Int) ∧ ((Builtin.Int.intBits (m : Int) : Nat) : Int) ≤ 16777216 then some (upI 0 ((Builtin.Int.intBits (m : Int) : Nat) : Int).toNat) else none) = _
    rw [if_pos ⟨by omega, by omega⟩, Int.toNat_natCast]
    unfold upI
    simp
  have key := eLc_T (vs := [1]) (it := iN rng1 (aC (e1 bitsD (eV 0)) aN)) (g := gN 1) (q := qB (e2 eqD (e2 andD (e2 shrD (eV 0) (eV 1)) (eC (.int 1))) (eC (.int 1)))) (a := eV 1) (ρ := [.d (.int (m : Nat)), .u]) (ρ0 := [.d (.int (m : Nat)), .u])
    (fun u : Nat => PyData.int (u : Int)) (List.range (Builtin.Int.intBits (m : Int))) (by simp [sQ, sIf, sN, qFz, qB, qAnd, qOr, qNot, qYes, e1, DL.e2, eV, eC, eN, eI, eIf, eAnd, eOr, eFz, eSl, oS, oN, aN, aC, aX, sAsg, sAsgO, sRet, sRetO, sRetN, sDrop, sSet, sSetX, sAugI, sMut, sPar, sPat, sParM, mN, mC, DL.setM, iSeq, iN, gN, gT, gC, gZ, outP, outF, outI, en0, stillE, Sl.still, Sl.own, Sl.put, p1, tupD, lstD, mkT, mkL, DL.e3, sl1, sl2, sl3, sl4, sl0, sl5, sl6, sl7, sl8, List.length_cons, List.length_nil, List.length_map, List.getElem?_cons_zero, List.getElem?_cons_succ, List.set_cons_zero, List.set_cons_succ, List.map_cons, List.map_nil, List.replicate, List.cons_append, List.nil_append, List.append_nil, Option.map_some, if_true, if_false, ite_true, ite_false, reduceIte, Nat.reduceAdd, Nat.reduceSub, Nat.reduceLeDiff, Nat.reduceEqDiff, Nat.sub_self, Nat.zero_add, Option.map_none, decide_true, decide_false, Bool.not_true, Bool.not_false, bitsD, hr]) rfl rfl (fun u => m.testBit u) (fun u => .int (u : Int)) (fun u hu => by
      refine ⟨[.d (.int (m : Nat)), .d (.int (u : Int))], [.d (.int (m : Nat)), .d (.int (u : Int))], rfl, ?_, fun _ => ⟨_, rfl, rfl⟩, fun _ => rfl⟩
      obtain ⟨b, c, h3, h1, h2⟩ := bit_test3 m u
      simp [sQ, sIf, sN, qFz, qB, qAnd, qOr, qNot, qYes, e1, DL.e2, eV, eC, eN, eI, eIf, eAnd, eOr, eFz, eSl, oS, oN, aN, aC, aX, sAsg, sAsgO, sRet, sRetO, sRetN, sDrop, sSet, sSetX, sAugI, sMut, sPar, sPat, sParM, mN, mC, DL.setM, iSeq, iN, gN, gT, gC, gZ, outP, outF, outI, en0, stillE, Sl.still, Sl.own, Sl.put, p1, tupD, lstD, mkT, mkL, DL.e3, sl1, sl2, sl3, sl4, sl0, sl5, sl6, sl7, sl8, List.length_cons, List.length_nil, List.length_map, List.getElem?_cons_zero, List.getElem?_cons_succ, List.set_cons_zero, List.set_cons_succ, List.map_cons, List.map_nil, List.replicate, List.cons_append, List.nil_append, List.append_nil, Option.map_some, if_true, if_false, ite_true, ite_false, reduceIte, Nat.reduceAdd, Nat.reduceSub, Nat.reduceLeDiff, Nat.reduceEqDiff, Nat.sub_self, Nat.zero_add, Option.map_none, decide_true, decide_false, Bool.not_true, Bool.not_false, h1, h2, h3])
  rw [br1] at key
  simp [m_law_row, runP, b_law_row, sQ, sIf, sN, qFz, qB, qAnd, qOr, qNot, qYes, e1, DL.e2, eV, eC, eN, eI, eIf, eAnd, eOr, eFz, eSl, oS, oN, aN, aC, aX, sAsg, sAsgO, sRet, sRetO, sRetN, sDrop, sSet, sSetX, sAugI, sMut, sPar, sPat, sParM, mN, mC, DL.setM, iSeq, iN, gN, gT, gC, gZ, outP, outF, outI, en0, stillE, Sl.still, Sl.own, Sl.put, p1, tupD, lstD, mkT, mkL, DL.e3, sl1, sl2, sl3, sl4, sl0, sl5, sl6, sl7, sl8, List.length_cons, List.length_nil, List.length_map, List.getElem?_cons_zero, List.getElem?_cons_succ, List.set_cons_zero, List.set_cons_succ, List.map_cons, List.map_nil, List.replicate, List.cons_append, List.nil_append, List.append_nil, Option.map_some, if_true, if_false, ite_true, ite_false, reduceIte, Nat.reduceAdd, Nat.reduceSub, Nat.reduceLeDiff, Nat.reduceEqDiff, Nat.sub_self, Nat.zero_add, Option.map_none, decide_true, decide_false, Bool.not_true, Bool.not_false, key]
  rfl
theorem held_ok {n : Nat} (hn : n < 8) {l : Ln} (hl : l.1 < 2 ^ n) : m_law_held [roomD n, lineD l] = some (.int (heldN n l : Nat)) := by
  obtain ⟨ρ', k1, s, rfl⟩ := sFor_T (fun u : Nat => PyData.int (u : Int)) (bitsOf l.1) (it := (iSeq (e2 ixX (eV 1) (eC (.int 0))))) (g := (gN 3)) (ψ := (sAsg 2 (e2 xorD (eV 2) (e2 ixX (e2 ixX (eV 0) (eC (.int 2))) (eV 3))))) (ρ := [.d (roomD n), .d (lineD l), .d (.int 0), .u]) (ρ0 := [.d (roomD n), .d (lineD l), .d (.int 0), .u]) (by simp [sQ, sIf, sN, qFz, qB, qAnd, qOr, qNot, qYes, e1, DL.e2, eV, eC, eN, eI, eIf, eAnd, eOr, eFz, eSl, oS, oN, aN, aC, aX, sAsg, sAsgO, sRet, sRetO, sRetN, sDrop, sSet, sSetX, sAugI, sMut, sPar, sPat, sParM, mN, mC, DL.setM, iSeq, iN, gN, gT, gC, gZ, outP, outF, outI, en0, stillE, Sl.still, Sl.own, Sl.put, p1, tupD, lstD, mkT, mkL, DL.e3, sl1, sl2, sl3, sl4, sl0, sl5, sl6, sl7, sl8, List.length_cons, List.length_nil, List.length_map, List.getElem?_cons_zero, List.getElem?_cons_succ, List.set_cons_zero, List.set_cons_succ, List.map_cons, List.map_nil, List.replicate, List.cons_append, List.nil_append, List.append_nil, Option.map_some, if_true, if_false, ite_true, ite_false, reduceIte, Nat.reduceAdd, Nat.reduceSub, Nat.reduceLeDiff, Nat.reduceEqDiff, Nat.sub_self, Nat.zero_add, Option.map_none, decide_true, decide_false, Bool.not_true, Bool.not_false, ixX_line0, seqOf_row, natsD])
    (fun dn ρ => ∃ s : Sl, ρ = [.d (roomD n), .d (lineD l), .d (.int ((dn.foldl (fun f u => f ^^^ colN n u) 0 : Nat) : Int)), s])
    ⟨.u, rfl⟩
    (fun dn u rest ρ ed ⟨s, e⟩ => by
      subst e
      have hu : u < n := bits_below hl u (by rw [ed]; simp)
      refine ⟨[.d (roomD n), .d (lineD l), .d (.int ((dn.foldl (fun f u => f ^^^ colN n u) 0 : Nat) : Int)), .d (.int (u : Int))], _, rfl, ?_, .d (.int (u : Int)), rfl⟩
      have h1 : ixX (roomD n) (.int 2) = some (.tuple (natsD (colsN n))) := ixX_t2 _ _ _ _
      have h2 : ixX (.tuple (natsD (colsN n))) (.int (u : Int)) = some (.int (colN n u : Nat)) := by
        show atI (natsD (colsN n)) (u : Int) = _
        refine atI_int ?_
        unfold natsD colsN
        rw [List.getElem?_map, List.getElem?_map, List.getElem?_range hu]
        rfl
      have h3 := xorD_nn (dn.foldl (fun f u => f ^^^ colN n u) 0) (colN n u)
      rw [List.foldl_append]
      generalize dn.foldl (fun f u => f ^^^ colN n u) 0 = g at h3
      simp [sQ, sIf, sN, qFz, qB, qAnd, qOr, qNot, qYes, e1, DL.e2, eV, eC, eN, eI, eIf, eAnd, eOr, eFz, eSl, oS, oN, aN, aC, aX, sAsg, sAsgO, sRet, sRetO, sRetN, sDrop, sSet, sSetX, sAugI, sMut, sPar, sPat, sParM, mN, mC, DL.setM, iSeq, iN, gN, gT, gC, gZ, outP, outF, outI, en0, stillE, Sl.still, Sl.own, Sl.put, p1, tupD, lstD, mkT, mkL, DL.e3, sl1, sl2, sl3, sl4, sl0, sl5, sl6, sl7, sl8, List.length_cons, List.length_nil, List.length_map, List.getElem?_cons_zero, List.getElem?_cons_succ, List.set_cons_zero, List.set_cons_succ, List.map_cons, List.map_nil, List.replicate, List.cons_append, List.nil_append, List.append_nil, Option.map_some, if_true, if_false, ite_true, ite_false, reduceIte, Nat.reduceAdd, Nat.reduceSub, Nat.reduceLeDiff, Nat.reduceEqDiff, Nat.sub_self, Nat.zero_add, Option.map_none, decide_true, decide_false, Bool.not_true, Bool.not_false] at *
      simp [sQ, sIf, sN, qFz, qB, qAnd, qOr, qNot, qYes, e1, DL.e2, eV, eC, eN, eI, eIf, eAnd, eOr, eFz, eSl, oS, oN, aN, aC, aX, sAsg, sAsgO, sRet, sRetO, sRetN, sDrop, sSet, sSetX, sAugI, sMut, sPar, sPat, sParM, mN, mC, DL.setM, iSeq, iN, gN, gT, gC, gZ, outP, outF, outI, en0, stillE, Sl.still, Sl.own, Sl.put, p1, tupD, lstD, mkT, mkL, DL.e3, sl1, sl2, sl3, sl4, sl0, sl5, sl6, sl7, sl8, List.length_cons, List.length_nil, List.length_map, List.getElem?_cons_zero, List.getElem?_cons_succ, List.set_cons_zero, List.set_cons_succ, List.map_cons, List.map_nil, List.replicate, List.cons_append, List.nil_append, List.append_nil, Option.map_some, if_true, if_false, ite_true, ite_false, reduceIte, Nat.reduceAdd, Nat.reduceSub, Nat.reduceLeDiff, Nat.reduceEqDiff, Nat.sub_self, Nat.zero_add, Option.map_none, decide_true, decide_false, Bool.not_true, Bool.not_false, h1, h2, h3])
  have h4 : eqD (bitD l.2) (.int 1) = some (.bool l.2) := by unfold bitD; rw [eqD_int]; cases l.2 <;> rfl
  have h5 : ixX (roomD n) (.int 1) = some (.int (fullN n : Nat)) := ixX_t1 _ _ _
  have h6 := xorD_nn (fullN n) (colX n l.1)
  have h7 : ((bitsOf l.1).foldl (fun f u => f ^^^ colN n u) 0 : Nat) = colX n l.1 := rfl
  rw [h7] at k1
  unfold heldN
  cases e : l.2 with
  | true =>
    rw [e] at h4
    rw [if_pos rfl]
    simp [m_law_held, runP, b_law_held, sQ, sIf, sN, qFz, qB, qAnd, qOr, qNot, qYes, e1, DL.e2, eV, eC, eN, eI, eIf, eAnd, eOr, eFz, eSl, oS, oN, aN, aC, aX, sAsg, sAsgO, sRet, sRetO, sRetN, sDrop, sSet, sSetX, sAugI, sMut, sPar, sPat, sParM, mN, mC, DL.setM, iSeq, iN, gN, gT, gC, gZ, outP, outF, outI, en0, stillE, Sl.still, Sl.own, Sl.put, p1, tupD, lstD, mkT, mkL, DL.e3, sl1, sl2, sl3, sl4, sl0, sl5, sl6, sl7, sl8, List.length_cons, List.length_nil, List.length_map, List.getElem?_cons_zero, List.getElem?_cons_succ, List.set_cons_zero, List.set_cons_succ, List.map_cons, List.map_nil, List.replicate, List.cons_append, List.nil_append, List.append_nil, Option.map_some, if_true, if_false, ite_true, ite_false, reduceIte, Nat.reduceAdd, Nat.reduceSub, Nat.reduceLeDiff, Nat.reduceEqDiff, Nat.sub_self, Nat.zero_add, Option.map_none, decide_true, decide_false, Bool.not_true, Bool.not_false, k1, ixX_line1, e, h4]
  | false =>
    rw [e] at h4
    rw [if_neg (by decide)]
    simp [m_law_held, runP, b_law_held, sQ, sIf, sN, qFz, qB, qAnd, qOr, qNot, qYes, e1, DL.e2, eV, eC, eN, eI, eIf, eAnd, eOr, eFz, eSl, oS, oN, aN, aC, aX, sAsg, sAsgO, sRet, sRetO, sRetN, sDrop, sSet, sSetX, sAugI, sMut, sPar, sPat, sParM, mN, mC, DL.setM, iSeq, iN, gN, gT, gC, gZ, outP, outF, outI, en0, stillE, Sl.still, Sl.own, Sl.put, p1, tupD, lstD, mkT, mkL, DL.e3, sl1, sl2, sl3, sl4, sl0, sl5, sl6, sl7, sl8, List.length_cons, List.length_nil, List.length_map, List.getElem?_cons_zero, List.getElem?_cons_succ, List.set_cons_zero, List.set_cons_succ, List.map_cons, List.map_nil, List.replicate, List.cons_append, List.nil_append, List.append_nil, Option.map_some, if_true, if_false, ite_true, ite_false, reduceIte, Nat.reduceAdd, Nat.reduceSub, Nat.reduceLeDiff, Nat.reduceEqDiff, Nat.sub_self, Nat.zero_add, Option.map_none, decide_true, decide_false, Bool.not_true, Bool.not_false, k1, ixX_line1, e, h4, h5, h6]
theorem in_ok {n : Nat} (hn : n < 8) {F : List Ln} (hF : ∀ l ∈ F, l.1 < 2 ^ n) : m_law_in [roomD n, flatD F] = some (.int (inN n F : Nat)) := by
  have h5 : ixX (roomD n) (.int 1) = some (.int (fullN n : Nat)) := ixX_t1 _ _ _
  obtain ⟨ρ', k1, s, rfl⟩ := sFor_T lineD F (it := (iSeq (eV 1))) (g := (gN 3)) (ψ := (sAsg 2 (e2 andD (eV 2) (eN m_law_held (aC (eV 0) (aC (eV 3) aN)))))) (ρ := [.d (roomD n), .d (flatD F), .d (.int (fullN n : Nat)), .u]) (ρ0 := [.d (roomD n), .d (flatD F), .d (.int (fullN n : Nat)), .u]) (by simp [sQ, sIf, sN, qFz, qB, qAnd, qOr, qNot, qYes, e1, DL.e2, eV, eC, eN, eI, eIf, eAnd, eOr, eFz, eSl, oS, oN, aN, aC, aX, sAsg, sAsgO, sRet, sRetO, sRetN, sDrop, sSet, sSetX, sAugI, sMut, sPar, sPat, sParM, mN, mC, DL.setM, iSeq, iN, gN, gT, gC, gZ, outP, outF, outI, en0, stillE, Sl.still, Sl.own, Sl.put, p1, tupD, lstD, mkT, mkL, DL.e3, sl1, sl2, sl3, sl4, sl0, sl5, sl6, sl7, sl8, List.length_cons, List.length_nil, List.length_map, List.getElem?_cons_zero, List.getElem?_cons_succ, List.set_cons_zero, List.set_cons_succ, List.map_cons, List.map_nil, List.replicate, List.cons_append, List.nil_append, List.append_nil, Option.map_some, if_true, if_false, ite_true, ite_false, reduceIte, Nat.reduceAdd, Nat.reduceSub, Nat.reduceLeDiff, Nat.reduceEqDiff, Nat.sub_self, Nat.zero_add, Option.map_none, decide_true, decide_false, Bool.not_true, Bool.not_false, seqOf_flat])
    (fun dn ρ => ∃ s : Sl, ρ = [.d (roomD n), .d (flatD F), .d (.int ((dn.foldl (fun f l => f &&& heldN n l) (fullN n) : Nat) : Int)), s])
    ⟨.u, rfl⟩
    (fun dn l rest ρ ed ⟨s, e⟩ => by
      subst e
      have hl : l.1 < 2 ^ n := hF l (by rw [ed]; simp)
      refine ⟨[.d (roomD n), .d (flatD F), .d (.int ((dn.foldl (fun f l => f &&& heldN n l) (fullN n) : Nat) : Int)), .d (lineD l)], _, rfl, ?_, .d (lineD l), rfl⟩
      have h1 := held_ok hn hl
      have h3 := andD_nn (dn.foldl (fun f l => f &&& heldN n l) (fullN n)) (heldN n l)
      rw [List.foldl_append]
      generalize dn.foldl (fun f l => f &&& heldN n l) (fullN n) = g at h3
      simp [sQ, sIf, sN, qFz, qB, qAnd, qOr, qNot, qYes, e1, DL.e2, eV, eC, eN, eI, eIf, eAnd, eOr, eFz, eSl, oS, oN, aN, aC, aX, sAsg, sAsgO, sRet, sRetO, sRetN, sDrop, sSet, sSetX, sAugI, sMut, sPar, sPat, sParM, mN, mC, DL.setM, iSeq, iN, gN, gT, gC, gZ, outP, outF, outI, en0, stillE, Sl.still, Sl.own, Sl.put, p1, tupD, lstD, mkT, mkL, DL.e3, sl1, sl2, sl3, sl4, sl0, sl5, sl6, sl7, sl8, List.length_cons, List.length_nil, List.length_map, List.getElem?_cons_zero, List.getElem?_cons_succ, List.set_cons_zero, List.set_cons_succ, List.map_cons, List.map_nil, List.replicate, List.cons_append, List.nil_append, List.append_nil, Option.map_some, if_true, if_false, ite_true, ite_false, reduceIte, Nat.reduceAdd, Nat.reduceSub, Nat.reduceLeDiff, Nat.reduceEqDiff, Nat.sub_self, Nat.zero_add, Option.map_none, decide_true, decide_false, Bool.not_true, Bool.not_false] at *
      simp [sQ, sIf, sN, qFz, qB, qAnd, qOr, qNot, qYes, e1, DL.e2, eV, eC, eN, eI, eIf, eAnd, eOr, eFz, eSl, oS, oN, aN, aC, aX, sAsg, sAsgO, sRet, sRetO, sRetN, sDrop, sSet, sSetX, sAugI, sMut, sPar, sPat, sParM, mN, mC, DL.setM, iSeq, iN, gN, gT, gC, gZ, outP, outF, outI, en0, stillE, Sl.still, Sl.own, Sl.put, p1, tupD, lstD, mkT, mkL, DL.e3, sl1, sl2, sl3, sl4, sl0, sl5, sl6, sl7, sl8, List.length_cons, List.length_nil, List.length_map, List.getElem?_cons_zero, List.getElem?_cons_succ, List.set_cons_zero, List.set_cons_succ, List.map_cons, List.map_nil, List.replicate, List.cons_append, List.nil_append, List.append_nil, Option.map_some, if_true, if_false, ite_true, ite_false, reduceIte, Nat.reduceAdd, Nat.reduceSub, Nat.reduceLeDiff, Nat.reduceEqDiff, Nat.sub_self, Nat.zero_add, Option.map_none, decide_true, decide_false, Bool.not_true, Bool.not_false, h1, h3])
  have h7 : (F.foldl (fun f l => f &&& heldN n l) (fullN n) : Nat) = inN n F := rfl
  rw [h7] at k1
  simp [m_law_in, runP, b_law_in, sQ, sIf, sN, qFz, qB, qAnd, qOr, qNot, qYes, e1, DL.e2, eV, eC, eN, eI, eIf, eAnd, eOr, eFz, eSl, oS, oN, aN, aC, aX, sAsg, sAsgO, sRet, sRetO, sRetN, sDrop, sSet, sSetX, sAugI, sMut, sPar, sPat, sParM, mN, mC, DL.setM, iSeq, iN, gN, gT, gC, gZ, outP, outF, outI, en0, stillE, Sl.still, Sl.own, Sl.put, p1, tupD, lstD, mkT, mkL, DL.e3, sl1, sl2, sl3, sl4, sl0, sl5, sl6, sl7, sl8, List.length_cons, List.length_nil, List.length_map, List.getElem?_cons_zero, List.getElem?_cons_succ, List.set_cons_zero, List.set_cons_succ, List.map_cons, List.map_nil, List.replicate, List.cons_append, List.nil_append, List.append_nil, Option.map_some, if_true, if_false, ite_true, ite_false, reduceIte, Nat.reduceAdd, Nat.reduceSub, Nat.reduceLeDiff, Nat.reduceEqDiff, Nat.sub_self, Nat.zero_add, Option.map_none, decide_true, decide_false, Bool.not_true, Bool.not_false, h5, k1]
theorem rng_ok {n : Nat} (h : n ≤ 16777216) : rng1 [.int (n : Int)] = some ((List.range n).map fun u : Nat => PyData.int (u : Int)) := by
  show (if -(2 ^ 62) ≤ (n : Int) ∧ (n : Int) ≤ 16777216 then some (upI 0 (n : Int).toNat) else none) = _
  rw [if_pos ⟨by omega, by omega⟩, Int.toNat_natCast]
  unfold upI
  simp
theorem heads_ok {F : List Ln} (hF : ∀ l ∈ F, l.1 ≠ 0 ∧ l.1 < 2 ^ 16) {s0 s2 s3 s4 s5 : Sl} : eLc [6] (iSeq (eV 1)) (gN 6) qYes (DL.e2 ixX (DL.e2 ixX (eV 6) (eC (.int 0))) (eC (.int 0))) [s0, .d (flatD F), s2, s3, s4, s5, .u] = some (.list (natsD (F.map fun l => hd l.1)), [s0, .d (flatD F), s2, s3, s4, s5, .u]) := by
  have key := eLc_M (vs := [6]) (it := iSeq (eV 1)) (g := gN 6) (a := DL.e2 ixX (DL.e2 ixX (eV 6) (eC (.int 0))) (eC (.int 0))) (ρ := [s0, .d (flatD F), s2, s3, s4, s5, .u]) lineD F rfl rfl rfl (fun l => .int (hd l.1 : Nat)) (fun l hl => by
    refine ⟨[s0, .d (flatD F), s2, s3, s4, s5, .d (lineD l)], [s0, .d (flatD F), s2, s3, s4, s5, .d (lineD l)], rfl, ?_, rfl⟩
    have h1 := row_head (hF l hl).1 (hF l hl).2
    simp [sQ, sIf, sN, qFz, qB, qAnd, qOr, qNot, qYes, e1, DL.e2, eV, eC, eN, eI, eIf, eAnd, eOr, eFz, eSl, oS, oN, aN, aC, aX, sAsg, sAsgO, sRet, sRetO, sRetN, sDrop, sSet, sSetX, sAugI, sMut, sPar, sPat, sParM, mN, mC, DL.setM, iSeq, iN, gN, gT, gC, gZ, outP, outF, outI, en0, stillE, Sl.still, Sl.own, Sl.put, p1, tupD, lstD, mkT, mkL, DL.e3, sl1, sl2, sl3, sl4, sl0, sl5, sl6, sl7, sl8, List.length_cons, List.length_nil, List.length_map, List.getElem?_cons_zero, List.getElem?_cons_succ, List.set_cons_zero, List.set_cons_succ, List.map_cons, List.map_nil, List.replicate, List.cons_append, List.nil_append, List.append_nil, Option.map_some, if_true, if_false, ite_true, ite_false, reduceIte, Nat.reduceAdd, Nat.reduceSub, Nat.reduceLeDiff, Nat.reduceEqDiff, Nat.sub_self, Nat.zero_add, Option.map_none, decide_true, decide_false, Bool.not_true, Bool.not_false, ixX_line0, h1])
  rw [key]
  unfold natsD
  rw [List.map_map]
  rfl
theorem free_ok {n : Nat} (hn : n < 8) {F : List Ln} (hF : ∀ l ∈ F, l.1 ≠ 0 ∧ l.1 < 2 ^ 16) {s2 s3 s5 : Sl} : eLc [4] (iN rng1 (aC (eV 0) aN)) (gN 4) (qB (DL.e2 ninX (eV 4) (eLc [6] (iSeq (eV 1)) (gN 6) qYes (DL.e2 ixX (DL.e2 ixX (eV 6) (eC (.int 0))) (eC (.int 0)))))) (eV 4) [.d (.int (n : Nat)), .d (flatD F), s2, s3, .u, s5, .u] =
    some (.list (natsD (freeN n F)), [.d (.int (n : Nat)), .d (flatD F), s2, s3, .u, s5, .u]) := by
  have key := eLc_T (vs := [4]) (it := iN rng1 (aC (eV 0) aN)) (g := gN 4) (q := qB (DL.e2 ninX (eV 4) (eLc [6] (iSeq (eV 1)) (gN 6) qYes (DL.e2 ixX (DL.e2 ixX (eV 6) (eC (.int 0))) (eC (.int 0)))))) (a := eV 4) (ρ := [.d (.int (n : Nat)), .d (flatD F), s2, s3, .u, s5, .u]) (ρ0 := [.d (.int (n : Nat)), .d (flatD F), s2, s3, .u, s5, .u])
    (fun u : Nat => PyData.int (u : Int)) (List.range n) (by have h := rng_ok (n := n) (by omega); simp [sQ, sIf, sN, qFz, qB, qAnd, qOr, qNot, qYes, e1, DL.e2, eV, eC, eN, eI, eIf, eAnd, eOr, eFz, eSl, oS, oN, aN, aC, aX, sAsg, sAsgO, sRet, sRetO, sRetN, sDrop, sSet, sSetX, sAugI, sMut, sPar, sPat, sParM, mN, mC, DL.setM, iSeq, iN, gN, gT, gC, gZ, outP, outF, outI, en0, stillE, Sl.still, Sl.own, Sl.put, p1, tupD, lstD, mkT, mkL, DL.e3, sl1, sl2, sl3, sl4, sl0, sl5, sl6, sl7, sl8, List.length_cons, List.length_nil, List.length_map, List.getElem?_cons_zero, List.getElem?_cons_succ, List.set_cons_zero, List.set_cons_succ, List.map_cons, List.map_nil, List.replicate, List.cons_append, List.nil_append, List.append_nil, Option.map_some, if_true, if_false, ite_true, ite_false, reduceIte, Nat.reduceAdd, Nat.reduceSub, Nat.reduceLeDiff, Nat.reduceEqDiff, Nat.sub_self, Nat.zero_add, Option.map_none, decide_true, decide_false, Bool.not_true, Bool.not_false, h]) rfl rfl (fun u => !decide (u ∈ F.map fun l => hd l.1)) (fun u => .int (u : Int)) (fun u hu => by
      refine ⟨[.d (.int (n : Nat)), .d (flatD F), s2, s3, .d (.int (u : Int)), s5, .u], [.d (.int (n : Nat)), .d (flatD F), s2, s3, .d (.int (u : Int)), s5, .u], rfl, ?_, fun _ => ⟨_, rfl, rfl⟩, fun _ => rfl⟩
      have h1 := heads_ok hF (s0 := .d (.int (n : Nat))) (s2 := s2) (s3 := s3) (s4 := .d (.int (u : Int))) (s5 := s5)
      have h2 := (in_nats (l := F.map fun l => hd l.1) (i := u) fun i hi => by
        obtain ⟨l, hl, rfl⟩ := List.mem_map.mp hi
        have := (hd_some (hF l hl).1 (hF l hl).2).2.1
        omega).2.2.2
      generalize (F.map fun l => hd l.1) = hs at h1 h2
      simp [sQ, sIf, sN, qFz, qB, qAnd, qOr, qNot, qYes, e1, DL.e2, eV, eC, eN, eI, eIf, eAnd, eOr, eFz, eSl, oS, oN, aN, aC, aX, sAsg, sAsgO, sRet, sRetO, sRetN, sDrop, sSet, sSetX, sAugI, sMut, sPar, sPat, sParM, mN, mC, DL.setM, iSeq, iN, gN, gT, gC, gZ, outP, outF, outI, en0, stillE, Sl.still, Sl.own, Sl.put, p1, tupD, lstD, mkT, mkL, DL.e3, sl1, sl2, sl3, sl4, sl0, sl5, sl6, sl7, sl8, List.length_cons, List.length_nil, List.length_map, List.getElem?_cons_zero, List.getElem?_cons_succ, List.set_cons_zero, List.set_cons_succ, List.map_cons, List.map_nil, List.replicate, List.cons_append, List.nil_append, List.append_nil, Option.map_some, if_true, if_false, ite_true, ite_false, reduceIte, Nat.reduceAdd, Nat.reduceSub, Nat.reduceLeDiff, Nat.reduceEqDiff, Nat.sub_self, Nat.zero_add, Option.map_none, decide_true, decide_false, Bool.not_true, Bool.not_false, h1, h2])
  exact key
theorem masks_step {a : Nat} (ms : List Nat) (hl : ms.length ≤ 128) (hu : a ≤ 1000) {s0 s1 s2 s6 : Sl} : ∃ c, eLc [5] (iSeq (eV 3)) (gN 5) qYes (DL.e2 orD (eV 5) (DL.e2 shlX (eC (.int 1)) (eV 4))) [s0, s1, s2, .d (.list (natsD ms)), .d (.int (a : Int)), .u, s6] = some (c, [s0, s1, s2, .d (.list (natsD ms)), .d (.int (a : Int)), .u, s6]) ∧
    addD (.list (natsD ms)) c = some (.list (natsD (ms ++ ms.map fun m => m ||| 2 ^ a))) := by
  have key := eLc_M (vs := [5]) (it := iSeq (eV 3)) (g := gN 5) (a := DL.e2 orD (eV 5) (DL.e2 shlX (eC (.int 1)) (eV 4))) (ρ := [s0, s1, s2, .d (.list (natsD ms)), .d (.int (a : Int)), .u, s6]) (fun u : Nat => PyData.int (u : Int)) ms rfl rfl rfl (fun m => .int ((m ||| 2 ^ a : Nat) : Int)) (fun m hm => by
    refine ⟨[s0, s1, s2, .d (.list (natsD ms)), .d (.int (a : Int)), .d (.int (m : Int)), s6], [s0, s1, s2, .d (.list (natsD ms)), .d (.int (a : Int)), .d (.int (m : Int)), s6], rfl, ?_, rfl⟩
    have h1 := shl_one hu
    have h2 := orD_nn m (2 ^ a)
    generalize (m ||| 2 ^ a) = z at h2
    generalize ((2 ^ a : Nat) : Int) = y at h1 h2
    simp [sQ, sIf, sN, qFz, qB, qAnd, qOr, qNot, qYes, e1, DL.e2, eV, eC, eN, eI, eIf, eAnd, eOr, eFz, eSl, oS, oN, aN, aC, aX, sAsg, sAsgO, sRet, sRetO, sRetN, sDrop, sSet, sSetX, sAugI, sMut, sPar, sPat, sParM, mN, mC, DL.setM, iSeq, iN, gN, gT, gC, gZ, outP, outF, outI, en0, stillE, Sl.still, Sl.own, Sl.put, p1, tupD, lstD, mkT, mkL, DL.e3, sl1, sl2, sl3, sl4, sl0, sl5, sl6, sl7, sl8, List.length_cons, List.length_nil, List.length_map, List.getElem?_cons_zero, List.getElem?_cons_succ, List.set_cons_zero, List.set_cons_succ, List.map_cons, List.map_nil, List.replicate, List.cons_append, List.nil_append, List.append_nil, Option.map_some, if_true, if_false, ite_true, ite_false, reduceIte, Nat.reduceAdd, Nat.reduceSub, Nat.reduceLeDiff, Nat.reduceEqDiff, Nat.sub_self, Nat.zero_add, Option.map_none, decide_true, decide_false, Bool.not_true, Bool.not_false, h1, h2])
  refine ⟨_, key, ?_⟩
  have e : (ms.map fun m => PyData.int ((m ||| 2 ^ a : Nat) : Int)) = natsD (ms.map fun m => m ||| 2 ^ a) := by unfold natsD; rw [List.map_map]; rfl
  rw [e]
  show (if _ then _ else none) = _
  rw [if_pos (by unfold natsD; rw [List.length_map, List.length_map, List.length_map, sizeLine_eq]; omega)]
  unfold natsD
  rw [List.map_append]
theorem cut_tail (x : PyData) (t : List PyData) : cutD (x :: t) (some 1) none = t := by
  have h1 : HT.sIx (x :: t).length 0 (some 1) = 1 := by
    unfold HT.sIx
    simp
  have h2 : HT.sIx (x :: t).length (x :: t).length none = (x :: t).length := rfl
  unfold cutD
  rw [h1, h2, List.drop_one, List.tail_cons, List.length_cons]
  simp
theorem beside_ok {n : Nat} (hn : n < 8) {F : List Ln} (hF : ∀ l ∈ F, l.1 ≠ 0 ∧ l.1 < 2 ^ 16) : m_law_rows_beside [.int (n : Nat), flatD F] = some (.list ((besideN n F).map rowD)) := by
  have hlen : (freeN n F).length ≤ n := by
    unfold freeN
    have := List.length_filter_le (fun u => !decide (u ∈ F.map fun l => hd l.1)) (List.range n)
    rw [List.length_range] at this
    exact this
  obtain ⟨ρ', k1, s, rfl⟩ := sFor_T (fun u : Nat => PyData.int (u : Int)) (freeN n F) (it := (iSeq (eV 2))) (g := (gN 4)) (ψ := (sAsg 3 (e2 addD (eV 3) (eLc [5] (iSeq (eV 3)) (gN 5) qYes (e2 orD (eV 5) (e2 shlX (eC (.int 1)) (eV 4))))))) (ρ := [.d (.int (n : Nat)), .d (flatD F), .d (.list (natsD (freeN n F))), .d (.list (natsD [0])), .u, .u, .u]) (ρ0 := [.d (.int (n : Nat)), .d (flatD F), .d (.list (natsD (freeN n F))), .d (.list (natsD [0])), .u, .u, .u]) (by simp [sQ, sIf, sN, qFz, qB, qAnd, qOr, qNot, qYes, e1, DL.e2, eV, eC, eN, eI, eIf, eAnd, eOr, eFz, eSl, oS, oN, aN, aC, aX, sAsg, sAsgO, sRet, sRetO, sRetN, sDrop, sSet, sSetX, sAugI, sMut, sPar, sPat, sParM, mN, mC, DL.setM, iSeq, iN, gN, gT, gC, gZ, outP, outF, outI, en0, stillE, Sl.still, Sl.own, Sl.put, p1, tupD, lstD, mkT, mkL, DL.e3, sl1, sl2, sl3, sl4, sl0, sl5, sl6, sl7, sl8, List.length_cons, List.length_nil, List.length_map, List.getElem?_cons_zero, List.getElem?_cons_succ, List.set_cons_zero, List.set_cons_succ, List.map_cons, List.map_nil, List.replicate, List.cons_append, List.nil_append, List.append_nil, Option.map_some, if_true, if_false, ite_true, ite_false, reduceIte, Nat.reduceAdd, Nat.reduceSub, Nat.reduceLeDiff, Nat.reduceEqDiff, Nat.sub_self, Nat.zero_add, Option.map_none, decide_true, decide_false, Bool.not_true, Bool.not_false, seqOf, natsD])
    (fun dn ρ => ∃ s : Sl, ρ = [.d (.int (n : Nat)), .d (flatD F), .d (.list (natsD (freeN n F))), .d (.list (natsD (masksN dn))), s, .u, .u])
    ⟨.u, rfl⟩
    (fun dn u rest ρ ed ⟨s, e⟩ => by
      subst e
      have nd := free_nodup n F
      rw [ed] at nd
      have ml := (masks_ok (List.nodup_append.mp nd).1).len
      have hd := congrArg List.length ed
      rw [List.length_append, List.length_cons] at hd
      have hp : (2 : Nat) ^ dn.length ≤ 2 ^ 7 := Nat.pow_le_pow_right (by decide) (by omega)
      have hu : u ≤ 1000 := by
        have : u ∈ freeN n F := by rw [ed]; simp
        have := (free_mem.mp this).1
        omega
      obtain ⟨c, h1, h2⟩ := masks_step (a := u) (masksN dn) (by omega) hu (s0 := .d (.int (n : Nat))) (s1 := .d (flatD F)) (s2 := .d (.list (natsD (freeN n F)))) (s6 := .u)
      refine ⟨[.d (.int (n : Nat)), .d (flatD F), .d (.list (natsD (freeN n F))), .d (.list (natsD (masksN dn))), .d (.int (u : Int)), .u, .u], _, rfl, ?_, .d (.int (u : Int)), rfl⟩
      have e2 : masksN (dn ++ [u]) = masksN dn ++ (masksN dn).map fun m => m ||| 2 ^ u := by unfold masksN; rw [List.foldl_append]; rfl
      rw [e2]
      generalize (masksN dn ++ (masksN dn).map fun m => m ||| 2 ^ u) = z at h2
      simp [sQ, sIf, sN, qFz, qB, qAnd, qOr, qNot, qYes, e1, DL.e2, eV, eC, eN, eI, eIf, eAnd, eOr, eFz, eSl, oS, oN, aN, aC, aX, sAsg, sAsgO, sRet, sRetO, sRetN, sDrop, sSet, sSetX, sAugI, sMut, sPar, sPat, sParM, mN, mC, DL.setM, iSeq, iN, gN, gT, gC, gZ, outP, outF, outI, en0, stillE, Sl.still, Sl.own, Sl.put, p1, tupD, lstD, mkT, mkL, DL.e3, sl1, sl2, sl3, sl4, sl0, sl5, sl6, sl7, sl8, List.length_cons, List.length_nil, List.length_map, List.getElem?_cons_zero, List.getElem?_cons_succ, List.set_cons_zero, List.set_cons_succ, List.map_cons, List.map_nil, List.replicate, List.cons_append, List.nil_append, List.append_nil, Option.map_some, if_true, if_false, ite_true, ite_false, reduceIte, Nat.reduceAdd, Nat.reduceSub, Nat.reduceLeDiff, Nat.reduceEqDiff, Nat.sub_self, Nat.zero_add, Option.map_none, decide_true, decide_false, Bool.not_true, Bool.not_false, h1, h2])
  obtain ⟨t, ht⟩ := (masks_ok (free_nodup n F)).fst
  have hb : besideN n F = t := by unfold besideN; rw [ht]; rfl
  rw [hb]
  have key := eLc_M (vs := [5]) (it := iSeq (eSl slD (eV 3) (oS (eC (.int 1))) oN)) (g := gN 5) (a := eN m_law_row (aC (eV 5) aN)) (ρ := [.d (.int (n : Nat)), .d (flatD F), .d (.list (natsD (freeN n F))), .d (.list (natsD (masksN (freeN n F)))), s, .u, .u]) (fun u : Nat => PyData.int (u : Int)) t (by
      rw [ht]
      have h1 : slD (.list (natsD (0 :: t))) (some 1) none = some (.list (natsD t)) := by
        show some (PyData.list (cutD (.int ((0 : Nat) : Int) :: natsD t) (some 1) none)) = _
        rw [cut_tail]
      generalize natsD (0 :: t) = z at h1
      simp [sQ, sIf, sN, qFz, qB, qAnd, qOr, qNot, qYes, e1, DL.e2, eV, eC, eN, eI, eIf, eAnd, eOr, eFz, eSl, oS, oN, aN, aC, aX, sAsg, sAsgO, sRet, sRetO, sRetN, sDrop, sSet, sSetX, sAugI, sMut, sPar, sPat, sParM, mN, mC, DL.setM, iSeq, iN, gN, gT, gC, gZ, outP, outF, outI, en0, stillE, Sl.still, Sl.own, Sl.put, p1, tupD, lstD, mkT, mkL, DL.e3, sl1, sl2, sl3, sl4, sl0, sl5, sl6, sl7, sl8, List.length_cons, List.length_nil, List.length_map, List.getElem?_cons_zero, List.getElem?_cons_succ, List.set_cons_zero, List.set_cons_succ, List.map_cons, List.map_nil, List.replicate, List.cons_append, List.nil_append, List.append_nil, Option.map_some, if_true, if_false, ite_true, ite_false, reduceIte, Nat.reduceAdd, Nat.reduceSub, Nat.reduceLeDiff, Nat.reduceEqDiff, Nat.sub_self, Nat.zero_add, Option.map_none, decide_true, decide_false, Bool.not_true, Bool.not_false, h1, seqOf, natsD]) rfl rfl rowD (fun m hm => by
    have h16 : m < 2 ^ 16 := by
      have := (beside_mem hn (F := F)).mp (by rw [hb]; exact hm)
      exact Nat.lt_of_lt_of_le this.2.1 (Nat.pow_le_pow_right (by decide) (by omega))
    refine ⟨[.d (.int (n : Nat)), .d (flatD F), .d (.list (natsD (freeN n F))), .d (.list (natsD (masksN (freeN n F)))), s, .d (.int (m : Int)), .u], [.d (.int (n : Nat)), .d (flatD F), .d (.list (natsD (freeN n F))), .d (.list (natsD (masksN (freeN n F)))), s, .d (.int (m : Int)), .u], rfl, ?_, rfl⟩
    have h1 := lawrow_ok h16
    simp [sQ, sIf, sN, qFz, qB, qAnd, qOr, qNot, qYes, e1, DL.e2, eV, eC, eN, eI, eIf, eAnd, eOr, eFz, eSl, oS, oN, aN, aC, aX, sAsg, sAsgO, sRet, sRetO, sRetN, sDrop, sSet, sSetX, sAugI, sMut, sPar, sPat, sParM, mN, mC, DL.setM, iSeq, iN, gN, gT, gC, gZ, outP, outF, outI, en0, stillE, Sl.still, Sl.own, Sl.put, p1, tupD, lstD, mkT, mkL, DL.e3, sl1, sl2, sl3, sl4, sl0, sl5, sl6, sl7, sl8, List.length_cons, List.length_nil, List.length_map, List.getElem?_cons_zero, List.getElem?_cons_succ, List.set_cons_zero, List.set_cons_succ, List.map_cons, List.map_nil, List.replicate, List.cons_append, List.nil_append, List.append_nil, Option.map_some, if_true, if_false, ite_true, ite_false, reduceIte, Nat.reduceAdd, Nat.reduceSub, Nat.reduceLeDiff, Nat.reduceEqDiff, Nat.sub_self, Nat.zero_add, Option.map_none, decide_true, decide_false, Bool.not_true, Bool.not_false, h1])
  have hfree := free_ok hn hF (s2 := .u) (s3 := .u) (s5 := .u)
  have e0 : natsD [0] = [.int 0] := rfl
  rw [e0] at k1
  simp [m_law_rows_beside, runP, b_law_rows_beside, sQ, sIf, sN, qFz, qB, qAnd, qOr, qNot, qYes, e1, DL.e2, eV, eC, eN, eI, eIf, eAnd, eOr, eFz, eSl, oS, oN, aN, aC, aX, sAsg, sAsgO, sRet, sRetO, sRetN, sDrop, sSet, sSetX, sAugI, sMut, sPar, sPat, sParM, mN, mC, DL.setM, iSeq, iN, gN, gT, gC, gZ, outP, outF, outI, en0, stillE, Sl.still, Sl.own, Sl.put, p1, tupD, lstD, mkT, mkL, DL.e3, sl1, sl2, sl3, sl4, sl0, sl5, sl6, sl7, sl8, List.length_cons, List.length_nil, List.length_map, List.getElem?_cons_zero, List.getElem?_cons_succ, List.set_cons_zero, List.set_cons_succ, List.map_cons, List.map_nil, List.replicate, List.cons_append, List.nil_append, List.append_nil, Option.map_some, if_true, if_false, ite_true, ite_false, reduceIte, Nat.reduceAdd, Nat.reduceSub, Nat.reduceLeDiff, Nat.reduceEqDiff, Nat.sub_self, Nat.zero_add, Option.map_none, decide_true, decide_false, Bool.not_true, Bool.not_false, hfree, k1, key]
theorem eqD_nat (a b : Nat) : eqD (.int (a : Int)) (.int (b : Int)) = some (.bool (decide (a = b))) := by
  rw [eqD_int]
  congr 2
  simp only [decide_eq_decide]
  omega
theorem neD_nat (a b : Nat) : neD (.int (a : Int)) (.int (b : Int)) = some (.bool (!decide (a = b))) := by
  rw [neD_int]
  congr 3
  simp only [decide_eq_decide]
  omega
theorem neD_ones {α : Type} (l : List α) (h : l.length ≤ 1000) : neD (.list (l.map fun _ => PyData.int 1)) (.list []) = some (.bool (!l.isEmpty)) := by
  have h1 : SeqAt.shaped (.list (l.map fun _ => PyData.int 1)) = true := ((NcL.of (ds := l.map fun _ => PyData.int 1) (D := 0) (W := 0) fun d hd => by
    obtain ⟨_, _, rfl⟩ := List.mem_map.mp hd
    exact Nc.int (by decide)).lst).shaped (by decide)
  have h2 : SeqAt.shaped (.list []) = true := by simp [SeqAt.shaped, PyData.canLay0, PyData.canLayAll0, PyData.depth, PyData.depthAll]
  show (if SeqAt.shaped (.list (l.map fun _ => PyData.int 1)) = true ∧ SeqAt.shaped (.list []) = true then some (PyData.bool (!PyData.eqv (.list (l.map fun _ => PyData.int 1)) (.list []))) else none) = _
  rw [if_pos ⟨h1, h2⟩]
  cases l with
  | nil => simp [PyData.eqv, PyData.eqvAll]
  | cons a l => simp [PyData.eqv, PyData.eqvAll]
def dueR (n : Nat) (F A B : List Ln) : PyData :=
  if (decide (inN n F &&& inN n A = inN n F) || decide (inN n F &&& inN n B = inN n F)) = true then .tuple []
  else if inN n F &&& (inN n A ||| inN n B) = inN n F then (match (besideN n F).filter (cutsN n F A B) with | [m] => rowD m | _ => .str "none") else .none
theorem halves_ok {n : Nat} (hn : n < 8) {m here : Nat} (hm : m < 2 ^ n) {s1 s2 s3 s5 s6 s7 s9 s10 s12 s13 : Sl} : eLc [11] (iSeq (eN mkT (aC (eC (.int 0)) (aC (eC (.int 1)) aN)))) (gN 11) qYes (DL.e2 andD (eV 4) (eN m_law_held (aC (eV 0) (aC (eN mkT (aC (eV 8) (aC (eV 11) aN))) aN)))) [.d (roomD n), s1, s2, s3, .d (.int (here : Nat)), s5, s6, s7, .d (rowD m), s9, s10, .u, s12, s13] =
    some (.list [.int ((here &&& heldN n (m, false) : Nat) : Int), .int ((here &&& heldN n (m, true) : Nat) : Int)], [.d (roomD n), s1, s2, s3, .d (.int (here : Nat)), s5, s6, s7, .d (rowD m), s9, s10, .u, s12, s13]) := by
  have key := eLc_M (vs := [11]) (it := iSeq (eN mkT (aC (eC (.int 0)) (aC (eC (.int 1)) aN)))) (g := gN 11) (a := DL.e2 andD (eV 4) (eN m_law_held (aC (eV 0) (aC (eN mkT (aC (eV 8) (aC (eV 11) aN))) aN)))) (ρ := [.d (roomD n), s1, s2, s3, .d (.int (here : Nat)), s5, s6, s7, .d (rowD m), s9, s10, .u, s12, s13]) bitD [false, true] (by simp [sQ, sIf, sN, qFz, qB, qAnd, qOr, qNot, qYes, e1, DL.e2, eV, eC, eN, eI, eIf, eAnd, eOr, eFz, eSl, oS, oN, aN, aC, aX, sAsg, sAsgO, sRet, sRetO, sRetN, sDrop, sSet, sSetX, sAugI, sMut, sPar, sPat, sParM, mN, mC, DL.setM, iSeq, iN, gN, gT, gC, gZ, outP, outF, outI, en0, stillE, Sl.still, Sl.own, Sl.put, p1, tupD, lstD, mkT, mkL, DL.e3, sl1, sl2, sl3, sl4, sl0, sl5, sl6, sl7, sl8, List.length_cons, List.length_nil, List.length_map, List.getElem?_cons_zero, List.getElem?_cons_succ, List.set_cons_zero, List.set_cons_succ, List.map_cons, List.map_nil, List.replicate, List.cons_append, List.nil_append, List.append_nil, Option.map_some, if_true, if_false, ite_true, ite_false, reduceIte, Nat.reduceAdd, Nat.reduceSub, Nat.reduceLeDiff, Nat.reduceEqDiff, Nat.sub_self, Nat.zero_add, Option.map_none, decide_true, decide_false, Bool.not_true, Bool.not_false, seqOf, bitD]) rfl rfl (fun b => .int ((here &&& heldN n (m, b) : Nat) : Int)) (fun b hb => by
    refine ⟨[.d (roomD n), s1, s2, s3, .d (.int (here : Nat)), s5, s6, s7, .d (rowD m), s9, s10, .d (bitD b), s12, s13], [.d (roomD n), s1, s2, s3, .d (.int (here : Nat)), s5, s6, s7, .d (rowD m), s9, s10, .d (bitD b), s12, s13], rfl, ?_, rfl⟩
    have h1 := held_ok hn (l := (m, b)) hm
    have h2 := andD_nn here (heldN n (m, b))
    have h3 : lineD (m, b) = .tuple [rowD m, bitD b] := rfl
    rw [h3] at h1
    generalize (here &&& heldN n (m, b)) = z at h2
    simp [sQ, sIf, sN, qFz, qB, qAnd, qOr, qNot, qYes, e1, DL.e2, eV, eC, eN, eI, eIf, eAnd, eOr, eFz, eSl, oS, oN, aN, aC, aX, sAsg, sAsgO, sRet, sRetO, sRetN, sDrop, sSet, sSetX, sAugI, sMut, sPar, sPat, sParM, mN, mC, DL.setM, iSeq, iN, gN, gT, gC, gZ, outP, outF, outI, en0, stillE, Sl.still, Sl.own, Sl.put, p1, tupD, lstD, mkT, mkL, DL.e3, sl1, sl2, sl3, sl4, sl0, sl5, sl6, sl7, sl8, List.length_cons, List.length_nil, List.length_map, List.getElem?_cons_zero, List.getElem?_cons_succ, List.set_cons_zero, List.set_cons_succ, List.map_cons, List.map_nil, List.replicate, List.cons_append, List.nil_append, List.append_nil, Option.map_some, if_true, if_false, ite_true, ite_false, reduceIte, Nat.reduceAdd, Nat.reduceSub, Nat.reduceLeDiff, Nat.reduceEqDiff, Nat.sub_self, Nat.zero_add, Option.map_none, decide_true, decide_false, Bool.not_true, Bool.not_false, h1, h2])
  exact key
theorem ways_ok {mine its h0 h1 : Nat} {s0 s1 s2 s3 s4 s7 s8 s9 s11 : Sl} : ∃ l : List (Nat × Nat), l.length ≤ 2 ∧ l.isEmpty = !(cutsB 0 mine its h0 h1 || cutsB 0 mine its h1 h0) ∧ ∀ ρ : En, ρ = [s0, s1, s2, s3, s4, .d (.int (mine : Nat)), .d (.int (its : Nat)), s7, s8, s9, .d (.list [.tuple [.int (h0 : Nat), .int (h1 : Nat)], .tuple [.int (h1 : Nat), .int (h0 : Nat)]]), s11, .u, .u] →
    eLc [12, 13] (iSeq (eV 10)) (gT 2 (gC (gN 12) (gC (gN 13) gZ))) (qAnd (qB (DL.e2 eqD (DL.e2 andD (eV 12) (eV 5)) (eV 12))) (qB (DL.e2 eqD (DL.e2 andD (eV 13) (eV 6)) (eV 13)))) (eC (.int 1)) ρ = some (.list (l.map fun _ => PyData.int 1), ρ) := by
  refine ⟨[(h0, h1), (h1, h0)].filter fun ab => cutsB 0 mine its ab.1 ab.2, ?_, ?_, fun ρ e => ?_⟩
  · exact List.length_filter_le (fun ab : Nat × Nat => cutsB 0 mine its ab.1 ab.2) [(h0, h1), (h1, h0)]
  · cases a : cutsB 0 mine its h0 h1 <;> cases b : cutsB 0 mine its h1 h0 <;> simp [List.filter_cons, a, b]
  · subst e
    refine eLc_T (fun ab : Nat × Nat => PyData.tuple [.int (ab.1 : Int), .int (ab.2 : Int)]) [(h0, h1), (h1, h0)] rfl rfl rfl (fun ab => cutsB 0 mine its ab.1 ab.2) (fun _ => .int 1) (fun ab hab => ?_)
    obtain ⟨a, b⟩ := ab
    refine ⟨[s0, s1, s2, s3, s4, .d (.int (mine : Nat)), .d (.int (its : Nat)), s7, s8, s9, .d (.list [.tuple [.int (h0 : Nat), .int (h1 : Nat)], .tuple [.int (h1 : Nat), .int (h0 : Nat)]]), s11, .d (.int (a : Int)), .d (.int (b : Int))], [s0, s1, s2, s3, s4, .d (.int (mine : Nat)), .d (.int (its : Nat)), s7, s8, s9, .d (.list [.tuple [.int (h0 : Nat), .int (h1 : Nat)], .tuple [.int (h1 : Nat), .int (h0 : Nat)]]), s11, .d (.int (a : Int)), .d (.int (b : Int))], rfl, ?_, fun _ => ⟨_, rfl, rfl⟩, fun _ => rfl⟩
    have q1 := andD_nn a mine
    have q2 := eqD_nat (a &&& mine) a
    have q3 := andD_nn b its
    have q4 := eqD_nat (b &&& its) b
    show _ = some (cutsB 0 mine its a b, _)
    have hc : cutsB 0 mine its a b = (decide (a &&& mine = a) && decide (b &&& its = b)) := rfl
    rw [hc]
    generalize decide (a &&& mine = a) = c1 at q2
    generalize decide (b &&& its = b) = c2 at q4
    generalize (a &&& mine) = z1 at q1 q2
    generalize (b &&& its) = z2 at q3 q4
    cases c1 <;> simp [sQ, sIf, sN, qFz, qB, qAnd, qOr, qNot, qYes, e1, DL.e2, eV, eC, eN, eI, eIf, eAnd, eOr, eFz, eSl, oS, oN, aN, aC, aX, sAsg, sAsgO, sRet, sRetO, sRetN, sDrop, sSet, sSetX, sAugI, sMut, sPar, sPat, sParM, mN, mC, DL.setM, iSeq, iN, gN, gT, gC, gZ, outP, outF, outI, en0, stillE, Sl.still, Sl.own, Sl.put, p1, tupD, lstD, mkT, mkL, DL.e3, sl1, sl2, sl3, sl4, sl0, sl5, sl6, sl7, sl8, List.length_cons, List.length_nil, List.length_map, List.getElem?_cons_zero, List.getElem?_cons_succ, List.set_cons_zero, List.set_cons_succ, List.map_cons, List.map_nil, List.replicate, List.cons_append, List.nil_append, List.append_nil, Option.map_some, if_true, if_false, ite_true, ite_false, reduceIte, Nat.reduceAdd, Nat.reduceSub, Nat.reduceLeDiff, Nat.reduceEqDiff, Nat.sub_self, Nat.zero_add, Option.map_none, decide_true, decide_false, Bool.not_true, Bool.not_false, q1, q2, q3, q4]
theorem due_ok {n : Nat} (hn : n < 8) {F A B : List Ln} (fF : Fl n F) (fA : Fl n A) (fB : Fl n B) : m_law_cut_due [roomD n, flatD F, flatD A, flatD B] = some (dueR n F A B) := by
  have i1 := in_ok hn fF.lt
  have i2 := in_ok hn fA.lt
  have i3 := in_ok hn fB.lt
  have a1 := andD_nn (inN n F) (inN n A)
  have a2 := andD_nn (inN n F) (inN n B)
  have a3 := orD_nn (inN n A) (inN n B)
  have a4 := andD_nn (inN n F) (inN n A ||| inN n B)
  have e1 := eqD_nat (inN n F &&& inN n A) (inN n F)
  have e2' := eqD_nat (inN n F &&& inN n B) (inN n F)
  have e3' := neD_nat (inN n F &&& (inN n A ||| inN n B)) (inN n F)
  have hb := beside_ok hn fF.rr.pos
  have r0 : ixX (roomD n) (.int 0) = some (.int (n : Nat)) := ixX_t0 _ _
  have hcut : ∀ m, cutsN n F A B m = (cutsB 0 (inN n A) (inN n B) (inN n F &&& heldN n (m, false)) (inN n F &&& heldN n (m, true)) || cutsB 0 (inN n A) (inN n B) (inN n F &&& heldN n (m, true)) (inN n F &&& heldN n (m, false))) := fun m => rfl
  have hmem : ∀ m ∈ besideN n F, m < 2 ^ n := fun m hm => ((beside_mem hn).mp hm).2.1
  have hlen : (besideN n F).length ≤ 128 := by
    have h1 := (masks_ok (free_nodup n F)).len
    have h2 : (freeN n F).length ≤ n := by
      unfold freeN
      have := List.length_filter_le (fun u => !decide (u ∈ F.map fun l => hd l.1)) (List.range n)
      rw [List.length_range] at this
      exact this
    have h3 : (2 : Nat) ^ (freeN n F).length ≤ 2 ^ 7 := Nat.pow_le_pow_right (by decide) (by omega)
    unfold besideN
    rw [List.length_tail]
    omega
  unfold dueR
  generalize cutsN n F A B = cu at hcut
  generalize besideN n F = bs at hb hmem hlen
  generalize inN n F = here at *
  generalize inN n A = mine at *
  generalize inN n B = its at *
  by_cases c1 : here &&& mine = here
  · rw [decide_eq_true c1] at e1
    rw [if_pos (by rw [decide_eq_true c1]; rfl)]
    generalize (here &&& mine) = z1 at a1 e1
    simp [m_law_cut_due, runP, b_law_cut_due, sQ, sIf, sN, qFz, qB, qAnd, qOr, qNot, qYes, e1, DL.e2, eV, eC, eN, eI, eIf, eAnd, eOr, eFz, eSl, oS, oN, aN, aC, aX, sAsg, sAsgO, sRet, sRetO, sRetN, sDrop, sSet, sSetX, sAugI, sMut, sPar, sPat, sParM, mN, mC, DL.setM, iSeq, iN, gN, gT, gC, gZ, outP, outF, outI, en0, stillE, Sl.still, Sl.own, Sl.put, p1, tupD, lstD, mkT, mkL, DL.e3, sl1, sl2, sl3, sl4, sl0, sl5, sl6, sl7, sl8, List.length_cons, List.length_nil, List.length_map, List.getElem?_cons_zero, List.getElem?_cons_succ, List.set_cons_zero, List.set_cons_succ, List.map_cons, List.map_nil, List.replicate, List.cons_append, List.nil_append, List.append_nil, Option.map_some, if_true, if_false, ite_true, ite_false, reduceIte, Nat.reduceAdd, Nat.reduceSub, Nat.reduceLeDiff, Nat.reduceEqDiff, Nat.sub_self, Nat.zero_add, Option.map_none, decide_true, decide_false, Bool.not_true, Bool.not_false, i1, i2, i3, a1, e1]
  · rw [decide_eq_false c1] at e1
    by_cases c2 : here &&& its = here
    · rw [decide_eq_true c2] at e2'
      rw [if_pos (by rw [decide_eq_true c2, Bool.or_true])]
      generalize (here &&& mine) = z1 at a1 e1
      generalize (here &&& its) = z2 at a2 e2'
      simp [m_law_cut_due, runP, b_law_cut_due, sQ, sIf, sN, qFz, qB, qAnd, qOr, qNot, qYes, e1, DL.e2, eV, eC, eN, eI, eIf, eAnd, eOr, eFz, eSl, oS, oN, aN, aC, aX, sAsg, sAsgO, sRet, sRetO, sRetN, sDrop, sSet, sSetX, sAugI, sMut, sPar, sPat, sParM, mN, mC, DL.setM, iSeq, iN, gN, gT, gC, gZ, outP, outF, outI, en0, stillE, Sl.still, Sl.own, Sl.put, p1, tupD, lstD, mkT, mkL, DL.e3, sl1, sl2, sl3, sl4, sl0, sl5, sl6, sl7, sl8, List.length_cons, List.length_nil, List.length_map, List.getElem?_cons_zero, List.getElem?_cons_succ, List.set_cons_zero, List.set_cons_succ, List.map_cons, List.map_nil, List.replicate, List.cons_append, List.nil_append, List.append_nil, Option.map_some, if_true, if_false, ite_true, ite_false, reduceIte, Nat.reduceAdd, Nat.reduceSub, Nat.reduceLeDiff, Nat.reduceEqDiff, Nat.sub_self, Nat.zero_add, Option.map_none, decide_true, decide_false, Bool.not_true, Bool.not_false, i1, i2, i3, a1, e1, a2, e2']
    · rw [decide_eq_false c2] at e2'
      rw [if_neg (by rw [decide_eq_false c1, decide_eq_false c2]; decide)]
      by_cases c3 : here &&& (mine ||| its) = here
      · rw [if_pos c3]
        rw [decide_eq_true c3] at e3'
        obtain ⟨ρ', k1, s8, s9, s10, rfl⟩ := sFor_T rowD bs (it := (iSeq (eN m_law_rows_beside (aC (e2 ixX (eV 0) (eC (.int 0))) (aC (eV 1) aN))))) (g := (gN 8)) (ψ := (sQ (sAsg 9 (eLc [11] (iSeq (eN mkT (aC (eC (.int 0)) (aC (eC (.int 1)) aN)))) (gN 11) qYes (e2 andD (eV 4) (eN m_law_held (aC (eV 0) (aC (eN mkT (aC (eV 8) (aC (eV 11) aN))) aN)))))) (sQ (sAsg 10 (eN mkL (aC (eN mkT (aC (e2 ixX (eV 9) (eC (.int 0))) (aC (e2 ixX (eV 9) (eC (.int 1))) aN))) (aC (eN mkT (aC (e2 ixX (eV 9) (eC (.int 1))) (aC (e2 ixX (eV 9) (eC (.int 0))) aN))) aN)))) (sMut 7 extD (aC (e2 repL (eN mkL (aC (eV 8) aN)) (eN (p1 intD) (aC (e2 neD (eLc [12, 13] (iSeq (eV 10)) (gT 2 (gC (gN 12) (gC (gN 13) gZ))) (qAnd (qB (e2 eqD (e2 andD (eV 12) (eV 5)) (eV 12))) (qB (e2 eqD (e2 andD (eV 13) (eV 6)) (eV 13)))) (eC (.int 1))) (eN mkL aN)) aN))) aN))))) (ρ := [.d (roomD n), .d (flatD F), .d (flatD A), .d (flatD B), .d (.int (here : Nat)), .d (.int (mine : Nat)), .d (.int (its : Nat)), .o (.list []), .u, .u, .u, .u, .u, .u]) (ρ0 := [.d (roomD n), .d (flatD F), .d (flatD A), .d (flatD B), .d (.int (here : Nat)), .d (.int (mine : Nat)), .d (.int (its : Nat)), .o (.list []), .u, .u, .u, .u, .u, .u]) (by simp [sQ, sIf, sN, qFz, qB, qAnd, qOr, qNot, qYes, e1, DL.e2, eV, eC, eN, eI, eIf, eAnd, eOr, eFz, eSl, oS, oN, aN, aC, aX, sAsg, sAsgO, sRet, sRetO, sRetN, sDrop, sSet, sSetX, sAugI, sMut, sPar, sPat, sParM, mN, mC, DL.setM, iSeq, iN, gN, gT, gC, gZ, outP, outF, outI, en0, stillE, Sl.still, Sl.own, Sl.put, p1, tupD, lstD, mkT, mkL, DL.e3, sl1, sl2, sl3, sl4, sl0, sl5, sl6, sl7, sl8, List.length_cons, List.length_nil, List.length_map, List.getElem?_cons_zero, List.getElem?_cons_succ, List.set_cons_zero, List.set_cons_succ, List.map_cons, List.map_nil, List.replicate, List.cons_append, List.nil_append, List.append_nil, Option.map_some, if_true, if_false, ite_true, ite_false, reduceIte, Nat.reduceAdd, Nat.reduceSub, Nat.reduceLeDiff, Nat.reduceEqDiff, Nat.sub_self, Nat.zero_add, Option.map_none, decide_true, decide_false, Bool.not_true, Bool.not_false, r0, hb, seqOf])
          (fun dn ρ => ∃ (s8 s9 s10 : Sl), ρ = [.d (roomD n), .d (flatD F), .d (flatD A), .d (flatD B), .d (.int (here : Nat)), .d (.int (mine : Nat)), .d (.int (its : Nat)), .o (.list ((dn.filter cu).map rowD)), s8, s9, s10, .u, .u, .u])
          ⟨.u, .u, .u, rfl⟩
          (fun dn m rest ρ ed ⟨s8, s9, s10, e⟩ => by
            subst e
            have hm := hmem m (by rw [ed]; simp)
            have q1 := halves_ok hn hm (here := here) (s1 := .d (flatD F)) (s2 := .d (flatD A)) (s3 := .d (flatD B)) (s5 := .d (.int (mine : Nat))) (s6 := .d (.int (its : Nat))) (s7 := .o (.list ((dn.filter cu).map rowD))) (s9 := s9) (s10 := s10) (s12 := .u) (s13 := .u)
            have hc := hcut m
            generalize (here &&& heldN n (m, false)) = h0 at q1 hc
            generalize (here &&& heldN n (m, true)) = h1 at q1 hc
            obtain ⟨l, l1, l2, l3⟩ := ways_ok (mine := mine) (its := its) (h0 := h0) (h1 := h1) (s0 := .d (roomD n)) (s1 := .d (flatD F)) (s2 := .d (flatD A)) (s3 := .d (flatD B)) (s4 := .d (.int (here : Nat))) (s7 := .o (.list ((dn.filter cu).map rowD))) (s8 := .d (rowD m)) (s9 := .d (.list [.int (h0 : Nat), .int (h1 : Nat)])) (s11 := .u)
            have l3' := l3 _ rfl
            rw [← hc] at l2
            have q2 := neD_ones l (by omega)
            rw [l2, Bool.not_not] at q2
            have hx : ((dn.filter cu).map rowD).length + 1 ≤ 16777216 := by
              have := congrArg List.length ed
              rw [List.length_append, List.length_cons] at this
              have := List.length_filter_le cu dn
              rw [List.length_map]
              omega
            refine ⟨[.d (roomD n), .d (flatD F), .d (flatD A), .d (flatD B), .d (.int (here : Nat)), .d (.int (mine : Nat)), .d (.int (its : Nat)), .o (.list ((dn.filter cu).map rowD)), .d (rowD m), s9, s10, .u, .u, .u], _, rfl, ?_, .d (rowD m), .d (.list [.int (h0 : Nat), .int (h1 : Nat)]), .d (.list [.tuple [.int (h0 : Nat), .int (h1 : Nat)], .tuple [.int (h1 : Nat), .int (h0 : Nat)]]), rfl⟩
            rw [List.filter_append, List.map_append]
            generalize (dn.filter cu).map rowD = fd at *
            have j0 : ixX (.list [.int (h0 : Int), .int (h1 : Int)]) (.int 0) = some (.int (h0 : Int)) := ixX_l0 _ _
            have j1 : ixX (.list [.int (h0 : Int), .int (h1 : Int)]) (.int 1) = some (.int (h1 : Int)) := ixX_l1 _ _ _
            cases c : cu m with
            | true =>
              rw [c] at q2
              have q3 : repL (.list [rowD m]) (.int 1) = some (.list [rowD m]) := rfl
              have q4 : intD (.bool true) = some (.int 1) := rfl
              have q5 : extD fd [.list [rowD m]] = some (fd ++ [rowD m]) := by
                show (if _ then _ else none) = _
                rw [if_pos (by simp only [List.length_singleton]; omega)]
              simp [sQ, sIf, sN, qFz, qB, qAnd, qOr, qNot, qYes, e1, DL.e2, eV, eC, eN, eI, eIf, eAnd, eOr, eFz, eSl, oS, oN, aN, aC, aX, sAsg, sAsgO, sRet, sRetO, sRetN, sDrop, sSet, sSetX, sAugI, sMut, sPar, sPat, sParM, mN, mC, DL.setM, iSeq, iN, gN, gT, gC, gZ, outP, outF, outI, en0, stillE, Sl.still, Sl.own, Sl.put, p1, tupD, lstD, mkT, mkL, DL.e3, sl1, sl2, sl3, sl4, sl0, sl5, sl6, sl7, sl8, List.length_cons, List.length_nil, List.length_map, List.getElem?_cons_zero, List.getElem?_cons_succ, List.set_cons_zero, List.set_cons_succ, List.map_cons, List.map_nil, List.replicate, List.cons_append, List.nil_append, List.append_nil, Option.map_some, if_true, if_false, ite_true, ite_false, reduceIte, Nat.reduceAdd, Nat.reduceSub, Nat.reduceLeDiff, Nat.reduceEqDiff, Nat.sub_self, Nat.zero_add, Option.map_none, decide_true, decide_false, Bool.not_true, Bool.not_false, q1, j0, j1, l3', q2, q3, q4, q5, c]
            | false =>
              rw [c] at q2
              have q3 : repL (.list [rowD m]) (.int 0) = some (.list []) := rfl
              have q4 : intD (.bool false) = some (.int 0) := rfl
              have q5 : extD fd [.list []] = some (fd ++ []) := by
                show (if _ then _ else none) = _
                rw [if_pos (by simp only [List.length_nil]; omega)]
              simp [sQ, sIf, sN, qFz, qB, qAnd, qOr, qNot, qYes, e1, DL.e2, eV, eC, eN, eI, eIf, eAnd, eOr, eFz, eSl, oS, oN, aN, aC, aX, sAsg, sAsgO, sRet, sRetO, sRetN, sDrop, sSet, sSetX, sAugI, sMut, sPar, sPat, sParM, mN, mC, DL.setM, iSeq, iN, gN, gT, gC, gZ, outP, outF, outI, en0, stillE, Sl.still, Sl.own, Sl.put, p1, tupD, lstD, mkT, mkL, DL.e3, sl1, sl2, sl3, sl4, sl0, sl5, sl6, sl7, sl8, List.length_cons, List.length_nil, List.length_map, List.getElem?_cons_zero, List.getElem?_cons_succ, List.set_cons_zero, List.set_cons_succ, List.map_cons, List.map_nil, List.replicate, List.cons_append, List.nil_append, List.append_nil, Option.map_some, if_true, if_false, ite_true, ite_false, reduceIte, Nat.reduceAdd, Nat.reduceSub, Nat.reduceLeDiff, Nat.reduceEqDiff, Nat.sub_self, Nat.zero_add, Option.map_none, decide_true, decide_false, Bool.not_true, Bool.not_false, q1, j0, j1, l3', q2, q3, q4, q5, c])
        have hfl : ∀ m, DL.flatB (rowD m) = true := fun m => by
          show DL.flatBs (natsD (bitsOf m)) = true
          generalize bitsOf m = l
          induction l with
          | nil => rfl
          | cons x r ih => show (DL.flatB (.int x) && DL.flatBs (natsD r)) = true; rw [ih]; rfl
        generalize (here &&& mine) = z1 at a1 e1
        generalize (here &&& its) = z2 at a2 e2'
        generalize (mine ||| its) = z3 at a3 a4 e3'
        generalize (here &&& z3) = z4 at a4 e3'
        generalize bs.filter cu = fl at k1
        have hL : lenX (.list (fl.map rowD)) = some (.int (fl.length : Nat)) := by show some (PyData.int ((fl.map rowD).length : Nat)) = _; rw [List.length_map]
        have hE := eqD_nat fl.length 1
        rw [Bool.not_true] at e3'
        cases fl with
        | nil =>
          have hE' : eqD (.int ((0 : Nat) : Int)) (.int ((1 : Nat) : Int)) = some (.bool false) := hE
          have hL' : lenX (.list []) = some (.int ((0 : Nat) : Int)) := hL
          have k1' := k1
          rw [List.map_nil] at k1'
          generalize ((0 : Nat) : Int) = zz at hE' hL'
          have hE2 : eqD (.int zz) (.int 1) = some (.bool false) := hE'
          simp [m_law_cut_due, runP, b_law_cut_due, sQ, sIf, sN, qFz, qB, qAnd, qOr, qNot, qYes, e1, DL.e2, eV, eC, eN, eI, eIf, eAnd, eOr, eFz, eSl, oS, oN, aN, aC, aX, sAsg, sAsgO, sRet, sRetO, sRetN, sDrop, sSet, sSetX, sAugI, sMut, sPar, sPat, sParM, mN, mC, DL.setM, iSeq, iN, gN, gT, gC, gZ, outP, outF, outI, en0, stillE, Sl.still, Sl.own, Sl.put, p1, tupD, lstD, mkT, mkL, DL.e3, sl1, sl2, sl3, sl4, sl0, sl5, sl6, sl7, sl8, List.length_cons, List.length_nil, List.length_map, List.getElem?_cons_zero, List.getElem?_cons_succ, List.set_cons_zero, List.set_cons_succ, List.map_cons, List.map_nil, List.replicate, List.cons_append, List.nil_append, List.append_nil, Option.map_some, if_true, if_false, ite_true, ite_false, reduceIte, Nat.reduceAdd, Nat.reduceSub, Nat.reduceLeDiff, Nat.reduceEqDiff, Nat.sub_self, Nat.zero_add, Option.map_none, decide_true, decide_false, Bool.not_true, Bool.not_false, i1, i2, i3, a1, e1, a2, e2', a3, a4, e3', k1', hL', hE2, DL.flatB]
        | cons m r =>
          cases r with
          | nil =>
            have hE' : eqD (.int ((1 : Nat) : Int)) (.int ((1 : Nat) : Int)) = some (.bool true) := hE
            have hL' : lenX (.list [rowD m]) = some (.int ((1 : Nat) : Int)) := hL
            have j0 : ixX (.list [rowD m]) (.int 0) = some (rowD m) := ixX_l0 _ _
            have k1' := k1
            rw [List.map_cons, List.map_nil] at k1'
            have hE2 : eqD (.int ((1 : Nat) : Int)) (.int 1) = some (.bool true) := hE'
            generalize ((1 : Nat) : Int) = zz at hL' hE2
            simp [m_law_cut_due, runP, b_law_cut_due, sQ, sIf, sN, qFz, qB, qAnd, qOr, qNot, qYes, e1, DL.e2, eV, eC, eN, eI, eIf, eAnd, eOr, eFz, eSl, oS, oN, aN, aC, aX, sAsg, sAsgO, sRet, sRetO, sRetN, sDrop, sSet, sSetX, sAugI, sMut, sPar, sPat, sParM, mN, mC, DL.setM, iSeq, iN, gN, gT, gC, gZ, outP, outF, outI, en0, stillE, Sl.still, Sl.own, Sl.put, p1, tupD, lstD, mkT, mkL, DL.e3, sl1, sl2, sl3, sl4, sl0, sl5, sl6, sl7, sl8, List.length_cons, List.length_nil, List.length_map, List.getElem?_cons_zero, List.getElem?_cons_succ, List.set_cons_zero, List.set_cons_succ, List.map_cons, List.map_nil, List.replicate, List.cons_append, List.nil_append, List.append_nil, Option.map_some, if_true, if_false, ite_true, ite_false, reduceIte, Nat.reduceAdd, Nat.reduceSub, Nat.reduceLeDiff, Nat.reduceEqDiff, Nat.sub_self, Nat.zero_add, Option.map_none, decide_true, decide_false, Bool.not_true, Bool.not_false, i1, i2, i3, a1, e1, a2, e2', a3, a4, e3', k1', hL', hE2, j0, hfl]
          | cons m2 r =>
            have hn1 : ¬ (m :: m2 :: r).length = 1 := by rw [List.length_cons, List.length_cons]; omega
            rw [decide_eq_false hn1] at hE
            have hE2 : eqD (.int (((m :: m2 :: r).length : Nat) : Int)) (.int 1) = some (.bool false) := hE
            generalize (((m :: m2 :: r).length : Nat) : Int) = zz at hL hE2
            generalize (m :: m2 :: r).map rowD = yy at hL k1
            simp [m_law_cut_due, runP, b_law_cut_due, sQ, sIf, sN, qFz, qB, qAnd, qOr, qNot, qYes, e1, DL.e2, eV, eC, eN, eI, eIf, eAnd, eOr, eFz, eSl, oS, oN, aN, aC, aX, sAsg, sAsgO, sRet, sRetO, sRetN, sDrop, sSet, sSetX, sAugI, sMut, sPar, sPat, sParM, mN, mC, DL.setM, iSeq, iN, gN, gT, gC, gZ, outP, outF, outI, en0, stillE, Sl.still, Sl.own, Sl.put, p1, tupD, lstD, mkT, mkL, DL.e3, sl1, sl2, sl3, sl4, sl0, sl5, sl6, sl7, sl8, List.length_cons, List.length_nil, List.length_map, List.getElem?_cons_zero, List.getElem?_cons_succ, List.set_cons_zero, List.set_cons_succ, List.map_cons, List.map_nil, List.replicate, List.cons_append, List.nil_append, List.append_nil, Option.map_some, if_true, if_false, ite_true, ite_false, reduceIte, Nat.reduceAdd, Nat.reduceSub, Nat.reduceLeDiff, Nat.reduceEqDiff, Nat.sub_self, Nat.zero_add, Option.map_none, decide_true, decide_false, Bool.not_true, Bool.not_false, i1, i2, i3, a1, e1, a2, e2', a3, a4, e3', k1, hL, hE2, DL.flatB]
      · rw [if_neg c3]
        rw [decide_eq_false c3, Bool.not_false] at e3'
        generalize (here &&& mine) = z1 at a1 e1
        generalize (here &&& its) = z2 at a2 e2'
        generalize (mine ||| its) = z3 at a3 a4 e3'
        generalize (here &&& z3) = z4 at a4 e3'
        simp [m_law_cut_due, runP, b_law_cut_due, sQ, sIf, sN, qFz, qB, qAnd, qOr, qNot, qYes, e1, DL.e2, eV, eC, eN, eI, eIf, eAnd, eOr, eFz, eSl, oS, oN, aN, aC, aX, sAsg, sAsgO, sRet, sRetO, sRetN, sDrop, sSet, sSetX, sAugI, sMut, sPar, sPat, sParM, mN, mC, DL.setM, iSeq, iN, gN, gT, gC, gZ, outP, outF, outI, en0, stillE, Sl.still, Sl.own, Sl.put, p1, tupD, lstD, mkT, mkL, DL.e3, sl1, sl2, sl3, sl4, sl0, sl5, sl6, sl7, sl8, List.length_cons, List.length_nil, List.length_map, List.getElem?_cons_zero, List.getElem?_cons_succ, List.set_cons_zero, List.set_cons_succ, List.map_cons, List.map_nil, List.replicate, List.cons_append, List.nil_append, List.append_nil, Option.map_some, if_true, if_false, ite_true, ite_false, reduceIte, Nat.reduceAdd, Nat.reduceSub, Nat.reduceLeDiff, Nat.reduceEqDiff, Nat.sub_self, Nat.zero_add, Option.map_none, decide_true, decide_false, Bool.not_true, Bool.not_false, i1, i2, i3, a1, e1, a2, e2', a3, a4, e3']
theorem lies_iff {F A : List Ln} (r : Rr F) (rA : Rr A) : liesB F A = true ↔ ∀ x, Holds F x → Holds A x := by
  unfold liesB
  rw [List.all_eq_true]
  constructor
  · intro h x hx l hl
    exact (told_some r (rA.pos l hl).2).mp (of_decide_eq_true (h l hl)) x hx
  · intro h l hl
    exact decide_eq_true ((told_some r (rA.pos l hl).2).mpr fun x hx => h x hx l hl)
/-- what the program tells is what the law finds due -/
theorem cut_due {n : Nat} (hn : n < 8) {F A B : List Ln} (fF : Fl n F) (fA : Fl n A) (fB : Fl n B) {oA oB : Option (List Ln)} (mA : Meet F A oA) (mB : Meet F B oB) : cutR F A B oA oB = dueR n F A B := by
  have hA := lies_iff fF.rr fA.rr
  have hB := lies_iff fF.rr fB.rr
  have gA := sub_in hn fF.lt fA.lt
  have gB := sub_in hn fF.lt fB.lt
  have gC := sub_or hn fF.lt fA.lt fB.lt
  unfold cutR dueR
  by_cases c : (liesB F A || liesB F B) = true
  · rw [if_pos c, if_pos]
    rw [Bool.or_eq_true_iff] at c ⊢
    rw [decide_eq_true_eq, decide_eq_true_eq, gA, gB, ← hA, ← hB]
    exact c
  · rw [if_neg c]
    have c' : ¬ ((∀ x, Holds F x → Holds A x) ∨ (∀ x, Holds F x → Holds B x)) := by
      rw [Bool.or_eq_true_iff, hA, hB] at c
      exact c
    rw [if_neg (by rw [Bool.or_eq_true_iff, decide_eq_true_eq, decide_eq_true_eq, gA, gB]; exact c')]
    by_cases cov : ∀ x, Holds F x → Holds A x ∨ Holds B x
    · rw [if_pos (gC.mpr cov)]
      obtain ⟨f, s, r, w, rfl, rfl, k⟩ := cut_ok fF.rr fA.rr fB.rr mA mB cov (fun h => c' (.inl h)) (fun h => c' (.inr h))
      have rn : r < 2 ^ n := by
        rw [← k.nr]
        exact newRow_ltn fF.lt (meet_ltn mA fF.lt fA.lt f rfl)
      have hr : r ∈ besideN n F := (beside_mem hn).mpr ⟨k.r0, rn, k.rf⟩
      have hf : (besideN n F).filter (cutsN n F A B) = [r] := filter_one (beside_nodup n F) hr fun m hm => by
        obtain ⟨m0, m1, m2⟩ := (beside_mem hn).mp hm
        rw [cuts_iff hn fF.lt fA.lt fB.lt m1]
        exact k.only fF.rr m0 (Nat.lt_of_lt_of_le m1 (Nat.pow_le_pow_right (by decide) (by omega))) m2
      rw [hf]
      show (if f.length = F.length + 1 ∧ s.length = F.length + 1 then (if told s (newRow F f) ≠ none ∧ told s (newRow F f) ≠ told f (newRow F f) then rowD (newRow F f) else .none) else .none) = rowD r
      rw [if_pos ⟨k.lf, k.ls⟩, k.nr, k.ts, k.tf, if_pos ⟨by simp, by cases w <;> simp⟩]
    · rw [if_neg (fun h => cov (gC.mp h))]
      cases oA with
      | none => rfl
      | some f =>
        cases oB with
        | none => rfl
        | some s =>
          show (if f.length = F.length + 1 ∧ s.length = F.length + 1 then (if told s (newRow F f) ≠ none ∧ told s (newRow F f) ≠ told f (newRow F f) then rowD (newRow F f) else .none) else .none) = .none
          by_cases k1 : f.length = F.length + 1 ∧ s.length = F.length + 1
          · rw [if_pos k1]
            by_cases k2 : told s (newRow F f) ≠ none ∧ told s (newRow F f) ≠ told f (newRow F f)
            · exfalso
              obtain ⟨h1, h2⟩ := k2
              cases e : told s (newRow F f) with
              | none => exact h1 e
              | some v =>
                rw [e] at h2
                exact cov (found_cov fF.rr fA.rr fB.rr mA mB k1.1 k1.2 e fun z => h2 z.symm)
            · rw [if_neg k2]
          · rw [if_neg k1]
theorem cut_eq {n : Nat} (hn : n < 8) {F A B : List Ln} (fF : Fl n F) (fA : Fl n A) (fB : Fl n B) : ∃ d, m_cut_by [flatD F, flatD A, flatD B] = some d ∧ m_law_cut_due [roomD n, flatD F, flatD A, flatD B] = some d ∧ d = dueR n F A B := by
  obtain ⟨oA, oB, mA, mB, h⟩ := cut_by_ok fF.rr fA.rr fB.rr
  rw [cut_due hn fF fA fB mA mB] at h
  exact ⟨_, h, due_ok hn fF fA fB, rfl⟩
end Lk14

set_option maxHeartbeats 4000000
namespace Lk14
open PySem L2 DL FL
/-- the row of a line is led down by the heads -/
theorem lead_ok {G : List Ln} (nd : (G.map fun l => hd l.1).Nodup) {s0 s2 s6 : Sl} : ∀ (S : List Ln) (m : Nat) (b : Bool) (s5 : Sl), (∀ l ∈ S, l ∈ G) → ∃ t5,
    forD (gN 5) (sIf (qB (e2 eqD (e2 andD (e2 shrD (eV 4) (eV 5)) (eC (.int 1))) (eC (.int 1)))) (sPar 4 3 (aC (eFz (e2 xorD (eV 4) (e2 ixX (e2 ixX (eV 1) (eV 5)) (eC (.int 0))))) (aC (eFz (e2 xorD (eV 3) (e2 ixX (e2 ixX (eV 1) (eV 5)) (eC (.int 1))))) aN))) sN) (S.map fun l => PyData.int (hd l.1 : Nat)) [s0, .o (dictD G), s2, .d (bitD b), .d (.int (m : Nat)), s5, s6] = some (.nx [s0, .o (dictD G), s2, .d (bitD (led S m b).2), .d (.int ((led S m b).1 : Nat)), t5, s6]) := by
  intro S
  induction S with
  | nil => intro m b s5 _; exact ⟨s5, rfl⟩
  | cons l S ih =>
    intro m b s5 hS
    have hl := hS l (List.mem_cons_self ..)
    obtain ⟨u, c, h1, h2, h3⟩ := bit_test3 m (hd l.1)
    have g := ix_dict nd hl
    have x0 := ix_ent0 l
    have x1 := ix_ent1 l
    have x2 := xorD_nn m l.1
    have x3 := xor_bit b l.2
    rw [List.map_cons]
    unfold led
    by_cases hb : m.testBit (hd l.1) = true
    · rw [if_pos hb]
      obtain ⟨t5, h⟩ := ih (m ^^^ l.1) (b ^^ l.2) (.d (.int (hd l.1 : Nat))) fun k hk => hS k (List.mem_cons_of_mem _ hk)
      refine ⟨t5, ?_⟩
      rw [forD_go (ρ1 := [s0, .o (dictD G), s2, .d (bitD b), .d (.int (m : Nat)), .d (.int (hd l.1 : Nat)), s6]) rfl (ρ2 := [s0, .o (dictD G), s2, .d (bitD (b ^^ l.2)), .d (.int ((m ^^^ l.1 : Nat) : Int)), .d (.int (hd l.1 : Nat)), s6]) ?_]
      · exact h
      · rw [hb] at h3
        have f1 : ∀ i : Int, DL.flatB (.int i) = true := fun _ => rfl
        have f2 : DL.flatB (bitD (b ^^ l.2)) = true := by cases (b ^^ l.2) <;> rfl
        generalize (m ^^^ l.1) = z at x2
        generalize (b ^^ l.2) = y at x3 f2
        simp [sQ, sIf, sN, qFz, qB, qAnd, qOr, qNot, qYes, e1, DL.e2, eV, eC, eN, eI, eIf, eAnd, eOr, eFz, eSl, oS, oN, aN, aC, aX, sAsg, sAsgO, sRet, sRetO, sRetN, sDrop, sSet, sSetX, sAugI, sMut, sPar, sPat, sParM, mN, mC, DL.setM, iSeq, iN, gN, gT, gC, gZ, outP, outF, outI, en0, stillE, Sl.still, Sl.own, Sl.put, p1, tupD, lstD, mkT, mkL, DL.e3, sl1, sl2, sl3, sl4, sl0, sl5, sl6, sl7, sl8, List.length_cons, List.length_nil, List.length_map, List.getElem?_cons_zero, List.getElem?_cons_succ, List.set_cons_zero, List.set_cons_succ, List.map_cons, List.map_nil, List.replicate, List.cons_append, List.nil_append, List.append_nil, Option.map_some, if_true, if_false, ite_true, ite_false, reduceIte, Nat.reduceAdd, Nat.reduceSub, Nat.reduceLeDiff, Nat.reduceEqDiff, Nat.sub_self, Nat.zero_add, Option.map_none, decide_true, decide_false, Bool.not_true, Bool.not_false, h1, h2, h3, g, x0, x1, x2, x3, f1, f2]
    · rw [if_neg hb]
      obtain ⟨t5, h⟩ := ih m b (.d (.int (hd l.1 : Nat))) fun k hk => hS k (List.mem_cons_of_mem _ hk)
      refine ⟨t5, ?_⟩
      rw [forD_go (ρ1 := [s0, .o (dictD G), s2, .d (bitD b), .d (.int (m : Nat)), .d (.int (hd l.1 : Nat)), s6]) rfl (ρ2 := [s0, .o (dictD G), s2, .d (bitD b), .d (.int (m : Nat)), .d (.int (hd l.1 : Nat)), s6]) ?_]
      · exact h
      · have hb' : m.testBit (hd l.1) = false := by simpa using hb
        rw [hb'] at h3
        simp [sQ, sIf, sN, qFz, qB, qAnd, qOr, qNot, qYes, e1, DL.e2, eV, eC, eN, eI, eIf, eAnd, eOr, eFz, eSl, oS, oN, aN, aC, aX, sAsg, sAsgO, sRet, sRetO, sRetN, sDrop, sSet, sSetX, sAugI, sMut, sPar, sPat, sParM, mN, mC, DL.setM, iSeq, iN, gN, gT, gC, gZ, outP, outF, outI, en0, stillE, Sl.still, Sl.own, Sl.put, p1, tupD, lstD, mkT, mkL, DL.e3, sl1, sl2, sl3, sl4, sl0, sl5, sl6, sl7, sl8, List.length_cons, List.length_nil, List.length_map, List.getElem?_cons_zero, List.getElem?_cons_succ, List.set_cons_zero, List.set_cons_succ, List.map_cons, List.map_nil, List.replicate, List.cons_append, List.nil_append, List.append_nil, Option.map_some, if_true, if_false, ite_true, ite_false, reduceIte, Nat.reduceAdd, Nat.reduceSub, Nat.reduceLeDiff, Nat.reduceEqDiff, Nat.sub_self, Nat.zero_add, Option.map_none, decide_true, decide_false, Bool.not_true, Bool.not_false, h1, h2, h3]
def modL (m : Nat) (b : Bool) (l : Ln) : Ln := if l.1.testBit (hd m) = true then (l.1 ^^^ m, l.2 ^^ b) else l
def modS (m : Nat) (b : Bool) (G : List Ln) (dn : List Ln) : List Ln := G.map fun l => if l ∈ dn then modL m b l else l
/-- the heads are cleared of the new one -/
theorem clear_ok {G : List Ln} (r : Rr G) {m : Nat} {b : Bool} (m0 : m ≠ 0) (m1 : m < 2 ^ 16) (mf : ∀ l ∈ G, m.testBit (hd l.1) = false) {s0 s2 : Sl} : ∀ (S dn : List Ln) (s5 : Sl), (∀ l ∈ S, l ∈ G) → (∀ l ∈ S, l ∉ dn) → S.Nodup → ∃ t5,
    forD (gN 5) (sIf (qFz (qB (e2 eqD (e2 andD (e2 shrD (e2 ixX (e2 ixX (eV 1) (eV 5)) (eC (.int 0))) (eV 6)) (eC (.int 1))) (eC (.int 1))))) (sSetX 1 (eV 5) (eFz (eN mkT (aC (e2 xorD (e2 ixX (e2 ixX (eV 1) (eV 5)) (eC (.int 0))) (eV 4)) (aC (e2 xorD (e2 ixX (e2 ixX (eV 1) (eV 5)) (eC (.int 1))) (eV 3)) aN))))) sN) (S.map fun l => PyData.int (hd l.1 : Nat)) [s0, .o (dictD (modS m b G dn)), s2, .d (bitD b), .d (.int (m : Nat)), s5, .d (.int (hd m : Nat))] = some (.nx [s0, .o (dictD (modS m b G (dn ++ S))), s2, .d (bitD b), .d (.int (m : Nat)), t5, .d (.int (hd m : Nat))]) := by
  intro S
  have hh : ∀ l ∈ G, hd (modL m b l).1 = hd l.1 := fun l hl => put1_head r m0 m1 mf hl
  have hmap : ∀ dn, (modS m b G dn).map (fun l => hd l.1) = G.map fun l => hd l.1 := fun dn => by
    unfold modS
    rw [List.map_map]
    refine List.map_congr_left fun l hl => ?_
    show hd (if l ∈ dn then modL m b l else l).1 = hd l.1
    split
    · exact hh l hl
    · rfl
  have hlen : ∀ dn, (modS m b G dn).length < 16777216 := fun dn => by
    have := rr_len r
    unfold modS
    rw [List.length_map]; omega
  induction S with
  | nil => intro dn s5 _ _ _; exact ⟨s5, by rw [List.append_nil]; rfl⟩
  | cons l S ih =>
    intro dn s5 hS hd' nS
    rw [List.nodup_cons] at nS
    have hl := hS l (List.mem_cons_self ..)
    have hnot := hd' l (List.mem_cons_self ..)
    have nd : ((modS m b G dn).map fun l => hd l.1).Nodup := by rw [hmap]; exact r.nod
    have hin : l ∈ modS m b G dn := List.mem_map.mpr ⟨l, hl, by rw [if_neg hnot]⟩
    obtain ⟨u, c, h1, h2, h3⟩ := bit_test3 l.1 (hd m)
    have g := ix_dict nd hin
    have x0 := ix_ent0 l
    have x1 := ix_ent1 l
    have x2 := xorD_nn l.1 m
    have x3 := xor_bit l.2 b
    have uniq : ∀ k ∈ G, hd k.1 = hd l.1 → k = l := fun k hk e => by
      have f1 := find_head r.nod hk
      have f2 := find_head r.nod hl
      rw [e] at f1
      rw [f1] at f2
      exact Option.some.inj f2
    obtain ⟨t5, h⟩ := ih (dn ++ [l]) (.d (.int (hd l.1 : Nat))) (fun k hk => hS k (List.mem_cons_of_mem _ hk)) (fun k hk z => by
      rcases List.mem_append.mp z with z | z
      · exact hd' k (List.mem_cons_of_mem _ hk) z
      · rw [List.mem_singleton.mp z] at hk; exact nS.1 hk) nS.2
    rw [List.append_assoc] at h
    refine ⟨t5, ?_⟩
    rw [List.map_cons]
    have next : modS m b G (dn ++ [l]) = (modS m b G dn).map fun k => if hd k.1 = hd l.1 then modL m b l else k := by
      unfold modS
      rw [List.map_map]
      refine List.map_congr_left fun k hk => ?_
      show (if k ∈ dn ++ [l] then modL m b k else k) = if hd (if k ∈ dn then modL m b k else k).1 = hd l.1 then modL m b l else (if k ∈ dn then modL m b k else k)
      have e1 : hd (if k ∈ dn then modL m b k else k).1 = hd k.1 := by
        split
        · exact hh k hk
        · rfl
      rw [e1]
      by_cases e : hd k.1 = hd l.1
      · have := uniq k hk e
        subst this
        rw [if_pos rfl, if_pos (by simp)]
      · rw [if_neg e]
        have : k ≠ l := fun z => e (by rw [z])
        simp [this]
    have e0 : (gN 5) (.int (hd l.1 : Nat)) [s0, .o (dictD (modS m b G dn)), s2, .d (bitD b), .d (.int (m : Nat)), s5, .d (.int (hd m : Nat))] = some [s0, .o (dictD (modS m b G dn)), s2, .d (bitD b), .d (.int (m : Nat)), .d (.int (hd l.1 : Nat)), .d (.int (hd m : Nat))] := rfl
    cases hb : l.1.testBit (hd m) with
    | true =>
      rw [hb] at h3
      have hm : modL m b l = (l.1 ^^^ m, l.2 ^^ b) := by unfold modL; rw [if_pos hb]
      have st := set_dict (hlen dn) (l2 := (l.1 ^^^ m, l.2 ^^ b)) hin nd (by rw [← hm]; exact hh l hl)
      rw [← hm] at st
      rw [← next, hm] at st
      rw [forD_go e0 (ρ2 := [s0, .o (dictD (modS m b G (dn ++ [l]))), s2, .d (bitD b), .d (.int (m : Nat)), .d (.int (hd l.1 : Nat)), .d (.int (hd m : Nat))]) ?_]
      · exact h
      · have f2 : DL.flatB (.tuple [.int ((l.1 ^^^ m : Nat) : Int), bitD (l.2 ^^ b)]) = true := by cases (l.2 ^^ b) <;> rfl
        have st' : setXD (dictD (modS m b G dn)) (.int (hd l.1 : Nat)) (.tuple [.int ((l.1 ^^^ m : Nat) : Int), bitD (l.2 ^^ b)]) = some (dictD (modS m b G (dn ++ [l]))) := st
        generalize (l.1 ^^^ m) = z at x2 st' f2
        generalize (l.2 ^^ b) = y at x3 st' f2
        generalize dictD (modS m b G dn) = D at g st'
        generalize dictD (modS m b G (dn ++ [l])) = D2 at st'
        simp [sQ, sIf, sN, qFz, qB, qAnd, qOr, qNot, qYes, e1, DL.e2, eV, eC, eN, eI, eIf, eAnd, eOr, eFz, eSl, oS, oN, aN, aC, aX, sAsg, sAsgO, sRet, sRetO, sRetN, sDrop, sSet, sSetX, sAugI, sMut, sPar, sPat, sParM, mN, mC, DL.setM, iSeq, iN, gN, gT, gC, gZ, outP, outF, outI, en0, stillE, Sl.still, Sl.own, Sl.put, p1, tupD, lstD, mkT, mkL, DL.e3, sl1, sl2, sl3, sl4, sl0, sl5, sl6, sl7, sl8, List.length_cons, List.length_nil, List.length_map, List.getElem?_cons_zero, List.getElem?_cons_succ, List.set_cons_zero, List.set_cons_succ, List.map_cons, List.map_nil, List.replicate, List.cons_append, List.nil_append, List.append_nil, Option.map_some, if_true, if_false, ite_true, ite_false, reduceIte, Nat.reduceAdd, Nat.reduceSub, Nat.reduceLeDiff, Nat.reduceEqDiff, Nat.sub_self, Nat.zero_add, Option.map_none, decide_true, decide_false, Bool.not_true, Bool.not_false, h1, h2, h3, g, x0, x1, x2, x3, f2, st']
    | false =>
      rw [hb] at h3
      have hm : modL m b l = l := by unfold modL; rw [if_neg (by rw [hb]; decide)]
      have same : modS m b G (dn ++ [l]) = modS m b G dn := by
        unfold modS
        refine List.map_congr_left fun k hk => ?_
        by_cases e : k = l
        · subst e
          rw [if_pos (by simp), if_neg hnot, hm]
        · simp [e]
      rw [same] at h
      rw [forD_go e0 (ρ2 := [s0, .o (dictD (modS m b G dn)), s2, .d (bitD b), .d (.int (m : Nat)), .d (.int (hd l.1 : Nat)), .d (.int (hd m : Nat))]) ?_]
      · exact h
      · generalize dictD (modS m b G dn) = D at g
        simp [sQ, sIf, sN, qFz, qB, qAnd, qOr, qNot, qYes, e1, DL.e2, eV, eC, eN, eI, eIf, eAnd, eOr, eFz, eSl, oS, oN, aN, aC, aX, sAsg, sAsgO, sRet, sRetO, sRetN, sDrop, sSet, sSetX, sAugI, sMut, sPar, sPat, sParM, mN, mC, DL.setM, iSeq, iN, gN, gT, gC, gZ, outP, outF, outI, en0, stillE, Sl.still, Sl.own, Sl.put, p1, tupD, lstD, mkT, mkL, DL.e3, sl1, sl2, sl3, sl4, sl0, sl5, sl6, sl7, sl8, List.length_cons, List.length_nil, List.length_map, List.getElem?_cons_zero, List.getElem?_cons_succ, List.set_cons_zero, List.set_cons_succ, List.map_cons, List.map_nil, List.replicate, List.cons_append, List.nil_append, List.append_nil, Option.map_some, if_true, if_false, ite_true, ite_false, reduceIte, Nat.reduceAdd, Nat.reduceSub, Nat.reduceLeDiff, Nat.reduceEqDiff, Nat.sub_self, Nat.zero_add, Option.map_none, decide_true, decide_false, Bool.not_true, Bool.not_false, h1, h2, h3, g, x0]
theorem sorted_it {G S : List Ln} (h : sortX (dictD G) = some (.list (S.map fun l => PyData.int (hd l.1 : Nat)))) {s0 s2 s3 s4 s5 s6 : Sl} : iSeq (eFl (eN (p1 sortX) (aC (eV 1) aN))) [s0, .o (dictD G), s2, s3, s4, s5, s6] = some (S.map fun l => PyData.int (hd l.1 : Nat), [s0, .o (dictD G), s2, s3, s4, s5, s6]) := by
  have e : eFl (eN (p1 sortX) (aC (eV 1) aN)) [s0, .o (dictD G), s2, s3, s4, s5, s6] = some (.list (S.map fun l => PyData.int (hd l.1 : Nat)), [s0, .o (dictD G), s2, s3, s4, s5, s6]) := by
    refine eFl_ok ?_ ?_
    · simp [sQ, sIf, sN, qFz, qB, qAnd, qOr, qNot, qYes, e1, DL.e2, eV, eC, eN, eI, eIf, eAnd, eOr, eFz, eSl, oS, oN, aN, aC, aX, sAsg, sAsgO, sRet, sRetO, sRetN, sDrop, sSet, sSetX, sAugI, sMut, sPar, sPat, sParM, mN, mC, DL.setM, iSeq, iN, gN, gT, gC, gZ, outP, outF, outI, en0, stillE, Sl.still, Sl.own, Sl.put, p1, tupD, lstD, mkT, mkL, DL.e3, sl1, sl2, sl3, sl4, sl0, sl5, sl6, sl7, sl8, List.length_cons, List.length_nil, List.length_map, List.getElem?_cons_zero, List.getElem?_cons_succ, List.set_cons_zero, List.set_cons_succ, List.map_cons, List.map_nil, List.replicate, List.cons_append, List.nil_append, List.append_nil, Option.map_some, if_true, if_false, ite_true, ite_false, reduceIte, Nat.reduceAdd, Nat.reduceSub, Nat.reduceLeDiff, Nat.reduceEqDiff, Nat.sub_self, Nat.zero_add, Option.map_none, decide_true, decide_false, Bool.not_true, Bool.not_false, h]
    · have := nats_flat (S.map fun l => hd l.1)
      unfold natsD at this
      rw [List.map_map] at this
      exact this
  unfold iSeq
  rw [e]
  rfl
/-- one line put to the heads -/
theorem line_ok {n : Nat} (hn : n ≤ 16) {G : List Ln} (r : Rr G) (hG : ∀ l ∈ G, l.1 < 2 ^ n) {l : Ln} (hl : l.1 < 2 ^ n) (x0 : Pt) (hx : Holds G x0) (hd0 : dot l.1 x0 = l.2) {s0 s4 s5 s6 : Sl} : ∃ (G2 : List Ln) (t3 t4 t5 t6 : Sl),
    (sQ (sAsg 4 (eN m_law_mask (aC (eV 2) aN))) (sQ (sFor (iSeq (eFl (eN (p1 sortX) (aC (eV 1) aN)))) (gN 5) (sIf (qB (e2 eqD (e2 andD (e2 shrD (eV 4) (eV 5)) (eC (.int 1))) (eC (.int 1)))) (sPar 4 3 (aC (eFz (e2 xorD (eV 4) (e2 ixX (e2 ixX (eV 1) (eV 5)) (eC (.int 0))))) (aC (eFz (e2 xorD (eV 3) (e2 ixX (e2 ixX (eV 1) (eV 5)) (eC (.int 1))))) aN))) sN)) (sQ (sIf (qAnd (qB (e2 eqD (eV 4) (eC (.int 0)))) (qB (e2 eqD (eV 3) (eC (.int 1))))) (sRet (eC .none)) sN) (sIf (qB (e2 gtI (eV 4) (eC (.int 0)))) (sQ (sAsg 6 (e2 subD (e1 bitsD (e2 andD (eV 4) (e1 negD (eV 4)))) (eC (.int 1)))) (sQ (sFor (iSeq (eFl (eN (p1 sortX) (aC (eV 1) aN)))) (gN 5) (sIf (qFz (qB (e2 eqD (e2 andD (e2 shrD (e2 ixX (e2 ixX (eV 1) (eV 5)) (eC (.int 0))) (eV 6)) (eC (.int 1))) (eC (.int 1))))) (sSetX 1 (eV 5) (eFz (eN mkT (aC (e2 xorD (e2 ixX (e2 ixX (eV 1) (eV 5)) (eC (.int 0))) (eV 4)) (aC (e2 xorD (e2 ixX (e2 ixX (eV 1) (eV 5)) (eC (.int 1))) (eV 3)) aN))))) sN)) (sSetX 1 (eV 6) (eN mkT (aC (eV 4) (aC (eV 3) aN)))))) sN)))) [s0, .o (dictD G), .d (rowD l.1), .d (bitD l.2), s4, s5, s6] = some (.nx [s0, .o (dictD G2), .d (rowD l.1), t3, t4, t5, t6]) ∧ Rr G2 ∧ (∀ k ∈ G2, k.1 < 2 ^ n) ∧ G2.length ≤ G.length + 1 ∧ ∀ x, Holds G2 x ↔ Holds G x ∧ dot l.1 x = l.2 := by
  have p16 : (2 : Nat) ^ n ≤ 2 ^ 16 := Nat.pow_le_pow_right (by decide) hn
  obtain ⟨S, hS, hs⟩ := sort_heads G (by have := rr_len r; omega)
  have rS := r.perm hS
  have hm := mask_ok (Nat.lt_of_lt_of_le hl p16)
  have it := fun (s2 s3 s4 s5 s6 : Sl) => sorted_it hs (s0 := s0) (s2 := s2) (s3 := s3) (s4 := s4) (s5 := s5) (s6 := s6)
  obtain ⟨t5, k1⟩ := lead_ok r.nod (s0 := s0) (s2 := .d (rowD l.1)) (s6 := s6) S l.1 l.2 s5 fun k hk => hS.mem_iff.mp hk
  have k2 : sFor (iSeq (eFl (eN (p1 sortX) (aC (eV 1) aN)))) (gN 5) (sIf (qB (e2 eqD (e2 andD (e2 shrD (eV 4) (eV 5)) (eC (.int 1))) (eC (.int 1)))) (sPar 4 3 (aC (eFz (e2 xorD (eV 4) (e2 ixX (e2 ixX (eV 1) (eV 5)) (eC (.int 0))))) (aC (eFz (e2 xorD (eV 3) (e2 ixX (e2 ixX (eV 1) (eV 5)) (eC (.int 1))))) aN))) sN) [s0, .o (dictD G), .d (rowD l.1), .d (bitD l.2), .d (.int (l.1 : Nat)), s5, s6] = _ := (sFor_eq (it _ _ _ _ _)).trans k1
  have lt := led_ltn (w := l.2) (fun k hk => hG k (hS.mem_iff.mp hk)) hl
  have lh := led_heads (m := l.1) (w := l.2) rS
  have lh' : ∀ k ∈ G, (led S l.1 l.2).1.testBit (hd k.1) = false := fun k hk => lh k (hS.mem_iff.mpr hk)
  have lw : ∀ x, Holds G x → (dot (led S l.1 l.2).1 x ^^ (led S l.1 l.2).2) = (dot l.1 x ^^ l.2) := fun x hx => led_worth ((holds_perm hS).mpr hx)
  generalize (led S l.1 l.2).1 = m at k2 lt lh lh' lw
  generalize (led S l.1 l.2).2 = b at k2 lw
  have z1 := eqD_nat m 0
  have z2 : eqD (bitD b) (.int 1) = some (.bool b) := by unfold bitD; rw [eqD_int]; cases b <;> rfl
  have z3 : gtI (.int (m : Nat)) (.int 0) = some (.bool (decide (0 < m))) := by
    show some (PyData.bool (decide ((0 : Int) < (m : Int)))) = _
    congr 2
    simp only [decide_eq_decide]
    omega
  have z1' : eqD (.int (m : Nat)) (.int 0) = some (.bool (decide (m = 0))) := z1
  by_cases m0 : m = 0
  · have b0 : b = false := by
      have := lw x0 hx
      rw [m0, dot_zero, hd0] at this
      revert this
      cases b <;> cases l.2 <;> simp
    refine ⟨G, .d (bitD b), .d (.int (m : Nat)), t5, s6, ?_, r, hG, Nat.le_succ _, fun x => ⟨fun h => ⟨h, ?_⟩, fun h => h.1⟩⟩
    · rw [decide_eq_true m0] at z1'
      rw [decide_eq_false (by omega)] at z3
      subst b0
      generalize (m : Int) = mi at *
      simp [sQ, sIf, sN, qFz, qB, qAnd, qOr, qNot, qYes, e1, DL.e2, eV, eC, eN, eI, eIf, eAnd, eOr, eFz, eSl, oS, oN, aN, aC, aX, sAsg, sAsgO, sRet, sRetO, sRetN, sDrop, sSet, sSetX, sAugI, sMut, sPar, sPat, sParM, mN, mC, DL.setM, iSeq, iN, gN, gT, gC, gZ, outP, outF, outI, en0, stillE, Sl.still, Sl.own, Sl.put, p1, tupD, lstD, mkT, mkL, DL.e3, sl1, sl2, sl3, sl4, sl0, sl5, sl6, sl7, sl8, List.length_cons, List.length_nil, List.length_map, List.getElem?_cons_zero, List.getElem?_cons_succ, List.set_cons_zero, List.set_cons_succ, List.map_cons, List.map_nil, List.replicate, List.cons_append, List.nil_append, List.append_nil, Option.map_some, if_true, if_false, ite_true, ite_false, reduceIte, Nat.reduceAdd, Nat.reduceSub, Nat.reduceLeDiff, Nat.reduceEqDiff, Nat.sub_self, Nat.zero_add, Option.map_none, decide_true, decide_false, Bool.not_true, Bool.not_false, hm, k2, z1', z2, z3]
    · have := lw x h
      rw [m0, dot_zero, b0] at this
      revert this
      cases dot l.1 x <;> cases l.2 <;> simp
  · have m16 := Nat.lt_of_lt_of_le lt p16
    obtain ⟨t5', k3⟩ := clear_ok r (b := b) m0 m16 lh' (s0 := s0) (s2 := .d (rowD l.1)) S [] t5 (fun k hk => hS.mem_iff.mp hk) (fun _ _ h => by cases h) (by
      have := rS.nod
      exact List.Pairwise.of_map (fun l : Ln => hd l.1) (fun a b h e => h (by rw [e])) this)
    have m1 : modS m b G [] = G := by
      unfold modS
      simp
    have m2 : modS m b G ([] ++ S) = G.map (modL m b) := by
      unfold modS
      refine List.map_congr_left fun k hk => ?_
      rw [if_pos (by rw [List.nil_append]; exact hS.mem_iff.mpr hk)]
    rw [m1, m2] at k3
    have k4 : sFor (iSeq (eFl (eN (p1 sortX) (aC (eV 1) aN)))) (gN 5) (sIf (qFz (qB (e2 eqD (e2 andD (e2 shrD (e2 ixX (e2 ixX (eV 1) (eV 5)) (eC (.int 0))) (eV 6)) (eC (.int 1))) (eC (.int 1))))) (sSetX 1 (eV 5) (eFz (eN mkT (aC (e2 xorD (e2 ixX (e2 ixX (eV 1) (eV 5)) (eC (.int 0))) (eV 4)) (aC (e2 xorD (e2 ixX (e2 ixX (eV 1) (eV 5)) (eC (.int 1))) (eV 3)) aN))))) sN) [s0, .o (dictD G), .d (rowD l.1), .d (bitD b), .d (.int (m : Nat)), t5, .d (.int (hd m : Nat))] = _ := (sFor_eq (it _ _ _ _ _)).trans k3
    have hp : (G.map (modL m b) ++ [(m, b)]).Perm (put1 G m b) := List.perm_append_comm
    have hlen := rr_len r
    have ad : setXD (dictD (G.map (modL m b))) (.int (hd m : Nat)) (entD (m, b)) = some (dictD (G.map (modL m b) ++ [(m, b)])) := by
      refine add_dict (G := G.map (modL m b)) (l := (m, b)) (by rw [List.length_map]; omega) fun k hk => ?_
      obtain ⟨j, hj, rfl⟩ := List.mem_map.mp hk
      have e1 : hd (modL m b j).1 = hd j.1 := put1_head r m0 m16 lh' hj
      rw [e1]
      intro z
      have := lh' j hj
      rw [z, (hd_some m0 m16).1] at this
      cases this
    have ad' : setXD (dictD (G.map (modL m b))) (.int (hd m : Nat)) (.tuple [.int (m : Nat), bitD b]) = some (dictD (G.map (modL m b) ++ [(m, b)])) := ad
    refine ⟨G.map (modL m b) ++ [(m, b)], .d (bitD b), .d (.int (m : Nat)), t5', .d (.int (hd m : Nat)), ?_, (put1_rr r m0 m16 lh').perm hp, fun k hk => put1_ltn hG lt k (hp.mem_iff.mp hk), by rw [hp.length_eq, put1_len]; exact Nat.le_refl _, fun x => ?_⟩
    · rw [decide_eq_false m0] at z1'
      rw [decide_eq_true (by omega)] at z3
      have y1 : negD (.int (m : Nat)) = some (.int (-(m : Int))) := rfl
      have y2 : andD (.int (m : Nat)) (.int (-(m : Int))) = some (.int ((2 ^ hd m : Nat) : Int)) := by
        show some (PyData.int (Builtin.bitAnd (m : Int) (-(m : Int)))) = _
        rw [low_bit m0 m16]
      have y3 : bitsD (.int ((2 ^ hd m : Nat) : Int)) = some (.int ((hd m + 1 : Nat) : Int)) := by
        show some (PyData.int ((Builtin.Int.intBits ((2 ^ hd m : Nat) : Int) : Nat) : Int)) = _
        rw [bits_pow]
      have y4 : subD (.int ((hd m + 1 : Nat) : Int)) (.int 1) = some (.int ((hd m : Nat) : Int)) := by
        show some (PyData.int (((hd m + 1 : Nat) : Int) - 1)) = _
        congr 2
        omega
      generalize ((2 ^ hd m : Nat) : Int) = w1 at y2 y3
      generalize ((hd m + 1 : Nat) : Int) = w2 at y3 y4
      generalize ((hd m : Nat) : Int) = w3 at y4 k4 ad'
      generalize -(m : Int) = w4 at y1 y2
      generalize (m : Int) = w5 at *
      generalize dictD (G.map (modL m b)) = D1 at k4 ad'
      generalize dictD (G.map (modL m b) ++ [(m, b)]) = D2 at ad'
      simp [sQ, sIf, sN, qFz, qB, qAnd, qOr, qNot, qYes, e1, DL.e2, eV, eC, eN, eI, eIf, eAnd, eOr, eFz, eSl, oS, oN, aN, aC, aX, sAsg, sAsgO, sRet, sRetO, sRetN, sDrop, sSet, sSetX, sAugI, sMut, sPar, sPat, sParM, mN, mC, DL.setM, iSeq, iN, gN, gT, gC, gZ, outP, outF, outI, en0, stillE, Sl.still, Sl.own, Sl.put, p1, tupD, lstD, mkT, mkL, DL.e3, sl1, sl2, sl3, sl4, sl0, sl5, sl6, sl7, sl8, List.length_cons, List.length_nil, List.length_map, List.getElem?_cons_zero, List.getElem?_cons_succ, List.set_cons_zero, List.set_cons_succ, List.map_cons, List.map_nil, List.replicate, List.cons_append, List.nil_append, List.append_nil, Option.map_some, if_true, if_false, ite_true, ite_false, reduceIte, Nat.reduceAdd, Nat.reduceSub, Nat.reduceLeDiff, Nat.reduceEqDiff, Nat.sub_self, Nat.zero_add, Option.map_none, decide_true, decide_false, Bool.not_true, Bool.not_false, hm, k2, z1', z3, y1, y2, y3, y4, k4, ad']
    · rw [holds_perm hp, put1_holds]
      refine and_congr_right fun hx => ?_
      have := lw x hx
      revert this
      cases dot m x <;> cases b <;> cases dot l.1 x <;> cases l.2 <;> simp
theorem flat_of_ok {n : Nat} (hn : n ≤ 16) {L : List Ln} (hL : ∀ l ∈ L, l.1 < 2 ^ n) (x0 : Pt) (hx : Holds L x0) : ∃ T, m_law_flat_of [.list (L.map lineD)] = some (flatD T) ∧ Rr T ∧ (∀ k ∈ T, k.1 < 2 ^ n) ∧ T.length ≤ L.length ∧ ∀ x, Holds T x ↔ Holds L x := by
  have p16 : (2 : Nat) ^ n ≤ 2 ^ 16 := Nat.pow_le_pow_right (by decide) hn
  obtain ⟨ρ', k1, G, s2, s3, s4, s5, s6, rfl, r, hG, hlen, hol⟩ := sFor_T lineD L (it := (iSeq (eV 0))) (g := (gT 2 (gC (gN 2) (gC (gN 3) gZ)))) (ψ := (sQ (sAsg 4 (eN m_law_mask (aC (eV 2) aN))) (sQ (sFor (iSeq (eFl (eN (p1 sortX) (aC (eV 1) aN)))) (gN 5) (sIf (qB (e2 eqD (e2 andD (e2 shrD (eV 4) (eV 5)) (eC (.int 1))) (eC (.int 1)))) (sPar 4 3 (aC (eFz (e2 xorD (eV 4) (e2 ixX (e2 ixX (eV 1) (eV 5)) (eC (.int 0))))) (aC (eFz (e2 xorD (eV 3) (e2 ixX (e2 ixX (eV 1) (eV 5)) (eC (.int 1))))) aN))) sN)) (sQ (sIf (qAnd (qB (e2 eqD (eV 4) (eC (.int 0)))) (qB (e2 eqD (eV 3) (eC (.int 1))))) (sRet (eC .none)) sN) (sIf (qB (e2 gtI (eV 4) (eC (.int 0)))) (sQ (sAsg 6 (e2 subD (e1 bitsD (e2 andD (eV 4) (e1 negD (eV 4)))) (eC (.int 1)))) (sQ (sFor (iSeq (eFl (eN (p1 sortX) (aC (eV 1) aN)))) (gN 5) (sIf (qFz (qB (e2 eqD (e2 andD (e2 shrD (e2 ixX (e2 ixX (eV 1) (eV 5)) (eC (.int 0))) (eV 6)) (eC (.int 1))) (eC (.int 1))))) (sSetX 1 (eV 5) (eFz (eN mkT (aC (e2 xorD (e2 ixX (e2 ixX (eV 1) (eV 5)) (eC (.int 0))) (eV 4)) (aC (e2 xorD (e2 ixX (e2 ixX (eV 1) (eV 5)) (eC (.int 1))) (eV 3)) aN))))) sN)) (sSetX 1 (eV 6) (eN mkT (aC (eV 4) (aC (eV 3) aN)))))) sN))))) (ρ := [.d (.list (L.map lineD)), .o (dictD []), .u, .u, .u, .u, .u]) (ρ0 := [.d (.list (L.map lineD)), .o (dictD []), .u, .u, .u, .u, .u]) (by simp [sQ, sIf, sN, qFz, qB, qAnd, qOr, qNot, qYes, e1, DL.e2, eV, eC, eN, eI, eIf, eAnd, eOr, eFz, eSl, oS, oN, aN, aC, aX, sAsg, sAsgO, sRet, sRetO, sRetN, sDrop, sSet, sSetX, sAugI, sMut, sPar, sPat, sParM, mN, mC, DL.setM, iSeq, iN, gN, gT, gC, gZ, outP, outF, outI, en0, stillE, Sl.still, Sl.own, Sl.put, p1, tupD, lstD, mkT, mkL, DL.e3, sl1, sl2, sl3, sl4, sl0, sl5, sl6, sl7, sl8, List.length_cons, List.length_nil, List.length_map, List.getElem?_cons_zero, List.getElem?_cons_succ, List.set_cons_zero, List.set_cons_succ, List.map_cons, List.map_nil, List.replicate, List.cons_append, List.nil_append, List.append_nil, Option.map_some, if_true, if_false, ite_true, ite_false, reduceIte, Nat.reduceAdd, Nat.reduceSub, Nat.reduceLeDiff, Nat.reduceEqDiff, Nat.sub_self, Nat.zero_add, Option.map_none, decide_true, decide_false, Bool.not_true, Bool.not_false, seqOf])
    (fun dn ρ => ∃ (G : List Ln) (s2 s3 s4 s5 s6 : Sl), ρ = [.d (.list (L.map lineD)), .o (dictD G), s2, s3, s4, s5, s6] ∧ Rr G ∧ (∀ k ∈ G, k.1 < 2 ^ n) ∧ G.length ≤ dn.length ∧ ∀ x, Holds G x ↔ Holds dn x)
    ⟨[], .u, .u, .u, .u, .u, rfl, Rr.nil, fun _ h => (nomatch h), Nat.le_refl 0, fun x => Iff.rfl⟩
    (fun dn l rest ρ ed ⟨G, s2, s3, s4, s5, s6, e, r, hG, hlen, hol⟩ => by
      subst e
      have hl : l.1 < 2 ^ n := hL l (by rw [ed]; simp)
      have hdn : Holds dn x0 := fun k hk => hx k (by rw [ed]; simp [hk])
      obtain ⟨G2, t3, t4, t5, t6, q1, q2, q3, q4, q5⟩ := line_ok hn r hG hl x0 ((hol x0).mpr hdn) (hx l (by rw [ed]; simp)) (s0 := .d (.list (L.map lineD))) (s4 := s4) (s5 := s5) (s6 := s6)
      refine ⟨[.d (.list (L.map lineD)), .o (dictD G), .d (rowD l.1), .d (bitD l.2), s4, s5, s6], _, rfl, q1, G2, _, _, _, _, _, rfl, q2, q3, by rw [List.length_append, List.length_singleton]; omega, fun x => ?_⟩
      rw [q5, hol]
      constructor
      · intro ⟨h1, h2⟩ k hk
        rcases List.mem_append.mp hk with hk | hk
        · exact h1 k hk
        · rw [List.mem_singleton.mp hk]; exact h2
      · intro h
        exact ⟨fun k hk => h k (List.mem_append.mpr (.inl hk)), h l (List.mem_append.mpr (.inr (List.mem_singleton.mpr rfl)))⟩)
  obtain ⟨S, hS, hs⟩ := sort_heads G (by have := rr_len r; omega)
  obtain ⟨T, hT, hst⟩ := sort_lines S
  have key := eLc_M (vs := [5]) (it := iSeq (eN (p1 sortX) (aC (eV 1) aN))) (g := gN 5) (a := eN mkT (aC (eN m_law_row (aC (DL.e2 ixX (DL.e2 ixX (eV 1) (eV 5)) (eC (.int 0))) aN)) (aC (DL.e2 ixX (DL.e2 ixX (eV 1) (eV 5)) (eC (.int 1))) aN))) (ρ := [.d (.list (L.map lineD)), .d (dictD G), s2.still, s3.still, s4.still, s5.still, s6.still]) (ρ0 := [.d (.list (L.map lineD)), .d (dictD G), s2.still, s3.still, s4.still, .u, s6.still]) (fun l : Ln => PyData.int (hd l.1 : Nat)) S (by simp [sQ, sIf, sN, qFz, qB, qAnd, qOr, qNot, qYes, e1, DL.e2, eV, eC, eN, eI, eIf, eAnd, eOr, eFz, eSl, oS, oN, aN, aC, aX, sAsg, sAsgO, sRet, sRetO, sRetN, sDrop, sSet, sSetX, sAugI, sMut, sPar, sPat, sParM, mN, mC, DL.setM, iSeq, iN, gN, gT, gC, gZ, outP, outF, outI, en0, stillE, Sl.still, Sl.own, Sl.put, p1, tupD, lstD, mkT, mkL, DL.e3, sl1, sl2, sl3, sl4, sl0, sl5, sl6, sl7, sl8, List.length_cons, List.length_nil, List.length_map, List.getElem?_cons_zero, List.getElem?_cons_succ, List.set_cons_zero, List.set_cons_succ, List.map_cons, List.map_nil, List.replicate, List.cons_append, List.nil_append, List.append_nil, Option.map_some, if_true, if_false, ite_true, ite_false, reduceIte, Nat.reduceAdd, Nat.reduceSub, Nat.reduceLeDiff, Nat.reduceEqDiff, Nat.sub_self, Nat.zero_add, Option.map_none, decide_true, decide_false, Bool.not_true, Bool.not_false, hs, seqOf]) rfl (by cases s5 <;> rfl) lineD (fun l hl => by
    have hg : l ∈ G := hS.mem_iff.mp hl
    refine ⟨[.d (.list (L.map lineD)), .d (dictD G), s2.still, s3.still, s4.still, .d (.int (hd l.1 : Nat)), s6.still], [.d (.list (L.map lineD)), .d (dictD G), s2.still, s3.still, s4.still, .d (.int (hd l.1 : Nat)), s6.still], rfl, ?_, rfl⟩
    have g := ix_dict r.nod hg
    have x0 := ix_ent0 l
    have x1 := ix_ent1 l
    have x2 := lawrow_ok (Nat.lt_of_lt_of_le (hG l hg) p16)
    have hl : lineD l = .tuple [rowD l.1, bitD l.2] := rfl
    rw [hl]
    generalize s2.still = q2
    generalize s3.still = q3
    generalize s4.still = q4
    generalize s6.still = q6
    simp [sQ, sIf, sN, qFz, qB, qAnd, qOr, qNot, qYes, e1, DL.e2, eV, eC, eN, eI, eIf, eAnd, eOr, eFz, eSl, oS, oN, aN, aC, aX, sAsg, sAsgO, sRet, sRetO, sRetN, sDrop, sSet, sSetX, sAugI, sMut, sPar, sPat, sParM, mN, mC, DL.setM, iSeq, iN, gN, gT, gC, gZ, outP, outF, outI, en0, stillE, Sl.still, Sl.own, Sl.put, p1, tupD, lstD, mkT, mkL, DL.e3, sl1, sl2, sl3, sl4, sl0, sl5, sl6, sl7, sl8, List.length_cons, List.length_nil, List.length_map, List.getElem?_cons_zero, List.getElem?_cons_succ, List.set_cons_zero, List.set_cons_succ, List.map_cons, List.map_nil, List.replicate, List.cons_append, List.nil_append, List.append_nil, Option.map_some, if_true, if_false, ite_true, ite_false, reduceIte, Nat.reduceAdd, Nat.reduceSub, Nat.reduceLeDiff, Nat.reduceEqDiff, Nat.sub_self, Nat.zero_add, Option.map_none, decide_true, decide_false, Bool.not_true, Bool.not_false, g, x0, x1, x2])
  have fin : eFc (eN (p1 tupD) (aC (eN (p1 sortX) (aC (eLc [5] (iSeq (eN (p1 sortX) (aC (eV 1) aN))) (gN 5) qYes (eN mkT (aC (eN m_law_row (aC (DL.e2 ixX (DL.e2 ixX (eV 1) (eV 5)) (eC (.int 0))) aN)) (aC (DL.e2 ixX (DL.e2 ixX (eV 1) (eV 5)) (eC (.int 1))) aN)))) aN)) aN)) [.d (.list (L.map lineD)), .o (dictD G), s2, s3, s4, s5, s6] = some (flatD T, [.d (.list (L.map lineD)), .o (dictD G), s2, s3, s4, s5, s6]) := by
    refine eFc_ok ?_ (flat_flat T)
    show eN (p1 tupD) _ [.d (.list (L.map lineD)), .d (dictD G), s2.still, s3.still, s4.still, s5.still, s6.still] = some (flatD T, [.d (.list (L.map lineD)), .d (dictD G), s2.still, s3.still, s4.still, s5.still, s6.still])
    have hfl : flatD T = .tuple (T.map lineD) := rfl
    rw [hfl]
    generalize s2.still = q2 at *
    generalize s3.still = q3 at *
    generalize s4.still = q4 at *
    generalize s5.still = q5 at *
    generalize s6.still = q6 at *
    generalize hTl : T.map lineD = tl at hst
    simp [sQ, sIf, sN, qFz, qB, qAnd, qOr, qNot, qYes, e1, DL.e2, eV, eC, eN, eI, eIf, eAnd, eOr, eFz, eSl, oS, oN, aN, aC, aX, sAsg, sAsgO, sRet, sRetO, sRetN, sDrop, sSet, sSetX, sAugI, sMut, sPar, sPat, sParM, mN, mC, DL.setM, iSeq, iN, gN, gT, gC, gZ, outP, outF, outI, en0, stillE, Sl.still, Sl.own, Sl.put, p1, tupD, lstD, mkT, mkL, DL.e3, sl1, sl2, sl3, sl4, sl0, sl5, sl6, sl7, sl8, List.length_cons, List.length_nil, List.length_map, List.getElem?_cons_zero, List.getElem?_cons_succ, List.set_cons_zero, List.set_cons_succ, List.map_cons, List.map_nil, List.replicate, List.cons_append, List.nil_append, List.append_nil, Option.map_some, if_true, if_false, ite_true, ite_false, reduceIte, Nat.reduceAdd, Nat.reduceSub, Nat.reduceLeDiff, Nat.reduceEqDiff, Nat.sub_self, Nat.zero_add, Option.map_none, decide_true, decide_false, Bool.not_true, Bool.not_false, key, hst]
  refine ⟨T, ?_, (r.perm hS).perm hT, fun k hk => hG k (hS.mem_iff.mp (hT.mem_iff.mp hk)), by rw [hT.length_eq, hS.length_eq]; exact hlen, fun x => by rw [holds_perm hT, holds_perm hS, hol]⟩
  have e0 : dictD [] = .dict [] := rfl
  rw [e0] at k1
  generalize L.map lineD = ll at *
  generalize dictD G = D at *
  simp [m_law_flat_of, runP, b_law_flat_of, sQ, sIf, sN, qFz, qB, qAnd, qOr, qNot, qYes, e1, DL.e2, eV, eC, eN, eI, eIf, eAnd, eOr, eFz, eSl, oS, oN, aN, aC, aX, sAsg, sAsgO, sRet, sRetO, sRetN, sDrop, sSet, sSetX, sAugI, sMut, sPar, sPat, sParM, mN, mC, DL.setM, iSeq, iN, gN, gT, gC, gZ, outP, outF, outI, en0, stillE, Sl.still, Sl.own, Sl.put, p1, tupD, lstD, mkT, mkL, DL.e3, sl1, sl2, sl3, sl4, sl0, sl5, sl6, sl7, sl8, List.length_cons, List.length_nil, List.length_map, List.getElem?_cons_zero, List.getElem?_cons_succ, List.set_cons_zero, List.set_cons_succ, List.map_cons, List.map_nil, List.replicate, List.cons_append, List.nil_append, List.append_nil, Option.map_some, if_true, if_false, ite_true, ite_false, reduceIte, Nat.reduceAdd, Nat.reduceSub, Nat.reduceLeDiff, Nat.reduceEqDiff, Nat.sub_self, Nat.zero_add, Option.map_none, decide_true, decide_false, Bool.not_true, Bool.not_false, k1, fin]
end Lk14

set_option maxHeartbeats 4000000
namespace Lk14
open PySem L2 DL FL
theorem mulMod {x y m : Int} (h : 0 < m) (h2 : m < 18446744073709551616) : mulI (.int (x % m)) (.int y) = some (.int (x % m * y)) := by
  have h3 := Int.emod_nonneg x (show m ≠ 0 by omega)
  have h4 := Int.emod_lt_of_pos x h
  exact mulL (by omega) (by omega)
theorem take_ok {b : Bag} (hb : BagOk b) {many : Int} (h1 : 0 < many) (h2 : many < 1073741824) :
    ∃ r b', m_law_take (bagV b) [.int many] = some (.int r, bagV b') ∧ BagOk b' ∧ 0 ≤ r ∧ r < many := by
  obtain ⟨c, hc, hr⟩ := cell_of b.cells b.pos
  obtain ⟨r, hr1, hr2, hr3⟩ := hr hb.len
  have hc0 := hc hb.cells
  obtain ⟨big, seed, pos, cells⟩ := b
  have hbig := hb.big
  have hseed := hb.seed
  have hpos := hb.pos
  have hcs := hb.cells
  have hlen := hb.len
  simp only at hr1 hbig hseed hpos hcs hlen
  by_cases hz : big = 0
  · subst hz
    by_cases hbig : 1000000000000000000 ≤ c
    · have hcp : 0 < c := by omega
      simp [m_law_take, runI, b_law_take, bagV, sQ, sIf, sN, qFz, qB, qAnd, qOr, qNot, qYes, e1, DL.e2, eV, eC, eN, eI, eIf, eAnd, eOr, eFz, eSl, oS, oN, aN, aC, aX, sAsg, sAsgO, sRet, sRetO, sRetN, sDrop, sSet, sAugI, sMut, sPar, sPat, iSeq, iN, gN, gT, gC, gZ, outP, outF, outI, en0, stillE, Sl.still, Sl.own, Sl.put, seqOf, ixD, p1, lenS, intD, absD, ixX, lenX, sSetX, setXD, sParM, mN, mC, DL.setM, tupD, lstD, mkT, mkL, slD, slL, setLD, notD, negD, ltI, leI, gtI, geI, iB, addD, subD, isN, isNotN, atI_0, atI_1, atI_2, atI_3, ixN_40, ixN_41, ixN_42, eqD_int, neD_int, DL.flatB, DL.flatBs, max2D, min2D, iI, sl1, sl2, sl3, sl4, sl0, sl5, sl6, sl7, sl8, List.length_cons, List.length_nil, List.length_append, List.length_map, List.getElem?_cons_zero, List.getElem?_cons_succ, List.set_cons_zero, List.set_cons_succ, List.map_cons, List.map_nil, List.replicate, List.cons_append, List.nil_append, List.append_nil, Option.map_some, if_true, if_false, ite_true, ite_false, reduceIte, Nat.reduceAdd, Nat.reduceSub, Nat.reduceLeDiff, Nat.reduceEqDiff, Int.reduceAdd, modD_int, fdivD_int, mulR, mulL, Nat.sub_self, Nat.zero_add, Option.map_none, decide_true, decide_false, Bool.not_true, Bool.not_false, hr1, hr2, hr3, pow18, hbig, hcp, h1, h2]
      refine ⟨c % many, ⟨c / many, _, pos + 1, cells⟩, ⟨rfl, rfl, rfl, rfl, rfl⟩, ⟨Int.ediv_nonneg (by omega) (by omega), ⟨Int.emod_nonneg _ (by omega), Int.emod_lt_of_pos _ (by omega)⟩, (by show 0 ≤ pos + 1; omega), hcs, hlen⟩, Int.emod_nonneg _ (by omega), Int.emod_lt_of_pos _ h1⟩
    · simp [m_law_take, runI, b_law_take, bagV, sQ, sIf, sN, qFz, qB, qAnd, qOr, qNot, qYes, e1, DL.e2, eV, eC, eN, eI, eIf, eAnd, eOr, eFz, eSl, oS, oN, aN, aC, aX, sAsg, sAsgO, sRet, sRetO, sRetN, sDrop, sSet, sAugI, sMut, sPar, sPat, iSeq, iN, gN, gT, gC, gZ, outP, outF, outI, en0, stillE, Sl.still, Sl.own, Sl.put, seqOf, ixD, p1, lenS, intD, absD, ixX, lenX, sSetX, setXD, sParM, mN, mC, DL.setM, tupD, lstD, mkT, mkL, slD, slL, setLD, notD, negD, ltI, leI, gtI, geI, iB, addD, subD, isN, isNotN, atI_0, atI_1, atI_2, atI_3, ixN_40, ixN_41, ixN_42, eqD_int, neD_int, DL.flatB, DL.flatBs, max2D, min2D, iI, sl1, sl2, sl3, sl4, sl0, sl5, sl6, sl7, sl8, List.length_cons, List.length_nil, List.length_append, List.length_map, List.getElem?_cons_zero, List.getElem?_cons_succ, List.set_cons_zero, List.set_cons_succ, List.map_cons, List.map_nil, List.replicate, List.cons_append, List.nil_append, List.append_nil, Option.map_some, if_true, if_false, ite_true, ite_false, reduceIte, Nat.reduceAdd, Nat.reduceSub, Nat.reduceLeDiff, Nat.reduceEqDiff, Int.reduceAdd, modD_int, fdivD_int, mulR, mulL, Nat.sub_self, Nat.zero_add, Option.map_none, decide_true, decide_false, Bool.not_true, Bool.not_false, hr1, hr2, hr3, pow18, hbig, h1, h2, mulMod]
      refine ⟨_, ⟨0, _, pos + 1, cells⟩, ⟨rfl, rfl, rfl, rfl, rfl⟩, ⟨Int.le_refl 0, ⟨Int.emod_nonneg _ (by omega), Int.emod_lt_of_pos _ (by omega)⟩, (by show 0 ≤ pos + 1; omega), hcs, hlen⟩, Int.emod_nonneg _ (by omega), Int.emod_lt_of_pos _ h1⟩
  · have hcp : 0 < big := by omega
    simp [m_law_take, runI, b_law_take, bagV, sQ, sIf, sN, qFz, qB, qAnd, qOr, qNot, qYes, e1, DL.e2, eV, eC, eN, eI, eIf, eAnd, eOr, eFz, eSl, oS, oN, aN, aC, aX, sAsg, sAsgO, sRet, sRetO, sRetN, sDrop, sSet, sAugI, sMut, sPar, sPat, iSeq, iN, gN, gT, gC, gZ, outP, outF, outI, en0, stillE, Sl.still, Sl.own, Sl.put, seqOf, ixD, p1, lenS, intD, absD, ixX, lenX, sSetX, setXD, sParM, mN, mC, DL.setM, tupD, lstD, mkT, mkL, slD, slL, setLD, notD, negD, ltI, leI, gtI, geI, iB, addD, subD, isN, isNotN, atI_0, atI_1, atI_2, atI_3, ixN_40, ixN_41, ixN_42, eqD_int, neD_int, DL.flatB, DL.flatBs, max2D, min2D, iI, sl1, sl2, sl3, sl4, sl0, sl5, sl6, sl7, sl8, List.length_cons, List.length_nil, List.length_append, List.length_map, List.getElem?_cons_zero, List.getElem?_cons_succ, List.set_cons_zero, List.set_cons_succ, List.map_cons, List.map_nil, List.replicate, List.cons_append, List.nil_append, List.append_nil, Option.map_some, if_true, if_false, ite_true, ite_false, reduceIte, Nat.reduceAdd, Nat.reduceSub, Nat.reduceLeDiff, Nat.reduceEqDiff, Int.reduceAdd, modD_int, fdivD_int, mulR, mulL, Nat.sub_self, Nat.zero_add, Option.map_none, decide_true, decide_false, Bool.not_true, Bool.not_false, hr1, hr2, hr3, pow18, hz, hcp, h1, h2]
    refine ⟨big % many, ⟨big / many, seed, pos, cells⟩, ⟨rfl, rfl, rfl, rfl, rfl⟩, ⟨Int.ediv_nonneg (by omega) (by omega), hseed, hpos, hcs, hlen⟩, Int.emod_nonneg _ (by omega), Int.emod_lt_of_pos _ h1⟩
theorem atI_mem {xs : List PyData} {r : Int} (h : 0 ≤ r) (h1 : r < xs.length) : ∃ x, atI xs r = some x ∧ x ∈ xs := by
  obtain ⟨n, rfl⟩ := Int.eq_ofNat_of_zero_le h
  have hn : n < xs.length := by omega
  exact ⟨xs[n], atI_int (List.getElem?_eq_getElem hn), List.getElem_mem _⟩
/-- a choice out of a list -/
theorem some_ok {b : Bag} (hb : BagOk b) {xs : List PyData} (h1 : 0 < xs.length) (h2 : xs.length < 16777216) :
    ∃ x b', m_law_some (bagV b) [.list xs] = some (x, bagV b') ∧ BagOk b' ∧ x ∈ xs := by
  obtain ⟨r, b', e, ok, r0, r1⟩ := take_ok hb (many := (xs.length : Int)) (by omega) (by omega)
  obtain ⟨x, hx, hm⟩ := atI_mem r0 r1
  refine ⟨x, b', ?_, ok, hm⟩
  unfold bagV at *
  simp [m_law_some, runI, b_law_some, eI, sQ, sIf, sN, qFz, qB, qAnd, qOr, qNot, qYes, e1, DL.e2, eV, eC, eN, eI, eIf, eAnd, eOr, eFz, eSl, oS, oN, aN, aC, aX, sAsg, sAsgO, sRet, sRetO, sRetN, sDrop, sSet, sAugI, sMut, sPar, sPat, iSeq, iN, gN, gT, gC, gZ, outP, outF, outI, en0, stillE, Sl.still, Sl.own, Sl.put, seqOf, ixD, p1, lenS, intD, absD, ixX, lenX, sSetX, setXD, sParM, mN, mC, DL.setM, tupD, lstD, mkT, mkL, slD, slL, setLD, notD, negD, ltI, leI, gtI, geI, iB, addD, subD, isN, isNotN, atI_0, atI_1, atI_2, atI_3, ixN_40, ixN_41, ixN_42, eqD_int, neD_int, DL.flatB, DL.flatBs, max2D, min2D, iI, sl1, sl2, sl3, sl4, sl0, sl5, sl6, sl7, sl8, List.length_cons, List.length_nil, List.length_append, List.length_map, List.getElem?_cons_zero, List.getElem?_cons_succ, List.set_cons_zero, List.set_cons_succ, List.map_cons, List.map_nil, List.replicate, List.cons_append, List.nil_append, List.append_nil, Option.map_some, if_true, if_false, ite_true, ite_false, reduceIte, Nat.reduceAdd, Nat.reduceSub, Nat.reduceLeDiff, Nat.reduceEqDiff, Int.reduceAdd, modD_int, fdivD_int, mulR, mulL, Nat.sub_self, Nat.zero_add, Option.map_none, decide_true, decide_false, Bool.not_true, Bool.not_false, e, hx]
theorem take_nat {b : Bag} (hb : BagOk b) {many : Nat} (h1 : 0 < many) (h2 : many < 1073741824) : ∃ (r : Nat) (b' : Bag), m_law_take (bagV b) [.int (many : Nat)] = some (.int (r : Nat), bagV b') ∧ BagOk b' ∧ r < many := by
  obtain ⟨r, b', e, ok, r0, r1⟩ := take_ok hb (many := (many : Int)) (by omega) (by omega)
  obtain ⟨k, rfl⟩ := Int.eq_ofNat_of_zero_le r0
  exact ⟨k, b', e, ok, by omega⟩
theorem row_pow : ∀ r < 16, rowD (2 ^ r) = .tuple [.int (r : Nat)] := by
  intro r hr
  have h : ∀ r < 16, bitsOf (2 ^ r) = [r] := by decide +kernel
  unfold rowD
  rw [h r hr]
  rfl
theorem any_row_ok {b : Bag} (hb : BagOk b) {many : Nat} (h1 : 0 < many) (h2 : many ≤ 12) : ∃ (m : Nat) (b' : Bag), m_law_any_row (bagV b) [.int (many : Nat)] = some (rowD m, bagV b') ∧ BagOk b' ∧ m ≠ 0 ∧ m < 2 ^ many := by
  obtain ⟨x, b1, hs, hb1, hm⟩ := some_ok hb (xs := [.int 1, .int 2, .int 2, .int 3, .int (many : Nat)]) (by simp) (by simp)
  have hx : ∃ n : Nat, x = .int n ∧ n ≤ 12 := by
    have h3 : x = .int 1 ∨ x = .int 2 ∨ x = .int 2 ∨ x = .int 3 ∨ x = .int (many : Nat) := by simpa using hm
    rcases h3 with rfl | rfl | rfl | rfl | rfl
    · exact ⟨1, rfl, by decide⟩
    · exact ⟨2, rfl, by decide⟩
    · exact ⟨2, rfl, by decide⟩
    · exact ⟨3, rfl, by decide⟩
    · exact ⟨many, rfl, h2⟩
  obtain ⟨n, rfl, hn⟩ := hx
  obtain ⟨ρ', k1, m, b2, s, rfl, hb2, m1⟩ := sFor_T (fun u : Nat => PyData.int (u : Int)) (List.range n) (it := (iN rng1 (aC (eI m_law_some 0 (aC (eN mkL (aC (eC (.int 1)) (aC (eC (.int 2)) (aC (eC (.int 2)) (aC (eC (.int 3)) (aC (eV 1) aN)))))) aN)) aN))) (g := (gN 3)) (ψ := (sAsg 2 (e2 xorD (eV 2) (e2 shlX (eC (.int 1)) (eI m_law_take 0 (aC (eV 1) aN)))))) (ρ := [.b (bagV b), .d (.int (many : Nat)), .d (.int 0), .u]) (ρ0 := [.b (bagV b1), .d (.int (many : Nat)), .d (.int 0), .u]) (by have h := rng_ok (n := n) (by omega); simp [sQ, sIf, sN, qFz, qB, qAnd, qOr, qNot, qYes, e1, DL.e2, eV, eC, eN, eI, eIf, eAnd, eOr, eFz, eSl, oS, oN, aN, aC, aX, sAsg, sAsgO, sRet, sRetO, sRetN, sDrop, sSet, sSetX, sAugI, sMut, sPar, sPat, sParM, mN, mC, DL.setM, iSeq, iN, gN, gT, gC, gZ, outP, outF, outI, en0, stillE, Sl.still, Sl.own, Sl.put, p1, tupD, lstD, mkT, mkL, DL.e3, sl1, sl2, sl3, sl4, sl0, sl5, sl6, sl7, sl8, List.length_cons, List.length_nil, List.length_map, List.getElem?_cons_zero, List.getElem?_cons_succ, List.set_cons_zero, List.set_cons_succ, List.map_cons, List.map_nil, List.replicate, List.cons_append, List.nil_append, List.append_nil, Option.map_some, if_true, if_false, ite_true, ite_false, reduceIte, Nat.reduceAdd, Nat.reduceSub, Nat.reduceLeDiff, Nat.reduceEqDiff, Nat.sub_self, Nat.zero_add, Option.map_none, decide_true, decide_false, Bool.not_true, Bool.not_false, hs, h])
    (fun dn ρ => ∃ (m : Nat) (b' : Bag) (s : Sl), ρ = [.b (bagV b'), .d (.int (many : Nat)), .d (.int (m : Nat)), s] ∧ BagOk b' ∧ m < 2 ^ many)
    ⟨0, b1, .u, rfl, hb1, Nat.two_pow_pos _⟩
    (fun dn x rest ρ e ⟨m, b2, s, e1, hb2, m1⟩ => by
      subst e1
      obtain ⟨r, b3, ht, ok, r1⟩ := take_nat hb2 (many := many) h1 (by omega)
      have q1 := shl_one (u := r) (by omega)
      have q2 := xorD_nn m (2 ^ r)
      refine ⟨[.b (bagV b2), .d (.int (many : Nat)), .d (.int (m : Nat)), .d (.int (x : Int))], [.b (bagV b3), .d (.int (many : Nat)), .d (.int ((m ^^^ 2 ^ r : Nat) : Int)), .d (.int (x : Int))], rfl, ?_, m ^^^ 2 ^ r, b3, _, rfl, ok, Nat.xor_lt_two_pow m1 (Nat.pow_lt_pow_right (by decide) r1)⟩
      generalize ((m ^^^ 2 ^ r : Nat) : Int) = z at q2
      generalize ((2 ^ r : Nat) : Int) = y at q1 q2
      simp [sQ, sIf, sN, qFz, qB, qAnd, qOr, qNot, qYes, e1, DL.e2, eV, eC, eN, eI, eIf, eAnd, eOr, eFz, eSl, oS, oN, aN, aC, aX, sAsg, sAsgO, sRet, sRetO, sRetN, sDrop, sSet, sSetX, sAugI, sMut, sPar, sPat, sParM, mN, mC, DL.setM, iSeq, iN, gN, gT, gC, gZ, outP, outF, outI, en0, stillE, Sl.still, Sl.own, Sl.put, p1, tupD, lstD, mkT, mkL, DL.e3, sl1, sl2, sl3, sl4, sl0, sl5, sl6, sl7, sl8, List.length_cons, List.length_nil, List.length_map, List.getElem?_cons_zero, List.getElem?_cons_succ, List.set_cons_zero, List.set_cons_succ, List.map_cons, List.map_nil, List.replicate, List.cons_append, List.nil_append, List.append_nil, Option.map_some, if_true, if_false, ite_true, ite_false, reduceIte, Nat.reduceAdd, Nat.reduceSub, Nat.reduceLeDiff, Nat.reduceEqDiff, Nat.sub_self, Nat.zero_add, Option.map_none, decide_true, decide_false, Bool.not_true, Bool.not_false, ht, q1, q2])
  have hg : gtI (.int (m : Nat)) (.int 0) = some (.bool (decide (0 < m))) := by
    show some (PyData.bool (decide ((0 : Int) < (m : Int)))) = _
    congr 2
    simp only [decide_eq_decide]
    omega
  by_cases hz : 0 < m
  · have hr := lawrow_ok (m := m) (Nat.lt_of_lt_of_le m1 (Nat.pow_le_pow_right (by decide) (by omega)))
    refine ⟨m, b2, ?_, hb2, by omega, m1⟩
    rw [decide_eq_true hz] at hg
    generalize (m : Int) = mi at *
    simp [m_law_any_row, runI, b_law_any_row, sQ, sIf, sN, qFz, qB, qAnd, qOr, qNot, qYes, e1, DL.e2, eV, eC, eN, eI, eIf, eAnd, eOr, eFz, eSl, oS, oN, aN, aC, aX, sAsg, sAsgO, sRet, sRetO, sRetN, sDrop, sSet, sSetX, sAugI, sMut, sPar, sPat, sParM, mN, mC, DL.setM, iSeq, iN, gN, gT, gC, gZ, outP, outF, outI, en0, stillE, Sl.still, Sl.own, Sl.put, p1, tupD, lstD, mkT, mkL, DL.e3, sl1, sl2, sl3, sl4, sl0, sl5, sl6, sl7, sl8, List.length_cons, List.length_nil, List.length_map, List.getElem?_cons_zero, List.getElem?_cons_succ, List.set_cons_zero, List.set_cons_succ, List.map_cons, List.map_nil, List.replicate, List.cons_append, List.nil_append, List.append_nil, Option.map_some, if_true, if_false, ite_true, ite_false, reduceIte, Nat.reduceAdd, Nat.reduceSub, Nat.reduceLeDiff, Nat.reduceEqDiff, Nat.sub_self, Nat.zero_add, Option.map_none, decide_true, decide_false, Bool.not_true, Bool.not_false, k1, hg, hr]
  · obtain ⟨r, b3, ht, ok, r1⟩ := take_nat hb2 (many := many) h1 (by omega)
    refine ⟨2 ^ r, b3, ?_, ok, Nat.pos_iff_ne_zero.mp (Nat.two_pow_pos r), Nat.pow_lt_pow_right (by decide) r1⟩
    rw [row_pow r (by omega)]
    rw [decide_eq_false hz] at hg
    generalize (m : Int) = mi at *
    simp [m_law_any_row, runI, b_law_any_row, sQ, sIf, sN, qFz, qB, qAnd, qOr, qNot, qYes, e1, DL.e2, eV, eC, eN, eI, eIf, eAnd, eOr, eFz, eSl, oS, oN, aN, aC, aX, sAsg, sAsgO, sRet, sRetO, sRetN, sDrop, sSet, sSetX, sAugI, sMut, sPar, sPat, sParM, mN, mC, DL.setM, iSeq, iN, gN, gT, gC, gZ, outP, outF, outI, en0, stillE, Sl.still, Sl.own, Sl.put, p1, tupD, lstD, mkT, mkL, DL.e3, sl1, sl2, sl3, sl4, sl0, sl5, sl6, sl7, sl8, List.length_cons, List.length_nil, List.length_map, List.getElem?_cons_zero, List.getElem?_cons_succ, List.set_cons_zero, List.set_cons_succ, List.map_cons, List.map_nil, List.replicate, List.cons_append, List.nil_append, List.append_nil, Option.map_some, if_true, if_false, ite_true, ite_false, reduceIte, Nat.reduceAdd, Nat.reduceSub, Nat.reduceLeDiff, Nat.reduceEqDiff, Nat.sub_self, Nat.zero_add, Option.map_none, decide_true, decide_false, Bool.not_true, Bool.not_false, k1, hg, ht]
/-- worths -/
theorem sum_par (x : Pt) : ∀ (l : List Nat) (s : Int) (b : Bool), s % 2 = (if b then 1 else 0) → (s + (l.map fun u => if x u then (1 : Int) else 0).sum) % 2 = if l.foldl (fun b u => b ^^ x u) b then 1 else 0
  | [], s, b, h => by
    show (s + 0) % 2 = _
    rw [Int.add_zero]
    exact h
  | u :: l, s, b, h => by
    rw [List.map_cons, List.sum_cons, List.foldl_cons, ← Int.add_assoc]
    refine sum_par x l _ _ ?_
    cases b <;> cases x u <;> simp at h ⊢ <;> omega
theorem worth_ok {n m : Nat} (hn : n ≤ 16) (hm : m < 2 ^ n) (x : Pt) : m_law_worth [rowD m, .list ((List.range n).map fun u => bitD (x u))] = some (bitD (dot m x)) := by
  have key := eLc_M (vs := [2]) (it := iSeq (eV 0)) (g := gN 2) (a := DL.e2 ixX (eV 1) (eV 2)) (ρ := [.d (rowD m), .d (.list ((List.range n).map fun u => bitD (x u))), .u]) (fun u : Nat => PyData.int (u : Int)) (bitsOf m) rfl rfl rfl (fun u => bitD (x u)) (fun u hu => by
    refine ⟨[.d (rowD m), .d (.list ((List.range n).map fun u => bitD (x u))), .d (.int (u : Int))], [.d (rowD m), .d (.list ((List.range n).map fun u => bitD (x u))), .d (.int (u : Int))], rfl, ?_, rfl⟩
    have h1 : ixX (.list ((List.range n).map fun u => bitD (x u))) (.int (u : Int)) = some (bitD (x u)) := by
      show atI _ _ = _
      refine atI_int ?_
      rw [List.getElem?_map, List.getElem?_range (bits_below hm u hu)]
      rfl
    simp [sQ, sIf, sN, qFz, qB, qAnd, qOr, qNot, qYes, e1, DL.e2, eV, eC, eN, eI, eIf, eAnd, eOr, eFz, eSl, oS, oN, aN, aC, aX, sAsg, sAsgO, sRet, sRetO, sRetN, sDrop, sSet, sSetX, sAugI, sMut, sPar, sPat, sParM, mN, mC, DL.setM, iSeq, iN, gN, gT, gC, gZ, outP, outF, outI, en0, stillE, Sl.still, Sl.own, Sl.put, p1, tupD, lstD, mkT, mkL, DL.e3, sl1, sl2, sl3, sl4, sl0, sl5, sl6, sl7, sl8, List.length_cons, List.length_nil, List.length_map, List.getElem?_cons_zero, List.getElem?_cons_succ, List.set_cons_zero, List.set_cons_succ, List.map_cons, List.map_nil, List.replicate, List.cons_append, List.nil_append, List.append_nil, Option.map_some, if_true, if_false, ite_true, ite_false, reduceIte, Nat.reduceAdd, Nat.reduceSub, Nat.reduceLeDiff, Nat.reduceEqDiff, Nat.sub_self, Nat.zero_add, Option.map_none, decide_true, decide_false, Bool.not_true, Bool.not_false, h1])
  have hs : sumD (.list ((bitsOf m).map fun u => bitD (x u))) = some (.int ((bitsOf m).map fun u => if x u then (1 : Int) else 0).sum) := by
    show (intsOf _).map _ = _
    have e : ((bitsOf m).map fun u => bitD (x u)) = ((bitsOf m).map fun u => if x u then (1 : Int) else 0).map PyData.int := by rw [List.map_map]; rfl
    rw [e, intsOf_map]
    rfl
  have hp := sum_par x (bitsOf m) 0 false rfl
  rw [← dot_fold, Int.zero_add] at hp
  have hmod : modD (.int ((bitsOf m).map fun u => if x u then (1 : Int) else 0).sum) (.int 2) = some (bitD (dot m x)) := by
    rw [modD_int (by decide), hp]
    rfl
  have hi : ∀ i : Int, intD (.int i) = some (.int i) := fun _ => rfl
  generalize ((bitsOf m).map fun u => if x u then (1 : Int) else 0).sum = z at hs hmod
  generalize ((bitsOf m).map fun u => bitD (x u)) = y at hs key
  simp [m_law_worth, runP, b_law_worth, sQ, sIf, sN, qFz, qB, qAnd, qOr, qNot, qYes, e1, DL.e2, eV, eC, eN, eI, eIf, eAnd, eOr, eFz, eSl, oS, oN, aN, aC, aX, sAsg, sAsgO, sRet, sRetO, sRetN, sDrop, sSet, sSetX, sAugI, sMut, sPar, sPat, sParM, mN, mC, DL.setM, iSeq, iN, gN, gT, gC, gZ, outP, outF, outI, en0, stillE, Sl.still, Sl.own, Sl.put, p1, tupD, lstD, mkT, mkL, DL.e3, sl1, sl2, sl3, sl4, sl0, sl5, sl6, sl7, sl8, List.length_cons, List.length_nil, List.length_map, List.getElem?_cons_zero, List.getElem?_cons_succ, List.set_cons_zero, List.set_cons_succ, List.map_cons, List.map_nil, List.replicate, List.cons_append, List.nil_append, List.append_nil, Option.map_some, if_true, if_false, ite_true, ite_false, reduceIte, Nat.reduceAdd, Nat.reduceSub, Nat.reduceLeDiff, Nat.reduceEqDiff, Nat.sub_self, Nat.zero_add, Option.map_none, decide_true, decide_false, Bool.not_true, Bool.not_false, key, hs, hi, hmod]
/-- a drawn flat -/
theorem bits_drawn {many : Nat} (hm : many ≤ 12) {b : Bag} (hb : BagOk b) {s1 s2 s3 s4 s5 s6 : Sl} (h1 : s1 = .d (.int (many : Nat))) : ∃ (x : Pt) (b' : Bag), eLc [7] (iN rng1 (aC (eV 1) aN)) (gN 7) qYes (eI m_law_take 0 (aC (eC (.int 2)) aN)) [.b (bagV b), s1, s2, s3, s4, s5, s6, .u] = some (.list ((List.range many).map fun u => bitD (x u)), [.b (bagV b'), s1, s2, s3, s4, s5, s6, .u]) ∧ BagOk b' := by
  subst h1
  obtain ⟨more, ρ', k, x, b', rfl, ok, e⟩ := lcD_inv (vs := [7]) (g := gN 7) (q := qYes) (a := eI m_law_take 0 (aC (eC (.int 2)) aN))
    (fun dn out ρ => ∃ (x : Pt) (b' : Bag), ρ = [.b (bagV b'), .d (.int (many : Nat)), s2, s3, s4, s5, s6, .u] ∧ BagOk b' ∧ out = (List.range dn.length).map fun u => bitD (x u))
    ((List.range many).map fun u : Nat => PyData.int (u : Int))
    (fun dn y rest out ρ ed ⟨x, b1, e, ok, eo⟩ => by
      subst e
      obtain ⟨r, b2, ht, ok2, r1⟩ := take_nat ok (many := 2) (by decide) (by decide)
      have ht' : m_law_take (bagV b1) [.int 2] = some (.int (r : Nat), bagV b2) := ht
      refine ⟨[.b (bagV b1), .d (.int (many : Nat)), s2, s3, s4, s5, s6, .d y], true, _, rfl, rfl, fun _ => ⟨.int (r : Nat), [.b (bagV b2), .d (.int (many : Nat)), s2, s3, s4, s5, s6, .d y], by simp [sQ, sIf, sN, qFz, qB, qAnd, qOr, qNot, qYes, e1, DL.e2, eV, eC, eN, eI, eIf, eAnd, eOr, eFz, eSl, oS, oN, aN, aC, aX, sAsg, sAsgO, sRet, sRetO, sRetN, sDrop, sSet, sSetX, sAugI, sMut, sPar, sPat, sParM, mN, mC, DL.setM, iSeq, iN, gN, gT, gC, gZ, outP, outF, outI, en0, stillE, Sl.still, Sl.own, Sl.put, p1, tupD, lstD, mkT, mkL, DL.e3, sl1, sl2, sl3, sl4, sl0, sl5, sl6, sl7, sl8, List.length_cons, List.length_nil, List.length_map, List.getElem?_cons_zero, List.getElem?_cons_succ, List.set_cons_zero, List.set_cons_succ, List.map_cons, List.map_nil, List.replicate, List.cons_append, List.nil_append, List.append_nil, Option.map_some, if_true, if_false, ite_true, ite_false, reduceIte, Nat.reduceAdd, Nat.reduceSub, Nat.reduceLeDiff, Nat.reduceEqDiff, Nat.sub_self, Nat.zero_add, Option.map_none, decide_true, decide_false, Bool.not_true, Bool.not_false, ht'], fun u => if u = dn.length then decide (r = 1) else x u, b2, rfl, ok2, ?_⟩, fun z => (nomatch z)⟩
      rw [eo, List.length_append, List.length_singleton, List.range_succ, List.map_append]
      congr 1
      · refine List.map_congr_left fun u hu => ?_
        have := List.mem_range.mp hu
        show bitD (x u) = bitD (if u = dn.length then decide (r = 1) else x u)
        rw [if_neg (by omega)]
      · show [PyData.int (r : Nat)] = [bitD (if dn.length = dn.length then decide (r = 1) else x dn.length)]
        rw [if_pos rfl]
        have : r = 0 ∨ r = 1 := by omega
        rcases this with rfl | rfl <;> rfl)
    ((List.range many).map fun u : Nat => PyData.int (u : Int)) [] [] [.b (bagV b), .d (.int (many : Nat)), s2, s3, s4, s5, s6, .u] rfl ⟨fun _ => false, b, rfl, hb, rfl⟩
  rw [List.nil_append, List.length_map, List.length_range] at e
  subst e
  refine ⟨x, b', ?_, ok⟩
  have hr := rng_ok (n := many) (by omega)
  have hi : iN rng1 (aC (eV 1) aN) [.b (bagV b), .d (.int (many : Nat)), s2, s3, s4, s5, s6, .u] = some ((List.range many).map fun u : Nat => PyData.int (u : Int), [.b (bagV b), .d (.int (many : Nat)), s2, s3, s4, s5, s6, .u]) := by simp [sQ, sIf, sN, qFz, qB, qAnd, qOr, qNot, qYes, e1, DL.e2, eV, eC, eN, eI, eIf, eAnd, eOr, eFz, eSl, oS, oN, aN, aC, aX, sAsg, sAsgO, sRet, sRetO, sRetN, sDrop, sSet, sSetX, sAugI, sMut, sPar, sPat, sParM, mN, mC, DL.setM, iSeq, iN, gN, gT, gC, gZ, outP, outF, outI, en0, stillE, Sl.still, Sl.own, Sl.put, p1, tupD, lstD, mkT, mkL, DL.e3, sl1, sl2, sl3, sl4, sl0, sl5, sl6, sl7, sl8, List.length_cons, List.length_nil, List.length_map, List.getElem?_cons_zero, List.getElem?_cons_succ, List.set_cons_zero, List.set_cons_succ, List.map_cons, List.map_nil, List.replicate, List.cons_append, List.nil_append, List.append_nil, Option.map_some, if_true, if_false, ite_true, ite_false, reduceIte, Nat.reduceAdd, Nat.reduceSub, Nat.reduceLeDiff, Nat.reduceEqDiff, Nat.sub_self, Nat.zero_add, Option.map_none, decide_true, decide_false, Bool.not_true, Bool.not_false, hr]
  unfold eLc
  rw [hi]
  have hw : wipeE [.b (bagV b), .d (.int (many : Nat)), s2, s3, s4, s5, s6, .u] [7] = [.b (bagV b), .d (.int (many : Nat)), s2, s3, s4, s5, s6, .u] := rfl
  simp only [hw, k]
  rfl
theorem drawn_ok {b : Bag} (hb : BagOk b) {many most : Nat} (h1 : 0 < many) (h2 : many ≤ 12) (h3 : most ≤ 1000) : ∃ (F : List Ln) (b' : Bag), m_law_drawn_flat (bagV b) [.int (many : Nat), .int (most : Nat)] = some (flatD F, bagV b') ∧ BagOk b' ∧ Rr F ∧ (∀ l ∈ F, l.1 < 2 ^ many) ∧ F.length ≤ most := by
  obtain ⟨x, b1, hx, ok1⟩ := bits_drawn h2 hb (s1 := .d (.int (many : Nat))) (s2 := .d (.int (most : Nat))) (s3 := .u) (s4 := .u) (s5 := .u) (s6 := .u) rfl
  obtain ⟨t, b2, ht, ok2, t1⟩ := take_nat ok1 (many := most + 1) (by omega) (by omega)
  have a1 : addD (.int (most : Nat)) (.int 1) = some (.int ((most + 1 : Nat) : Int)) := rfl
  have g1 : gtI (.int (many : Nat)) (.int 0) = some (.bool true) := by
    show some (PyData.bool (decide ((0 : Int) < (many : Int)))) = _
    rw [decide_eq_true (by omega)]
  have hr := rng_ok (n := t) (by omega)
  obtain ⟨ρ', k1, L, b3, s5, s6, rfl, ok3, hL, hh, hlen⟩ := sFor_T (fun u : Nat => PyData.int (u : Int)) (List.range t) (it := (iN rng1 (aC (eIf (qB (e2 gtI (eV 1) (eC (.int 0)))) (eI m_law_take 0 (aC (e2 addD (eV 2) (eC (.int 1))) aN)) (eC (.int 0))) aN))) (g := (gN 5)) (ψ := (sQ (sAsg 6 (eI m_law_any_row 0 (aC (eV 1) aN))) (sMut 4 appD (aC (eN mkT (aC (eV 6) (aC (eN m_law_worth (aC (eV 6) (aC (eV 3) aN))) aN))) aN)))) (ρ := [.b (bagV b1), .d (.int (many : Nat)), .d (.int (most : Nat)), .d (.list ((List.range many).map fun u => bitD (x u))), .o (.list []), .u, .u, .u]) (ρ0 := [.b (bagV b2), .d (.int (many : Nat)), .d (.int (most : Nat)), .d (.list ((List.range many).map fun u => bitD (x u))), .o (.list []), .u, .u, .u])
    (by
      generalize ((most + 1 : Nat) : Int) = z at a1 ht
      generalize ((List.range many).map fun u => bitD (x u)) = bl
      simp [sQ, sIf, sN, qFz, qB, qAnd, qOr, qNot, qYes, e1, DL.e2, eV, eC, eN, eI, eIf, eAnd, eOr, eFz, eSl, oS, oN, aN, aC, aX, sAsg, sAsgO, sRet, sRetO, sRetN, sDrop, sSet, sSetX, sAugI, sMut, sPar, sPat, sParM, mN, mC, DL.setM, iSeq, iN, gN, gT, gC, gZ, outP, outF, outI, en0, stillE, Sl.still, Sl.own, Sl.put, p1, tupD, lstD, mkT, mkL, DL.e3, sl1, sl2, sl3, sl4, sl0, sl5, sl6, sl7, sl8, List.length_cons, List.length_nil, List.length_map, List.getElem?_cons_zero, List.getElem?_cons_succ, List.set_cons_zero, List.set_cons_succ, List.map_cons, List.map_nil, List.replicate, List.cons_append, List.nil_append, List.append_nil, Option.map_some, if_true, if_false, ite_true, ite_false, reduceIte, Nat.reduceAdd, Nat.reduceSub, Nat.reduceLeDiff, Nat.reduceEqDiff, Nat.sub_self, Nat.zero_add, Option.map_none, decide_true, decide_false, Bool.not_true, Bool.not_false, g1, a1, ht, hr])
    (fun dn ρ => ∃ (L : List Ln) (b' : Bag) (s5 s6 : Sl), ρ = [.b (bagV b'), .d (.int (many : Nat)), .d (.int (most : Nat)), .d (.list ((List.range many).map fun u => bitD (x u))), .o (.list (L.map lineD)), s5, s6, .u] ∧ BagOk b' ∧ (∀ l ∈ L, l.1 < 2 ^ many) ∧ Holds L x ∧ L.length = dn.length)
    ⟨[], b2, .u, .u, rfl, ok2, fun _ h => (nomatch h), fun _ h => (nomatch h), rfl⟩
    (fun dn u rest ρ ed ⟨L, b3, s5, s6, e, ok3, hL, hh, hlen⟩ => by
      subst e
      obtain ⟨m, b4, hm, ok4, m0, m1⟩ := any_row_ok ok3 h1 h2
      have hw := worth_ok (by omega : many ≤ 16) m1 x
      have hd := congrArg List.length ed
      rw [List.length_range, List.length_append, List.length_cons] at hd
      have ha := app_ok (xs := L.map lineD) (y := .tuple [rowD m, bitD (dot m x)]) (by rw [List.length_map]; omega)
      refine ⟨[.b (bagV b3), .d (.int (many : Nat)), .d (.int (most : Nat)), .d (.list ((List.range many).map fun u => bitD (x u))), .o (.list (L.map lineD)), .d (.int (u : Int)), s6, .u], [.b (bagV b4), .d (.int (many : Nat)), .d (.int (most : Nat)), .d (.list ((List.range many).map fun u => bitD (x u))), .o (.list ((L ++ [(m, dot m x)]).map lineD)), .d (.int (u : Int)), .d (rowD m), .u], rfl, ?_, L ++ [(m, dot m x)], b4, .d (.int (u : Int)), .d (rowD m), rfl, ok4, fun l hl => ?_, fun l hl => ?_, by rw [List.length_append, List.length_append, hlen]; rfl⟩
      · have e1 : (L ++ [(m, dot m x)]).map lineD = L.map lineD ++ [.tuple [rowD m, bitD (dot m x)]] := by rw [List.map_append]; rfl
        rw [e1]
        generalize L.map lineD ++ [PyData.tuple [rowD m, bitD (dot m x)]] = o2 at ha
        generalize L.map lineD = o1 at ha
        generalize ((List.range many).map fun u => bitD (x u)) = bl at *
        simp [sQ, sIf, sN, qFz, qB, qAnd, qOr, qNot, qYes, e1, DL.e2, eV, eC, eN, eI, eIf, eAnd, eOr, eFz, eSl, oS, oN, aN, aC, aX, sAsg, sAsgO, sRet, sRetO, sRetN, sDrop, sSet, sSetX, sAugI, sMut, sPar, sPat, sParM, mN, mC, DL.setM, iSeq, iN, gN, gT, gC, gZ, outP, outF, outI, en0, stillE, Sl.still, Sl.own, Sl.put, p1, tupD, lstD, mkT, mkL, DL.e3, sl1, sl2, sl3, sl4, sl0, sl5, sl6, sl7, sl8, List.length_cons, List.length_nil, List.length_map, List.getElem?_cons_zero, List.getElem?_cons_succ, List.set_cons_zero, List.set_cons_succ, List.map_cons, List.map_nil, List.replicate, List.cons_append, List.nil_append, List.append_nil, Option.map_some, if_true, if_false, ite_true, ite_false, reduceIte, Nat.reduceAdd, Nat.reduceSub, Nat.reduceLeDiff, Nat.reduceEqDiff, Nat.sub_self, Nat.zero_add, Option.map_none, decide_true, decide_false, Bool.not_true, Bool.not_false, hm, hw, ha]
      · rcases List.mem_append.mp hl with hl | hl
        · exact hL l hl
        · rw [List.mem_singleton.mp hl]; exact m1
      · rcases List.mem_append.mp hl with hl | hl
        · exact hh l hl
        · rw [List.mem_singleton.mp hl])
  obtain ⟨F, hF, rF, ltF, lenF, _⟩ := flat_of_ok (by omega : many ≤ 16) hL x hh
  refine ⟨F, b3, ?_, ok3, rF, ltF, by rw [List.length_range] at hlen; omega⟩
  have hf := flat_flat F
  generalize L.map lineD = ll at *
  generalize ((List.range many).map fun u => bitD (x u)) = bl at *
  simp [m_law_drawn_flat, runI, b_law_drawn_flat, sQ, sIf, sN, qFz, qB, qAnd, qOr, qNot, qYes, e1, DL.e2, eV, eC, eN, eI, eIf, eAnd, eOr, eFz, eSl, oS, oN, aN, aC, aX, sAsg, sAsgO, sRet, sRetO, sRetN, sDrop, sSet, sSetX, sAugI, sMut, sPar, sPat, sParM, mN, mC, DL.setM, iSeq, iN, gN, gT, gC, gZ, outP, outF, outI, en0, stillE, Sl.still, Sl.own, Sl.put, p1, tupD, lstD, mkT, mkL, DL.e3, sl1, sl2, sl3, sl4, sl0, sl5, sl6, sl7, sl8, List.length_cons, List.length_nil, List.length_map, List.getElem?_cons_zero, List.getElem?_cons_succ, List.set_cons_zero, List.set_cons_succ, List.map_cons, List.map_nil, List.replicate, List.cons_append, List.nil_append, List.append_nil, Option.map_some, if_true, if_false, ite_true, ite_false, reduceIte, Nat.reduceAdd, Nat.reduceSub, Nat.reduceLeDiff, Nat.reduceEqDiff, Nat.sub_self, Nat.zero_add, Option.map_none, decide_true, decide_false, Bool.not_true, Bool.not_false, hx, k1, hF, hf]
end Lk14

set_option maxHeartbeats 4000000
namespace Lk14
open PySem L2 DL FL
theorem lcD_invT {α : Type} {vs : List Nat} {g : Gv} {q : Eq} {a : Ev} (enc : α → PyData) (I : List α → List PyData → En → Prop) (xs : List α)
    (step : ∀ (done : List α) (x : α) (rest : List α) (out : List PyData) (ρ : En), xs = done ++ x :: rest → I done out ρ → ∃ ρ1 b ρ2, g (enc x) ρ = some ρ1 ∧ q ρ1 = some (b, ρ2) ∧
      (b = true → ∃ d ρ3, a ρ2 = some (d, ρ3) ∧ I (done ++ [x]) (out ++ [d]) (wipeE ρ3 vs)) ∧ (b = false → I (done ++ [x]) out (wipeE ρ2 vs))) :
    ∀ (rest done : List α) (out : List PyData) (ρ : En), xs = done ++ rest → I done out ρ → ∃ more ρ', lcD vs g q a (rest.map enc) ρ = some (more, ρ') ∧ I xs (out ++ more) ρ'
  | [], done, out, ρ, e, h => ⟨[], ρ, rfl, by rw [e, List.append_nil, List.append_nil]; exact h⟩
  | x :: rest, done, out, ρ, e, h => by
    obtain ⟨ρ1, b, ρ2, h1, h2, h3, h4⟩ := step done x rest out ρ e h
    rw [List.map_cons]
    cases b with
    | true =>
      obtain ⟨d, ρ3, h5, h6⟩ := h3 rfl
      obtain ⟨more, ρ', h7, h8⟩ := lcD_invT enc I xs step rest (done ++ [x]) (out ++ [d]) _ (by rw [e, List.append_assoc]; rfl) h6
      refine ⟨d :: more, ρ', ?_, by rw [List.append_assoc] at h8; exact h8⟩
      unfold lcD
      rw [h1]
      simp only [h2, h5, h7]
    | false =>
      obtain ⟨more, ρ', h7, h8⟩ := lcD_invT enc I xs step rest (done ++ [x]) out _ (by rw [e, List.append_assoc]; rfl) (h4 rfl)
      refine ⟨more, ρ', ?_, h8⟩
      unfold lcD
      rw [h1]
      simp only [h2, h7]
theorem ltold_ok {F : List Ln} (hF : ∀ l ∈ F, l.1 ≠ 0 ∧ l.1 < 2 ^ 16) {m : Nat} (hm : m < 2 ^ 16) : m_law_told [flatD F, rowD m] = some (optD (told F m)) := by
  have key : ∀ (G : List Ln) (m : Nat) (w : Bool) (s0 s1 s4 : Sl), (∀ l ∈ G, l.1 ≠ 0 ∧ l.1 < 2 ^ 16) → ∃ t4, forD (gN 4) (sIf (qB (e2 eqD (e2 andD (e2 shrD (eV 2) (e2 ixX (e2 ixX (eV 4) (eC (.int 0))) (eC (.int 0)))) (eC (.int 1))) (eC (.int 1)))) (sPar 2 3 (aC (e2 xorD (eV 2) (eN m_law_mask (aC (e2 ixX (eV 4) (eC (.int 0))) aN))) (aC (e2 xorD (eV 3) (e2 ixX (eV 4) (eC (.int 1)))) aN))) sN) (G.map lineD) [s0, s1, .d (.int (m : Nat)), .d (bitD w), s4] = some (.nx [s0, s1, .d (.int ((led G m w).1 : Nat)), .d (bitD (led G m w).2), t4]) := by
    intro G
    induction G with
    | nil => intro m w s0 s1 s4 _; exact ⟨s4, rfl⟩
    | cons l G ih =>
      intro m w s0 s1 s4 hG
      have hl := hG l (List.mem_cons_self ..)
      obtain ⟨u, c, h1, h2, h3⟩ := bit_test3 m (hd l.1)
      have x1 := row_head hl.1 hl.2
      have x2 := mask_ok hl.2
      have x3 := xorD_nn m l.1
      have x4 := xor_bit w l.2
      have y0 := ixX_line0 l
      have y1 := ixX_line1 l
      rw [List.map_cons]
      unfold led
      by_cases hb : m.testBit (hd l.1) = true
      · rw [if_pos hb]
        obtain ⟨t4, h⟩ := ih (m ^^^ l.1) (w ^^ l.2) s0 s1 (.d (lineD l)) fun k hk => hG k (List.mem_cons_of_mem _ hk)
        refine ⟨t4, ?_⟩
        rw [forD_go (ρ1 := [s0, s1, .d (.int (m : Nat)), .d (bitD w), .d (lineD l)]) rfl (ρ2 := [s0, s1, .d (.int ((m ^^^ l.1 : Nat) : Int)), .d (bitD (w ^^ l.2)), .d (lineD l)]) ?_]
        · exact h
        · rw [hb] at h3
          generalize (m ^^^ l.1) = z at x3
          generalize (w ^^ l.2) = y at x4
          simp [sQ, sIf, sN, qFz, qB, qAnd, qOr, qNot, qYes, e1, DL.e2, eV, eC, eN, eI, eIf, eAnd, eOr, eFz, eSl, oS, oN, aN, aC, aX, sAsg, sAsgO, sRet, sRetO, sRetN, sDrop, sSet, sSetX, sAugI, sMut, sPar, sPat, sParM, mN, mC, DL.setM, iSeq, iN, gN, gT, gC, gZ, outP, outF, outI, en0, stillE, Sl.still, Sl.own, Sl.put, p1, tupD, lstD, mkT, mkL, DL.e3, sl1, sl2, sl3, sl4, sl0, sl5, sl6, sl7, sl8, List.length_cons, List.length_nil, List.length_map, List.getElem?_cons_zero, List.getElem?_cons_succ, List.set_cons_zero, List.set_cons_succ, List.map_cons, List.map_nil, List.replicate, List.cons_append, List.nil_append, List.append_nil, Option.map_some, if_true, if_false, ite_true, ite_false, reduceIte, Nat.reduceAdd, Nat.reduceSub, Nat.reduceLeDiff, Nat.reduceEqDiff, Nat.sub_self, Nat.zero_add, Option.map_none, decide_true, decide_false, Bool.not_true, Bool.not_false, h1, h2, h3, x1, x2, x3, x4, y0, y1]
      · rw [if_neg hb]
        obtain ⟨t4, h⟩ := ih m w s0 s1 (.d (lineD l)) fun k hk => hG k (List.mem_cons_of_mem _ hk)
        refine ⟨t4, ?_⟩
        rw [forD_go (ρ1 := [s0, s1, .d (.int (m : Nat)), .d (bitD w), .d (lineD l)]) rfl (ρ2 := [s0, s1, .d (.int (m : Nat)), .d (bitD w), .d (lineD l)]) ?_]
        · exact h
        · have hb' : m.testBit (hd l.1) = false := by simpa using hb
          rw [hb'] at h3
          simp [sQ, sIf, sN, qFz, qB, qAnd, qOr, qNot, qYes, e1, DL.e2, eV, eC, eN, eI, eIf, eAnd, eOr, eFz, eSl, oS, oN, aN, aC, aX, sAsg, sAsgO, sRet, sRetO, sRetN, sDrop, sSet, sSetX, sAugI, sMut, sPar, sPat, sParM, mN, mC, DL.setM, iSeq, iN, gN, gT, gC, gZ, outP, outF, outI, en0, stillE, Sl.still, Sl.own, Sl.put, p1, tupD, lstD, mkT, mkL, DL.e3, sl1, sl2, sl3, sl4, sl0, sl5, sl6, sl7, sl8, List.length_cons, List.length_nil, List.length_map, List.getElem?_cons_zero, List.getElem?_cons_succ, List.set_cons_zero, List.set_cons_succ, List.map_cons, List.map_nil, List.replicate, List.cons_append, List.nil_append, List.append_nil, Option.map_some, if_true, if_false, ite_true, ite_false, reduceIte, Nat.reduceAdd, Nat.reduceSub, Nat.reduceLeDiff, Nat.reduceEqDiff, Nat.sub_self, Nat.zero_add, Option.map_none, decide_true, decide_false, Bool.not_true, Bool.not_false, h1, h2, h3, x1, y0]
  obtain ⟨t4, k⟩ := key F m false (.d (flatD F)) (.d (rowD m)) .u hF
  have hk := mask_ok hm
  have hb0 : bitD false = .int 0 := rfl
  rw [hb0] at k
  have he := eqD_nat (led F m false).1 0
  have he' : eqD (.int ((led F m false).1 : Nat)) (.int 0) = some (.bool (decide ((led F m false).1 = 0))) := he
  unfold told
  by_cases e : (led F m false).1 = 0
  · rw [decide_eq_true e] at he'
    rw [if_pos e]
    generalize (((led F m false).1 : Nat) : Int) = z at *
    simp [m_law_told, runP, b_law_told, sQ, sIf, sN, qFz, qB, qAnd, qOr, qNot, qYes, e1, DL.e2, eV, eC, eN, eI, eIf, eAnd, eOr, eFz, eSl, oS, oN, aN, aC, aX, sAsg, sAsgO, sRet, sRetO, sRetN, sDrop, sSet, sSetX, sAugI, sMut, sPar, sPat, sParM, mN, mC, DL.setM, iSeq, iN, gN, gT, gC, gZ, outP, outF, outI, en0, stillE, Sl.still, Sl.own, Sl.put, p1, tupD, lstD, mkT, mkL, DL.e3, sl1, sl2, sl3, sl4, sl0, sl5, sl6, sl7, sl8, List.length_cons, List.length_nil, List.length_map, List.getElem?_cons_zero, List.getElem?_cons_succ, List.set_cons_zero, List.set_cons_succ, List.map_cons, List.map_nil, List.replicate, List.cons_append, List.nil_append, List.append_nil, Option.map_some, if_true, if_false, ite_true, ite_false, reduceIte, Nat.reduceAdd, Nat.reduceSub, Nat.reduceLeDiff, Nat.reduceEqDiff, Nat.sub_self, Nat.zero_add, Option.map_none, decide_true, decide_false, Bool.not_true, Bool.not_false, sFor, seqOf_flat, hk, k, he', optD]
  · rw [decide_eq_false e] at he'
    rw [if_neg e]
    generalize (((led F m false).1 : Nat) : Int) = z at *
    simp [m_law_told, runP, b_law_told, sQ, sIf, sN, qFz, qB, qAnd, qOr, qNot, qYes, e1, DL.e2, eV, eC, eN, eI, eIf, eAnd, eOr, eFz, eSl, oS, oN, aN, aC, aX, sAsg, sAsgO, sRet, sRetO, sRetN, sDrop, sSet, sSetX, sAugI, sMut, sPar, sPat, sParM, mN, mC, DL.setM, iSeq, iN, gN, gT, gC, gZ, outP, outF, outI, en0, stillE, Sl.still, Sl.own, Sl.put, p1, tupD, lstD, mkT, mkL, DL.e3, sl1, sl2, sl3, sl4, sl0, sl5, sl6, sl7, sl8, List.length_cons, List.length_nil, List.length_map, List.getElem?_cons_zero, List.getElem?_cons_succ, List.set_cons_zero, List.set_cons_succ, List.map_cons, List.map_nil, List.replicate, List.cons_append, List.nil_append, List.append_nil, Option.map_some, if_true, if_false, ite_true, ite_false, reduceIte, Nat.reduceAdd, Nat.reduceSub, Nat.reduceLeDiff, Nat.reduceEqDiff, Nat.sub_self, Nat.zero_add, Option.map_none, decide_true, decide_false, Bool.not_true, Bool.not_false, sFor, seqOf_flat, hk, k, he', optD]
theorem none_both {F : List Ln} (r : Rr F) {m : Nat} (hm : m < 2 ^ 16) (h : told F m = none) (b : Bool) : ∃ x, Holds F x ∧ dot m x = b := by
  have lt := led_lt (w := false) (fun l hl => (r.pos l hl).2) hm
  have lh := led_heads (m := m) (w := false) r
  have n0 : (led F m false).1 ≠ 0 := fun z => by
    unfold told at h
    rw [if_pos z] at h
    cases h
  obtain ⟨x, hx, hd⟩ := both r n0 lt lh (b ^^ (led F m false).2)
  refine ⟨x, hx, ?_⟩
  have := led_worth (m := m) (w := false) hx
  rw [hd] at this
  revert this
  cases b <;> cases (led F m false).2 <;> cases dot m x <;> simp
theorem halves_of {n : Nat} (hn : n ≤ 12) {F : List Ln} (fF : Fl n F) {m : Nat} (hm : m < 2 ^ n) (ht : told F m = none) : ∃ A B, m_law_halves [flatD F, rowD m] = some (.tuple [flatD A, flatD B]) ∧ Fl n A ∧ Fl n B ∧ A.length ≤ F.length + 1 ∧ B.length ≤ F.length + 1 := by
  have m16 : m < 2 ^ 16 := Nat.lt_of_lt_of_le hm (Nat.pow_le_pow_right (by decide) (by omega))
  have go : ∀ b : Bool, ∃ T, m_law_flat_of [.list ((F ++ [(m, b)]).map lineD)] = some (flatD T) ∧ Fl n T ∧ T.length ≤ F.length + 1 := fun b => by
    obtain ⟨x, hx, hd⟩ := none_both fF.rr m16 ht b
    obtain ⟨T, h1, h2, h3, h4, _⟩ := flat_of_ok (n := n) (by omega) (L := F ++ [(m, b)]) (fun l hl => by
      rcases List.mem_append.mp hl with hl | hl
      · exact fF.lt l hl
      · rw [List.mem_singleton.mp hl]; exact hm) x (fun l hl => by
      rcases List.mem_append.mp hl with hl | hl
      · exact hx l hl
      · rw [List.mem_singleton.mp hl]; exact hd)
    exact ⟨T, h1, ⟨h2, h3⟩, by rw [List.length_append] at h4; exact h4⟩
  obtain ⟨A, a1, a2, a3⟩ := go false
  obtain ⟨B, b1, b2, b3⟩ := go true
  refine ⟨A, B, ?_, a2, b2, a3, b3⟩
  have key := eLc_M (vs := [2]) (it := iSeq (eN mkT (aC (eC (.int 0)) (aC (eC (.int 1)) aN)))) (g := gN 2) (a := eN m_law_flat_of (aC (DL.e2 addD (eN (p1 lstD) (aC (eV 0) aN)) (eN mkL (aC (eN mkT (aC (eV 1) (aC (eV 2) aN))) aN))) aN)) (ρ := [.d (flatD F), .d (rowD m), .u]) bitD [false, true] (by simp [sQ, sIf, sN, qFz, qB, qAnd, qOr, qNot, qYes, e1, DL.e2, eV, eC, eN, eI, eIf, eAnd, eOr, eFz, eSl, oS, oN, aN, aC, aX, sAsg, sAsgO, sRet, sRetO, sRetN, sDrop, sSet, sSetX, sAugI, sMut, sPar, sPat, sParM, mN, mC, DL.setM, iSeq, iN, gN, gT, gC, gZ, outP, outF, outI, en0, stillE, Sl.still, Sl.own, Sl.put, p1, tupD, lstD, mkT, mkL, DL.e3, sl1, sl2, sl3, sl4, sl0, sl5, sl6, sl7, sl8, List.length_cons, List.length_nil, List.length_map, List.getElem?_cons_zero, List.getElem?_cons_succ, List.set_cons_zero, List.set_cons_succ, List.map_cons, List.map_nil, List.replicate, List.cons_append, List.nil_append, List.append_nil, Option.map_some, if_true, if_false, ite_true, ite_false, reduceIte, Nat.reduceAdd, Nat.reduceSub, Nat.reduceLeDiff, Nat.reduceEqDiff, Nat.sub_self, Nat.zero_add, Option.map_none, decide_true, decide_false, Bool.not_true, Bool.not_false, seqOf, bitD]) rfl rfl (fun b => if b = true then flatD B else flatD A) (fun b hb => by
    refine ⟨[.d (flatD F), .d (rowD m), .d (bitD b)], [.d (flatD F), .d (rowD m), .d (bitD b)], rfl, ?_, rfl⟩
    have hl : lstD (flatD F) = some (.list (F.map lineD)) := rfl
    have hadd : addD (.list (F.map lineD)) (.list [.tuple [rowD m, bitD b]]) = some (.list ((F ++ [(m, b)]).map lineD)) := by
      show (if _ then _ else none) = _
      rw [if_pos (by have := rr_len fF.rr; rw [List.length_map, List.length_singleton, sizeLine_eq]; omega), List.map_append]
      rfl
    have hq : m_law_flat_of [.list ((F ++ [(m, b)]).map lineD)] = some (if b = true then flatD B else flatD A) := by
      cases b with
      | true => exact b1
      | false => exact a1
    generalize (F ++ [(m, b)]).map lineD = o1 at hadd hq
    generalize (if b = true then flatD B else flatD A) = o2 at hq
    have hfd : flatD F = .tuple (F.map lineD) := rfl
    rw [hfd]
    generalize F.map lineD = o3 at hadd
    simp [sQ, sIf, sN, qFz, qB, qAnd, qOr, qNot, qYes, e1, DL.e2, eV, eC, eN, eI, eIf, eAnd, eOr, eFz, eSl, oS, oN, aN, aC, aX, sAsg, sAsgO, sRet, sRetO, sRetN, sDrop, sSet, sSetX, sAugI, sMut, sPar, sPat, sParM, mN, mC, DL.setM, iSeq, iN, gN, gT, gC, gZ, outP, outF, outI, en0, stillE, Sl.still, Sl.own, Sl.put, p1, tupD, lstD, mkT, mkL, DL.e3, sl1, sl2, sl3, sl4, sl0, sl5, sl6, sl7, sl8, List.length_cons, List.length_nil, List.length_map, List.getElem?_cons_zero, List.getElem?_cons_succ, List.set_cons_zero, List.set_cons_succ, List.map_cons, List.map_nil, List.replicate, List.cons_append, List.nil_append, List.append_nil, Option.map_some, if_true, if_false, ite_true, ite_false, reduceIte, Nat.reduceAdd, Nat.reduceSub, Nat.reduceLeDiff, Nat.reduceEqDiff, Nat.sub_self, Nat.zero_add, Option.map_none, decide_true, decide_false, Bool.not_true, Bool.not_false, hadd, hq])
  have key' : eLc [2] (iSeq (eN mkT (aC (eC (.int 0)) (aC (eC (.int 1)) aN)))) (gN 2) qYes (eN m_law_flat_of (aC (DL.e2 addD (eN (p1 lstD) (aC (eV 0) aN)) (eN mkL (aC (eN mkT (aC (eV 1) (aC (eV 2) aN))) aN))) aN)) [.d (flatD F), .d (rowD m), .u] = some (.list [flatD A, flatD B], [.d (flatD F), .d (rowD m), .u]) := key
  generalize flatD F = o4 at *
  simp [m_law_halves, runP, b_law_halves, sQ, sIf, sN, qFz, qB, qAnd, qOr, qNot, qYes, e1, DL.e2, eV, eC, eN, eI, eIf, eAnd, eOr, eFz, eSl, oS, oN, aN, aC, aX, sAsg, sAsgO, sRet, sRetO, sRetN, sDrop, sSet, sSetX, sAugI, sMut, sPar, sPat, sParM, mN, mC, DL.setM, iSeq, iN, gN, gT, gC, gZ, outP, outF, outI, en0, stillE, Sl.still, Sl.own, Sl.put, p1, tupD, lstD, mkT, mkL, DL.e3, sl1, sl2, sl3, sl4, sl0, sl5, sl6, sl7, sl8, List.length_cons, List.length_nil, List.length_map, List.getElem?_cons_zero, List.getElem?_cons_succ, List.set_cons_zero, List.set_cons_succ, List.map_cons, List.map_nil, List.replicate, List.cons_append, List.nil_append, List.append_nil, Option.map_some, if_true, if_false, ite_true, ite_false, reduceIte, Nat.reduceAdd, Nat.reduceSub, Nat.reduceLeDiff, Nat.reduceEqDiff, Nat.sub_self, Nat.zero_add, Option.map_none, decide_true, decide_false, Bool.not_true, Bool.not_false, key']
theorem wider_ok {b : Bag} (hb : BagOk b) (F : List Ln) : ∃ (G : List Ln) (b' : Bag), m_law_wider (bagV b) [flatD F] = some (flatD G, bagV b') ∧ BagOk b' ∧ G.Sublist F := by
  obtain ⟨more, ρ', k, S, b', rfl, ok, hS, e⟩ := lcD_invT (vs := [2]) (g := gN 2) (q := qB (DL.e2 gtI (eI m_law_take 0 (aC (eC (.int 5)) aN)) (eC (.int 0)))) (a := eV 2) lineD
    (fun dn out ρ => ∃ (S : List Ln) (b' : Bag), ρ = [.b (bagV b'), .d (flatD F), .u] ∧ BagOk b' ∧ S.Sublist dn ∧ out = S.map lineD) F
    (fun dn l rest out ρ ed ⟨S, b1, e, ok, hS, eo⟩ => by
      subst e
      obtain ⟨r, b2, ht, ok2, r1⟩ := take_nat ok (many := 5) (by decide) (by decide)
      have ht' : m_law_take (bagV b1) [.int 5] = some (.int (r : Nat), bagV b2) := ht
      have hg : gtI (.int (r : Nat)) (.int 0) = some (.bool (decide (0 < r))) := by
        show some (PyData.bool (decide ((0 : Int) < (r : Int)))) = _
        congr 2
        simp only [decide_eq_decide]
        omega
      refine ⟨[.b (bagV b1), .d (flatD F), .d (lineD l)], decide (0 < r), [.b (bagV b2), .d (flatD F), .d (lineD l)], rfl, ?_, fun _ => ⟨lineD l, [.b (bagV b2), .d (flatD F), .d (lineD l)], rfl, S ++ [l], b2, rfl, ok2, hS.append (List.Sublist.refl _), by rw [eo, List.map_append]; rfl⟩, fun _ => ⟨S, b2, rfl, ok2, hS.trans (List.sublist_append_left _ _), eo⟩⟩
      generalize decide (0 < r) = z at hg
      generalize (r : Int) = y at *
      simp [sQ, sIf, sN, qFz, qB, qAnd, qOr, qNot, qYes, e1, DL.e2, eV, eC, eN, eI, eIf, eAnd, eOr, eFz, eSl, oS, oN, aN, aC, aX, sAsg, sAsgO, sRet, sRetO, sRetN, sDrop, sSet, sSetX, sAugI, sMut, sPar, sPat, sParM, mN, mC, DL.setM, iSeq, iN, gN, gT, gC, gZ, outP, outF, outI, en0, stillE, Sl.still, Sl.own, Sl.put, p1, tupD, lstD, mkT, mkL, DL.e3, sl1, sl2, sl3, sl4, sl0, sl5, sl6, sl7, sl8, List.length_cons, List.length_nil, List.length_map, List.getElem?_cons_zero, List.getElem?_cons_succ, List.set_cons_zero, List.set_cons_succ, List.map_cons, List.map_nil, List.replicate, List.cons_append, List.nil_append, List.append_nil, Option.map_some, if_true, if_false, ite_true, ite_false, reduceIte, Nat.reduceAdd, Nat.reduceSub, Nat.reduceLeDiff, Nat.reduceEqDiff, Nat.sub_self, Nat.zero_add, Option.map_none, decide_true, decide_false, Bool.not_true, Bool.not_false, ht', hg]) F [] [] [.b (bagV b), .d (flatD F), .u] rfl ⟨[], b, rfl, hb, List.Sublist.refl _, rfl⟩
  rw [List.nil_append] at e
  subst e
  refine ⟨S, b', ?_, ok, hS⟩
  have hl : eLc [2] (iSeq (eV 1)) (gN 2) (qB (DL.e2 gtI (eI m_law_take 0 (aC (eC (.int 5)) aN)) (eC (.int 0)))) (eV 2) [.b (bagV b), .d (flatD F), .u] = some (.list (S.map lineD), [.b (bagV b'), .d (flatD F), .u]) := by
    unfold eLc
    have hi : iSeq (eV 1) [.b (bagV b), .d (flatD F), .u] = some (F.map lineD, [.b (bagV b), .d (flatD F), .u]) := rfl
    have hw : wipeE [.b (bagV b), .d (flatD F), .u] [2] = [.b (bagV b), .d (flatD F), .u] := rfl
    rw [hi]
    simp only [hw, k]
    rfl
  have hf : flatD S = .tuple (S.map lineD) := rfl
  rw [hf]
  generalize flatD F = o1 at *
  generalize S.map lineD = o2 at *
  simp [m_law_wider, runI, b_law_wider, sQ, sIf, sN, qFz, qB, qAnd, qOr, qNot, qYes, e1, DL.e2, eV, eC, eN, eI, eIf, eAnd, eOr, eFz, eSl, oS, oN, aN, aC, aX, sAsg, sAsgO, sRet, sRetO, sRetN, sDrop, sSet, sSetX, sAugI, sMut, sPar, sPat, sParM, mN, mC, DL.setM, iSeq, iN, gN, gT, gC, gZ, outP, outF, outI, en0, stillE, Sl.still, Sl.own, Sl.put, p1, tupD, lstD, mkT, mkL, DL.e3, sl1, sl2, sl3, sl4, sl0, sl5, sl6, sl7, sl8, List.length_cons, List.length_nil, List.length_map, List.getElem?_cons_zero, List.getElem?_cons_succ, List.set_cons_zero, List.set_cons_succ, List.map_cons, List.map_nil, List.replicate, List.cons_append, List.nil_append, List.append_nil, Option.map_some, if_true, if_false, ite_true, ite_false, reduceIte, Nat.reduceAdd, Nat.reduceSub, Nat.reduceLeDiff, Nat.reduceEqDiff, Nat.sub_self, Nat.zero_add, Option.map_none, decide_true, decide_false, Bool.not_true, Bool.not_false, hl]
theorem new_row_ok {b : Bag} (hb : BagOk b) {n : Nat} (h1 : 0 < n) (h2 : n ≤ 12) {F : List Ln} (fF : Fl n F) (hlen : F.length < n) : ∃ (m : Nat) (b' : Bag), m_law_new_row (bagV b) [.int (n : Nat), flatD F] = some (rowD m, bagV b') ∧ BagOk b' ∧ m < 2 ^ n ∧ told F m = none := by
  have p16 : (2 : Nat) ^ n ≤ 2 ^ 16 := Nat.pow_le_pow_right (by decide) (by omega)
  have key : ∀ (xs : List PyData) (b : Bag) (s3 s4 : Sl), BagOk b → (∃ (m : Nat) (b' : Bag) (t3 t4 : Sl), forD (gN 3) (sQ (sAsg 4 (eI m_law_any_row 0 (aC (eV 1) aN))) (sIf (qB (e2 isN (eN m_law_told (aC (eV 2) (aC (eV 4) aN))) (eC .none))) (sRet (eV 4)) sN)) xs [.b (bagV b), .d (.int (n : Nat)), .d (flatD F), s3, s4, .u, .u, .u] = some (.ret (rowD m) [.b (bagV b'), .d (.int (n : Nat)), .d (flatD F), t3, t4, .u, .u, .u]) ∧ BagOk b' ∧ m < 2 ^ n ∧ told F m = none) ∨
      ∃ (b' : Bag) (t3 t4 : Sl), forD (gN 3) (sQ (sAsg 4 (eI m_law_any_row 0 (aC (eV 1) aN))) (sIf (qB (e2 isN (eN m_law_told (aC (eV 2) (aC (eV 4) aN))) (eC .none))) (sRet (eV 4)) sN)) xs [.b (bagV b), .d (.int (n : Nat)), .d (flatD F), s3, s4, .u, .u, .u] = some (.nx [.b (bagV b'), .d (.int (n : Nat)), .d (flatD F), t3, t4, .u, .u, .u]) ∧ BagOk b' := by
    intro xs
    induction xs with
    | nil => intro b s3 s4 hb; exact .inr ⟨b, s3, s4, rfl, hb⟩
    | cons x xs ih =>
      intro b s3 s4 hb
      obtain ⟨m, b1, hm, ok1, m0, m1⟩ := any_row_ok hb h1 h2
      have ht := ltold_ok fF.rr.pos (Nat.lt_of_lt_of_le m1 p16)
      have hi := isN_opt (told F m)
      cases e : told F m with
      | none =>
        rw [e] at hi ht
        refine .inl ⟨m, b1, .d x, .d (rowD m), ?_, ok1, m1, e⟩
        refine forD_ret (ρ1 := [.b (bagV b), .d (.int (n : Nat)), .d (flatD F), .d x, s4, .u, .u, .u]) rfl ?_
        have hi' : isN (optD none) .none = some (.bool true) := hi
        simp [sQ, sIf, sN, qFz, qB, qAnd, qOr, qNot, qYes, e1, DL.e2, eV, eC, eN, eI, eIf, eAnd, eOr, eFz, eSl, oS, oN, aN, aC, aX, sAsg, sAsgO, sRet, sRetO, sRetN, sDrop, sSet, sSetX, sAugI, sMut, sPar, sPat, sParM, mN, mC, DL.setM, iSeq, iN, gN, gT, gC, gZ, outP, outF, outI, en0, stillE, Sl.still, Sl.own, Sl.put, p1, tupD, lstD, mkT, mkL, DL.e3, sl1, sl2, sl3, sl4, sl0, sl5, sl6, sl7, sl8, List.length_cons, List.length_nil, List.length_map, List.getElem?_cons_zero, List.getElem?_cons_succ, List.set_cons_zero, List.set_cons_succ, List.map_cons, List.map_nil, List.replicate, List.cons_append, List.nil_append, List.append_nil, Option.map_some, if_true, if_false, ite_true, ite_false, reduceIte, Nat.reduceAdd, Nat.reduceSub, Nat.reduceLeDiff, Nat.reduceEqDiff, Nat.sub_self, Nat.zero_add, Option.map_none, decide_true, decide_false, Bool.not_true, Bool.not_false, hm, ht, hi']
      | some v =>
        rw [e] at hi ht
        have hi' : isN (optD (some v)) .none = some (.bool false) := hi
        rw [forD_go (ρ1 := [.b (bagV b), .d (.int (n : Nat)), .d (flatD F), .d x, s4, .u, .u, .u]) rfl (ρ2 := [.b (bagV b1), .d (.int (n : Nat)), .d (flatD F), .d x, .d (rowD m), .u, .u, .u]) (by simp [sQ, sIf, sN, qFz, qB, qAnd, qOr, qNot, qYes, e1, DL.e2, eV, eC, eN, eI, eIf, eAnd, eOr, eFz, eSl, oS, oN, aN, aC, aX, sAsg, sAsgO, sRet, sRetO, sRetN, sDrop, sSet, sSetX, sAugI, sMut, sPar, sPat, sParM, mN, mC, DL.setM, iSeq, iN, gN, gT, gC, gZ, outP, outF, outI, en0, stillE, Sl.still, Sl.own, Sl.put, p1, tupD, lstD, mkT, mkL, DL.e3, sl1, sl2, sl3, sl4, sl0, sl5, sl6, sl7, sl8, List.length_cons, List.length_nil, List.length_map, List.getElem?_cons_zero, List.getElem?_cons_succ, List.set_cons_zero, List.set_cons_succ, List.map_cons, List.map_nil, List.replicate, List.cons_append, List.nil_append, List.append_nil, Option.map_some, if_true, if_false, ite_true, ite_false, reduceIte, Nat.reduceAdd, Nat.reduceSub, Nat.reduceLeDiff, Nat.reduceEqDiff, Nat.sub_self, Nat.zero_add, Option.map_none, decide_true, decide_false, Bool.not_true, Bool.not_false, hm, ht, hi'])]
        exact ih b1 _ _ ok1
  have hr : rng1 [.int 5] = some ((List.range 5).map fun u : Nat => PyData.int (u : Int)) := rng_ok (n := 5) (by decide)
  rcases key ((List.range 5).map fun u : Nat => PyData.int (u : Int)) b .u .u hb with ⟨m, b', t3, t4, k, ok, m1, ht⟩ | ⟨b1, t3, t4, k, ok1⟩
  · refine ⟨m, b', ?_, ok, m1, ht⟩
    generalize (List.range 5).map (fun u : Nat => PyData.int (u : Int)) = o1 at *
    generalize flatD F = o2 at *
    simp [m_law_new_row, runI, b_law_new_row, sQ, sIf, sN, qFz, qB, qAnd, qOr, qNot, qYes, e1, DL.e2, eV, eC, eN, eI, eIf, eAnd, eOr, eFz, eSl, oS, oN, aN, aC, aX, sAsg, sAsgO, sRet, sRetO, sRetN, sDrop, sSet, sSetX, sAugI, sMut, sPar, sPat, sParM, mN, mC, DL.setM, iSeq, iN, gN, gT, gC, gZ, outP, outF, outI, en0, stillE, Sl.still, Sl.own, Sl.put, p1, tupD, lstD, mkT, mkL, DL.e3, sl1, sl2, sl3, sl4, sl0, sl5, sl6, sl7, sl8, List.length_cons, List.length_nil, List.length_map, List.getElem?_cons_zero, List.getElem?_cons_succ, List.set_cons_zero, List.set_cons_succ, List.map_cons, List.map_nil, List.replicate, List.cons_append, List.nil_append, List.append_nil, Option.map_some, if_true, if_false, ite_true, ite_false, reduceIte, Nat.reduceAdd, Nat.reduceSub, Nat.reduceLeDiff, Nat.reduceEqDiff, Nat.sub_self, Nat.zero_add, Option.map_none, decide_true, decide_false, Bool.not_true, Bool.not_false, sFor, hr, k]
  · have hh := eLc_M (vs := [6]) (it := iSeq (eV 2)) (g := gN 6) (a := DL.e2 ixX (DL.e2 ixX (eV 6) (eC (.int 0))) (eC (.int 0))) (ρ := [.b (bagV b1), .d (.int (n : Nat)), .d (flatD F), t3, t4, .u, .u, .u]) lineD F rfl rfl rfl (fun l => .int (hd l.1 : Nat)) (fun l hl => by
      refine ⟨[.b (bagV b1), .d (.int (n : Nat)), .d (flatD F), t3, t4, .u, .d (lineD l), .u], [.b (bagV b1), .d (.int (n : Nat)), .d (flatD F), t3, t4, .u, .d (lineD l), .u], rfl, ?_, rfl⟩
      have h1 := row_head (fF.rr.pos l hl).1 (fF.rr.pos l hl).2
      have y0 := ixX_line0 l
      simp [sQ, sIf, sN, qFz, qB, qAnd, qOr, qNot, qYes, e1, DL.e2, eV, eC, eN, eI, eIf, eAnd, eOr, eFz, eSl, oS, oN, aN, aC, aX, sAsg, sAsgO, sRet, sRetO, sRetN, sDrop, sSet, sSetX, sAugI, sMut, sPar, sPat, sParM, mN, mC, DL.setM, iSeq, iN, gN, gT, gC, gZ, outP, outF, outI, en0, stillE, Sl.still, Sl.own, Sl.put, p1, tupD, lstD, mkT, mkL, DL.e3, sl1, sl2, sl3, sl4, sl0, sl5, sl6, sl7, sl8, List.length_cons, List.length_nil, List.length_map, List.getElem?_cons_zero, List.getElem?_cons_succ, List.set_cons_zero, List.set_cons_succ, List.map_cons, List.map_nil, List.replicate, List.cons_append, List.nil_append, List.append_nil, Option.map_some, if_true, if_false, ite_true, ite_false, reduceIte, Nat.reduceAdd, Nat.reduceSub, Nat.reduceLeDiff, Nat.reduceEqDiff, Nat.sub_self, Nat.zero_add, Option.map_none, decide_true, decide_false, Bool.not_true, Bool.not_false, y0, h1])
    have hh' : eLc [6] (iSeq (eV 2)) (gN 6) qYes (DL.e2 ixX (DL.e2 ixX (eV 6) (eC (.int 0))) (eC (.int 0))) [.b (bagV b1), .d (.int (n : Nat)), .d (flatD F), t3, t4, .u, .u, .u] = some (.list (natsD (F.map fun l => hd l.1)), [.b (bagV b1), .d (.int (n : Nat)), .d (flatD F), t3, t4, .u, .u, .u]) := by
      rw [hh]
      unfold natsD
      rw [List.map_map]
      rfl
    have hf := eLc_T (vs := [7]) (it := iN rng1 (aC (eV 1) aN)) (g := gN 7) (q := qB (DL.e2 ninX (eV 7) (eV 5))) (a := eV 7) (ρ := [.b (bagV b1), .d (.int (n : Nat)), .d (flatD F), t3, t4, .d (.list (natsD (F.map fun l => hd l.1))), .u, .u]) (ρ0 := [.b (bagV b1), .d (.int (n : Nat)), .d (flatD F), t3, t4, .d (.list (natsD (F.map fun l => hd l.1))), .u, .u])
      (fun u : Nat => PyData.int (u : Int)) (List.range n) (by have h := rng_ok (n := n) (by omega); simp [sQ, sIf, sN, qFz, qB, qAnd, qOr, qNot, qYes, e1, DL.e2, eV, eC, eN, eI, eIf, eAnd, eOr, eFz, eSl, oS, oN, aN, aC, aX, sAsg, sAsgO, sRet, sRetO, sRetN, sDrop, sSet, sSetX, sAugI, sMut, sPar, sPat, sParM, mN, mC, DL.setM, iSeq, iN, gN, gT, gC, gZ, outP, outF, outI, en0, stillE, Sl.still, Sl.own, Sl.put, p1, tupD, lstD, mkT, mkL, DL.e3, sl1, sl2, sl3, sl4, sl0, sl5, sl6, sl7, sl8, List.length_cons, List.length_nil, List.length_map, List.getElem?_cons_zero, List.getElem?_cons_succ, List.set_cons_zero, List.set_cons_succ, List.map_cons, List.map_nil, List.replicate, List.cons_append, List.nil_append, List.append_nil, Option.map_some, if_true, if_false, ite_true, ite_false, reduceIte, Nat.reduceAdd, Nat.reduceSub, Nat.reduceLeDiff, Nat.reduceEqDiff, Nat.sub_self, Nat.zero_add, Option.map_none, decide_true, decide_false, Bool.not_true, Bool.not_false, h]) rfl rfl (fun u => !decide (u ∈ F.map fun l => hd l.1)) (fun u => .int (u : Int)) (fun u hu => by
        refine ⟨[.b (bagV b1), .d (.int (n : Nat)), .d (flatD F), t3, t4, .d (.list (natsD (F.map fun l => hd l.1))), .u, .d (.int (u : Int))], [.b (bagV b1), .d (.int (n : Nat)), .d (flatD F), t3, t4, .d (.list (natsD (F.map fun l => hd l.1))), .u, .d (.int (u : Int))], rfl, ?_, fun _ => ⟨_, rfl, rfl⟩, fun _ => rfl⟩
        have h2 := (in_nats (l := F.map fun l => hd l.1) (i := u) fun i hi => by
          obtain ⟨l, hl, rfl⟩ := List.mem_map.mp hi
          have := (hd_some (fF.rr.pos l hl).1 (fF.rr.pos l hl).2).2.1
          omega).2.2.2
        generalize (F.map fun l => hd l.1) = hs at h2
        simp [sQ, sIf, sN, qFz, qB, qAnd, qOr, qNot, qYes, e1, DL.e2, eV, eC, eN, eI, eIf, eAnd, eOr, eFz, eSl, oS, oN, aN, aC, aX, sAsg, sAsgO, sRet, sRetO, sRetN, sDrop, sSet, sSetX, sAugI, sMut, sPar, sPat, sParM, mN, mC, DL.setM, iSeq, iN, gN, gT, gC, gZ, outP, outF, outI, en0, stillE, Sl.still, Sl.own, Sl.put, p1, tupD, lstD, mkT, mkL, DL.e3, sl1, sl2, sl3, sl4, sl0, sl5, sl6, sl7, sl8, List.length_cons, List.length_nil, List.length_map, List.getElem?_cons_zero, List.getElem?_cons_succ, List.set_cons_zero, List.set_cons_succ, List.map_cons, List.map_nil, List.replicate, List.cons_append, List.nil_append, List.append_nil, Option.map_some, if_true, if_false, ite_true, ite_false, reduceIte, Nat.reduceAdd, Nat.reduceSub, Nat.reduceLeDiff, Nat.reduceEqDiff, Nat.sub_self, Nat.zero_add, Option.map_none, decide_true, decide_false, Bool.not_true, Bool.not_false, h2])
    have hfree : ((List.range n).filter (fun u => !decide (u ∈ F.map fun l => hd l.1))).map (fun u : Nat => PyData.int (u : Int)) = natsD (freeN n F) := rfl
    rw [hfree] at hf
    have hne : 0 < (freeN n F).length := by
      rcases Nat.eq_zero_or_pos (freeN n F).length with z | z
      · exfalso
        have hnil := List.eq_nil_of_length_eq_zero z
        have := nodup_len (l := List.range n) (m := F.map fun l => hd l.1) List.nodup_range fun u hu => by
          by_cases w : u ∈ F.map fun l => hd l.1
          · exact w
          · have : u ∈ freeN n F := free_mem.mpr ⟨List.mem_range.mp hu, fun l hl z => w (List.mem_map.mpr ⟨l, hl, z⟩)⟩
            rw [hnil] at this; cases this
        rw [List.length_range, List.length_map] at this
        omega
      · exact z
    have hle : (freeN n F).length ≤ n := by
      unfold freeN
      have := List.length_filter_le (fun u => !decide (u ∈ F.map fun l => hd l.1)) (List.range n)
      rw [List.length_range] at this
      exact this
    obtain ⟨x, b2, hs, ok2, hx⟩ := some_ok ok1 (xs := natsD (freeN n F)) (by unfold natsD; rw [List.length_map]; exact hne) (by unfold natsD; rw [List.length_map]; omega)
    obtain ⟨u, hu, rfl⟩ := List.mem_map.mp hx
    obtain ⟨u1, u2⟩ := free_mem.mp hu
    refine ⟨2 ^ u, b2, ?_, ok2, Nat.pow_lt_pow_right (by decide) u1, ?_⟩
    · rw [row_pow u (by omega)]
      generalize (List.range 5).map (fun u : Nat => PyData.int (u : Int)) = o1 at *
      generalize natsD (F.map fun l => hd l.1) = o3 at *
      generalize natsD (freeN n F) = o4 at *
      generalize flatD F = o2 at *
      simp [m_law_new_row, runI, b_law_new_row, sQ, sIf, sN, qFz, qB, qAnd, qOr, qNot, qYes, e1, DL.e2, eV, eC, eN, eI, eIf, eAnd, eOr, eFz, eSl, oS, oN, aN, aC, aX, sAsg, sAsgO, sRet, sRetO, sRetN, sDrop, sSet, sSetX, sAugI, sMut, sPar, sPat, sParM, mN, mC, DL.setM, iSeq, iN, gN, gT, gC, gZ, outP, outF, outI, en0, stillE, Sl.still, Sl.own, Sl.put, p1, tupD, lstD, mkT, mkL, DL.e3, sl1, sl2, sl3, sl4, sl0, sl5, sl6, sl7, sl8, List.length_cons, List.length_nil, List.length_map, List.getElem?_cons_zero, List.getElem?_cons_succ, List.set_cons_zero, List.set_cons_succ, List.map_cons, List.map_nil, List.replicate, List.cons_append, List.nil_append, List.append_nil, Option.map_some, if_true, if_false, ite_true, ite_false, reduceIte, Nat.reduceAdd, Nat.reduceSub, Nat.reduceLeDiff, Nat.reduceEqDiff, Nat.sub_self, Nat.zero_add, Option.map_none, decide_true, decide_false, Bool.not_true, Bool.not_false, sFor, hr, k, hh', hf, hs]
    · have hfr : ∀ l ∈ F, (2 ^ u).testBit (hd l.1) = false := fun l hl => by
        rw [Nat.testBit_two_pow, decide_eq_false (fun z => u2 l hl z.symm)]
      unfold told
      rw [led_free hfr, if_neg (Nat.pos_iff_ne_zero.mp (Nat.two_pow_pos u))]
end Lk14

set_option maxHeartbeats 4000000
namespace Lk14
open PySem L2 DL FL
theorem fl_sub {n : Nat} {F G : List Ln} (f : Fl n F) (h : G.Sublist F) : Fl n G := ⟨f.rr.sub h, fun l hl => f.lt l (h.subset hl)⟩
theorem fl_nil (n : Nat) : Fl n [] := ⟨Rr.nil, fun _ h => (nomatch h)⟩
def tripD (t : List Ln × List Ln × List Ln) : PyData := .tuple [flatD t.1, flatD t.2.1, flatD t.2.2]
theorem three_ok {b : Bag} (hb : BagOk b) {n : Nat} (h1 : 0 < n) (h2 : n ≤ 7) : ∃ (F A B : List Ln) (b' : Bag), m_law_three_flats (bagV b) [.int (n : Nat)] = some (tripD (F, A, B), bagV b') ∧ BagOk b' ∧ Fl n F ∧ Fl n A ∧ Fl n B := by
  obtain ⟨F, b1, hF, ok1, rF, ltF, lenF⟩ := drawn_ok hb (many := n) (most := n - 1) h1 (by omega) (by omega)
  have fF : Fl n F := ⟨rF, ltF⟩
  have hs : subD (.int (n : Nat)) (.int 1) = some (.int ((n - 1 : Nat) : Int)) := by
    show some (PyData.int ((n : Int) - 1)) = _
    congr 2
    omega
  obtain ⟨w, b2, hw, ok2, w6⟩ := take_nat ok1 (many := 6) (by decide) (by decide)
  have hw' : m_law_take (bagV b1) [.int 6] = some (.int (w : Nat), bagV b2) := hw
  have hlt : ltI (.int (w : Nat)) (.int 4) = some (.bool (decide (w < 4))) := by
    show some (PyData.bool (decide ((w : Int) < (4 : Int)))) = _
    congr 2
    simp only [decide_eq_decide]
    omega
  have hq3 : eqD (.int (w : Nat)) (.int 3) = some (.bool (decide (w = 3))) := eqD_nat w 3
  have hq2 : neD (.int (w : Nat)) (.int 2) = some (.bool (!decide (w = 2))) := neD_nat w 2
  have hq4 : eqD (.int (w : Nat)) (.int 4) = some (.bool (decide (w = 4))) := eqD_nat w 4
  generalize hN : ((n - 1 : Nat) : Int) = nm at hs hF
  by_cases c4 : w < 4
  · rw [decide_eq_true c4] at hlt
    obtain ⟨m, b3, hm, ok3, m1, tm⟩ := new_row_ok ok2 h1 (by omega) fF (by omega)
    obtain ⟨A0, B0, hh, fA0, fB0, _, _⟩ := halves_of (by omega) fF m1 tm
    obtain ⟨A1, b4, hA1, ok4, sA1⟩ := wider_ok ok3 A0
    obtain ⟨B1, b5, hB1, ok5, sB1⟩ := wider_ok ok4 B0
    have fA1 := fl_sub fA0 sA1
    have fB1 := fl_sub fB0 sB1
    have hl : lenX (flatD A1) = some (.int (A1.length : Nat)) := len_flat A1
    have hll : ltI (.int (A1.length : Nat)) (.int (n : Nat)) = some (.bool (decide (A1.length < n))) := by
      show some (PyData.bool (decide ((A1.length : Int) < (n : Int)))) = _
      congr 2
      simp only [decide_eq_decide]
      omega
    by_cases c3 : w = 3
    · rw [decide_eq_true c3] at hq3
      rw [decide_eq_false (by omega)] at hq2
      by_cases cl : A1.length < n
      · rw [decide_eq_true cl] at hll
        obtain ⟨m2, b6, hm2, ok6, m3, tm2⟩ := new_row_ok ok5 h1 (by omega) fA1 cl
        obtain ⟨A2, B2, hh2, fA2, fB2, _, _⟩ := halves_of (by omega) fA1 m3 tm2
        obtain ⟨k, b7, hk, ok7, k2⟩ := take_nat ok6 (many := 2) (by decide) (by decide)
        have hk' : m_law_take (bagV b6) [.int 2] = some (.int (k : Nat), bagV b7) := hk
        have hpick : ∃ A3, ixX (.tuple [flatD A2, flatD B2]) (.int (k : Nat)) = some (flatD A3) ∧ Fl n A3 := by
          have : k = 0 ∨ k = 1 := by omega
          rcases this with rfl | rfl
          · exact ⟨A2, ixX_t0 _ _, fA2⟩
          · exact ⟨B2, ixX_t1 _ _ _, fB2⟩
        obtain ⟨A3, hp, fA3⟩ := hpick
        refine ⟨F, A3, B1, b7, ?_, ok7, fF, fA3, fB1⟩
        unfold tripD
        dsimp only
        generalize (w : Int) = wi at *
        generalize (k : Int) = ki at *
        generalize (A1.length : Int) = li at *
        generalize flatD F = o1 at *
        generalize flatD A0 = o2 at *
        generalize flatD B0 = o3 at *
        generalize flatD A1 = o4 at *
        generalize flatD B1 = o5 at *
        generalize flatD A2 = o6 at *
        generalize flatD B2 = o7 at *
        generalize flatD A3 = o8 at *
        simp [m_law_three_flats, runI, b_law_three_flats, sQ, sIf, sN, qFz, qB, qAnd, qOr, qNot, qYes, e1, DL.e2, eV, eC, eN, eI, eIf, eAnd, eOr, eFz, eSl, oS, oN, aN, aC, aX, sAsg, sAsgO, sRet, sRetO, sRetN, sDrop, sSet, sSetX, sAugI, sMut, sPar, sPat, sParM, mN, mC, DL.setM, iSeq, iN, gN, gT, gC, gZ, outP, outF, outI, en0, stillE, Sl.still, Sl.own, Sl.put, p1, tupD, lstD, mkT, mkL, DL.e3, sl1, sl2, sl3, sl4, sl0, sl5, sl6, sl7, sl8, List.length_cons, List.length_nil, List.length_map, List.getElem?_cons_zero, List.getElem?_cons_succ, List.set_cons_zero, List.set_cons_succ, List.map_cons, List.map_nil, List.replicate, List.cons_append, List.nil_append, List.append_nil, Option.map_some, if_true, if_false, ite_true, ite_false, reduceIte, Nat.reduceAdd, Nat.reduceSub, Nat.reduceLeDiff, Nat.reduceEqDiff, Nat.sub_self, Nat.zero_add, Option.map_none, decide_true, decide_false, Bool.not_true, Bool.not_false, hs, hF, hw', hlt, hm, hh, hA1, hB1, hq3, hl, hll, hm2, hh2, hk', hp, hq2]
      · rw [decide_eq_false cl] at hll
        refine ⟨F, A1, B1, b5, ?_, ok5, fF, fA1, fB1⟩
        unfold tripD
        dsimp only
        generalize (w : Int) = wi at *
        generalize (A1.length : Int) = li at *
        generalize flatD F = o1 at *
        generalize flatD A0 = o2 at *
        generalize flatD B0 = o3 at *
        generalize flatD A1 = o4 at *
        generalize flatD B1 = o5 at *
        simp [m_law_three_flats, runI, b_law_three_flats, sQ, sIf, sN, qFz, qB, qAnd, qOr, qNot, qYes, e1, DL.e2, eV, eC, eN, eI, eIf, eAnd, eOr, eFz, eSl, oS, oN, aN, aC, aX, sAsg, sAsgO, sRet, sRetO, sRetN, sDrop, sSet, sSetX, sAugI, sMut, sPar, sPat, sParM, mN, mC, DL.setM, iSeq, iN, gN, gT, gC, gZ, outP, outF, outI, en0, stillE, Sl.still, Sl.own, Sl.put, p1, tupD, lstD, mkT, mkL, DL.e3, sl1, sl2, sl3, sl4, sl0, sl5, sl6, sl7, sl8, List.length_cons, List.length_nil, List.length_map, List.getElem?_cons_zero, List.getElem?_cons_succ, List.set_cons_zero, List.set_cons_succ, List.map_cons, List.map_nil, List.replicate, List.cons_append, List.nil_append, List.append_nil, Option.map_some, if_true, if_false, ite_true, ite_false, reduceIte, Nat.reduceAdd, Nat.reduceSub, Nat.reduceLeDiff, Nat.reduceEqDiff, Nat.sub_self, Nat.zero_add, Option.map_none, decide_true, decide_false, Bool.not_true, Bool.not_false, hs, hF, hw', hlt, hm, hh, hA1, hB1, hq3, hl, hll, hq2]
    · rw [decide_eq_false c3] at hq3
      by_cases c2 : w = 2
      · rw [decide_eq_true c2] at hq2
        obtain ⟨F2, b6, hF2, ok6, sF2⟩ := wider_ok ok5 F
        refine ⟨F2, A1, B1, b6, ?_, ok6, fl_sub fF sF2, fA1, fB1⟩
        unfold tripD
        dsimp only
        generalize (w : Int) = wi at *
        generalize flatD F2 = o8 at *
        generalize flatD F = o1 at *
        generalize flatD A0 = o2 at *
        generalize flatD B0 = o3 at *
        generalize flatD A1 = o4 at *
        generalize flatD B1 = o5 at *
        simp [m_law_three_flats, runI, b_law_three_flats, sQ, sIf, sN, qFz, qB, qAnd, qOr, qNot, qYes, e1, DL.e2, eV, eC, eN, eI, eIf, eAnd, eOr, eFz, eSl, oS, oN, aN, aC, aX, sAsg, sAsgO, sRet, sRetO, sRetN, sDrop, sSet, sSetX, sAugI, sMut, sPar, sPat, sParM, mN, mC, DL.setM, iSeq, iN, gN, gT, gC, gZ, outP, outF, outI, en0, stillE, Sl.still, Sl.own, Sl.put, p1, tupD, lstD, mkT, mkL, DL.e3, sl1, sl2, sl3, sl4, sl0, sl5, sl6, sl7, sl8, List.length_cons, List.length_nil, List.length_map, List.getElem?_cons_zero, List.getElem?_cons_succ, List.set_cons_zero, List.set_cons_succ, List.map_cons, List.map_nil, List.replicate, List.cons_append, List.nil_append, List.append_nil, Option.map_some, if_true, if_false, ite_true, ite_false, reduceIte, Nat.reduceAdd, Nat.reduceSub, Nat.reduceLeDiff, Nat.reduceEqDiff, Nat.sub_self, Nat.zero_add, Option.map_none, decide_true, decide_false, Bool.not_true, Bool.not_false, hs, hF, hw', hlt, hm, hh, hA1, hB1, hq3, hq2, hF2]
      · rw [decide_eq_false c2] at hq2
        refine ⟨F, A1, B1, b5, ?_, ok5, fF, fA1, fB1⟩
        unfold tripD
        dsimp only
        generalize (w : Int) = wi at *
        generalize flatD F = o1 at *
        generalize flatD A0 = o2 at *
        generalize flatD B0 = o3 at *
        generalize flatD A1 = o4 at *
        generalize flatD B1 = o5 at *
        simp [m_law_three_flats, runI, b_law_three_flats, sQ, sIf, sN, qFz, qB, qAnd, qOr, qNot, qYes, e1, DL.e2, eV, eC, eN, eI, eIf, eAnd, eOr, eFz, eSl, oS, oN, aN, aC, aX, sAsg, sAsgO, sRet, sRetO, sRetN, sDrop, sSet, sSetX, sAugI, sMut, sPar, sPat, sParM, mN, mC, DL.setM, iSeq, iN, gN, gT, gC, gZ, outP, outF, outI, en0, stillE, Sl.still, Sl.own, Sl.put, p1, tupD, lstD, mkT, mkL, DL.e3, sl1, sl2, sl3, sl4, sl0, sl5, sl6, sl7, sl8, List.length_cons, List.length_nil, List.length_map, List.getElem?_cons_zero, List.getElem?_cons_succ, List.set_cons_zero, List.set_cons_succ, List.map_cons, List.map_nil, List.replicate, List.cons_append, List.nil_append, List.append_nil, Option.map_some, if_true, if_false, ite_true, ite_false, reduceIte, Nat.reduceAdd, Nat.reduceSub, Nat.reduceLeDiff, Nat.reduceEqDiff, Nat.sub_self, Nat.zero_add, Option.map_none, decide_true, decide_false, Bool.not_true, Bool.not_false, hs, hF, hw', hlt, hm, hh, hA1, hB1, hq3, hq2]
  · rw [decide_eq_false c4] at hlt
    by_cases c5 : w = 4
    · rw [decide_eq_true c5] at hq4
      obtain ⟨G, b3, hG, ok3, sG⟩ := wider_ok ok2 F
      obtain ⟨B, b4, hB, ok4, rB, ltB, _⟩ := drawn_ok ok3 (many := n) (most := n) h1 (by omega) (by omega)
      refine ⟨F, G, B, b4, ?_, ok4, fF, fl_sub fF sG, ⟨rB, ltB⟩⟩
      unfold tripD
      dsimp only
      generalize (w : Int) = wi at *
      generalize flatD F = o1 at *
      generalize flatD G = o2 at *
      generalize flatD B = o3 at *
      simp [m_law_three_flats, runI, b_law_three_flats, sQ, sIf, sN, qFz, qB, qAnd, qOr, qNot, qYes, e1, DL.e2, eV, eC, eN, eI, eIf, eAnd, eOr, eFz, eSl, oS, oN, aN, aC, aX, sAsg, sAsgO, sRet, sRetO, sRetN, sDrop, sSet, sSetX, sAugI, sMut, sPar, sPat, sParM, mN, mC, DL.setM, iSeq, iN, gN, gT, gC, gZ, outP, outF, outI, en0, stillE, Sl.still, Sl.own, Sl.put, p1, tupD, lstD, mkT, mkL, DL.e3, sl1, sl2, sl3, sl4, sl0, sl5, sl6, sl7, sl8, List.length_cons, List.length_nil, List.length_map, List.getElem?_cons_zero, List.getElem?_cons_succ, List.set_cons_zero, List.set_cons_succ, List.map_cons, List.map_nil, List.replicate, List.cons_append, List.nil_append, List.append_nil, Option.map_some, if_true, if_false, ite_true, ite_false, reduceIte, Nat.reduceAdd, Nat.reduceSub, Nat.reduceLeDiff, Nat.reduceEqDiff, Nat.sub_self, Nat.zero_add, Option.map_none, decide_true, decide_false, Bool.not_true, Bool.not_false, hs, hF, hw', hlt, hq4, hG, hB]
    · rw [decide_eq_false c5] at hq4
      obtain ⟨A, b3, hA, ok3, rA, ltA, _⟩ := drawn_ok ok2 (many := n) (most := n) h1 (by omega) (by omega)
      obtain ⟨B, b4, hB, ok4, rB, ltB, _⟩ := drawn_ok ok3 (many := n) (most := 2) h1 (by omega) (by omega)
      have hB' : m_law_drawn_flat (bagV b3) [.int (n : Nat), .int 2] = some (flatD B, bagV b4) := hB
      obtain ⟨x, b5, hx, ok5, mx⟩ := some_ok ok4 (xs := [.tuple [], flatD F, flatD B]) (by simp) (by simp)
      have hC : ∃ C, x = flatD C ∧ Fl n C := by
        have h3 : x = .tuple [] ∨ x = flatD F ∨ x = flatD B := by simpa using mx
        rcases h3 with rfl | rfl | rfl
        · exact ⟨[], rfl, fl_nil n⟩
        · exact ⟨F, rfl, fF⟩
        · exact ⟨B, rfl, ⟨rB, ltB⟩⟩
      obtain ⟨C, rfl, fC⟩ := hC
      refine ⟨F, A, C, b5, ?_, ok5, fF, ⟨rA, ltA⟩, fC⟩
      unfold tripD
      dsimp only
      generalize (w : Int) = wi at *
      generalize flatD C = o4 at *
      generalize flatD F = o1 at *
      generalize flatD A = o2 at *
      generalize flatD B = o3 at *
      simp [m_law_three_flats, runI, b_law_three_flats, sQ, sIf, sN, qFz, qB, qAnd, qOr, qNot, qYes, e1, DL.e2, eV, eC, eN, eI, eIf, eAnd, eOr, eFz, eSl, oS, oN, aN, aC, aX, sAsg, sAsgO, sRet, sRetO, sRetN, sDrop, sSet, sSetX, sAugI, sMut, sPar, sPat, sParM, mN, mC, DL.setM, iSeq, iN, gN, gT, gC, gZ, outP, outF, outI, en0, stillE, Sl.still, Sl.own, Sl.put, p1, tupD, lstD, mkT, mkL, DL.e3, sl1, sl2, sl3, sl4, sl0, sl5, sl6, sl7, sl8, List.length_cons, List.length_nil, List.length_map, List.getElem?_cons_zero, List.getElem?_cons_succ, List.set_cons_zero, List.set_cons_succ, List.map_cons, List.map_nil, List.replicate, List.cons_append, List.nil_append, List.append_nil, Option.map_some, if_true, if_false, ite_true, ite_false, reduceIte, Nat.reduceAdd, Nat.reduceSub, Nat.reduceLeDiff, Nat.reduceEqDiff, Nat.sub_self, Nat.zero_add, Option.map_none, decide_true, decide_false, Bool.not_true, Bool.not_false, hs, hF, hw', hlt, hq4, hA, hB', hx]
theorem due_nc (n : Nat) (F A B : List Ln) : Nc 1 16 (dueR n F A B) := by
  unfold dueR
  split
  · exact (NcL.nil.tup).le (by decide) (by decide)
  · split
    · split
      · exact rowD_nc _
      · exact (Nc.str (x := "none") (by kernel_rfl) (n := 16) (by decide)).le (by decide) (by decide)
    · exact Nc.non.le (by decide) (by decide)
theorem alike_ok {d : PyData} (h : Nc 64 100000 d) : m_law_alike [d, d] = some (.bool true) := by
  have h1 := eqD_refl h (by decide)
  have h2 := reprD_of (h.repr (by decide) (by decide))
  have h3 : eqD (.str d.shown) (.str d.shown) = some (.bool true) := by rw [eqD_str]; simp
  simp [m_law_alike, runP, b_law_alike, sQ, sIf, sN, qFz, qB, qAnd, qOr, qNot, qYes, e1, DL.e2, eV, eC, eN, eI, eIf, eAnd, eOr, eFz, eSl, oS, oN, aN, aC, aX, sAsg, sAsgO, sRet, sRetO, sRetN, sDrop, sSet, sSetX, sAugI, sMut, sPar, sPat, sParM, mN, mC, DL.setM, iSeq, iN, gN, gT, gC, gZ, outP, outF, outI, en0, stillE, Sl.still, Sl.own, Sl.put, p1, tupD, lstD, mkT, mkL, DL.e3, sl1, sl2, sl3, sl4, sl0, sl5, sl6, sl7, sl8, List.length_cons, List.length_nil, List.length_map, List.getElem?_cons_zero, List.getElem?_cons_succ, List.set_cons_zero, List.set_cons_succ, List.map_cons, List.map_nil, List.replicate, List.cons_append, List.nil_append, List.append_nil, Option.map_some, if_true, if_false, ite_true, ite_false, reduceIte, Nat.reduceAdd, Nat.reduceSub, Nat.reduceLeDiff, Nat.reduceEqDiff, Nat.sub_self, Nat.zero_add, Option.map_none, decide_true, decide_false, Bool.not_true, Bool.not_false, h1, h2, h3]
theorem trip_nc {n : Nat} {t : List Ln × List Ln × List Ln} (h1 : Fl n t.1) (h2 : Fl n t.2.1) (h3 : Fl n t.2.2) : Nc 64 100000 (tripD t) := by
  have l1 := rr_len h1.rr
  have l2 := rr_len h2.rr
  have l3 := rr_len h3.rr
  refine (NcL.cons (flatD_nc t.1) (NcL.cons (flatD_nc t.2.1) (NcL.cons (flatD_nc t.2.2) NcL.nil))).tup.le (by decide) ?_
  omega
/-- the questions of one turn -/
theorem ask_ok {n : Nat} (h0 : 1 ≤ n) (hn : n < 8) {ts : List (List Ln × List Ln × List Ln)} (hts : ∀ t ∈ ts, Fl n t.1 ∧ Fl n t.2.1 ∧ Fl n t.2.2) {it : Es} {s0 s1 s2 s3 s5 s6 s7 s8 s9 s10 s11 : Sl} (hi : it [s0, s1, s2, s3, .d (roomD n), s5, s6, s7, s8, s9, s10, s11] = some (ts.map tripD, [s0, s1, s2, s3, .d (roomD n), s5, s6, s7, s8, s9, s10, s11])) :
    ∃ t6 t7 t8 t9 t10 t11, sFor it (gT 3 (gC (gN 6) (gC (gN 7) (gC (gN 8) gZ)))) (sQ (sPar 9 10 (aC (eN m_law_cut_due (aC (eV 4) (aC (eV 6) (aC (eV 7) (aC (eV 8) aN))))) (aC (eN (p1 reprD) (aC (eN mkT (aC (eV 6) (aC (eV 7) (aC (eV 8) aN)))) aN)) aN))) (sQ (sAsg 11 (eN mkL (aC (eN m_cut_by (aC (eV 6) (aC (eV 7) (aC (eV 8) aN)))) (aC (eN m_lies_in_both (aC (eV 6) (aC (eV 7) (aC (eV 8) aN)))) aN)))) (sIf (qOr (qNot (qB (eN m_law_alike (aC (eV 11) (aC (eN mkL (aC (eV 9) (aC (e2 isNotN (eV 9) (eC .none)) aN))) aN))))) (qB (e2 neD (eN (p1 reprD) (aC (eN mkT (aC (eV 6) (aC (eV 7) (aC (eV 8) aN)))) aN)) (eV 10)))) (sRet (eC (.bool false))) sN))) [s0, s1, s2, s3, .d (roomD n), s5, s6, s7, s8, s9, s10, s11] = some (.nx [s0, s1, s2, s3, .d (roomD n), s5, t6, t7, t8, t9, t10, t11]) := by
  obtain ⟨ρ', k1, t6, t7, t8, t9, t10, t11, rfl⟩ := sFor_T tripD ts (it := it) (g := gT 3 (gC (gN 6) (gC (gN 7) (gC (gN 8) gZ)))) (ψ := (sQ (sPar 9 10 (aC (eN m_law_cut_due (aC (eV 4) (aC (eV 6) (aC (eV 7) (aC (eV 8) aN))))) (aC (eN (p1 reprD) (aC (eN mkT (aC (eV 6) (aC (eV 7) (aC (eV 8) aN)))) aN)) aN))) (sQ (sAsg 11 (eN mkL (aC (eN m_cut_by (aC (eV 6) (aC (eV 7) (aC (eV 8) aN)))) (aC (eN m_lies_in_both (aC (eV 6) (aC (eV 7) (aC (eV 8) aN)))) aN)))) (sIf (qOr (qNot (qB (eN m_law_alike (aC (eV 11) (aC (eN mkL (aC (eV 9) (aC (e2 isNotN (eV 9) (eC .none)) aN))) aN))))) (qB (e2 neD (eN (p1 reprD) (aC (eN mkT (aC (eV 6) (aC (eV 7) (aC (eV 8) aN)))) aN)) (eV 10)))) (sRet (eC (.bool false))) sN)))) hi
    (fun dn ρ => ∃ t6 t7 t8 t9 t10 t11, ρ = [s0, s1, s2, s3, .d (roomD n), s5, t6, t7, t8, t9, t10, t11])
    ⟨s6, s7, s8, s9, s10, s11, rfl⟩
    (fun dn t rest ρ ed ⟨t6, t7, t8, t9, t10, t11, e⟩ => by
      subst e
      obtain ⟨f1, f2, f3⟩ := hts t (by rw [ed]; simp)
      obtain ⟨d, c1, c2, hd⟩ := cut_eq hn f1 f2 f3
      have hr := reprD_of ((trip_nc f1 f2 f3).repr (by decide) (by decide))
      have hnn : ∃ c, isNotN d .none = some (.bool c) := ⟨_, rfl⟩
      obtain ⟨c, hc⟩ := hnn
      have hlb : m_lies_in_both [flatD t.1, flatD t.2.1, flatD t.2.2] = some (.bool c) := by
        simp [m_lies_in_both, runP, b_lies_in_both, sQ, sIf, sN, qFz, qB, qAnd, qOr, qNot, qYes, e1, DL.e2, eV, eC, eN, eI, eIf, eAnd, eOr, eFz, eSl, oS, oN, aN, aC, aX, sAsg, sAsgO, sRet, sRetO, sRetN, sDrop, sSet, sSetX, sAugI, sMut, sPar, sPat, sParM, mN, mC, DL.setM, iSeq, iN, gN, gT, gC, gZ, outP, outF, outI, en0, stillE, Sl.still, Sl.own, Sl.put, p1, tupD, lstD, mkT, mkL, DL.e3, sl1, sl2, sl3, sl4, sl0, sl5, sl6, sl7, sl8, List.length_cons, List.length_nil, List.length_map, List.getElem?_cons_zero, List.getElem?_cons_succ, List.set_cons_zero, List.set_cons_succ, List.map_cons, List.map_nil, List.replicate, List.cons_append, List.nil_append, List.append_nil, Option.map_some, if_true, if_false, ite_true, ite_false, reduceIte, Nat.reduceAdd, Nat.reduceSub, Nat.reduceLeDiff, Nat.reduceEqDiff, Nat.sub_self, Nat.zero_add, Option.map_none, decide_true, decide_false, Bool.not_true, Bool.not_false, c1, hc]
      have hdn : Nc 1 16 d := by rw [hd]; exact due_nc n _ _ _
      have hal := alike_ok ((NcL.cons hdn (NcL.cons (Nc.bool c) NcL.nil)).lst.le (show _ ≤ 64 by decide) (show _ ≤ 100000 by decide))
      have hne : ∀ s : Str, neD (.str s) (.str s) = some (.bool false) := fun s => by rw [neD_str]; simp
      have htr : tripD t = .tuple [flatD t.1, flatD t.2.1, flatD t.2.2] := rfl
      rw [htr] at hr
      refine ⟨[s0, s1, s2, s3, .d (roomD n), s5, .d (flatD t.1), .d (flatD t.2.1), .d (flatD t.2.2), t9, t10, t11], [s0, s1, s2, s3, .d (roomD n), s5, .d (flatD t.1), .d (flatD t.2.1), .d (flatD t.2.2), .d d, .d (.str (PyData.tuple [flatD t.1, flatD t.2.1, flatD t.2.2]).shown), .d (.list [d, .bool c])], rfl, ?_, _, _, _, _, _, _, rfl⟩
      generalize (PyData.tuple [flatD t.1, flatD t.2.1, flatD t.2.2]).shown = sh at hr
      generalize flatD t.1 = o1 at *
      generalize flatD t.2.1 = o2 at *
      generalize flatD t.2.2 = o3 at *
      generalize roomD n = o4 at *
      simp [sQ, sIf, sN, qFz, qB, qAnd, qOr, qNot, qYes, e1, DL.e2, eV, eC, eN, eI, eIf, eAnd, eOr, eFz, eSl, oS, oN, aN, aC, aX, sAsg, sAsgO, sRet, sRetO, sRetN, sDrop, sSet, sSetX, sAugI, sMut, sPar, sPat, sParM, mN, mC, DL.setM, iSeq, iN, gN, gT, gC, gZ, outP, outF, outI, en0, stillE, Sl.still, Sl.own, Sl.put, p1, tupD, lstD, mkT, mkL, DL.e3, sl1, sl2, sl3, sl4, sl0, sl5, sl6, sl7, sl8, List.length_cons, List.length_nil, List.length_map, List.getElem?_cons_zero, List.getElem?_cons_succ, List.set_cons_zero, List.set_cons_succ, List.map_cons, List.map_nil, List.replicate, List.cons_append, List.nil_append, List.append_nil, Option.map_some, if_true, if_false, ite_true, ite_false, reduceIte, Nat.reduceAdd, Nat.reduceSub, Nat.reduceLeDiff, Nat.reduceEqDiff, Nat.sub_self, Nat.zero_add, Option.map_none, decide_true, decide_false, Bool.not_true, Bool.not_false, c1, c2, hr, hlb, hal, hc, hne])
  exact ⟨t6, t7, t8, t9, t10, t11, k1⟩
theorem turn_ok {b : Bag} (hb : BagOk b) {s0 s2 s3 s4 s5 s6 s7 s8 s9 s10 s11 : Sl} : ∃ (b' : Bag) (t3 t4 t5 t6 t7 t8 t9 t10 t11 : Sl), (sQ (sAsg 3 (e2 addD (eC (.int 1)) (eI m_law_take 1 (aC (eI m_law_some 1 (aC (eN mkL (aC (eC (.int 3)) (aC (eC (.int 5)) (aC (eC (.int 7)) aN)))) aN)) aN)))) (sQ (sPar 4 5 (aC (eN m_law_room (aC (eV 3) aN)) (aC (eI m_law_three_flats 1 (aC (eV 3) aN)) aN))) (sFor (iSeq (eN mkT (aC (eV 5) (aC (eN mkT (aC (e2 ixX (eV 5) (eC (.int 0))) (aC (e2 ixX (eV 5) (eC (.int 2))) (aC (e2 ixX (eV 5) (eC (.int 1))) aN)))) (aC (eN mkT (aC (e2 ixX (eV 5) (eC (.int 1))) (aC (e2 ixX (eV 5) (eC (.int 0))) (aC (e2 ixX (eV 5) (eC (.int 2))) aN)))) (aC (e2 repT (eN mkT (aC (e2 ixX (eV 5) (eC (.int 0))) aN)) (eC (.int 3))) aN)))))) (gT 3 (gC (gN 6) (gC (gN 7) (gC (gN 8) gZ)))) (sQ (sPar 9 10 (aC (eN m_law_cut_due (aC (eV 4) (aC (eV 6) (aC (eV 7) (aC (eV 8) aN))))) (aC (eN (p1 reprD) (aC (eN mkT (aC (eV 6) (aC (eV 7) (aC (eV 8) aN)))) aN)) aN))) (sQ (sAsg 11 (eN mkL (aC (eN m_cut_by (aC (eV 6) (aC (eV 7) (aC (eV 8) aN)))) (aC (eN m_lies_in_both (aC (eV 6) (aC (eV 7) (aC (eV 8) aN)))) aN)))) (sIf (qOr (qNot (qB (eN m_law_alike (aC (eV 11) (aC (eN mkL (aC (eV 9) (aC (e2 isNotN (eV 9) (eC .none)) aN))) aN))))) (qB (e2 neD (eN (p1 reprD) (aC (eN mkT (aC (eV 6) (aC (eV 7) (aC (eV 8) aN)))) aN)) (eV 10)))) (sRet (eC (.bool false))) sN)))))) [s0, .o (bagV b), s2, s3, s4, s5, s6, s7, s8, s9, s10, s11] = some (.nx [s0, .o (bagV b'), s2, t3, t4, t5, t6, t7, t8, t9, t10, t11]) ∧ BagOk b' := by
  obtain ⟨x, b1, hs, ok1, hx⟩ := some_ok hb (xs := [.int 3, .int 5, .int 7]) (by simp) (by simp)
  have hx' : ∃ k : Nat, x = .int k ∧ 0 < k ∧ k ≤ 7 := by
    have h3 : x = .int 3 ∨ x = .int 5 ∨ x = .int 7 := by simpa using hx
    rcases h3 with rfl | rfl | rfl
    · exact ⟨3, rfl, by decide, by decide⟩
    · exact ⟨5, rfl, by decide, by decide⟩
    · exact ⟨7, rfl, by decide, by decide⟩
  obtain ⟨k, rfl, k0, k7⟩ := hx'
  obtain ⟨r, b2, ht, ok2, r1⟩ := take_nat ok1 (many := k) k0 (by omega)
  have ha : addD (.int 1) (.int (r : Nat)) = some (.int ((1 + r : Nat) : Int)) := by
    show some (PyData.int (1 + (r : Int))) = _
    congr 2
  obtain ⟨F, A, B, b3, h3, ok3, fF, fA, fB⟩ := three_ok ok2 (n := 1 + r) (by omega) (by omega)
  have hroom := room_ok (1 + r) (by omega) (by omega)
  have i0 : ixX (tripD (F, A, B)) (.int 0) = some (flatD F) := ixX_t0 _ _
  have i1 : ixX (tripD (F, A, B)) (.int 1) = some (flatD A) := ixX_t1 _ _ _
  have i2 : ixX (tripD (F, A, B)) (.int 2) = some (flatD B) := ixX_t2 _ _ _ _
  have hrep : repT (.tuple [flatD F]) (.int 3) = some (.tuple [flatD F, flatD F, flatD F]) := by
    have h : ([flatD F] : List PyData) ≠ [] ∧ (2 : Int) ≤ 3 ∧ (3 : Int) ≤ 1000 ∧ [flatD F].length ≤ 1000 := ⟨by simp, by decide, by decide, by simp⟩
    simp only [repT]
    rw [if_pos h]
    rfl
  obtain ⟨t6, t7, t8, t9, t10, t11, kq⟩ := ask_ok (n := 1 + r) (by omega) (by omega) (ts := [(F, A, B), (F, B, A), (A, F, B), (F, F, F)]) (fun t ht => by
    have h4 : t = (F, A, B) ∨ t = (F, B, A) ∨ t = (A, F, B) ∨ t = (F, F, F) := by simpa using ht
    rcases h4 with rfl | rfl | rfl | rfl
    · exact ⟨fF, fA, fB⟩
    · exact ⟨fF, fB, fA⟩
    · exact ⟨fA, fF, fB⟩
    · exact ⟨fF, fF, fF⟩) (it := (iSeq (eN mkT (aC (eV 5) (aC (eN mkT (aC (e2 ixX (eV 5) (eC (.int 0))) (aC (e2 ixX (eV 5) (eC (.int 2))) (aC (e2 ixX (eV 5) (eC (.int 1))) aN)))) (aC (eN mkT (aC (e2 ixX (eV 5) (eC (.int 1))) (aC (e2 ixX (eV 5) (eC (.int 0))) (aC (e2 ixX (eV 5) (eC (.int 2))) aN)))) (aC (e2 repT (eN mkT (aC (e2 ixX (eV 5) (eC (.int 0))) aN)) (eC (.int 3))) aN))))))) (s0 := s0) (s1 := .o (bagV b3)) (s2 := s2) (s3 := .d (.int ((1 + r : Nat) : Int))) (s5 := .d (tripD (F, A, B))) (s6 := s6) (s7 := s7) (s8 := s8) (s9 := s9) (s10 := s10) (s11 := s11) (by
      show _ = some ([tripD (F, A, B), .tuple [flatD F, flatD B, flatD A], .tuple [flatD A, flatD F, flatD B], .tuple [flatD F, flatD F, flatD F]], _)
      generalize tripD (F, A, B) = o0 at *
      generalize flatD F = o1 at *
      generalize flatD A = o2 at *
      generalize flatD B = o3 at *
      generalize roomD (1 + r) = o4 at *
      generalize ((1 + r : Nat) : Int) = o5 at *
      simp [sQ, sIf, sN, qFz, qB, qAnd, qOr, qNot, qYes, e1, DL.e2, eV, eC, eN, eI, eIf, eAnd, eOr, eFz, eSl, oS, oN, aN, aC, aX, sAsg, sAsgO, sRet, sRetO, sRetN, sDrop, sSet, sSetX, sAugI, sMut, sPar, sPat, sParM, mN, mC, DL.setM, iSeq, iN, gN, gT, gC, gZ, outP, outF, outI, en0, stillE, Sl.still, Sl.own, Sl.put, p1, tupD, lstD, mkT, mkL, DL.e3, sl1, sl2, sl3, sl4, sl0, sl5, sl6, sl7, sl8, List.length_cons, List.length_nil, List.length_map, List.getElem?_cons_zero, List.getElem?_cons_succ, List.set_cons_zero, List.set_cons_succ, List.map_cons, List.map_nil, List.replicate, List.cons_append, List.nil_append, List.append_nil, Option.map_some, if_true, if_false, ite_true, ite_false, reduceIte, Nat.reduceAdd, Nat.reduceSub, Nat.reduceLeDiff, Nat.reduceEqDiff, Nat.sub_self, Nat.zero_add, Option.map_none, decide_true, decide_false, Bool.not_true, Bool.not_false, i0, i1, i2, hrep, seqOf])
  refine ⟨b3, .d (.int ((1 + r : Nat) : Int)), .d (roomD (1 + r)), .d (tripD (F, A, B)), t6, t7, t8, t9, t10, t11, ?_, ok3⟩
  rw [sQ_nx (ρ1 := [s0, .o (bagV b2), s2, .d (.int ((1 + r : Nat) : Int)), s4, s5, s6, s7, s8, s9, s10, s11]) (by
    generalize ((1 + r : Nat) : Int) = o5 at ha
    simp [sQ, sIf, sN, qFz, qB, qAnd, qOr, qNot, qYes, e1, DL.e2, eV, eC, eN, eI, eIf, eAnd, eOr, eFz, eSl, oS, oN, aN, aC, aX, sAsg, sAsgO, sRet, sRetO, sRetN, sDrop, sSet, sSetX, sAugI, sMut, sPar, sPat, sParM, mN, mC, DL.setM, iSeq, iN, gN, gT, gC, gZ, outP, outF, outI, en0, stillE, Sl.still, Sl.own, Sl.put, p1, tupD, lstD, mkT, mkL, DL.e3, sl1, sl2, sl3, sl4, sl0, sl5, sl6, sl7, sl8, List.length_cons, List.length_nil, List.length_map, List.getElem?_cons_zero, List.getElem?_cons_succ, List.set_cons_zero, List.set_cons_succ, List.map_cons, List.map_nil, List.replicate, List.cons_append, List.nil_append, List.append_nil, Option.map_some, if_true, if_false, ite_true, ite_false, reduceIte, Nat.reduceAdd, Nat.reduceSub, Nat.reduceLeDiff, Nat.reduceEqDiff, Nat.sub_self, Nat.zero_add, Option.map_none, decide_true, decide_false, Bool.not_true, Bool.not_false, hs, ht, ha])]
  rw [sQ_nx (ρ1 := [s0, .o (bagV b3), s2, .d (.int ((1 + r : Nat) : Int)), .d (roomD (1 + r)), .d (tripD (F, A, B)), s6, s7, s8, s9, s10, s11]) (by
    generalize tripD (F, A, B) = o0 at h3
    generalize roomD (1 + r) = o4 at hroom
    generalize ((1 + r : Nat) : Int) = o5 at *
    simp [sQ, sIf, sN, qFz, qB, qAnd, qOr, qNot, qYes, e1, DL.e2, eV, eC, eN, eI, eIf, eAnd, eOr, eFz, eSl, oS, oN, aN, aC, aX, sAsg, sAsgO, sRet, sRetO, sRetN, sDrop, sSet, sSetX, sAugI, sMut, sPar, sPat, sParM, mN, mC, DL.setM, iSeq, iN, gN, gT, gC, gZ, outP, outF, outI, en0, stillE, Sl.still, Sl.own, Sl.put, p1, tupD, lstD, mkT, mkL, DL.e3, sl1, sl2, sl3, sl4, sl0, sl5, sl6, sl7, sl8, List.length_cons, List.length_nil, List.length_map, List.getElem?_cons_zero, List.getElem?_cons_succ, List.set_cons_zero, List.set_cons_succ, List.map_cons, List.map_nil, List.replicate, List.cons_append, List.nil_append, List.append_nil, Option.map_some, if_true, if_false, ite_true, ite_false, reduceIte, Nat.reduceAdd, Nat.reduceSub, Nat.reduceLeDiff, Nat.reduceEqDiff, Nat.sub_self, Nat.zero_add, Option.map_none, decide_true, decide_false, Bool.not_true, Bool.not_false, hroom, h3])]
  exact kq
theorem law_true (ns : List Int) (h : ns.length ≤ 63) : ∃ ρ', b_law (DL.lawEn 12 1 ns) = some (.ret (.bool true) ρ') := by
  obtain ⟨b0, e0, hb0⟩ := bag0 ns h
  have he : DL.lawEn 12 1 ns = [.u, .o (bagV b0), .u, .u, .u, .u, .u, .u, .u, .u, .u, .u] := by rw [← e0]; rfl
  rw [he]
  obtain ⟨ρ', k1, _⟩ := sFor_T (fun u : Nat => PyData.int (u : Int)) (List.range 12) (it := (iN rng1 (aC (eC (.int 12)) aN))) (g := (gN 2)) (ψ := (sQ (sAsg 3 (e2 addD (eC (.int 1)) (eI m_law_take 1 (aC (eI m_law_some 1 (aC (eN mkL (aC (eC (.int 3)) (aC (eC (.int 5)) (aC (eC (.int 7)) aN)))) aN)) aN)))) (sQ (sPar 4 5 (aC (eN m_law_room (aC (eV 3) aN)) (aC (eI m_law_three_flats 1 (aC (eV 3) aN)) aN))) (sFor (iSeq (eN mkT (aC (eV 5) (aC (eN mkT (aC (e2 ixX (eV 5) (eC (.int 0))) (aC (e2 ixX (eV 5) (eC (.int 2))) (aC (e2 ixX (eV 5) (eC (.int 1))) aN)))) (aC (eN mkT (aC (e2 ixX (eV 5) (eC (.int 1))) (aC (e2 ixX (eV 5) (eC (.int 0))) (aC (e2 ixX (eV 5) (eC (.int 2))) aN)))) (aC (e2 repT (eN mkT (aC (e2 ixX (eV 5) (eC (.int 0))) aN)) (eC (.int 3))) aN)))))) (gT 3 (gC (gN 6) (gC (gN 7) (gC (gN 8) gZ)))) (sQ (sPar 9 10 (aC (eN m_law_cut_due (aC (eV 4) (aC (eV 6) (aC (eV 7) (aC (eV 8) aN))))) (aC (eN (p1 reprD) (aC (eN mkT (aC (eV 6) (aC (eV 7) (aC (eV 8) aN)))) aN)) aN))) (sQ (sAsg 11 (eN mkL (aC (eN m_cut_by (aC (eV 6) (aC (eV 7) (aC (eV 8) aN)))) (aC (eN m_lies_in_both (aC (eV 6) (aC (eV 7) (aC (eV 8) aN)))) aN)))) (sIf (qOr (qNot (qB (eN m_law_alike (aC (eV 11) (aC (eN mkL (aC (eV 9) (aC (e2 isNotN (eV 9) (eC .none)) aN))) aN))))) (qB (e2 neD (eN (p1 reprD) (aC (eN mkT (aC (eV 6) (aC (eV 7) (aC (eV 8) aN)))) aN)) (eV 10)))) (sRet (eC (.bool false))) sN))))))) (ρ := [.u, .o (bagV b0), .u, .u, .u, .u, .u, .u, .u, .u, .u, .u]) (ρ0 := [.u, .o (bagV b0), .u, .u, .u, .u, .u, .u, .u, .u, .u, .u])
    (by have h : rng1 [.int 12] = some ((List.range 12).map fun u : Nat => PyData.int (u : Int)) := rng_ok (n := 12) (by decide)
        generalize (List.range 12).map (fun u : Nat => PyData.int (u : Int)) = o1 at h
        simp [sQ, sIf, sN, qFz, qB, qAnd, qOr, qNot, qYes, e1, DL.e2, eV, eC, eN, eI, eIf, eAnd, eOr, eFz, eSl, oS, oN, aN, aC, aX, sAsg, sAsgO, sRet, sRetO, sRetN, sDrop, sSet, sSetX, sAugI, sMut, sPar, sPat, sParM, mN, mC, DL.setM, iSeq, iN, gN, gT, gC, gZ, outP, outF, outI, en0, stillE, Sl.still, Sl.own, Sl.put, p1, tupD, lstD, mkT, mkL, DL.e3, sl1, sl2, sl3, sl4, sl0, sl5, sl6, sl7, sl8, List.length_cons, List.length_nil, List.length_map, List.getElem?_cons_zero, List.getElem?_cons_succ, List.set_cons_zero, List.set_cons_succ, List.map_cons, List.map_nil, List.replicate, List.cons_append, List.nil_append, List.append_nil, Option.map_some, if_true, if_false, ite_true, ite_false, reduceIte, Nat.reduceAdd, Nat.reduceSub, Nat.reduceLeDiff, Nat.reduceEqDiff, Nat.sub_self, Nat.zero_add, Option.map_none, decide_true, decide_false, Bool.not_true, Bool.not_false, h])
    (fun done ρ => ∃ (b : Bag) (s2 s3 s4 s5 s6 s7 s8 s9 s10 s11 : Sl), ρ = [.u, .o (bagV b), s2, s3, s4, s5, s6, s7, s8, s9, s10, s11] ∧ BagOk b)
    ⟨b0, _, _, _, _, _, _, _, _, _, _, rfl, hb0⟩
    (fun done x rest ρ e ⟨b, s2, s3, s4, s5, s6, s7, s8, s9, s10, s11, e1, hb⟩ => by
      subst e1
      obtain ⟨b', t3, t4, t5, t6, t7, t8, t9, t10, t11, k, ok⟩ := turn_ok hb (s0 := .u) (s2 := .d (.int (x : Int))) (s3 := s3) (s4 := s4) (s5 := s5) (s6 := s6) (s7 := s7) (s8 := s8) (s9 := s9) (s10 := s10) (s11 := s11)
      exact ⟨_, _, rfl, k, b', _, _, _, _, _, _, _, _, _, _, rfl, ok⟩)
  exact ⟨ρ', by unfold b_law; rw [sQ_nx k1]; rfl⟩
end Lk14

set_option maxHeartbeats 4000000
noncomputable section
namespace Lk14
open PySem PySem.Spec PyProof.Rows L2 DL
def topS (i : Nat) : Stmt := PySem.Challenge.pw_eithersums_k14_two_flats_together.main.body.getD i (.Pass ⟨0, 0, 0, 0⟩)
abbrev s_plus : Stmt := topS 1
theorem sc_plus : FnScope ["one", "other", "at"] ["one", "other"] (defScope s_plus) := ⟨rfl, rfl, rfl, by decide +kernel, rfl, by decide +kernel, by decide +kernel⟩
abbrev s_together : Stmt := topS 2
theorem sc_together : FnScope ["sums", "found", "row"] ["sums"] (defScope s_together) := ⟨rfl, rfl, rfl, by decide +kernel, rfl, by decide +kernel, by decide +kernel⟩
abbrev s_led_by : Stmt := topS 4
theorem sc_led_by : FnScope ["flat", "row", "worth", "other", "bit"] ["flat", "row"] (defScope s_led_by) := ⟨rfl, rfl, rfl, by decide +kernel, rfl, by decide +kernel, by decide +kernel⟩
abbrev s_put_in : Stmt := topS 5
theorem sc_put_in : FnScope ["flat", "row", "bit", "worth", "found", "other", "its"] ["flat", "row", "bit"] (defScope s_put_in) := ⟨rfl, rfl, rfl, by decide +kernel, rfl, by decide +kernel, by decide +kernel⟩
abbrev s_reduced : Stmt := topS 6
theorem sc_reduced : FnScope ["flat", "row"] ["flat", "row"] (defScope s_reduced) := ⟨rfl, rfl, rfl, by decide +kernel, rfl, by decide +kernel, by decide +kernel⟩
abbrev s_told_on : Stmt := topS 7
theorem sc_told_on : FnScope ["flat", "row", "left", "worth"] ["flat", "row"] (defScope s_told_on) := ⟨rfl, rfl, rfl, by decide +kernel, rfl, by decide +kernel, by decide +kernel⟩
abbrev s_lies_in : Stmt := topS 8
theorem sc_lies_in : FnScope ["one", "other", "row", "bit"] ["one", "other"] (defScope s_lies_in) := ⟨rfl, rfl, rfl, by decide +kernel, rfl, by decide +kernel, by decide +kernel⟩
abbrev s_meet : Stmt := topS 9
theorem sc_meet : FnScope ["one", "other", "flat", "row", "bit"] ["one", "other"] (defScope s_meet) := ⟨rfl, rfl, rfl, by decide +kernel, rfl, by decide +kernel, by decide +kernel⟩
abbrev s_new_row : Stmt := topS 11
theorem sc_new_row : FnScope ["flat", "half", "row", "bit", "left"] ["flat", "half"] (defScope s_new_row) := ⟨rfl, rfl, rfl, by decide +kernel, rfl, by decide +kernel, by decide +kernel⟩
abbrev s_cut_by : Stmt := topS 12
theorem sc_cut_by : FnScope ["flat", "one", "other", "first", "second", "row", "worth"] ["flat", "one", "other"] (defScope s_cut_by) := ⟨rfl, rfl, rfl, by decide +kernel, rfl, by decide +kernel, by decide +kernel⟩
abbrev s_lies_in_both : Stmt := topS 13
theorem sc_lies_in_both : FnScope ["flat", "one", "other"] ["flat", "one", "other"] (defScope s_lies_in_both) := ⟨rfl, rfl, rfl, by decide +kernel, rfl, by decide +kernel, by decide +kernel⟩
abbrev s_law_bag : Stmt := topS 15
theorem sc_law_bag : FnScope ["script", "cell"] ["script"] (defScope s_law_bag) := ⟨rfl, rfl, rfl, by decide +kernel, rfl, by decide +kernel, by decide +kernel⟩
abbrev s_law_take : Stmt := topS 16
theorem sc_law_take : FnScope ["bag", "many", "cell", "stirred", "value", "begin", "second"] ["bag", "many"] (defScope s_law_take) := ⟨rfl, rfl, rfl, by decide +kernel, rfl, by decide +kernel, by decide +kernel⟩
abbrev s_law_some : Stmt := topS 17
theorem sc_law_some : FnScope ["bag", "things"] ["bag", "things"] (defScope s_law_some) := ⟨rfl, rfl, rfl, by decide +kernel, rfl, by decide +kernel, by decide +kernel⟩
abbrev s_law_alike : Stmt := topS 18
theorem sc_law_alike : FnScope ["found", "due"] ["found", "due"] (defScope s_law_alike) := ⟨rfl, rfl, rfl, by decide +kernel, rfl, by decide +kernel, by decide +kernel⟩
abbrev s_law_mask : Stmt := topS 19
theorem sc_law_mask : FnScope ["row", "found", "unknown"] ["row"] (defScope s_law_mask) := ⟨rfl, rfl, rfl, by decide +kernel, rfl, by decide +kernel, by decide +kernel⟩
abbrev s_law_row : Stmt := topS 20
theorem sc_law_row : FnScope ["mask", "unknown"] ["mask"] (defScope s_law_row) := ⟨rfl, rfl, rfl, by decide +kernel, rfl, by decide +kernel, by decide +kernel⟩
abbrev s_law_worth : Stmt := topS 21
theorem sc_law_worth : FnScope ["row", "bits", "unknown"] ["row", "bits"] (defScope s_law_worth) := ⟨rfl, rfl, rfl, by decide +kernel, rfl, by decide +kernel, by decide +kernel⟩
abbrev s_law_room : Stmt := topS 22
theorem sc_law_room : FnScope ["many", "whole", "columns", "unknown", "side", "block", "found", "at"] ["many"] (defScope s_law_room) := ⟨rfl, rfl, rfl, by decide +kernel, rfl, by decide +kernel, by decide +kernel⟩
abbrev s_law_held : Stmt := topS 23
theorem sc_law_held : FnScope ["room", "line", "found", "unknown"] ["room", "line"] (defScope s_law_held) := ⟨rfl, rfl, rfl, by decide +kernel, rfl, by decide +kernel, by decide +kernel⟩
abbrev s_law_in : Stmt := topS 24
theorem sc_law_in : FnScope ["room", "flat", "found", "line"] ["room", "flat"] (defScope s_law_in) := ⟨rfl, rfl, rfl, by decide +kernel, rfl, by decide +kernel, by decide +kernel⟩
abbrev s_law_flat_of : Stmt := topS 25
theorem sc_law_flat_of : FnScope ["lines", "heads", "row", "bit", "mask", "head", "at"] ["lines"] (defScope s_law_flat_of) := ⟨rfl, rfl, rfl, by decide +kernel, rfl, by decide +kernel, by decide +kernel⟩
abbrev s_law_told : Stmt := topS 26
theorem sc_law_told : FnScope ["flat", "row", "mask", "found", "line"] ["flat", "row"] (defScope s_law_told) := ⟨rfl, rfl, rfl, by decide +kernel, rfl, by decide +kernel, by decide +kernel⟩
abbrev s_law_halves : Stmt := topS 27
theorem sc_law_halves : FnScope ["flat", "row", "bit"] ["flat", "row"] (defScope s_law_halves) := ⟨rfl, rfl, rfl, by decide +kernel, rfl, by decide +kernel, by decide +kernel⟩
abbrev s_law_any_row : Stmt := topS 28
theorem sc_law_any_row : FnScope ["bag", "many", "mask", "turn"] ["bag", "many"] (defScope s_law_any_row) := ⟨rfl, rfl, rfl, by decide +kernel, rfl, by decide +kernel, by decide +kernel⟩
abbrev s_law_drawn_flat : Stmt := topS 29
theorem sc_law_drawn_flat : FnScope ["bag", "many", "most", "bits", "lines", "turn", "row", "unknown"] ["bag", "many", "most"] (defScope s_law_drawn_flat) := ⟨rfl, rfl, rfl, by decide +kernel, rfl, by decide +kernel, by decide +kernel⟩
abbrev s_law_new_row : Stmt := topS 30
theorem sc_law_new_row : FnScope ["bag", "many", "flat", "turn", "row", "heads", "line", "unknown"] ["bag", "many", "flat"] (defScope s_law_new_row) := ⟨rfl, rfl, rfl, by decide +kernel, rfl, by decide +kernel, by decide +kernel⟩
abbrev s_law_wider : Stmt := topS 31
theorem sc_law_wider : FnScope ["bag", "flat", "line"] ["bag", "flat"] (defScope s_law_wider) := ⟨rfl, rfl, rfl, by decide +kernel, rfl, by decide +kernel, by decide +kernel⟩
abbrev s_law_rows_beside : Stmt := topS 32
theorem sc_law_rows_beside : FnScope ["many", "flat", "free", "masks", "unknown", "mask", "line"] ["many", "flat"] (defScope s_law_rows_beside) := ⟨rfl, rfl, rfl, by decide +kernel, rfl, by decide +kernel, by decide +kernel⟩
abbrev s_law_cut_due : Stmt := topS 33
theorem sc_law_cut_due : FnScope ["room", "flat", "one", "other", "here", "mine", "its", "found", "row", "halves", "ways", "bit", "a", "b"] ["room", "flat", "one", "other"] (defScope s_law_cut_due) := ⟨rfl, rfl, rfl, by decide +kernel, rfl, by decide +kernel, by decide +kernel⟩
abbrev s_law_three_flats : Stmt := topS 34
theorem sc_law_three_flats : FnScope ["bag", "many", "flat", "way", "one", "other"] ["bag", "many"] (defScope s_law_three_flats) := ⟨rfl, rfl, rfl, by decide +kernel, rfl, by decide +kernel, by decide +kernel⟩
abbrev s_law : Stmt := topS 35
theorem sc_law : FnScope ["script", "bag", "turn", "many", "room", "flats", "flat", "one", "other", "due", "said", "found"] ["script"] (defScope s_law) := ⟨rfl, rfl, rfl, by decide +kernel, rfl, by decide +kernel, by decide +kernel⟩
structure Tx (K : PySem.W.Frag) (mg : Str → Option Value) where
  a_plus : Addr
  d_plus : FuncData
  F_plus : Fun K "plus" "plus" s_plus a_plus d_plus
  g_plus : mg "plus" = some (.ref a_plus)
  B_plus : Binds K d_plus ["one", "other"] []
  a_together : Addr
  d_together : FuncData
  F_together : Fun K "together" "together" s_together a_together d_together
  g_together : mg "together" = some (.ref a_together)
  B_together : Binds K d_together ["sums"] []
  a_led_by : Addr
  d_led_by : FuncData
  F_led_by : Fun K "led_by" "led_by" s_led_by a_led_by d_led_by
  g_led_by : mg "led_by" = some (.ref a_led_by)
  B_led_by : Binds K d_led_by ["flat", "row"] []
  a_put_in : Addr
  d_put_in : FuncData
  F_put_in : Fun K "put_in" "put_in" s_put_in a_put_in d_put_in
  g_put_in : mg "put_in" = some (.ref a_put_in)
  B_put_in : Binds K d_put_in ["flat", "row", "bit"] []
  a_reduced : Addr
  d_reduced : FuncData
  F_reduced : Fun K "reduced" "reduced" s_reduced a_reduced d_reduced
  g_reduced : mg "reduced" = some (.ref a_reduced)
  B_reduced : Binds K d_reduced ["flat", "row"] []
  a_told_on : Addr
  d_told_on : FuncData
  F_told_on : Fun K "told_on" "told_on" s_told_on a_told_on d_told_on
  g_told_on : mg "told_on" = some (.ref a_told_on)
  B_told_on : Binds K d_told_on ["flat", "row"] []
  a_lies_in : Addr
  d_lies_in : FuncData
  F_lies_in : Fun K "lies_in" "lies_in" s_lies_in a_lies_in d_lies_in
  g_lies_in : mg "lies_in" = some (.ref a_lies_in)
  B_lies_in : Binds K d_lies_in ["one", "other"] []
  a_meet : Addr
  d_meet : FuncData
  F_meet : Fun K "meet" "meet" s_meet a_meet d_meet
  g_meet : mg "meet" = some (.ref a_meet)
  B_meet : Binds K d_meet ["one", "other"] []
  a_new_row : Addr
  d_new_row : FuncData
  F_new_row : Fun K "new_row" "new_row" s_new_row a_new_row d_new_row
  g_new_row : mg "new_row" = some (.ref a_new_row)
  B_new_row : Binds K d_new_row ["flat", "half"] []
  a_cut_by : Addr
  d_cut_by : FuncData
  F_cut_by : Fun K "cut_by" "cut_by" s_cut_by a_cut_by d_cut_by
  g_cut_by : mg "cut_by" = some (.ref a_cut_by)
  B_cut_by : Binds K d_cut_by ["flat", "one", "other"] []
  a_lies_in_both : Addr
  d_lies_in_both : FuncData
  F_lies_in_both : Fun K "lies_in_both" "lies_in_both" s_lies_in_both a_lies_in_both d_lies_in_both
  g_lies_in_both : mg "lies_in_both" = some (.ref a_lies_in_both)
  B_lies_in_both : Binds K d_lies_in_both ["flat", "one", "other"] []
  a_law_bag : Addr
  d_law_bag : FuncData
  F_law_bag : Fun K "_law_bag" "_law_bag" s_law_bag a_law_bag d_law_bag
  g_law_bag : mg "_law_bag" = some (.ref a_law_bag)
  B_law_bag : Binds K d_law_bag ["script"] []
  a_law_take : Addr
  d_law_take : FuncData
  F_law_take : Fun K "_law_take" "_law_take" s_law_take a_law_take d_law_take
  g_law_take : mg "_law_take" = some (.ref a_law_take)
  B_law_take : Binds K d_law_take ["bag", "many"] []
  a_law_some : Addr
  d_law_some : FuncData
  F_law_some : Fun K "_law_some" "_law_some" s_law_some a_law_some d_law_some
  g_law_some : mg "_law_some" = some (.ref a_law_some)
  B_law_some : Binds K d_law_some ["bag", "things"] []
  a_law_alike : Addr
  d_law_alike : FuncData
  F_law_alike : Fun K "_law_alike" "_law_alike" s_law_alike a_law_alike d_law_alike
  g_law_alike : mg "_law_alike" = some (.ref a_law_alike)
  B_law_alike : Binds K d_law_alike ["found", "due"] []
  a_law_mask : Addr
  d_law_mask : FuncData
  F_law_mask : Fun K "_law_mask" "_law_mask" s_law_mask a_law_mask d_law_mask
  g_law_mask : mg "_law_mask" = some (.ref a_law_mask)
  B_law_mask : Binds K d_law_mask ["row"] []
  a_law_row : Addr
  d_law_row : FuncData
  F_law_row : Fun K "_law_row" "_law_row" s_law_row a_law_row d_law_row
  g_law_row : mg "_law_row" = some (.ref a_law_row)
  B_law_row : Binds K d_law_row ["mask"] []
  a_law_worth : Addr
  d_law_worth : FuncData
  F_law_worth : Fun K "_law_worth" "_law_worth" s_law_worth a_law_worth d_law_worth
  g_law_worth : mg "_law_worth" = some (.ref a_law_worth)
  B_law_worth : Binds K d_law_worth ["row", "bits"] []
  a_law_room : Addr
  d_law_room : FuncData
  F_law_room : Fun K "_law_room" "_law_room" s_law_room a_law_room d_law_room
  g_law_room : mg "_law_room" = some (.ref a_law_room)
  B_law_room : Binds K d_law_room ["many"] []
  a_law_held : Addr
  d_law_held : FuncData
  F_law_held : Fun K "_law_held" "_law_held" s_law_held a_law_held d_law_held
  g_law_held : mg "_law_held" = some (.ref a_law_held)
  B_law_held : Binds K d_law_held ["room", "line"] []
  a_law_in : Addr
  d_law_in : FuncData
  F_law_in : Fun K "_law_in" "_law_in" s_law_in a_law_in d_law_in
  g_law_in : mg "_law_in" = some (.ref a_law_in)
  B_law_in : Binds K d_law_in ["room", "flat"] []
  a_law_flat_of : Addr
  d_law_flat_of : FuncData
  F_law_flat_of : Fun K "_law_flat_of" "_law_flat_of" s_law_flat_of a_law_flat_of d_law_flat_of
  g_law_flat_of : mg "_law_flat_of" = some (.ref a_law_flat_of)
  B_law_flat_of : Binds K d_law_flat_of ["lines"] []
  a_law_told : Addr
  d_law_told : FuncData
  F_law_told : Fun K "_law_told" "_law_told" s_law_told a_law_told d_law_told
  g_law_told : mg "_law_told" = some (.ref a_law_told)
  B_law_told : Binds K d_law_told ["flat", "row"] []
  a_law_halves : Addr
  d_law_halves : FuncData
  F_law_halves : Fun K "_law_halves" "_law_halves" s_law_halves a_law_halves d_law_halves
  g_law_halves : mg "_law_halves" = some (.ref a_law_halves)
  B_law_halves : Binds K d_law_halves ["flat", "row"] []
  a_law_any_row : Addr
  d_law_any_row : FuncData
  F_law_any_row : Fun K "_law_any_row" "_law_any_row" s_law_any_row a_law_any_row d_law_any_row
  g_law_any_row : mg "_law_any_row" = some (.ref a_law_any_row)
  B_law_any_row : Binds K d_law_any_row ["bag", "many"] []
  a_law_drawn_flat : Addr
  d_law_drawn_flat : FuncData
  F_law_drawn_flat : Fun K "_law_drawn_flat" "_law_drawn_flat" s_law_drawn_flat a_law_drawn_flat d_law_drawn_flat
  g_law_drawn_flat : mg "_law_drawn_flat" = some (.ref a_law_drawn_flat)
  B_law_drawn_flat : Binds K d_law_drawn_flat ["bag", "many", "most"] []
  a_law_new_row : Addr
  d_law_new_row : FuncData
  F_law_new_row : Fun K "_law_new_row" "_law_new_row" s_law_new_row a_law_new_row d_law_new_row
  g_law_new_row : mg "_law_new_row" = some (.ref a_law_new_row)
  B_law_new_row : Binds K d_law_new_row ["bag", "many", "flat"] []
  a_law_wider : Addr
  d_law_wider : FuncData
  F_law_wider : Fun K "_law_wider" "_law_wider" s_law_wider a_law_wider d_law_wider
  g_law_wider : mg "_law_wider" = some (.ref a_law_wider)
  B_law_wider : Binds K d_law_wider ["bag", "flat"] []
  a_law_rows_beside : Addr
  d_law_rows_beside : FuncData
  F_law_rows_beside : Fun K "_law_rows_beside" "_law_rows_beside" s_law_rows_beside a_law_rows_beside d_law_rows_beside
  g_law_rows_beside : mg "_law_rows_beside" = some (.ref a_law_rows_beside)
  B_law_rows_beside : Binds K d_law_rows_beside ["many", "flat"] []
  a_law_cut_due : Addr
  d_law_cut_due : FuncData
  F_law_cut_due : Fun K "_law_cut_due" "_law_cut_due" s_law_cut_due a_law_cut_due d_law_cut_due
  g_law_cut_due : mg "_law_cut_due" = some (.ref a_law_cut_due)
  B_law_cut_due : Binds K d_law_cut_due ["room", "flat", "one", "other"] []
  a_law_three_flats : Addr
  d_law_three_flats : FuncData
  F_law_three_flats : Fun K "_law_three_flats" "_law_three_flats" s_law_three_flats a_law_three_flats d_law_three_flats
  g_law_three_flats : mg "_law_three_flats" = some (.ref a_law_three_flats)
  B_law_three_flats : Binds K d_law_three_flats ["bag", "many"] []
  a_law : Addr
  d_law : FuncData
  F_law : Fun K "law" "law" s_law a_law d_law
  g_law : mg "law" = some (.ref a_law)
  B_law : Binds K d_law ["script"] []
  z_abs : mg "abs" = none
  z_all : mg "all" = none
  z_int : mg "int" = none
  z_len : mg "len" = none
  z_list : mg "list" = none
  z_range : mg "range" = none
  z_repr : mg "repr" = none
  z_sorted : mg "sorted" = none
  z_sum : mg "sum" = none
  z_tuple : mg "tuple" = none
section
variable {P : Program} {w : World} {K : PySem.W.Frag} {mg : Str → Option Value} {base : Heap}
theorem ok_plus (T : Tx K mg) : FnG P w K mg base 1 T.a_plus T.d_plus ["one", "other"] (SpP K m_plus) :=
  fnP T.F_plus sc_plus (by decide) fun cdv A outer s H E hr hg => (rs_one (r_ret (r_cb (pe_callTy call_tuple_of (by rfl) T.z_tuple (by decide +kernel) (ra_cons (r_fz (r_cbF (pe_callB (cr_sortAll rfl (room64 hr)) (by rfl) T.z_sorted (by decide +kernel) (ra_cons (r_bin o_add p_add (r_fz (r_lc (own := [("at", 2)]) rfl sc_plus.nd (ri_seq (r_var (pv 0))) (blkOk_by (N := ["one", "other", "at"]) (sc := defScope s_plus) (by decide +kernel)) (fun _ _ _ _ _ => (rg_name (pg_name (i := 2) sc_plus.nd rfl (.inl rfl)) (by decide))) (fun _ _ _ _ _ => (rt_one (r_tninY (room65 hr) (r_var (pv 2)) (r_var (pv 1))))) (fun _ _ _ _ _ => (r_var (pv 2))))) (r_fz (r_lc (own := [("at", 2)]) rfl sc_plus.nd (ri_seq (r_var (pv 1))) (blkOk_by (N := ["one", "other", "at"]) (sc := defScope s_plus) (by decide +kernel)) (fun _ _ _ _ _ => (rg_name (pg_name (i := 2) sc_plus.nd rfl (.inl rfl)) (by decide))) (fun _ _ _ _ _ => (rt_one (r_tninY (room65 hr) (r_var (pv 2)) (r_var (pv 0))))) (fun _ _ _ _ _ => (r_var (pv 2)))))) ra_nil)) b_sortX)) ra_nil)) b_tuple)))
theorem ok_together (T : Tx K mg) : FnG P w K mg base 2 T.a_together T.d_together ["sums"] (SpP K m_together) :=
  fnP T.F_together sc_together (by decide) fun cdv A outer s H E hr hg => (rs_cons (r_asg (ps_set (i := 1) sc_together.nd rfl (.inl rfl) (r_tup ra_nil)))
      (rs_cons (r_for (vs := [2]) PassesOwn.never rfl (ri_seq (r_var (pv 0))) (rg_name (pg_name (i := 2) sc_together.nd rfl (.inl rfl)) (by decide))
      (rs_one (r_asg (ps_set (i := 1) sc_together.nd rfl (.inl rfl) (r_callP (pe_callG (ok_plus T) (hr.mono (by omega)) hg (by rfl) T.g_plus T.F_plus.kp T.B_plus (ra_cons (r_var (pv 1)) (ra_cons (r_var (pv 2)) ra_nil))))))))
      (rs_one (r_ret (r_var (pv 1))))))
theorem ok_led_by (T : Tx K mg) : FnG P w K mg base 3 T.a_led_by T.d_led_by ["flat", "row"] (SpP K m_led_by) :=
  fnP T.F_led_by sc_led_by (by decide) fun cdv A outer s H E hr hg => (rs_cons (r_asg (ps_set (i := 2) sc_led_by.nd rfl (.inl rfl) (r_int pe_int)))
      (rs_cons (r_for (vs := [3, 4]) PassesOwn.never rfl (ri_seq (r_var (pv 0))) (rg_tup (pg_tup rfl (rg_cons (rg_name (pg_name (i := 3) sc_led_by.nd rfl (.inl rfl)) (by decide)) (rg_cons (rg_name (pg_name (i := 4) sc_led_by.nd rfl (.inl rfl)) (by decide)) rg_nil))))
      (rs_one (r_ifS (r_tinY (room65 hr) (r_ixY (room1 hr) (r_var (pv 3)) (r_int pe_int)) (r_var (pv 1))) (rs_one (r_par (ps_par rfl sc_led_by.nd rfl rfl (by decide) rfl rfl (ra_cons (r_callP (pe_callG (ok_together T) (hr.mono (by omega)) hg (by rfl) T.g_together T.F_together.kp T.B_together (ra_cons (r_fz (r_lst (ra_cons (r_var (pv 1)) (ra_cons (r_var (pv 3)) ra_nil)))) ra_nil))) (ra_cons (r_bin op_modN p_mod (r_bin o_add p_add (r_var (pv 2)) (r_var (pv 4))) (r_int pe_int)) ra_nil)) (by rfl)))) rs_nil)))
      (rs_one (r_ret (r_tup (ra_cons (r_var (pv 1)) (ra_cons (r_var (pv 2)) ra_nil)))))))
theorem ok_put_in (T : Tx K mg) : FnG P w K mg base 4 T.a_put_in T.d_put_in ["flat", "row", "bit"] (SpP K m_put_in) :=
  fnP T.F_put_in sc_put_in (by decide) fun cdv A outer s H E hr hg => (rs_cons (r_pat (vs := [1, 3]) (ps_asg (r_callP (pe_callG (ok_led_by T) (hr.mono (by omega)) hg (by rfl) T.g_led_by T.F_led_by.kp T.B_led_by (ra_cons (r_var (pv 0)) (ra_cons (r_var (pv 1)) ra_nil)))) (rg_tup (pg_tup rfl (rg_cons (rg_name (pg_name (i := 1) sc_put_in.nd rfl (.inl rfl)) (by decide)) (rg_cons (rg_name (pg_name (i := 3) sc_put_in.nd rfl (.inl rfl)) (by decide)) rg_nil))))))
      (rs_cons (r_asg (ps_set (i := 2) sc_put_in.nd rfl (.inl rfl) (r_bin op_modN p_mod (r_bin o_add p_add (r_var (pv 2)) (r_var (pv 3))) (r_int pe_int))))
      (rs_cons (r_ifS (r_tcmp (op_eqX hr.units) p_eq (r_var (pv 1)) (r_tup ra_nil) (nomark _)) (rs_one (r_ret (r_if (r_tcmp (op_eqX hr.units) p_eq (r_var (pv 2)) (r_int pe_int) (nomark _)) (r_var (pv 0)) (r_non pe_non)))) rs_nil)
      (rs_cons (r_asgO (ps_set (i := 4) sc_put_in.nd rfl (.inl rfl) (r_lst (ra_cons (r_tup (ra_cons (r_var (pv 1)) (ra_cons (r_var (pv 2)) ra_nil))) ra_nil))))
      (rs_cons (r_for (vs := [5, 6]) PassesOwn.never rfl (ri_seq (r_var (pv 0))) (rg_tup (pg_tup rfl (rg_cons (rg_name (pg_name (i := 5) sc_put_in.nd rfl (.inl rfl)) (by decide)) (rg_cons (rg_name (pg_name (i := 6) sc_put_in.nd rfl (.inl rfl)) (by decide)) rg_nil))))
      (rs_cons (r_ifS (r_tinY (room65 hr) (r_ixY (room1 hr) (r_var (pv 1)) (r_int pe_int)) (r_var (pv 5))) (rs_one (r_par (ps_par rfl sc_put_in.nd rfl rfl (by decide) rfl rfl (ra_cons (r_callP (pe_callG (ok_together T) (hr.mono (by omega)) hg (by rfl) T.g_together T.F_together.kp T.B_together (ra_cons (r_fz (r_lst (ra_cons (r_var (pv 5)) (ra_cons (r_var (pv 1)) ra_nil)))) ra_nil))) (ra_cons (r_bin op_modN p_mod (r_bin o_add p_add (r_var (pv 6)) (r_var (pv 2))) (r_int pe_int)) ra_nil)) (by rfl)))) rs_nil)
      (rs_one (r_mut (ps_expr (pe_bm PySem.F.plainAttrs_list PySem.F.slot_list_append PySem.F.type_list_append mt_append (pv 4) (ra_cons (r_tup (ra_cons (r_var (pv 5)) (ra_cons (r_var (pv 6)) ra_nil))) ra_nil))) m_app))))
      (rs_one (r_ret (r_sfz (r_cb (pe_callTy call_tuple_of (by rfl) T.z_tuple (by decide +kernel) (ra_cons (r_fz (r_cbF (pe_callB (cr_sortAll rfl (room64 hr)) (by rfl) T.z_sorted (by decide +kernel) (ra_cons (r_var (pv 4)) ra_nil)) b_sortX)) ra_nil)) b_tuple) (pu_N (pu_aC (pu_N (pu_aC pu_V pu_aN)) pu_aN))))))))))
theorem ok_reduced (T : Tx K mg) : FnG P w K mg base 4 T.a_reduced T.d_reduced ["flat", "row"] (SpP K m_reduced) :=
  fnP T.F_reduced sc_reduced (by decide) fun cdv A outer s H E hr hg => (rs_one (r_ret (r_ixY (room1 hr) (r_callP (pe_callG (ok_led_by T) (hr.mono (by omega)) hg (by rfl) T.g_led_by T.F_led_by.kp T.B_led_by (ra_cons (r_var (pv 0)) (ra_cons (r_var (pv 1)) ra_nil)))) (r_int pe_int))))
theorem ok_told_on (T : Tx K mg) : FnG P w K mg base 4 T.a_told_on T.d_told_on ["flat", "row"] (SpP K m_told_on) :=
  fnP T.F_told_on sc_told_on (by decide) fun cdv A outer s H E hr hg => (rs_cons (r_pat (vs := [2, 3]) (ps_asg (r_callP (pe_callG (ok_led_by T) (hr.mono (by omega)) hg (by rfl) T.g_led_by T.F_led_by.kp T.B_led_by (ra_cons (r_var (pv 0)) (ra_cons (r_var (pv 1)) ra_nil)))) (rg_tup (pg_tup rfl (rg_cons (rg_name (pg_name (i := 2) sc_told_on.nd rfl (.inl rfl)) (by decide)) (rg_cons (rg_name (pg_name (i := 3) sc_told_on.nd rfl (.inl rfl)) (by decide)) rg_nil))))))
      (rs_one (r_ret (r_if (r_tcmp (op_eqX hr.units) p_eq (r_var (pv 2)) (r_tup ra_nil) (nomark _)) (r_var (pv 3)) (r_non pe_non)))))
theorem ok_lies_in (T : Tx K mg) : FnG P w K mg base 5 T.a_lies_in T.d_lies_in ["one", "other"] (SpP K m_lies_in) :=
  fnP T.F_lies_in sc_lies_in (by decide) fun cdv A outer s H E hr hg => (rs_one (r_ret (r_cb (pe_callB (cr_all rfl) (by rfl) T.z_all (by decide +kernel) (ra_cons (r_fz (r_lc (own := [("row", 2), ("bit", 3)]) rfl sc_lies_in.nd (ri_seq (r_var (pv 1))) (blkOk_by (N := ["one", "other", "row", "bit"]) (sc := defScope s_lies_in) (by decide +kernel)) (fun _ _ _ _ _ => (rg_tup (pg_tup rfl (rg_cons (rg_name (pg_name (i := 2) sc_lies_in.nd rfl (.inl rfl)) (by decide)) (rg_cons (rg_name (pg_name (i := 3) sc_lies_in.nd rfl (.inl rfl)) (by decide)) rg_nil))))) (fun _ _ _ _ _ => rt_nil) (fun _ _ _ _ _ => (r_cmp (op_eqX hr.units) p_eq (r_callP (pe_callG (ok_told_on T) (hr.mono (by omega)) hg (by rfl) T.g_told_on T.F_told_on.kp T.B_told_on (ra_cons (r_var (pv 0)) (ra_cons (r_var (pv 2)) ra_nil)))) (r_var (pv 3)) (nomark _))))) ra_nil)) b_all)))
theorem ok_meet (T : Tx K mg) : FnG P w K mg base 5 T.a_meet T.d_meet ["one", "other"] (SpP K m_meet) :=
  fnP T.F_meet sc_meet (by decide) fun cdv A outer s H E hr hg => (rs_cons (r_asg (ps_set (i := 2) sc_meet.nd rfl (.inl rfl) (r_var (pv 0))))
      (rs_cons (r_for (vs := [3, 4]) PassesOwn.never rfl (ri_seq (r_var (pv 1))) (rg_tup (pg_tup rfl (rg_cons (rg_name (pg_name (i := 3) sc_meet.nd rfl (.inl rfl)) (by decide)) (rg_cons (rg_name (pg_name (i := 4) sc_meet.nd rfl (.inl rfl)) (by decide)) rg_nil))))
      (rs_cons (r_asg (ps_set (i := 2) sc_meet.nd rfl (.inl rfl) (r_callP (pe_callG (ok_put_in T) (hr.mono (by omega)) hg (by rfl) T.g_put_in T.F_put_in.kp T.B_put_in (ra_cons (r_var (pv 2)) (ra_cons (r_var (pv 3)) (ra_cons (r_var (pv 4)) ra_nil)))))))
      (rs_one (r_ifS (r_tcmp op_isN p_isN (r_var (pv 2)) (r_non pe_non) (nomark _)) (rs_one (r_ret (r_non pe_non))) rs_nil))))
      (rs_one (r_ret (r_var (pv 2))))))
theorem ok_new_row (T : Tx K mg) : FnG P w K mg base 5 T.a_new_row T.d_new_row ["flat", "half"] (SpP K m_new_row) :=
  fnP T.F_new_row sc_new_row (by decide) fun cdv A outer s H E hr hg => (rs_cons (r_for (vs := [2, 3]) PassesOwn.never rfl (ri_seq (r_var (pv 1))) (rg_tup (pg_tup rfl (rg_cons (rg_name (pg_name (i := 2) sc_new_row.nd rfl (.inl rfl)) (by decide)) (rg_cons (rg_name (pg_name (i := 3) sc_new_row.nd rfl (.inl rfl)) (by decide)) rg_nil))))
      (rs_cons (r_asg (ps_set (i := 4) sc_new_row.nd rfl (.inl rfl) (r_callP (pe_callG (ok_reduced T) (hr.mono (by omega)) hg (by rfl) T.g_reduced T.F_reduced.kp T.B_reduced (ra_cons (r_var (pv 0)) (ra_cons (r_var (pv 2)) ra_nil))))))
      (rs_one (r_ifS (r_tcmp (op_neX hr.units) p_ne (r_var (pv 4)) (r_tup ra_nil) (nomark _)) (rs_one (r_ret (r_var (pv 4)))) rs_nil))))
      (rs_one (r_ret (r_tup ra_nil))))
theorem ok_cut_by (T : Tx K mg) : FnG P w K mg base 6 T.a_cut_by T.d_cut_by ["flat", "one", "other"] (SpP K m_cut_by) :=
  fnP T.F_cut_by sc_cut_by (by decide) fun cdv A outer s H E hr hg => (rs_cons (r_ifS (PW.pt (rw_or (r_tval (r_callP (pe_callG (ok_lies_in T) (hr.mono (by omega)) hg (by rfl) T.g_lies_in T.F_lies_in.kp T.B_lies_in (ra_cons (r_var (pv 0)) (ra_cons (r_var (pv 1)) ra_nil))))) (rw_or1 (r_tval (r_callP (pe_callG (ok_lies_in T) (hr.mono (by omega)) hg (by rfl) T.g_lies_in T.F_lies_in.kp T.B_lies_in (ra_cons (r_var (pv 0)) (ra_cons (r_var (pv 2)) ra_nil)))))))) (rs_one (r_ret (r_tup ra_nil))) rs_nil)
      (rs_cons (r_par (ps_par rfl sc_cut_by.nd rfl rfl (by decide) rfl rfl (ra_cons (r_callP (pe_callG (ok_meet T) (hr.mono (by omega)) hg (by rfl) T.g_meet T.F_meet.kp T.B_meet (ra_cons (r_var (pv 0)) (ra_cons (r_var (pv 1)) ra_nil)))) (ra_cons (r_callP (pe_callG (ok_meet T) (hr.mono (by omega)) hg (by rfl) T.g_meet T.F_meet.kp T.B_meet (ra_cons (r_var (pv 0)) (ra_cons (r_var (pv 2)) ra_nil)))) ra_nil)) (by rfl)))
      (rs_cons (r_ifS (PW.pt (rw_or (r_tcmp op_isN p_isN (r_var (pv 3)) (r_non pe_non) (nomark _)) (rw_or (r_tcmp op_isN p_isN (r_var (pv 4)) (r_non pe_non) (nomark _)) (rw_or (r_tcmp (op_neX hr.units) p_ne (r_cb (pe_callB call_lenX (by rfl) T.z_len (by decide +kernel) (ra_cons (r_var (pv 3)) ra_nil)) b_lenX) (r_bin o_add p_add (r_cb (pe_callB call_lenX (by rfl) T.z_len (by decide +kernel) (ra_cons (r_var (pv 0)) ra_nil)) b_lenX) (r_int pe_int)) (nomark _)) (rw_or1 (r_tcmp (op_neX hr.units) p_ne (r_cb (pe_callB call_lenX (by rfl) T.z_len (by decide +kernel) (ra_cons (r_var (pv 4)) ra_nil)) b_lenX) (r_bin o_add p_add (r_cb (pe_callB call_lenX (by rfl) T.z_len (by decide +kernel) (ra_cons (r_var (pv 0)) ra_nil)) b_lenX) (r_int pe_int)) (nomark _))))))) (rs_one (r_ret (r_non pe_non))) rs_nil)
      (rs_cons (r_asg (ps_set (i := 5) sc_cut_by.nd rfl (.inl rfl) (r_callP (pe_callG (ok_new_row T) (hr.mono (by omega)) hg (by rfl) T.g_new_row T.F_new_row.kp T.B_new_row (ra_cons (r_var (pv 0)) (ra_cons (r_var (pv 3)) ra_nil))))))
      (rs_cons (r_asg (ps_set (i := 6) sc_cut_by.nd rfl (.inl rfl) (r_callP (pe_callG (ok_told_on T) (hr.mono (by omega)) hg (by rfl) T.g_told_on T.F_told_on.kp T.B_told_on (ra_cons (r_var (pv 4)) (ra_cons (r_var (pv 5)) ra_nil))))))
      (rs_one (r_ret (r_if (PW.pt (rw_and (r_tcmp op_notN p_isNotN (r_var (pv 6)) (r_non pe_non) (nomark _)) (rw_and1 (r_tcmp (op_neX hr.units) p_ne (r_var (pv 6)) (r_callP (pe_callG (ok_told_on T) (hr.mono (by omega)) hg (by rfl) T.g_told_on T.F_told_on.kp T.B_told_on (ra_cons (r_var (pv 3)) (ra_cons (r_var (pv 5)) ra_nil)))) (nomark _))))) (r_var (pv 5)) (r_non pe_non)))))))))
theorem ok_lies_in_both (T : Tx K mg) : FnG P w K mg base 7 T.a_lies_in_both T.d_lies_in_both ["flat", "one", "other"] (SpP K m_lies_in_both) :=
  fnP T.F_lies_in_both sc_lies_in_both (by decide) fun cdv A outer s H E hr hg => (rs_one (r_ret (r_cmp op_notN p_isNotN (r_callP (pe_callG (ok_cut_by T) (hr.mono (by omega)) hg (by rfl) T.g_cut_by T.F_cut_by.kp T.B_cut_by (ra_cons (r_var (pv 0)) (ra_cons (r_var (pv 1)) (ra_cons (r_var (pv 2)) ra_nil))))) (r_non pe_non) (nomark _))))
theorem ok_law_bag (T : Tx K mg) : FnG P w K mg base 1 T.a_law_bag T.d_law_bag ["script"] (spBag K) := by
  refine fnG_ok T.F_law_bag sc_law_bag (fun vs H Q E ⟨a, ns, e, _⟩ => by rw [e]; rfl) fun cdv A outer s H vs Q E hr hg hsp => ?_
  obtain ⟨a, ns, rfl, hS, hl, q⟩ := hsp
  exact ⟨_, pss_one (ps_ret (pe_lst (pa_cons pe_int (pa_cons pe_int (pa_cons pe_int (pa_cons (pe_lc (own := [("cell", 1)]) rfl sc_law_bag.nd (pi_list (pe_slice sl_list (pv 0) po_none (po_some pe_int))) (blkOk_by (N := ["script", "cell"]) (sc := defScope s_law_bag) (by decide +kernel))
    (fun _ _ _ _ _ => pg_name (i := 1) sc_law_bag.nd rfl (.inl rfl)) (fun _ _ _ _ _ => pts_nil) (fun _ _ _ _ _ => pe_callB call_abs (by rfl) T.z_abs (by decide +kernel) (pa_cons (pv 1) pa_nil))) pa_nil)))))), bag_reads rfl hS hl q⟩
theorem ok_law_take (T : Tx K mg) : FnG P w K mg base 1 T.a_law_take T.d_law_take ["bag", "many"] (SpI K m_law_take) :=
  fnI T.F_law_take sc_law_take (by decide) fun cdv A outer s H E hr hg => (rs_cons (r_ifS (r_tfz (r_tcmp (op_eqX hr.units) p_eq (r_ixY (room1 hr) (r_var (pv 0)) (r_int pe_int)) (r_int pe_int) (nomark _)) (pu_B (pu_2 (pu_2 pu_V pu_C) pu_C))) (rs_cons (r_asg (ps_set (i := 2) sc_law_take.nd rfl (.inl rfl) (r_sfz (r_ixY (room1 hr) (r_bin o_add p_add (r_sl (r_ixY (room1 hr) (r_var (pv 0)) (r_int pe_int)) (ro_some (r_ixY (room1 hr) (r_var (pv 0)) (r_int pe_int))) ro_none) (r_fz (r_lst (ra_cons (r_int pe_int) ra_nil)))) (r_int pe_int)) (pu_2 (pu_2 (pu_Sl (pu_2 pu_V pu_C) (pu_oS (pu_2 pu_V pu_C)) pu_oN) (pu_N (pu_aC pu_C pu_aN))) pu_C))))
      (rs_cons (r_augI (ps_augS (pv 0) (r_int pe_int) get_list (r_int pe_int) ip_add set_list))
      (rs_cons (r_ifS (r_tcmp op_ge p_ge (r_var (pv 2)) (r_bin op_pow p_pow (r_int pe_int) (r_int pe_int)) (nomark _)) (rs_one (r_setX (ps_asg (r_var (pv 2)) (pg_sub (pv 0) (r_int pe_int) set_list)) (ps_dput (room1 hr) (pv 0) (r_int pe_int) (r_var (pv 2)) rfl))) rs_nil)
      (rs_cons (r_asg (ps_set (i := 3) sc_law_take.nd rfl (.inl rfl) (r_sfz (r_bin o_add p_add (r_bin o_add p_add (r_bin op_mul p_mulI (r_ixY (room1 hr) (r_var (pv 0)) (r_int pe_int)) (r_int pe_int)) (r_bin op_modN p_mod (r_cb (pe_callTy call_int1 (by rfl) T.z_int (by decide +kernel) (ra_cons (r_var (pv 2)) ra_nil)) b_int) (r_int pe_int))) (r_bin op_mul p_mulI (r_int pe_int) (r_ixY (room1 hr) (r_var (pv 0)) (r_int pe_int)))) (pu_2 (pu_2 (pu_2 (pu_2 pu_V pu_C) pu_C) (pu_2 (pu_N (pu_aC pu_V pu_aN)) pu_C)) (pu_2 pu_C (pu_2 pu_V pu_C))))))
      (rs_one (r_setX (ps_asg (r_bin op_modN p_mod (r_cb (pe_callTy call_int1 (by rfl) T.z_int (by decide +kernel) (ra_cons (r_var (pv 3)) ra_nil)) b_int) (r_int pe_int)) (pg_sub (pv 0) (r_int pe_int) set_list)) (ps_dput (room1 hr) (pv 0) (r_int pe_int) (r_bin op_modN p_mod (r_cb (pe_callTy call_int1 (by rfl) T.z_int (by decide +kernel) (ra_cons (r_var (pv 3)) ra_nil)) b_int) (r_int pe_int)) rfl))))))) rs_nil)
      (rs_cons (r_ifS (r_tfz (r_tcmp op_gt p_gt (r_ixY (room1 hr) (r_var (pv 0)) (r_int pe_int)) (r_int pe_int) (nomark _)) (pu_B (pu_2 (pu_2 pu_V pu_C) pu_C))) (rs_cons (r_asg (ps_set (i := 4) sc_law_take.nd rfl (.inl rfl) (r_sfz (r_bin op_modN p_mod (r_cb (pe_callTy call_int1 (by rfl) T.z_int (by decide +kernel) (ra_cons (r_ixY (room1 hr) (r_var (pv 0)) (r_int pe_int)) ra_nil)) b_int) (r_var (pv 1))) (pu_2 (pu_N (pu_aC (pu_2 pu_V pu_C) pu_aN)) pu_V))))
      (rs_cons (r_setX (ps_asg (r_sfz (r_bin op_fdivN p_fdiv (r_cb (pe_callTy call_int1 (by rfl) T.z_int (by decide +kernel) (ra_cons (r_ixY (room1 hr) (r_var (pv 0)) (r_int pe_int)) ra_nil)) b_int) (r_var (pv 1))) (pu_2 (pu_N (pu_aC (pu_2 pu_V pu_C) pu_aN)) pu_V)) (pg_sub (pv 0) (r_int pe_int) set_list)) (ps_dput (room1 hr) (pv 0) (r_int pe_int) (r_sfz (r_bin op_fdivN p_fdiv (r_cb (pe_callTy call_int1 (by rfl) T.z_int (by decide +kernel) (ra_cons (r_ixY (room1 hr) (r_var (pv 0)) (r_int pe_int)) ra_nil)) b_int) (r_var (pv 1))) (pu_2 (pu_N (pu_aC (pu_2 pu_V pu_C) pu_aN)) pu_V)) rfl))
      (rs_one (r_ret (r_var (pv 4)))))) rs_nil)
      (rs_cons (r_asg (ps_set (i := 5) sc_law_take.nd rfl (.inl rfl) (r_sfz (r_bin op_modN p_mod (r_cb (pe_callTy call_int1 (by rfl) T.z_int (by decide +kernel) (ra_cons (r_bin op_mul p_mulI (r_bin o_add p_add (r_ixY (room1 hr) (r_var (pv 0)) (r_int pe_int)) (r_int pe_int)) (r_int pe_int)) ra_nil)) b_int) (r_int pe_int)) (pu_2 (pu_N (pu_aC (pu_2 (pu_2 (pu_2 pu_V pu_C) pu_C) pu_C) pu_aN)) pu_C))))
      (rs_cons (r_asg (ps_set (i := 6) sc_law_take.nd rfl (.inl rfl) (r_bin op_modN p_mod (r_cb (pe_callTy call_int1 (by rfl) T.z_int (by decide +kernel) (ra_cons (r_bin op_mul p_mulI (r_bin op_modN p_mod (r_cb (pe_callTy call_int1 (by rfl) T.z_int (by decide +kernel) (ra_cons (r_bin op_mul p_mulI (r_var (pv 5)) (r_var (pv 5))) ra_nil)) b_int) (r_int pe_int)) (r_int pe_int)) ra_nil)) b_int) (r_int pe_int))))
      (rs_one (r_ret (r_bin op_modN p_mod (r_cb (pe_callTy call_int1 (by rfl) T.z_int (by decide +kernel) (ra_cons (r_bin op_fdivN p_fdiv (r_var (pv 6)) (r_int pe_int)) ra_nil)) b_int) (r_var (pv 1)))))))))
theorem ok_law_some (T : Tx K mg) : FnG P w K mg base 2 T.a_law_some T.d_law_some ["bag", "things"] (SpI K m_law_some) :=
  fnI T.F_law_some sc_law_some (by decide) fun cdv A outer s H E hr hg => (rs_one (r_ret (r_ixY (room1 hr) (r_var (pv 1)) (r_callI (pe_callG (ok_law_take T) (hr.mono (by omega)) hg (by rfl) T.g_law_take T.F_law_take.kp T.B_law_take (pa_cons (pv 0) (ra_cons (r_cb (pe_callB call_lenX (by rfl) T.z_len (by decide +kernel) (ra_cons (r_var (pv 1)) ra_nil)) b_lenX) ra_nil)))))))
theorem ok_law_alike (T : Tx K mg) : FnG P w K mg base 1 T.a_law_alike T.d_law_alike ["found", "due"] (SpP K m_law_alike) :=
  fnP T.F_law_alike sc_law_alike (by decide) fun cdv A outer s H E hr hg => (rs_one (r_ret (r_and (r_cmp (op_eqX hr.units) p_eq (r_var (pv 0)) (r_var (pv 1)) (nomark _)) (r_one (r_cmp (op_eqX hr.units) p_eq (r_cb (pe_callB (c_repr hg (room66 hr)) (by rfl) T.z_repr (by decide +kernel) (ra_cons (r_var (pv 0)) ra_nil)) b_repr) (r_cb (pe_callB (c_repr hg (room66 hr)) (by rfl) T.z_repr (by decide +kernel) (ra_cons (r_var (pv 1)) ra_nil)) b_repr) (nomark _))))))
theorem ok_law_mask (T : Tx K mg) : FnG P w K mg base 1 T.a_law_mask T.d_law_mask ["row"] (SpP K m_law_mask) :=
  fnP T.F_law_mask sc_law_mask (by decide) fun cdv A outer s H E hr hg => (rs_cons (r_asg (ps_set (i := 1) sc_law_mask.nd rfl (.inl rfl) (r_int pe_int)))
      (rs_cons (r_for (vs := [2]) PassesOwn.never rfl (ri_seq (r_var (pv 0))) (rg_name (pg_name (i := 2) sc_law_mask.nd rfl (.inl rfl)) (by decide))
      (rs_one (r_asg (ps_set (i := 1) sc_law_mask.nd rfl (.inl rfl) (r_bin op_or p_or (r_var (pv 1)) (r_bin op_shlW p_shlX (r_int pe_int) (r_var (pv 2))))))))
      (rs_one (r_ret (r_var (pv 1))))))
theorem ok_law_row (T : Tx K mg) : FnG P w K mg base 1 T.a_law_row T.d_law_row ["mask"] (SpP K m_law_row) :=
  fnP T.F_law_row sc_law_row (by decide) fun cdv A outer s H E hr hg => (rs_one (r_ret (r_cb (pe_callTy call_tuple_of (by rfl) T.z_tuple (by decide +kernel) (ra_cons (r_fz (r_lc (own := [("unknown", 1)]) rfl sc_law_row.nd (ri_range1 (by rfl) T.z_range (ra_cons (r_bits (pe_bits (r_var (pv 0)))) ra_nil)) (blkOk_by (N := ["mask", "unknown"]) (sc := defScope s_law_row) (by decide +kernel)) (fun _ _ _ _ _ => (rg_name (pg_name (i := 1) sc_law_row.nd rfl (.inl rfl)) (by decide))) (fun _ _ _ _ _ => (rt_one (r_tcmp (op_eqX hr.units) p_eq (r_bin op_and p_and (r_bin op_shr p_shr (r_var (pv 0)) (r_var (pv 1))) (r_int pe_int)) (r_int pe_int) (nomark _)))) (fun _ _ _ _ _ => (r_var (pv 1))))) ra_nil)) b_tuple)))
theorem ok_law_worth (T : Tx K mg) : FnG P w K mg base 1 T.a_law_worth T.d_law_worth ["row", "bits"] (SpP K m_law_worth) :=
  fnP T.F_law_worth sc_law_worth (by decide) fun cdv A outer s H E hr hg => (rs_one (r_ret (r_bin op_modN p_mod (r_cb (pe_callTy call_int1 (by rfl) T.z_int (by decide +kernel) (ra_cons (r_cb (pe_callB (cr_sum rfl) (by rfl) T.z_sum (by decide +kernel) (ra_cons (r_fz (r_lc (own := [("unknown", 2)]) rfl sc_law_worth.nd (ri_seq (r_var (pv 0))) (blkOk_by (N := ["row", "bits", "unknown"]) (sc := defScope s_law_worth) (by decide +kernel)) (fun _ _ _ _ _ => (rg_name (pg_name (i := 2) sc_law_worth.nd rfl (.inl rfl)) (by decide))) (fun _ _ _ _ _ => rt_nil) (fun _ _ _ _ _ => (r_ixY (room1 hr) (r_var (pv 1)) (r_var (pv 2)))))) ra_nil)) b_sum) ra_nil)) b_int) (r_int pe_int))))
theorem ok_law_room (T : Tx K mg) : FnG P w K mg base 1 T.a_law_room T.d_law_room ["many"] (SpP K m_law_room) :=
  fnP T.F_law_room sc_law_room (by decide) fun cdv A outer s H E hr hg => (rs_cons (r_parM2 (ps_par rfl sc_law_room.nd rfl rfl (by decide) rfl rfl (rm_D (r_bin op_sub p_sub (r_bin op_shlW p_shlX (r_int pe_int) (r_bin op_shlW p_shlX (r_int pe_int) (r_var (pv 0)))) (r_int pe_int)) (rm_F (r_lst ra_nil) rm_nil)) (by rfl)))
      (rs_cons (r_for (vs := [3]) PassesOwn.never rfl (ri_range1 (by rfl) T.z_range (ra_cons (r_var (pv 0)) ra_nil)) (rg_name (pg_name (i := 3) sc_law_room.nd rfl (.inl rfl)) (by decide))
      (rs_cons (r_asg (ps_set (i := 4) sc_law_room.nd rfl (.inl rfl) (r_bin op_shlW p_shlX (r_int pe_int) (r_bin op_sub p_sub (r_bin op_sub p_sub (r_var (pv 0)) (r_int pe_int)) (r_var (pv 3))))))
      (rs_cons (r_asg (ps_set (i := 5) sc_law_room.nd rfl (.inl rfl) (r_bin op_shlW p_shlX (r_bin op_sub p_sub (r_bin op_shlW p_shlX (r_int pe_int) (r_var (pv 4))) (r_int pe_int)) (r_var (pv 4)))))
      (rs_cons (r_asg (ps_set (i := 6) sc_law_room.nd rfl (.inl rfl) (r_int pe_int)))
      (rs_cons (r_for (vs := [7]) PassesOwn.never rfl (ri_range1 (by rfl) T.z_range (ra_cons (r_bin op_shlW p_shlX (r_int pe_int) (r_var (pv 3))) ra_nil)) (rg_name (pg_name (i := 7) sc_law_room.nd rfl (.inl rfl)) (by decide))
      (rs_one (r_asg (ps_set (i := 6) sc_law_room.nd rfl (.inl rfl) (r_bin op_or p_or (r_var (pv 6)) (r_bin op_shlW p_shlX (r_var (pv 5)) (r_bin op_mul p_mulI (r_bin op_mul p_mulI (r_int pe_int) (r_var (pv 4))) (r_var (pv 7)))))))))
      (rs_one (r_mut (ps_expr (pe_bm PySem.F.plainAttrs_list PySem.F.slot_list_append PySem.F.type_list_append mt_append (pv 2) (ra_cons (r_var (pv 6)) ra_nil))) m_app)))))))
      (rs_one (r_ret (r_sfz (r_tup (ra_cons (r_var (pv 0)) (ra_cons (r_var (pv 1)) (ra_cons (r_cb (pe_callTy call_tuple_of (by rfl) T.z_tuple (by decide +kernel) (ra_cons (r_var (pv 2)) ra_nil)) b_tuple) ra_nil)))) (pu_N (pu_aC pu_V (pu_aC pu_V (pu_aC (pu_N (pu_aC pu_V pu_aN)) pu_aN)))))))))
theorem ok_law_held (T : Tx K mg) : FnG P w K mg base 1 T.a_law_held T.d_law_held ["room", "line"] (SpP K m_law_held) :=
  fnP T.F_law_held sc_law_held (by decide) fun cdv A outer s H E hr hg => (rs_cons (r_asg (ps_set (i := 2) sc_law_held.nd rfl (.inl rfl) (r_int pe_int)))
      (rs_cons (r_for (vs := [3]) PassesOwn.never rfl (ri_seq (r_ixY (room1 hr) (r_var (pv 1)) (r_int pe_int))) (rg_name (pg_name (i := 3) sc_law_held.nd rfl (.inl rfl)) (by decide))
      (rs_one (r_asg (ps_set (i := 2) sc_law_held.nd rfl (.inl rfl) (r_bin op_xor p_xor (r_var (pv 2)) (r_ixY (room1 hr) (r_ixY (room1 hr) (r_var (pv 0)) (r_int pe_int)) (r_var (pv 3))))))))
      (rs_one (r_ret (r_if (r_tcmp (op_eqX hr.units) p_eq (r_ixY (room1 hr) (r_var (pv 1)) (r_int pe_int)) (r_int pe_int) (nomark _)) (r_var (pv 2)) (r_bin op_xor p_xor (r_ixY (room1 hr) (r_var (pv 0)) (r_int pe_int)) (r_var (pv 2))))))))
theorem ok_law_in (T : Tx K mg) : FnG P w K mg base 2 T.a_law_in T.d_law_in ["room", "flat"] (SpP K m_law_in) :=
  fnP T.F_law_in sc_law_in (by decide) fun cdv A outer s H E hr hg => (rs_cons (r_asg (ps_set (i := 2) sc_law_in.nd rfl (.inl rfl) (r_ixY (room1 hr) (r_var (pv 0)) (r_int pe_int))))
      (rs_cons (r_for (vs := [3]) PassesOwn.never rfl (ri_seq (r_var (pv 1))) (rg_name (pg_name (i := 3) sc_law_in.nd rfl (.inl rfl)) (by decide))
      (rs_one (r_asg (ps_set (i := 2) sc_law_in.nd rfl (.inl rfl) (r_bin op_and p_and (r_var (pv 2)) (r_callP (pe_callG (ok_law_held T) (hr.mono (by omega)) hg (by rfl) T.g_law_held T.F_law_held.kp T.B_law_held (ra_cons (r_var (pv 0)) (ra_cons (r_var (pv 3)) ra_nil)))))))))
      (rs_one (r_ret (r_var (pv 2))))))
theorem ok_law_flat_of (T : Tx K mg) : FnG P w K mg base 2 T.a_law_flat_of T.d_law_flat_of ["lines"] (SpP K m_law_flat_of) :=
  fnP T.F_law_flat_of sc_law_flat_of (by decide) fun cdv A outer s H E hr hg => (rs_cons (r_asgO (ps_set (i := 1) sc_law_flat_of.nd rfl (.inr rfl) (r_dict0 pe_dnewK)))
      (rs_cons (r_for (vs := [2, 3]) PassesOwn.never rfl (ri_seq (r_var (pv 0))) (rg_tup (pg_tup rfl (rg_cons (rg_name (pg_name (i := 2) sc_law_flat_of.nd rfl (.inl rfl)) (by decide)) (rg_cons (rg_name (pg_name (i := 3) sc_law_flat_of.nd rfl (.inl rfl)) (by decide)) rg_nil))))
      (rs_cons (r_asg (ps_set (i := 4) sc_law_flat_of.nd rfl (.inl rfl) (r_callP (pe_callG (ok_law_mask T) (hr.mono (by omega)) hg (by rfl) T.g_law_mask T.F_law_mask.kp T.B_law_mask (ra_cons (r_var (pv 2)) ra_nil)))))
      (rs_cons (r_for (vs := [5]) PassesOwn.never rfl (ri_seq (r_fz (r_sfl (r_cbF (pe_callB (cr_sortAll rfl (room64 hr)) (by rfl) T.z_sorted (by decide +kernel) (ra_cons (r_var (pv 1)) ra_nil)) b_sortX)))) (rg_name (pg_name (i := 5) sc_law_flat_of.nd rfl (.inl rfl)) (by decide))
      (rs_one (r_ifS (r_tcmp (op_eqX hr.units) p_eq (r_bin op_and p_and (r_bin op_shr p_shr (r_var (pv 4)) (r_var (pv 5))) (r_int pe_int)) (r_int pe_int) (nomark _)) (rs_one (r_par (ps_par rfl sc_law_flat_of.nd rfl rfl (by decide) rfl rfl (ra_cons (r_sfz (r_bin op_xor p_xor (r_var (pv 4)) (r_ixY (room1 hr) (r_ixY (room1 hr) (r_var (pv 1)) (r_var (pv 5))) (r_int pe_int))) (pu_2 pu_V (pu_2 (pu_2 pu_V pu_V) pu_C))) (ra_cons (r_sfz (r_bin op_xor p_xor (r_var (pv 3)) (r_ixY (room1 hr) (r_ixY (room1 hr) (r_var (pv 1)) (r_var (pv 5))) (r_int pe_int))) (pu_2 pu_V (pu_2 (pu_2 pu_V pu_V) pu_C))) ra_nil)) (by rfl)))) rs_nil)))
      (rs_cons (r_ifS (PW.pt (rw_and (r_tcmp (op_eqX hr.units) p_eq (r_var (pv 4)) (r_int pe_int) (nomark _)) (rw_and1 (r_tcmp (op_eqX hr.units) p_eq (r_var (pv 3)) (r_int pe_int) (nomark _))))) (rs_one (r_ret (r_non pe_non))) rs_nil)
      (rs_one (r_ifS (r_tcmp op_gt p_gt (r_var (pv 4)) (r_int pe_int) (nomark _)) (rs_cons (r_asg (ps_set (i := 6) sc_law_flat_of.nd rfl (.inl rfl) (r_bin op_sub p_sub (r_bits (pe_bits (r_bin op_and p_and (r_var (pv 4)) (r_un un_neg p_neg (r_var (pv 4)))))) (r_int pe_int))))
      (rs_cons (r_for (vs := [5]) PassesOwn.never rfl (ri_seq (r_fz (r_sfl (r_cbF (pe_callB (cr_sortAll rfl (room64 hr)) (by rfl) T.z_sorted (by decide +kernel) (ra_cons (r_var (pv 1)) ra_nil)) b_sortX)))) (rg_name (pg_name (i := 5) sc_law_flat_of.nd rfl (.inl rfl)) (by decide))
      (rs_one (r_ifS (r_tfz (r_tcmp (op_eqX hr.units) p_eq (r_bin op_and p_and (r_bin op_shr p_shr (r_ixY (room1 hr) (r_ixY (room1 hr) (r_var (pv 1)) (r_var (pv 5))) (r_int pe_int)) (r_var (pv 6))) (r_int pe_int)) (r_int pe_int) (nomark _)) (pu_B (pu_2 (pu_2 (pu_2 (pu_2 (pu_2 pu_V pu_V) pu_C) pu_V) pu_C) pu_C))) (rs_one (r_setX (ps_asg (r_sfz (r_tup (ra_cons (r_bin op_xor p_xor (r_ixY (room1 hr) (r_ixY (room1 hr) (r_var (pv 1)) (r_var (pv 5))) (r_int pe_int)) (r_var (pv 4))) (ra_cons (r_bin op_xor p_xor (r_ixY (room1 hr) (r_ixY (room1 hr) (r_var (pv 1)) (r_var (pv 5))) (r_int pe_int)) (r_var (pv 3))) ra_nil))) (pu_N (pu_aC (pu_2 (pu_2 (pu_2 pu_V pu_V) pu_C) pu_V) (pu_aC (pu_2 (pu_2 (pu_2 pu_V pu_V) pu_C) pu_V) pu_aN)))) (pg_sub (pv 1) (r_var (pv 5)) set_list)) (ps_dput (room1 hr) (pv 1) (r_var (pv 5)) (r_sfz (r_tup (ra_cons (r_bin op_xor p_xor (r_ixY (room1 hr) (r_ixY (room1 hr) (r_var (pv 1)) (r_var (pv 5))) (r_int pe_int)) (r_var (pv 4))) (ra_cons (r_bin op_xor p_xor (r_ixY (room1 hr) (r_ixY (room1 hr) (r_var (pv 1)) (r_var (pv 5))) (r_int pe_int)) (r_var (pv 3))) ra_nil))) (pu_N (pu_aC (pu_2 (pu_2 (pu_2 pu_V pu_V) pu_C) pu_V) (pu_aC (pu_2 (pu_2 (pu_2 pu_V pu_V) pu_C) pu_V) pu_aN)))) rfl))) rs_nil)))
      (rs_one (r_setX (ps_asg (r_tup (ra_cons (r_var (pv 4)) (ra_cons (r_var (pv 3)) ra_nil))) (pg_sub (pv 1) (r_var (pv 6)) set_list)) (ps_dput (room1 hr) (pv 1) (r_var (pv 6)) (r_tup (ra_cons (r_var (pv 4)) (ra_cons (r_var (pv 3)) ra_nil))) rfl))))) rs_nil))))))
      (rs_one (r_ret (r_sfc (r_cb (pe_callTy call_tuple_of (by rfl) T.z_tuple (by decide +kernel) (ra_cons (r_fz (r_cbF (pe_callB (cr_sortAll rfl (room64 hr)) (by rfl) T.z_sorted (by decide +kernel) (ra_cons (r_fz (r_lc (own := [("head", 5)]) rfl sc_law_flat_of.nd (ri_seq (r_fz (r_cbF (pe_callB (cr_sortAll rfl (room64 hr)) (by rfl) T.z_sorted (by decide +kernel) (ra_cons (r_var (pv 1)) ra_nil)) b_sortX))) (blkOk_by (N := ["lines", "heads", "row", "bit", "mask", "head", "at"]) (sc := defScope s_law_flat_of) (by decide +kernel)) (fun _ _ _ _ _ => (rg_name (pg_name (i := 5) sc_law_flat_of.nd rfl (.inl rfl)) (by decide))) (fun _ _ _ _ _ => rt_nil) (fun _ _ _ _ _ => (r_tup (ra_cons (r_callP (pe_callG (ok_law_row T) (hr.mono (by omega)) hg (by rfl) T.g_law_row T.F_law_row.kp T.B_law_row (ra_cons (r_ixY (room1 hr) (r_ixY (room1 hr) (r_var (pv 1)) (r_var (pv 5))) (r_int pe_int)) ra_nil))) (ra_cons (r_ixY (room1 hr) (r_ixY (room1 hr) (r_var (pv 1)) (r_var (pv 5))) (r_int pe_int)) ra_nil)))))) ra_nil)) b_sortX)) ra_nil)) b_tuple))))))
theorem ok_law_told (T : Tx K mg) : FnG P w K mg base 2 T.a_law_told T.d_law_told ["flat", "row"] (SpP K m_law_told) :=
  fnP T.F_law_told sc_law_told (by decide) fun cdv A outer s H E hr hg => (rs_cons (r_par (ps_par rfl sc_law_told.nd rfl rfl (by decide) rfl rfl (ra_cons (r_callP (pe_callG (ok_law_mask T) (hr.mono (by omega)) hg (by rfl) T.g_law_mask T.F_law_mask.kp T.B_law_mask (ra_cons (r_var (pv 1)) ra_nil))) (ra_cons (r_int pe_int) ra_nil)) (by rfl)))
      (rs_cons (r_for (vs := [4]) PassesOwn.never rfl (ri_seq (r_var (pv 0))) (rg_name (pg_name (i := 4) sc_law_told.nd rfl (.inl rfl)) (by decide))
      (rs_one (r_ifS (r_tcmp (op_eqX hr.units) p_eq (r_bin op_and p_and (r_bin op_shr p_shr (r_var (pv 2)) (r_ixY (room1 hr) (r_ixY (room1 hr) (r_var (pv 4)) (r_int pe_int)) (r_int pe_int))) (r_int pe_int)) (r_int pe_int) (nomark _)) (rs_one (r_par (ps_par rfl sc_law_told.nd rfl rfl (by decide) rfl rfl (ra_cons (r_bin op_xor p_xor (r_var (pv 2)) (r_callP (pe_callG (ok_law_mask T) (hr.mono (by omega)) hg (by rfl) T.g_law_mask T.F_law_mask.kp T.B_law_mask (ra_cons (r_ixY (room1 hr) (r_var (pv 4)) (r_int pe_int)) ra_nil)))) (ra_cons (r_bin op_xor p_xor (r_var (pv 3)) (r_ixY (room1 hr) (r_var (pv 4)) (r_int pe_int))) ra_nil)) (by rfl)))) rs_nil)))
      (rs_one (r_ret (r_if (r_tcmp (op_eqX hr.units) p_eq (r_var (pv 2)) (r_int pe_int) (nomark _)) (r_var (pv 3)) (r_non pe_non))))))
theorem ok_law_halves (T : Tx K mg) : FnG P w K mg base 3 T.a_law_halves T.d_law_halves ["flat", "row"] (SpP K m_law_halves) :=
  fnP T.F_law_halves sc_law_halves (by decide) fun cdv A outer s H E hr hg => (rs_one (r_ret (r_cb (pe_callTy call_tuple_of (by rfl) T.z_tuple (by decide +kernel) (ra_cons (r_fz (r_lc (own := [("bit", 2)]) rfl sc_law_halves.nd (ri_seq (r_tup (ra_cons (r_int pe_int) (ra_cons (r_int pe_int) ra_nil)))) (blkOk_by (N := ["flat", "row", "bit"]) (sc := defScope s_law_halves) (by decide +kernel)) (fun _ _ _ _ _ => (rg_name (pg_name (i := 2) sc_law_halves.nd rfl (.inl rfl)) (by decide))) (fun _ _ _ _ _ => rt_nil) (fun _ _ _ _ _ => (r_callP (pe_callG (ok_law_flat_of T) (hr.mono (by omega)) hg (by rfl) T.g_law_flat_of T.F_law_flat_of.kp T.B_law_flat_of (ra_cons (r_bin o_add p_add (r_fz (r_cbF (pe_callTy call_list_of (by rfl) T.z_list (by decide +kernel) (ra_cons (r_var (pv 0)) ra_nil)) b_list)) (r_fz (r_lst (ra_cons (r_tup (ra_cons (r_var (pv 1)) (ra_cons (r_var (pv 2)) ra_nil))) ra_nil)))) ra_nil)))))) ra_nil)) b_tuple)))
theorem ok_law_any_row (T : Tx K mg) : FnG P w K mg base 3 T.a_law_any_row T.d_law_any_row ["bag", "many"] (SpI K m_law_any_row) :=
  fnI T.F_law_any_row sc_law_any_row (by decide) fun cdv A outer s H E hr hg => (rs_cons (r_asg (ps_set (i := 2) sc_law_any_row.nd rfl (.inl rfl) (r_int pe_int)))
      (rs_cons (r_for (vs := [3]) PassesOwn.never rfl (ri_range1 (by rfl) T.z_range (ra_cons (r_callI (pe_callG (ok_law_some T) (hr.mono (by omega)) hg (by rfl) T.g_law_some T.F_law_some.kp T.B_law_some (pa_cons (pv 0) (ra_cons (r_fz (r_lst (ra_cons (r_int pe_int) (ra_cons (r_int pe_int) (ra_cons (r_int pe_int) (ra_cons (r_int pe_int) (ra_cons (r_var (pv 1)) ra_nil))))))) ra_nil)))) ra_nil)) (rg_name (pg_name (i := 3) sc_law_any_row.nd rfl (.inl rfl)) (by decide))
      (rs_one (r_asg (ps_set (i := 2) sc_law_any_row.nd rfl (.inl rfl) (r_bin op_xor p_xor (r_var (pv 2)) (r_bin op_shlW p_shlX (r_int pe_int) (r_callI (pe_callG (ok_law_take T) (hr.mono (by omega)) hg (by rfl) T.g_law_take T.F_law_take.kp T.B_law_take (pa_cons (pv 0) (ra_cons (r_var (pv 1)) ra_nil))))))))))
      (rs_one (r_ret (r_if (r_tcmp op_gt p_gt (r_var (pv 2)) (r_int pe_int) (nomark _)) (r_callP (pe_callG (ok_law_row T) (hr.mono (by omega)) hg (by rfl) T.g_law_row T.F_law_row.kp T.B_law_row (ra_cons (r_var (pv 2)) ra_nil))) (r_tup (ra_cons (r_callI (pe_callG (ok_law_take T) (hr.mono (by omega)) hg (by rfl) T.g_law_take T.F_law_take.kp T.B_law_take (pa_cons (pv 0) (ra_cons (r_var (pv 1)) ra_nil)))) ra_nil)))))))
theorem ok_law_drawn_flat (T : Tx K mg) : FnG P w K mg base 4 T.a_law_drawn_flat T.d_law_drawn_flat ["bag", "many", "most"] (SpI K m_law_drawn_flat) :=
  fnI T.F_law_drawn_flat sc_law_drawn_flat (by decide) fun cdv A outer s H E hr hg => (rs_cons (r_parM2 (ps_par rfl sc_law_drawn_flat.nd rfl rfl (by decide) rfl rfl (rm_D (r_fz (r_lc (own := [("unknown", 7)]) rfl sc_law_drawn_flat.nd (ri_range1 (by rfl) T.z_range (ra_cons (r_var (pv 1)) ra_nil)) (blkOk_by (N := ["bag", "many", "most", "bits", "lines", "turn", "row", "unknown"]) (sc := defScope s_law_drawn_flat) (by decide +kernel)) (fun _ _ _ _ _ => (rg_name (pg_name (i := 7) sc_law_drawn_flat.nd rfl (.inl rfl)) (by decide))) (fun _ _ _ _ _ => rt_nil) (fun _ _ _ _ _ => (r_callI (pe_callG (ok_law_take T) (hr.mono (by omega)) hg (by rfl) T.g_law_take T.F_law_take.kp T.B_law_take (pa_cons (pv 0) (ra_cons (r_int pe_int) ra_nil))))))) (rm_F (r_lst ra_nil) rm_nil)) (by rfl)))
      (rs_cons (r_for (vs := [5]) PassesOwn.never rfl (ri_range1 (by rfl) T.z_range (ra_cons (r_if (r_tcmp op_gt p_gt (r_var (pv 1)) (r_int pe_int) (nomark _)) (r_callI (pe_callG (ok_law_take T) (hr.mono (by omega)) hg (by rfl) T.g_law_take T.F_law_take.kp T.B_law_take (pa_cons (pv 0) (ra_cons (r_bin o_add p_add (r_var (pv 2)) (r_int pe_int)) ra_nil)))) (r_int pe_int)) ra_nil)) (rg_name (pg_name (i := 5) sc_law_drawn_flat.nd rfl (.inl rfl)) (by decide))
      (rs_cons (r_asg (ps_set (i := 6) sc_law_drawn_flat.nd rfl (.inl rfl) (r_callI (pe_callG (ok_law_any_row T) (hr.mono (by omega)) hg (by rfl) T.g_law_any_row T.F_law_any_row.kp T.B_law_any_row (pa_cons (pv 0) (ra_cons (r_var (pv 1)) ra_nil))))))
      (rs_one (r_mut (ps_expr (pe_bm PySem.F.plainAttrs_list PySem.F.slot_list_append PySem.F.type_list_append mt_append (pv 4) (ra_cons (r_tup (ra_cons (r_var (pv 6)) (ra_cons (r_callP (pe_callG (ok_law_worth T) (hr.mono (by omega)) hg (by rfl) T.g_law_worth T.F_law_worth.kp T.B_law_worth (ra_cons (r_var (pv 6)) (ra_cons (r_var (pv 3)) ra_nil)))) ra_nil))) ra_nil))) m_app))))
      (rs_one (r_ret (r_sfz (r_callP (pe_callG (ok_law_flat_of T) (hr.mono (by omega)) hg (by rfl) T.g_law_flat_of T.F_law_flat_of.kp T.B_law_flat_of (ra_cons (r_var (pv 4)) ra_nil))) (pu_N (pu_aC pu_V pu_aN)))))))
theorem ok_law_new_row (T : Tx K mg) : FnG P w K mg base 4 T.a_law_new_row T.d_law_new_row ["bag", "many", "flat"] (SpI K m_law_new_row) :=
  fnI T.F_law_new_row sc_law_new_row (by decide) fun cdv A outer s H E hr hg => (rs_cons (r_for (vs := [3]) PassesOwn.never rfl (ri_range1 (by rfl) T.z_range (ra_cons (r_int pe_int) ra_nil)) (rg_name (pg_name (i := 3) sc_law_new_row.nd rfl (.inl rfl)) (by decide))
      (rs_cons (r_asg (ps_set (i := 4) sc_law_new_row.nd rfl (.inl rfl) (r_callI (pe_callG (ok_law_any_row T) (hr.mono (by omega)) hg (by rfl) T.g_law_any_row T.F_law_any_row.kp T.B_law_any_row (pa_cons (pv 0) (ra_cons (r_var (pv 1)) ra_nil))))))
      (rs_one (r_ifS (r_tcmp op_isN p_isN (r_callP (pe_callG (ok_law_told T) (hr.mono (by omega)) hg (by rfl) T.g_law_told T.F_law_told.kp T.B_law_told (ra_cons (r_var (pv 2)) (ra_cons (r_var (pv 4)) ra_nil)))) (r_non pe_non) (nomark _)) (rs_one (r_ret (r_var (pv 4)))) rs_nil))))
      (rs_cons (r_asg (ps_set (i := 5) sc_law_new_row.nd rfl (.inr rfl) (r_fz (r_lc (own := [("line", 6)]) rfl sc_law_new_row.nd (ri_seq (r_var (pv 2))) (blkOk_by (N := ["bag", "many", "flat", "turn", "row", "heads", "line", "unknown"]) (sc := defScope s_law_new_row) (by decide +kernel)) (fun _ _ _ _ _ => (rg_name (pg_name (i := 6) sc_law_new_row.nd rfl (.inl rfl)) (by decide))) (fun _ _ _ _ _ => rt_nil) (fun _ _ _ _ _ => (r_ixY (room1 hr) (r_ixY (room1 hr) (r_var (pv 6)) (r_int pe_int)) (r_int pe_int)))))))
      (rs_one (r_ret (r_tup (ra_cons (r_callI (pe_callG (ok_law_some T) (hr.mono (by omega)) hg (by rfl) T.g_law_some T.F_law_some.kp T.B_law_some (pa_cons (pv 0) (ra_cons (r_fz (r_lc (own := [("unknown", 7)]) rfl sc_law_new_row.nd (ri_range1 (by rfl) T.z_range (ra_cons (r_var (pv 1)) ra_nil)) (blkOk_by (N := ["bag", "many", "flat", "turn", "row", "heads", "line", "unknown"]) (sc := defScope s_law_new_row) (by decide +kernel)) (fun _ _ _ _ _ => (rg_name (pg_name (i := 7) sc_law_new_row.nd rfl (.inl rfl)) (by decide))) (fun _ _ _ _ _ => (rt_one (r_tninY (room65 hr) (r_var (pv 7)) (r_var (pv 5))))) (fun _ _ _ _ _ => (r_var (pv 7))))) ra_nil)))) ra_nil))))))
theorem ok_law_wider (T : Tx K mg) : FnG P w K mg base 2 T.a_law_wider T.d_law_wider ["bag", "flat"] (SpI K m_law_wider) :=
  fnI T.F_law_wider sc_law_wider (by decide) fun cdv A outer s H E hr hg => (rs_one (r_ret (r_cb (pe_callTy call_tuple_of (by rfl) T.z_tuple (by decide +kernel) (ra_cons (r_fz (r_lc (own := [("line", 2)]) rfl sc_law_wider.nd (ri_seq (r_var (pv 1))) (blkOk_by (N := ["bag", "flat", "line"]) (sc := defScope s_law_wider) (by decide +kernel)) (fun _ _ _ _ _ => (rg_name (pg_name (i := 2) sc_law_wider.nd rfl (.inl rfl)) (by decide))) (fun _ _ _ _ _ => (rt_one (r_tcmp op_gt p_gt (r_callI (pe_callG (ok_law_take T) (hr.mono (by omega)) hg (by rfl) T.g_law_take T.F_law_take.kp T.B_law_take (pa_cons (pv 0) (ra_cons (r_int pe_int) ra_nil)))) (r_int pe_int) (nomark _)))) (fun _ _ _ _ _ => (r_var (pv 2))))) ra_nil)) b_tuple)))
theorem ok_law_rows_beside (T : Tx K mg) : FnG P w K mg base 2 T.a_law_rows_beside T.d_law_rows_beside ["many", "flat"] (SpP K m_law_rows_beside) :=
  fnP T.F_law_rows_beside sc_law_rows_beside (by decide) fun cdv A outer s H E hr hg => (rs_cons (r_par (ps_par rfl sc_law_rows_beside.nd rfl rfl (by decide) rfl rfl (ra_cons (r_fz (r_lc (own := [("unknown", 4)]) rfl sc_law_rows_beside.nd (ri_range1 (by rfl) T.z_range (ra_cons (r_var (pv 0)) ra_nil)) (blkOk_by (N := ["many", "flat", "free", "masks", "unknown", "mask", "line"]) (sc := defScope s_law_rows_beside) (by decide +kernel)) (fun _ _ _ _ _ => (rg_name (pg_name (i := 4) sc_law_rows_beside.nd rfl (.inl rfl)) (by decide))) (fun _ _ _ _ _ => (rt_one (r_tninY (room65 hr) (r_var (pv 4)) (r_fz (r_lc (own := [("line", 6)]) rfl sc_law_rows_beside.nd (ri_seq (r_var (pv 1))) (blkOk_by (by kernel_rfl)) (fun _ _ _ _ _ => (rg_name (pg_name (i := 6) sc_law_rows_beside.nd rfl (.inl rfl)) (by decide))) (fun _ _ _ _ _ => rt_nil) (fun _ _ _ _ _ => (r_ixY (room1 hr) (r_ixY (room1 hr) (r_var (pv 6)) (r_int pe_int)) (r_int pe_int)))))))) (fun _ _ _ _ _ => (r_var (pv 4))))) (ra_cons (r_fz (r_lst (ra_cons (r_int pe_int) ra_nil))) ra_nil)) (by rfl)))
      (rs_cons (r_for (vs := [4]) PassesOwn.never rfl (ri_seq (r_var (pv 2))) (rg_name (pg_name (i := 4) sc_law_rows_beside.nd rfl (.inr rfl)) (by decide))
      (rs_one (r_asg (ps_set (i := 3) sc_law_rows_beside.nd rfl (.inl rfl) (r_bin o_add p_add (r_var (pv 3)) (r_fz (r_lc (own := [("mask", 5)]) rfl sc_law_rows_beside.nd (ri_seq (r_var (pv 3))) (blkOk_by (N := ["many", "flat", "free", "masks", "unknown", "mask", "line"]) (sc := defScope s_law_rows_beside) (by decide +kernel)) (fun _ _ _ _ _ => (rg_name (pg_name (i := 5) sc_law_rows_beside.nd rfl (.inl rfl)) (by decide))) (fun _ _ _ _ _ => rt_nil) (fun _ _ _ _ _ => (r_bin op_or p_or (r_var (pv 5)) (r_bin op_shlW p_shlX (r_int pe_int) (r_var (pv 4))))))))))))
      (rs_one (r_ret (r_fz (r_lc (own := [("mask", 5)]) rfl sc_law_rows_beside.nd (ri_seq (r_sl (r_var (pv 3)) (ro_some (r_int pe_int)) ro_none)) (blkOk_by (N := ["many", "flat", "free", "masks", "unknown", "mask", "line"]) (sc := defScope s_law_rows_beside) (by decide +kernel)) (fun _ _ _ _ _ => (rg_name (pg_name (i := 5) sc_law_rows_beside.nd rfl (.inl rfl)) (by decide))) (fun _ _ _ _ _ => rt_nil) (fun _ _ _ _ _ => (r_callP (pe_callG (ok_law_row T) (hr.mono (by omega)) hg (by rfl) T.g_law_row T.F_law_row.kp T.B_law_row (ra_cons (r_var (pv 5)) ra_nil))))))))))
theorem ok_law_cut_due (T : Tx K mg) : FnG P w K mg base 3 T.a_law_cut_due T.d_law_cut_due ["room", "flat", "one", "other"] (SpP K m_law_cut_due) :=
  fnP T.F_law_cut_due sc_law_cut_due (by decide) fun cdv A outer s H E hr hg => (rs_cons (r_parMC (is := [4, 5, 6]) (by decide) (ps_asg (pe_tup (rm_D (r_callP (pe_callG (ok_law_in T) (hr.mono (by omega)) hg (by rfl) T.g_law_in T.F_law_in.kp T.B_law_in (ra_cons (r_var (pv 0)) (ra_cons (r_var (pv 1)) ra_nil)))) (rm_D (r_callP (pe_callG (ok_law_in T) (hr.mono (by omega)) hg (by rfl) T.g_law_in T.F_law_in.kp T.B_law_in (ra_cons (r_var (pv 0)) (ra_cons (r_var (pv 2)) ra_nil)))) (rm_D (r_callP (pe_callG (ok_law_in T) (hr.mono (by omega)) hg (by rfl) T.g_law_in T.F_law_in.kp T.B_law_in (ra_cons (r_var (pv 0)) (ra_cons (r_var (pv 3)) ra_nil)))) rm_nil)))) (pg_tup rfl (pgs_cons (pg_name (i := 4) sc_law_cut_due.nd rfl (.inr rfl)) (pgs_cons (pg_name (i := 5) sc_law_cut_due.nd rfl (.inr rfl)) (pgs_cons (pg_name (i := 6) sc_law_cut_due.nd rfl (.inr rfl)) pgs_nil))))))
      (rs_cons (r_ifS (PW.pt (rw_or (r_tcmp (op_eqX hr.units) p_eq (r_bin op_and p_and (r_var (pv 4)) (r_var (pv 5))) (r_var (pv 4)) (nomark _)) (rw_or1 (r_tcmp (op_eqX hr.units) p_eq (r_bin op_and p_and (r_var (pv 4)) (r_var (pv 6))) (r_var (pv 4)) (nomark _))))) (rs_one (r_ret (r_tup ra_nil))) rs_nil)
      (rs_cons (r_ifS (r_tcmp (op_neX hr.units) p_ne (r_bin op_and p_and (r_var (pv 4)) (r_bin op_or p_or (r_var (pv 5)) (r_var (pv 6)))) (r_var (pv 4)) (nomark _)) (rs_one (r_ret (r_non pe_non))) rs_nil)
      (rs_cons (r_asgO (ps_set (i := 7) sc_law_cut_due.nd rfl (.inl rfl) (r_lst ra_nil)))
      (rs_cons (r_for (vs := [8]) PassesOwn.never rfl (ri_seq (r_callP (pe_callG (ok_law_rows_beside T) (hr.mono (by omega)) hg (by rfl) T.g_law_rows_beside T.F_law_rows_beside.kp T.B_law_rows_beside (ra_cons (r_ixY (room1 hr) (r_var (pv 0)) (r_int pe_int)) (ra_cons (r_var (pv 1)) ra_nil))))) (rg_name (pg_name (i := 8) sc_law_cut_due.nd rfl (.inr rfl)) (by decide))
      (rs_cons (r_setLc (i := 9) (own := [("bit", 11)]) rfl sc_law_cut_due.nd rfl rfl (sw_true rfl rfl rfl (by decide +kernel)) (ri_seq (r_tup (ra_cons (r_int pe_int) (ra_cons (r_int pe_int) ra_nil)))) (blkOk_by (N := ["room", "flat", "one", "other", "here", "mine", "its", "found", "row", "halves", "ways", "bit", "a", "b"]) (sc := defScope s_law_cut_due) (by decide +kernel)) (fun _ _ _ _ _ => (rg_name (pg_name (i := 11) sc_law_cut_due.nd rfl (.inl rfl)) (by decide))) (fun _ _ _ _ _ => rt_nil) (fun _ _ _ _ _ => (r_bin op_and p_and (r_var (pv 4)) (r_callP (pe_callG (ok_law_held T) (hr.mono (by omega)) hg (by rfl) T.g_law_held T.F_law_held.kp T.B_law_held (ra_cons (r_var (pv 0)) (ra_cons (r_tup (ra_cons (r_var (pv 8)) (ra_cons (r_var (pv 11)) ra_nil))) ra_nil)))))))
      (rs_cons (r_asg (ps_set (i := 10) sc_law_cut_due.nd rfl (.inl rfl) (r_fz (r_lst (ra_cons (r_tup (ra_cons (r_ixY (room1 hr) (r_var (pv 9)) (r_int pe_int)) (ra_cons (r_ixY (room1 hr) (r_var (pv 9)) (r_int pe_int)) ra_nil))) (ra_cons (r_tup (ra_cons (r_ixY (room1 hr) (r_var (pv 9)) (r_int pe_int)) (ra_cons (r_ixY (room1 hr) (r_var (pv 9)) (r_int pe_int)) ra_nil))) ra_nil))))))
      (rs_one (r_mut (ps_expr (pe_bm PySem.F.plainAttrs_list PySem.F.slot_list_extend PySem.F.type_list_extend mt_extend (pv 7) (ra_cons (r_fz (r_binF op_rep p_repL (r_fz (r_lst (ra_cons (r_var (pv 8)) ra_nil))) (r_cb (pe_callTy call_int1 (by rfl) T.z_int (by decide +kernel) (ra_cons (r_cmp (op_neX hr.units) p_ne (r_fz (r_lc (own := [("a", 12), ("b", 13)]) rfl sc_law_cut_due.nd (ri_seq (r_var (pv 10))) (blkOk_by (N := ["room", "flat", "one", "other", "here", "mine", "its", "found", "row", "halves", "ways", "bit", "a", "b"]) (sc := defScope s_law_cut_due) (by decide +kernel)) (fun _ _ _ _ _ => (rg_tup (pg_tup rfl (rg_cons (rg_name (pg_name (i := 12) sc_law_cut_due.nd rfl (.inl rfl)) (by decide)) (rg_cons (rg_name (pg_name (i := 13) sc_law_cut_due.nd rfl (.inl rfl)) (by decide)) rg_nil))))) (fun _ _ _ _ _ => (rt_one (PW.pt (rw_and (r_tcmp (op_eqX hr.units) p_eq (r_bin op_and p_and (r_var (pv 12)) (r_var (pv 5))) (r_var (pv 12)) (nomark _)) (rw_and1 (r_tcmp (op_eqX hr.units) p_eq (r_bin op_and p_and (r_var (pv 13)) (r_var (pv 6))) (r_var (pv 13)) (nomark _))))))) (fun _ _ _ _ _ => (r_int pe_int)))) (r_fz (r_lst ra_nil)) (nomark _)) ra_nil)) b_int))) ra_nil))) m_ext)))))
      (rs_one (r_ret (r_sfz (r_if (r_tcmp (op_eqX hr.units) p_eq (r_cb (pe_callB call_lenX (by rfl) T.z_len (by decide +kernel) (ra_cons (r_var (pv 7)) ra_nil)) b_lenX) (r_int pe_int) (nomark _)) (r_ixY (room1 hr) (r_var (pv 7)) (r_int pe_int)) (r_str pe_str)) (pu_If (pu_B (pu_2 (pu_N (pu_aC pu_V pu_aN)) pu_C)) (pu_2 pu_V pu_C) pu_C)))))))))
theorem ok_law_three_flats (T : Tx K mg) : FnG P w K mg base 5 T.a_law_three_flats T.d_law_three_flats ["bag", "many"] (SpI K m_law_three_flats) :=
  fnI T.F_law_three_flats sc_law_three_flats (by decide) fun cdv A outer s H E hr hg => (rs_cons (r_par (ps_par rfl sc_law_three_flats.nd rfl rfl (by decide) rfl rfl (ra_cons (r_callI (pe_callG (ok_law_drawn_flat T) (hr.mono (by omega)) hg (by rfl) T.g_law_drawn_flat T.F_law_drawn_flat.kp T.B_law_drawn_flat (pa_cons (pv 0) (ra_cons (r_var (pv 1)) (ra_cons (r_bin op_sub p_sub (r_var (pv 1)) (r_int pe_int)) ra_nil))))) (ra_cons (r_callI (pe_callG (ok_law_take T) (hr.mono (by omega)) hg (by rfl) T.g_law_take T.F_law_take.kp T.B_law_take (pa_cons (pv 0) (ra_cons (r_int pe_int) ra_nil)))) ra_nil)) (by rfl)))
      (rs_cons (r_ifS (r_tcmp op_lt p_lt (r_var (pv 3)) (r_int pe_int) (nomark _)) (rs_cons (r_pat (vs := [4, 5]) (ps_asg (r_callP (pe_callG (ok_law_halves T) (hr.mono (by omega)) hg (by rfl) T.g_law_halves T.F_law_halves.kp T.B_law_halves (ra_cons (r_var (pv 2)) (ra_cons (r_callI (pe_callG (ok_law_new_row T) (hr.mono (by omega)) hg (by rfl) T.g_law_new_row T.F_law_new_row.kp T.B_law_new_row (pa_cons (pv 0) (ra_cons (r_var (pv 1)) (ra_cons (r_var (pv 2)) ra_nil))))) ra_nil)))) (rg_tup (pg_tup rfl (rg_cons (rg_name (pg_name (i := 4) sc_law_three_flats.nd rfl (.inl rfl)) (by decide)) (rg_cons (rg_name (pg_name (i := 5) sc_law_three_flats.nd rfl (.inl rfl)) (by decide)) rg_nil))))))
      (rs_cons (r_par (ps_par rfl sc_law_three_flats.nd rfl rfl (by decide) rfl rfl (ra_cons (r_callI (pe_callG (ok_law_wider T) (hr.mono (by omega)) hg (by rfl) T.g_law_wider T.F_law_wider.kp T.B_law_wider (pa_cons (pv 0) (ra_cons (r_var (pv 4)) ra_nil)))) (ra_cons (r_callI (pe_callG (ok_law_wider T) (hr.mono (by omega)) hg (by rfl) T.g_law_wider T.F_law_wider.kp T.B_law_wider (pa_cons (pv 0) (ra_cons (r_var (pv 5)) ra_nil)))) ra_nil)) (by rfl)))
      (rs_cons (r_ifS (PW.pt (rw_and (r_tcmp (op_eqX hr.units) p_eq (r_var (pv 3)) (r_int pe_int) (nomark _)) (rw_and1 (r_tcmp op_lt p_lt (r_cb (pe_callB call_lenX (by rfl) T.z_len (by decide +kernel) (ra_cons (r_var (pv 4)) ra_nil)) b_lenX) (r_var (pv 1)) (nomark _))))) (rs_one (r_asg (ps_set (i := 4) sc_law_three_flats.nd rfl (.inl rfl) (r_ixY (room1 hr) (r_callP (pe_callG (ok_law_halves T) (hr.mono (by omega)) hg (by rfl) T.g_law_halves T.F_law_halves.kp T.B_law_halves (ra_cons (r_var (pv 4)) (ra_cons (r_callI (pe_callG (ok_law_new_row T) (hr.mono (by omega)) hg (by rfl) T.g_law_new_row T.F_law_new_row.kp T.B_law_new_row (pa_cons (pv 0) (ra_cons (r_var (pv 1)) (ra_cons (r_var (pv 4)) ra_nil))))) ra_nil)))) (r_callI (pe_callG (ok_law_take T) (hr.mono (by omega)) hg (by rfl) T.g_law_take T.F_law_take.kp T.B_law_take (pa_cons (pv 0) (ra_cons (r_int pe_int) ra_nil)))))))) rs_nil)
      (rs_one (r_ret (r_if (r_tcmp (op_neX hr.units) p_ne (r_var (pv 3)) (r_int pe_int) (nomark _)) (r_tup (ra_cons (r_var (pv 2)) (ra_cons (r_var (pv 4)) (ra_cons (r_var (pv 5)) ra_nil)))) (r_tup (ra_cons (r_callI (pe_callG (ok_law_wider T) (hr.mono (by omega)) hg (by rfl) T.g_law_wider T.F_law_wider.kp T.B_law_wider (pa_cons (pv 0) (ra_cons (r_var (pv 2)) ra_nil)))) (ra_cons (r_var (pv 4)) (ra_cons (r_var (pv 5)) ra_nil)))))))))) rs_nil)
      (rs_cons (r_ifS (r_tcmp (op_eqX hr.units) p_eq (r_var (pv 3)) (r_int pe_int) (nomark _)) (rs_one (r_ret (r_tup (ra_cons (r_var (pv 2)) (ra_cons (r_callI (pe_callG (ok_law_wider T) (hr.mono (by omega)) hg (by rfl) T.g_law_wider T.F_law_wider.kp T.B_law_wider (pa_cons (pv 0) (ra_cons (r_var (pv 2)) ra_nil)))) (ra_cons (r_callI (pe_callG (ok_law_drawn_flat T) (hr.mono (by omega)) hg (by rfl) T.g_law_drawn_flat T.F_law_drawn_flat.kp T.B_law_drawn_flat (pa_cons (pv 0) (ra_cons (r_var (pv 1)) (ra_cons (r_var (pv 1)) ra_nil))))) ra_nil)))))) rs_nil)
      (rs_one (r_ret (r_tup (ra_cons (r_var (pv 2)) (ra_cons (r_callI (pe_callG (ok_law_drawn_flat T) (hr.mono (by omega)) hg (by rfl) T.g_law_drawn_flat T.F_law_drawn_flat.kp T.B_law_drawn_flat (pa_cons (pv 0) (ra_cons (r_var (pv 1)) (ra_cons (r_var (pv 1)) ra_nil))))) (ra_cons (r_callI (pe_callG (ok_law_some T) (hr.mono (by omega)) hg (by rfl) T.g_law_some T.F_law_some.kp T.B_law_some (pa_cons (pv 0) (ra_cons (r_fz (r_lst (ra_cons (r_tup ra_nil) (ra_cons (r_var (pv 2)) (ra_cons (r_callI (pe_callG (ok_law_drawn_flat T) (hr.mono (by omega)) hg (by rfl) T.g_law_drawn_flat T.F_law_drawn_flat.kp T.B_law_drawn_flat (pa_cons (pv 0) (ra_cons (r_var (pv 1)) (ra_cons (r_int pe_int) ra_nil))))) ra_nil))))) ra_nil)))) ra_nil)))))))))
theorem ok_law (T : Tx K mg) (hψ : ∀ ns : List Int, ns.length ≤ 63 → ∃ ρ', b_law (lawEn 12 1 ns) = some (.ret (.bool true) ρ')) : FnG P w K mg base 8 T.a_law T.d_law ["script"] (spLaw K) :=
  fnLaw (i := 1) T.F_law sc_law (by decide) (fun cdv A outer s H E hr hg => pss_cons (ps_set (i := 1) sc_law.nd rfl (.inl rfl) (pe_callG (ok_law_bag T) (hr.mono (by omega)) hg (by rfl) T.g_law_bag T.F_law_bag.kp T.B_law_bag (pa_cons (pv 0) pa_nil)))
      (rs_cons (r_for (vs := [2]) PassesOwn.never rfl (ri_range1 (by rfl) T.z_range (ra_cons (r_int pe_int) ra_nil)) (rg_name (pg_name (i := 2) sc_law.nd rfl (.inl rfl)) (by decide))
      (rs_cons (r_asg (ps_set (i := 3) sc_law.nd rfl (.inl rfl) (r_bin o_add p_add (r_int pe_int) (r_callI (pe_callG (ok_law_take T) (hr.mono (by omega)) hg (by rfl) T.g_law_take T.F_law_take.kp T.B_law_take (pa_cons (pv 1) (ra_cons (r_callI (pe_callG (ok_law_some T) (hr.mono (by omega)) hg (by rfl) T.g_law_some T.F_law_some.kp T.B_law_some (pa_cons (pv 1) (ra_cons (r_fz (r_lst (ra_cons (r_int pe_int) (ra_cons (r_int pe_int) (ra_cons (r_int pe_int) ra_nil))))) ra_nil)))) ra_nil)))))))
      (rs_cons (r_par (ps_par rfl sc_law.nd rfl rfl (by decide) rfl rfl (ra_cons (r_callP (pe_callG (ok_law_room T) (hr.mono (by omega)) hg (by rfl) T.g_law_room T.F_law_room.kp T.B_law_room (ra_cons (r_var (pv 3)) ra_nil))) (ra_cons (r_callI (pe_callG (ok_law_three_flats T) (hr.mono (by omega)) hg (by rfl) T.g_law_three_flats T.F_law_three_flats.kp T.B_law_three_flats (pa_cons (pv 1) (ra_cons (r_var (pv 3)) ra_nil)))) ra_nil)) (by rfl)))
      (rs_one (r_for (vs := [6, 7, 8]) PassesOwn.never rfl (ri_seq (r_tup (ra_cons (r_var (pv 5)) (ra_cons (r_tup (ra_cons (r_ixY (room1 hr) (r_var (pv 5)) (r_int pe_int)) (ra_cons (r_ixY (room1 hr) (r_var (pv 5)) (r_int pe_int)) (ra_cons (r_ixY (room1 hr) (r_var (pv 5)) (r_int pe_int)) ra_nil)))) (ra_cons (r_tup (ra_cons (r_ixY (room1 hr) (r_var (pv 5)) (r_int pe_int)) (ra_cons (r_ixY (room1 hr) (r_var (pv 5)) (r_int pe_int)) (ra_cons (r_ixY (room1 hr) (r_var (pv 5)) (r_int pe_int)) ra_nil)))) (ra_cons (r_bin op_repT p_repT (r_tup (ra_cons (r_ixY (room1 hr) (r_var (pv 5)) (r_int pe_int)) ra_nil)) (r_int pe_int)) ra_nil)))))) (rg_tup (pg_tup rfl (rg_cons (rg_name (pg_name (i := 6) sc_law.nd rfl (.inl rfl)) (by decide)) (rg_cons (rg_name (pg_name (i := 7) sc_law.nd rfl (.inl rfl)) (by decide)) (rg_cons (rg_name (pg_name (i := 8) sc_law.nd rfl (.inl rfl)) (by decide)) rg_nil)))))
      (rs_cons (r_par (ps_par rfl sc_law.nd rfl rfl (by decide) rfl rfl (ra_cons (r_callP (pe_callG (ok_law_cut_due T) (hr.mono (by omega)) hg (by rfl) T.g_law_cut_due T.F_law_cut_due.kp T.B_law_cut_due (ra_cons (r_var (pv 4)) (ra_cons (r_var (pv 6)) (ra_cons (r_var (pv 7)) (ra_cons (r_var (pv 8)) ra_nil)))))) (ra_cons (r_cb (pe_callB (c_repr hg (room66 hr)) (by rfl) T.z_repr (by decide +kernel) (ra_cons (r_tup (ra_cons (r_var (pv 6)) (ra_cons (r_var (pv 7)) (ra_cons (r_var (pv 8)) ra_nil)))) ra_nil)) b_repr) ra_nil)) (by rfl)))
      (rs_cons (r_asg (ps_set (i := 11) sc_law.nd rfl (.inl rfl) (r_fz (r_lst (ra_cons (r_callP (pe_callG (ok_cut_by T) (hr.mono (by omega)) hg (by rfl) T.g_cut_by T.F_cut_by.kp T.B_cut_by (ra_cons (r_var (pv 6)) (ra_cons (r_var (pv 7)) (ra_cons (r_var (pv 8)) ra_nil))))) (ra_cons (r_callP (pe_callG (ok_lies_in_both T) (hr.mono (by omega)) hg (by rfl) T.g_lies_in_both T.F_lies_in_both.kp T.B_lies_in_both (ra_cons (r_var (pv 6)) (ra_cons (r_var (pv 7)) (ra_cons (r_var (pv 8)) ra_nil))))) ra_nil))))))
      (rs_one (r_ifS (PW.pt (rw_or (r_tnot (r_tval (r_callP (pe_callG (ok_law_alike T) (hr.mono (by omega)) hg (by rfl) T.g_law_alike T.F_law_alike.kp T.B_law_alike (ra_cons (r_var (pv 11)) (ra_cons (r_fz (r_lst (ra_cons (r_var (pv 9)) (ra_cons (r_cmp op_notN p_isNotN (r_var (pv 9)) (r_non pe_non) (nomark _)) ra_nil)))) ra_nil)))))) (rw_or1 (r_tcmp (op_neX hr.units) p_ne (r_cb (pe_callB (c_repr hg (room66 hr)) (by rfl) T.z_repr (by decide +kernel) (ra_cons (r_tup (ra_cons (r_var (pv 6)) (ra_cons (r_var (pv 7)) (ra_cons (r_var (pv 8)) ra_nil)))) ra_nil)) b_repr) (r_var (pv 10)) (nomark _))))) (rs_one (r_ret (r_bl pe_bl))) rs_nil)))))))))
      (rs_one (r_ret (r_bl pe_bl))))) hψ
end
theorem all_mk {l : PySem.W.OpenLaw} {w : World} {K : PySem.W.Frag} {h : Heap} {mg : Str → Option Value} {fa : Addr} (X : K.In h) (G : h.Ns mainGlobals mg) (hfa : mg "law" = some (.ref fa))
    {f1 f2 f4 f5 f6 f7 f8 f9 f11 f12 f13 f15 f16 f17 f18 f19 f20 f21 f22 f23 f24 f25 f26 f27 f28 f29 f30 f31 f32 f33 f34 f35 : Addr}
    {o1 n1 o2 n2 o4 n4 o5 n5 o6 n6 o7 n7 o8 n8 o9 n9 o11 n11 o12 n12 o13 n13 o15 n15 o16 n16 o17 n17 o18 n18 o19 n19 o20 n20 o21 n21 o22 n22 o23 n23 o24 n24 o25 n25 o26 n26 o27 n27 o28 n28 o29 n29 o30 n30 o31 n31 o32 n32 o33 n33 o34 n34 o35 n35 : Option Addr}
    {sl1 sl2 sl4 sl5 sl6 sl7 sl8 sl9 sl11 sl12 sl13 sl15 sl16 sl17 sl18 sl19 sl20 sl21 sl22 sl23 sl24 sl25 sl26 sl27 sl28 sl29 sl30 sl31 sl32 sl33 sl34 sl35 : Array (Option Value)}
    {oc1 kV1 dc1 pm1 cd1 ct1 oc2 kV2 dc2 pm2 cd2 ct2 oc4 kV4 dc4 pm4 cd4 ct4 oc5 kV5 dc5 pm5 cd5 ct5 oc6 kV6 dc6 pm6 cd6 ct6 oc7 kV7 dc7 pm7 cd7 ct7 oc8 kV8 dc8 pm8 cd8 ct8 oc9 kV9 dc9 pm9 cd9 ct9 oc11 kV11 dc11 pm11 cd11 ct11 oc12 kV12 dc12 pm12 cd12 ct12 oc13 kV13 dc13 pm13 cd13 ct13 oc15 kV15 dc15 pm15 cd15 ct15 oc16 kV16 dc16 pm16 cd16 ct16 oc17 kV17 dc17 pm17 cd17 ct17 oc18 kV18 dc18 pm18 cd18 ct18 oc19 kV19 dc19 pm19 cd19 ct19 oc20 kV20 dc20 pm20 cd20 ct20 oc21 kV21 dc21 pm21 cd21 ct21 oc22 kV22 dc22 pm22 cd22 ct22 oc23 kV23 dc23 pm23 cd23 ct23 oc24 kV24 dc24 pm24 cd24 ct24 oc25 kV25 dc25 pm25 cd25 ct25 oc26 kV26 dc26 pm26 cd26 ct26 oc27 kV27 dc27 pm27 cd27 ct27 oc28 kV28 dc28 pm28 cd28 ct28 oc29 kV29 dc29 pm29 cd29 ct29 oc30 kV30 dc30 pm30 cd30 ct30 oc31 kV31 dc31 pm31 cd31 ct31 oc32 kV32 dc32 pm32 cd32 ct32 oc33 kV33 dc33 pm33 cd33 ct33 oc34 kV34 dc34 pm34 cd34 ct34 oc35 kV35 dc35 pm35 cd35 ct35 : Value}
    (a1 : PySem.W.nsIn K mainGlobals "plus" = some (some (.ref f1))) (l1 : K.lookup f1 = some ⟨oc1, o1, .func (PySem.W.fnOf "plus" "plus" (defArgs s_plus) (defBody s_plus) (defScope s_plus) .none kV1 dc1 pm1 n1 cd1 ct1), sl1⟩) (c1 : PySem.W.codeIn K cd1 "plus" = true) (k1 : PySem.W.keepIn K (.ref f1) = true)
    (a2 : PySem.W.nsIn K mainGlobals "together" = some (some (.ref f2))) (l2 : K.lookup f2 = some ⟨oc2, o2, .func (PySem.W.fnOf "together" "together" (defArgs s_together) (defBody s_together) (defScope s_together) .none kV2 dc2 pm2 n2 cd2 ct2), sl2⟩) (c2 : PySem.W.codeIn K cd2 "together" = true) (k2 : PySem.W.keepIn K (.ref f2) = true)
    (a4 : PySem.W.nsIn K mainGlobals "led_by" = some (some (.ref f4))) (l4 : K.lookup f4 = some ⟨oc4, o4, .func (PySem.W.fnOf "led_by" "led_by" (defArgs s_led_by) (defBody s_led_by) (defScope s_led_by) .none kV4 dc4 pm4 n4 cd4 ct4), sl4⟩) (c4 : PySem.W.codeIn K cd4 "led_by" = true) (k4 : PySem.W.keepIn K (.ref f4) = true)
    (a5 : PySem.W.nsIn K mainGlobals "put_in" = some (some (.ref f5))) (l5 : K.lookup f5 = some ⟨oc5, o5, .func (PySem.W.fnOf "put_in" "put_in" (defArgs s_put_in) (defBody s_put_in) (defScope s_put_in) .none kV5 dc5 pm5 n5 cd5 ct5), sl5⟩) (c5 : PySem.W.codeIn K cd5 "put_in" = true) (k5 : PySem.W.keepIn K (.ref f5) = true)
    (a6 : PySem.W.nsIn K mainGlobals "reduced" = some (some (.ref f6))) (l6 : K.lookup f6 = some ⟨oc6, o6, .func (PySem.W.fnOf "reduced" "reduced" (defArgs s_reduced) (defBody s_reduced) (defScope s_reduced) .none kV6 dc6 pm6 n6 cd6 ct6), sl6⟩) (c6 : PySem.W.codeIn K cd6 "reduced" = true) (k6 : PySem.W.keepIn K (.ref f6) = true)
    (a7 : PySem.W.nsIn K mainGlobals "told_on" = some (some (.ref f7))) (l7 : K.lookup f7 = some ⟨oc7, o7, .func (PySem.W.fnOf "told_on" "told_on" (defArgs s_told_on) (defBody s_told_on) (defScope s_told_on) .none kV7 dc7 pm7 n7 cd7 ct7), sl7⟩) (c7 : PySem.W.codeIn K cd7 "told_on" = true) (k7 : PySem.W.keepIn K (.ref f7) = true)
    (a8 : PySem.W.nsIn K mainGlobals "lies_in" = some (some (.ref f8))) (l8 : K.lookup f8 = some ⟨oc8, o8, .func (PySem.W.fnOf "lies_in" "lies_in" (defArgs s_lies_in) (defBody s_lies_in) (defScope s_lies_in) .none kV8 dc8 pm8 n8 cd8 ct8), sl8⟩) (c8 : PySem.W.codeIn K cd8 "lies_in" = true) (k8 : PySem.W.keepIn K (.ref f8) = true)
    (a9 : PySem.W.nsIn K mainGlobals "meet" = some (some (.ref f9))) (l9 : K.lookup f9 = some ⟨oc9, o9, .func (PySem.W.fnOf "meet" "meet" (defArgs s_meet) (defBody s_meet) (defScope s_meet) .none kV9 dc9 pm9 n9 cd9 ct9), sl9⟩) (c9 : PySem.W.codeIn K cd9 "meet" = true) (k9 : PySem.W.keepIn K (.ref f9) = true)
    (a11 : PySem.W.nsIn K mainGlobals "new_row" = some (some (.ref f11))) (l11 : K.lookup f11 = some ⟨oc11, o11, .func (PySem.W.fnOf "new_row" "new_row" (defArgs s_new_row) (defBody s_new_row) (defScope s_new_row) .none kV11 dc11 pm11 n11 cd11 ct11), sl11⟩) (c11 : PySem.W.codeIn K cd11 "new_row" = true) (k11 : PySem.W.keepIn K (.ref f11) = true)
    (a12 : PySem.W.nsIn K mainGlobals "cut_by" = some (some (.ref f12))) (l12 : K.lookup f12 = some ⟨oc12, o12, .func (PySem.W.fnOf "cut_by" "cut_by" (defArgs s_cut_by) (defBody s_cut_by) (defScope s_cut_by) .none kV12 dc12 pm12 n12 cd12 ct12), sl12⟩) (c12 : PySem.W.codeIn K cd12 "cut_by" = true) (k12 : PySem.W.keepIn K (.ref f12) = true)
    (a13 : PySem.W.nsIn K mainGlobals "lies_in_both" = some (some (.ref f13))) (l13 : K.lookup f13 = some ⟨oc13, o13, .func (PySem.W.fnOf "lies_in_both" "lies_in_both" (defArgs s_lies_in_both) (defBody s_lies_in_both) (defScope s_lies_in_both) .none kV13 dc13 pm13 n13 cd13 ct13), sl13⟩) (c13 : PySem.W.codeIn K cd13 "lies_in_both" = true) (k13 : PySem.W.keepIn K (.ref f13) = true)
    (a15 : PySem.W.nsIn K mainGlobals "_law_bag" = some (some (.ref f15))) (l15 : K.lookup f15 = some ⟨oc15, o15, .func (PySem.W.fnOf "_law_bag" "_law_bag" (defArgs s_law_bag) (defBody s_law_bag) (defScope s_law_bag) .none kV15 dc15 pm15 n15 cd15 ct15), sl15⟩) (c15 : PySem.W.codeIn K cd15 "_law_bag" = true) (k15 : PySem.W.keepIn K (.ref f15) = true)
    (a16 : PySem.W.nsIn K mainGlobals "_law_take" = some (some (.ref f16))) (l16 : K.lookup f16 = some ⟨oc16, o16, .func (PySem.W.fnOf "_law_take" "_law_take" (defArgs s_law_take) (defBody s_law_take) (defScope s_law_take) .none kV16 dc16 pm16 n16 cd16 ct16), sl16⟩) (c16 : PySem.W.codeIn K cd16 "_law_take" = true) (k16 : PySem.W.keepIn K (.ref f16) = true)
    (a17 : PySem.W.nsIn K mainGlobals "_law_some" = some (some (.ref f17))) (l17 : K.lookup f17 = some ⟨oc17, o17, .func (PySem.W.fnOf "_law_some" "_law_some" (defArgs s_law_some) (defBody s_law_some) (defScope s_law_some) .none kV17 dc17 pm17 n17 cd17 ct17), sl17⟩) (c17 : PySem.W.codeIn K cd17 "_law_some" = true) (k17 : PySem.W.keepIn K (.ref f17) = true)
    (a18 : PySem.W.nsIn K mainGlobals "_law_alike" = some (some (.ref f18))) (l18 : K.lookup f18 = some ⟨oc18, o18, .func (PySem.W.fnOf "_law_alike" "_law_alike" (defArgs s_law_alike) (defBody s_law_alike) (defScope s_law_alike) .none kV18 dc18 pm18 n18 cd18 ct18), sl18⟩) (c18 : PySem.W.codeIn K cd18 "_law_alike" = true) (k18 : PySem.W.keepIn K (.ref f18) = true)
    (a19 : PySem.W.nsIn K mainGlobals "_law_mask" = some (some (.ref f19))) (l19 : K.lookup f19 = some ⟨oc19, o19, .func (PySem.W.fnOf "_law_mask" "_law_mask" (defArgs s_law_mask) (defBody s_law_mask) (defScope s_law_mask) .none kV19 dc19 pm19 n19 cd19 ct19), sl19⟩) (c19 : PySem.W.codeIn K cd19 "_law_mask" = true) (k19 : PySem.W.keepIn K (.ref f19) = true)
    (a20 : PySem.W.nsIn K mainGlobals "_law_row" = some (some (.ref f20))) (l20 : K.lookup f20 = some ⟨oc20, o20, .func (PySem.W.fnOf "_law_row" "_law_row" (defArgs s_law_row) (defBody s_law_row) (defScope s_law_row) .none kV20 dc20 pm20 n20 cd20 ct20), sl20⟩) (c20 : PySem.W.codeIn K cd20 "_law_row" = true) (k20 : PySem.W.keepIn K (.ref f20) = true)
    (a21 : PySem.W.nsIn K mainGlobals "_law_worth" = some (some (.ref f21))) (l21 : K.lookup f21 = some ⟨oc21, o21, .func (PySem.W.fnOf "_law_worth" "_law_worth" (defArgs s_law_worth) (defBody s_law_worth) (defScope s_law_worth) .none kV21 dc21 pm21 n21 cd21 ct21), sl21⟩) (c21 : PySem.W.codeIn K cd21 "_law_worth" = true) (k21 : PySem.W.keepIn K (.ref f21) = true)
    (a22 : PySem.W.nsIn K mainGlobals "_law_room" = some (some (.ref f22))) (l22 : K.lookup f22 = some ⟨oc22, o22, .func (PySem.W.fnOf "_law_room" "_law_room" (defArgs s_law_room) (defBody s_law_room) (defScope s_law_room) .none kV22 dc22 pm22 n22 cd22 ct22), sl22⟩) (c22 : PySem.W.codeIn K cd22 "_law_room" = true) (k22 : PySem.W.keepIn K (.ref f22) = true)
    (a23 : PySem.W.nsIn K mainGlobals "_law_held" = some (some (.ref f23))) (l23 : K.lookup f23 = some ⟨oc23, o23, .func (PySem.W.fnOf "_law_held" "_law_held" (defArgs s_law_held) (defBody s_law_held) (defScope s_law_held) .none kV23 dc23 pm23 n23 cd23 ct23), sl23⟩) (c23 : PySem.W.codeIn K cd23 "_law_held" = true) (k23 : PySem.W.keepIn K (.ref f23) = true)
    (a24 : PySem.W.nsIn K mainGlobals "_law_in" = some (some (.ref f24))) (l24 : K.lookup f24 = some ⟨oc24, o24, .func (PySem.W.fnOf "_law_in" "_law_in" (defArgs s_law_in) (defBody s_law_in) (defScope s_law_in) .none kV24 dc24 pm24 n24 cd24 ct24), sl24⟩) (c24 : PySem.W.codeIn K cd24 "_law_in" = true) (k24 : PySem.W.keepIn K (.ref f24) = true)
    (a25 : PySem.W.nsIn K mainGlobals "_law_flat_of" = some (some (.ref f25))) (l25 : K.lookup f25 = some ⟨oc25, o25, .func (PySem.W.fnOf "_law_flat_of" "_law_flat_of" (defArgs s_law_flat_of) (defBody s_law_flat_of) (defScope s_law_flat_of) .none kV25 dc25 pm25 n25 cd25 ct25), sl25⟩) (c25 : PySem.W.codeIn K cd25 "_law_flat_of" = true) (k25 : PySem.W.keepIn K (.ref f25) = true)
    (a26 : PySem.W.nsIn K mainGlobals "_law_told" = some (some (.ref f26))) (l26 : K.lookup f26 = some ⟨oc26, o26, .func (PySem.W.fnOf "_law_told" "_law_told" (defArgs s_law_told) (defBody s_law_told) (defScope s_law_told) .none kV26 dc26 pm26 n26 cd26 ct26), sl26⟩) (c26 : PySem.W.codeIn K cd26 "_law_told" = true) (k26 : PySem.W.keepIn K (.ref f26) = true)
    (a27 : PySem.W.nsIn K mainGlobals "_law_halves" = some (some (.ref f27))) (l27 : K.lookup f27 = some ⟨oc27, o27, .func (PySem.W.fnOf "_law_halves" "_law_halves" (defArgs s_law_halves) (defBody s_law_halves) (defScope s_law_halves) .none kV27 dc27 pm27 n27 cd27 ct27), sl27⟩) (c27 : PySem.W.codeIn K cd27 "_law_halves" = true) (k27 : PySem.W.keepIn K (.ref f27) = true)
    (a28 : PySem.W.nsIn K mainGlobals "_law_any_row" = some (some (.ref f28))) (l28 : K.lookup f28 = some ⟨oc28, o28, .func (PySem.W.fnOf "_law_any_row" "_law_any_row" (defArgs s_law_any_row) (defBody s_law_any_row) (defScope s_law_any_row) .none kV28 dc28 pm28 n28 cd28 ct28), sl28⟩) (c28 : PySem.W.codeIn K cd28 "_law_any_row" = true) (k28 : PySem.W.keepIn K (.ref f28) = true)
    (a29 : PySem.W.nsIn K mainGlobals "_law_drawn_flat" = some (some (.ref f29))) (l29 : K.lookup f29 = some ⟨oc29, o29, .func (PySem.W.fnOf "_law_drawn_flat" "_law_drawn_flat" (defArgs s_law_drawn_flat) (defBody s_law_drawn_flat) (defScope s_law_drawn_flat) .none kV29 dc29 pm29 n29 cd29 ct29), sl29⟩) (c29 : PySem.W.codeIn K cd29 "_law_drawn_flat" = true) (k29 : PySem.W.keepIn K (.ref f29) = true)
    (a30 : PySem.W.nsIn K mainGlobals "_law_new_row" = some (some (.ref f30))) (l30 : K.lookup f30 = some ⟨oc30, o30, .func (PySem.W.fnOf "_law_new_row" "_law_new_row" (defArgs s_law_new_row) (defBody s_law_new_row) (defScope s_law_new_row) .none kV30 dc30 pm30 n30 cd30 ct30), sl30⟩) (c30 : PySem.W.codeIn K cd30 "_law_new_row" = true) (k30 : PySem.W.keepIn K (.ref f30) = true)
    (a31 : PySem.W.nsIn K mainGlobals "_law_wider" = some (some (.ref f31))) (l31 : K.lookup f31 = some ⟨oc31, o31, .func (PySem.W.fnOf "_law_wider" "_law_wider" (defArgs s_law_wider) (defBody s_law_wider) (defScope s_law_wider) .none kV31 dc31 pm31 n31 cd31 ct31), sl31⟩) (c31 : PySem.W.codeIn K cd31 "_law_wider" = true) (k31 : PySem.W.keepIn K (.ref f31) = true)
    (a32 : PySem.W.nsIn K mainGlobals "_law_rows_beside" = some (some (.ref f32))) (l32 : K.lookup f32 = some ⟨oc32, o32, .func (PySem.W.fnOf "_law_rows_beside" "_law_rows_beside" (defArgs s_law_rows_beside) (defBody s_law_rows_beside) (defScope s_law_rows_beside) .none kV32 dc32 pm32 n32 cd32 ct32), sl32⟩) (c32 : PySem.W.codeIn K cd32 "_law_rows_beside" = true) (k32 : PySem.W.keepIn K (.ref f32) = true)
    (a33 : PySem.W.nsIn K mainGlobals "_law_cut_due" = some (some (.ref f33))) (l33 : K.lookup f33 = some ⟨oc33, o33, .func (PySem.W.fnOf "_law_cut_due" "_law_cut_due" (defArgs s_law_cut_due) (defBody s_law_cut_due) (defScope s_law_cut_due) .none kV33 dc33 pm33 n33 cd33 ct33), sl33⟩) (c33 : PySem.W.codeIn K cd33 "_law_cut_due" = true) (k33 : PySem.W.keepIn K (.ref f33) = true)
    (a34 : PySem.W.nsIn K mainGlobals "_law_three_flats" = some (some (.ref f34))) (l34 : K.lookup f34 = some ⟨oc34, o34, .func (PySem.W.fnOf "_law_three_flats" "_law_three_flats" (defArgs s_law_three_flats) (defBody s_law_three_flats) (defScope s_law_three_flats) .none kV34 dc34 pm34 n34 cd34 ct34), sl34⟩) (c34 : PySem.W.codeIn K cd34 "_law_three_flats" = true) (k34 : PySem.W.keepIn K (.ref f34) = true)
    (a35 : PySem.W.nsIn K mainGlobals "law" = some (some (.ref f35))) (l35 : K.lookup f35 = some ⟨oc35, o35, .func (PySem.W.fnOf "law" "law" (defArgs s_law) (defBody s_law) (defScope s_law) .none kV35 dc35 pm35 n35 cd35 ct35), sl35⟩) (c35 : PySem.W.codeIn K cd35 "law" = true) (k35 : PySem.W.keepIn K (.ref f35) = true)
    (z0 : PySem.W.nsIn K mainGlobals "abs" = some none) (z1 : PySem.W.nsIn K mainGlobals "all" = some none) (z2 : PySem.W.nsIn K mainGlobals "int" = some none) (z3 : PySem.W.nsIn K mainGlobals "len" = some none) (z4 : PySem.W.nsIn K mainGlobals "list" = some none) (z5 : PySem.W.nsIn K mainGlobals "range" = some none) (z6 : PySem.W.nsIn K mainGlobals "repr" = some none) (z7 : PySem.W.nsIn K mainGlobals "sorted" = some none) (z8 : PySem.W.nsIn K mainGlobals "sum" = some none) (z9 : PySem.W.nsIn K mainGlobals "tuple" = some none)
    (hψ : ∀ ns : List Int, ns.length ≤ 63 → ∃ ρ', b_law (lawEn 12 1 ns) = some (.ret (.bool true) ρ')) :
    ∃ fd : FuncData, (∀ (s : Shared) (v : Value), BindsTo s fd ⟨[v], []⟩ [("script", v)]) ∧ ∀ base : Heap, K.In base → base.Ns mainGlobals mg → FnG l.prog w K mg base 8 fa fd ["script"] (spLaw K) := by
  have e := hfa.symm.trans (PySem.W.mg_of X G a35)
  cases e
  let T : Tx K mg := {
    a_plus := f1, d_plus := _, F_plus := fun_mk (st := s_plus) l1 c1 k1, g_plus := PySem.W.mg_of X G a1, B_plus := ((fun_mk (st := s_plus) l1 c1 k1).binds (ps := ["one", "other"]) fun _ _ _ _ _ _ us hl => match us, hl with | [_, _], _ => rfl),
    a_together := f2, d_together := _, F_together := fun_mk (st := s_together) l2 c2 k2, g_together := PySem.W.mg_of X G a2, B_together := ((fun_mk (st := s_together) l2 c2 k2).binds (ps := ["sums"]) fun _ _ _ _ _ _ us hl => match us, hl with | [_], _ => rfl),
    a_led_by := f4, d_led_by := _, F_led_by := fun_mk (st := s_led_by) l4 c4 k4, g_led_by := PySem.W.mg_of X G a4, B_led_by := ((fun_mk (st := s_led_by) l4 c4 k4).binds (ps := ["flat", "row"]) fun _ _ _ _ _ _ us hl => match us, hl with | [_, _], _ => rfl),
    a_put_in := f5, d_put_in := _, F_put_in := fun_mk (st := s_put_in) l5 c5 k5, g_put_in := PySem.W.mg_of X G a5, B_put_in := ((fun_mk (st := s_put_in) l5 c5 k5).binds (ps := ["flat", "row", "bit"]) fun _ _ _ _ _ _ us hl => match us, hl with | [_, _, _], _ => rfl),
    a_reduced := f6, d_reduced := _, F_reduced := fun_mk (st := s_reduced) l6 c6 k6, g_reduced := PySem.W.mg_of X G a6, B_reduced := ((fun_mk (st := s_reduced) l6 c6 k6).binds (ps := ["flat", "row"]) fun _ _ _ _ _ _ us hl => match us, hl with | [_, _], _ => rfl),
    a_told_on := f7, d_told_on := _, F_told_on := fun_mk (st := s_told_on) l7 c7 k7, g_told_on := PySem.W.mg_of X G a7, B_told_on := ((fun_mk (st := s_told_on) l7 c7 k7).binds (ps := ["flat", "row"]) fun _ _ _ _ _ _ us hl => match us, hl with | [_, _], _ => rfl),
    a_lies_in := f8, d_lies_in := _, F_lies_in := fun_mk (st := s_lies_in) l8 c8 k8, g_lies_in := PySem.W.mg_of X G a8, B_lies_in := ((fun_mk (st := s_lies_in) l8 c8 k8).binds (ps := ["one", "other"]) fun _ _ _ _ _ _ us hl => match us, hl with | [_, _], _ => rfl),
    a_meet := f9, d_meet := _, F_meet := fun_mk (st := s_meet) l9 c9 k9, g_meet := PySem.W.mg_of X G a9, B_meet := ((fun_mk (st := s_meet) l9 c9 k9).binds (ps := ["one", "other"]) fun _ _ _ _ _ _ us hl => match us, hl with | [_, _], _ => rfl),
    a_new_row := f11, d_new_row := _, F_new_row := fun_mk (st := s_new_row) l11 c11 k11, g_new_row := PySem.W.mg_of X G a11, B_new_row := ((fun_mk (st := s_new_row) l11 c11 k11).binds (ps := ["flat", "half"]) fun _ _ _ _ _ _ us hl => match us, hl with | [_, _], _ => rfl),
    a_cut_by := f12, d_cut_by := _, F_cut_by := fun_mk (st := s_cut_by) l12 c12 k12, g_cut_by := PySem.W.mg_of X G a12, B_cut_by := ((fun_mk (st := s_cut_by) l12 c12 k12).binds (ps := ["flat", "one", "other"]) fun _ _ _ _ _ _ us hl => match us, hl with | [_, _, _], _ => rfl),
    a_lies_in_both := f13, d_lies_in_both := _, F_lies_in_both := fun_mk (st := s_lies_in_both) l13 c13 k13, g_lies_in_both := PySem.W.mg_of X G a13, B_lies_in_both := ((fun_mk (st := s_lies_in_both) l13 c13 k13).binds (ps := ["flat", "one", "other"]) fun _ _ _ _ _ _ us hl => match us, hl with | [_, _, _], _ => rfl),
    a_law_bag := f15, d_law_bag := _, F_law_bag := fun_mk (st := s_law_bag) l15 c15 k15, g_law_bag := PySem.W.mg_of X G a15, B_law_bag := ((fun_mk (st := s_law_bag) l15 c15 k15).binds (ps := ["script"]) fun _ _ _ _ _ _ us hl => match us, hl with | [_], _ => rfl),
    a_law_take := f16, d_law_take := _, F_law_take := fun_mk (st := s_law_take) l16 c16 k16, g_law_take := PySem.W.mg_of X G a16, B_law_take := ((fun_mk (st := s_law_take) l16 c16 k16).binds (ps := ["bag", "many"]) fun _ _ _ _ _ _ us hl => match us, hl with | [_, _], _ => rfl),
    a_law_some := f17, d_law_some := _, F_law_some := fun_mk (st := s_law_some) l17 c17 k17, g_law_some := PySem.W.mg_of X G a17, B_law_some := ((fun_mk (st := s_law_some) l17 c17 k17).binds (ps := ["bag", "things"]) fun _ _ _ _ _ _ us hl => match us, hl with | [_, _], _ => rfl),
    a_law_alike := f18, d_law_alike := _, F_law_alike := fun_mk (st := s_law_alike) l18 c18 k18, g_law_alike := PySem.W.mg_of X G a18, B_law_alike := ((fun_mk (st := s_law_alike) l18 c18 k18).binds (ps := ["found", "due"]) fun _ _ _ _ _ _ us hl => match us, hl with | [_, _], _ => rfl),
    a_law_mask := f19, d_law_mask := _, F_law_mask := fun_mk (st := s_law_mask) l19 c19 k19, g_law_mask := PySem.W.mg_of X G a19, B_law_mask := ((fun_mk (st := s_law_mask) l19 c19 k19).binds (ps := ["row"]) fun _ _ _ _ _ _ us hl => match us, hl with | [_], _ => rfl),
    a_law_row := f20, d_law_row := _, F_law_row := fun_mk (st := s_law_row) l20 c20 k20, g_law_row := PySem.W.mg_of X G a20, B_law_row := ((fun_mk (st := s_law_row) l20 c20 k20).binds (ps := ["mask"]) fun _ _ _ _ _ _ us hl => match us, hl with | [_], _ => rfl),
    a_law_worth := f21, d_law_worth := _, F_law_worth := fun_mk (st := s_law_worth) l21 c21 k21, g_law_worth := PySem.W.mg_of X G a21, B_law_worth := ((fun_mk (st := s_law_worth) l21 c21 k21).binds (ps := ["row", "bits"]) fun _ _ _ _ _ _ us hl => match us, hl with | [_, _], _ => rfl),
    a_law_room := f22, d_law_room := _, F_law_room := fun_mk (st := s_law_room) l22 c22 k22, g_law_room := PySem.W.mg_of X G a22, B_law_room := ((fun_mk (st := s_law_room) l22 c22 k22).binds (ps := ["many"]) fun _ _ _ _ _ _ us hl => match us, hl with | [_], _ => rfl),
    a_law_held := f23, d_law_held := _, F_law_held := fun_mk (st := s_law_held) l23 c23 k23, g_law_held := PySem.W.mg_of X G a23, B_law_held := ((fun_mk (st := s_law_held) l23 c23 k23).binds (ps := ["room", "line"]) fun _ _ _ _ _ _ us hl => match us, hl with | [_, _], _ => rfl),
    a_law_in := f24, d_law_in := _, F_law_in := fun_mk (st := s_law_in) l24 c24 k24, g_law_in := PySem.W.mg_of X G a24, B_law_in := ((fun_mk (st := s_law_in) l24 c24 k24).binds (ps := ["room", "flat"]) fun _ _ _ _ _ _ us hl => match us, hl with | [_, _], _ => rfl),
    a_law_flat_of := f25, d_law_flat_of := _, F_law_flat_of := fun_mk (st := s_law_flat_of) l25 c25 k25, g_law_flat_of := PySem.W.mg_of X G a25, B_law_flat_of := ((fun_mk (st := s_law_flat_of) l25 c25 k25).binds (ps := ["lines"]) fun _ _ _ _ _ _ us hl => match us, hl with | [_], _ => rfl),
    a_law_told := f26, d_law_told := _, F_law_told := fun_mk (st := s_law_told) l26 c26 k26, g_law_told := PySem.W.mg_of X G a26, B_law_told := ((fun_mk (st := s_law_told) l26 c26 k26).binds (ps := ["flat", "row"]) fun _ _ _ _ _ _ us hl => match us, hl with | [_, _], _ => rfl),
    a_law_halves := f27, d_law_halves := _, F_law_halves := fun_mk (st := s_law_halves) l27 c27 k27, g_law_halves := PySem.W.mg_of X G a27, B_law_halves := ((fun_mk (st := s_law_halves) l27 c27 k27).binds (ps := ["flat", "row"]) fun _ _ _ _ _ _ us hl => match us, hl with | [_, _], _ => rfl),
    a_law_any_row := f28, d_law_any_row := _, F_law_any_row := fun_mk (st := s_law_any_row) l28 c28 k28, g_law_any_row := PySem.W.mg_of X G a28, B_law_any_row := ((fun_mk (st := s_law_any_row) l28 c28 k28).binds (ps := ["bag", "many"]) fun _ _ _ _ _ _ us hl => match us, hl with | [_, _], _ => rfl),
    a_law_drawn_flat := f29, d_law_drawn_flat := _, F_law_drawn_flat := fun_mk (st := s_law_drawn_flat) l29 c29 k29, g_law_drawn_flat := PySem.W.mg_of X G a29, B_law_drawn_flat := ((fun_mk (st := s_law_drawn_flat) l29 c29 k29).binds (ps := ["bag", "many", "most"]) fun _ _ _ _ _ _ us hl => match us, hl with | [_, _, _], _ => rfl),
    a_law_new_row := f30, d_law_new_row := _, F_law_new_row := fun_mk (st := s_law_new_row) l30 c30 k30, g_law_new_row := PySem.W.mg_of X G a30, B_law_new_row := ((fun_mk (st := s_law_new_row) l30 c30 k30).binds (ps := ["bag", "many", "flat"]) fun _ _ _ _ _ _ us hl => match us, hl with | [_, _, _], _ => rfl),
    a_law_wider := f31, d_law_wider := _, F_law_wider := fun_mk (st := s_law_wider) l31 c31 k31, g_law_wider := PySem.W.mg_of X G a31, B_law_wider := ((fun_mk (st := s_law_wider) l31 c31 k31).binds (ps := ["bag", "flat"]) fun _ _ _ _ _ _ us hl => match us, hl with | [_, _], _ => rfl),
    a_law_rows_beside := f32, d_law_rows_beside := _, F_law_rows_beside := fun_mk (st := s_law_rows_beside) l32 c32 k32, g_law_rows_beside := PySem.W.mg_of X G a32, B_law_rows_beside := ((fun_mk (st := s_law_rows_beside) l32 c32 k32).binds (ps := ["many", "flat"]) fun _ _ _ _ _ _ us hl => match us, hl with | [_, _], _ => rfl),
    a_law_cut_due := f33, d_law_cut_due := _, F_law_cut_due := fun_mk (st := s_law_cut_due) l33 c33 k33, g_law_cut_due := PySem.W.mg_of X G a33, B_law_cut_due := ((fun_mk (st := s_law_cut_due) l33 c33 k33).binds (ps := ["room", "flat", "one", "other"]) fun _ _ _ _ _ _ us hl => match us, hl with | [_, _, _, _], _ => rfl),
    a_law_three_flats := f34, d_law_three_flats := _, F_law_three_flats := fun_mk (st := s_law_three_flats) l34 c34 k34, g_law_three_flats := PySem.W.mg_of X G a34, B_law_three_flats := ((fun_mk (st := s_law_three_flats) l34 c34 k34).binds (ps := ["bag", "many"]) fun _ _ _ _ _ _ us hl => match us, hl with | [_, _], _ => rfl),
    a_law := fa, d_law := _, F_law := fun_mk (st := s_law) l35 c35 k35, g_law := PySem.W.mg_of X G a35, B_law := ((fun_mk (st := s_law) l35 c35 k35).binds (ps := ["script"]) fun _ _ _ _ _ _ us hl => match us, hl with | [_], _ => rfl),
    z_abs := PySem.W.mg_none_of X G z0, z_all := PySem.W.mg_none_of X G z1, z_int := PySem.W.mg_none_of X G z2, z_len := PySem.W.mg_none_of X G z3, z_list := PySem.W.mg_none_of X G z4, z_range := PySem.W.mg_none_of X G z5, z_repr := PySem.W.mg_none_of X G z6, z_sorted := PySem.W.mg_none_of X G z7, z_sum := PySem.W.mg_none_of X G z8, z_tuple := PySem.W.mg_none_of X G z9 }
  exact ⟨_, fun s v => .of_eq rfl, fun base _ _ => ok_law T hψ⟩
end Lk14
end

open PySem PySem.W PyProof.Rows
set_option maxHeartbeats 0 in
theorem PySem.Challenge.cw_eithersums_k14_two_flats_together_holds : PySem.Challenge.rw_eithersums_k14_two_flats_together.Holds := by
  w_on; o_law; k_head; (case hw => w_witness2)
  k_fill
  refine DL.walkG (l := PySem.Challenge.rw_eithersums_k14_two_flats_together) (k := 8) (x := "script") rfl rfl ⟨rfl, by decide, by decide⟩ (fun w h Y => PySem.W.kIn_of Y) ?F
  case F =>
    intro w mg fa h KX G hmg
    refine' Lk14.all_mk KX G hmg ?a1 ?l1 ?c1 ?k1 ?a2 ?l2 ?c2 ?k2 ?a4 ?l4 ?c4 ?k4 ?a5 ?l5 ?c5 ?k5 ?a6 ?l6 ?c6 ?k6 ?a7 ?l7 ?c7 ?k7 ?a8 ?l8 ?c8 ?k8 ?a9 ?l9 ?c9 ?k9 ?a11 ?l11 ?c11 ?k11 ?a12 ?l12 ?c12 ?k12 ?a13 ?l13 ?c13 ?k13 ?a15 ?l15 ?c15 ?k15 ?a16 ?l16 ?c16 ?k16 ?a17 ?l17 ?c17 ?k17 ?a18 ?l18 ?c18 ?k18 ?a19 ?l19 ?c19 ?k19 ?a20 ?l20 ?c20 ?k20 ?a21 ?l21 ?c21 ?k21 ?a22 ?l22 ?c22 ?k22 ?a23 ?l23 ?c23 ?k23 ?a24 ?l24 ?c24 ?k24 ?a25 ?l25 ?c25 ?k25 ?a26 ?l26 ?c26 ?k26 ?a27 ?l27 ?c27 ?k27 ?a28 ?l28 ?c28 ?k28 ?a29 ?l29 ?c29 ?k29 ?a30 ?l30 ?c30 ?k30 ?a31 ?l31 ?c31 ?k31 ?a32 ?l32 ?c32 ?k32 ?a33 ?l33 ?c33 ?k33 ?a34 ?l34 ?c34 ?k34 ?a35 ?l35 ?c35 ?k35 ?z0 ?z1 ?z2 ?z3 ?z4 ?z5 ?z6 ?z7 ?z8 ?z9 Lk14.law_true
    (case a1 => k_is); (case l1 => k_is); (case c1 => k_is); (case k1 => k_is); (case a2 => k_is); (case l2 => k_is); (case c2 => k_is); (case k2 => k_is)
    (case a4 => k_is); (case l4 => k_is); (case c4 => k_is); (case k4 => k_is); (case a5 => k_is); (case l5 => k_is); (case c5 => k_is); (case k5 => k_is)
    (case a6 => k_is); (case l6 => k_is); (case c6 => k_is); (case k6 => k_is); (case a7 => k_is); (case l7 => k_is); (case c7 => k_is); (case k7 => k_is)
    (case a8 => k_is); (case l8 => k_is); (case c8 => k_is); (case k8 => k_is); (case a9 => k_is); (case l9 => k_is); (case c9 => k_is); (case k9 => k_is)
    (case a11 => k_is); (case l11 => k_is); (case c11 => k_is); (case k11 => k_is); (case a12 => k_is); (case l12 => k_is); (case c12 => k_is); (case k12 => k_is)
    (case a13 => k_is); (case l13 => k_is); (case c13 => k_is); (case k13 => k_is); (case a15 => k_is); (case l15 => k_is); (case c15 => k_is); (case k15 => k_is)
    (case a16 => k_is); (case l16 => k_is); (case c16 => k_is); (case k16 => k_is); (case a17 => k_is); (case l17 => k_is); (case c17 => k_is); (case k17 => k_is)
    (case a18 => k_is); (case l18 => k_is); (case c18 => k_is); (case k18 => k_is); (case a19 => k_is); (case l19 => k_is); (case c19 => k_is); (case k19 => k_is)
    (case a20 => k_is); (case l20 => k_is); (case c20 => k_is); (case k20 => k_is); (case a21 => k_is); (case l21 => k_is); (case c21 => k_is); (case k21 => k_is)
    (case a22 => k_is); (case l22 => k_is); (case c22 => k_is); (case k22 => k_is); (case a23 => k_is); (case l23 => k_is); (case c23 => k_is); (case k23 => k_is)
    (case a24 => k_is); (case l24 => k_is); (case c24 => k_is); (case k24 => k_is); (case a25 => k_is); (case l25 => k_is); (case c25 => k_is); (case k25 => k_is)
    (case a26 => k_is); (case l26 => k_is); (case c26 => k_is); (case k26 => k_is); (case a27 => k_is); (case l27 => k_is); (case c27 => k_is); (case k27 => k_is)
    (case a28 => k_is); (case l28 => k_is); (case c28 => k_is); (case k28 => k_is); (case a29 => k_is); (case l29 => k_is); (case c29 => k_is); (case k29 => k_is)
    (case a30 => k_is); (case l30 => k_is); (case c30 => k_is); (case k30 => k_is); (case a31 => k_is); (case l31 => k_is); (case c31 => k_is); (case k31 => k_is)
    (case a32 => k_is); (case l32 => k_is); (case c32 => k_is); (case k32 => k_is); (case a33 => k_is); (case l33 => k_is); (case c33 => k_is); (case k33 => k_is)
    (case a34 => k_is); (case l34 => k_is); (case c34 => k_is); (case k34 => k_is); (case a35 => k_is); (case l35 => k_is); (case c35 => k_is); (case k35 => k_is)
    (case z0 => k_is); (case z1 => k_is); (case z2 => k_is); (case z3 => k_is); (case z4 => k_is); (case z5 => k_is); (case z6 => k_is); (case z7 => k_is)
    (case z8 => k_is); (case z9 => k_is)
