import PyProof.Rows.All
import Wide.All
import OpenK.AllK
import Wide.FinOn
import HandS.ForMost
import HandS.Star
import HandS.WideBits
import HandS.TupAny
import HandS.Deep
import HandS.Zip
import PySem.Challenge.RW_eithersums_k31_heights_and_leaves
set_option Elab.async false
set_option linter.all false
set_option maxRecDepth 100000
set_option maxHeartbeats 1000000
/-! DL1: data that values stand for, heaps that grow, the relation between slots and data. -/
namespace DL
open PySem PySem.Spec PyProof.Rows L2

def Ex (H H' : Hp) : Prop := ∀ a o, H a = some o → H' a = some o
theorem Ex.refl (H : Hp) : Ex H H := fun _ _ h => h
theorem Ex.trans {H H1 H2 : Hp} (p : Ex H H1) (q : Ex H1 H2) : Ex H H2 := fun a o h => q a o (p a o h)
theorem Ex.new {H : Hp} {p : Addr} {o : HO} (h : H p = none) : Ex H (upd H p o) := fun a u e => by
  by_cases q : a = p
  · subst q; rw [h] at e; cases e
  · rw [upd_ne q]; exact e
theorem Ex.none {H H' : Hp} (e : Ex H H') {a : Addr} (h : H' a = none) : H a = none := by
  cases q : H a with
  | none => rfl
  | some o => rw [e a o q] at h; cases h
theorem Ex.both {H H' : Hp} {p : Addr} {o : HO} (e : Ex H H') (h : H' p = Option.none) : Ex (upd H p o) (upd H' p o) := fun a u q => by
  by_cases r : a = p
  · subst r; rw [upd_same] at q ⊢; exact q
  · rw [upd_ne r] at q ⊢; exact e a u q
theorem Ex.side {H H' : Hp} {p : Addr} {o : HO} (e : Ex H H') (h : H p = Option.none) : Ex H (upd H' p o) := fun a u q => by
  by_cases r : a = p
  · subst r; rw [h] at q; cases q
  · rw [upd_ne r]; exact e a u q
theorem Ex.rd {H H' : Hp} (e : Ex H H') {a : Addr} {u : HO} (h : Rd H a u) : Rd H' a u := by
  rcases h with h | ⟨o, h⟩
  · exact .inl (e _ _ h)
  · exact .inr ⟨o, e _ _ h⟩
theorem Ex.sqL {K : PySem.W.Frag} {H H' : Hp} (e : Ex H H') {a : Addr} {xs : List V} (h : SqL K H a xs) : SqL K H' a xs := by
  rcases h with h | h
  · exact .inl (e.rd h)
  · exact .inr h
theorem Ex.sqT {K : PySem.W.Frag} {H H' : Hp} (e : Ex H H') {a : Addr} {xs : List V} (h : SqT K H a xs) : SqT K H' a xs := by
  rcases h with h | h
  · exact .inl (e.rd h)
  · exact .inr h

/-- the data of a key -/
def kD : Key → PyData
  | .inl i => .int i
  | .inr x => .str x

mutual
inductive Dr (K : PySem.W.Frag) (H : Hp) : V → PyData → Prop
  | non : Dr K H .non .none
  | bl (b : Bool) : Dr K H (.bl b) (.bool b)
  | int (i : Int) : Dr K H (.int i) (.int i)
  | str (x : Str) : Dr K H (.str x) (.str x)
  | lst {a : Addr} {xs : List V} {ds : List PyData} : H a = some (.lst xs) → xs.length ≤ sizeLine → DrAll K H xs ds → Dr K H (.ref a) (.list ds)
  | tup {a : Addr} {xs : List V} {ds : List PyData} : SqT K H a xs → xs.length ≤ sizeLine → DrAll K H xs ds → Dr K H (.ref a) (.tuple ds)
  | dk {a : Addr} {kvs : List (Key × V)} {ps : List (PyData × PyData)} : Rd H a (.dK kvs) → kvs.length ≤ sizeLine → DrKv K H kvs ps → Dr K H (.ref a) (.dict ps)
inductive DrAll (K : PySem.W.Frag) (H : Hp) : List V → List PyData → Prop
  | nil : DrAll K H [] []
  | cons {v : V} {vs : List V} {d : PyData} {ds : List PyData} : Dr K H v d → DrAll K H vs ds → DrAll K H (v :: vs) (d :: ds)
inductive DrKv (K : PySem.W.Frag) (H : Hp) : List (Key × V) → List (PyData × PyData) → Prop
  | nil : DrKv K H [] []
  | cons {k : Key} {v : V} {kvs : List (Key × V)} {d : PyData} {ps : List (PyData × PyData)} : Dr K H v d → DrKv K H kvs ps → DrKv K H ((k, v) :: kvs) ((kD k, d) :: ps)
end

section
variable {K : PySem.W.Frag} {H H' : Hp}
mutual
theorem Dr.mono (e : Ex H H') : ∀ {v : V} {d : PyData}, Dr K H v d → Dr K H' v d
  | _, _, .non => .non
  | _, _, .bl b => .bl b
  | _, _, .int i => .int i
  | _, _, .str x => .str x
  | _, _, .lst h z t => .lst (e _ _ h) z (DrAll.mono e t)
  | _, _, .tup h z t => .tup (e.sqT h) z (DrAll.mono e t)
  | _, _, .dk h z t => .dk (e.rd h) z (DrKv.mono e t)
theorem DrAll.mono (e : Ex H H') : ∀ {vs : List V} {ds : List PyData}, DrAll K H vs ds → DrAll K H' vs ds
  | _, _, .nil => .nil
  | _, _, .cons h t => .cons (Dr.mono e h) (DrAll.mono e t)
theorem DrKv.mono (e : Ex H H') : ∀ {kvs : List (Key × V)} {ps : List (PyData × PyData)}, DrKv K H kvs ps → DrKv K H' kvs ps
  | _, _, .nil => .nil
  | _, _, .cons h t => .cons (Dr.mono e h) (DrKv.mono e t)
end
theorem DrAll.len : ∀ {vs : List V} {ds : List PyData}, DrAll K H vs ds → vs.length = ds.length
  | _, _, .nil => rfl
  | _, _, .cons _ t => congrArg (· + 1) (DrAll.len t)
theorem DrAll.get : ∀ {vs : List V} {ds : List PyData} {i : Nat} {d : PyData}, DrAll K H vs ds → ds[i]? = some d → ∃ v, vs[i]? = some v ∧ Dr K H v d
  | _, _, i, d, .nil, e => by simp at e
  | _, _, 0, d, .cons h t, e => by
    simp only [List.getElem?_cons_zero] at e ⊢
    cases e
    exact ⟨_, rfl, h⟩
  | _, _, i + 1, d, .cons h t, e => by
    simp only [List.getElem?_cons_succ] at e ⊢
    exact DrAll.get t e
theorem DrAll.got : ∀ {vs : List V} {ds : List PyData} {i : Nat} {v : V}, DrAll K H vs ds → vs[i]? = some v → ∃ d, ds[i]? = some d ∧ Dr K H v d
  | _, _, i, d, .nil, e => by simp at e
  | _, _, 0, d, .cons h t, e => by
    simp only [List.getElem?_cons_zero] at e ⊢
    cases e
    exact ⟨_, rfl, h⟩
  | _, _, i + 1, d, .cons h t, e => by
    simp only [List.getElem?_cons_succ] at e ⊢
    exact DrAll.got t e
theorem DrAll.append : ∀ {vs ws : List V} {ds es : List PyData}, DrAll K H vs ds → DrAll K H ws es → DrAll K H (vs ++ ws) (ds ++ es)
  | _, _, _, _, .nil, s => s
  | _, _, _, _, .cons h t, s => .cons h (DrAll.append t s)
theorem DrAll.take : ∀ {vs : List V} {ds : List PyData} (n : Nat), DrAll K H vs ds → DrAll K H (vs.take n) (ds.take n)
  | _, _, 0, _ => .nil
  | _, _, _ + 1, .nil => .nil
  | _, _, n + 1, .cons h t => .cons h (DrAll.take n t)
theorem DrAll.drop : ∀ {vs : List V} {ds : List PyData} (n : Nat), DrAll K H vs ds → DrAll K H (vs.drop n) (ds.drop n)
  | _, _, 0, r => r
  | _, _, _ + 1, .nil => .nil
  | _, _, n + 1, .cons _ t => DrAll.drop n t
theorem DrAll.set {v : V} {d : PyData} (r : Dr K H v d) : ∀ {vs : List V} {ds : List PyData} (i : Nat), DrAll K H vs ds → DrAll K H (vs.set i v) (ds.set i d)
  | _, _, _, .nil => .nil
  | _, _, 0, .cons _ t => .cons r t
  | _, _, i + 1, .cons q t => .cons q (DrAll.set r i t)
theorem DrAll.ints : ∀ ns : List Int, DrAll K H (ns.map V.int) (ns.map PyData.int)
  | [] => .nil
  | n :: ns => .cons (.int n) (DrAll.ints ns)
theorem DrAll.of_ints : ∀ {vs : List V} {ns : List Int}, DrAll K H vs (ns.map PyData.int) → vs = ns.map V.int
  | vs, [], h => by
    have h' : DrAll K H vs [] := h
    cases h'
    rfl
  | vs, n :: ns, h => by
    have h' : DrAll K H vs (.int n :: ns.map PyData.int) := h
    cases h' with
    | cons a t =>
      cases a
      rw [DrAll.of_ints t]
      rfl
theorem DrAll.bools : ∀ bs : List Bool, DrAll K H (bs.map V.bl) (bs.map PyData.bool)
  | [] => .nil
  | b :: bs => .cons (.bl b) (DrAll.bools bs)
theorem DrAll.of_bools : ∀ {vs : List V} {bs : List Bool}, DrAll K H vs (bs.map PyData.bool) → vs = bs.map V.bl
  | vs, [], h => by
    have h' : DrAll K H vs [] := h
    cases h'
    rfl
  | vs, b :: bs, h => by
    have h' : DrAll K H vs (.bool b :: bs.map PyData.bool) := h
    cases h' with
    | cons a t =>
      cases a
      rw [DrAll.of_bools t]
      rfl
mutual
theorem Dr.dp : ∀ {v : V} {d : PyData}, Dr K H v d → d.hasDict = false → Dp K H v d
  | _, _, .non, _ => .non
  | _, _, .bl b, _ => .bl b
  | _, _, .int i, _ => .int i
  | _, _, .str x, _ => .str x
  | _, _, .lst h z t, q => .lst (.inl (.inl h)) (DrAll.dp t (by simpa [PyData.hasDict] using q))
  | _, _, .tup h z t, q => .tup h (DrAll.dp t (by simpa [PyData.hasDict] using q))
  | _, _, .dk h z t, q => by simp [PyData.hasDict] at q
theorem DrAll.dp : ∀ {vs : List V} {ds : List PyData}, DrAll K H vs ds → PyData.hasDictAll ds = false → DpAll K H vs ds
  | _, _, .nil, _ => .nil
  | _, _, .cons h t, q => by
    have q' := q
    simp only [PyData.hasDictAll, Bool.or_eq_false_iff] at q'
    exact .cons (Dr.dp h q'.1) (DrAll.dp t q'.2)
end
end


/-! ### slots -/
inductive Sl where
  | u | d (x : PyData) | o (x : PyData) | b (x : PyData)
def Sl.own : Sl → Option PyData
  | .o x => some x
  | .b x => some x
  | _ => none
abbrev En := List Sl
/-- a list or a dict that stands at a, written, its parts in the frozen heap -/
def OwnAt (K : PySem.W.Frag) (G H : Hp) (a : Addr) : PyData → Prop
  | .list ds => ∃ vs, H a = some (.lst vs) ∧ vs.length ≤ sizeLine ∧ DrAll K G vs ds
  | .dict ps => ∃ kvs, H a = some (.dK kvs) ∧ kvs.length ≤ sizeLine ∧ DrKv K G kvs ps
  | _ => False
structure Zn where
  G : Hp
  H : Hp
  pin : Nat → Option Addr
  io : Addr → Prop
def Owned (ρ : En) (i : Nat) : Prop := ∃ (s : Sl) (x : PyData), ρ[i]? = some s ∧ s.own = some x
structure SR (K : PySem.W.Frag) (Z : Zn) (G H : Hp) (σ : L2.St) (ρ : En) : Prop where
  len : ρ.length = σ.length
  gh : Ex G H
  zg : Ex Z.G G
  g0 : ∀ a o, Z.H a = some o → G a = Z.G a
  h0 : ∀ a o, Z.H a = some o → ¬ Z.io a → H a = some o
  h1 : ∀ a o, Z.H a = some o → ∃ o', H a = some o'
  str : ∀ (i : Nat) (x : PyData), ρ[i]? = some (.d x) → ∃ v, σ[i]? = some (some v) ∧ Dr K G v x
  own : ∀ (i : Nat) (s : Sl) (x : PyData), ρ[i]? = some s → s.own = some x → ∃ a, σ[i]? = some (some (.ref a)) ∧ G a = none ∧ OwnAt K G H a x ∧ (Z.io a ∨ Z.H a = none)
  bor : ∀ (i : Nat) (x : PyData), ρ[i]? = some (.b x) → ∃ a, Z.pin i = some a ∧ σ[i]? = some (some (.ref a))
  opin : ∀ (i : Nat) (x : PyData) (a : Addr), ρ[i]? = some (.o x) → σ[i]? = some (some (.ref a)) → ∀ j, Z.pin j ≠ some a
  zpin : ∀ (j : Nat) (a : Addr), Z.pin j = some a → ∃ o, Z.H a = some o
  inj : ∀ (i j : Nat) (a : Addr), Owned ρ i → Owned ρ j → σ[i]? = some (some (.ref a)) → σ[j]? = some (some (.ref a)) → i = j

section
variable {K : PySem.W.Frag} {Z : Zn} {G H G' H' : Hp} {σ σ' : L2.St} {ρ ρ' : En}
theorem OwnAt.mono {a : Addr} {x : PyData} (e : Ex G G') (h : H' a = H a) (o : OwnAt K G H a x) : OwnAt K G' H' a x := by
  cases x with
  | list ds => obtain ⟨vs, p, z, q⟩ := o; exact ⟨vs, h.trans p, z, q.mono e⟩
  | dict ps => obtain ⟨vs, p, z, q⟩ := o; exact ⟨vs, h.trans p, z, q.mono e⟩
  | _ => exact o
theorem OwnAt.some {a : Addr} {x : PyData} (o : OwnAt K G H a x) : ∃ u, H a = some u := by
  cases x with
  | list ds => obtain ⟨vs, p, _⟩ := o; exact ⟨_, p⟩
  | dict ps => obtain ⟨vs, p, _⟩ := o; exact ⟨_, p⟩
  | _ => exact o.elim
/-- frozen: the object joins the frozen heap -/
theorem OwnAt.frz {a : Addr} {x : PyData} {u : HO} (hg : G a = none) (hu : H a = Option.some u) (o : OwnAt K G H a x) : Dr K (upd G a u) (.ref a) x := by
  cases x with
  | list ds => obtain ⟨vs, p, z, q⟩ := o; rw [hu] at p; cases p; exact .lst upd_same z (q.mono (Ex.new hg))
  | dict ps => obtain ⟨vs, p, z, q⟩ := o; rw [hu] at p; cases p; exact .dk (.inl upd_same) z (q.mono (Ex.new hg))
  | _ => exact o.elim

/-- objects that are new to both heaps -/
inductive Al : Hp → Hp → Hp → Hp → Prop
  | refl {G H : Hp} : Al G H G H
  | one {G H : Hp} {p : Addr} {o : HO} : H p = none → Al G H (upd G p o) (upd H p o)
theorem Al.ex (e : Ex G H) (a : Al G H G' H') : Ex G G' ∧ Ex H H' ∧ Ex G' H' := by
  cases a with
  | refl => exact ⟨Ex.refl _, Ex.refl _, e⟩
  | one h => exact ⟨Ex.new (e.none h), Ex.new h, e.both h⟩
theorem SR.al (R : SR K Z G H σ ρ) (a : Al G H G' H') : SR K Z G' H' σ ρ := by
  cases a with
  | refl => exact R
  | one h =>
    rename_i p o
    have hg : G p = none := R.gh.none h
    have hz : Z.H p = none := by
      cases q : Z.H p with
      | none => rfl
      | some u => obtain ⟨u', e⟩ := R.h1 p u q; rw [h] at e; cases e
    refine ⟨R.len, R.gh.both h, R.zg.trans (Ex.new hg), fun a u e => ?_, fun a u e n => ?_, fun a u e => ?_, fun i x e => ?_, fun i s x e e2 => ?_, R.bor, R.opin, R.zpin, R.inj⟩
    · have ne : a ≠ p := fun z => by rw [z, hz] at e; cases e
      rw [upd_ne ne]; exact R.g0 a u e
    · have ne : a ≠ p := fun z => by rw [z, hz] at e; cases e
      rw [upd_ne ne]; exact R.h0 a u e n
    · have ne : a ≠ p := fun z => by rw [z, hz] at e; cases e
      rw [upd_ne ne]; exact R.h1 a u e
    · obtain ⟨v, h1, h2⟩ := R.str i x e
      exact ⟨v, h1, h2.mono (Ex.new hg)⟩
    · obtain ⟨a, h1, h2, h3, h4⟩ := R.own i s x e e2
      obtain ⟨u, hu⟩ := h3.some
      have ne : a ≠ p := fun z => by rw [z, h] at hu; cases hu
      exact ⟨a, h1, by rw [upd_ne ne]; exact h2, h3.mono (Ex.new hg) (upd_ne ne), h4⟩

theorem getElem?_set_cases {α : Type} {l : List α} {i j : Nat} {x y : α} (h : (l.set i x)[j]? = some y) : (j = i ∧ y = x) ∨ (j ≠ i ∧ l[j]? = some y) := by
  by_cases e : j = i
  · subst e
    by_cases hl : j < l.length
    · rw [List.getElem?_set_self hl] at h
      exact .inl ⟨rfl, (Option.some.inj h).symm⟩
    · rw [List.getElem?_eq_none (by rw [List.length_set]; omega)] at h
      cases h
  · rw [List.getElem?_set_ne (Ne.symm e)] at h
    exact .inr ⟨e, h⟩
/-- a slot takes data -/
theorem SR.setD {i : Nat} {v : V} {x : PyData} (R : SR K Z G H σ ρ) (r : Dr K G v x) : SR K Z G H (σ.set i (some v)) (ρ.set i (.d x)) := by
  refine ⟨by rw [List.length_set, List.length_set]; exact R.len, R.gh, R.zg, R.g0, R.h0, R.h1, fun j y e => ?_, fun j s y e e2 => ?_, fun j y e => ?_, fun j y b e e2 => ?_, R.zpin, fun j k a hj hk e1 e2 => ?_⟩
  · rcases getElem?_set_cases e with ⟨rfl, q⟩ | ⟨ne, q⟩
    · cases q
      have hl : j < ρ.length := by
        rcases Nat.lt_or_ge j ρ.length with h | h
        · exact h
        · rw [List.getElem?_eq_none (by rw [List.length_set]; exact h)] at e; cases e
      exact ⟨v, by rw [List.getElem?_set_self (by rw [← R.len]; exact hl)], r⟩
    · obtain ⟨v', h1, h2⟩ := R.str j y q
      exact ⟨v', by rw [List.getElem?_set_ne (Ne.symm ne)]; exact h1, h2⟩
  · rcases getElem?_set_cases e with ⟨rfl, q⟩ | ⟨ne, q⟩
    · subst q; cases e2
    · obtain ⟨a, h1, h2⟩ := R.own j s y q e2
      exact ⟨a, by rw [List.getElem?_set_ne (Ne.symm ne)]; exact h1, h2⟩
  · rcases getElem?_set_cases e with ⟨rfl, q⟩ | ⟨ne, q⟩
    · cases q
    · obtain ⟨a, h1, h2⟩ := R.bor j y q
      exact ⟨a, h1, by rw [List.getElem?_set_ne (Ne.symm ne)]; exact h2⟩
  · rcases getElem?_set_cases e with ⟨rfl, q⟩ | ⟨ne, q⟩
    · cases q
    · rw [List.getElem?_set_ne (Ne.symm ne)] at e2
      exact R.opin j y b q e2
  · obtain ⟨s1, x1, p1, q1⟩ := hj
    obtain ⟨s2, x2, p2, q2⟩ := hk
    rcases getElem?_set_cases p1 with ⟨rfl, q⟩ | ⟨n1, w1⟩
    · subst q; cases q1
    · rcases getElem?_set_cases p2 with ⟨rfl, q⟩ | ⟨n2, w2⟩
      · subst q; cases q2
      · rw [List.getElem?_set_ne (Ne.symm n1)] at e1
        rw [List.getElem?_set_ne (Ne.symm n2)] at e2
        exact R.inj j k a ⟨_, _, w1, q1⟩ ⟨_, _, w2, q2⟩ e1 e2
/-- a slot takes a fresh list or dict -/
theorem SR.setO {i : Nat} {a : Addr} {x : PyData} (R : SR K Z G H σ ρ) (hg : G a = none) (hz : Z.H a = none) (hn : ∀ j, Owned ρ j → σ[j]? ≠ some (some (.ref a))) (o : OwnAt K G H a x) :
    SR K Z G H (σ.set i (some (.ref a))) (ρ.set i (.o x)) := by
  refine ⟨by rw [List.length_set, List.length_set]; exact R.len, R.gh, R.zg, R.g0, R.h0, R.h1, fun j y e => ?_, fun j s y e e2 => ?_, fun j y e => ?_, fun j y c e e2 => ?_, R.zpin, fun j k b hj hk e1 e2 => ?_⟩
  · rcases getElem?_set_cases e with ⟨rfl, q⟩ | ⟨ne, q⟩
    · cases q
    · obtain ⟨v', h1, h2⟩ := R.str j y q
      exact ⟨v', by rw [List.getElem?_set_ne (Ne.symm ne)]; exact h1, h2⟩
  · rcases getElem?_set_cases e with ⟨rfl, q⟩ | ⟨ne, q⟩
    · subst q
      cases e2
      have hl : j < ρ.length := by
        rcases Nat.lt_or_ge j ρ.length with h | h
        · exact h
        · rw [List.getElem?_eq_none (by rw [List.length_set]; exact h)] at e; cases e
      exact ⟨a, by rw [List.getElem?_set_self (by rw [← R.len]; exact hl)], hg, o, .inr hz⟩
    · obtain ⟨a, h1, h2⟩ := R.own j s y q e2
      exact ⟨a, by rw [List.getElem?_set_ne (Ne.symm ne)]; exact h1, h2⟩
  · rcases getElem?_set_cases e with ⟨rfl, q⟩ | ⟨ne, q⟩
    · cases q
    · obtain ⟨a, h1, h2⟩ := R.bor j y q
      exact ⟨a, h1, by rw [List.getElem?_set_ne (Ne.symm ne)]; exact h2⟩
  · intro m hm
    rcases getElem?_set_cases e with ⟨rfl, q⟩ | ⟨ne, q⟩
    · cases q
      have hl : j < σ.length := by
        rcases Nat.lt_or_ge j σ.length with h | h
        · exact h
        · rw [List.getElem?_eq_none (by rw [List.length_set]; exact h)] at e2; cases e2
      rw [List.getElem?_set_self hl] at e2
      cases e2
      obtain ⟨o', ho'⟩ := R.zpin m _ hm
      rw [hz] at ho'; cases ho'
    · rw [List.getElem?_set_ne (Ne.symm ne)] at e2
      exact R.opin j y c q e2 m hm
  · obtain ⟨s1, x1, p1, q1⟩ := hj
    obtain ⟨s2, x2, p2, q2⟩ := hk
    rcases getElem?_set_cases p1 with ⟨r1, q⟩ | ⟨n1, w1⟩
    · rcases getElem?_set_cases p2 with ⟨r2, q'⟩ | ⟨n2, w2⟩
      · rw [r1, r2]
      · subst r1
        have hl : j < σ.length := by
          rcases Nat.lt_or_ge j σ.length with h | h
          · exact h
          · rw [List.getElem?_eq_none (by rw [List.length_set]; exact h)] at e1; cases e1
        rw [List.getElem?_set_self hl] at e1
        cases e1
        rw [List.getElem?_set_ne (Ne.symm n2)] at e2
        exact absurd e2 (hn k ⟨_, _, w2, q2⟩)
    · rcases getElem?_set_cases p2 with ⟨r2, q'⟩ | ⟨n2, w2⟩
      · subst r2
        have hl : k < σ.length := by
          rcases Nat.lt_or_ge k σ.length with h | h
          · exact h
          · rw [List.getElem?_eq_none (by rw [List.length_set]; exact h)] at e2; cases e2
        rw [List.getElem?_set_self hl] at e2
        cases e2
        rw [List.getElem?_set_ne (Ne.symm n1)] at e1
        exact absurd e1 (hn j ⟨_, _, w1, q1⟩)
      · rw [List.getElem?_set_ne (Ne.symm n1)] at e1
        rw [List.getElem?_set_ne (Ne.symm n2)] at e2
        exact R.inj j k b ⟨_, _, w1, q1⟩ ⟨_, _, w2, q2⟩ e1 e2
/-- the same kind with other content -/
def Sl.put (s : Sl) (y : PyData) : Sl := match s with
  | .o _ => .o y
  | .b _ => .b y
  | s => s
theorem Sl.put_own {s : Sl} {x : PyData} (h : s.own = some x) (y : PyData) : (s.put y).own = some y := by cases s <;> first | rfl | cases h
/-- the content of an owned slot changes, its object with it -/
theorem SR.mut {i : Nat} {s : Sl} {x y : PyData} {a : Addr} {u : HO} (R : SR K Z G H σ ρ) (hi : ρ[i]? = some s) (hs : s.own = some x) (ha : σ[i]? = some (some (.ref a))) (o : OwnAt K G (upd H a u) a y) :
    SR K Z G (upd H a u) σ (ρ.set i (s.put y)) := by
  obtain ⟨a', h1, h2, h3, h4⟩ := R.own i s x hi hs
  rw [ha] at h1; cases h1
  refine ⟨by rw [List.length_set]; exact R.len, R.gh.side h2, R.zg, R.g0, fun b w e n => ?_, fun b w e => ?_, fun j y' e => ?_, fun j s' y' e e2 => ?_, fun j y' e => ?_, fun j y' c e e2 => ?_, R.zpin, fun j k b hj hk e1 e2 => ?_⟩
  · have ne : b ≠ a := fun z => by
      subst z
      rcases h4 with h4 | h4
      · exact n h4
      · rw [h4] at e; cases e
    rw [upd_ne ne]; exact R.h0 b w e n
  · by_cases z : b = a
    · subst z; exact ⟨_, upd_same⟩
    · rw [upd_ne z]; exact R.h1 b w e
  · rcases getElem?_set_cases e with ⟨rfl, q⟩ | ⟨ne, q⟩
    · have := Sl.put_own hs y
      rw [← q] at this; cases this
    · exact R.str j y' q
  · rcases getElem?_set_cases e with ⟨rfl, q⟩ | ⟨ne, q⟩
    · have e3 := Sl.put_own hs y
      rw [← q, e2] at e3
      cases e3
      exact ⟨a, ha, h2, o, h4⟩
    · obtain ⟨b, q1, q2, q3, q4⟩ := R.own j s' y' q e2
      have nb : b ≠ a := fun z => by
        subst z
        exact ne (R.inj j i b ⟨_, _, q, e2⟩ ⟨_, _, hi, hs⟩ q1 ha)
      exact ⟨b, q1, q2, q3.mono (Ex.refl _) (upd_ne nb), q4⟩
  · rcases getElem?_set_cases e with ⟨rfl, q⟩ | ⟨ne, q⟩
    · cases s with
      | b z => exact R.bor j z hi
      | o z => cases q
      | d z => cases hs
      | u => cases hs
    · exact R.bor j y' q
  · rcases getElem?_set_cases e with ⟨rfl, q⟩ | ⟨ne, q⟩
    · cases s with
      | o z => exact R.opin j z c hi e2
      | b z => cases q
      | d z => cases hs
      | u => cases hs
    · exact R.opin j y' c q e2
  · obtain ⟨s1, x1, p1, q1⟩ := hj
    obtain ⟨s2, x2, p2, q2⟩ := hk
    have back : ∀ {m : Nat} {s3 : Sl} {x3 : PyData}, (ρ.set i (s.put y))[m]? = some s3 → s3.own = some x3 → Owned ρ m := fun {m s3 x3} p q => by
      rcases getElem?_set_cases p with ⟨rfl, _⟩ | ⟨_, w⟩
      · exact ⟨s, x, hi, hs⟩
      · exact ⟨_, _, w, q⟩
    exact R.inj j k b (back p1 q1) (back p2 q2) e1 e2
/-- forgotten slots -/
theorem SR.less {ρ2 : En} (R : SR K Z G H σ ρ) (hl : ρ2.length = ρ.length) (h : ∀ (i : Nat) (s : Sl), ρ2[i]? = some s → s = .u ∨ ρ[i]? = some s) : SR K Z G H σ ρ2 := by
  have own : ∀ i, Owned ρ2 i → Owned ρ i := fun i ⟨s, x, e, q⟩ => by
    rcases h i s e with z | z
    · subst z; cases q
    · exact ⟨s, x, z, q⟩
  refine ⟨hl.trans R.len, R.gh, R.zg, R.g0, R.h0, R.h1, fun i x e => ?_, fun i s x e q => ?_, fun i x e => ?_, fun i x a e => ?_, R.zpin, fun i j a hi hj => R.inj i j a (own i hi) (own j hj)⟩
  · rcases h i _ e with z | z
    · cases z
    · exact R.str i x z
  · rcases h i _ e with z | z
    · subst z; cases q
    · exact R.own i s x z q
  · rcases h i _ e with z | z
    · cases z
    · exact R.bor i x z
  · rcases h i _ e with z | z
    · cases z
    · exact R.opin i x a z
/-- other slots' values, the same data -/
theorem SR.slots {σ2 : L2.St} (R : SR K Z G H σ ρ) (hl : σ2.length = σ.length) (h : ∀ (i : Nat) (s : Sl) (v : Option V), ρ[i]? = some s → s ≠ .u → σ[i]? = some v → σ2[i]? = some v) : SR K Z G H σ2 ρ := by
  have ne : ∀ {s : Sl} {x : PyData}, s.own = some x → s ≠ .u := fun {s x} q z => by subst z; cases q
  refine ⟨R.len.trans hl.symm, R.gh, R.zg, R.g0, R.h0, R.h1, fun i x e => ?_, fun i s x e q => ?_, fun i x e => ?_, fun i x a e e1 => ?_, R.zpin, fun i j a hi hj e1 e2 => ?_⟩
  · obtain ⟨v, h1, h2⟩ := R.str i x e
    exact ⟨v, h i _ _ e (by intro z; cases z) h1, h2⟩
  · obtain ⟨a, h1, h2⟩ := R.own i s x e q
    exact ⟨a, h i _ _ e (ne q) h1, h2⟩
  · obtain ⟨a, h1, h2⟩ := R.bor i x e
    exact ⟨a, h1, h i _ _ e (by intro z; cases z) h2⟩
  · obtain ⟨b, h1, _⟩ := R.own i _ x e rfl
    rw [h i _ _ e (by intro z; cases z) h1] at e1
    cases e1
    exact R.opin i x _ e h1
  · obtain ⟨s1, x1, p1, q1⟩ := hi
    obtain ⟨s2, x2, p2, q2⟩ := hj
    obtain ⟨a1, r1, _⟩ := R.own i _ _ p1 q1
    obtain ⟨a2, r2, _⟩ := R.own j _ _ p2 q2
    rw [h i _ _ p1 (ne q1) r1] at e1
    rw [h j _ _ p2 (ne q2) r2] at e2
    cases e1
    cases e2
    exact R.inj i j _ ⟨_, _, p1, q1⟩ ⟨_, _, p2, q2⟩ r1 r2
/-- the zone as it stands now: what is owned may change -/
def snap (Z : Zn) (G H : Hp) (σ : L2.St) (ρ : En) : Zn := ⟨G, H, Z.pin, fun a => ∃ i, Owned ρ i ∧ σ[i]? = some (some (.ref a))⟩
theorem SR.snap (R : SR K Z G H σ ρ) : SR K (DL.snap Z G H σ ρ) G H σ ρ :=
  ⟨R.len, R.gh, Ex.refl _, fun _ _ _ => rfl, fun _ _ e _ => e, fun _ _ e => ⟨_, e⟩, R.str, fun i s x e q => by
    obtain ⟨a, h1, h2, h3, _⟩ := R.own i s x e q
    exact ⟨a, h1, h2, h3, .inl ⟨i, ⟨s, x, e, q⟩, h1⟩⟩, R.bor, R.opin, fun j a e => by
    obtain ⟨o, h⟩ := R.zpin j a e
    exact R.h1 a o h, R.inj⟩
theorem SR.back (R : SR K Z G H σ ρ) (R' : SR K (DL.snap Z G H σ ρ) G' H' σ' ρ') : SR K Z G' H' σ' ρ' := by
  refine ⟨R'.len, R'.gh, R.zg.trans R'.zg, fun a o e => ?_, fun a o e n => ?_, fun a o e => ?_, R'.str, fun i s x e q => ?_, R'.bor, R'.opin, R.zpin, R'.inj⟩
  · obtain ⟨o', e'⟩ := R.h1 a o e
    exact (R'.g0 a o' e').trans (R.g0 a o e)
  · refine R'.h0 a o (R.h0 a o e n) fun ⟨i, ⟨s, x, p, q⟩, h⟩ => ?_
    obtain ⟨a', h1, _, _, h4⟩ := R.own i s x p q
    rw [h] at h1; cases h1
    rcases h4 with h4 | h4
    · exact n h4
    · rw [e] at h4; cases h4
  · obtain ⟨o', e'⟩ := R.h1 a o e
    exact R'.h1 a o' e'
  · obtain ⟨a, h1, h2, h3, h4⟩ := R'.own i s x e q
    refine ⟨a, h1, h2, h3, ?_⟩
    rcases h4 with ⟨j, ⟨s2, x2, p, r⟩, h⟩ | h4
    · obtain ⟨a', g1, _, _, g4⟩ := R.own j s2 x2 p r
      rw [h] at g1; cases g1
      exact g4
    · refine .inr ?_
      cases w : Z.H a with
      | none => rfl
      | some o =>
        obtain ⟨o', e'⟩ := R.h1 a o w
        have h4' : H a = none := h4
        rw [h4'] at e'; cases e'
/-- a fresh object laid beside: not in the frozen heap -/
theorem SR.beside {p : Addr} {u : HO} (R : SR K Z G H σ ρ) (h : H p = none) : SR K Z G (upd H p u) σ ρ := by
  have hz : Z.H p = none := by
    cases q : Z.H p with
    | none => rfl
    | some u => obtain ⟨u', e⟩ := R.h1 p u q; rw [h] at e; cases e
  have hg : G p = none := R.gh.none h
  refine ⟨R.len, R.gh.side hg, R.zg, R.g0, fun a o e n => ?_, fun a o e => ?_, R.str, fun i s x e q => ?_, R.bor, R.opin, R.zpin, R.inj⟩
  · have ne : a ≠ p := fun z => by rw [z, hz] at e; cases e
    rw [upd_ne ne]; exact R.h0 a o e n
  · have ne : a ≠ p := fun z => by rw [z, hz] at e; cases e
    rw [upd_ne ne]; exact R.h1 a o e
  · obtain ⟨a, h1, h2, h3, h4⟩ := R.own i s x e q
    obtain ⟨w, hw⟩ := h3.some
    have ne : a ≠ p := fun z => by rw [z, h] at hw; cases hw
    exact ⟨a, h1, h2, h3.mono (Ex.refl _) (upd_ne ne), h4⟩
theorem SR.znone (R : SR K Z G H σ ρ) {p : Addr} (h : H p = none) : Z.H p = none := by
  cases q : Z.H p with
  | none => rfl
  | some u => obtain ⟨u', e⟩ := R.h1 p u q; rw [h] at e; cases e
theorem SR.notOwned (R : SR K Z G H σ ρ) {p : Addr} (h : H p = none) : ∀ j, Owned ρ j → σ[j]? ≠ some (some (.ref p)) := fun j ⟨s, x, e, q⟩ z => by
  obtain ⟨a, h1, _, h3, _⟩ := R.own j s x e q
  rw [z] at h1; cases h1
  obtain ⟨w, hw⟩ := h3.some
  rw [h] at hw; cases hw
/-- an object outside of the frozen heap that no slot owns joins the frozen heap -/
theorem SR.frz {a : Addr} {u : HO} (R : SR K Z G H σ ρ) (hg : G a = none) (hz : Z.H a = none) (hn : ∀ j, Owned ρ j → σ[j]? ≠ some (some (.ref a))) (hu : H a = some u) : SR K Z (upd G a u) H σ ρ := by
  refine ⟨R.len, fun b o e => ?_, R.zg.trans (Ex.new hg), fun b o e => ?_, R.h0, R.h1, fun i x e => ?_, fun i s x e q => ?_, R.bor, R.opin, R.zpin, R.inj⟩
  · by_cases z : b = a
    · subst z; rw [upd_same] at e; cases e; exact hu
    · rw [upd_ne z] at e; exact R.gh b o e
  · have ne : b ≠ a := fun z => by rw [z, hz] at e; cases e
    rw [upd_ne ne]; exact R.g0 b o e
  · obtain ⟨v, h1, h2⟩ := R.str i x e
    exact ⟨v, h1, h2.mono (Ex.new hg)⟩
  · obtain ⟨b, h1, h2, h3, h4⟩ := R.own i s x e q
    have ne : b ≠ a := fun z => by subst z; exact hn i ⟨s, x, e, q⟩ h1
    exact ⟨b, h1, by rw [upd_ne ne]; exact h2, h3.mono (Ex.new hg) rfl, h4⟩
end
end DL

set_option maxHeartbeats 1000000
/-! DL2: expressions that come to data. -/
namespace DL
open PySem PySem.Spec PyProof.Rows L2

abbrev Ev := En → Option (PyData × En)
abbrev Es := En → Option (List PyData × En)
abbrev Eq := En → Option (Bool × En)
/-- comes to data of the frozen heap -/
def tS (K : PySem.W.Frag) (φ : Ev) : TE := fun σ H Q => ∃ Z G ρ d ρ', SR K Z G H σ ρ ∧ φ ρ = some (d, ρ') ∧ ∀ v G' H', Ex G G' → SR K Z G' H' σ ρ' → Dr K G' v d → Q v H'
/-- comes to a new list or dict that nobody knows yet -/
def tF (K : PySem.W.Frag) (φ : Ev) : TE := fun σ H Q => ∃ Z G ρ d ρ', SR K Z G H σ ρ ∧ φ ρ = some (d, ρ') ∧
  ∀ a G' H', Ex G G' → SR K Z G' H' σ ρ' → G' a = none → Z.H a = none → (∀ j, Owned ρ' j → σ[j]? ≠ some (some (.ref a))) → OwnAt K G' H' a d → Q (.ref a) H'
def tQ (K : PySem.W.Frag) (φ : Eq) : TT := fun σ H Q => ∃ Z G ρ b ρ', SR K Z G H σ ρ ∧ φ ρ = some (b, ρ') ∧ ∀ G' H', Ex G G' → SR K Z G' H' σ ρ' → Q b H'
def tAs (K : PySem.W.Frag) (φ : Es) : TA := fun σ H Q => ∃ Z G ρ ds ρ', SR K Z G H σ ρ ∧ φ ρ = some (ds, ρ') ∧ ∀ vs G' H', Ex G G' → SR K Z G' H' σ ρ' → DrAll K G' vs ds → Q vs H'
/-- a part of a slice -/
def tPt (K : PySem.W.Frag) (φ : En → Option (Option Int × En)) : TO := fun σ H Q => ∃ Z G ρ o ρ', SR K Z G H σ ρ ∧ φ ρ = some (o, ρ') ∧ ∀ G' H', Ex G G' → SR K Z G' H' σ ρ' → Q o H'

section
variable {X : Cx} {e ea eb : Expr} {es : List Expr} {t t' : TE} {K : PySem.W.Frag}
theorem _root_.L2.PE.conv (h : PE X e t) (c : ∀ σ H Q, t' σ H Q → t σ H Q) : PE X e t' := ⟨fun pins s σ H Q I q => h.run pins s σ H Q I (c σ H Q q)⟩
theorem _root_.L2.PT.conv {t t' : TT} (h : PT X e t) (c : ∀ σ H Q, t' σ H Q → t σ H Q) : PT X e t' := ⟨fun pins s σ H Q I q => h.run pins s σ H Q I (c σ H Q q)⟩
theorem _root_.L2.PW.conv {t t' : TT} (h : PW X e t) (c : ∀ σ H Q, t' σ H Q → t σ H Q) : PW X e t' := ⟨fun w pins s σ H Q I q => h.run w pins s σ H Q I (c σ H Q q)⟩
theorem _root_.L2.PA.conv {t t' : TA} (h : PA X es t) (c : ∀ σ H Q, t' σ H Q → t σ H Q) : PA X es t' := ⟨fun pos pins s σ H Q I q => h.run pos pins s σ H Q I (c σ H Q q)⟩
theorem _root_.L2.PO.conv {o : Option Expr} {t t' : TO} (h : PO X o t) (c : ∀ σ H Q, t' σ H Q → t σ H Q) : PO X o t' := ⟨fun pins s σ H Q I q => h.run pins s σ H Q I (c σ H Q q)⟩
theorem _root_.L2.PE.alt (h : PE X e t) (h' : PE X e t') : PE X e (fun σ H Q => t σ H Q ∨ t' σ H Q) := ⟨fun pins s σ H Q I q => q.elim (h.run pins s σ H Q I) (h'.run pins s σ H Q I)⟩

/-! ### names, constants -/
def eV (i : Nat) : Ev := fun ρ => match ρ[i]? with
  | some (.d x) => some (x, ρ)
  | _ => none
def eC (d : PyData) : Ev := fun ρ => some (d, ρ)
theorem r_var {i : Nat} (h : PE X e (tVar i)) : PE X e (tS K (eV i)) := h.conv fun σ H Q ⟨Z, G, ρ, d, ρ', R, q, k⟩ => by
  unfold eV at q
  split at q
  · rename_i x e
    cases q
    obtain ⟨v, h1, h2⟩ := R.str i _ e
    exact ⟨v, h1, k v G H (Ex.refl _) R h2⟩
  · cases q
inductive Lit : V → PyData → Prop
  | non : Lit .non .none
  | bl (b : Bool) : Lit (.bl b) (.bool b)
  | int (i : Int) : Lit (.int i) (.int i)
  | str (x : Str) : Lit (.str x) (.str x)
theorem Lit.dr {v : V} {d : PyData} {G : Hp} (l : Lit v d) : Dr K G v d := by
  cases l with
  | non => exact .non
  | bl b => exact .bl b
  | int i => exact .int i
  | str x => exact .str x
theorem r_c {v : V} {d : PyData} (h : PE X e (tC v)) (l : Lit v d) : PE X e (tS K (eC d)) := h.conv fun σ H Q ⟨Z, G, ρ, d', ρ', R, q, k⟩ => by
  cases q
  exact k v G H (Ex.refl _) R l.dr
theorem r_int {i : Int} (h : PE X e (tC (.int i))) : PE X e (tS K (eC (.int i))) := r_c h (.int i)
theorem r_bl {b : Bool} (h : PE X e (tC (.bl b))) : PE X e (tS K (eC (.bool b))) := r_c h (.bl b)
theorem r_non (h : PE X e (tC .non)) : PE X e (tS K (eC .none)) := r_c h .non
theorem r_str {x : Str} (h : PE X e (tC (.str x))) : PE X e (tS K (eC (.str x))) := r_c h (.str x)

/-! ### fresh things -/
/-- a fresh thing is data, too -/
theorem r_fz {φ : Ev} (h : PE X e (tF K φ)) : PE X e (tS K φ) := h.conv fun σ H Q ⟨Z, G, ρ, d, ρ', R, q, k⟩ => ⟨Z, G, ρ, d, ρ', R, q, fun a G' H' ex R' ha hz hn o => by
  obtain ⟨u, hu⟩ := o.some
  exact k (.ref a) (upd G' a u) H' (ex.trans (Ex.new ha)) (R'.frz ha hz hn hu) (o.frz ha hu)⟩

/-! ### operations -/
def e1 (f : PyData → Option PyData) (a : Ev) : Ev := fun ρ => match a ρ with
  | some (x, ρ1) => (match f x with
    | some d => some (d, ρ1)
    | none => none)
  | none => none
def e2 (f : PyData → PyData → Option PyData) (a b : Ev) : Ev := fun ρ => match a ρ with
  | some (x, ρ1) => (match b ρ1 with
    | some (y, ρ2) => (match f x y with
      | some d => some (d, ρ2)
      | none => none)
    | none => none)
  | none => none
def eN (f : List PyData → Option PyData) (a : Es) : Ev := fun ρ => match a ρ with
  | some (xs, ρ1) => (match f xs with
    | some d => some (d, ρ1)
    | none => none)
  | none => none
/-- what an operation on values does, said by data -/
def Prim2 (K : PySem.W.Frag) (f : PyData → PyData → Option PyData) (r : R2) : Prop := ∀ G H v u x y d, Ex G H → Dr K G v x → Dr K G u y → f x y = some d →
  ∀ Q : VK, (∀ w G' H', Al G H G' H' → Dr K G' w d → Q w H') → r v u H Q
def Prim1 (K : PySem.W.Frag) (f : PyData → Option PyData) (r : V → Hp → VK → Prop) : Prop := ∀ G H v x d, Ex G H → Dr K G v x → f x = some d →
  ∀ Q : VK, (∀ w G' H', Al G H G' H' → Dr K G' w d → Q w H') → r v H Q
def PrimN (K : PySem.W.Frag) (f : List PyData → Option PyData) (r : List V → Hp → VK → Prop) : Prop := ∀ G H vs xs d, Ex G H → DrAll K G vs xs → f xs = some d →
  ∀ Q : VK, (∀ w G' H', Al G H G' H' → Dr K G' w d → Q w H') → r vs H Q
/-- .. a new list -/
def Fr1 (K : PySem.W.Frag) (G H : Hp) (d : PyData) (Q : VK) : Prop := ∀ p u, H p = none → OwnAt K G (upd H p u) p d → Q (.ref p) (upd H p u)
def PrimNF (K : PySem.W.Frag) (f : List PyData → Option PyData) (r : List V → Hp → VK → Prop) : Prop := ∀ G H vs xs d, Ex G H → DrAll K G vs xs → f xs = some d →
  ∀ Q : VK, Fr1 K G H d Q → r vs H Q
def Prim2F (K : PySem.W.Frag) (f : PyData → PyData → Option PyData) (r : R2) : Prop := ∀ G H v u x y d, Ex G H → Dr K G v x → Dr K G u y → f x y = some d →
  ∀ Q : VK, Fr1 K G H d Q → r v u H Q
theorem fr1_of {Z : Zn} {G H : Hp} {σ : L2.St} {ρ' : En} {d : PyData} {Q : VK} (R : SR K Z G H σ ρ')
    (k : ∀ a G' H', Ex G G' → SR K Z G' H' σ ρ' → G' a = none → Z.H a = none → (∀ j, Owned ρ' j → σ[j]? ≠ some (some (.ref a))) → OwnAt K G' H' a d → Q (.ref a) H') : Fr1 K G H d Q := fun p u hp o =>
  k p G (upd H p u) (Ex.refl _) (R.beside hp) (R.gh.none hp) (R.znone hp) (R.notOwned hp) o

variable {a b : Ev} {f2 : PyData → PyData → Option PyData} {f1 : PyData → Option PyData} {fn : List PyData → Option PyData}
theorem t_op2 {r : R2} (hf : Prim2 K f2 r) {σ : L2.St} {H : Hp} {Q : VK} (h : tS K (e2 f2 a b) σ H Q) : tOp r (tS K a) (tS K b) σ H Q := by
  obtain ⟨Z, G, ρ, d, ρ', R, q, k⟩ := h
  unfold e2 at q
  split at q
  · rename_i x ρ1 qa
    split at q
    · rename_i y ρ2 qb
      split at q
      · rename_i d' qf
        cases q
        refine ⟨Z, G, ρ, x, ρ1, R, qa, fun v G1 H1 ex1 R1 d1 => ?_⟩
        refine ⟨Z, G1, ρ1, y, _, R1, qb, fun u G2 H2 ex2 R2 d2 => ?_⟩
        refine hf G2 H2 v u x y d R2.gh (d1.mono ex2) d2 qf Q fun w G3 H3 al dw => ?_
        exact k w G3 H3 ((ex1.trans ex2).trans (al.ex R2.gh).1) (R2.al al) dw
      · cases q
    · cases q
  · cases q
theorem r_bin {op : Operator} {r : R2} {pos : Pos} (ho : OpR X (binaryOp op) r) (hf : Prim2 K f2 r) (h1 : PE X ea (tS K a)) (h2 : PE X eb (tS K b)) : PE X (.BinOp ea op eb pos) (tS K (e2 f2 a b)) :=
  (pe_op ho h1 h2).conv fun _ _ _ h => t_op2 hf h
theorem r_cmp {op : CmpOp} {r : R2} {pos : Pos} (ho : OpR X (compareOp op) r) (hf : Prim2 K f2 r) (h1 : PE X ea (tS K a)) (h2 : PE X eb (tS K b)) (hm : behindInMarks op eb = false) : PE X (.Compare ea [op] [eb] pos) (tS K (e2 f2 a b)) :=
  (pe_cmpR ho h1 h2 hm).conv fun _ _ _ h => t_op2 hf h
theorem r_binF {op : Operator} {r : R2} {pos : Pos} (ho : OpR X (binaryOp op) r) (hf : Prim2F K f2 r) (h1 : PE X ea (tS K a)) (h2 : PE X eb (tS K b)) : PE X (.BinOp ea op eb pos) (tF K (e2 f2 a b)) :=
  (pe_op ho h1 h2).conv fun σ H Q h => by
    obtain ⟨Z, G, ρ, d, ρ', R, q, k⟩ := h
    unfold e2 at q
    split at q
    · rename_i x ρ1 qa
      split at q
      · rename_i y ρ2 qb
        split at q
        · rename_i d' qf
          cases q
          refine ⟨Z, G, ρ, x, ρ1, R, qa, fun v G1 H1 ex1 R1 d1 => ?_⟩
          refine ⟨Z, G1, ρ1, y, _, R1, qb, fun u G2 H2 ex2 R2 d2 => ?_⟩
          exact hf G2 H2 v u x y d R2.gh (d1.mono ex2) d2 qf Q (fr1_of R2 fun a G' H' ex => k a G' H' ((ex1.trans ex2).trans ex))
        · cases q
      · cases q
    · cases q
theorem r_un {op : UnaryOp} {r : V → Hp → VK → Prop} {pos : Pos} (ho : UnR X (unaryOp op) r) (hf : Prim1 K f1 r) (h1 : PE X ea (tS K a)) : PE X (.UnaryOp op ea pos) (tS K (e1 f1 a)) :=
  (pe_un ho h1).conv fun σ H Q h => by
    obtain ⟨Z, G, ρ, d, ρ', R, q, k⟩ := h
    unfold e1 at q
    split at q
    · rename_i x ρ1 qa
      split at q
      · rename_i d' qf
        cases q
        refine ⟨Z, G, ρ, x, _, R, qa, fun v G1 H1 ex1 R1 d1 => ?_⟩
        exact hf G1 H1 v x d R1.gh d1 qf Q fun w G3 H3 al dw => k w G3 H3 (ex1.trans (al.ex R1.gh).1) (R1.al al) dw
      · cases q
    · cases q

/-! ### argument lists, displays -/
def aN : Es := fun ρ => some ([], ρ)
def aC (a : Ev) (r : Es) : Es := fun ρ => match a ρ with
  | some (x, ρ1) => (match r ρ1 with
    | some (xs, ρ2) => some (x :: xs, ρ2)
    | none => none)
  | none => none
def seqOf : PyData → Option (List PyData)
  | .list xs => some xs
  | .tuple xs => some xs
  | _ => none
/-- .. a starred one -/
def aX (a : Ev) (r : Es) : Es := fun ρ => match a ρ with
  | some (x, ρ1) => (match seqOf x with
    | some ys => (match r ρ1 with
      | some (xs, ρ2) => some (ys ++ xs, ρ2)
      | none => none)
    | none => none)
  | none => none
theorem ra_nil : PA X [] (tAs K aN) := pa_nil.conv fun σ H Q ⟨Z, G, ρ, d, ρ', R, q, k⟩ => by
  cases q
  exact k [] G H (Ex.refl _) R .nil
theorem ra_cons {r : Es} (h : PE X e (tS K a)) (hr : PA X es (tAs K r)) (hs : starEach (e :: es) X.env = (false, eval e X.env) :: starEach es X.env := by rfl) : PA X (e :: es) (tAs K (aC a r)) :=
  (pa_cons h hr hs).conv fun σ H Q ⟨Z, G, ρ, d, ρ', R, q, k⟩ => by
    unfold aC at q
    split at q
    · rename_i x ρ1 qa
      split at q
      · rename_i xs ρ2 qb
        cases q
        refine ⟨Z, G, ρ, x, ρ1, R, qa, fun v G1 H1 ex1 R1 d1 => ?_⟩
        exact ⟨Z, G1, ρ1, xs, _, R1, qb, fun vs G2 H2 ex2 R2 d2 => k (v :: vs) G2 H2 (ex1.trans ex2) R2 (.cons (d1.mono ex2) d2)⟩
      · cases q
    · cases q
theorem seqOf_at {G H : Hp} {v : V} {x : PyData} {ys : List PyData} (hx : Dr K G v x) (h : seqOf x = some ys) (ex : Ex G H) : ∃ p xs, v = .ref p ∧ (SqT K H p xs ∨ SqL K H p xs) ∧ DrAll K G xs ys ∧ xs.length ≤ sizeLine := by
  cases hx with
  | lst h1 z t => cases h; exact ⟨_, _, rfl, .inr (.inl (.inl (ex _ _ h1))), t, z⟩
  | tup h1 z t => cases h; exact ⟨_, _, rfl, .inl (ex.sqT h1), t, z⟩
  | non => cases h
  | bl b => cases h
  | int i => cases h
  | str x => cases h
  | dk _ _ _ => cases h
theorem ra_star {r : Es} {p : Pos} (h : PE X e (tS X.K a)) (hr : PA X es (tAs X.K r)) (hs : starEach (.Starred e p :: es) X.env = (true, eval e X.env) :: starEach es X.env := by rfl) : PA X (.Starred e p :: es) (tAs X.K (aX a r)) :=
  (StX.pa_star h hr hs).conv fun σ H Q ⟨Z, G, ρ, d, ρ', R, q, k⟩ => by
    unfold aX at q
    split at q
    · rename_i x ρ1 qa
      split at q
      · rename_i ys qs
        split at q
        · rename_i xs ρ2 qb
          cases q
          refine ⟨Z, G, ρ, x, ρ1, R, qa, fun v G1 H1 ex1 R1 d1 => ?_⟩
          obtain ⟨p, vs, rfl, sq, t, _⟩ := seqOf_at d1 qs R1.gh
          exact ⟨p, vs, rfl, sq, Z, G1, ρ1, xs, _, R1, qb, fun ws G2 H2 ex2 R2 d2 => k (vs ++ ws) G2 H2 (ex1.trans ex2) R2 ((t.mono ex2).append d2)⟩
        · cases q
      · cases q
    · cases q
def lenOk (xs : List PyData) : Bool := decide (xs.length ≤ sizeLine)
def mkT (xs : List PyData) : Option PyData := if xs.length ≤ sizeLine then some (.tuple xs) else none
def mkL (xs : List PyData) : Option PyData := if xs.length ≤ sizeLine then some (.list xs) else none
theorem r_tup {as : Es} {x1 : Nat} {pos : Pos} (h : PA X es (tAs K as)) : PE X (.Tuple es x1 pos) (tS K (eN mkT as)) := (pe_tup h).conv fun σ H Q ⟨Z, G, ρ, d, ρ', R, q, k⟩ => by
  unfold eN at q
  split at q
  · rename_i xs ρ1 qa
    split at q
    · rename_i d' qf
      cases q
      unfold mkT at qf
      split at qf
      · rename_i hz
        cases qf
        refine ⟨Z, G, ρ, xs, _, R, qa, fun vs G1 H1 ex1 R1 d1 => ⟨by rw [d1.len]; exact hz, fun p hp => ?_⟩⟩
        have al : Al G1 H1 (upd G1 p (.tup vs)) (upd H1 p (.tup vs)) := .one hp
        exact k (.ref p) _ _ (ex1.trans (al.ex R1.gh).1) (R1.al al) (.tup (.inl (.inl upd_same)) (by rw [d1.len]; exact hz) (d1.mono (al.ex R1.gh).1))
      · cases qf
    · cases q
  · cases q
theorem r_lst {as : Es} {pos : Pos} (h : PA X es (tAs K as)) : PE X (.List es pos) (tF K (eN mkL as)) := (pe_lst h).conv fun σ H Q ⟨Z, G, ρ, d, ρ', R, q, k⟩ => by
  unfold eN at q
  split at q
  · rename_i xs ρ1 qa
    split at q
    · rename_i d' qf
      cases q
      unfold mkL at qf
      split at qf
      · rename_i hz
        cases qf
        refine ⟨Z, G, ρ, xs, _, R, qa, fun vs G1 H1 ex1 R1 d1 => ⟨by rw [d1.len]; exact hz, fun p hp => ?_⟩⟩
        exact fr1_of R1 (fun a G' H' ex => k a G' H' (ex1.trans ex)) p _ hp ⟨vs, upd_same, by rw [d1.len]; exact hz, d1⟩
      · cases qf
    · cases q
  · cases q

/-! ### calls of what is built in -/
theorem t_callB {r : List V → Hp → VK → Prop} {as : Es} (hf : PrimN K fn r) {σ : L2.St} {H : Hp} {Q : VK} (h : tS K (eN fn as) σ H Q) : tCB r (tAs K as) σ H Q := by
  obtain ⟨Z, G, ρ, d, ρ', R, q, k⟩ := h
  unfold eN at q
  split at q
  · rename_i xs ρ1 qa
    split at q
    · rename_i d' qf
      cases q
      refine ⟨Z, G, ρ, xs, _, R, qa, fun vs G1 H1 ex1 R1 d1 => ?_⟩
      exact hf G1 H1 vs xs d R1.gh d1 qf Q fun w G3 H3 al dw => k w G3 H3 (ex1.trans (al.ex R1.gh).1) (R1.al al) dw
    · cases q
  · cases q
theorem t_callBF {r : List V → Hp → VK → Prop} {as : Es} (hf : PrimNF K fn r) {σ : L2.St} {H : Hp} {Q : VK} (h : tF K (eN fn as) σ H Q) : tCB r (tAs K as) σ H Q := by
  obtain ⟨Z, G, ρ, d, ρ', R, q, k⟩ := h
  unfold eN at q
  split at q
  · rename_i xs ρ1 qa
    split at q
    · rename_i d' qf
      cases q
      refine ⟨Z, G, ρ, xs, _, R, qa, fun vs G1 H1 ex1 R1 d1 => ?_⟩
      exact hf G1 H1 vs xs d R1.gh d1 qf Q (fr1_of R1 fun a G' H' ex => k a G' H' (ex1.trans ex))
    · cases q
  · cases q
/-- an expression that is read so (a call of a built-in, made by pe_callB, pe_callTy) -/
theorem r_cb {r : List V → Hp → VK → Prop} {as : Es} (h : PE X e (tCB r (tAs K as))) (hf : PrimN K fn r) : PE X e (tS K (eN fn as)) := h.conv fun _ _ _ q => t_callB hf q
theorem r_cbF {r : List V → Hp → VK → Prop} {as : Es} (h : PE X e (tCB r (tAs K as))) (hf : PrimNF K fn r) : PE X e (tF K (eN fn as)) := h.conv fun _ _ _ q => t_callBF hf q

/-! ### subscripts, slices -/
theorem r_ix {r : R2} {pos : Pos} (hr : IxR X r) (hf : Prim2 K f2 r) (h1 : PE X ea (tS K a)) (h2 : PE X eb (tS K b)) (hs : PlainIx eb := by intro _ _; rfl) : PE X (.Subscript ea eb pos) (tS K (e2 f2 a b)) :=
  (pe_ix hr h1 h2 hs).conv fun _ _ _ h => t_op2 hf h
def oN : En → Option (Option Int × En) := fun ρ => some (none, ρ)
def oS (a : Ev) : En → Option (Option Int × En) := fun ρ => match a ρ with
  | some (.int i, ρ1) => some (some i, ρ1)
  | _ => none
theorem ro_none : PO X none (tPt K oN) := po_none.conv fun σ H Q ⟨Z, G, ρ, d, ρ', R, q, k⟩ => by
  cases q
  exact k G H (Ex.refl _) R
theorem ro_some (h : PE X e (tS K a)) : PO X (some e) (tPt K (oS a)) := (po_some h).conv fun σ H Q ⟨Z, G, ρ, d, ρ', R, q, k⟩ => by
  unfold oS at q
  split at q
  · rename_i i ρ1 qa
    cases q
    exact ⟨Z, G, ρ, .int i, _, R, qa, fun v G1 H1 ex1 R1 d1 => by cases d1; exact ⟨i, rfl, k G1 H1 ex1 R1⟩⟩
  · cases q
/-- xs[lo:hi] of a list is new; of a tuple it is data -/
def eSl (f : PyData → Option Int → Option Int → Option PyData) (a : Ev) (lo hi : En → Option (Option Int × En)) : Ev := fun ρ => match a ρ with
  | some (x, ρ1) => (match lo ρ1 with
    | some (l, ρ2) => (match hi ρ2 with
      | some (h, ρ3) => (match f x l h with
        | some d => some (d, ρ3)
        | none => none)
      | none => none)
    | none => none)
  | none => none
def cutD (xs : List PyData) (lo hi : Option Int) : List PyData := (xs.drop (HT.sIx xs.length 0 lo)).take (HT.sIx xs.length xs.length hi - HT.sIx xs.length 0 lo)
theorem DrAll.cut {G : Hp} {vs : List V} {ds : List PyData} (h : DrAll K G vs ds) (lo hi : Option Int) : DrAll K G (cutV vs lo hi) (cutD ds lo hi) := by
  unfold cutV cutD
  rw [h.len]
  exact (h.drop _).take _
def slD : PyData → Option Int → Option Int → Option PyData
  | .list xs, lo, hi => some (.list (cutD xs lo hi))
  | .tuple xs, lo, hi => some (.tuple (cutD xs lo hi))
  | _, _, _ => none
def slL : PyData → Option Int → Option Int → Option PyData
  | .list xs, lo, hi => some (.list (cutD xs lo hi))
  | _, _, _ => none
def rSlX (K : PySem.W.Frag) : V → Option Int → Option Int → Hp → VK → Prop := fun x lo hi H Q => rSlL K x lo hi H Q ∨ rSlA K x lo hi H Q
theorem sl_any : SlR X (rSlX X.K) := sl_list.or sl_tupA
end
end DL

set_option maxHeartbeats 1000000
/-! DL3: tests, operations on data. -/
namespace DL
open PySem PySem.Spec PyProof.Rows L2

section
variable {X : Cx} {e ea eb ec : Expr} {es : List Expr} {K : PySem.W.Frag} {a b : Ev} {f2 : PyData → PyData → Option PyData} {f1 : PyData → Option PyData} {fn : List PyData → Option PyData}
/-! ### tests -/
def qB (a : Ev) : Eq := fun ρ => match a ρ with
  | some (.bool b, ρ1) => some (b, ρ1)
  | _ => none
theorem tS_bool {σ : L2.St} {H : Hp} {Q : Bool → Hp → Prop} (h : tQ K (qB a) σ H Q) : tS K a σ H (fun x H' => ∃ k, x = .bl k ∧ Q k H') := by
  obtain ⟨Z, G, ρ, d, ρ', R, q, k⟩ := h
  unfold qB at q
  split at q
  · rename_i qa
    cases q
    exact ⟨Z, G, ρ, _, _, R, qa, fun v G' H' ex R' d' => by cases d'; exact ⟨_, rfl, k G' H' ex R'⟩⟩
  · cases q
theorem r_tcmp {op : CmpOp} {r : R2} {pos : Pos} (ho : OpR X (compareOp op) r) (hf : Prim2 K f2 r) (h1 : PE X ea (tS K a)) (h2 : PE X eb (tS K b)) (hm : behindInMarks op eb = false) : PT X (.Compare ea [op] [eb] pos) (tQ K (qB (e2 f2 a b))) :=
  (pt_cmpR ho h1 h2 hm).conv fun _ _ _ h => t_op2 hf (tS_bool h)
theorem r_tval (h : PE X e (tS K a)) (he : ∀ whole, isTrue e X.env whole = (do let v ← whole; standAt e.pos; holding [v] (truthy v)) := by intro _; rfl) : PT X e (tQ K (qB a)) := (pt_val h he).conv fun _ _ _ h => tS_bool h
def qAnd (a b : Eq) : Eq := fun ρ => match a ρ with
  | some (true, ρ1) => b ρ1
  | some (false, ρ1) => some (false, ρ1)
  | none => none
def qOr (a b : Eq) : Eq := fun ρ => match a ρ with
  | some (true, ρ1) => some (true, ρ1)
  | some (false, ρ1) => b ρ1
  | none => none
def qNot (a : Eq) : Eq := fun ρ => match a ρ with
  | some (b, ρ1) => some (!b, ρ1)
  | none => none
section
variable {qa qb : Eq} {rest : List Expr} {pos : Pos}
theorem t_and {σ : L2.St} {H : Hp} {Q : Bool → Hp → Prop} (h : tQ K (qAnd qa qb) σ H Q) : tAnd (tQ K qa) (tQ K qb) σ H Q := by
  obtain ⟨Z, G, ρ, d, ρ', R, q, k⟩ := h
  unfold qAnd at q
  split at q
  · rename_i ρ1 q1
    refine ⟨Z, G, ρ, true, ρ1, R, q1, fun G' H' ex R' => ?_⟩
    refine iteT ?_
    exact ⟨Z, G', ρ1, d, ρ', R', q, fun G2 H2 ex2 R2 => k G2 H2 (ex.trans ex2) R2⟩
  · rename_i ρ1 q1
    cases q
    refine ⟨Z, G, ρ, false, _, R, q1, fun G' H' ex R' => ?_⟩
    refine iteF ?_
    exact k G' H' ex R'
  · cases q
theorem t_or {σ : L2.St} {H : Hp} {Q : Bool → Hp → Prop} (h : tQ K (qOr qa qb) σ H Q) : tOr (tQ K qa) (tQ K qb) σ H Q := by
  obtain ⟨Z, G, ρ, d, ρ', R, q, k⟩ := h
  unfold qOr at q
  split at q
  · rename_i ρ1 q1
    cases q
    refine ⟨Z, G, ρ, true, _, R, q1, fun G' H' ex R' => ?_⟩
    refine iteT ?_
    exact k G' H' ex R'
  · rename_i ρ1 q1
    refine ⟨Z, G, ρ, false, ρ1, R, q1, fun G' H' ex R' => ?_⟩
    refine iteF ?_
    exact ⟨Z, G', ρ1, d, ρ', R', q, fun G2 H2 ex2 R2 => k G2 H2 (ex.trans ex2) R2⟩
  · cases q
theorem rw_and1 (h : PT X ea (tQ K qa)) : PW X (.BoolOp .And [ea] pos) (tQ K qa) := pw_and1 h
theorem rw_or1 (h : PT X ea (tQ K qa)) : PW X (.BoolOp .Or [ea] pos) (tQ K qa) := pw_or1 h
theorem rw_and (ha : PT X ea (tQ K qa)) (hb : PW X (.BoolOp .And (eb :: rest) pos) (tQ K qb)) : PW X (.BoolOp .And (ea :: eb :: rest) pos) (tQ K (qAnd qa qb)) := (pw_and ha hb).conv fun _ _ _ h => t_and h
theorem rw_or (ha : PT X ea (tQ K qa)) (hb : PW X (.BoolOp .Or (eb :: rest) pos) (tQ K qb)) : PW X (.BoolOp .Or (ea :: eb :: rest) pos) (tQ K (qOr qa qb)) := (pw_or ha hb).conv fun _ _ _ h => t_or h
theorem r_tnot (h : PT X ea (tQ K qa)) : PT X (.UnaryOp .Not ea pos) (tQ K (qNot qa)) := (pt_not h).conv fun σ H Q ⟨Z, G, ρ, d, ρ', R, q, k⟩ => by
  unfold qNot at q
  split at q
  · rename_i b ρ1 q1
    cases q
    exact ⟨Z, G, ρ, b, _, R, q1, k⟩
  · cases q
/-- a if t else b -/
def eIf (c : Eq) (a b : Ev) : Ev := fun ρ => match c ρ with
  | some (true, ρ1) => a ρ1
  | some (false, ρ1) => b ρ1
  | none => none
theorem r_if (hc : PT X ec (tQ K qa)) (h1 : PE X ea (tS K a)) (h2 : PE X eb (tS K b)) : PE X (.IfExp ec ea eb pos) (tS K (eIf qa a b)) := (pe_ifExp hc h1 h2).conv fun σ H Q ⟨Z, G, ρ, d, ρ', R, q, k⟩ => by
  unfold eIf at q
  split at q
  · rename_i ρ1 q1
    refine ⟨Z, G, ρ, true, ρ1, R, q1, fun G' H' ex R' => ?_⟩
    refine iteT ?_
    exact ⟨Z, G', ρ1, d, ρ', R', q, fun v G2 H2 ex2 R2 => k v G2 H2 (ex.trans ex2) R2⟩
  · rename_i ρ1 q1
    refine ⟨Z, G, ρ, false, ρ1, R, q1, fun G' H' ex R' => ?_⟩
    refine iteF ?_
    exact ⟨Z, G', ρ1, d, ρ', R', q, fun v G2 H2 ex2 R2 => k v G2 H2 (ex.trans ex2) R2⟩
  · cases q
/-- and, or of truths, as values (the last one of any kind) -/
def eAnd (a b : Ev) : Ev := fun ρ => match a ρ with
  | some (.bool true, ρ1) => b ρ1
  | some (.bool false, ρ1) => some (.bool false, ρ1)
  | _ => none
def eOr (a b : Ev) : Ev := fun ρ => match a ρ with
  | some (.bool true, ρ1) => some (.bool true, ρ1)
  | some (.bool false, ρ1) => b ρ1
  | _ => none
def notD : PyData → Option PyData
  | .bool b => some (.bool (!b))
  | _ => none
theorem r_one {op} {t : TE} (h : PE X ea t) : PE X (.BoolOp op [ea] pos) t := pe_one h
theorem r_and (ha : PE X ea (tS K a)) (hb : PE X (.BoolOp .And (eb :: rest) pos) (tS K b)) : PE X (.BoolOp .And (ea :: eb :: rest) pos) (tS K (eAnd a b)) := (pe_and ha hb).conv fun σ H Q ⟨Z, G, ρ, d, ρ', R, q, k⟩ => by
  unfold eAnd at q
  split at q
  · rename_i ρ1 q1
    refine ⟨Z, G, ρ, _, ρ1, R, q1, fun v G' H' ex R' dv => ?_⟩
    cases dv
    refine ⟨true, rfl, ?_⟩
    refine iteT ?_
    exact ⟨Z, G', ρ1, d, ρ', R', q, fun v G2 H2 ex2 R2 => k v G2 H2 (ex.trans ex2) R2⟩
  · rename_i ρ1 q1
    cases q
    refine ⟨Z, G, ρ, _, _, R, q1, fun v G' H' ex R' dv => ?_⟩
    cases dv
    refine ⟨false, rfl, ?_⟩
    refine iteF ?_
    exact k _ G' H' ex R' (.bl false)
  · cases q
theorem r_or (ha : PE X ea (tS K a)) (hb : PE X (.BoolOp .Or (eb :: rest) pos) (tS K b)) : PE X (.BoolOp .Or (ea :: eb :: rest) pos) (tS K (eOr a b)) := (pe_or ha hb).conv fun σ H Q ⟨Z, G, ρ, d, ρ', R, q, k⟩ => by
  unfold eOr at q
  split at q
  · rename_i ρ1 q1
    cases q
    refine ⟨Z, G, ρ, _, _, R, q1, fun v G' H' ex R' dv => ?_⟩
    cases dv
    refine ⟨true, rfl, ?_⟩
    refine iteT ?_
    exact k _ G' H' ex R' (.bl true)
  · rename_i ρ1 q1
    refine ⟨Z, G, ρ, _, ρ1, R, q1, fun v G' H' ex R' dv => ?_⟩
    cases dv
    refine ⟨false, rfl, ?_⟩
    refine iteF ?_
    exact ⟨Z, G', ρ1, d, ρ', R', q, fun v G2 H2 ex2 R2 => k v G2 H2 (ex.trans ex2) R2⟩
  · cases q
theorem r_not (h : PE X ea (tS K a)) : PE X (.UnaryOp .Not ea pos) (tS K (e1 notD a)) := (pe_not h).conv fun σ H Q ⟨Z, G, ρ, d, ρ', R, q, k⟩ => by
  unfold e1 at q
  split at q
  · rename_i x ρ1 qa
    split at q
    · rename_i d' qf
      cases q
      refine ⟨Z, G, ρ, x, _, R, qa, fun v G1 H1 ex1 R1 d1 => ?_⟩
      unfold notD at qf
      split at qf
      · rename_i bb
        cases qf
        cases d1
        exact ⟨bb, rfl, k _ G1 H1 ex1 R1 (.bl _)⟩
      · cases qf
    · cases q
  · cases q
end
/-! ### slices -/
theorem fin_al {Z : Zn} {G0 G H : Hp} {σ : L2.St} {ρ : En} {d : PyData} {Q : VK} {p : Addr} {o : HO} (R : SR K Z G H σ ρ) (ex : Ex G0 G) (k : ∀ v G' H', Ex G0 G' → SR K Z G' H' σ ρ → Dr K G' v d → Q v H')
    (hp : H p = none) (dr : Ex G (upd G p o) → Dr K (upd G p o) (.ref p) d) : Q (.ref p) (upd H p o) :=
  k (.ref p) _ _ (ex.trans (Ex.new (R.gh.none hp))) (R.al (.one hp)) (dr (Ex.new (R.gh.none hp)))
section
variable {lo hi : Option Expr} {l h : En → Option (Option Int × En)} {pos p2 : Pos}
theorem r_sl (he : PE X ea (tS X.K a)) (hl : PO X lo (tPt X.K l)) (hh : PO X hi (tPt X.K h)) : PE X (.Subscript ea (.Slice lo hi none p2) pos) (tS X.K (eSl slD a l h)) :=
  (pe_slice sl_any he hl hh).conv fun σ H Q ⟨Z, G, ρ, d, ρ', R, q, k⟩ => by
    unfold eSl at q
    split at q
    · rename_i x ρ1 qa
      split at q
      · rename_i ol ρ2 ql
        split at q
        · rename_i oh ρ3 qh
          split at q
          · rename_i d' qf
            cases q
            refine ⟨Z, G, ρ, x, ρ1, R, qa, fun v G1 H1 ex1 R1 d1 => ?_⟩
            refine ⟨Z, G1, ρ1, ol, ρ2, R1, ql, fun G2 H2 ex2 R2 => ?_⟩
            refine ⟨Z, G2, ρ2, oh, _, R2, qh, fun G3 H3 ex3 R3 => ?_⟩
            have d3 := d1.mono (ex2.trans ex3)
            have ex : Ex G G3 := (ex1.trans ex2).trans ex3
            cases d3 with
            | lst h1 z t =>
              cases qf
              refine .inl ⟨_, _, rfl, .inl (.inl (R3.gh _ _ h1)), fun p hp => ?_⟩
              exact fin_al R3 ex k hp fun e' => .lst upd_same (Nat.le_trans (cutV_length _ _ _) z) ((t.cut ol oh).mono e')
            | tup h1 z t =>
              cases qf
              refine .inr ⟨_, _, rfl, R3.gh.sqT h1, fun w => ?_, fun w p hp => ?_⟩
              · refine k (.ref _) G3 H3 ex R3 (.tup h1 z ?_)
                have := t.cut ol oh
                unfold cutV at this
                rw [w.1, w.2, List.drop_zero, Nat.sub_zero, List.take_length] at this
                exact this
              · exact fin_al R3 ex k hp fun e' => .tup (.inl (.inl upd_same)) (Nat.le_trans (cutV_length _ _ _) z) ((t.cut ol oh).mono e')
            | _ => cases qf
          · cases q
        · cases q
      · cases q
    · cases q
theorem r_slF (he : PE X ea (tS X.K a)) (hl : PO X lo (tPt X.K l)) (hh : PO X hi (tPt X.K h)) : PE X (.Subscript ea (.Slice lo hi none p2) pos) (tF X.K (eSl slL a l h)) :=
  (pe_slice sl_list he hl hh).conv fun σ H Q ⟨Z, G, ρ, d, ρ', R, q, k⟩ => by
    unfold eSl at q
    split at q
    · rename_i x ρ1 qa
      split at q
      · rename_i ol ρ2 ql
        split at q
        · rename_i oh ρ3 qh
          split at q
          · rename_i d' qf
            cases q
            refine ⟨Z, G, ρ, x, ρ1, R, qa, fun v G1 H1 ex1 R1 d1 => ?_⟩
            refine ⟨Z, G1, ρ1, ol, ρ2, R1, ql, fun G2 H2 ex2 R2 => ?_⟩
            refine ⟨Z, G2, ρ2, oh, _, R2, qh, fun G3 H3 ex3 R3 => ?_⟩
            have d3 := d1.mono (ex2.trans ex3)
            have ex : Ex G G3 := (ex1.trans ex2).trans ex3
            cases d3 with
            | lst h1 z t =>
              cases qf
              refine ⟨_, _, rfl, .inl (.inl (R3.gh _ _ h1)), fun p hp => ?_⟩
              exact fr1_of R3 (fun a G' H' e' => k a G' H' (ex.trans e')) p _ hp ⟨_, upd_same, Nat.le_trans (cutV_length _ _ _) z, t.cut ol oh⟩
            | _ => cases qf
          · cases q
        · cases q
      · cases q
    · cases q
end

/-! ### operations on data -/
def iI (f : Int → Int → Option Int) : PyData → PyData → Option PyData
  | .int i, .int j => (f i j).map .int
  | _, _ => none
theorem prim_I {C : Int → Int → Prop} {g : Int → Int → Int} {f : Int → Int → Option Int} (hf : ∀ i j k, f i j = some k → C i j ∧ k = g i j) : Prim2 K (iI f) (rI C fun i j => .int (g i j)) := by
  intro G H v u x y d ex dx dy q Q k
  unfold iI at q
  split at q
  · rename_i i j
    cases dx
    cases dy
    cases e : f i j with
    | none => rw [e] at q; cases q
    | some m =>
      rw [e] at q
      cases q
      obtain ⟨c, rfl⟩ := hf i j m e
      exact ⟨i, j, rfl, rfl, c, k _ G H .refl (.int _)⟩
  · cases q
theorem prim_I0 {g : Int → Int → Int} : Prim2 K (iI fun i j => some (g i j)) (rI0 fun i j => .int (g i j)) := by
  intro G H v u x y d ex dx dy q Q k
  unfold iI at q
  split at q
  · rename_i i j
    cases dx
    cases dy
    cases q
    exact ⟨i, j, rfl, rfl, k _ G H .refl (.int _)⟩
  · cases q
def subD := iI fun i j => some (i - j)
def andD := iI fun i j => some (Builtin.bitAnd i j)
def orD := iI fun i j => some (Builtin.bitOr i j)
def xorD := iI fun i j => some (Builtin.bitXor i j)
def modD := iI fun i j => if j = 0 then none else some (i.fmod j)
def fdivD := iI fun i j => if j ≠ 0 ∧ j.natAbs < 1073741824 then some (i.fdiv j) else none
def mulI := iI fun i j => if (-(2 ^ 64) < i ∧ i < 2 ^ 64) ∨ (-(2 ^ 64) < j ∧ j < 2 ^ 64) then some (i * j) else none
def powD := iI fun i j => if 0 ≤ j ∧ j ≤ 1000000 ∧ i.natAbs < 2 ^ 64 then some (i ^ j.toNat) else none
def shlD := iI fun i j => if 0 ≤ j ∧ j ≤ 1000000 ∧ i.natAbs < 2 ^ 64 then some (i * 2 ^ j.toNat) else none
def shrD := iI fun i j => if 0 ≤ j then some (i / 2 ^ j.toNat) else none
theorem p_sub : Prim2 K subD (rI0 fun i j => .int (i - j)) := prim_I0
theorem p_and : Prim2 K andD (rI0 fun i j => .int (Builtin.bitAnd i j)) := prim_I0
theorem p_or : Prim2 K orD (rI0 fun i j => .int (Builtin.bitOr i j)) := prim_I0
theorem p_xor : Prim2 K xorD (rI0 fun i j => .int (Builtin.bitXor i j)) := prim_I0
theorem p_mod : Prim2 K modD (rI (fun _ j => j ≠ 0) fun i j => .int (i.fmod j)) := prim_I fun i j k q => by
  split at q
  · cases q
  · rename_i h; cases q; exact ⟨h, rfl⟩
theorem p_fdiv : Prim2 K fdivD (rI CDivN fun i j => .int (i.fdiv j)) := prim_I fun i j k q => by
  split at q
  · rename_i h; cases q; exact ⟨h, rfl⟩
  · cases q
theorem p_pow : Prim2 K powD (rI CPow fun i j => .int (i ^ j.toNat)) := prim_I fun i j k q => by
  split at q
  · rename_i h; cases q; exact ⟨h, rfl⟩
  · cases q
theorem p_shl : Prim2 K shlD (rI CPow fun i j => .int (i * 2 ^ j.toNat)) := prim_I fun i j k q => by
  split at q
  · rename_i h; cases q; exact ⟨h, rfl⟩
  · cases q
theorem p_shr : Prim2 K shrD (rI (fun _ j => 0 ≤ j) fun i j => .int (i / 2 ^ j.toNat)) := prim_I fun i j k q => by
  split at q
  · rename_i h; cases q; exact ⟨h, rfl⟩
  · cases q
theorem p_mulI : Prim2 K mulI (rI CMul fun i j => .int (i * j)) := prim_I fun i j k q => by
  split at q
  · rename_i h; cases q; exact ⟨h, rfl⟩
  · cases q
/-- + -/
def addD : PyData → PyData → Option PyData
  | .int i, .int j => some (.int (i + j))
  | .str x, .str y => if x.length + y.length ≤ sizeLine then some (.str (x ++ y)) else none
  | .tuple xs, .tuple ys => if xs.length + ys.length ≤ sizeLine then some (.tuple (xs ++ ys)) else none
  | .list xs, .list ys => if xs.length + ys.length ≤ sizeLine then some (.list (xs ++ ys)) else none
  | _, _ => none
def rAddX (K : PySem.W.Frag) : R2 := fun x y H Q => (∃ i j, x = .int i ∧ y = .int j ∧ Q (.int (i + j)) H) ∨ ((∃ i j, x = .str i ∧ y = .str j ∧ i.length + j.length ≤ sizeLine ∧ Q (.str (i ++ j)) H) ∨ (rCatA K x y H Q ∨ rCat x y H Q))
theorem o_add : OpR X (binaryOp .Add) (rAddX X.K) := op_add.or (op_add_str.or (op_catA.or op_cat))
theorem p_add : Prim2 K addD (rAddX K) := by
  intro G H v u x y d ex dx dy q Q k
  unfold addD at q
  split at q
  · cases dx; cases dy; cases q
    exact .inl ⟨_, _, rfl, rfl, k _ G H .refl (.int _)⟩
  · split at q
    · rename_i hz
      cases dx; cases dy; cases q
      exact .inr (.inl ⟨_, _, rfl, rfl, hz, k _ G H .refl (.str _)⟩)
    · cases q
  · split at q
    · rename_i xs ys hz
      cases q
      cases dx with
      | tup h1 z1 t1 =>
        cases dy with
        | tup h2 z2 t2 =>
          refine .inr (.inr (.inl ⟨_, _, _, _, rfl, rfl, ex.sqT h1, ex.sqT h2, by rw [t1.len, t2.len]; exact hz, fun e => ?_, fun n e => ?_, fun n1 n2 p hp => ?_⟩))
          · subst e
            cases t1
            exact k _ G H .refl (.tup h2 z2 t2)
          · subst e
            cases t2
            exact k _ G H .refl (by rw [List.append_nil]; exact .tup h1 z1 t1)
          · exact k (.ref p) _ _ (.one hp) (.tup (.inl (.inl upd_same)) (by rw [List.length_append, t1.len, t2.len]; exact hz) ((t1.append t2).mono (Ex.new (ex.none hp))))
    · cases q
  · split at q
    · rename_i xs ys hz
      cases q
      cases dx with
      | lst h1 z1 t1 =>
        cases dy with
        | lst h2 z2 t2 =>
          refine .inr (.inr (.inr ⟨_, _, _, _, rfl, rfl, ex _ _ h1, ex _ _ h2, by rw [t1.len, t2.len]; exact hz, fun p hp => ?_⟩))
          exact k (.ref p) _ _ (.one hp) (.lst upd_same (by rw [List.length_append, t1.len, t2.len]; exact hz) ((t1.append t2).mono (Ex.new (ex.none hp))))
    · cases q
  · cases q
/-- list + list, a new one -/
def catF : PyData → PyData → Option PyData
  | .list xs, .list ys => if xs.length + ys.length ≤ sizeLine then some (.list (xs ++ ys)) else none
  | _, _ => none
theorem p_catF : Prim2F K catF rCat := by
  intro G H v u x y d ex dx dy q Q k
  unfold catF at q
  split at q
  · split at q
    · rename_i xs ys hz
      cases q
      cases dx with
      | lst h1 z1 t1 =>
        cases dy with
        | lst h2 z2 t2 =>
          refine ⟨_, _, _, _, rfl, rfl, ex _ _ h1, ex _ _ h2, by rw [t1.len, t2.len]; exact hz, fun p hp => ?_⟩
          exact k p _ hp ⟨_, upd_same, by rw [List.length_append, t1.len, t2.len]; exact hz, t1.append t2⟩
    · cases q
  · cases q
/-- -x -/
def negD : PyData → Option PyData
  | .int i => some (.int (-i))
  | _ => none
theorem p_neg : Prim1 K negD (rU fun i => .int (-i)) := by
  intro G H v x d ex dx q Q k
  unfold negD at q
  split at q
  · cases dx; cases q; exact ⟨_, rfl, k _ G H .refl (.int _)⟩
  · cases q
/-- < <= > >= of ints -/
def iB (g : Int → Int → Bool) : PyData → PyData → Option PyData
  | .int i, .int j => some (.bool (g i j))
  | _, _ => none
theorem p_iB {g : Int → Int → Bool} : Prim2 K (iB g) (rI0 fun i j => .bl (g i j)) := by
  intro G H v u x y d ex dx dy q Q k
  unfold iB at q
  split at q
  · cases dx; cases dy; cases q
    exact ⟨_, _, rfl, rfl, k _ G H .refl (.bl _)⟩
  · cases q
def ltI := iB fun i j => decide (i < j)
def leI := iB fun i j => decide (i ≤ j)
def gtI := iB fun i j => decide (j < i)
def geI := iB fun i j => decide (j ≤ i)
theorem p_lt : Prim2 K ltI (rI0 fun i j => .bl (decide (i < j))) := p_iB
theorem p_le : Prim2 K leI (rI0 fun i j => .bl (decide (i ≤ j))) := p_iB
theorem p_gt : Prim2 K gtI (rI0 fun i j => .bl (decide (j < i))) := p_iB
theorem p_ge : Prim2 K geI (rI0 fun i j => .bl (decide (j ≤ i))) := p_iB
/-- is None -/
def isN (x y : PyData) : Option PyData := match y with
  | .none => some (.bool (match x with | .none => true | _ => false))
  | _ => none
def isNotN (x y : PyData) : Option PyData := match y with
  | .none => some (.bool (match x with | .none => false | _ => true))
  | _ => none
theorem p_isN : Prim2 K isN (fun x y H Q => y = .non ∧ Q (.bl (decide (x = .non))) H) := by
  intro G H v u x y d ex dx dy q Q k
  unfold isN at q
  split at q
  · cases dy; cases q
    refine ⟨rfl, ?_⟩
    cases dx <;> exact k _ G H .refl (.bl _)
  · cases q
theorem p_isNotN : Prim2 K isNotN (fun x y H Q => y = .non ∧ Q (.bl (!decide (x = .non))) H) := by
  intro G H v u x y d ex dx dy q Q k
  unfold isNotN at q
  split at q
  · cases dy; cases q
    refine ⟨rfl, ?_⟩
    cases dx <;> exact k _ G H .refl (.bl _)
  · cases q
/-- == of texts, and of data of any depth -/
def eqD (x y : PyData) : Option PyData := match x, y with
  | .str a, .str b => some (.bool (a == b))
  | x, y => if SeqAt.shaped x = true ∧ SeqAt.shaped y = true then some (.bool (PyData.eqv x y)) else none
def neD (x y : PyData) : Option PyData := match x, y with
  | .str a, .str b => some (.bool (!(a == b)))
  | x, y => if SeqAt.shaped x = true ∧ SeqAt.shaped y = true then some (.bool (!PyData.eqv x y)) else none
def rEqX (K : PySem.W.Frag) : R2 := fun x y H Q => rEqD K x y H Q ∨ rEq x y H Q
def rNeX (K : PySem.W.Frag) : R2 := fun x y H Q => rNeD K x y H Q ∨ rNe x y H Q
theorem op_eqX {X : Cx} (hu : X.A.units + 64 < cLine) : OpR X (compareOp .Eq) (rEqX X.K) := (op_eqD hu).or op_eq
theorem op_neX {X : Cx} (hu : X.A.units + 64 < cLine) : OpR X (compareOp .NotEq) (rNeX X.K) := (op_neD hu).or op_ne
theorem p_eq : Prim2 K eqD (rEqX K) := by
  intro G H v u x y d ex dx dy q Q k
  unfold eqD at q
  split at q
  · cases q
    cases dx
    cases dy
    refine .inr ⟨rfl, ?_⟩
    rw [dec_str]
    exact k _ G H .refl (.bl _)
  · split at q
    · rename_i h
      cases q
      exact .inl ⟨x, y, (dx.mono ex).dp (PyData.hasDict_of_canLay x (SeqAt.canLay_of_shaped h.1)), (dy.mono ex).dp (PyData.hasDict_of_canLay y (SeqAt.canLay_of_shaped h.2)), h.1, h.2, k _ G H .refl (.bl _)⟩
    · cases q
theorem p_ne : Prim2 K neD (rNeX K) := by
  intro G H v u x y d ex dx dy q Q k
  unfold neD at q
  split at q
  · cases q
    cases dx
    cases dy
    refine .inr ⟨rfl, ?_⟩
    rw [dec_str]
    exact k _ G H .refl (.bl _)
  · split at q
    · rename_i h
      cases q
      exact .inl ⟨x, y, (dx.mono ex).dp (PyData.hasDict_of_canLay x (SeqAt.canLay_of_shaped h.1)), (dy.mono ex).dp (PyData.hasDict_of_canLay y (SeqAt.canLay_of_shaped h.2)), h.1, h.2, k _ G H .refl (.bl _)⟩
    · cases q
/-- in, not in -/
def inData (x : PyData) (ds : List PyData) : Bool := ds.any fun z => PyData.eqv z x
def inD (x y : PyData) : Option PyData := match seqOf y with
  | some ds => if x.hasDict = false ∧ PyData.hasDictAll ds = false ∧ SeqAt.shaped x = true ∧ PyData.canLayAll0 ds = true then some (.bool (inData x ds)) else none
  | none => none
def ninD (x y : PyData) : Option PyData := match seqOf y with
  | some ds => if x.hasDict = false ∧ PyData.hasDictAll ds = false ∧ SeqAt.shaped x = true ∧ PyData.canLayAll0 ds = true then some (.bool (!inData x ds)) else none
  | none => none
def rInX (K : PySem.W.Frag) (neg : Bool) : R2 := fun x y H Q => ∃ d e ds, Dp K H x d ∧ Dp K H y e ∧ seqOf e = some ds ∧ SeqAt.shaped d = true ∧ PyData.canLayAll0 ds = true ∧ Q (.bl (if neg then !inData d ds else inData d ds)) H
theorem room_in {A : Around} {d : PyData} {n : Nat} (hd : SeqAt.shaped d = true) (hu : A.units + 65 < cLine) : A.units + 1 + min n d.depth < cLine := by
  have h1 := SeqAt.depth_of_shaped hd
  have h2 : min n d.depth ≤ d.depth := Nat.min_le_right _ _
  omega
theorem o_in (hu : X.A.units + 65 < cLine) : OpR X (compareOp .In) (rInX X.K false) := by
  intro pins s σ H x y v u Q I rx ry h
  obtain ⟨d, e, ds, hd, he, hs, sd, se, q⟩ := h
  obtain ⟨as, r1⟩ := Dp.reads I d x v hd rx
  obtain ⟨bs, r2⟩ := Dp.reads I e y u he ry
  cases e with
  | list zs => cases hs; exact SeqAt.in_list_reads r2 r1 se (SeqAt.canLay_of_shaped sd) (room_in sd hu) ⟨.bl _, H, I, rfl, q⟩
  | tuple zs => cases hs; exact SeqAt.in_tuple_reads r2 r1 se (SeqAt.canLay_of_shaped sd) (room_in sd hu) ⟨.bl _, H, I, rfl, q⟩
  | _ => cases hs
theorem o_nin (hu : X.A.units + 65 < cLine) : OpR X (compareOp .NotIn) (rInX X.K true) := by
  intro pins s σ H x y v u Q I rx ry h
  obtain ⟨d, e, ds, hd, he, hs, sd, se, q⟩ := h
  obtain ⟨as, r1⟩ := Dp.reads I d x v hd rx
  obtain ⟨bs, r2⟩ := Dp.reads I e y u he ry
  cases e with
  | list zs => cases hs; exact SeqAt.notIn_list_reads r2 r1 se (SeqAt.canLay_of_shaped sd) (room_in sd hu) ⟨.bl _, H, I, rfl, q⟩
  | tuple zs => cases hs; exact SeqAt.notIn_tuple_reads r2 r1 se (SeqAt.canLay_of_shaped sd) (room_in sd hu) ⟨.bl _, H, I, rfl, q⟩
  | _ => cases hs
theorem hasDict_seq {e : PyData} {ds : List PyData} (h : seqOf e = some ds) : e.hasDict = PyData.hasDictAll ds := by
  cases e with
  | list xs => cases h; simp [PyData.hasDict]
  | tuple xs => cases h; simp [PyData.hasDict]
  | _ => cases h
theorem p_in : Prim2 K inD (rInX K false) := by
  intro G H v u x y d ex dx dy q Q k
  unfold inD at q
  split at q
  · rename_i ds hs
    split at q
    · rename_i h
      cases q
      exact ⟨x, y, ds, (dx.mono ex).dp h.1, (dy.mono ex).dp (by rw [hasDict_seq hs]; exact h.2.1), hs, h.2.2.1, h.2.2.2, k _ G H .refl (.bl _)⟩
    · cases q
  · cases q
theorem p_nin : Prim2 K ninD (rInX K true) := by
  intro G H v u x y d ex dx dy q Q k
  unfold ninD at q
  split at q
  · rename_i ds hs
    split at q
    · rename_i h
      cases q
      exact ⟨x, y, ds, (dx.mono ex).dp h.1, (dy.mono ex).dp (by rw [hasDict_seq hs]; exact h.2.1), hs, h.2.2.1, h.2.2.2, k _ G H .refl (.bl _)⟩
    · cases q
  · cases q
/-- xs[i] of lists, tuples, texts -/
def ixD : PyData → PyData → Option PyData
  | .list xs, .int i => atI xs i
  | .tuple xs, .int i => atI xs i
  | .str z, .int i => if z.length ≤ sizeLine then (atI z.cps.toList i).map fun c => .str ⟨#[c]⟩ else none
  | _, _ => none
theorem DrAll.at {G : Hp} {vs : List V} {ds : List PyData} {i : Int} {d : PyData} (h : DrAll K G vs ds) (e : atI ds i = some d) : ∃ v, atI vs i = some v ∧ Dr K G v d := by
  unfold atI at e ⊢
  rw [h.len]
  cases q : ixN ds.length i with
  | none => rw [q] at e; cases e
  | some j =>
    rw [q] at e
    exact h.get e
theorem p_ix : Prim2 K ixD (rIx K) := by
  intro G H v u x y d ex dx dy q Q k
  unfold ixD at q
  split at q
  · cases dy
    cases dx with
    | lst h1 z t =>
      obtain ⟨w, e1, e2⟩ := t.at q
      exact .inl ⟨_, _, _, w, rfl, rfl, .inl (.inl (ex _ _ h1)), e1, k _ G H .refl e2⟩
  · cases dy
    cases dx with
    | tup h1 z t =>
      obtain ⟨w, e1, e2⟩ := t.at q
      exact .inr (.inl ⟨_, _, _, w, rfl, rfl, ex.sqT h1, e1, k _ G H .refl e2⟩)
  · split at q
    · rename_i z i hz
      cases dy
      cases dx
      cases e : atI z.cps.toList i with
      | none => rw [e] at q; cases q
      | some c =>
        rw [e] at q
        cases q
        exact .inr (.inr ⟨z, i, c, rfl, rfl, hz, e, k _ G H .refl (.str _)⟩)
    · cases q
  · cases q
theorem seqOf_eq {e : PyData} {ds : List PyData} (h : seqOf e = some ds) : e = .list ds ∨ e = .tuple ds := by
  cases e with
  | list xs => cases h; exact .inl rfl
  | tuple xs => cases h; exact .inr rfl
  | _ => cases h
end
end DL

set_option maxHeartbeats 1000000
/-! DL4: statements, loops, comprehensions. -/
namespace DL
open PySem PySem.Spec PyProof.Rows L2

inductive Fw where
  | nx (ρ : En) | ret (d : PyData) (ρ : En) | brk (ρ : En) | ct (ρ : En)
abbrev Sv := En → Option Fw
def ZP (Z : Zn) : Prop := ∀ a, Z.io a → ∃ j, Z.pin j = some a
/-- what a def hands back -/
def RetR (K : PySem.W.Frag) (fr : Bool) (Z : Zn) (G H : Hp) (v : V) (d : PyData) : Prop :=
  if fr = true then ∃ a, v = .ref a ∧ G a = none ∧ Z.H a = none ∧ OwnAt K G H a d else Dr K G v d
/-- what follows a flow -/
def KT (K : PySem.W.Frag) (fr : Bool) (Z : Zn) (G : Hp) (D : Ends) : Fw → Prop
  | .nx ρ' => ∀ σ' G' H', Ex G G' → SR K Z G' H' σ' ρ' → D.nx σ' H'
  | .ret d ρ' => ∀ v σ' G' H', Ex G G' → SR K Z G' H' σ' ρ' → RetR K fr Z G' H' v d → D.rt v H'
  | .brk ρ' => ∀ σ' G' H', Ex G G' → SR K Z G' H' σ' ρ' → D.bk σ' H'
  | .ct ρ' => ∀ σ' G' H', Ex G G' → SR K Z G' H' σ' ρ' → D.ct σ' H'
theorem KT.mono {K : PySem.W.Frag} {fr : Bool} {Z : Zn} {G G1 : Hp} {D : Ends} {w : Fw} (ex : Ex G G1) (k : KT K fr Z G D w) : KT K fr Z G1 D w := by
  cases w with
  | nx ρ2 => exact fun σ' G' H' ex' R' => k σ' G' H' (ex.trans ex') R'
  | brk ρ2 => exact fun σ' G' H' ex' R' => k σ' G' H' (ex.trans ex') R'
  | ct ρ2 => exact fun σ' G' H' ex' R' => k σ' G' H' (ex.trans ex') R'
  | ret d ρ2 => exact fun v σ' G' H' ex' R' => k v σ' G' H' (ex.trans ex') R'
def tT (K : PySem.W.Frag) (fr : Bool) (ψ : Sv) : TS := fun D σ H => ∃ Z G ρ w, ZP Z ∧ SR K Z G H σ ρ ∧ ψ ρ = some w ∧ KT K fr Z G D w
theorem _root_.L2.PS.conv {X : Cx} {st : Stmt} {t t' : TS} (h : PS X st t) (c : ∀ D σ H, t' D σ H → t D σ H) : PS X st t' := ⟨fun pins s σ H D I q => h.run pins s σ H D I (c D σ H q)⟩
theorem _root_.L2.PSs.conv {X : Cx} {st : List Stmt} {t t' : TS} (h : PSs X st t) (c : ∀ D σ H, t' D σ H → t D σ H) : PSs X st t' := ⟨fun pins s σ H D I q => h.run pins s σ H D I (c D σ H q)⟩
theorem _root_.L2.PI.conv {X : Cx} {tg e : Expr} {t t' : TI} (h : PI X tg e t) (c : ∀ σ H Q, t' σ H Q → t σ H Q) : PI X tg e t' := ⟨fun pins s σ H Q I q => h.run pins s σ H Q I (c σ H Q q)⟩
theorem _root_.L2.PI.alt {X : Cx} {tg e : Expr} {t t' : TI} (h : PI X tg e t) (h' : PI X tg e t') : PI X tg e (fun σ H R => t σ H R ∨ t' σ H R) := ⟨fun pins s σ H Q I q => q.elim (h.run pins s σ H Q I) (h'.run pins s σ H Q I)⟩
theorem _root_.L2.PG.conv {X : Cx} {tg : Expr} {t t' : TG} (h : PG X tg t) (c : ∀ v σ H Q, t' v σ H Q → t v σ H Q) : PG X tg t' := ⟨fun pins s σ H v u Q I r q => h.run pins s σ H v u Q I r (c v σ H Q q)⟩
theorem _root_.L2.PGs.conv {X : Cx} {tg : List Expr} {t t' : TGs} (h : PGs X tg t) (c : ∀ v σ H Q, t' v σ H Q → t v σ H Q) : PGs X tg t' := ⟨fun pins s σ H v u Q I r q => h.run pins s σ H v u Q I r (c v σ H Q q)⟩
theorem _root_.L2.PTs.conv {X : Cx} {es : List Expr} {t t' : TT} (h : PTs X es t) (c : ∀ σ H Q, t' σ H Q → t σ H Q) : PTs X es t' := ⟨fun pins s σ H Q I q => h.run pins s σ H Q I (c σ H Q q)⟩

section
variable {X : Cx} {K : PySem.W.Frag} {fr : Bool} {st : Stmt} {sts : List Stmt} {e : Expr} {a : Ev} {q : Eq} {ψ φ : Sv} {pos : Pos}
/-! ### blocks -/
def sN : Sv := fun ρ => some (.nx ρ)
def sQ (ψ φ : Sv) : Sv := fun ρ => match ψ ρ with
  | some (.nx ρ1) => φ ρ1
  | r => r
theorem rs_nil : PSs X [] (tT K fr sN) := pss_nil.conv fun D σ H ⟨Z, G, ρ, w, zp, R, q, k⟩ => by
  cases q
  exact k σ G H (Ex.refl _) R
theorem rs_cons (h1 : PS X st (tT K fr ψ)) (h2 : PSs X sts (tT K fr φ)) : PSs X (st :: sts) (tT K fr (sQ ψ φ)) := (pss_cons h1 h2).conv fun D σ H ⟨Z, G, ρ, w, zp, R, q, k⟩ => by
  unfold sQ at q
  split at q
  · rename_i ρ1 q1
    exact ⟨Z, G, ρ, .nx ρ1, zp, R, q1, fun σ1 G1 H1 ex R1 => ⟨Z, G1, ρ1, w, zp, R1, q, k.mono ex⟩⟩
  · rename_i hne
    refine ⟨Z, G, ρ, w, zp, R, q, ?_⟩
    cases w with
    | nx ρ2 => exact absurd q (hne ρ2)
    | brk ρ2 => exact k
    | ct ρ2 => exact k
    | ret d ρ2 => exact k
theorem rs_one (h1 : PS X st (tT K fr ψ)) : PSs X [st] (tT K fr ψ) := pss_one h1
/-! ### small statements -/
def sAsg (i : Nat) (a : Ev) : Sv := fun ρ => match a ρ with
  | some (d, ρ1) => some (.nx (ρ1.set i (.d d)))
  | none => none
def sAsgO (i : Nat) (a : Ev) : Sv := fun ρ => match a ρ with
  | some (d, ρ1) => some (.nx (ρ1.set i (.o d)))
  | none => none
theorem r_asg {i : Nat} (h : PS X st (tAsg (tS K a) (gName i))) : PS X st (tT K fr (sAsg i a)) := h.conv fun D σ H ⟨Z, G, ρ, w, zp, R, q, k⟩ => by
  unfold sAsg at q
  split at q
  · rename_i d ρ1 qa
    cases q
    exact ⟨Z, G, ρ, d, ρ1, R, qa, fun v G' H' ex R' dr => k _ G' H' ex (R'.setD dr)⟩
  · cases q
theorem r_asgO {i : Nat} (h : PS X st (tAsg (tF K a) (gName i))) : PS X st (tT K fr (sAsgO i a)) := h.conv fun D σ H ⟨Z, G, ρ, w, zp, R, q, k⟩ => by
  unfold sAsgO at q
  split at q
  · rename_i d ρ1 qa
    cases q
    exact ⟨Z, G, ρ, d, ρ1, R, qa, fun p G' H' ex R' hg hz hn o => k _ G' H' ex (R'.setO hg hz hn o)⟩
  · cases q
/-- the reading of what is assigned, changed -/
theorem asg_conv {te te' : TE} {g : TG} (h : PS X st (tAsg te g)) (c : ∀ σ H Q, te' σ H Q → te σ H Q) : PS X st (tAsg te' g) := h.conv fun D σ H q => c σ H _ q
def sDrop (a : Ev) : Sv := fun ρ => match a ρ with
  | some (_, ρ1) => some (.nx ρ1)
  | none => none
theorem r_drop (h : PS X st (tDrop (tS K a))) : PS X st (tT K fr (sDrop a)) := h.conv fun D σ H ⟨Z, G, ρ, w, zp, R, q, k⟩ => by
  unfold sDrop at q
  split at q
  · rename_i d ρ1 qa
    cases q
    exact ⟨Z, G, ρ, d, _, R, qa, fun v G' H' ex R' dr => k σ G' H' ex R'⟩
  · cases q
def sRet (a : Ev) : Sv := fun ρ => match a ρ with
  | some (d, ρ1) => some (.ret d ρ1)
  | none => none
theorem r_ret (h : PE X e (tS K a)) : PS X (.Return (some e) pos) (tT K false (sRet a)) := (ps_ret h).conv fun D σ H ⟨Z, G, ρ, w, zp, R, q, k⟩ => by
  unfold sRet at q
  split at q
  · rename_i d ρ1 qa
    cases q
    exact ⟨Z, G, ρ, d, _, R, qa, fun v G' H' ex R' dr => k v σ G' H' ex R' dr⟩
  · cases q
theorem r_retF (h : PE X e (tF K a)) : PS X (.Return (some e) pos) (tT K true (sRet a)) := (ps_ret h).conv fun D σ H ⟨Z, G, ρ, w, zp, R, q, k⟩ => by
  unfold sRet at q
  split at q
  · rename_i d ρ1 qa
    cases q
    exact ⟨Z, G, ρ, d, _, R, qa, fun p G' H' ex R' hg hz hn o => k (.ref p) σ G' H' ex R' ⟨p, rfl, hg, hz, o⟩⟩
  · cases q
/-- return x, x a list or dict of the def's own -/
def sRetO (i : Nat) : Sv := fun ρ => match ρ[i]? with
  | some (.o d) => some (.ret d (ρ.set i .u))
  | _ => none
theorem ret_own {Z : Zn} {G H : Hp} {σ : L2.St} {ρ : En} {i : Nat} {d : PyData} (zp : ZP Z) (R : SR K Z G H σ ρ) (e : ρ[i]? = some (.o d)) :
    ∃ p, σ[i]? = some (some (.ref p)) ∧ G p = none ∧ Z.H p = none ∧ OwnAt K G H p d ∧ SR K Z G H σ (ρ.set i .u) ∧ ∀ j, Owned (ρ.set i .u) j → σ[j]? ≠ some (some (.ref p)) := by
  obtain ⟨p, h1, h2, h3, h4⟩ := R.own i _ d e rfl
  refine ⟨p, h1, h2, ?_, h3, R.less (by rw [List.length_set]) fun j s hj => ?_, fun j ⟨s, x, hj, hs⟩ hp => ?_⟩
  · rcases h4 with h4 | h4
    · obtain ⟨j, hj⟩ := zp _ h4
      exact absurd hj (R.opin i d p e h1 j)
    · exact h4
  · rcases getElem?_set_cases hj with ⟨_, z⟩ | ⟨_, z⟩
    · exact .inl z
    · exact .inr z
  · rcases getElem?_set_cases hj with ⟨_, z⟩ | ⟨n, z⟩
    · subst z; cases hs
    · exact n (R.inj j i p ⟨s, x, z, hs⟩ ⟨_, d, e, rfl⟩ hp h1)
theorem r_retOF {i : Nat} (h : PE X e (tVar i)) : PS X (.Return (some e) pos) (tT K true (sRetO i)) := (ps_ret h).conv fun D σ H ⟨Z, G, ρ, w, zp, R, q, k⟩ => by
  unfold sRetO at q
  split at q
  · rename_i d hd
    cases q
    obtain ⟨p, h1, h2, h3, h4, h5, _⟩ := ret_own zp R hd
    exact ⟨.ref p, h1, k (.ref p) σ G H (Ex.refl _) h5 ⟨p, rfl, h2, h3, h4⟩⟩
  · cases q
theorem r_retO {i : Nat} (h : PE X e (tVar i)) : PS X (.Return (some e) pos) (tT K false (sRetO i)) := (ps_ret h).conv fun D σ H ⟨Z, G, ρ, w, zp, R, q, k⟩ => by
  unfold sRetO at q
  split at q
  · rename_i d hd
    cases q
    obtain ⟨p, h1, h2, h3, h4, h5, h6⟩ := ret_own zp R hd
    obtain ⟨u, hu⟩ := h4.some
    exact ⟨.ref p, h1, k (.ref p) σ (upd G p u) H (Ex.new h2) (h5.frz h2 h3 h6 hu) (h4.frz h2 hu)⟩
  · cases q
def sRetN : Sv := fun ρ => some (.ret .none ρ)
theorem r_retN : PS X (.Return none pos) (tT K false sRetN) := ps_retN.conv fun D σ H ⟨Z, G, ρ, w, zp, R, q, k⟩ => by
  cases q
  exact k .non σ G H (Ex.refl _) R .non
def sBrk : Sv := fun ρ => some (.brk ρ)
def sCt : Sv := fun ρ => some (.ct ρ)
theorem r_brk : PS X (.Break pos) (tT K fr sBrk) := ps_break.conv fun D σ H ⟨Z, G, ρ, w, zp, R, q, k⟩ => by
  cases q
  exact k σ G H (Ex.refl _) R
theorem r_ct : PS X (.Continue pos) (tT K fr sCt) := ps_continue.conv fun D σ H ⟨Z, G, ρ, w, zp, R, q, k⟩ => by
  cases q
  exact k σ G H (Ex.refl _) R
theorem r_pass : PS X (.Pass pos) (tT K fr sN) := ps_pass.conv fun D σ H ⟨Z, G, ρ, w, zp, R, q, k⟩ => by
  cases q
  exact k σ G H (Ex.refl _) R
def sIf (c : Eq) (ψ φ : Sv) : Sv := fun ρ => match c ρ with
  | some (true, ρ1) => ψ ρ1
  | some (false, ρ1) => φ ρ1
  | none => none
theorem weakT {Z : Zn} {G G1 H1 : Hp} {σ1 : L2.St} {ρ1 : En} {w : Fw} {D : Ends} (zp : ZP Z) (R1 : SR K Z G1 H1 σ1 ρ1) (q : ψ ρ1 = some w) (ex : Ex G G1) (k : KT K fr Z G D w) : tT K fr ψ D σ1 H1 :=
  ⟨Z, G1, ρ1, w, zp, R1, q, k.mono ex⟩
theorem r_ifS {c : Expr} {sa sb : List Stmt} (hc : PT X c (tQ K q)) (ha : PSs X sa (tT K fr ψ)) (hb : PSs X sb (tT K fr φ)) : PS X (.If c sa sb pos) (tT K fr (sIf q ψ φ)) := (ps_if hc ha hb).conv fun D σ H ⟨Z, G, ρ, w, zp, R, hq, k⟩ => by
  unfold sIf at hq
  split at hq
  · rename_i ρ1 q1
    exact ⟨Z, G, ρ, true, ρ1, R, q1, fun G' H' ex R' => iteT (weakT zp R' hq ex k)⟩
  · rename_i ρ1 q1
    exact ⟨Z, G, ρ, false, ρ1, R, q1, fun G' H' ex R' => iteF (weakT zp R' hq ex k)⟩
  · cases hq

/-! ### targets -/
abbrev Gv := PyData → En → Option En
abbrev Gvs := List PyData → En → Option En
/-- a target that stores to the slots vs alone -/
def gD (K : PySem.W.Frag) (vs : List Nat) (g : Gv) : TG := fun v σ H Q => ∃ Z G ρ x ρ', SR K Z G H σ ρ ∧ Dr K G v x ∧ g x ρ = some ρ' ∧ ∀ σ', SR K Z G H σ' ρ' → wipe σ' vs = wipe σ vs → Q σ' H
def gDs (K : PySem.W.Frag) (vs : List Nat) (g : Gvs) : TGs := fun us σ H Q => ∃ Z G ρ xs ρ', SR K Z G H σ ρ ∧ DrAll K G us xs ∧ g xs ρ = some ρ' ∧ ∀ σ', SR K Z G H σ' ρ' → wipe σ' vs = wipe σ vs → Q σ' H
theorem wipe_set {σ : L2.St} {i : Nat} {x : Option V} : ∀ {vs : List Nat}, i ∈ vs → wipe (σ.set i x) vs = wipe σ vs
  | v :: vs, h => by
    by_cases e : i = v
    · subst e
      unfold wipe
      by_cases h' : i ∈ vs
      · rw [wipe_set h']
      · have : ∀ vs : List Nat, i ∉ vs → wipe (σ.set i x) vs = (wipe σ vs).set i x := by
          intro ws hw
          induction ws with
          | nil => rfl
          | cons w ws ih =>
            unfold wipe
            rw [ih (fun z => hw (List.mem_cons_of_mem _ z)), List.set_comm _ _ (fun z => hw (by rw [z]; exact List.mem_cons_self))]
        rw [this vs h', List.set_set]
    · have h' : i ∈ vs := by
        rcases List.mem_cons.mp h with z | z
        · exact absurd z e
        · exact z
      unfold wipe
      rw [wipe_set h']
def gN (i : Nat) : Gv := fun x ρ => some (ρ.set i (.d x))
def gT (n : Nat) (g : Gvs) : Gv := fun x ρ => match x with
  | .tuple xs => if xs.length = n then g xs ρ else none
  | _ => none
def gZ : Gvs := fun xs ρ => match xs with
  | [] => some ρ
  | _ :: _ => none
def gC (g : Gv) (h : Gvs) : Gvs := fun xs ρ => match xs with
  | x :: r => (match g x ρ with
    | some ρ1 => h r ρ1
    | none => none)
  | [] => none
section
variable {tg : Expr} {tgs : List Expr} {g : Gv} {gs : Gvs} {vs : List Nat} {i n : Nat}
theorem rg_name (h : PG X tg (gName i)) (hi : i ∈ vs) : PG X tg (gD K vs (gN i)) := h.conv fun v σ H Q ⟨Z, G, ρ, x, ρ', R, dx, q, k⟩ => by
  cases q
  exact k _ (R.setD dx) (wipe_set hi)
theorem rg_nil : PGs X [] (gDs K vs gZ) := pgs_nil.conv fun us σ H Q ⟨Z, G, ρ, xs, ρ', R, dx, q, k⟩ => by
  unfold gZ at q
  split at q
  · cases q
    cases dx
    exact ⟨rfl, k σ R rfl⟩
  · cases q
theorem rg_cons {e : Expr} {es : List Expr} (h1 : PG X e (gD K vs g)) (h2 : PGs X es (gDs K vs gs)) (hs : (assignEach (e :: es) X.env).map (·.2) = assign e X.env :: (assignEach es X.env).map (·.2) := by rfl) : PGs X (e :: es) (gDs K vs (gC g gs)) :=
  (pgs_cons h1 h2 hs).conv fun us σ H Q ⟨Z, G, ρ, xs, ρ', R, dx, q, k⟩ => by
    unfold gC at q
    split at q
    · split at q
      · rename_i x r ρ1 q1
        cases dx with
        | cons d1 d2 =>
          exact ⟨_, _, rfl, Z, G, ρ, _, ρ1, R, d1, q1, fun σ1 R1 w1 => ⟨Z, G, ρ1, _, ρ', R1, d2, q, fun σ2 R2 w2 => k σ2 R2 (w2.trans w1)⟩⟩
      · cases q
    · cases q
theorem rg_tup {es : List Expr} {k : Nat} (h : PG X (.Tuple es k pos) (gTup X.K n (gDs X.K vs gs))) : PG X (.Tuple es k pos) (gD X.K vs (gT n gs)) := h.conv fun v σ H Q ⟨Z, G, ρ, x, ρ', R, dx, q, k⟩ => by
  unfold gT at q
  split at q
  · split at q
    · rename_i xs hl
      cases dx with
      | tup h1 z t => exact ⟨_, _, rfl, R.gh.sqT h1, by rw [t.len]; exact hl, Z, G, ρ, _, ρ', R, t, q, k⟩
    · cases q
  · cases q
end
end
end DL

set_option maxHeartbeats 1000000
/-! DL5: walks, loops, comprehensions. -/
namespace DL
open PySem PySem.Spec PyProof.Rows L2

/-- a walk over data -/
structure ItD (K : PySem.W.Frag) (J : It) (G : Hp) (ds : List PyData) : Prop where
  len : ds.length ≤ sizeLine
  turn : ∀ (i : Nat) (G' H' : Hp), Ex G G' → Ex G' H' →
    (∀ d, ds[i]? = some d → J.go i H' ∧ ∀ x H'', J.yld i H' x H'' → ∃ G'', Al G' H' G'' H'' ∧ Dr K G'' x d) ∧ (ds.length ≤ i → J.stop i H')
def tI (K : PySem.W.Frag) (φ : Es) : TI := fun σ H R => ∃ Z G ρ ds ρ', SR K Z G H σ ρ ∧ φ ρ = some (ds, ρ') ∧ ∀ J G' H', Ex G G' → SR K Z G' H' σ ρ' → ItD K J G' ds → R J H'
def iSeq (a : Ev) : Es := fun ρ => match a ρ with
  | some (x, ρ1) => (match seqOf x with
    | some ds => some (ds, ρ1)
    | none => none)
  | none => none
section
variable {X : Cx} {K : PySem.W.Frag} {tg iter e : Expr} {es : List Expr} {a : Ev} {as : Es} {pos : Pos}
theorem itD_list {G : Hp} {p : Addr} {vs : List V} {ds : List PyData} (h : G p = some (.lst vs)) (z : vs.length ≤ sizeLine) (t : DrAll K G vs ds) : ItD K (Itl K p) G ds := ⟨by rw [← t.len]; exact z, fun i G' H' ex gh => by
  have hq : SqL K H' p vs := .inl (.inl (gh _ _ (ex _ _ h)))
  refine ⟨fun d hd => ?_, fun hl => ⟨vs, hq, by rw [t.len]; exact hl⟩⟩
  obtain ⟨v, e1, e2⟩ := t.get hd
  refine ⟨⟨vs, v, hq, e1⟩, fun x H'' y => ?_⟩
  obtain ⟨rfl, f⟩ := y
  have := f vs hq
  rw [e1] at this
  cases this
  exact ⟨G', .refl, e2.mono ex⟩⟩
theorem itD_tup {G : Hp} {p : Addr} {vs : List V} {ds : List PyData} (h : SqT K G p vs) (z : vs.length ≤ sizeLine) (t : DrAll K G vs ds) : ItD K (Itt K p) G ds := ⟨by rw [← t.len]; exact z, fun i G' H' ex gh => by
  have hq : SqT K H' p vs := gh.sqT (ex.sqT h)
  refine ⟨fun d hd => ?_, fun hl => ⟨vs, hq, by rw [t.len]; exact hl⟩⟩
  obtain ⟨v, e1, e2⟩ := t.get hd
  refine ⟨⟨vs, v, hq, e1⟩, fun x H'' y => ?_⟩
  obtain ⟨rfl, f⟩ := y
  have := f vs hq
  rw [e1] at this
  cases this
  exact ⟨G', .refl, e2.mono ex⟩⟩
theorem ri_seq (h : PE X e (tS X.K a)) : PI X tg e (tI X.K (iSeq a)) := ((pi_list h).alt (pi_tup h)).conv fun σ H Rc ⟨Z, G, ρ, ds, ρ', R, q, k⟩ => by
  unfold iSeq at q
  split at q
  · rename_i x ρ1 qa
    split at q
    · rename_i ds' hs
      cases q
      rcases seqOf_eq hs with rfl | rfl
      · refine .inl ⟨Z, G, ρ, _, _, R, qa, fun v G' H' ex R' dv => ?_⟩
        cases dv with
        | lst h1 z t => exact ⟨_, rfl, ⟨_, .inl (.inl (R'.gh _ _ h1))⟩, k _ G' H' ex R' (itD_list h1 z t)⟩
      · refine .inr ⟨Z, G, ρ, _, _, R, qa, fun v G' H' ex R' dv => ?_⟩
        cases dv with
        | tup h1 z t => exact ⟨_, rfl, ⟨_, R'.gh.sqT h1⟩, k _ G' H' ex R' (itD_tup h1 z t)⟩
    · cases q
  · cases q
/-- range -/
def iN (f : List PyData → Option (List PyData)) (as : Es) : Es := fun ρ => match as ρ with
  | some (xs, ρ1) => (match f xs with
    | some ds => some (ds, ρ1)
    | none => none)
  | none => none
def upI (lo : Int) (n : Nat) : List PyData := (List.range n).map fun (i : Nat) => PyData.int (lo + i)
def rng1 : List PyData → Option (List PyData)
  | [.int n] => if -(2 ^ 62) ≤ n ∧ n ≤ 16777216 then some (upI 0 n.toNat) else none
  | _ => none
def rng2 : List PyData → Option (List PyData)
  | [.int i, .int j] => if -(2 ^ 62) ≤ i ∧ i < 2 ^ 62 ∧ -(2 ^ 62) ≤ j ∧ j < 2 ^ 62 ∧ j - i ≤ 16777216 then some (upI i (j - i).toNat) else none
  | _ => none
theorem itD_rng {G : Hp} {lo : Int} {n : Nat} (hn : n ≤ sizeLine) : ItD K (Itr lo n) G (upI lo n) := ⟨by unfold upI; rw [List.length_map, List.length_range]; exact hn, fun i G' H' ex gh => by
  refine ⟨fun d hd => ?_, fun hl => ?_⟩
  · unfold upI at hd
    rw [List.getElem?_map] at hd
    by_cases hi : i < n
    · rw [List.getElem?_range hi] at hd
      cases hd
      refine ⟨hi, fun x H'' y => ?_⟩
      obtain ⟨rfl, rfl⟩ := y
      exact ⟨G', .refl, .int _⟩
    · rw [List.getElem?_eq_none (by rw [List.length_range]; omega)] at hd
      cases hd
  · unfold upI at hl
    rw [List.length_map, List.length_range] at hl
    exact hl⟩
/-- the opening of a walk made by arguments -/
theorem iN_open {f : List PyData → Option (List PyData)} {Z : Zn} {G H : Hp} {σ : L2.St} {ρ ρ' : En} {ds : List PyData} (R : SR K Z G H σ ρ) (q : iN f as ρ = some (ds, ρ'))
    {Rc : It → Hp → Prop} (k : ∀ J G' H', Ex G G' → SR K Z G' H' σ ρ' → ItD K J G' ds → Rc J H') {Q : List V → Hp → Prop}
    (h : ∀ xs vs G' H', f xs = some ds → Ex G G' → SR K Z G' H' σ ρ' → DrAll K G' vs xs → (∀ J G'' H'', Ex G' G'' → SR K Z G'' H'' σ ρ' → ItD K J G'' ds → Rc J H'') → Q vs H') : tAs K as σ H Q := by
  unfold iN at q
  split at q
  · rename_i xs ρ1 qa
    split at q
    · rename_i ds' hf
      cases q
      exact ⟨Z, G, ρ, xs, _, R, qa, fun vs G' H' ex R' dvs => h xs vs G' H' hf ex R' dvs fun J G'' H'' e2 => k J G'' H'' (ex.trans e2)⟩
    · cases q
  · cases q
theorem ri_range1 {e1 : Expr} {p : Pos} (hg : Gl X "range") (hm : X.mg "range" = none) (ha : PA X [e1] (tAs K as)) (hs : starEach [e1] X.env = [(false, eval e1 X.env)] := by rfl) :
    PI X tg (.Call (.Name "range" p) [e1] [] pos) (tI K (iN rng1 as)) := (pi_range1 hg hm ha hs).conv fun σ H Rc ⟨Z, G, ρ, ds, ρ', R, q, k⟩ => iN_open R q k fun xs vs G' H' hf ex R' dvs k' => by
  unfold rng1 at hf
  split at hf
  · split at hf
    · rename_i n hn
      cases hf
      cases dvs with
      | cons d1 d2 =>
        cases d1
        cases d2
        exact ⟨n, rfl, hn.1, by omega, k' _ G' H' (Ex.refl _) R' (itD_rng (by rw [sizeLine_eq]; omega))⟩
    · cases hf
  · cases hf
theorem ri_range2 {e1 e2 : Expr} {p : Pos} (hg : Gl X "range") (hm : X.mg "range" = none) (ha : PA X [e1, e2] (tAs K as)) (hs : starEach [e1, e2] X.env = [(false, eval e1 X.env), (false, eval e2 X.env)] := by rfl) (hs2 : starEach [e2] X.env = [(false, eval e2 X.env)] := by rfl) :
    PI X tg (.Call (.Name "range" p) [e1, e2] [] pos) (tI K (iN rng2 as)) := (pi_range2 hg hm ha hs hs2).conv fun σ H Rc ⟨Z, G, ρ, ds, ρ', R, q, k⟩ => iN_open R q k fun xs vs G' H' hf ex R' dvs k' => by
  unfold rng2 at hf
  split at hf
  · split at hf
    · rename_i i j hn
      cases hf
      cases dvs with
      | cons d1 d2 =>
        cases d2 with
        | cons d2 d3 =>
          cases d1
          cases d2
          cases d3
          exact ⟨i, j, rfl, ⟨hn.1, hn.2.1, hn.2.2.1, hn.2.2.2.1⟩, k' _ G' H' (Ex.refl _) R' (itD_rng (by rw [sizeLine_eq]; omega))⟩
    · cases hf
  · cases hf
/-- enumerate of a list -/
def enumD : List PyData → Option (List PyData)
  | [.list xs] => some (xs.mapIdx fun i x => .tuple [.int i, x])
  | _ => none
theorem itD_enum {G : Hp} {p : Addr} {vs : List V} {ds : List PyData} (h : G p = some (.lst vs)) (z : vs.length ≤ sizeLine) (t : DrAll K G vs ds) : ItD K (Ite K p) G (ds.mapIdx fun i x => .tuple [.int i, x]) := ⟨by rw [List.length_mapIdx, ← t.len]; exact z, fun i G' H' ex gh => by
  have hq : SqL K H' p vs := .inl (.inl (gh _ _ (ex _ _ h)))
  refine ⟨fun d hd => ?_, fun hl => ⟨vs, hq, by rw [t.len]; rw [List.length_mapIdx] at hl; exact hl⟩⟩
  rw [List.getElem?_mapIdx] at hd
  cases e : ds[i]? with
  | none => rw [e] at hd; cases hd
  | some y =>
    rw [e] at hd
    cases hd
    obtain ⟨v, e1, e2⟩ := t.get e
    refine ⟨⟨vs, v, hq, e1⟩, fun x H'' yl => ?_⟩
    obtain ⟨T, z, rfl, hT, rfl, f⟩ := yl
    have := f vs hq
    rw [e1] at this
    cases this
    exact ⟨_, .one hT, .tup (.inl (.inl upd_same)) (by show 2 ≤ sizeLine; decide) (.cons (.int _) (.cons (e2.mono (ex.trans (Ex.new (gh.none hT)))) .nil))⟩⟩
theorem ri_enum {e1 : Expr} {p tpos : Pos} {elts : List Expr} {kk : Nat} (hg : Gl X "enumerate") (hm : X.mg "enumerate" = none) (ha : PA X [e1] (tAs X.K as)) (hs : starEach [e1] X.env = [(false, eval e1 X.env)] := by rfl) :
    PI X (.Tuple elts kk tpos) (.Call (.Name "enumerate" p) [e1] [] pos) (tI X.K (iN enumD as)) := (pi_enum hg hm ha hs).conv fun σ H Rc ⟨Z, G, ρ, ds, ρ', R, q, k⟩ => iN_open R q k fun xs vs G' H' hf ex R' dvs k' => by
  unfold enumD at hf
  split at hf
  · cases hf
    cases dvs with
    | cons d1 d2 =>
      cases d2
      cases d1 with
      | lst h1 z t => exact ⟨_, _, rfl, .inl (.inl (R'.gh _ _ h1)), k' _ G' H' (Ex.refl _) R' (itD_enum h1 z t)⟩
  · cases hf

/-! ### for -/
def forD (g : Gv) (ψ : Sv) : List PyData → En → Option Fw
  | [], ρ => some (.nx ρ)
  | x :: xs, ρ => match g x ρ with
    | some ρ1 => (match ψ ρ1 with
      | some (.nx ρ2) => forD g ψ xs ρ2
      | some (.ct ρ2) => forD g ψ xs ρ2
      | some (.brk ρ2) => some (.nx ρ2)
      | some (.ret d ρ2) => some (.ret d ρ2)
      | none => none)
    | none => none
def sFor (it : Es) (g : Gv) (ψ : Sv) : Sv := fun ρ => match it ρ with
  | some (ds, ρ1) => forD g ψ ds ρ1
  | none => none
variable {fr : Bool} {it : Es} {g : Gv} {ψ : Sv} {vs : List Nat}
theorem r_for {body : List Stmt} (hp : PassesOwn (model X.prog X.w) X.A X.env X.xe) (hc : X.calm = true) (hi : PI X tg iter (tI K it)) (hg : PG X tg (gD K vs g)) (hb : PSs X body (tT K fr ψ))
    (hs : ∀ x, foldedSetIterable iter X.env x = pure x := by intro _; rfl) : PS X (.For tg iter body [] pos) (tT K fr (sFor it g ψ)) := (ps_for hp hc hi hg hb hs).conv fun D σ H ⟨Z, G, ρ, w, zp, R, q, k⟩ => by
  unfold sFor at q
  split at q
  · rename_i ds ρ1 qi
    refine ⟨Z, G, ρ, ds, ρ1, R, qi, fun J G1 H1 ex R1 it1 => ?_⟩
    refine ⟨fun i m σ H => m = ds.length - i ∧ i ≤ ds.length ∧ ∃ G' ρ', Ex G1 G' ∧ SR K Z G' H σ ρ' ∧ forD g ψ (ds.drop i) ρ' = some w, ⟨_, rfl, Nat.zero_le _, G1, ρ1, Ex.refl _, R1, q⟩, ?_⟩
    rintro i m σ2 H2 ⟨rfl, hi, G2, ρ2, ex2, R2, q2⟩
    obtain ⟨f1, f2⟩ := it1.turn i G2 H2 ex2 R2.gh
    by_cases hlt : i < ds.length
    · have e0 : ds[i]? = some ds[i] := List.getElem?_eq_getElem hlt
      obtain ⟨go, fy⟩ := f1 _ e0
      rw [List.drop_eq_getElem_cons hlt] at q2
      unfold forD at q2
      refine .inr ⟨go, fun σ' H' => ∃ G' ρ', Ex G1 G' ∧ SR K Z G' H' σ' ρ' ∧ forD g ψ (ds.drop (i + 1)) ρ' = some w, fun σ' H' hN => ⟨ds.length - (i + 1), by omega, rfl, hlt, hN⟩, fun x H3 yl => ?_⟩
      obtain ⟨G3, al, dx⟩ := fy x H3 yl
      have R3 := R2.al al
      have e3 := (al.ex R2.gh).1
      split at q2
      · rename_i ρ4 qg
        refine ⟨Z, G3, ρ2, _, ρ4, R3, dx, qg, fun σ4 R4 _ => ?_⟩
        have e13 : Ex G1 G3 := ex2.trans e3
        split at q2
        · rename_i ρ5 qb
          exact ⟨Z, G3, ρ4, .nx ρ5, zp, R4, qb, fun σ' G' H' e' R' => ⟨G', ρ5, e13.trans e', R', q2⟩⟩
        · rename_i ρ5 qb
          exact ⟨Z, G3, ρ4, .ct ρ5, zp, R4, qb, fun σ' G' H' e' R' => ⟨G', ρ5, e13.trans e', R', q2⟩⟩
        · rename_i ρ5 qb
          cases q2
          exact ⟨Z, G3, ρ4, .brk ρ5, zp, R4, qb, fun σ' G' H' e' R' => k σ' G' H' ((ex.trans e13).trans e') R'⟩
        · rename_i d ρ5 qb
          cases q2
          exact ⟨Z, G3, ρ4, .ret d ρ5, zp, R4, qb, fun v σ' G' H' e' R' => k v σ' G' H' ((ex.trans e13).trans e') R'⟩
        · cases q2
      · cases q2
    · have e0 : i = ds.length := by omega
      subst e0
      rw [List.drop_length] at q2
      unfold forD at q2
      cases q2
      exact .inl ⟨f2 (Nat.le_refl _), k σ2 G2 H2 (ex.trans ex2) R2⟩
  · cases q

/-! ### while -/
def whileD (c : Eq) (ψ : Sv) : Nat → En → Option Fw
  | 0, _ => none
  | n + 1, ρ => match c ρ with
    | some (true, ρ1) => (match ψ ρ1 with
      | some (.nx ρ2) => whileD c ψ n ρ2
      | some (.ct ρ2) => whileD c ψ n ρ2
      | some (.brk ρ2) => some (.nx ρ2)
      | some (.ret d ρ2) => some (.ret d ρ2)
      | none => none)
    | some (false, ρ1) => some (.nx ρ1)
    | none => none
variable {c : Eq}
theorem r_while {ce : Expr} {body : List Stmt} (n : Nat) (hp : PassesOwn (model X.prog X.w) X.A X.env X.xe) (hc : PT X ce (tQ K c)) (hb : PSs X body (tT K fr ψ)) : PS X (.While ce body [] pos) (tT K fr (whileD c ψ n)) :=
  (ps_while hp hc hb).conv fun D σ H ⟨Z, G, ρ, w, zp, R, q, k⟩ => by
    refine ⟨fun m σ H => ∃ G' ρ', Ex G G' ∧ SR K Z G' H σ ρ' ∧ whileD c ψ m ρ' = some w, ⟨n, G, ρ, Ex.refl _, R, q⟩, ?_⟩
    rintro m σ2 H2 ⟨G2, ρ2, ex2, R2, q2⟩
    cases m with
    | zero => cases q2
    | succ m =>
      unfold whileD at q2
      split at q2
      · rename_i ρ3 qc
        refine ⟨Z, G2, ρ2, true, ρ3, R2, qc, fun G3 H3 e3 R3 => ?_⟩
        have e13 := ex2.trans e3
        refine iteT ⟨fun σ' H' => ∃ G' ρ', Ex G G' ∧ SR K Z G' H' σ' ρ' ∧ whileD c ψ m ρ' = some w, fun σ' H' hN => ⟨m, Nat.lt_succ_self _, hN⟩, ?_⟩
        split at q2
        · rename_i ρ5 qb
          exact ⟨Z, G3, ρ3, .nx ρ5, zp, R3, qb, fun σ' G' H' e' R' => ⟨G', ρ5, e13.trans e', R', q2⟩⟩
        · rename_i ρ5 qb
          exact ⟨Z, G3, ρ3, .ct ρ5, zp, R3, qb, fun σ' G' H' e' R' => ⟨G', ρ5, e13.trans e', R', q2⟩⟩
        · rename_i ρ5 qb
          cases q2
          exact ⟨Z, G3, ρ3, .brk ρ5, zp, R3, qb, fun σ' G' H' e' R' => k σ' G' H' (e13.trans e') R'⟩
        · rename_i d ρ5 qb
          cases q2
          exact ⟨Z, G3, ρ3, .ret d ρ5, zp, R3, qb, fun v σ' G' H' e' R' => k v σ' G' H' (e13.trans e') R'⟩
        · cases q2
      · rename_i ρ3 qc
        cases q2
        exact ⟨Z, G2, ρ2, false, ρ3, R2, qc, fun G3 H3 e3 R3 => iteF (k σ2 G3 H3 (ex2.trans e3) R3)⟩
      · cases q2

/-! ### comprehensions -/
def wipeE (ρ : En) : List Nat → En
  | [] => ρ
  | v :: vs => (wipeE ρ vs).set v .u
/-- behind a comprehension: its own slots as they were (data alone), the others as they are -/
def mixE (vs : List Nat) (ρ1 ρ2 : En) : En := ρ2.mapIdx fun i s => if vs.contains i then (match ρ1[i]? with
  | some (.d x) => .d x
  | _ => .u) else s
def lcD (vs : List Nat) (g : Gv) (q : Eq) (a : Ev) : List PyData → En → Option (List PyData × En)
  | [], ρ => some ([], ρ)
  | x :: xs, ρ => match g x ρ with
    | some ρ1 => (match q ρ1 with
      | some (true, ρ2) => (match a ρ2 with
        | some (d, ρ3) => (match lcD vs g q a xs (wipeE ρ3 vs) with
          | some (r, ρ4) => some (d :: r, ρ4)
          | none => none)
        | none => none)
      | some (false, ρ2) => lcD vs g q a xs (wipeE ρ2 vs)
      | none => none)
    | none => none
def eLc (vs : List Nat) (it : Es) (g : Gv) (q : Eq) (a : Ev) : Ev := fun ρ => match it ρ with
  | some (ds, ρ1) => (match lcD vs g q a ds (wipeE ρ1 vs) with
    | some (out, ρ2) => some (.list out, mixE vs ρ1 ρ2)
    | none => none)
  | none => none
def qYes : Eq := fun ρ => some (true, ρ)
theorem rt_nil : PTs X [] (tQ K qYes) := pts_nil.conv fun σ H Q ⟨Z, G, ρ, b, ρ', R, q, k⟩ => by
  cases q
  exact k G H (Ex.refl _) R
theorem rt_one {q : Eq} (h : PT X e (tQ K q)) : PTs X [e] (tQ K q) := pts_one h

theorem wipe_wipe {σ : L2.St} {vs : List Nat} : L2.wipe (L2.wipe σ vs) vs = L2.wipe σ vs := by
  have : ∀ ws : List Nat, (∀ i ∈ ws, i ∈ vs) → L2.wipe (L2.wipe σ vs) ws = L2.wipe σ vs := by
    intro ws
    induction ws with
    | nil => intro _; rfl
    | cons w ws ih =>
      intro h
      show (L2.wipe (L2.wipe σ vs) ws).set w none = L2.wipe σ vs
      rw [ih fun i hi => h i (List.mem_cons_of_mem _ hi)]
      have hw := h w List.mem_cons_self
      have : ∀ us : List Nat, w ∈ us → (L2.wipe σ us).set w none = L2.wipe σ us := by
        intro us
        induction us with
        | nil => intro z; cases z
        | cons u us ih2 =>
          intro z
          show ((L2.wipe σ us).set u none).set w none = (L2.wipe σ us).set u none
          by_cases e : w = u
          · subst e; rw [List.set_set]
          · rw [List.set_comm _ _ (Ne.symm e), ih2 (by rcases List.mem_cons.mp z with q | q; exact absurd q e; exact q)]
      exact this vs hw
  exact this vs fun _ h => h
theorem wipeE_len (ρ : En) : ∀ vs : List Nat, (wipeE ρ vs).length = ρ.length
  | [] => rfl
  | v :: vs => by unfold wipeE; rw [List.length_set, wipeE_len ρ vs]
theorem wipeE_at {ρ : En} {i : Nat} {s : Sl} : ∀ {vs : List Nat}, (wipeE ρ vs)[i]? = some s → s = .u ∨ (i ∉ vs ∧ ρ[i]? = some s)
  | [], h => .inr ⟨by simp, h⟩
  | v :: vs, h => by
    unfold wipeE at h
    rcases getElem?_set_cases h with ⟨_, z⟩ | ⟨n, z⟩
    · exact .inl z
    · rcases wipeE_at z with z | ⟨z1, z2⟩
      · exact .inl z
      · exact .inr ⟨fun m => by rcases List.mem_cons.mp m with q | q; exact n q; exact z1 q, z2⟩
theorem SR.wipe {Z : Zn} {G H : Hp} {σ : L2.St} {ρ : En} (R : SR K Z G H σ ρ) (vs : List Nat) : SR K Z G H (wipe σ vs) (wipeE ρ vs) := by
  have R1 : SR K Z G H σ (wipeE ρ vs) := R.less (wipeE_len ρ vs) fun i s h => by
    rcases wipeE_at h with z | z
    · exact .inl z
    · exact .inr z.2
  refine R1.slots (wipe_length σ vs) fun i s v h hu hv => ?_
  rcases wipeE_at h with z | z
  · exact absurd z hu
  · rw [wipe_out z.1]; exact hv
theorem mixE_at {vs : List Nat} {ρ1 ρ2 : En} {i : Nat} {s : Sl} (h : (mixE vs ρ1 ρ2)[i]? = some s) : (i ∈ vs ∧ (s = .u ∨ ∃ x, s = .d x ∧ ρ1[i]? = some (.d x))) ∨ (i ∉ vs ∧ ρ2[i]? = some s) := by
  unfold mixE at h
  rw [List.getElem?_mapIdx] at h
  cases e : ρ2[i]? with
  | none => rw [e] at h; cases h
  | some t =>
    rw [e] at h
    simp only [Option.map_some, Option.some.injEq] at h
    by_cases hv : i ∈ vs
    · refine .inl ⟨hv, ?_⟩
      rw [if_pos (by simpa using hv)] at h
      split at h
      · rename_i x hx; exact .inr ⟨x, h.symm, hx⟩
      · exact .inl h.symm
    · rw [if_neg (by simpa using hv)] at h
      subst h
      exact .inr ⟨hv, rfl⟩
theorem SR.mix {Z : Zn} {G1 H1 G2 H2 : Hp} {σ : L2.St} {ρ1 ρ2 : En} (vs : List Nat) (R1 : SR K Z G1 H1 σ ρ1) (R2 : SR K Z G2 H2 (L2.wipe σ vs) ρ2) (ex : Ex G1 G2) : SR K Z G2 H2 σ (mixE vs ρ1 ρ2) := by
  have out : ∀ {i : Nat}, i ∉ vs → (L2.wipe σ vs)[i]? = σ[i]? := fun h => wipe_out h
  have own : ∀ {i : Nat} {s : Sl} {x : PyData}, (mixE vs ρ1 ρ2)[i]? = some s → s.own = some x → i ∉ vs ∧ ρ2[i]? = some s := fun {i s x} h q => by
    rcases mixE_at h with ⟨_, z | ⟨y, z, _⟩⟩ | z
    · subst z; cases q
    · subst z; cases q
    · exact z
  refine ⟨?_, R2.gh, R2.zg, R2.g0, R2.h0, R2.h1, fun i x e => ?_, fun i s x e q => ?_, fun i x e => ?_, fun i x a e e2 => ?_, R2.zpin, fun i j a hi hj e1 e2 => ?_⟩
  · unfold mixE; rw [List.length_mapIdx, R2.len, wipe_length]
  · rcases mixE_at e with ⟨_, z | ⟨y, z, h⟩⟩ | ⟨n, h⟩
    · cases z
    · cases z
      obtain ⟨v, h1, h2⟩ := R1.str i x h
      exact ⟨v, h1, h2.mono ex⟩
    · obtain ⟨v, h1, h2⟩ := R2.str i x h
      rw [out n] at h1
      exact ⟨v, h1, h2⟩
  · obtain ⟨n, h⟩ := own e q
    obtain ⟨a, h1, h2⟩ := R2.own i s x h q
    rw [out n] at h1
    exact ⟨a, h1, h2⟩
  · obtain ⟨n, h⟩ := own e rfl
    obtain ⟨a, h1, h2⟩ := R2.bor i x h
    rw [out n] at h2
    exact ⟨a, h1, h2⟩
  · obtain ⟨n, h⟩ := own e rfl
    rw [← out n] at e2
    exact R2.opin i x a h e2
  · obtain ⟨s1, x1, p1, q1⟩ := hi
    obtain ⟨s2, x2, p2, q2⟩ := hj
    obtain ⟨n1, r1⟩ := own p1 q1
    obtain ⟨n2, r2⟩ := own p2 q2
    rw [← out n1] at e1
    rw [← out n2] at e2
    exact R2.inj i j a ⟨_, _, r1, q1⟩ ⟨_, _, r2, q2⟩ e1 e2
/-- an object that is nobody's changes -/
theorem SR.other {Z : Zn} {G H : Hp} {σ : L2.St} {ρ : En} {D : Addr} {u : HO} (R : SR K Z G H σ ρ) (hg : G D = none) (hz : Z.H D = none) (hn : ∀ j, Owned ρ j → σ[j]? ≠ some (some (.ref D))) : SR K Z G (upd H D u) σ ρ := by
  have ne : ∀ {a : Addr} {o : HO}, Z.H a = some o → a ≠ D := fun e z => by rw [z, hz] at e; cases e
  refine ⟨R.len, R.gh.side hg, R.zg, R.g0, fun a o e n => ?_, fun a o e => ?_, R.str, fun i s x e q => ?_, R.bor, R.opin, R.zpin, R.inj⟩
  · rw [upd_ne (ne e)]; exact R.h0 a o e n
  · rw [upd_ne (ne e)]; exact R.h1 a o e
  · obtain ⟨a, h1, h2, h3, h4⟩ := R.own i s x e q
    have na : a ≠ D := fun z => by subst z; exact hn i ⟨s, x, e, q⟩ h1
    exact ⟨a, h1, h2, h3.mono (Ex.refl _) (upd_ne na), h4⟩
theorem notOwned_wipe {σ : L2.St} {ρ : En} {D : Addr} {vs : List Nat} (hn : ∀ j, Owned ρ j → σ[j]? ≠ some (some (.ref D))) : ∀ j, Owned (wipeE ρ vs) j → (L2.wipe σ vs)[j]? ≠ some (some (.ref D)) := fun j ⟨s, x, e, q⟩ => by
  rcases wipeE_at e with z | ⟨z1, z2⟩
  · subst z; cases q
  · rw [wipe_out z1]; exact hn j ⟨s, x, z2, q⟩
theorem notOwned_snap {Z : Zn} {G H G' H' : Hp} {σ σ' : L2.St} {ρ ρ' : En} {D : Addr} {u : HO} (hn : ∀ j, Owned ρ j → σ[j]? ≠ some (some (.ref D))) (hD : H D = some u) (R' : SR K (snap Z G H σ ρ) G' H' σ' ρ') :
    ∀ j, Owned ρ' j → σ'[j]? ≠ some (some (.ref D)) := fun j ⟨s, x, e, q⟩ z => by
  obtain ⟨a, h1, _, _, h4⟩ := R'.own j s x e q
  rw [z] at h1; cases h1
  rcases h4 with ⟨i, hi, hs⟩ | h4
  · exact hn i hi hs
  · have h4' : H D = none := h4
    rw [hD] at h4'; cases h4'
theorem t_lc {q : Eq} {σ : L2.St} {H : Hp} {Q : VK} (h : tF K (eLc vs it g q a) σ H Q) : tLc (tI K it) (gD K vs g) (tQ K q) (tS K a) vs σ H Q := by
  obtain ⟨Z, G, ρ, d, ρ', R, hq, k⟩ := h
  unfold eLc at hq
  split at hq
  · rename_i ds ρ1 qi
    split at hq
    · rename_i out ρ2 ql
      cases hq
      refine ⟨Z, G, ρ, ds, ρ1, R, qi, fun J G1 H1 ex1 R1 it1 D hD => ?_⟩
      have hgD : G1 D = none := R1.gh.none hD
      have hzD : Z.H D = none := R1.znone hD
      refine ⟨fun i m H => m = ds.length - i ∧ i ≤ ds.length ∧ ∃ G' ρ' acc ac rest, Ex G1 G' ∧ SR K Z G' H (L2.wipe σ vs) ρ' ∧ G' D = none ∧ (∀ j, Owned ρ' j → (L2.wipe σ vs)[j]? ≠ some (some (.ref D))) ∧
        H D = some (.lst acc) ∧ DrAll K G' acc ac ∧ acc.length ≤ i ∧ lcD vs g q a (ds.drop i) ρ' = some (rest, ρ2) ∧ out = ac ++ rest,
        ⟨_, rfl, Nat.zero_le _, G1, wipeE ρ1 vs, [], [], out, Ex.refl _, (R1.beside hD).wipe vs, hgD, notOwned_wipe (R1.notOwned hD), upd_same, .nil, Nat.zero_le _, ql, rfl⟩, ?_⟩
      rintro i m H2 ⟨rfl, hi, G2, ρ3, acc, ac, rest, ex2, R2, g2, n2, hD2, da, hal, q2, ho⟩
      obtain ⟨f1, f2⟩ := it1.turn i G2 H2 ex2 R2.gh
      by_cases hlt : i < ds.length
      · obtain ⟨go, fy⟩ := f1 _ (List.getElem?_eq_getElem hlt)
        rw [List.drop_eq_getElem_cons hlt] at q2
        unfold lcD at q2
        refine .inr ⟨go, fun H' => ∃ G' ρ' acc ac rest, Ex G1 G' ∧ SR K Z G' H' (L2.wipe σ vs) ρ' ∧ G' D = none ∧ (∀ j, Owned ρ' j → (L2.wipe σ vs)[j]? ≠ some (some (.ref D))) ∧
          H' D = some (.lst acc) ∧ DrAll K G' acc ac ∧ acc.length ≤ i + 1 ∧ lcD vs g q a (ds.drop (i + 1)) ρ' = some (rest, ρ2) ∧ out = ac ++ rest, fun H' hN => ⟨ds.length - (i + 1), by omega, rfl, hlt, hN⟩, fun x H3 yl => ?_⟩
        obtain ⟨G3, al, dx⟩ := fy x H3 yl
        have R3 := R2.al al
        have e3 := (al.ex R2.gh).1
        have hD3 : H3 D = some (.lst acc) := (al.ex R2.gh).2.1 _ _ hD2
        have g3 : G3 D = none := by
          cases al with
          | refl => exact g2
          | one hp => rw [upd_ne (fun z => by rw [z, hp] at hD2; cases hD2)]; exact g2
        split at q2
        · rename_i ρ4 qg
          -- a turn's zone
          refine ⟨snap Z G3 H3 (L2.wipe σ vs) ρ3, G3, ρ3, _, ρ4, R3.snap, dx, qg, fun σ4 R4 hw => ⟨by rw [hw]; exact wipe_wipe, ?_⟩⟩
          have keep : ∀ {σ' : L2.St} {G' H' : Hp} {ρ' : En}, SR K (snap Z G3 H3 (L2.wipe σ vs) ρ3) G' H' σ' ρ' → H' D = some (.lst acc) ∧ G' D = none := fun {σ' G' H' ρ'} R' => by
            refine ⟨R'.h0 D _ hD3 fun ⟨j, hj, hs⟩ => n2 j hj hs, (R'.g0 D _ hD3).trans g3⟩
          split at q2
          · rename_i ρ5 qq
            refine ⟨_, G3, ρ4, true, ρ5, R4, qq, fun G5 H5 ex5 R5 => iteT ?_⟩
            split at q2
            · rename_i y ρ6 qa
              split at q2
              · rename_i r ρ7 qr
                cases q2
                refine ⟨_, G5, ρ5, y, ρ6, R5, qa, fun v G6 H6 ex6 R6 dv => ?_⟩
                obtain ⟨hD6, g6⟩ := keep R6
                refine ⟨acc, hD6, by have := it1.len; omega, G6, wipeE ρ6 vs, acc ++ [v], ac ++ [y], r, ((ex2.trans e3).trans ex5).trans ex6, ?_, g6, ?_, upd_same, ?_, ?_, qr, ?_⟩
                · have RB := R3.back R6
                  have R7 := (RB.other (D := D) (u := .lst (acc ++ [v])) g6 hzD (notOwned_snap n2 hD3 R6)).wipe vs
                  rw [hw, wipe_wipe] at R7
                  exact R7
                · have n7 := notOwned_wipe (vs := vs) (notOwned_snap n2 hD3 R6)
                  rw [hw, wipe_wipe] at n7
                  exact n7
                · exact (da.mono ((e3.trans ex5).trans ex6)).append (.cons dv .nil)
                · rw [List.length_append, List.length_singleton]; omega
                · rw [ho, List.append_assoc]; rfl
              · cases q2
            · cases q2
          · rename_i ρ5 qq
            refine ⟨_, G3, ρ4, false, ρ5, R4, qq, fun G5 H5 ex5 R5 => iteF ?_⟩
            obtain ⟨hD5, g5⟩ := keep R5
            refine ⟨G5, wipeE ρ5 vs, acc, ac, rest, (ex2.trans e3).trans ex5, ?_, g5, ?_, hD5, da.mono (e3.trans ex5), by omega, q2, ho⟩
            · have R7 := (R3.back R5).wipe vs
              rw [hw, wipe_wipe] at R7
              exact R7
            · have n7 := notOwned_wipe (vs := vs) (notOwned_snap n2 hD3 R5)
              rw [hw, wipe_wipe] at n7
              exact n7
          · cases q2
        · cases q2
      · have e0 : i = ds.length := by omega
        subst e0
        rw [List.drop_length] at q2
        unfold lcD at q2
        cases q2
        rw [List.append_nil] at ho
        subst ho
        refine .inl ⟨f2 (Nat.le_refl _), ?_⟩
        refine k D G2 H2 (ex1.trans ex2) (R1.mix vs R2 ex2) g2 hzD (fun j hj => ?_) ⟨acc, hD2, Nat.le_trans hal it1.len, da⟩
        obtain ⟨s, x, e, qo⟩ := hj
        rcases mixE_at e with ⟨_, z | ⟨y, z, _⟩⟩ | ⟨n, z⟩
        · subst z; cases qo
        · subst z; cases qo
        · have := n2 j ⟨s, x, z, qo⟩
          rw [wipe_out n] at this
          exact this
    · cases hq
  · cases hq

theorem r_lc {elt : Expr} {ifs : List Expr} {scope : Scope} {own : List (Str × Nat)} {q : Eq} (hc : X.calm = true) (hN : X.N.Nodup) (hi : PI X tg iter (tI K it)) (ok : BlkOk X.N X.env.scope scope own)
    (hg : ∀ (s : Shared) (H : Hp) (C : Addr) (cl : List (Str × Addr)) (fp : List Addr), PG (X.blk s H scope (compEnvC scope cl C X.env) fp) tg (gD K (own.map (·.2)) g))
    (ht : ∀ (s : Shared) (H : Hp) (C : Addr) (cl : List (Str × Addr)) (fp : List Addr), PTs (X.blk s H scope (compEnvC scope cl C X.env) fp) ifs (tQ K q))
    (he : ∀ (s : Shared) (H : Hp) (C : Addr) (cl : List (Str × Addr)) (fp : List Addr), PE (X.blk s H scope (compEnvC scope cl C X.env) fp) elt (tS K a)) (hs : ∀ x, foldedSetIterable iter X.env x = pure x := by intro _; rfl) :
    PE X (.ListComp elt [⟨tg, iter, ifs, 0⟩] scope pos) (tF K (eLc (own.map (·.2)) it g q a)) := (pe_lc hc hN hi ok hg ht he hs).conv fun _ _ _ h => t_lc h
end
end DL

set_option maxHeartbeats 1000000
/-! DL6: defs, their promises, their calls; where nothing is being shown (guards). -/
namespace DL
open PySem PySem.Spec PyProof.Rows L2

/-- as FnOk, for callers under whom no container is being shown -/
structure FnG (P : Program) (w : World) (K : PySem.W.Frag) (mg : Str → Option Value) (base : Heap) (k : Nat) (f : Addr) (fd : FuncData) (ps : List Str) (sp : Sp) : Prop where
  len : ∀ vs H Q E, sp vs H Q E → vs.length = ps.length
  run : ∀ (A : Around) (outer : List Env) (s : Shared) (H : Hp) (args : Args) (us : List Value) (vs : List V) (Q : VK) (E : XK), Room k A → A.guards = some [] →
    Env0 P w K mg base A outer s H → BindsTo s fd args (ps.zip us) → Vals vs us → sp vs H Q E → codeAny (model P w) A (.call (.ref f) args) (CR CX0 outer P w H s Q E) s
section
variable {P : Program} {w : World} {K : PySem.W.Frag} {mg : Str → Option Value} {base : Heap}
theorem FnG.mono {j k : Nat} {f : Addr} {fd : FuncData} {ps : List Str} {sp : Sp} (F : FnG P w K mg base j f fd ps sp) (h : j ≤ k) : FnG P w K mg base k f fd ps sp :=
  ⟨F.len, fun A outer s H args us vs Q E hr hg => F.run A outer s H args us vs Q E (hr.mono h) hg⟩
theorem FnG.imp {k : Nat} {f : Addr} {fd : FuncData} {ps : List Str} {sp sp' : Sp} (F : FnG P w K mg base k f fd ps sp) (h : ∀ vs H Q E, sp' vs H Q E → sp vs H Q E) : FnG P w K mg base k f fd ps sp' :=
  ⟨fun vs H Q E q => F.len vs H Q E (h _ _ _ _ q), fun A outer s H args us vs Q E hr hg he hb hv hs => F.run A outer s H args us vs Q E hr hg he hb hv (h _ _ _ _ hs)⟩
theorem FnG.of {k : Nat} {f : Addr} {fd : FuncData} {ps : List Str} {sp : Sp} (F : FnOk P w K mg base CX0 k f fd ps sp) : FnG P w K mg base k f fd ps sp :=
  ⟨F.len, fun A outer s H args us vs Q E hr _ => F.run A outer s H args us vs Q E hr⟩
/-- the context of a def's body -/
abbrev cxG (P : Program) (w : World) (K : PySem.W.Frag) (mg : Str → Option Value) (base : Heap) (N : List Str) (qual : Str) (st : Stmt) (f : Addr) (cdv : Value) (A : Around) (outer : List Env) (s : Shared) (H : Hp) (E : XK) : Cx :=
  (cxOf CX0 P w K mg base N qual (defScope st) f cdv A outer s H E).nox
theorem fnG_ok {x qual : Str} {st : Stmt} {f : Addr} {fd : FuncData} {N ps : List Str} {k : Nat} {sp : Sp} (F : Fun K x qual st f fd) (S : FnScope N ps (defScope st)) (len : ∀ vs H Q E, sp vs H Q E → vs.length = ps.length)
    (body : ∀ (cdv : Value) (A : Around) (outer : List Env) (s : Shared) (H : Hp) (vs : List V) (Q : VK) (E : XK), Room k (A.deeper (envOfC qual (defScope st) s.heap.objs.size f cdv)) → A.guards = some [] → sp vs H Q E →
      ∃ t, PSs (cxG P w K mg base N qual st f cdv A outer s H E) (defBody st) t ∧ t { nx := fun _ H' => Q .non H', rt := Q } (start N vs) H) : FnG P w K mg base (k + 1) f fd ps sp := by
  obtain ⟨oc, od, kV, doc, pm, an, cdv, ct, osl, rfl, lk, hcd⟩ := F.ex
  refine ⟨len, ?_⟩
  intro A outer s H args us vs Q E hr hg e0 hb rv hsp
  have keepB : ∀ b o, base.get? b = some o → s.heap.get? b = some o := fun b o e => (e0.bs b o e).1
  have KX : K.In s.heap := e0.mod.kin.keeps keepB
  have kinds : ∀ y ∈ ps.zip us, (defScope st).names.lookup y.1 = some .local ∨ ((defScope st).names.lookup y.1 = some .cell ∧ ((cellsFrom (s.heap.objs.size + 1) (defScope st).names []).lookup y.1).isSome = true) := by
    intro y hy
    rcases S.par y.1 (List.of_mem_zip (show (y.1, y.2) ∈ ps.zip us from hy)).1 with loc | cel
    · exact .inl loc
    · exact .inr ⟨cel, PySem.W.cellsFrom_some _ _ _ (.inl cel)⟩
  refine codeAny_call_function hr.depth (KX _ _ lk) rfl S.co S.gen rfl (PySem.W.codeRec_of KX hcd) (hb _ _ _ _ ?_)
  refine wpAny_newFunctionEnv_cells S.kind kinds fun env he s1 x1 => ?_
  subst he
  refine ⟨(e0.mod.nolimit.keeps keepB).keeps x1.toInCall.keep, codeAny_func ?_⟩
  obtain ⟨t, ht, hq⟩ := body cdv A outer s H vs Q E (hr.deeper _) hg hsp
  have I0 := inv_start (CX := CX0) (E := E) S hr.hd e0 (len _ _ _ _ hsp) rv x1
  refine wpAny_mono (ht.nox.run [] s1 (start N vs) H _ I0 hq) (fun fl s2 h2 => ?_) fun e s2 h2 => h2
  cases fl with
  | ret u =>
    obtain ⟨v, σ2, H2, J, r2, q2⟩ := h2
    exact ⟨v, H2, J.os, J.bare, J.base, J.hok, r2, q2⟩
  | next =>
    obtain ⟨σ2, H2, J, q2⟩ := h2
    exact ⟨V.non, H2, J.os, J.bare, J.base, J.hok, rfl, q2⟩
  | brk =>
    obtain ⟨_, _, _, q2⟩ := h2
    exact q2.elim
  | cont =>
    obtain ⟨_, _, _, q2⟩ := h2
    exact q2.elim
end
section
variable {X : Cx} {k : Nat} {f : Addr} {fd : FuncData} {ps : List Str} {sp : Sp} {x : Str} {p pos : Pos} {e : Expr} {es : List Expr} {t : TA}
theorem runG {pins : List (Addr × Obj)} {σ : L2.St} {H : Hp} {s : Shared} {Q : VK} {us : List Value} {vs : List V} (F : FnG X.prog X.w X.K X.mg X.base k f fd ps sp) (hr : Room k X.A) (hg : X.A.guards = some []) (hb : Binds X.K fd ps [])
    (I : Inv X pins σ H s) (r : Vals vs us) (h : sp vs H Q E0) : wpAny (model X.prog X.w) X.A (call (.ref f) us) (EP X pins σ Q) X.xe s := by
  have hl : (us ++ []).length = ps.length := by rw [List.append_nil, ← r.length]; exact F.len _ _ _ _ h
  have hb' := hb s us I.kIn hl
  rw [List.append_nil] at hb'
  refine wpAny_call (codeAny_mono (F.run X.A X.stack s H ⟨us, []⟩ us vs Q E0 hr hg I.env0 hb' r h) fun res s' hq => ?_)
  cases res with
  | error er => exact False.elim hq
  | ok fl =>
    cases fl with
    | ret u => exact I.after hq
    | next => exact False.elim hq
    | brk => exact False.elim hq
    | cont => exact False.elim hq
def tCallG (sp : Sp) (t : TA) : TE := fun σ H Q => t σ H fun vs H1 => sp vs H1 Q E0
theorem pe_callG (F : FnG X.prog X.w X.K X.mg X.base k f fd ps sp) (hr : Room k X.A) (hgd : X.A.guards = some []) (hg : Gl X x) (hm : X.mg x = some (.ref f)) (hk : PySem.W.keepIn X.K (.ref f) = true) (hb : Binds X.K fd ps [])
    (ha : PA X (e :: es) t) (hdb : (x == ("__debug__" : Str)) = false := by decide) (he : starEach (e :: es) X.env = (false, eval e X.env) :: starEach es X.env := by rfl) (hpl : (backTo pos (starEach es X.env)).any (·.1) = false := by rfl) :
    PE X (.Call (.Name x p) (e :: es) [] pos) (tCallG sp t) := by
  refine ⟨fun pins s σ H Q I h => wpAny_Call_Name_kw (ld_glob I hg hm ?_ hdb)⟩
  refine PySem.W.callWith_K (h₀ := X.base) I.ok.mod.kin hk (thn (ha.run pos pins s σ H _ I h) ?_) he hpl
  rintro us s1 ⟨vs, H1, I1, r, q⟩
  exact ⟨I1.kIn, runG F hr hgd hb I1 r q⟩
end

/-! ### promises -/
/-- all arguments data, the answer data -/
def SpP (K : PySem.W.Frag) (f : List PyData → Option PyData) : Sp := fun vs H Q _ => ∃ G ds d, Ex G H ∧ DrAll K G vs ds ∧ f ds = some d ∧
  ∀ v G' H', Ex G G' → Ex G' H' → Ex H H' → (∀ a o, H a = some o → G' a = G a) → Dr K G' v d → Q v H'
/-- .. a new list or dict -/
def SpF (K : PySem.W.Frag) (f : List PyData → Option PyData) : Sp := fun vs H Q _ => ∃ G ds d, Ex G H ∧ DrAll K G vs ds ∧ f ds = some d ∧
  ∀ p G' H', Ex G G' → Ex G' H' → Ex H H' → (∀ a o, H a = some o → G' a = G a) → H p = none → G' p = none → OwnAt K G' H' p d → Q (.ref p) H'
/-- the first argument a list or dict that the def changes -/
def SpI (K : PySem.W.Frag) (f : PyData → List PyData → Option (PyData × PyData)) : Sp := fun vs H Q _ => ∃ G a ws x ds d y, vs = .ref a :: ws ∧ Ex G H ∧ G a = none ∧ OwnAt K G H a x ∧ DrAll K G ws ds ∧ f x ds = some (d, y) ∧
  ∀ v G' H', Ex G G' → Ex G' H' → (∀ b o, H b = some o → b ≠ a → H' b = some o) → (∀ b o, H b = some o → G' b = G b) → OwnAt K G' H' a y → Dr K G' v d → Q v H'
section
variable {K : PySem.W.Frag} {Z : Zn} {G H G' H' : Hp} {σ : L2.St} {ρ : En}
theorem SR.frame (R : SR K Z G H σ ρ) (e1 : Ex G G') (e2 : Ex G' H') (e3 : Ex H H') (e4 : ∀ a o, H a = some o → G' a = G a) : SR K Z G' H' σ ρ := by
  refine ⟨R.len, e2, R.zg.trans e1, fun a o e => ?_, fun a o e n => e3 a o (R.h0 a o e n), fun a o e => ?_, fun i y e => ?_, fun i s y e q => ?_, R.bor, R.opin, R.zpin, R.inj⟩
  · obtain ⟨o', h'⟩ := R.h1 a o e
    exact (e4 a o' h').trans (R.g0 a o e)
  · obtain ⟨o', h'⟩ := R.h1 a o e
    exact ⟨o', e3 a o' h'⟩
  · obtain ⟨v, h1, h2⟩ := R.str i y e
    exact ⟨v, h1, h2.mono e1⟩
  · obtain ⟨a, h1, h2, h3, h4⟩ := R.own i s y e q
    obtain ⟨u, hu⟩ := h3.some
    exact ⟨a, h1, (e4 a u hu).trans h2, h3.mono e1 ((e3 a u hu).trans hu.symm), h4⟩
theorem SR.inout {i : Nat} {s : Sl} {x y : PyData} {a : Addr} (R : SR K Z G H σ ρ) (hi : ρ[i]? = some s) (hs : s.own = some x) (ha : σ[i]? = some (some (.ref a))) (e1 : Ex G G') (e2 : Ex G' H')
    (e3 : ∀ b o, H b = some o → b ≠ a → H' b = some o) (e4 : ∀ b o, H b = some o → G' b = G b) (o : OwnAt K G' H' a y) : SR K Z G' H' σ (ρ.set i (s.put y)) := by
  obtain ⟨a', h1, h2, h3, h4⟩ := R.own i s x hi hs
  rw [ha] at h1; cases h1
  have nz : ∀ b w, Z.H b = some w → ¬ Z.io b → b ≠ a := fun b w e n z => by
    subst z
    rcases h4 with h4 | h4
    · exact n h4
    · rw [h4] at e; cases e
  have own : ∀ {j : Nat} {t : Sl} {z : PyData}, (ρ.set i (s.put y))[j]? = some t → t.own = some z → Owned ρ j := fun {j t z} p q => by
    rcases getElem?_set_cases p with ⟨rfl, _⟩ | ⟨_, w⟩
    · exact ⟨s, x, hi, hs⟩
    · exact ⟨_, _, w, q⟩
  obtain ⟨ua, hua⟩ := h3.some
  obtain ⟨ub, hub⟩ := o.some
  refine ⟨by rw [List.length_set]; exact R.len, e2, R.zg.trans e1, fun b w e => ?_, fun b w e n => e3 b w (R.h0 b w e n) (nz b w e n), fun b w e => ?_, fun j z e => ?_, fun j t z e q => ?_, fun j z e => ?_, fun j z c e e5 => ?_, R.zpin, fun j m c hj hm e5 e6 => ?_⟩
  · obtain ⟨o', h'⟩ := R.h1 b w e
    exact (e4 b o' h').trans (R.g0 b w e)
  · by_cases z : b = a
    · subst z; exact ⟨ub, hub⟩
    · obtain ⟨o', h'⟩ := R.h1 b w e
      exact ⟨o', e3 b o' h' z⟩
  · rcases getElem?_set_cases e with ⟨rfl, q⟩ | ⟨_, q⟩
    · have := Sl.put_own hs y
      rw [← q] at this; cases this
    · obtain ⟨v, g1, g2⟩ := R.str j z q
      exact ⟨v, g1, g2.mono e1⟩
  · rcases getElem?_set_cases e with ⟨rfl, q'⟩ | ⟨ne, q'⟩
    · have e7 := Sl.put_own hs y
      rw [← q', q] at e7
      cases e7
      exact ⟨a, ha, (e4 a ua hua).trans h2, o, h4⟩
    · obtain ⟨b, g1, g2, g3, g4⟩ := R.own j t z q' q
      obtain ⟨u, hu⟩ := g3.some
      have nb : b ≠ a := fun w => by
        subst w
        exact ne (R.inj j i b ⟨_, _, q', q⟩ ⟨_, _, hi, hs⟩ g1 ha)
      exact ⟨b, g1, (e4 b u hu).trans g2, g3.mono e1 ((e3 b u hu nb).trans hu.symm), g4⟩
  · rcases getElem?_set_cases e with ⟨rfl, q⟩ | ⟨_, q⟩
    · cases s with
      | b z' => exact R.bor j z' hi
      | o z' => cases q
      | d z' => cases hs
      | u => cases hs
    · exact R.bor j z q
  · rcases getElem?_set_cases e with ⟨rfl, q⟩ | ⟨_, q⟩
    · cases s with
      | o z' => exact R.opin j z' c hi e5
      | b z' => cases q
      | d z' => cases hs
      | u => cases hs
    · exact R.opin j z c q e5
  · obtain ⟨s1, x1, p1, q1⟩ := hj
    obtain ⟨s2, x2, p2, q2⟩ := hm
    exact R.inj j m c (own p1 q1) (own p2 q2) e5 e6
end
section
variable {X : Cx} {k : Nat} {f : Addr} {fd : FuncData} {ps : List Str} {x : Str} {p pos : Pos} {e : Expr} {es : List Expr} {as : Es} {m : List PyData → Option PyData}
theorem t_callP {σ : L2.St} {H : Hp} {Q : VK} {K : PySem.W.Frag} (h : tS K (eN m as) σ H Q) : tCallG (SpP K m) (tAs K as) σ H Q := by
  obtain ⟨Z, G, ρ, d, ρ', R, q, k⟩ := h
  unfold eN at q
  split at q
  · rename_i xs ρ1 qa
    split at q
    · rename_i d' qf
      cases q
      exact ⟨Z, G, ρ, xs, _, R, qa, fun vs G1 H1 ex1 R1 d1 => ⟨G1, xs, d, R1.gh, d1, qf, fun v G' H' e1 e2 e3 e4 dv => k v G' H' (ex1.trans e1) (R1.frame e1 e2 e3 e4) dv⟩⟩
    · cases q
  · cases q
theorem t_callF {σ : L2.St} {H : Hp} {Q : VK} {K : PySem.W.Frag} (h : tF K (eN m as) σ H Q) : tCallG (SpF K m) (tAs K as) σ H Q := by
  obtain ⟨Z, G, ρ, d, ρ', R, q, k⟩ := h
  unfold eN at q
  split at q
  · rename_i xs ρ1 qa
    split at q
    · rename_i d' qf
      cases q
      exact ⟨Z, G, ρ, xs, _, R, qa, fun vs G1 H1 ex1 R1 d1 => ⟨G1, xs, d, R1.gh, d1, qf, fun p G' H' e1 e2 e3 e4 hp gp o =>
        k p G' H' (ex1.trans e1) (R1.frame e1 e2 e3 e4) gp (R1.znone hp) (R1.notOwned hp) o⟩⟩
    · cases q
  · cases q
def eI (m : PyData → List PyData → Option (PyData × PyData)) (i : Nat) (as : Es) : Ev := fun ρ => match ρ[i]? with
  | some s0 => (match s0.own with
    | some _ => (match as ρ with
      | some (ds, ρ1) => (match ρ1[i]? with
        | some s => (match s.own with
          | some x => (match m x ds with
            | some (d, y) => some (d, ρ1.set i (s.put y))
            | none => none)
          | none => none)
        | none => none)
      | none => none)
    | none => none)
  | none => none
theorem t_callI {m : PyData → List PyData → Option (PyData × PyData)} {i : Nat} {σ : L2.St} {H : Hp} {Q : VK} {K : PySem.W.Frag} (h : tS K (eI m i as) σ H Q) : tCallG (SpI K m) (tCons (tVar i) (tAs K as)) σ H Q := by
  obtain ⟨Z, G, ρ, d, ρ', R, q, k⟩ := h
  unfold eI at q
  split at q
  · rename_i s0 e0
    split at q
    · rename_i x0 o0
      split at q
      · rename_i ds ρ1 qa
        split at q
        · rename_i s es
          split at q
          · rename_i x ox
            split at q
            · rename_i d' y qf
              cases q
              obtain ⟨a, ha, _⟩ := R.own i s0 x0 e0 o0
              refine ⟨.ref a, ha, Z, G, ρ, ds, ρ1, R, qa, fun vs G1 H1 ex1 R1 d1 => ?_⟩
              obtain ⟨a', ha', g1, o1, _⟩ := R1.own i s x es ox
              rw [ha] at ha'; cases ha'
              exact ⟨G1, a, vs, x, ds, d, y, rfl, R1.gh, g1, o1, d1, qf, fun v G' H' e1 e2 e3 e4 oy dv => k v G' H' (ex1.trans e1) (R1.inout es ox ha e1 e2 e3 e4 oy) dv⟩
            · cases q
          · cases q
        · cases q
      · cases q
    · cases q
  · cases q
variable {sp : Sp}
theorem r_callP {K : PySem.W.Frag} (h : PE X e (tCallG (SpP K m) (tAs K as))) : PE X e (tS K (eN m as)) := h.conv fun _ _ _ q => t_callP q
theorem r_callF {K : PySem.W.Frag} (h : PE X e (tCallG (SpF K m) (tAs K as))) : PE X e (tF K (eN m as)) := h.conv fun _ _ _ q => t_callF q
theorem r_callI {K : PySem.W.Frag} {m : PyData → List PyData → Option (PyData × PyData)} {i : Nat} (h : PE X e (tCallG (SpI K m) (tCons (tVar i) (tAs K as)))) : PE X e (tS K (eI m i as)) := h.conv fun _ _ _ q => t_callI q
end

/-! ### bodies -/
def en0 (n : Nat) (ds : List PyData) : En := ds.map Sl.d ++ List.replicate (n - ds.length) .u
def outP : Option Fw → Option PyData
  | some (.ret d _) => some d
  | some (.nx _) => some .none
  | _ => none
def outF : Option Fw → Option PyData
  | some (.ret d _) => some d
  | _ => none
def outI : Option Fw → Option (PyData × PyData)
  | some (.ret d ρ) => (match ρ[(0 : Nat)]? with
    | some (.b y) => some (d, y)
    | _ => none)
  | some (.nx ρ) => (match ρ[(0 : Nat)]? with
    | some (.b y) => some (.none, y)
    | _ => none)
  | _ => none
/-- n: how many slots, m: how many parameters -/
def runP (n m : Nat) (ψ : Sv) (ds : List PyData) : Option PyData := if ds.length = m then outP (ψ (en0 n ds)) else none
def runF (n m : Nat) (ψ : Sv) (ds : List PyData) : Option PyData := if ds.length = m then outF (ψ (en0 n ds)) else none
def runI (n m : Nat) (ψ : Sv) (x : PyData) (ds : List PyData) : Option (PyData × PyData) := if ds.length + 1 = m then outI (ψ (.b x :: en0 (n - 1) ds)) else none
section
variable {K : PySem.W.Frag} {G H : Hp} {vs : List V} {ds : List PyData} {N : List Str}
theorem start_at {i : Nat} {v : V} (h : vs[i]? = some v) : (start N vs)[i]? = some (some v) := by
  unfold L2.start
  rw [List.getElem?_append_left (by rw [List.length_map]; exact (List.getElem?_eq_some_iff.mp h).1), List.getElem?_map, h]
  rfl
theorem en0_at {n i : Nat} {s : Sl} (h : (en0 n ds)[i]? = some s) : s = .u ∨ ∃ d, s = .d d ∧ ds[i]? = some d := by
  unfold en0 at h
  by_cases hi : i < ds.length
  · rw [List.getElem?_append_left (by rw [List.length_map]; exact hi), List.getElem?_map] at h
    cases e : ds[i]? with
    | none => rw [e] at h; cases h
    | some d => rw [e] at h; cases h; exact .inr ⟨d, rfl, rfl⟩
  · rw [List.getElem?_append_right (by rw [List.length_map]; omega), List.getElem?_replicate] at h
    split at h
    · cases h; exact .inl rfl
    · cases h
theorem start_len (hl : vs.length ≤ N.length) : (start N vs).length = N.length := by
  unfold L2.start
  rw [List.length_append, List.length_map, List.length_replicate]
  omega
theorem en0_len {n : Nat} (hl : ds.length ≤ n) : (en0 n ds).length = n := by
  unfold en0
  rw [List.length_append, List.length_map, List.length_replicate]
  omega
theorem SR.entry (hl : vs.length ≤ N.length) (gh : Ex G H) (da : DrAll K G vs ds) : SR K ⟨G, H, fun _ => none, fun _ => False⟩ G H (start N vs) (en0 N.length ds) := by
  have no : ∀ {i : Nat} {s : Sl} {x : PyData}, (en0 N.length ds)[i]? = some s → s.own = some x → False := fun {i s x} h q => by
    rcases en0_at h with z | ⟨d, z, _⟩
    · subst z; cases q
    · subst z; cases q
  refine ⟨by rw [start_len hl, en0_len (by rw [← da.len]; exact hl)], gh, Ex.refl _, fun _ _ _ => rfl, fun _ _ e _ => e, fun _ _ e => ⟨_, e⟩, fun i x e => ?_, fun i s x e q => (no e q).elim, fun i x e => (no e rfl).elim, fun i x a e => (no e rfl).elim, fun j a e => (by cases e), fun i j a ⟨s, x, e, q⟩ => (no e q).elim⟩
  rcases en0_at e with z | ⟨d, z, h⟩
  · cases z
  · cases z
    obtain ⟨v, h1, h2⟩ := da.get h
    exact ⟨v, start_at h1, h2⟩
theorem SR.entryI {a : Addr} {x : PyData} (hl : vs.length + 1 ≤ N.length) (gh : Ex G H) (hg : G a = none) (o : OwnAt K G H a x) (da : DrAll K G vs ds) :
    SR K ⟨G, H, fun i => if i = 0 then some a else none, fun b => b = a⟩ G H (start N (.ref a :: vs)) (.b x :: en0 (N.length - 1) ds) := by
  have cs : ∀ {i : Nat} {s : Sl}, (Sl.b x :: en0 (N.length - 1) ds)[i]? = some s → (i = 0 ∧ s = .b x) ∨ s = .u ∨ ∃ j d, i = j + 1 ∧ s = .d d ∧ ds[j]? = some d := fun {i s} h => by
    cases i with
    | zero =>
      rw [List.getElem?_cons_zero] at h
      cases h
      exact .inl ⟨rfl, rfl⟩
    | succ j =>
      rw [List.getElem?_cons_succ] at h
      rcases en0_at h with z | ⟨d, z, e⟩
      · exact .inr (.inl z)
      · exact .inr (.inr ⟨j, d, rfl, z, e⟩)
  have ow : ∀ {i : Nat} {s : Sl} {y : PyData}, (Sl.b x :: en0 (N.length - 1) ds)[i]? = some s → s.own = some y → i = 0 ∧ s = .b x := fun {i s y} h q => by
    rcases cs h with z | z | ⟨j, d, _, z, _⟩
    · exact z
    · subst z; cases q
    · subst z; cases q
  have s0 : (start N (.ref a :: vs))[0]? = some (some (.ref a)) := start_at rfl
  obtain ⟨u, hu⟩ := o.some
  refine ⟨?_, gh, Ex.refl _, fun _ _ _ => rfl, fun _ _ e _ => e, fun _ _ e => ⟨_, e⟩, fun i y e => ?_, fun i s y e q => ?_, fun i y e => ?_, fun i y b e => ?_, fun j b e => ?_, fun i j b hi hj _ _ => ?_⟩
  · rw [start_len (by rw [List.length_cons]; exact hl), List.length_cons, en0_len (by rw [← da.len]; omega)]
    omega
  · rcases cs e with ⟨_, z⟩ | z | ⟨j, d, rfl, z, h⟩
    · cases z
    · cases z
    · cases z
      obtain ⟨v, h1, h2⟩ := da.get h
      exact ⟨v, start_at (by rw [List.getElem?_cons_succ]; exact h1), h2⟩
  · obtain ⟨rfl, rfl⟩ := ow e q
    cases q
    exact ⟨a, s0, hg, o, .inl rfl⟩
  · obtain ⟨rfl, z⟩ := ow e rfl
    exact ⟨a, rfl, s0⟩
  · obtain ⟨_, z⟩ := ow e rfl
    cases z
  · by_cases hj : j = 0
    · have e' : (if j = 0 then some a else none) = some b := e
      rw [if_pos hj] at e'
      cases e'
      exact ⟨u, hu⟩
    · have e' : (if j = 0 then some a else none) = some b := e
      rw [if_neg hj] at e'
      cases e'
  · obtain ⟨s1, x1, p1, q1⟩ := hi
    obtain ⟨s2, x2, p2, q2⟩ := hj
    rw [(ow p1 q1).1, (ow p2 q2).1]
end
section
variable {P : Program} {w : World} {K : PySem.W.Frag} {mg : Str → Option Value} {base : Heap} {x qual : Str} {st : Stmt} {f : Addr} {fd : FuncData} {N ps : List Str} {k : Nat} {ψ : Sv}
theorem fnP (F : Fun K x qual st f fd) (S : FnScope N ps (defScope st)) (hN : ps.length ≤ N.length)
    (body : ∀ (cdv : Value) (A : Around) (outer : List Env) (s : Shared) (H : Hp) (E : XK), Room k (A.deeper (envOfC qual (defScope st) s.heap.objs.size f cdv)) → A.guards = some [] →
      PSs (cxG P w K mg base N qual st f cdv A outer s H E) (defBody st) (tT K false ψ)) : FnG P w K mg base (k + 1) f fd ps (SpP K (runP N.length ps.length ψ)) := by
  have hlen : ∀ vs H Q E, SpP K (runP N.length ps.length ψ) vs H Q E → vs.length = ps.length := fun vs H Q E ⟨G, ds, d, gh, da, hf, _⟩ => by
    unfold runP at hf
    split at hf
    · rename_i e; rw [da.len]; exact e
    · cases hf
  refine fnG_ok F S hlen fun cdv A outer s H vs Q E hr hg hsp => ⟨_, body cdv A outer s H E hr hg, ?_⟩
  have hl := hlen _ _ _ _ hsp
  obtain ⟨G, ds, d, gh, da, hf, kk⟩ := hsp
  unfold runP at hf
  rw [if_pos (by rw [← da.len]; exact hl)] at hf
  have R0 := SR.entry (N := N) (by omega) gh da
  have fin : ∀ {σ' : L2.St} {G' H' : Hp} {ρ' : En} {v : V}, Ex G G' → SR K ⟨G, H, fun _ => none, fun _ => False⟩ G' H' σ' ρ' → Dr K G' v d → Q v H' := fun {σ' G' H' ρ' v} ex R' dv =>
    kk v G' H' ex R'.gh (fun a o e => R'.h0 a o e fun z => z) (fun a o e => R'.g0 a o e) dv
  cases e : ψ (en0 N.length ds) with
  | none => rw [e] at hf; cases hf
  | some r =>
    rw [e] at hf
    refine ⟨_, G, _, r, fun a z => (show False from z).elim, R0, e, ?_⟩
    cases r with
    | nx ρ' => cases hf; exact fun σ' G' H' ex R' => fin ex R' .non
    | ret d' ρ' => cases hf; exact fun v σ' G' H' ex R' dv => fin ex R' dv
    | brk ρ' => cases hf
    | ct ρ' => cases hf
theorem fnF (F : Fun K x qual st f fd) (S : FnScope N ps (defScope st)) (hN : ps.length ≤ N.length)
    (body : ∀ (cdv : Value) (A : Around) (outer : List Env) (s : Shared) (H : Hp) (E : XK), Room k (A.deeper (envOfC qual (defScope st) s.heap.objs.size f cdv)) → A.guards = some [] →
      PSs (cxG P w K mg base N qual st f cdv A outer s H E) (defBody st) (tT K true ψ)) : FnG P w K mg base (k + 1) f fd ps (SpF K (runF N.length ps.length ψ)) := by
  have hlen : ∀ vs H Q E, SpF K (runF N.length ps.length ψ) vs H Q E → vs.length = ps.length := fun vs H Q E ⟨G, ds, d, gh, da, hf, _⟩ => by
    unfold runF at hf
    split at hf
    · rename_i e; rw [da.len]; exact e
    · cases hf
  refine fnG_ok F S hlen fun cdv A outer s H vs Q E hr hg hsp => ⟨_, body cdv A outer s H E hr hg, ?_⟩
  have hl := hlen _ _ _ _ hsp
  obtain ⟨G, ds, d, gh, da, hf, kk⟩ := hsp
  unfold runF at hf
  rw [if_pos (by rw [← da.len]; exact hl)] at hf
  have R0 := SR.entry (N := N) (by omega) gh da
  cases e : ψ (en0 N.length ds) with
  | none => rw [e] at hf; cases hf
  | some r =>
    rw [e] at hf
    refine ⟨_, G, _, r, fun a z => (show False from z).elim, R0, e, ?_⟩
    cases r with
    | nx ρ' => cases hf
    | ret d' ρ' =>
      cases hf
      rintro v σ' G' H' ex R' ⟨p, rfl, h1, h2, h3⟩
      exact kk p G' H' ex R'.gh (fun a o e => R'.h0 a o e fun z => z) (fun a o e => R'.g0 a o e) h2 h1 h3
    | brk ρ' => cases hf
    | ct ρ' => cases hf
theorem fnI (F : Fun K x qual st f fd) (S : FnScope N ps (defScope st)) (hN : ps.length ≤ N.length)
    (body : ∀ (cdv : Value) (A : Around) (outer : List Env) (s : Shared) (H : Hp) (E : XK), Room k (A.deeper (envOfC qual (defScope st) s.heap.objs.size f cdv)) → A.guards = some [] →
      PSs (cxG P w K mg base N qual st f cdv A outer s H E) (defBody st) (tT K false ψ)) : FnG P w K mg base (k + 1) f fd ps (SpI K (runI N.length ps.length ψ)) := by
  have hlen : ∀ vs H Q E, SpI K (runI N.length ps.length ψ) vs H Q E → vs.length = ps.length := fun vs H Q E ⟨G, a, ws, x, ds, d, y, hv, gh, hga, o, da, hf, _⟩ => by
    unfold runI at hf
    split at hf
    · rename_i e; rw [hv, List.length_cons, da.len]; exact e
    · cases hf
  refine fnG_ok F S hlen fun cdv A outer s H vs Q E hr hg hsp => ⟨_, body cdv A outer s H E hr hg, ?_⟩
  have hl := hlen _ _ _ _ hsp
  obtain ⟨G, a, ws, xx, ds, d, y, rfl, gh, hga, o, da, hf, kk⟩ := hsp
  rw [List.length_cons] at hl
  unfold runI at hf
  rw [if_pos (by rw [← da.len]; exact hl)] at hf
  have R0 := SR.entryI (N := N) (by omega) gh hga o da
  have fin : ∀ {σ' : L2.St} {G' H' : Hp} {ρ' : En} {v : V}, Ex G G' → SR K ⟨G, H, fun i => if i = 0 then some a else none, fun b => b = a⟩ G' H' σ' ρ' → ρ'[0]? = some (.b y) → Dr K G' v d → Q v H' := fun {σ' G' H' ρ' v} ex R' h0 dv => by
    obtain ⟨a1, g1, g2⟩ := R'.bor 0 y h0
    have g1' : (if (0 : Nat) = 0 then some a else none) = some a1 := g1
    rw [if_pos rfl] at g1'
    cases g1'
    obtain ⟨a2, g3, g4, g5, _⟩ := R'.own 0 _ y h0 rfl
    rw [g2] at g3; cases g3
    exact kk v G' H' ex R'.gh (fun b o' e n => R'.h0 b o' e n) (fun b o' e => R'.g0 b o' e) g5 dv
  cases e : ψ (.b xx :: en0 (N.length - 1) ds) with
  | none => rw [e] at hf; cases hf
  | some r =>
    rw [e] at hf
    refine ⟨_, G, _, r, fun b z => ⟨0, by subst z; exact (show (if (0 : Nat) = 0 then some b else none) = some b from if_pos rfl)⟩, R0, e, ?_⟩
    cases r with
    | nx ρ' =>
      simp only [outI] at hf
      split at hf
      · rename_i z e3; cases hf; exact fun σ' G' H' ex R' => fin ex R' e3 .non
      · cases hf
    | ret d' ρ' =>
      simp only [outI] at hf
      split at hf
      · rename_i z e3; cases hf; exact fun v σ' G' H' ex R' dv => fin ex R' e3 dv
      · cases hf
    | brk ρ' => cases hf
    | ct ρ' => cases hf
end
end DL

set_option maxHeartbeats 1000000
/-! DL7: what changes lists, what is built in. -/
namespace DL
open PySem PySem.Spec PyProof.Rows L2

section
variable {X : Cx} {K : PySem.W.Frag} {fr : Bool} {st : Stmt} {e : Expr} {a ix : Ev} {as : Es} {pos : Pos} {i : Nat}
/-! ### lists that are changed -/
/-- x.m(..), x an owned list, by what its items become -/
def sMut (i : Nat) (m : List PyData → List PyData → Option (List PyData)) (as : Es) : Sv := fun ρ => match ρ[i]? with
  | some s0 => (match s0.own with
    | some (.list _) => (match as ρ with
      | some (ds, ρ1) => (match ρ1[i]? with
        | some s => (match s.own with
          | some (.list xs) => (match m xs ds with
            | some ys => some (.nx (ρ1.set i (s.put (.list ys))))
            | none => none)
          | _ => none)
        | none => none)
      | none => none)
    | _ => none)
  | none => none
def MutR (K : PySem.W.Frag) (m : List PyData → List PyData → Option (List PyData)) (r : V → List V → Hp → VK → Prop) : Prop := ∀ G H p vs us xs ds ys, Ex G H → H p = some (.lst vs) → vs.length ≤ sizeLine → DrAll K G vs xs → DrAll K G us ds → m xs ds = some ys →
  ∀ Q : VK, (∀ ws v, ws.length ≤ sizeLine → DrAll K G ws ys → Q v (upd H p (.lst ws))) → r (.ref p) us H Q
theorem r_mut {m : List PyData → List PyData → Option (List PyData)} {r : V → List V → Hp → VK → Prop} (h : PS X st (tDrop (tBM K "list" r (tVar i) (tAs K as)))) (hm : MutR K m r) : PS X st (tT K fr (sMut i m as)) :=
  h.conv fun D σ H ⟨Z, G, ρ, w, zp, R, q, k⟩ => by
    unfold sMut at q
    split at q
    · rename_i s0 e0
      split at q
      · rename_i o0
        split at q
        · rename_i ds ρ1 qa
          split at q
          · rename_i s es
            split at q
            · rename_i xs ox
              split at q
              · rename_i ys qm
                cases q
                obtain ⟨p, hp, _, o1, _⟩ := R.own i s0 _ e0 o0
                obtain ⟨vs0, hv0, _⟩ := o1
                refine ⟨.ref p, hp, .inl ⟨rfl, vs0, .inl (.inl hv0)⟩, Z, G, ρ, ds, ρ1, R, qa, fun us G1 H1 ex1 R1 d1 => ?_⟩
                obtain ⟨p', hp', g1, o2, _⟩ := R1.own i s _ es ox
                rw [hp] at hp'; cases hp'
                obtain ⟨vs, hv, z, da⟩ := o2
                exact hm G1 H1 p vs us xs ds ys R1.gh hv z da d1 qm _ fun ws v hz dw => k σ G1 _ ex1 (R1.mut es ox hp ⟨ws, upd_same, hz, dw⟩)
              · cases q
            · cases q
          · cases q
        · cases q
      · cases q
    · cases q
def appD (xs ds : List PyData) : Option (List PyData) := match ds with
  | [d] => if xs.length < 16777216 then some (xs ++ [d]) else none
  | _ => none
theorem m_app : MutR K appD rAppend := by
  intro G H p vs us xs ds ys ex hv z da du q Q k
  unfold appD at q
  split at q
  · rename_i d
    split at q
    · rename_i hz
      cases q
      cases du with
      | cons d1 d2 =>
        cases d2
        have hl := da.len
        have hs := sizeLine_eq
        exact ⟨p, vs, _, rfl, rfl, hv, by omega, k _ _ (by rw [List.length_append, List.length_singleton]; omega) (da.append (.cons d1 .nil))⟩
    · cases q
  · cases q
def insD (xs ds : List PyData) : Option (List PyData) := match ds with
  | [.int j, d] => if xs.length < 16777216 ∧ 0 ≤ j ∧ j < 2 ^ 63 then some (xs.take j.toNat ++ [d] ++ xs.drop j.toNat) else none
  | _ => none
def rIns : V → List V → Hp → VK → Prop := fun x vs H Q => ∃ (l : Addr) (xs : List V) (i : Int) (y : V), x = .ref l ∧ vs = [.int i, y] ∧ H l = some (.lst xs) ∧ xs.length < sizeLine ∧ 0 ≤ i ∧ i < 2 ^ 63 ∧
  Q .non (upd H l (.lst (xs.take i.toNat ++ [y] ++ xs.drop i.toNat)))
theorem m_ins : MutR K insD rIns := by
  intro G H p vs us xs ds ys ex hv z da du q Q k
  unfold insD at q
  split at q
  · rename_i j d
    split at q
    · rename_i hz
      cases q
      cases du with
      | cons d1 d2 =>
        cases d2 with
        | cons d2 d3 =>
          cases d3
          cases d1
          have hl := da.len
          have hs := sizeLine_eq
          refine ⟨p, vs, j, _, rfl, rfl, hv, by omega, hz.2.1, hz.2.2, k _ _ ?_ (((da.take _).append (.cons d2 .nil)).append (da.drop _))⟩
          rw [List.length_append, List.length_append, List.length_singleton, List.length_take, List.length_drop]
          omega
    · cases q
  · cases q
def extD (xs ds : List PyData) : Option (List PyData) := match ds with
  | [.list zs] => if xs.length + zs.length ≤ 16777216 then some (xs ++ zs) else none
  | _ => none
theorem m_ext : MutR K extD rExtend := by
  intro G H p vs us xs ds ys ex hv z da du q Q k
  unfold extD at q
  split at q
  · rename_i zs
    split at q
    · rename_i hz
      cases q
      cases du with
      | cons d1 d2 =>
        cases d2
        cases d1 with
        | lst h1 z1 t1 =>
          have hl := da.len
          have hl1 := t1.len
          have hs := sizeLine_eq
          exact ⟨p, _, vs, _, rfl, rfl, hv, ex _ _ h1, by omega, k _ _ (by rw [List.length_append]; omega) (da.append t1)⟩
    · cases q
  · cases q
/-- x[k] = e, x an owned list -/
def setLD (x : PyData) (k d : PyData) : Option PyData := match x, k with
  | .list xs, .int n => (match ixN xs.length n with
    | some j => some (.list (xs.set j d))
    | none => none)
  | _, _ => none
def sSet (i : Nat) (ix a : Ev) : Sv := fun ρ => match a ρ with
  | some (d, ρ1) => (match ρ1[i]? with
    | some s0 => (match s0.own with
      | some _ => (match ix ρ1 with
        | some (k, ρ2) => (match ρ2[i]? with
          | some s => (match s.own with
            | some x => (match setLD x k d with
              | some y => some (.nx (ρ2.set i (s.put y)))
              | none => none)
            | none => none)
          | none => none)
        | none => none)
      | none => none)
    | none => none)
  | none => none
theorem r_set (h : PS X st (tAsg (tS K a) (gSub (tVar i) (tS K ix) rSetL))) : PS X st (tT K fr (sSet i ix a)) := h.conv fun D σ H ⟨Z, G, ρ, w, zp, R, q, k⟩ => by
  unfold sSet at q
  split at q
  · rename_i d ρ1 qa
    split at q
    · rename_i s0 e0
      split at q
      · rename_i x0 o0
        split at q
        · rename_i kd ρ2 qi
          split at q
          · rename_i s es
            split at q
            · rename_i x ox
              split at q
              · rename_i y qs
                cases q
                refine ⟨Z, G, ρ, d, ρ1, R, qa, fun v G1 H1 ex1 R1 dv => ?_⟩
                obtain ⟨p, hp, _⟩ := R1.own i s0 x0 e0 o0
                refine ⟨.ref p, hp, Z, G1, ρ1, kd, ρ2, R1, qi, fun u G2 H2 ex2 R2 du => ?_⟩
                obtain ⟨p', hp', g1, o2, _⟩ := R2.own i s x es ox
                rw [hp] at hp'; cases hp'
                unfold setLD at qs
                split at qs
                · rename_i xs n
                  split at qs
                  · rename_i j hj
                    cases qs
                    cases du
                    obtain ⟨vs, hv, z, da⟩ := o2
                    exact ⟨p, vs, n, j, rfl, rfl, hv, by rw [da.len]; exact hj, k σ G2 _ (ex1.trans ex2) (R2.mut es ox hp ⟨_, upd_same, by rw [List.length_set]; exact z, da.set (dv.mono ex2) j⟩)⟩
                  · cases qs
                · cases qs
              · cases q
            · cases q
          · cases q
        · cases q
      · cases q
    · cases q
  · cases q
/-- x[k], x a list, by values -/
theorem get_list : PGet X (rIxL X.K) := by
  intro pins s σ H o i ov iv Q I ro ri h
  obtain ⟨p, xs, n, v, rfl, rfl, hq, he, q⟩ := h
  cases ro
  obtain ⟨t, rfl⟩ := ri
  obtain ⟨its, r, pl, hz⟩ := I.list hq
  obtain ⟨j, h1, h2, h3, h4, h5⟩ := atI_get he
  obtain ⟨w, ew, rw'⟩ := r.get h2
  have hl := r.length
  have hn := line63
  by_cases h0 : 0 ≤ n
  · have hj : n.toNat = j := by
      rw [seqIndex_of h0 h5] at h1
      exact Option.some.inj h1
    exact wpAny_getItem_list pl.isList h0 (by omega) (by rw [hj]; simpa using ew) ⟨v, H, I, rw', q⟩
  · have hj : (n + (its.toArray.size : Int)).toNat = j := by
      rw [seqIndex_neg (by omega) h4] at h1
      rw [List.size_toArray, ← hl]
      exact Option.some.inj h1
    exact wpAny_getItem_list_neg pl.isList (by omega) (by rw [List.size_toArray]; omega) (by omega) (by rw [hj]; simpa using ew) ⟨v, H, I, rw', q⟩
/-- x[k] += e of ints, x an owned list -/
def sAugI (i : Nat) (ix a : Ev) : Sv := fun ρ => match ρ[i]? with
  | some s0 => (match s0.own with
    | some _ => (match ix ρ with
      | some (.int n, ρ1) => (match ρ1[i]? with
        | some s1 => (match s1.own with
          | some (.list xs1) => (match atI xs1 n with
            | some (.int old) => (match a ρ1 with
              | some (.int d, ρ2) => (match ρ2[i]? with
                | some s => (match s.own with
                  | some (.list xs) => (match ixN xs.length n with
                    | some j => some (.nx (ρ2.set i (s.put (.list (xs.set j (.int (old + d)))))))
                    | none => none)
                  | _ => none)
                | none => none)
              | _ => none)
            | _ => none)
          | _ => none)
        | none => none)
      | _ => none)
    | none => none)
  | none => none
theorem r_augI (h : PS X st (tAugS (tVar i) (tS K ix) (tS K a) (rIxL K) (fun x y H Q => ∃ m n, x = .int m ∧ y = .int n ∧ Q (.int (m + n)) H) rSetL)) : PS X st (tT K fr (sAugI i ix a)) := h.conv fun D σ H ⟨Z, G, ρ, w, zp, R, q, k⟩ => by
  unfold sAugI at q
  split at q
  · rename_i s0 e0
    split at q
    · rename_i x0 o0
      split at q
      · rename_i n ρ1 qi
        split at q
        · rename_i s1 e1
          split at q
          · rename_i xs1 o1
            split at q
            · rename_i old qo
              split at q
              · rename_i d ρ2 qa
                split at q
                · rename_i s es
                  split at q
                  · rename_i xs ox
                    split at q
                    · rename_i j qj
                      cases q
                      obtain ⟨p, hp, _⟩ := R.own i s0 x0 e0 o0
                      refine ⟨.ref p, hp, Z, G, ρ, .int n, ρ1, R, qi, fun u G1 H1 ex1 R1 du => ?_⟩
                      cases du
                      obtain ⟨p', hp', g1, oo, _⟩ := R1.own i s1 _ e1 o1
                      rw [hp] at hp'; cases hp'
                      obtain ⟨vs, hv, z, da⟩ := oo
                      obtain ⟨vo, ho, dvo⟩ := da.at qo
                      cases dvo
                      refine ⟨p, vs, n, .int old, rfl, rfl, .inl (.inl hv), ho, Z, G1, ρ1, .int d, ρ2, R1, qa, fun v G2 H2 ex2 R2 dv => ?_⟩
                      cases dv
                      obtain ⟨p', hp', g2, oo2, _⟩ := R2.own i s _ es ox
                      rw [hp] at hp'; cases hp'
                      obtain ⟨vs2, hv2, z2, da2⟩ := oo2
                      exact ⟨old, d, rfl, rfl, p, vs2, n, j, rfl, rfl, hv2, by rw [da2.len]; exact qj, k σ G2 _ (ex1.trans ex2) (R2.mut es ox hp ⟨_, upd_same, by rw [List.length_set]; exact z2, da2.set (.int _) j⟩)⟩
                    · cases q
                  · cases q
                · cases q
              · cases q
            · cases q
          · cases q
        · cases q
      · cases q
    · cases q
  · cases q

/-! ### what is built in -/
def p1 (f : PyData → Option PyData) : List PyData → Option PyData
  | [x] => f x
  | _ => none
def lenD : PyData → Option PyData
  | .list xs => some (.int xs.length)
  | .tuple xs => some (.int xs.length)
  | .str z => if z.length ≤ sizeLine then some (.int z.length) else none
  | .dict ps => some (.int ps.length)
  | _ => none
theorem drkv_len {G : Hp} : ∀ {kvs : List (Key × V)} {ps : List (PyData × PyData)}, DrKv K G kvs ps → kvs.length = ps.length
  | _, _, .nil => rfl
  | _, _, .cons _ t => congrArg (· + 1) (drkv_len t)
def absD : PyData → Option PyData
  | .int i => some (.int (if i < 0 then -i else i))
  | _ => none
theorem b_abs : PrimN K (p1 absD) (fun xs H Q => ∃ i, xs = [.int i] ∧ Q (.int (if i < 0 then -i else i)) H) := by
  intro G H vs xs d ex da q Q k
  unfold p1 at q
  split at q
  · unfold absD at q
    split at q
    · cases q
      cases da with
      | cons d1 d2 => cases d2; cases d1; exact ⟨_, rfl, k _ G H .refl (.int _)⟩
    · cases q
  · cases q
def intD : PyData → Option PyData
  | .int i => some (.int i)
  | .bool b => some (.int (if b then 1 else 0))
  | _ => none
theorem b_int : PrimN K (p1 intD) (fun xs H Q => (∃ i, xs = [.int i] ∧ Q (.int i) H) ∨ ∃ k, xs = [.bl k] ∧ Q (.int (if k then 1 else 0)) H) := by
  intro G H vs xs d ex da q Q k
  unfold p1 at q
  split at q
  · unfold intD at q
    split at q
    · cases q
      cases da with
      | cons d1 d2 => cases d2; cases d1; exact .inl ⟨_, rfl, k _ G H .refl (.int _)⟩
    · cases q
      cases da with
      | cons d1 d2 => cases d2; cases d1; exact .inr ⟨_, rfl, k _ G H .refl (.int _)⟩
    · cases q
  · cases q
def lenS : PyData → Option PyData
  | .list xs => some (.int xs.length)
  | .tuple xs => some (.int xs.length)
  | _ => none
theorem b_len : PrimN K (p1 lenS) (fun xs H Q => ∃ p ys, xs = [.ref p] ∧ (SqL K H p ys ∨ SqT K H p ys) ∧ Q (.int ys.length) H) := by
  intro G H vs xs d ex da q Q k
  unfold p1 at q
  split at q
  · unfold lenS at q
    split at q
    · cases q
      cases da with
      | cons d1 d2 =>
        cases d2
        cases d1 with
        | lst h z t => exact ⟨_, _, rfl, .inl (.inl (.inl (ex _ _ h))), k _ G H .refl (by rw [t.len]; exact .int _)⟩
    · cases q
      cases da with
      | cons d1 d2 =>
        cases d2
        cases d1 with
        | tup h z t => exact ⟨_, _, rfl, .inr (ex.sqT h), k _ G H .refl (by rw [t.len]; exact .int _)⟩
    · cases q
  · cases q
def max2D : List PyData → Option PyData
  | [.int i, .int j] => some (.int (if j > i then j else i))
  | _ => none
def min2D : List PyData → Option PyData
  | [.int i, .int j] => some (.int (if j < i then j else i))
  | _ => none
theorem b_max2 : PrimN K max2D (fun xs H Q => ∃ i j, xs = [.int i, .int j] ∧ Q (.int (if j > i then j else i)) H) := by
  intro G H vs xs d ex da q Q k
  unfold max2D at q
  split at q
  · cases q
    cases da with
    | cons d1 d2 =>
      cases d2 with
      | cons d2 d3 => cases d3; cases d1; cases d2; exact ⟨_, _, rfl, k _ G H .refl (.int _)⟩
  · cases q
theorem b_min2 : PrimN K min2D (fun xs H Q => ∃ i j, xs = [.int i, .int j] ∧ Q (.int (if j < i then j else i)) H) := by
  intro G H vs xs d ex da q Q k
  unfold min2D at q
  split at q
  · cases q
    cases da with
    | cons d1 d2 =>
      cases d2 with
      | cons d2 d3 => cases d3; cases d1; cases d2; exact ⟨_, _, rfl, k _ G H .refl (.int _)⟩
  · cases q
def tupD : PyData → Option PyData
  | .list xs => some (.tuple xs)
  | .tuple xs => some (.tuple xs)
  | _ => none
theorem b_tuple : PrimN K (p1 tupD) (fun xs H Q => ∃ p ys, xs = [.ref p] ∧ ((SqL K H p ys ∧ ∀ l, H l = none → Q (.ref l) (upd H l (.tup ys))) ∨ (SqT K H p ys ∧ Q (.ref p) H))) := by
  intro G H vs xs d ex da q Q k
  unfold p1 at q
  split at q
  · unfold tupD at q
    split at q
    · cases q
      cases da with
      | cons d1 d2 =>
        cases d2
        cases d1 with
        | lst h z t => exact ⟨_, _, rfl, .inl ⟨.inl (.inl (ex _ _ h)), fun l hl => k _ _ _ (.one hl) (.tup (.inl (.inl upd_same)) z (t.mono (Ex.new (ex.none hl))))⟩⟩
    · cases q
      cases da with
      | cons d1 d2 =>
        cases d2
        cases d1 with
        | tup h z t => exact ⟨_, _, rfl, .inr ⟨ex.sqT h, k _ G H .refl (.tup h z t)⟩⟩
    · cases q
  · cases q
def lstD : PyData → Option PyData
  | .list xs => some (.list xs)
  | .tuple xs => some (.list xs)
  | _ => none
theorem b_list : PrimNF K (p1 lstD) (fun xs H Q => ∃ p ys, xs = [.ref p] ∧ (SqL K H p ys ∨ SqT K H p ys) ∧ ∀ l, H l = none → Q (.ref l) (upd H l (.lst ys))) := by
  intro G H vs xs d ex da q Q k
  unfold p1 at q
  split at q
  · unfold lstD at q
    split at q
    · cases q
      cases da with
      | cons d1 d2 =>
        cases d2
        cases d1 with
        | lst h z t => exact ⟨_, _, rfl, .inl (.inl (.inl (ex _ _ h))), fun l hl => k l _ hl ⟨_, upd_same, z, t⟩⟩
    · cases q
      cases da with
      | cons d1 d2 =>
        cases d2
        cases d1 with
        | tup h z t => exact ⟨_, _, rfl, .inr (ex.sqT h), fun l hl => k l _ hl ⟨_, upd_same, z, t⟩⟩
    · cases q
  · cases q
def intsOf : List PyData → Option (List Int)
  | [] => some []
  | .int b :: r => (intsOf r).map (b :: ·)
  | _ :: _ => none
theorem intsOf_eq : ∀ {xs : List PyData} {bs : List Int}, intsOf xs = some bs → xs = bs.map PyData.int
  | [], bs, h => by cases h; rfl
  | .int b :: r, bs, h => by
    simp only [intsOf] at h
    cases e : intsOf r with
    | none => rw [e] at h; cases h
    | some cs => rw [e] at h; cases h; rw [intsOf_eq e]; rfl
  | .none :: _, _, h => by cases h
  | .bool _ :: _, _, h => by cases h
  | .str _ :: _, _, h => by cases h
  | .list _ :: _, _, h => by cases h
  | .tuple _ :: _, _, h => by cases h
  | .dict _ :: _, _, h => by cases h
theorem intsOf_map : ∀ bs : List Int, intsOf (bs.map PyData.int) = some bs
  | [] => rfl
  | b :: bs => by
    show (intsOf (bs.map PyData.int)).map (b :: ·) = some (b :: bs)
    rw [intsOf_map bs]
    rfl
def sumD : PyData → Option PyData
  | .list xs => (intsOf xs).map fun ns => .int ns.sum
  | _ => none
theorem b_sum : PrimN K (p1 sumD) (rSum K) := by
  intro G H vs xs d ex da q Q k
  unfold p1 at q
  split at q
  · rename_i x
    cases x with
    | list zs =>
      simp only [sumD] at q
      cases e : intsOf zs with
      | none => rw [e] at q; cases q
      | some bs =>
        rw [e] at q
        cases q
        cases da with
        | cons d1 d2 =>
          cases d2
          cases d1 with
          | lst h z t =>
            have e2 := intsOf_eq e
            subst e2
            have e3 := t.of_ints
            subst e3
            exact ⟨_, bs, rfl, .inl (.inl (ex _ _ h)), k _ G H .refl (.int _)⟩
    | _ => cases q
  · cases q
def bitsD : PyData → Option PyData
  | .int i => some (.int (Builtin.Int.intBits i : Nat))
  | _ => none
theorem r_bits (h : PE X e (tBits (tS K a))) : PE X e (tS K (e1 bitsD a)) := h.conv fun σ H Q ⟨Z, G, ρ, d, ρ', R, q, k⟩ => by
  unfold e1 at q
  split at q
  · rename_i x ρ1 qa
    split at q
    · rename_i d' qf
      cases q
      refine ⟨Z, G, ρ, x, _, R, qa, fun v G1 H1 ex1 R1 d1 => ?_⟩
      unfold bitsD at qf
      split at qf
      · cases qf
        cases d1
        exact ⟨_, rfl, k _ G1 H1 ex1 R1 (.int _)⟩
      · cases qf
    · cases q
  · cases q
/-- repr -/
def reprOk (d : PyData) : Prop := d.canLay0 = true ∧ d.depth ≤ 64 ∧ d.showable = true ∧ d.shown.length ≤ sizeLine
open Classical in
noncomputable def reprD (d : PyData) : Option PyData := if reprOk d then some (.str d.shown) else none
def rRepr (K : PySem.W.Frag) : List V → Hp → VK → Prop := fun vs H Q => ∃ v d, vs = [v] ∧ Dp K H v d ∧ reprOk d ∧ Q (.str d.shown) H
theorem c_repr (hg : X.A.guards = some []) (hu : X.A.units + 66 < cLine) : CallR X (.builtin "repr") (rRepr X.K) := by
  intro pins s σ H vs us Q I r h
  obtain ⟨v, d, rfl, dp, ok, q⟩ := h
  obtain ⟨u, rfl, rv⟩ := vals1 r
  obtain ⟨h1, h2, h3, h4⟩ := ok
  have hd := PyData.hasDict_of_canLay d h1
  obtain ⟨as, rd⟩ := Dp.reads I d v u dp rv
  cases dp with
  | non => cases rv; exact PySem.P.repr_of_none ⟨.str _, H, I.tok _, ⟨_, rfl⟩, by simpa [PyData.shown] using q⟩
  | bl b => cases rv; exact PySem.P.repr_of_bool ⟨.str _, H, I.tok _, ⟨_, rfl⟩, by simpa [PyData.shown] using q⟩
  | int i => obtain ⟨t, rfl⟩ := rv; exact PySem.P.repr_of_int (by simpa [PyData.showable] using h3) ⟨.str _, H, I.tok _, ⟨_, rfl⟩, by simpa [PyData.shown] using q⟩
  | str x => obtain ⟨t, rfl⟩ := rv; exact PySem.P.repr_of_str ⟨.str _, H, I.tok _, ⟨_, rfl⟩, by simpa [PyData.shown] using q⟩ (by simpa [PyData.shown] using h4)
  | lst h5 h6 => cases rv; exact repr_of_reads' rd h3 (PyData.noDict_hsm hd) hg (by omega) (fun _ _ e => e) (fun h' u tk hk => ⟨.str _, H, I.kept hk, ⟨_, rfl⟩, q⟩) h4
  | tup h5 h6 => cases rv; exact repr_of_reads' rd h3 (PyData.noDict_hsm hd) hg (by omega) (fun _ _ e => e) (fun h' u tk hk => ⟨.str _, H, I.kept hk, ⟨_, rfl⟩, q⟩) h4
theorem b_repr : PrimN K (p1 reprD) (rRepr K) := by
  intro G H vs xs d ex da q Q k
  unfold p1 at q
  split at q
  · unfold reprD at q
    split at q
    · rename_i x ok
      cases q
      cases da with
      | cons d1 d2 =>
        cases d2
        exact ⟨_, x, rfl, (d1.mono ex).dp (PyData.hasDict_of_canLay x ok.1), ok, k _ G H .refl (.str _)⟩
    · cases q
  · cases q
/-- any, all of truths -/
def boolsOf : List PyData → Option (List Bool)
  | [] => some []
  | .bool b :: r => (boolsOf r).map (b :: ·)
  | _ :: _ => none
theorem boolsOf_eq : ∀ {xs : List PyData} {bs : List Bool}, boolsOf xs = some bs → xs = bs.map PyData.bool
  | [], bs, h => by cases h; rfl
  | .bool b :: r, bs, h => by
    simp only [boolsOf] at h
    cases e : boolsOf r with
    | none => rw [e] at h; cases h
    | some cs => rw [e] at h; cases h; rw [boolsOf_eq e]; rfl
  | .none :: _, _, h => by cases h
  | .int _ :: _, _, h => by cases h
  | .str _ :: _, _, h => by cases h
  | .list _ :: _, _, h => by cases h
  | .tuple _ :: _, _, h => by cases h
  | .dict _ :: _, _, h => by cases h
theorem boolsOf_map : ∀ bs : List Bool, boolsOf (bs.map PyData.bool) = some bs
  | [] => rfl
  | b :: bs => by
    show (boolsOf (bs.map PyData.bool)).map (b :: ·) = some (b :: bs)
    rw [boolsOf_map bs]
    rfl
def anyD : PyData → Option PyData
  | .list xs => (boolsOf xs).map fun bs => .bool (bs.any id)
  | _ => none
def allD : PyData → Option PyData
  | .list xs => (boolsOf xs).map fun bs => .bool (bs.all id)
  | _ => none
theorem b_any : PrimN K (p1 anyD) (rAny K) := by
  intro G H vs xs d ex da q Q k
  unfold p1 at q
  split at q
  · rename_i x
    cases x with
    | list zs =>
      simp only [anyD] at q
      cases e : boolsOf zs with
      | none => rw [e] at q; cases q
      | some bs =>
        rw [e] at q
        cases q
        cases da with
        | cons d1 d2 =>
          cases d2
          cases d1 with
          | lst h z t =>
            have e2 := boolsOf_eq e
            subst e2
            have e3 := t.of_bools
            subst e3
            exact ⟨_, bs, rfl, .inl (.inl (ex _ _ h)), k _ G H .refl (.bl _)⟩
    | _ => cases q
  · cases q
theorem b_all : PrimN K (p1 allD) (rAll K) := by
  intro G H vs xs d ex da q Q k
  unfold p1 at q
  split at q
  · rename_i x
    cases x with
    | list zs =>
      simp only [allD] at q
      cases e : boolsOf zs with
      | none => rw [e] at q; cases q
      | some bs =>
        rw [e] at q
        cases q
        cases da with
        | cons d1 d2 =>
          cases d2
          cases d1 with
          | lst h z t =>
            have e2 := boolsOf_eq e
            subst e2
            have e3 := t.of_bools
            subst e3
            exact ⟨_, bs, rfl, .inl (.inl (ex _ _ h)), k _ G H .refl (.bl _)⟩
    | _ => cases q
  · cases q
end
end DL

set_option maxHeartbeats 1000000
/-! DL8: the law's def, the end of a row. -/
namespace DL
open PySem PySem.Spec PyProof.Rows L2

/-- the heap behind the top, the script known as it stands -/
structure Top0 (P : Program) (w : World) (K : PySem.W.Frag) (h : Heap) (a : Addr) (ns : List Int) (H : Hp) : Prop where
  only : Only H
  seq : SqL K H a (ns.map V.int)
  ok : HOk P w H h
  at_ : ∀ b, H b ≠ none → b = a
  free : H a ≠ none → K.lookup a = none
theorem top0 {P : Program} {w : World} {K : PySem.W.Frag} {h : Heap} {a : Addr} {vs : List Value} {ns : List Int} (KX : K.In h) (ha : h.get? a = some { cls := .type "list", data := .seq vs.toArray }) (hi : IntsAre vs ns) (hl : ns.length ≤ sizeLine) : ∃ H, Top0 P w K h a ns H := by
  have rv := vals_ints hi
  have hlen := hi.length
  cases hk : K.lookup a with
  | some o =>
    have e := KX a o hk
    rw [ha] at e
    cases e
    refine ⟨fun _ => none, fun _ => .inl rfl, .inr ⟨_, vs.toArray, _, hk, rfl, rfl, rfl, ?_, ?_⟩, ?_, ?_, ?_⟩
    · rw [List.size_toArray, hlen]; exact hl
    · simpa using rv
    · intro b u z
      cases z
    · intro b z
      exact absurd rfl z
    · intro z
      exact absurd rfl z
  | none =>
    let ob : Obj := { cls := .type "list", data := .seq vs.toArray }
    have at1 : ∀ {b : Addr} {u : HO}, (if b = a then some (HO.frz ob (.lst (ns.map V.int))) else none) = some u → b = a ∧ u = HO.frz ob (.lst (ns.map V.int)) := by
      intro b u z
      by_cases q : b = a
      · rw [if_pos q] at z; exact ⟨q, (Option.some.inj z).symm⟩
      · rw [if_neg q] at z; cases z
    refine ⟨fun b => if b = a then some (.frz ob (.lst (ns.map V.int))) else none, fun b => ?_, .inl (.inr ⟨ob, if_pos rfl⟩), fun b u z => ?_, fun b z => ?_, fun _ => hk⟩
    · by_cases q : b = a
      · exact .inr ⟨_, _, if_pos q⟩
      · exact .inl (if_neg q)
    · obtain ⟨rfl, rfl⟩ := at1 z
      exact ⟨ha, by rw [List.length_map]; exact hl, vs, _, rv, ha⟩
    · by_cases q : b = a
      · exact q
      · exact absurd (if_neg q) z
theorem callG {P : Program} {w : World} {K : PySem.W.Frag} {mg mb : Str → Option Value} {k : Nat} {fa a : Addr} {fd : FuncData} {x : Str} {sp : Sp} {s1 : Shared} {vs : List Value} {ns : List Int}
    (KX : K.In s1.heap) (hns : s1.heap.Ns mainGlobals mg) (hb : s1.heap.Ns builtinsNs mb) (hbb : ∀ x : Str, x ≠ "__name__" → mb x = bootBuiltins x) (hlim : s1.heap.NoLimit) (hg : s1.gens = #[])
    (ha : s1.heap.get? a = some { cls := .type "list", data := .seq vs.toArray }) (hi : IntsAre vs ns) (hl : ns.length ≤ sizeLine) (hr : Room k callerA)
    (F : ∀ base : Heap, K.In base → base.Ns mainGlobals mg → FnG P w K mg base k fa fd [x] sp) (hbind : ∀ (s : Shared) (u : Value), BindsTo s fd ⟨[u], []⟩ [(x, u)])
    (hsp : ∀ H : Hp, Only H → SqL K H a (ns.map V.int) → sp [.ref a] H (fun v _ => v = .bl true) E0) :
    codeAny (model P w) callerA (.call (.ref fa) ⟨[.ref a], []⟩) (fun r s' => r = .ok (.ret (.bool true)) ∧ OldK s1.heap s'.heap ∧ s'.os = s1.os ∧ AllBare s'.gens) s1 := by
  obtain ⟨H, T⟩ := top0 (P := P) (w := w) KX ha hi hl
  have onlyA : ∀ {b : Addr} {u : HO}, H b = some u → b = a := fun {b u} e => T.at_ b fun z => by rw [z] at e; cases e
  -- what is a dict is not tracked
  have dictFree : ∀ {b : Addr} {o : Obj} {es : Array DictEntry} {ep : Nat}, s1.heap.get? b = some o → o.data = .dict es ep → H b = none := by
    intro b o es ep e d
    cases q : H b with
    | none => rfl
    | some u =>
      have eb := onlyA q
      rw [eb, ha] at e
      cases e
      exact nomatch d
  have ns0 : ∀ {b : Addr} {m : Str → Option Value}, s1.heap.Ns b m → (hidT s1.heap H).Ns b m := by
    rintro b m ⟨o, es, ep, e, d, r⟩
    exact ⟨o, es, ep, hidT_get e (dictFree e d), d, r⟩
  have KB : K.In (hidT s1.heap H) := by
    intro b o e
    refine hidT_get (KX b o e) ?_
    cases q : H b with
    | none => rfl
    | some u =>
      have eb := onlyA q
      subst eb
      rw [T.free (by rw [q]; intro z; cases z)] at e
      cases e
  have lim0 : (hidT s1.heap H).NoLimit := by
    obtain ⟨mc, c1, c2⟩ := hlim
    exact ⟨mc, ns0 c1, c2⟩
  have none0 : ∀ b ∈ frs ([] : List Env), H b = none := by
    intro b z
    have z' : b ∈ ([] : List Addr) := z
    cases z'
  have e0 : Env0 P w K mg (hidT s1.heap H) callerA [] s1 H := { frames := rfl, mod := ⟨KB, ns0 hns, ⟨mb, ns0 hb, hbb⟩, lim0⟩, bs := fun b o e => of_hidT e, bsz := Nat.le_of_eq (hidT_size _ _), funs := trivial, frf := none0, hok := T.ok, bare := .of_eq hg }
  have run := (F _ KB (ns0 hns)).run callerA [] s1 H ⟨[.ref a], []⟩ [.ref a] [.ref a] _ E0 hr rfl e0 (hbind s1 (.ref a)) (.cons rfl .nil) (hsp H T.only T.seq)
  refine codeAny_mono run fun r s2 h2 => ?_
  cases r with
  | error e => exact False.elim h2
  | ok fl =>
    cases fl with
    | next => exact False.elim h2
    | brk => exact False.elim h2
    | cont => exact False.elim h2
    | ret u =>
      obtain ⟨v, H2, os, bare, un, hok2, rv, qv⟩ := h2
      have ev : v = .bl true := qv
      subst ev
      have eu : u = Value.bool true := rv
      subst eu
      have nofr : ∀ b : Addr, b ∉ frs ([] : List Env) := by
        intro b z
        have z' : b ∈ ([] : List Addr) := z
        cases z'
      refine ⟨rfl, OldK.of_keep fun b o e => ?_, os, bare⟩
      cases q : H b with
      | none => exact un.keep b o e q (nofr b) (by simp)
      | some u =>
        rcases T.only b with z | ⟨ob, xs, z⟩
        · rw [q] at z; cases z
        · obtain ⟨g1, _⟩ := T.ok b _ z
          obtain ⟨g2, _⟩ := hok2 b _ (un.frzs b ob _ z)
          rw [e] at g1
          cases g1
          exact g2
/-- what a law promises -/
def spLaw (K : PySem.W.Frag) : Sp := fun vs H Q _ => ∃ (a : Addr) (ns : List Int), vs = [.ref a] ∧ SqL K H a (ns.map V.int) ∧ ns.length ≤ 63 ∧ ∀ H', Q (.bl true) H'
theorem walkG {l : PySem.W.OpenLaw} {k : Nat} {q : Program} {loose : List Str} {XP : (Str → Option Value) → Heap → Prop} {YP : World → Heap → Prop} {d : DefRec} {K : Params → PySem.W.Frag} {x : Str}
    (hn : l.most = some 63) (hdf : d.params.defaults = []) (hr : Room k callerA) (hY : ∀ (w : World) (h : Heap), YP w h → (K w.params).In h)
    (F : ∀ (w : World) (mg : Str → Option Value) (fa : Addr) (h : Heap), (K w.params).In h → h.Ns mainGlobals mg → mg d.name = some (.ref fa) →
      ∃ fd : FuncData, (∀ (s : Shared) (u : Value), BindsTo s fd ⟨[u], []⟩ [(x, u)]) ∧ ∀ base : Heap, (K w.params).In base → base.Ns mainGlobals mg → FnG l.prog w (K w.params) mg base k fa fd [x] (spLaw (K w.params))) :
    PySem.W.WalkO q loose XP YP l.row.toRowW d [] (fun f vs => PySem.call f vs) := by
  refine Att.attach_call hn hdf ?_
  intro w s0 s1 mg mb fa o pm cd doc a vs ns G Y ho hd hcd hmg hobj hints hlen hg
  have KX := hY w _ Y
  obtain ⟨fd, hb, hF⟩ := F w mg fa _ KX G.T.g hmg
  exact callG KX G.T.g G.T.b G.T.builtins G.T.nolimit hg hobj hints (Nat.le_trans hlen (by decide)) hr hF hb fun H hO hS => ⟨a, ns, rfl, hS, hlen, fun _ => rfl⟩

/-! ### the bag of a script -/
def bagD (ns : List Int) : PyData := .list [.int 0, .int 1234567891, .int 0, .list ((ns.map fun n => if n < 0 then -n else n).map .int)]
def spBag (K : PySem.W.Frag) : Sp := fun vs H Q _ => ∃ (a : Addr) (ns : List Int), vs = [.ref a] ∧ SqL K H a (ns.map V.int) ∧ ns.length ≤ 63 ∧
  ∀ p c H', Ex H H' → H p = none → H c = none → p ≠ c → H' c = some (.lst ((ns.map fun n => if n < 0 then -n else n).map V.int)) → H' p = some (.lst [.int 0, .int 1234567891, .int 0, .ref c]) → Q (.ref p) H'
section
variable {P : Program} {w : World} {K : PySem.W.Frag} {mg : Str → Option Value} {base : Heap} {x qual : Str} {st : Stmt} {f : Addr} {fd : FuncData} {N : List Str} {k i : Nat} {ψ : Sv}
def lawEn (n i : Nat) (ns : List Int) : En := (List.replicate n .u).set i (.o (bagD ns))
theorem fnLaw (F : Fun K x qual st f fd) (S : FnScope N ["script"] (defScope st)) (hi : i < N.length)
    (body : ∀ (cdv : Value) (A : Around) (outer : List Env) (s : Shared) (H : Hp) (E : XK), Room k (A.deeper (envOfC qual (defScope st) s.heap.objs.size f cdv)) → A.guards = some [] →
      PSs (cxG P w K mg base N qual st f cdv A outer s H E) (defBody st) (tSeq (tAsg (tCallG (spBag K) (tCons (tVar 0) tNil)) (gName i)) (tT K false ψ)))
    (hψ : ∀ ns : List Int, ns.length ≤ 63 → ∃ ρ', ψ (lawEn N.length i ns) = some (.ret (.bool true) ρ')) : FnG P w K mg base (k + 1) f fd ["script"] (spLaw K) := by
  refine fnG_ok F S (fun vs H Q E ⟨a, ns, e, _⟩ => by rw [e]; rfl) fun cdv A outer s H vs Q E hr hg hsp => ⟨_, body cdv A outer s H E hr hg, ?_⟩
  obtain ⟨a, ns, rfl, hS, hl, kk⟩ := hsp
  obtain ⟨ρ', hρ⟩ := hψ ns hl
  refine ⟨.ref a, start_at rfl, a, ns, rfl, hS, hl, fun p c H1 ex hp hc hpc hcc hpp => ?_⟩
  let G1 : Hp := fun b => if b = c then some (.lst ((ns.map fun n => if n < 0 then -n else n).map V.int)) else none
  have gc : G1 c = some (.lst ((ns.map fun n => if n < 0 then -n else n).map V.int)) := if_pos rfl
  have gn : ∀ b, b ≠ c → G1 b = none := fun b h => if_neg h
  have hlen : (start N [V.ref a]).length = N.length := start_len (by rw [List.length_singleton]; omega)
  have R : SR K ⟨fun _ => none, H, fun _ => none, fun _ => False⟩ G1 H1 (start N [V.ref a]) (List.replicate N.length .u) := by
    have no : ∀ {j : Nat} {s : Sl}, (List.replicate N.length Sl.u)[j]? = some s → s = .u := fun {j s} h => by
      rw [List.getElem?_replicate] at h
      split at h
      · cases h; rfl
      · cases h
    refine ⟨by rw [hlen, List.length_replicate], fun b o e => ?_, fun b o e => (by cases e), fun b o e => ?_, fun b o e _ => ex b o e, fun b o e => ⟨_, ex b o e⟩, fun j y e => ?_, fun j s y e q => ?_, fun j y e => ?_, fun j y b e => ?_, fun j b e => (by cases e), fun j m b ⟨s, y, e, q⟩ => ?_⟩
    · by_cases z : b = c
      · subst z; rw [gc] at e; cases e; exact hcc
      · rw [gn b z] at e; cases e
    · refine gn b fun z => ?_
      have e' : H b = some o := e
      rw [z, hc] at e'
      cases e'
    · cases no e
    · rw [no e] at q; cases q
    · cases no e
    · cases no e
    · rw [no e] at q; cases q
  have R2 := R.setO (i := i) (a := p) (x := bagD ns) (gn p hpc) hp (fun j ⟨s, y, e, q⟩ => by
    rw [List.getElem?_replicate] at e
    split at e
    · cases e; cases q
    · cases e) ⟨_, hpp, by show 4 ≤ sizeLine; decide, .cons (.int 0) (.cons (.int _) (.cons (.int 0) (.cons (.lst gc (by rw [List.length_map, List.length_map, sizeLine_eq]; omega) (DrAll.ints _)) .nil)))⟩
  refine ⟨_, G1, _, _, fun b z => (show False from z).elim, R2, hρ, ?_⟩
  intro v σ' G' H' ex' R' dv
  have dv' : Dr K G' v (.bool true) := dv
  cases dv'
  exact kk H'

/-- the reading of «return [0, 1234567891, 0, [abs(cell) for cell in script[:63]]]» -/
theorem bag_reads {D : Ends} {H : Hp} {a : Addr} {ns : List Int} {Q : VK} (hrt : D.rt = Q) (hS : SqL K H a (ns.map V.int)) (hl : ns.length ≤ 63)
    (q : ∀ p c H', Ex H H' → H p = none → H c = none → p ≠ c → H' c = some (.lst ((ns.map fun n => if n < 0 then -n else n).map V.int)) → H' p = some (.lst [.int 0, .int 1234567891, .int 0, .ref c]) → Q (.ref p) H') :
    tRet (tLst (tCons (tC (.int 0)) (tCons (tC (.int 1234567891)) (tCons (tC (.int 0)) (tCons (tLc (iList K (tSl (rSlL K) (tVar 0) tNoPart (tPart (tC (.int 63))))) (gName 1) tYes
      (tCB (fun xs H Q => ∃ i, xs = [.int i] ∧ Q (.int (if i < 0 then -i else i)) H) (tCons (tVar 1) tNil)) [1]) tNil))))) D [some (.ref a), none] H := by
  have hcut : cutV (ns.map V.int) none (some 63) = ns.map V.int := by
    unfold cutV
    rw [HT.sIx_none, show HT.sIx (ns.map V.int).length (ns.map V.int).length (some 63) = min 63 (ns.map V.int).length from HT.sIx_nat _ _ 63, List.drop_zero, Nat.sub_zero]
    exact List.take_of_length_le (by rw [List.length_map]; omega)
  refine ⟨.ref a, rfl, 63, rfl, a, _, rfl, hS, fun l hL => ?_⟩
  rw [hcut]
  refine ⟨l, rfl, ⟨_, .inl (.inl upd_same)⟩, fun D1 hD1 => ?_⟩
  have ne : l ≠ D1 := fun z => by rw [← z, upd_same] at hD1; cases hD1
  have hD0 : H D1 = none := by rw [upd_ne ne.symm] at hD1; exact hD1
  refine lc_list (K := K) (a := l) (xs := ns.map V.int) (fun m H' => Ex (upd H l (.lst (ns.map V.int))) H' ∧ H' D1 = some (.lst (((ns.take m).map fun n => if n < 0 then -n else n).map V.int)))
    ⟨Ex.new hD1, upd_same⟩ (fun m H' _ h => .inl (.inl (h.1 _ _ upd_same))) (fun m y H' hy h => ?_) (fun H' h => ?_)
  · rw [List.getElem?_map] at hy
    cases e : ns[m]? with
    | none => rw [e] at hy; cases hy
    | some n =>
      rw [e] at hy
      cases hy
      have hm : m < ns.length := (List.getElem?_eq_some_iff.mp e).1
      refine ⟨rfl, ?_⟩
      refine ⟨.int n, rfl, n, rfl, _, h.2, ?_, ?_, ?_⟩
      · rw [List.length_map, List.length_map, List.length_take, sizeLine_eq]; omega
      · intro b o hb
        have nb : b ≠ D1 := fun z => by rw [z, hD1] at hb; cases hb
        rw [upd_ne nb]
        exact h.1 b o hb
      · rw [upd_same, List.take_add_one, e, List.map_append, List.map_append]
        rfl
  · refine ⟨by show 4 ≤ sizeLine; decide, fun p hp => ?_⟩
    have hH : Ex H H' := (Ex.new hL).trans h.1
    have np : p ≠ D1 := fun z => by rw [z, h.2] at hp; cases hp
    have ep : H p = none := hH.none hp
    rw [hrt]
    refine q p D1 _ ?_ ep hD0 np ?_ upd_same
    · intro b o hb
      rw [upd_ne (fun z => by rw [z, ep] at hb; cases hb)]
      exact hH b o hb
    · rw [upd_ne np.symm, h.2, List.take_of_length_le (by rw [List.length_map]; exact Nat.le_refl _)]
end
end DL

set_option maxHeartbeats 1000000
/-! DL9: what changes no slot; a look at lists that are still to be changed; several targets. -/
namespace DL
open PySem PySem.Spec PyProof.Rows L2

def PuE (a : Ev) : Prop := ∀ ρ d ρ', a ρ = some (d, ρ') → ρ' = ρ
def PuQ (a : Eq) : Prop := ∀ ρ d ρ', a ρ = some (d, ρ') → ρ' = ρ
def PuA (a : Es) : Prop := ∀ ρ d ρ', a ρ = some (d, ρ') → ρ' = ρ
section
variable {a b : Ev} {q r : Eq} {as : Es} {i : Nat} {d : PyData} {f1 : PyData → Option PyData} {f2 : PyData → PyData → Option PyData} {fn : List PyData → Option PyData}
theorem pu_V : PuE (eV i) := fun ρ x ρ' h => by
  unfold eV at h
  split at h
  · cases h; rfl
  · cases h
theorem pu_C : PuE (eC d) := fun ρ x ρ' h => by cases h; rfl
theorem pu_1 (ha : PuE a) : PuE (e1 f1 a) := fun ρ x ρ' h => by
  unfold e1 at h
  split at h
  · rename_i y ρ1 qa
    split at h
    · cases h; exact ha _ _ _ qa
    · cases h
  · cases h
theorem pu_2 (ha : PuE a) (hb : PuE b) : PuE (e2 f2 a b) := fun ρ x ρ' h => by
  unfold e2 at h
  split at h
  · rename_i y ρ1 qa
    split at h
    · rename_i z ρ2 qb
      split at h
      · cases h
        have e1 := ha _ _ _ qa
        subst e1
        exact hb _ _ _ qb
      · cases h
    · cases h
  · cases h
theorem pu_N (ha : PuA as) : PuE (eN fn as) := fun ρ x ρ' h => by
  unfold eN at h
  split at h
  · rename_i y ρ1 qa
    split at h
    · cases h; exact ha _ _ _ qa
    · cases h
  · cases h
theorem pu_aN : PuA aN := fun ρ x ρ' h => by cases h; rfl
theorem pu_aC (ha : PuE a) (hb : PuA as) : PuA (aC a as) := fun ρ x ρ' h => by
  unfold aC at h
  split at h
  · rename_i y ρ1 qa
    split at h
    · rename_i z ρ2 qb
      cases h
      have e1 := ha _ _ _ qa
      subst e1
      exact hb _ _ _ qb
    · cases h
  · cases h
theorem pu_B (ha : PuE a) : PuQ (qB a) := fun ρ x ρ' h => by
  unfold qB at h
  split at h
  · rename_i qa; cases h; exact ha _ _ _ qa
  · cases h
theorem pu_And (ha : PuQ q) (hb : PuQ r) : PuQ (qAnd q r) := fun ρ x ρ' h => by
  unfold qAnd at h
  split at h
  · rename_i ρ1 qa
    have e1 := ha _ _ _ qa
    subst e1
    exact hb _ _ _ h
  · rename_i ρ1 qa; cases h; exact ha _ _ _ qa
  · cases h
theorem pu_Or (ha : PuQ q) (hb : PuQ r) : PuQ (qOr q r) := fun ρ x ρ' h => by
  unfold qOr at h
  split at h
  · rename_i ρ1 qa; cases h; exact ha _ _ _ qa
  · rename_i ρ1 qa
    have e1 := ha _ _ _ qa
    subst e1
    exact hb _ _ _ h
  · cases h
theorem pu_Not (ha : PuQ q) : PuQ (qNot q) := fun ρ x ρ' h => by
  unfold qNot at h
  split at h
  · rename_i qa; cases h; exact ha _ _ _ qa
  · cases h
theorem pu_If {c : Eq} (hc : PuQ c) (ha : PuE a) (hb : PuE b) : PuE (eIf c a b) := fun ρ x ρ' h => by
  unfold eIf at h
  split at h
  · rename_i ρ1 qa
    have e1 := hc _ _ _ qa
    subst e1
    exact ha _ _ _ h
  · rename_i ρ1 qa
    have e1 := hc _ _ _ qa
    subst e1
    exact hb _ _ _ h
  · cases h
theorem pu_eAnd (ha : PuE a) (hb : PuE b) : PuE (eAnd a b) := fun ρ x ρ' h => by
  unfold eAnd at h
  split at h
  · rename_i ρ1 qa
    have e1 := ha _ _ _ qa
    subst e1
    exact hb _ _ _ h
  · rename_i ρ1 qa; cases h; exact ha _ _ _ qa
  · cases h
theorem pu_eOr (ha : PuE a) (hb : PuE b) : PuE (eOr a b) := fun ρ x ρ' h => by
  unfold eOr at h
  split at h
  · rename_i ρ1 qa; cases h; exact ha _ _ _ qa
  · rename_i ρ1 qa
    have e1 := ha _ _ _ qa
    subst e1
    exact hb _ _ _ h
  · cases h
end

/-! ### all that is owned, looked at -/
def Sl.still : Sl → Sl
  | .o x => .d x
  | .b x => .d x
  | s => s
def stillE (ρ : En) : En := ρ.map Sl.still
def OwnAddr (σ : L2.St) (ρ : En) (b : Addr) : Prop := ∃ j, Owned ρ j ∧ σ[j]? = some (some (.ref b))
section
variable {K : PySem.W.Frag} {Z : Zn} {G H : Hp} {σ : L2.St} {ρ : En}
open Classical in
noncomputable def stillG (G H : Hp) (σ : L2.St) (ρ : En) : Hp := fun b => if OwnAddr σ ρ b then H b else G b
open Classical in
noncomputable def backG (G' : Hp) (σ : L2.St) (ρ : En) : Hp := fun b => if OwnAddr σ ρ b then none else G' b
theorem stillE_at {i : Nat} {s : Sl} (h : (stillE ρ)[i]? = some s) : ∃ s0, ρ[i]? = some s0 ∧ s = s0.still := by
  unfold stillE at h
  rw [List.getElem?_map] at h
  cases e : ρ[i]? with
  | none => rw [e] at h; cases h
  | some s0 => rw [e] at h; cases h; exact ⟨s0, rfl, rfl⟩
theorem still_own {s : Sl} {x : PyData} (h : s.still.own = some x) : False := by cases s <;> cases h
theorem exG (R : SR K Z G H σ ρ) : Ex G (stillG G H σ ρ) := fun b o e => by
  unfold stillG
  by_cases h : OwnAddr σ ρ b
  · rw [if_pos h]; exact R.gh b o e
  · rw [if_neg h]; exact e
theorem SR.still (R : SR K Z G H σ ρ) : SR K ⟨stillG G H σ ρ, H, Z.pin, fun _ => False⟩ (stillG G H σ ρ) H σ (stillE ρ) := by
  have no : ∀ {i : Nat} {s : Sl} {x : PyData}, (stillE ρ)[i]? = some s → s.own = some x → False := fun {i s x} h q => by
    obtain ⟨s0, _, rfl⟩ := stillE_at h
    exact still_own q
  refine ⟨by unfold stillE; rw [List.length_map]; exact R.len, fun b o e => ?_, Ex.refl _, fun _ _ _ => rfl, fun _ _ e _ => e, fun _ _ e => ⟨_, e⟩, fun i x e => ?_, fun i s x e q => (no e q).elim, fun i x e => (no e rfl).elim, fun i x a e => (no e rfl).elim, fun j a e => ?_, fun i j a ⟨s, x, e, q⟩ => (no e q).elim⟩
  · unfold stillG at e
    by_cases h : OwnAddr σ ρ b
    · rw [if_pos h] at e; exact e
    · rw [if_neg h] at e; exact R.gh b o e
  · obtain ⟨s0, h0, hs⟩ := stillE_at e
    have fz : ∀ {s : Sl} {y : PyData}, ρ[i]? = some s → s.own = some y → ∃ v, σ[i]? = some (some v) ∧ Dr K (stillG G H σ ρ) v y := fun {s y} h1 h2 => by
      obtain ⟨a, g1, g2, g3, g4⟩ := R.own i s y h1 h2
      refine ⟨.ref a, g1, ?_⟩
      have oa : OwnAddr σ ρ a := ⟨i, ⟨s, y, h1, h2⟩, g1⟩
      have ga : stillG G H σ ρ a = H a := by unfold stillG; rw [if_pos oa]
      cases y with
      | list ds => obtain ⟨vs, p1, z, p2⟩ := g3; exact .lst (ga.trans p1) z (p2.mono (exG R))
      | dict ps => obtain ⟨vs, p1, z, p2⟩ := g3; exact .dk (.inl (ga.trans p1)) z (p2.mono (exG R))
      | _ => exact g3.elim
    cases s0 with
    | u => cases hs
    | d y =>
      cases hs
      obtain ⟨v, h1, h2⟩ := R.str i x h0
      exact ⟨v, h1, h2.mono (exG R)⟩
    | o y => cases hs; exact fz h0 rfl
    | b y => cases hs; exact fz h0 rfl
  · obtain ⟨o, h⟩ := R.zpin j a e
    exact R.h1 a o h
theorem SR.unstill {G' H' : Hp} (R : SR K Z G H σ ρ) (R' : SR K ⟨stillG G H σ ρ, H, Z.pin, fun _ => False⟩ G' H' σ (stillE ρ)) (ex : Ex (stillG G H σ ρ) G') : SR K Z (backG G' σ ρ) H' σ ρ ∧ Ex G (backG G' σ ρ) := by
  have keepH : ∀ b o, H b = some o → H' b = some o := fun b o e => R'.h0 b o e fun z => z
  have gOwn : ∀ {b : Addr}, OwnAddr σ ρ b → G b = none := fun {b} ⟨j, ⟨s, x, e, q⟩, h⟩ => by
    obtain ⟨a, g1, g2, _⟩ := R.own j s x e q
    rw [h] at g1; cases g1
    exact g2
  have exb : Ex G (backG G' σ ρ) := fun b o e => by
    have n : ¬ OwnAddr σ ρ b := fun z => by rw [gOwn z] at e; cases e
    unfold backG
    rw [if_neg n]
    refine ex b o ?_
    unfold stillG
    rw [if_neg n]
    exact e
  refine ⟨⟨R.len, fun b o e => ?_, R.zg.trans exb, fun b o e => ?_, fun b o e n => keepH b o (R.h0 b o e n), fun b o e => ?_, fun i x e => ?_, fun i s x e q => ?_, R.bor, R.opin, R.zpin, R.inj⟩, exb⟩
  · unfold backG at e
    by_cases h : OwnAddr σ ρ b
    · rw [if_pos h] at e; cases e
    · rw [if_neg h] at e; exact R'.gh b o e
  · obtain ⟨o', h'⟩ := R.h1 b o e
    have g := R.g0 b o e
    unfold backG
    by_cases h : OwnAddr σ ρ b
    · rw [if_pos h, ← g]; exact (gOwn h).symm
    · rw [if_neg h, ← g]
      have := R'.g0 b o' h'
      rw [this]
      show stillG G H σ ρ b = G b
      unfold stillG
      rw [if_neg h]
  · obtain ⟨o', h'⟩ := R.h1 b o e
    exact ⟨o', keepH b o' h'⟩
  · obtain ⟨v, h1, h2⟩ := R.str i x e
    exact ⟨v, h1, h2.mono exb⟩
  · obtain ⟨a, h1, h2, h3, h4⟩ := R.own i s x e q
    obtain ⟨u, hu⟩ := h3.some
    refine ⟨a, h1, ?_, h3.mono exb ((keepH a u hu).trans hu.symm), h4⟩
    unfold backG
    rw [if_pos ⟨i, ⟨s, x, e, q⟩, h1⟩]
/-- data in which no list and no dict stands -/
inductive FlatT : PyData → Prop
  | non : FlatT .none
  | bl (b : Bool) : FlatT (.bool b)
  | int (i : Int) : FlatT (.int i)
  | str (x : Str) : FlatT (.str x)
  | tup {xs : List PyData} : (∀ x ∈ xs, FlatT x) → FlatT (.tuple xs)
end
section
variable {X : Cx} {K : PySem.W.Frag} {e : Expr} {a : Ev} {q : Eq}
def qFz (q : Eq) : Eq := fun ρ => match q (stillE ρ) with
  | some (b, _) => some (b, ρ)
  | none => none
theorem pu_Fz : PuQ (qFz q) := fun ρ x ρ' h => by
  unfold qFz at h
  split at h
  · cases h; rfl
  · cases h
theorem r_tfz (h : PT X e (tQ K q)) (hp : PuQ q) : PT X e (tQ K (qFz q)) := h.conv fun σ H Q ⟨Z, G, ρ, b, ρ', R, hq, k⟩ => by
  unfold qFz at hq
  split at hq
  · rename_i b' ρ1 q1
    cases hq
    have e1 := hp _ _ _ q1
    subst e1
    refine ⟨_, _, _, b, _, R.still, q1, fun G' H' ex R' => ?_⟩
    obtain ⟨R2, ex2⟩ := R.unstill R' ex
    exact k _ H' ex2 R2
  · cases hq
/-- a, b = e1, e2 -/
def sPar (i j : Nat) (as : Es) : Sv := fun ρ => match as ρ with
  | some ([x, y], ρ1) => some (.nx ((ρ1.set i (.d x)).set j (.d y)))
  | _ => none
variable {fr : Bool} {st : Stmt} {as : Es} {i j : Nat}
theorem r_par (h : PS X st (tPar i j (tAs K as))) : PS X st (tT K fr (sPar i j as)) := h.conv fun D σ H ⟨Z, G, ρ, w, zp, R, hq, k⟩ => by
  unfold sPar at hq
  split at hq
  · rename_i x y ρ1 qa
    cases hq
    refine ⟨Z, G, ρ, _, ρ1, R, qa, fun vs G1 H1 ex R1 dv => ?_⟩
    cases dv with
    | cons d1 d2 =>
      cases d2 with
      | cons d2 d3 =>
        cases d3
        exact ⟨_, _, rfl, k _ G1 H1 ex ((R1.setD d1).setD d2)⟩
  · cases hq
/-- a target of a pattern, the value data -/
def sPat (vs : List Nat) (g : Gv) (a : Ev) : Sv := fun ρ => match a ρ with
  | some (d, ρ1) => (match g d ρ1 with
    | some ρ2 => some (.nx ρ2)
    | none => none)
  | none => none
theorem r_pat {vs : List Nat} {g : Gv} (h : PS X st (tAsg (tS K a) (gD K vs g))) : PS X st (tT K fr (sPat vs g a)) := h.conv fun D σ H ⟨Z, G, ρ, w, zp, R, hq, k⟩ => by
  unfold sPat at hq
  split at hq
  · rename_i d ρ1 qa
    split at hq
    · rename_i ρ2 qg
      cases hq
      exact ⟨Z, G, ρ, d, ρ1, R, qa, fun v G1 H1 ex R1 dv => ⟨Z, G1, ρ1, d, ρ2, R1, dv, qg, fun σ' R2 _ => k σ' G1 H1 ex R2⟩⟩
    · cases hq
  · cases hq

theorem pu_Sl {f : PyData → Option Int → Option Int → Option PyData} {l h : En → Option (Option Int × En)} (ha : PuE a) (hl : ∀ ρ o ρ', l ρ = some (o, ρ') → ρ' = ρ) (hh : ∀ ρ o ρ', h ρ = some (o, ρ') → ρ' = ρ) : PuE (eSl f a l h) := fun ρ x ρ' q => by
  unfold eSl at q
  split at q
  · rename_i y ρ1 qa
    have e1 := ha _ _ _ qa
    subst e1
    split at q
    · rename_i o1 ρ2 ql
      have e2 := hl _ _ _ ql
      subst e2
      split at q
      · rename_i o2 ρ3 qh
        have e3 := hh _ _ _ qh
        subst e3
        split at q
        · cases q; rfl
        · cases q
      · cases q
    · cases q
  · cases q
theorem pu_oN : ∀ ρ o ρ', oN ρ = some (o, ρ') → ρ' = ρ := fun ρ o ρ' h => by cases h; rfl
theorem pu_oS (ha : PuE a) : ∀ ρ o ρ', oS a ρ = some (o, ρ') → ρ' = ρ := fun ρ o ρ' h => by
  unfold oS at h
  split at h
  · rename_i qa; cases h; exact ha _ _ _ qa
  · cases h
mutual
def flatB : PyData → Bool
  | .list _ => false
  | .dict _ => false
  | .tuple xs => flatBs xs
  | _ => true
def flatBs : List PyData → Bool
  | [] => true
  | x :: xs => flatB x && flatBs xs
end
section
variable {Z : Zn} {G H G' H' : Hp} {σ : L2.St} {ρ : En}
theorem notOwn_tup (R : SR K Z G H σ ρ) (keep : ∀ b o, H b = some o → H' b = some o) (gh : Ex G' H') {p : Addr} {vs : List V} (h : SqT K G' p vs) : SqT K (backG G' σ ρ) p vs := by
  rcases h with (h | ⟨o, h⟩) | h
  · refine .inl (.inl ?_)
    unfold backG
    rw [if_neg fun z => ?_]
    · exact h
    · obtain ⟨j, ⟨s, x, e, q⟩, hs⟩ := z
      obtain ⟨a, g1, _, g3, _⟩ := R.own j s x e q
      rw [hs] at g1; cases g1
      have h' := gh _ _ h
      cases x with
      | list ds => obtain ⟨ws, p1, _⟩ := g3; rw [keep _ _ p1] at h'; cases h'
      | dict ps => obtain ⟨ws, p1, _⟩ := g3; rw [keep _ _ p1] at h'; cases h'
      | _ => exact g3.elim
  · refine .inl (.inr ⟨o, ?_⟩)
    unfold backG
    rw [if_neg fun z => ?_]
    · exact h
    · obtain ⟨j, ⟨s, x, e, q⟩, hs⟩ := z
      obtain ⟨a, g1, _, g3, _⟩ := R.own j s x e q
      rw [hs] at g1; cases g1
      have h' := gh _ _ h
      cases x with
      | list ds => obtain ⟨ws, p1, _⟩ := g3; rw [keep _ _ p1] at h'; cases h'
      | dict ps => obtain ⟨ws, p1, _⟩ := g3; rw [keep _ _ p1] at h'; cases h'
      | _ => exact g3.elim
  · exact .inr h
mutual
theorem Dr.flat (R : SR K Z G H σ ρ) (keep : ∀ b o, H b = some o → H' b = some o) (gh : Ex G' H') : ∀ {v : V} {d : PyData}, Dr K G' v d → flatB d = true → Dr K (backG G' σ ρ) v d
  | _, _, .non, _ => .non
  | _, _, .bl b, _ => .bl b
  | _, _, .int i, _ => .int i
  | _, _, .str x, _ => .str x
  | _, _, .lst _ _ _, q => by simp [flatB] at q
  | _, _, .dk _ _ _, q => by simp [flatB] at q
  | _, _, .tup h z t, q => .tup (notOwn_tup R keep gh h) z (DrAll.flat R keep gh t (by simpa [flatB] using q))
theorem DrAll.flat (R : SR K Z G H σ ρ) (keep : ∀ b o, H b = some o → H' b = some o) (gh : Ex G' H') : ∀ {vs : List V} {ds : List PyData}, DrAll K G' vs ds → flatBs ds = true → DrAll K (backG G' σ ρ) vs ds
  | _, _, .nil, _ => .nil
  | _, _, .cons h t, q => by
    have q' := q
    simp only [flatBs, Bool.and_eq_true] at q'
    exact .cons (Dr.flat R keep gh h q'.1) (DrAll.flat R keep gh t q'.2)
end
end
def eFz (a : Ev) : Ev := fun ρ => match a (stillE ρ) with
  | some (d, _) => if flatB d = true then some (d, ρ) else none
  | none => none
theorem pu_eFz : PuE (eFz a) := fun ρ x ρ' h => by
  unfold eFz at h
  split at h
  · split at h
    · cases h; rfl
    · cases h
  · cases h
theorem r_sfz (h : PE X e (tS K a)) (hp : PuE a) : PE X e (tS K (eFz a)) := h.conv fun σ H Q ⟨Z, G, ρ, b, ρ', R, hq, k⟩ => by
  unfold eFz at hq
  split at hq
  · rename_i b' ρ1 q1
    split at hq
    · rename_i hf
      cases hq
      have e1 := hp _ _ _ q1
      subst e1
      refine ⟨_, _, _, b, _, R.still, q1, fun v G' H' ex R' dv => ?_⟩
      obtain ⟨R2, ex2⟩ := R.unstill R' ex
      exact k v _ H' ex2 R2 (dv.flat R (fun b o e => R'.h0 b o e fun z => z) R'.gh hf)
    · cases hq
  · cases hq
theorem t_fz {φ : Ev} {σ : L2.St} {H : Hp} {Q : VK} (h : tS K φ σ H Q) : tF K φ σ H Q := by
  obtain ⟨Z, G, ρ, d, ρ', R, q, k⟩ := h
  exact ⟨Z, G, ρ, d, ρ', R, q, fun a G' H' ex R' ha hz hn o => by
    obtain ⟨u, hu⟩ := o.some
    exact k (.ref a) (upd G' a u) H' (ex.trans (Ex.new ha)) (R'.frz ha hz hn hu) (o.frz ha hu)⟩
/-- y = [..] on one line -/
theorem r_setLc {y : Str} {py spos pos : Pos} {elt tg iter : Expr} {ifs : List Expr} {scope : Scope} {own : List (Str × Nat)} {it : Es} {g : Gv} {q : Eq} (hc : X.calm = true) (hN : X.N.Nodup) (hy : X.N[i]? = some y) (hyl : X.env.scope.names.lookup y = some .local)
    (hsw : swapsWith (.ListComp elt [⟨tg, iter, ifs, 0⟩] scope pos) (some (.Name y py)) spos.line X.env = pure true) (hi : PI X tg iter (tI K it)) (ok : BlkOk X.N X.env.scope scope own)
    (hg : ∀ (s : Shared) (H : Hp) (C : Addr) (cl : List (Str × Addr)) (fp : List Addr), PG (X.blk s H scope (compEnvC scope cl C X.env) fp) tg (gD K (own.map (·.2)) g))
    (ht : ∀ (s : Shared) (H : Hp) (C : Addr) (cl : List (Str × Addr)) (fp : List Addr), PTs (X.blk s H scope (compEnvC scope cl C X.env) fp) ifs (tQ K q))
    (he : ∀ (s : Shared) (H : Hp) (C : Addr) (cl : List (Str × Addr)) (fp : List Addr), PE (X.blk s H scope (compEnvC scope cl C X.env) fp) elt (tS K a)) (hs : ∀ x, foldedSetIterable iter X.env x = pure x := by intro _; rfl) :
    PS X (.Assign [.Name y py] (.ListComp elt [⟨tg, iter, ifs, 0⟩] scope pos) spos) (tT K fr (sAsg i (eLc (own.map (·.2)) it g q a))) :=
  r_asg (asg_conv (ps_setLc hc hN hy hyl hsw hi ok hg ht he hs) fun _ _ _ h => t_lc (t_fz h))
theorem r_setLcO {y : Str} {py spos pos : Pos} {elt tg iter : Expr} {ifs : List Expr} {scope : Scope} {own : List (Str × Nat)} {it : Es} {g : Gv} {q : Eq} (hc : X.calm = true) (hN : X.N.Nodup) (hy : X.N[i]? = some y) (hyl : X.env.scope.names.lookup y = some .local)
    (hsw : swapsWith (.ListComp elt [⟨tg, iter, ifs, 0⟩] scope pos) (some (.Name y py)) spos.line X.env = pure true) (hi : PI X tg iter (tI K it)) (ok : BlkOk X.N X.env.scope scope own)
    (hg : ∀ (s : Shared) (H : Hp) (C : Addr) (cl : List (Str × Addr)) (fp : List Addr), PG (X.blk s H scope (compEnvC scope cl C X.env) fp) tg (gD K (own.map (·.2)) g))
    (ht : ∀ (s : Shared) (H : Hp) (C : Addr) (cl : List (Str × Addr)) (fp : List Addr), PTs (X.blk s H scope (compEnvC scope cl C X.env) fp) ifs (tQ K q))
    (he : ∀ (s : Shared) (H : Hp) (C : Addr) (cl : List (Str × Addr)) (fp : List Addr), PE (X.blk s H scope (compEnvC scope cl C X.env) fp) elt (tS K a)) (hs : ∀ x, foldedSetIterable iter X.env x = pure x := by intro _; rfl) :
    PS X (.Assign [.Name y py] (.ListComp elt [⟨tg, iter, ifs, 0⟩] scope pos) spos) (tT K fr (sAsgO i (eLc (own.map (·.2)) it g q a))) :=
  r_asgO (asg_conv (ps_setLc hc hN hy hyl hsw hi ok hg ht he hs) fun _ _ _ h => t_lc h)
end
theorem room65 {A : Around} {k : Nat} (r : Room k A) : A.units + 65 < cLine := by have := r.un; omega
theorem room66 {A : Around} {k : Nat} (r : Room k A) : A.units + 66 < cLine := by have := r.un; omega
section
variable {P : Program} {w : World} {K : PySem.W.Frag} {mg : Str → Option Value} {base : Heap} {k : Nat} {f : Addr} {fd : FuncData} {ps : List Str}
theorem FnG.badP : FnG P w K mg base k f fd ps (SpP K fun _ => none) := ⟨fun vs H Q E ⟨_, _, _, _, _, h, _⟩ => (by cases h), fun A o s H args us vs Q E _ _ _ _ _ ⟨_, _, _, _, _, h, _⟩ => (by cases h)⟩
theorem FnG.badF : FnG P w K mg base k f fd ps (SpF K fun _ => none) := ⟨fun vs H Q E ⟨_, _, _, _, _, h, _⟩ => (by cases h), fun A o s H args us vs Q E _ _ _ _ _ ⟨_, _, _, _, _, h, _⟩ => (by cases h)⟩
theorem FnG.badI : FnG P w K mg base k f fd ps (SpI K fun _ _ => none) := ⟨fun vs H Q E ⟨_, _, _, _, _, _, _, _, _, _, _, _, h, _⟩ => (by cases h), fun A o s H args us vs Q E _ _ _ _ _ ⟨_, _, _, _, _, _, _, _, _, _, _, _, h, _⟩ => (by cases h)⟩
end
end DL

/-! PL1: plain facts about the combinators. -/
namespace DL
open PySem L2

theorem eV_at {ρ : En} {i : Nat} {x : PyData} (h : ρ[i]? = some (.d x)) : eV i ρ = some (x, ρ) := by unfold eV; rw [h]
theorem atI_int {xs : List PyData} {i : Nat} {x : PyData} (h : xs[i]? = some x) : atI xs (i : Int) = some x := L2.atI_nat h
theorem atI_0 {x : PyData} {xs : List PyData} : atI (x :: xs) 0 = some x := atI_int (i := 0) rfl
theorem atI_1 {x y : PyData} {xs : List PyData} : atI (x :: y :: xs) 1 = some y := atI_int (i := 1) rfl
theorem atI_2 {x y z : PyData} {xs : List PyData} : atI (x :: y :: z :: xs) 2 = some z := atI_int (i := 2) rfl
theorem atI_3 {x y z w : PyData} {xs : List PyData} : atI (x :: y :: z :: w :: xs) 3 = some w := atI_int (i := 3) rfl
theorem ixN_lt {n j : Nat} (h : j < n) : ixN n (j : Int) = some j := by
  unfold ixN
  rw [if_pos (by omega), if_pos (by omega)]
  rfl
theorem ixN_40 : ixN 4 0 = some 0 := rfl
theorem ixN_41 : ixN 4 1 = some 1 := rfl
theorem ixN_42 : ixN 4 2 = some 2 := rfl
/-! equality of small data -/
theorem shaped_int (i : Int) : SeqAt.shaped (.int i) = true := by simp [SeqAt.shaped, PyData.canLay0, PyData.depth]
theorem shaped_bool (i : Bool) : SeqAt.shaped (.bool i) = true := by simp [SeqAt.shaped, PyData.canLay0, PyData.depth]
theorem shaped_none : SeqAt.shaped .none = true := by simp [SeqAt.shaped, PyData.canLay0, PyData.depth]
theorem eqv_int (i j : Int) : PyData.eqv (.int i) (.int j) = decide (i = j) := by simp [PyData.eqv, Bool.beq_eq_decide_eq]
theorem eqD_int (i j : Int) : eqD (.int i) (.int j) = some (.bool (decide (i = j))) := by
  show (if SeqAt.shaped (.int i) = true ∧ SeqAt.shaped (.int j) = true then some (PyData.bool (PyData.eqv (.int i) (.int j))) else none) = _
  rw [if_pos ⟨shaped_int i, shaped_int j⟩, eqv_int]
theorem neD_int (i j : Int) : neD (.int i) (.int j) = some (.bool (!decide (i = j))) := by
  show (if SeqAt.shaped (.int i) = true ∧ SeqAt.shaped (.int j) = true then some (PyData.bool (!PyData.eqv (.int i) (.int j))) else none) = _
  rw [if_pos ⟨shaped_int i, shaped_int j⟩, eqv_int]
theorem modD_int {i j : Int} (h : 0 < j) : modD (.int i) (.int j) = some (.int (i % j)) := by
  show ((if j = 0 then none else some (i.fmod j)).map PyData.int) = _
  rw [if_neg (by omega), Int.fmod_eq_emod_of_nonneg _ (by omega)]
  rfl
theorem fdivD_int {i j : Int} (h : 0 < j) (h2 : j < 1073741824) : fdivD (.int i) (.int j) = some (.int (i / j)) := by
  show ((if j ≠ 0 ∧ j.natAbs < 1073741824 then some (i.fdiv j) else none).map PyData.int) = _
  rw [if_pos ⟨by omega, by omega⟩, Int.fdiv_eq_ediv_of_nonneg _ (by omega)]
  rfl
theorem mulI_int {i j : Int} (h : (-(2 ^ 64) < i ∧ i < 2 ^ 64) ∨ (-(2 ^ 64) < j ∧ j < 2 ^ 64)) : mulI (.int i) (.int j) = some (.int (i * j)) := by
  show ((if (-(2 ^ 64) < i ∧ i < 2 ^ 64) ∨ (-(2 ^ 64) < j ∧ j < 2 ^ 64) then some (i * j) else none).map PyData.int) = _
  rw [if_pos h]
  rfl

/-! ### the bag -/
structure Bag where
  big : Int
  seed : Int
  pos : Int
  cells : List Int
def bagV (b : Bag) : PyData := .list [.int b.big, .int b.seed, .int b.pos, .list (b.cells.map .int)]
structure BagOk (b : Bag) : Prop where
  big : 0 ≤ b.big
  seed : 0 ≤ b.seed ∧ b.seed < 2147483647
  pos : 0 ≤ b.pos
  cells : ∀ c ∈ b.cells, 0 ≤ c
  len : b.cells.length ≤ 63
theorem bag0 (ns : List Int) (h : ns.length ≤ 63) : ∃ b, bagD ns = bagV b ∧ BagOk b := by
  refine ⟨⟨0, 1234567891, 0, ns.map fun n => if n < 0 then -n else n⟩, rfl, Int.le_refl 0, ⟨(by show (0 : Int) ≤ 1234567891; decide), (by show (1234567891 : Int) < 2147483647; decide)⟩, Int.le_refl 0, fun c hc => ?_, by rw [List.length_map]; exact h⟩
  obtain ⟨n, _, rfl⟩ := List.mem_map.mp hc
  split <;> omega
end DL
namespace DL
open PySem L2
theorem sl0 : (0 ≤ sizeLine) = True := by simp
theorem sl1 : (1 ≤ sizeLine) = True := by simp [sizeLine_eq]
theorem sl2 : (2 ≤ sizeLine) = True := by simp [sizeLine_eq]
theorem sl3 : (3 ≤ sizeLine) = True := by simp [sizeLine_eq]
theorem sl4 : (4 ≤ sizeLine) = True := by simp [sizeLine_eq]
theorem pow18 : powD (.int 10) (.int 18) = some (.int 1000000000000000000) := by
  show ((if 0 ≤ (18 : Int) ∧ (18 : Int) ≤ 1000000 ∧ (10 : Int).natAbs < 2 ^ 64 then some ((10 : Int) ^ (18 : Int).toNat) else none).map PyData.int) = _
  rw [if_pos (by decide)]
  rfl
theorem cell_of (cs : List Int) (p : Int) : ∃ c : Int, ((∀ x ∈ cs, 0 ≤ x) → 0 ≤ c) ∧ (cs.length ≤ 63 → ∃ r, cutD (cs.map .int) (some p) none = r ∧ (r.length + 1 ≤ sizeLine) ∧ atI (r ++ [.int 0]) 0 = some (.int c)) := by
  have hc : ∃ ds : List Int, cutD (cs.map PyData.int) (some p) none = ds.map .int ∧ (∀ x ∈ ds, x ∈ cs) ∧ ds.length ≤ cs.length := by
    unfold cutD
    rw [← List.map_drop, ← List.map_take]
    refine ⟨_, rfl, fun x hx => List.mem_of_mem_drop (List.mem_of_mem_take hx), ?_⟩
    rw [List.length_take, List.length_drop]
    omega
  obtain ⟨ds, e, hm, hl⟩ := hc
  cases ds with
  | nil => exact ⟨0, fun _ => Int.le_refl 0, fun h => ⟨_, e, by rw [sizeLine_eq]; simp, rfl⟩⟩
  | cons d ds =>
    refine ⟨d, fun h => h d (hm d (List.mem_cons_self ..)), fun h => ⟨_, e, ?_, atI_0⟩⟩
    rw [sizeLine_eq, List.length_map]
    omega
end DL
namespace DL
open PySem L2
theorem mulR {i j : Int} (h : -18446744073709551616 < j) (h2 : j < 18446744073709551616) : mulI (.int i) (.int j) = some (.int (i * j)) := mulI_int (.inr ⟨by omega, by omega⟩)
theorem mulL {i j : Int} (h : -18446744073709551616 < i) (h2 : i < 18446744073709551616) : mulI (.int i) (.int j) = some (.int (i * j)) := mulI_int (.inl ⟨by omega, by omega⟩)
end DL
theorem DL.sl5 : (5 ≤ PySem.sizeLine) = True := by simp [PySem.sizeLine_eq]
theorem DL.sl6 : (6 ≤ PySem.sizeLine) = True := by simp [PySem.sizeLine_eq]
theorem DL.sl7 : (7 ≤ PySem.sizeLine) = True := by simp [PySem.sizeLine_eq]
theorem DL.sl8 : (8 ≤ PySem.sizeLine) = True := by simp [PySem.sizeLine_eq]

/-! PL2: loops with an invariant; data of small texts. -/
namespace DL
open PySem L2
theorem forD_inv {g : Gv} {ψ : Sv} (I : List PyData → En → Prop) (ds : List PyData)
    (step : ∀ (done : List PyData) (x : PyData) (rest : List PyData) (ρ : En), ds = done ++ x :: rest → I done ρ → ∃ ρ1 ρ2, g x ρ = some ρ1 ∧ ψ ρ1 = some (.nx ρ2) ∧ I (done ++ [x]) ρ2) :
    ∀ (rest done : List PyData) (ρ : En), ds = done ++ rest → I done ρ → ∃ ρ', forD g ψ rest ρ = some (.nx ρ') ∧ I ds ρ'
  | [], done, ρ, e, h => ⟨ρ, rfl, by rw [e, List.append_nil]; exact h⟩
  | x :: rest, done, ρ, e, h => by
    obtain ⟨ρ1, ρ2, h1, h2, h3⟩ := step done x rest ρ e h
    obtain ⟨ρ', h4, h5⟩ := forD_inv I ds step rest (done ++ [x]) ρ2 (by rw [e, List.append_assoc]; rfl) h3
    refine ⟨ρ', ?_, h5⟩
    unfold forD
    rw [h1]
    simp only [h2]
    exact h4
theorem sFor_inv {it : Es} {g : Gv} {ψ : Sv} {ρ ρ0 : En} {ds : List PyData} (hi : it ρ = some (ds, ρ0)) (I : List PyData → En → Prop)
    (h0 : I [] ρ0)
    (step : ∀ (done : List PyData) (x : PyData) (rest : List PyData) (ρ : En), ds = done ++ x :: rest → I done ρ → ∃ ρ1 ρ2, g x ρ = some ρ1 ∧ ψ ρ1 = some (.nx ρ2) ∧ I (done ++ [x]) ρ2) :
    ∃ ρ', sFor it g ψ ρ = some (.nx ρ') ∧ I ds ρ' := by
  unfold sFor
  rw [hi]
  exact forD_inv I ds step ds [] ρ0 rfl h0
/-- a loop that goes on -/
theorem sQ_nx {ψ φ : Sv} {ρ ρ1 : En} (h : ψ ρ = some (.nx ρ1)) : sQ ψ φ ρ = φ ρ1 := by unfold sQ; rw [h]
theorem sQ_ret {ψ φ : Sv} {ρ ρ1 : En} {d : PyData} (h : ψ ρ = some (.ret d ρ1)) : sQ ψ φ ρ = some (.ret d ρ1) := by unfold sQ; rw [h]
theorem lcD_pure {vs : List Nat} {g : Gv} {q : Eq} {a : Ev} {ρ0 : En} (p : PyData → Bool) (f : PyData → PyData) :
    ∀ (ds : List PyData), (∀ x ∈ ds, ∃ ρ1 ρ2, g x ρ0 = some ρ1 ∧ q ρ1 = some (p x, ρ2) ∧ (p x = true → ∃ ρ3, a ρ2 = some (f x, ρ3) ∧ wipeE ρ3 vs = ρ0) ∧ (p x = false → wipeE ρ2 vs = ρ0)) →
    lcD vs g q a ds ρ0 = some ((ds.filter p).map f, ρ0)
  | [], _ => rfl
  | x :: xs, h => by
    obtain ⟨ρ1, ρ2, h1, h2, h3, h4⟩ := h x (List.mem_cons_self ..)
    have ih := lcD_pure p f xs fun y hy => h y (List.mem_cons_of_mem _ hy)
    unfold lcD
    rw [h1]
    simp only [h2]
    cases hp : p x with
    | true =>
      obtain ⟨ρ3, h5, h6⟩ := h3 hp
      simp only [h5, h6, ih, List.filter_cons, hp, if_true, List.map_cons]
    | false =>
      have h6 := h4 hp
      simp only [h6, ih, List.filter_cons, hp]
      rfl
/-! ### data of bounded size -/
structure Nc (D W : Nat) (d : PyData) : Prop where
  lay : d.canLay0 = true
  dep : d.depth ≤ D
  blk : d.bulk ≤ W
  ish : d.intsShort 13 = true
  shw : d.showable = true
structure NcL (D W : Nat) (ds : List PyData) : Prop where
  lay : PyData.canLayAll0 ds = true
  dep : PyData.depthAll ds ≤ D
  blk : PyData.bulkAll ds ≤ W
  ish : PyData.intsShortAll 13 ds = true
  shw : PyData.showableAll ds = true
theorem Nc.le {D W D' W' : Nat} {d : PyData} (h : Nc D W d) (h1 : D ≤ D') (h2 : W ≤ W') : Nc D' W' d := ⟨h.lay, Nat.le_trans h.dep h1, Nat.le_trans h.blk h2, h.ish, h.shw⟩
theorem NcL.le {D W D' W' : Nat} {d : List PyData} (h : NcL D W d) (h1 : D ≤ D') (h2 : W ≤ W') : NcL D' W' d := ⟨h.lay, Nat.le_trans h.dep h1, Nat.le_trans h.blk h2, h.ish, h.shw⟩
theorem Nc.int {i : Int} (h : i.natAbs < 1000000000000) : Nc 0 0 (.int i) := by
  refine ⟨by simp [PyData.canLay0], by simp [PyData.depth], by simp [PyData.bulk], ?_, ?_⟩
  · simp only [PyData.intsShort, decide_eq_true_eq]
    exact PyData.shown_int_le (by simpa using h)
  · simp only [PyData.showable, decide_eq_true_eq]
    by_cases h0 : i.natAbs = 0
    · rw [h0]; decide
    · exact Nat.log2_lt h0 |>.mpr (Nat.lt_of_lt_of_le h (by decide))
theorem Nc.non : Nc 0 0 .none := ⟨by simp [PyData.canLay0], by simp [PyData.depth], by simp [PyData.bulk], by simp [PyData.intsShort], by simp [PyData.showable]⟩
theorem Nc.bool (b : Bool) : Nc 0 0 (.bool b) := ⟨by simp [PyData.canLay0], by simp [PyData.depth], by simp [PyData.bulk], by simp [PyData.intsShort], by simp [PyData.showable]⟩
theorem Nc.str {x : Str} {n : Nat} (h : PyData.strOk x = true) (h2 : x.cps.size ≤ n) : Nc 0 n (.str x) := ⟨by simpa [PyData.canLay0] using h, by simp [PyData.depth], by simpa [PyData.bulk] using h2, by simp [PyData.intsShort], by simp [PyData.showable]⟩
theorem NcL.nil : NcL 0 0 [] := ⟨rfl, Nat.le_refl 0, Nat.le_refl 0, rfl, rfl⟩
theorem NcL.cons {D D' W W' : Nat} {d : PyData} {ds : List PyData} (h : Nc D W d) (t : NcL D' W' ds) : NcL (max D D') (W + 1 + W') (d :: ds) := by
  refine ⟨?_, ?_, ?_, ?_, ?_⟩
  · simp only [PyData.canLayAll0, h.lay, t.lay, Bool.and_self]
  · simp only [PyData.depthAll]; have := h.dep; have := t.dep; omega
  · simp only [PyData.bulkAll]; have := h.blk; have := t.blk; omega
  · simp only [PyData.intsShortAll, h.ish, t.ish, Bool.and_self]
  · simp only [PyData.showableAll, h.shw, t.shw, Bool.and_self]
theorem NcL.append {D D' W' : Nat} {es : List PyData} (t : NcL D' W' es) : ∀ {ds : List PyData} {W : Nat}, NcL D W ds → NcL (max D D') (W + W') (ds ++ es)
  | [], W, _ => t.le (by omega) (by omega)
  | d :: ds, W, h => by
    have h1 : d.canLay0 = true ∧ PyData.canLayAll0 ds = true := by have := h.lay; simpa only [PyData.canLayAll0, Bool.and_eq_true] using this
    have h2 : d.intsShort 13 = true ∧ PyData.intsShortAll 13 ds = true := by have := h.ish; simpa only [PyData.intsShortAll, Bool.and_eq_true] using this
    have h3 : d.showable = true ∧ PyData.showableAll ds = true := by have := h.shw; simpa only [PyData.showableAll, Bool.and_eq_true] using this
    have h4 : max d.depth (PyData.depthAll ds) ≤ D := by have := h.dep; simpa only [PyData.depthAll] using this
    have h5 : d.bulk + 1 + PyData.bulkAll ds ≤ W := by have := h.blk; simpa only [PyData.bulkAll] using this
    have a : Nc D d.bulk d := ⟨h1.1, by omega, Nat.le_refl _, h2.1, h3.1⟩
    have b : NcL D (PyData.bulkAll ds) ds := ⟨h1.2, by omega, Nat.le_refl _, h2.2, h3.2⟩
    have c := NcL.cons a (NcL.append t b)
    exact c.le (by omega) (by omega)
theorem NcL.tup {D W : Nat} {ds : List PyData} (t : NcL D W ds) : Nc (D + 1) W (.tuple ds) :=
  ⟨by simpa [PyData.canLay0] using t.lay, by simpa [PyData.depth] using t.dep, by simpa [PyData.bulk] using t.blk, by simpa [PyData.intsShort] using t.ish, by simpa [PyData.showable] using t.shw⟩
theorem NcL.lst {D W : Nat} {ds : List PyData} (t : NcL D W ds) : Nc (D + 1) W (.list ds) :=
  ⟨by simpa [PyData.canLay0] using t.lay, by simpa [PyData.depth] using t.dep, by simpa [PyData.bulk] using t.blk, by simpa [PyData.intsShort] using t.ish, by simpa [PyData.showable] using t.shw⟩
theorem NcL.of {D W : Nat} : ∀ {ds : List PyData}, (∀ d ∈ ds, Nc D W d) → NcL D ((W + 1) * ds.length) ds
  | [], _ => NcL.nil.le (Nat.zero_le _) (Nat.zero_le _)
  | d :: ds, h => (NcL.cons (h d (List.mem_cons_self ..)) (NcL.of fun e he => h e (List.mem_cons_of_mem _ he))).le (by omega) (by rw [List.length_cons, Nat.mul_succ]; omega)
theorem NcL.ints' {xs : List Int} (h : ∀ i ∈ xs, i.natAbs < 1000000000000) : NcL 0 xs.length (xs.map .int) := by
  have := NcL.of (ds := xs.map PyData.int) (D := 0) (W := 0) fun d hd => by
    obtain ⟨i, hi, rfl⟩ := List.mem_map.mp hd
    exact Nc.int (h i hi)
  rw [List.length_map, Nat.zero_add, Nat.one_mul] at this
  exact this
theorem Nc.shaped {D W : Nat} {d : PyData} (h : Nc D W d) (h1 : D ≤ 64) : SeqAt.shaped d = true := by
  unfold SeqAt.shaped
  rw [h.lay, Bool.true_and, decide_eq_true_eq]
  exact Nat.le_trans h.dep h1
theorem Nc.repr {D W : Nat} {d : PyData} (h : Nc D W d) (h1 : D ≤ 64) (h2 : W ≤ 1000000) : reprOk d := by
  refine ⟨h.lay, Nat.le_trans h.dep h1, h.shw, ?_⟩
  have e := PyData.shown_le_bulk 13 (by decide) d (PyData.leavesShort_of_canLay0 13 d h.lay h.ish)
  have := h.blk
  rw [sizeLine_eq]
  omega
theorem reprD_of {d : PyData} (h : reprOk d) : reprD d = some (.str d.shown) := by unfold reprD; rw [if_pos h]
theorem eqD_refl {D W : Nat} {d : PyData} (h : Nc D W d) (h1 : D ≤ 64) : eqD d d = some (.bool true) := by
  have := h.shaped h1
  unfold eqD
  split
  · simp
  · rw [if_pos ⟨this, this⟩, SeqAt.eqv_refl d h.lay]
theorem eqD_str {x y : Str} : eqD (.str x) (.str y) = some (.bool (x == y)) := rfl
theorem neD_str {x y : Str} : neD (.str x) (.str y) = some (.bool (!(x == y))) := rfl
end DL

/-! the mirrors of the law k31 -/
noncomputable section
namespace Lk31
open PySem L2 DL
/-- turns of a while -/
def fuelW : Nat := 1000000
def b_height_of (self : List PyData → Option PyData) : Sv := (sQ (sIf (qB (e2 eqD (e2 ixD (eV 0) (eC (.int 0))) (eC (.str "end")))) (sRet (eC (.int 0))) sN) (sRet (e2 addD (eC (.int 1)) (eN max2D (aC (eN (self) (aC (e2 ixD (eV 0) (eC (.int 2))) aN)) (aC (eN (self) (aC (e2 ixD (eV 0) (eC (.int 3))) aN)) aN))))))
def m_height_of : Nat → List PyData → Option PyData
  | 0 => fun _ => none
  | k + 1 => runP 1 1 (b_height_of (m_height_of k))
def b_leaves_behind (self : List PyData → Option PyData) : Sv := (sQ (sIf (qB (e2 eqD (e2 ixD (eV 0) (eC (.int 0))) (eC (.str "end")))) (sRet (eN mkL (aC (eN mkT (aC (e2 ixD (eV 0) (eC (.int 1))) (aC (eV 1) aN))) aN))) sN) (sQ (sAsg 2 (e2 ixD (eV 0) (eC (.int 1)))) (sRet (e2 catF (eN (self) (aC (e2 ixD (eV 0) (eC (.int 2))) (aC (eN mkT (aX (eV 1) (aC (eN mkT (aC (eV 2) (aC (eC (.int 0)) aN))) aN))) aN))) (eN (self) (aC (e2 ixD (eV 0) (eC (.int 3))) (aC (eN mkT (aX (eV 1) (aC (eN mkT (aC (eV 2) (aC (eC (.int 1)) aN))) aN))) aN)))))))
def m_leaves_behind : Nat → List PyData → Option PyData
  | 0 => fun _ => none
  | k + 1 => runF 3 2 (b_leaves_behind (m_leaves_behind k))
def b_leaves_of : Sv := (sRet (eN (m_leaves_behind 40) (aC (eV 0) (aC (eN mkT aN) aN))))
def m_leaves_of : List PyData → Option PyData := runF 1 1 b_leaves_of
def b_law_take : Sv := (sQ (sIf (qFz (qB (e2 eqD (e2 ixD (eV 0) (eC (.int 0))) (eC (.int 0))))) (sQ (sAsg 2 (eFz (e2 ixD (e2 addD (eSl slD (e2 ixD (eV 0) (eC (.int 3))) (oS (e2 ixD (eV 0) (eC (.int 2)))) oN) (eN mkL (aC (eC (.int 0)) aN))) (eC (.int 0))))) (sQ (sAugI 0 (eC (.int 2)) (eC (.int 1))) (sQ (sIf (qB (e2 geI (eV 2) (e2 powD (eC (.int 10)) (eC (.int 18))))) (sSet 0 (eC (.int 0)) (eV 2)) sN) (sQ (sAsg 3 (eFz (e2 addD (e2 addD (e2 mulI (e2 ixD (eV 0) (eC (.int 1))) (eC (.int 48271))) (e2 modD (eN (p1 intD) (aC (eV 2) aN)) (eC (.int 2147483647)))) (e2 mulI (eC (.int 7919)) (e2 ixD (eV 0) (eC (.int 2))))))) (sSet 0 (eC (.int 1)) (e2 modD (eN (p1 intD) (aC (eV 3) aN)) (eC (.int 2147483647)))))))) sN) (sQ (sIf (qFz (qB (e2 gtI (e2 ixD (eV 0) (eC (.int 0))) (eC (.int 0))))) (sQ (sAsg 4 (eFz (e2 modD (eN (p1 intD) (aC (e2 ixD (eV 0) (eC (.int 0))) aN)) (eV 1)))) (sQ (sSet 0 (eC (.int 0)) (eFz (e2 fdivD (eN (p1 intD) (aC (e2 ixD (eV 0) (eC (.int 0))) aN)) (eV 1)))) (sRet (eV 4)))) sN) (sQ (sAsg 5 (eFz (e2 modD (eN (p1 intD) (aC (e2 mulI (e2 addD (e2 ixD (eV 0) (eC (.int 1))) (eC (.int 1))) (eC (.int 39373))) aN)) (eC (.int 1000000007))))) (sQ (sAsg 6 (e2 modD (eN (p1 intD) (aC (e2 mulI (e2 modD (eN (p1 intD) (aC (e2 mulI (eV 5) (eV 5)) aN)) (eC (.int 998244353))) (eC (.int 30011))) aN)) (eC (.int 998244353)))) (sRet (e2 modD (eN (p1 intD) (aC (e2 fdivD (eV 6) (eC (.int 7))) aN)) (eV 1)))))))
def m_law_take : PyData → List PyData → Option (PyData × PyData) := runI 7 2 b_law_take
def b_law_some : Sv := (sRet (e2 ixD (eV 1) (eI m_law_take 0 (aC (eN (p1 lenS) (aC (eV 1) aN)) aN))))
def m_law_some : PyData → List PyData → Option (PyData × PyData) := runI 2 2 b_law_some
def b_law_mixed : Sv := (sQ (sAsgO 2 (eN mkL aN)) (sQ (sFor (iSeq (eV 1)) (gN 3) (sMut 2 insD (aC (eI m_law_take 0 (aC (eFz (e2 addD (eN (p1 lenS) (aC (eV 2) aN)) (eC (.int 1)))) aN)) (aC (eV 3) aN)))) (sRetO 2)))
def m_law_mixed : PyData → List PyData → Option (PyData × PyData) := runI 4 2 b_law_mixed
def b_law_alike : Sv := (sRet (eAnd (e2 eqD (eV 0) (eV 1)) (e2 eqD (eN (p1 reprD) (aC (eV 0) aN)) (eN (p1 reprD) (aC (eV 1) aN)))))
def m_law_alike : List PyData → Option PyData := runP 2 2 b_law_alike
def b_law_row : Sv := (sRet (eN (p1 tupD) (aC (eLc [1] (iN rng1 (aC (e1 bitsD (eV 0)) aN)) (gN 1) (qB (e2 eqD (e2 andD (e2 shrD (eV 0) (eV 1)) (eC (.int 1))) (eC (.int 1)))) (eV 1)) aN)))
def m_law_row : List PyData → Option PyData := runP 2 1 b_law_row
def b_law_any_row : Sv := (sQ (sAsg 2 (eC (.int 0))) (sQ (sFor (iN rng1 (aC (eI m_law_some 0 (aC (eN mkL (aC (eC (.int 1)) (aC (eC (.int 2)) (aC (eC (.int 2)) (aC (eC (.int 3)) (aC (eV 1) aN)))))) aN)) aN)) (gN 3) (sAsg 2 (e2 xorD (eV 2) (e2 shlD (eC (.int 1)) (eI m_law_take 0 (aC (eV 1) aN)))))) (sRet (eIf (qB (e2 gtI (eV 2) (eC (.int 0)))) (eN m_law_row (aC (eV 2) aN)) (eN mkT (aC (eI m_law_take 0 (aC (eV 1) aN)) aN))))))
def m_law_any_row : PyData → List PyData → Option (PyData × PyData) := runI 4 2 b_law_any_row
def b_law_any_tree (self : PyData → List PyData → Option (PyData × PyData)) : Sv := (sQ (sIf (qOr (qB (e2 eqD (eV 3) (eC (.int 0)))) (qOr (qB (e2 eqD (eI m_law_take 0 (aC (eC (.int 4)) aN)) (eC (.int 0)))) (qB (e2 eqD (eV 1) (eC (.int 0)))))) (sRet (eN mkT (aC (eC (.str "end")) (aC (eI m_law_take 0 (aC (eV 2) aN)) aN)))) sN) (sQ (sPar 4 5 (aC (eI m_law_any_row 0 (aC (eV 1) aN)) (aC (eI (self) 0 (aC (eV 1) (aC (eV 2) (aC (e2 subD (eV 3) (eC (.int 1))) aN)))) aN))) (sRet (eN mkT (aC (eC (.str "ask")) (aC (eV 4) (aC (eV 5) (aC (eI (self) 0 (aC (eV 1) (aC (eV 2) (aC (e2 subD (eV 3) (eC (.int 1))) aN)))) aN))))))))
def m_law_any_tree : Nat → PyData → List PyData → Option (PyData × PyData)
  | 0 => fun _ _ => none
  | k + 1 => runI 6 4 (b_law_any_tree (m_law_any_tree k))
def b_law_tree_leaves (self : List PyData → Option PyData) : Sv := (sQ (sIf (qB (e2 eqD (e2 ixD (eV 0) (eC (.int 0))) (eC (.str "end")))) (sRet (eN mkL (aC (eN mkT (aC (e2 ixD (eV 0) (eC (.int 1))) (aC (eV 1) aN))) aN))) sN) (sRet (e2 addD (eN (self) (aC (e2 ixD (eV 0) (eC (.int 2))) (aC (e2 addD (eV 1) (eN mkT (aC (eN mkT (aC (e2 ixD (eV 0) (eC (.int 1))) (aC (eC (.int 0)) aN))) aN))) aN))) (eN (self) (aC (e2 ixD (eV 0) (eC (.int 3))) (aC (e2 addD (eV 1) (eN mkT (aC (eN mkT (aC (e2 ixD (eV 0) (eC (.int 1))) (aC (eC (.int 1)) aN))) aN))) aN))))))
def m_law_tree_leaves : Nat → List PyData → Option PyData
  | 0 => fun _ => none
  | k + 1 => runP 2 2 (b_law_tree_leaves (m_law_tree_leaves k))
def b_law_tree_height (self : List PyData → Option PyData) : Sv := (sRet (eIf (qB (e2 eqD (e2 ixD (eV 0) (eC (.int 0))) (eC (.str "end")))) (eC (.int 0)) (e2 addD (eC (.int 1)) (eN max2D (aC (eN (self) (aC (e2 ixD (eV 0) (eC (.int 2))) aN)) (aC (eN (self) (aC (e2 ixD (eV 0) (eC (.int 3))) aN)) aN))))))
def m_law_tree_height : Nat → List PyData → Option PyData
  | 0 => fun _ => none
  | k + 1 => runP 1 1 (b_law_tree_height (m_law_tree_height k))
def b_law_lopsided : Sv := (sQ (sAsg 4 (eN mkT (aC (eC (.str "end")) (aC (eI m_law_take 0 (aC (eV 2) aN)) aN)))) (sQ (sFor (iN rng1 (aC (eV 3) aN)) (gN 5) (sQ (sAsg 6 (eN mkL (aC (eV 4) (aC (eI (m_law_any_tree 40) 0 (aC (eV 1) (aC (eV 2) (aC (eC (.int 1)) aN)))) aN)))) (sAsg 4 (e2 addD (eN mkT (aC (eC (.str "ask")) (aC (eI m_law_any_row 0 (aC (eV 1) aN)) aN))) (eN (p1 tupD) (aC (eI m_law_mixed 0 (aC (eV 6) aN)) aN)))))) (sRet (eV 4))))
def m_law_lopsided : PyData → List PyData → Option (PyData × PyData) := runI 7 4 b_law_lopsided
def b_law : Sv := (sQ (sFor (iN rng1 (aC (eC (.int 6)) aN)) (gN 2) (sQ (sPar 3 4 (aC (e2 addD (eC (.int 1)) (eI m_law_take 1 (aC (eC (.int 6)) aN))) (aC (e2 addD (eC (.int 1)) (eI m_law_take 1 (aC (eC (.int 9)) aN))) aN))) (sQ (sAsg 5 (eI (m_law_any_tree 40) 1 (aC (eV 3) (aC (eV 4) (aC (eI m_law_some 1 (aC (eN mkL (aC (eC (.int 2)) (aC (eC (.int 3)) (aC (eC (.int 5)) (aC (eC (.int 0)) aN))))) aN)) aN))))) (sQ (sIf (qB (e2 eqD (eI m_law_take 1 (aC (eC (.int 3)) aN)) (eC (.int 0)))) (sAsg 5 (eI m_law_lopsided 1 (aC (eV 3) (aC (eV 4) (aC (eI m_law_some 1 (aC (eN mkL (aC (eC (.int 6)) (aC (eC (.int 12)) (aC (eC (.int 20)) aN)))) aN)) aN))))) sN) (sQ (sPar 6 7 (aC (eN (m_law_tree_leaves 40) (aC (eV 5) (aC (eN mkT aN) aN))) (aC (eN (p1 reprD) (aC (eV 5) aN)) aN))) (sFor (iN rng1 (aC (eC (.int 2)) aN)) (gN 8) (sQ (sAsgO 9 (eN m_leaves_of (aC (eV 5) aN))) (sQ (sIf (qOr (qNot (qFz (qB (eN m_law_alike (aC (eN mkL (aC (eV 9) (aC (eN (m_height_of 40) (aC (eV 5) aN)) aN))) (aC (eN mkL (aC (eV 6) (aC (eN (m_law_tree_height 40) (aC (eV 5) aN)) aN))) aN)))))) (qB (e2 neD (eN (p1 reprD) (aC (eV 5) aN)) (eV 7)))) (sRet (eC (.bool false))) sN) (sMut 9 appD (aC (eC .none) aN)))))))))) (sRet (eC (.bool true))))
end Lk31
end

set_option maxHeartbeats 4000000
namespace Lk31
open PySem L2 DL
theorem mulMod {x y m : Int} (h : 0 < m) (h2 : m < 18446744073709551616) : mulI (.int (x % m)) (.int y) = some (.int (x % m * y)) := by
  have h3 := Int.emod_nonneg x (show m ≠ 0 by omega)
  have h4 := Int.emod_lt_of_pos x h
  exact mulL (by omega) (by omega)
theorem take_ok {b : Bag} (hb : BagOk b) {many : Int} (h1 : 0 < many) (h2 : many < 1073741824) :
    ∃ r b', m_law_take (bagV b) [.int many] = some (.int r, bagV b') ∧ BagOk b' ∧ 0 ≤ r ∧ r < many := by
  obtain ⟨c, hc, hr⟩ := cell_of b.cells b.pos
  obtain ⟨r, hr1, hr2, hr3⟩ := hr hb.len
  have hc0 := hc hb.cells
  obtain ⟨big, seed, pos, cells⟩ := b
  have hbig := hb.big
  have hseed := hb.seed
  have hpos := hb.pos
  have hcs := hb.cells
  have hlen := hb.len
  simp only at hr1 hbig hseed hpos hcs hlen
  by_cases hz : big = 0
  · subst hz
    by_cases hbig : 1000000000000000000 ≤ c
    · have hcp : 0 < c := by omega
      simp [m_law_take, runI, b_law_take, bagV, sQ, sIf, sN, qFz, qB, qAnd, qOr, qNot, qYes, e1, DL.e2, eV, eC, eN, eI, eIf, eAnd, eOr, eFz, eSl, oS, oN, aN, aC, aX, sAsg, sAsgO, sRet, sRetO, sRetN, sDrop, sSet, sAugI, sMut, sPar, sPat, iSeq, iN, gN, gT, gC, gZ, outP, outF, outI, en0, stillE, Sl.still, Sl.own, Sl.put, seqOf, ixD, p1, lenS, intD, absD, tupD, lstD, mkT, mkL, slD, slL, setLD, notD, negD, ltI, leI, gtI, geI, iB, addD, subD, isN, isNotN, atI_0, atI_1, atI_2, atI_3, ixN_40, ixN_41, ixN_42, eqD_int, neD_int, DL.flatB, DL.flatBs, max2D, min2D, iI, sl1, sl2, sl3, sl4, sl0, sl5, sl6, sl7, sl8, List.length_cons, List.length_nil, List.length_append, List.length_map, List.getElem?_cons_zero, List.getElem?_cons_succ, List.set_cons_zero, List.set_cons_succ, List.map_cons, List.map_nil, List.replicate, List.cons_append, List.nil_append, List.append_nil, Option.map_some, if_true, if_false, ite_true, ite_false, reduceIte, Nat.reduceAdd, Nat.reduceSub, Nat.reduceLeDiff, Nat.reduceEqDiff, Int.reduceAdd, modD_int, fdivD_int, mulR, mulL, Nat.sub_self, Nat.zero_add, Option.map_none, decide_true, decide_false, Bool.not_true, Bool.not_false, hr1, hr2, hr3, pow18, hbig, hcp, h1, h2]
      refine ⟨c % many, ⟨c / many, _, pos + 1, cells⟩, ⟨rfl, rfl, rfl, rfl, rfl⟩, ⟨Int.ediv_nonneg (by omega) (by omega), ⟨Int.emod_nonneg _ (by omega), Int.emod_lt_of_pos _ (by omega)⟩, (by show 0 ≤ pos + 1; omega), hcs, hlen⟩, Int.emod_nonneg _ (by omega), Int.emod_lt_of_pos _ h1⟩
    · simp [m_law_take, runI, b_law_take, bagV, sQ, sIf, sN, qFz, qB, qAnd, qOr, qNot, qYes, e1, DL.e2, eV, eC, eN, eI, eIf, eAnd, eOr, eFz, eSl, oS, oN, aN, aC, aX, sAsg, sAsgO, sRet, sRetO, sRetN, sDrop, sSet, sAugI, sMut, sPar, sPat, iSeq, iN, gN, gT, gC, gZ, outP, outF, outI, en0, stillE, Sl.still, Sl.own, Sl.put, seqOf, ixD, p1, lenS, intD, absD, tupD, lstD, mkT, mkL, slD, slL, setLD, notD, negD, ltI, leI, gtI, geI, iB, addD, subD, isN, isNotN, atI_0, atI_1, atI_2, atI_3, ixN_40, ixN_41, ixN_42, eqD_int, neD_int, DL.flatB, DL.flatBs, max2D, min2D, iI, sl1, sl2, sl3, sl4, sl0, sl5, sl6, sl7, sl8, List.length_cons, List.length_nil, List.length_append, List.length_map, List.getElem?_cons_zero, List.getElem?_cons_succ, List.set_cons_zero, List.set_cons_succ, List.map_cons, List.map_nil, List.replicate, List.cons_append, List.nil_append, List.append_nil, Option.map_some, if_true, if_false, ite_true, ite_false, reduceIte, Nat.reduceAdd, Nat.reduceSub, Nat.reduceLeDiff, Nat.reduceEqDiff, Int.reduceAdd, modD_int, fdivD_int, mulR, mulL, Nat.sub_self, Nat.zero_add, Option.map_none, decide_true, decide_false, Bool.not_true, Bool.not_false, hr1, hr2, hr3, pow18, hbig, h1, h2, mulMod]
      refine ⟨_, ⟨0, _, pos + 1, cells⟩, ⟨rfl, rfl, rfl, rfl, rfl⟩, ⟨Int.le_refl 0, ⟨Int.emod_nonneg _ (by omega), Int.emod_lt_of_pos _ (by omega)⟩, (by show 0 ≤ pos + 1; omega), hcs, hlen⟩, Int.emod_nonneg _ (by omega), Int.emod_lt_of_pos _ h1⟩
  · have hcp : 0 < big := by omega
    simp [m_law_take, runI, b_law_take, bagV, sQ, sIf, sN, qFz, qB, qAnd, qOr, qNot, qYes, e1, DL.e2, eV, eC, eN, eI, eIf, eAnd, eOr, eFz, eSl, oS, oN, aN, aC, aX, sAsg, sAsgO, sRet, sRetO, sRetN, sDrop, sSet, sAugI, sMut, sPar, sPat, iSeq, iN, gN, gT, gC, gZ, outP, outF, outI, en0, stillE, Sl.still, Sl.own, Sl.put, seqOf, ixD, p1, lenS, intD, absD, tupD, lstD, mkT, mkL, slD, slL, setLD, notD, negD, ltI, leI, gtI, geI, iB, addD, subD, isN, isNotN, atI_0, atI_1, atI_2, atI_3, ixN_40, ixN_41, ixN_42, eqD_int, neD_int, DL.flatB, DL.flatBs, max2D, min2D, iI, sl1, sl2, sl3, sl4, sl0, sl5, sl6, sl7, sl8, List.length_cons, List.length_nil, List.length_append, List.length_map, List.getElem?_cons_zero, List.getElem?_cons_succ, List.set_cons_zero, List.set_cons_succ, List.map_cons, List.map_nil, List.replicate, List.cons_append, List.nil_append, List.append_nil, Option.map_some, if_true, if_false, ite_true, ite_false, reduceIte, Nat.reduceAdd, Nat.reduceSub, Nat.reduceLeDiff, Nat.reduceEqDiff, Int.reduceAdd, modD_int, fdivD_int, mulR, mulL, Nat.sub_self, Nat.zero_add, Option.map_none, decide_true, decide_false, Bool.not_true, Bool.not_false, hr1, hr2, hr3, pow18, hz, hcp, h1, h2]
    refine ⟨big % many, ⟨big / many, seed, pos, cells⟩, ⟨rfl, rfl, rfl, rfl, rfl⟩, ⟨Int.ediv_nonneg (by omega) (by omega), hseed, hpos, hcs, hlen⟩, Int.emod_nonneg _ (by omega), Int.emod_lt_of_pos _ h1⟩
theorem atI_mem {xs : List PyData} {r : Int} (h : 0 ≤ r) (h1 : r < xs.length) : ∃ x, atI xs r = some x ∧ x ∈ xs := by
  obtain ⟨n, rfl⟩ := Int.eq_ofNat_of_zero_le h
  have hn : n < xs.length := by omega
  exact ⟨xs[n], atI_int (List.getElem?_eq_getElem hn), List.getElem_mem _⟩
/-- a choice out of a list -/
theorem some_ok {b : Bag} (hb : BagOk b) {xs : List PyData} (h1 : 0 < xs.length) (h2 : xs.length < 16777216) :
    ∃ x b', m_law_some (bagV b) [.list xs] = some (x, bagV b') ∧ BagOk b' ∧ x ∈ xs := by
  obtain ⟨r, b', e, ok, r0, r1⟩ := take_ok hb (many := (xs.length : Int)) (by omega) (by omega)
  obtain ⟨x, hx, hm⟩ := atI_mem r0 r1
  refine ⟨x, b', ?_, ok, hm⟩
  unfold bagV at *
  simp [m_law_some, runI, b_law_some, eI, sQ, sIf, sN, qFz, qB, qAnd, qOr, qNot, qYes, e1, DL.e2, eV, eC, eN, eI, eIf, eAnd, eOr, eFz, eSl, oS, oN, aN, aC, aX, sAsg, sAsgO, sRet, sRetO, sRetN, sDrop, sSet, sAugI, sMut, sPar, sPat, iSeq, iN, gN, gT, gC, gZ, outP, outF, outI, en0, stillE, Sl.still, Sl.own, Sl.put, seqOf, ixD, p1, lenS, intD, absD, tupD, lstD, mkT, mkL, slD, slL, setLD, notD, negD, ltI, leI, gtI, geI, iB, addD, subD, isN, isNotN, atI_0, atI_1, atI_2, atI_3, ixN_40, ixN_41, ixN_42, eqD_int, neD_int, DL.flatB, DL.flatBs, max2D, min2D, iI, sl1, sl2, sl3, sl4, sl0, sl5, sl6, sl7, sl8, List.length_cons, List.length_nil, List.length_append, List.length_map, List.getElem?_cons_zero, List.getElem?_cons_succ, List.set_cons_zero, List.set_cons_succ, List.map_cons, List.map_nil, List.replicate, List.cons_append, List.nil_append, List.append_nil, Option.map_some, if_true, if_false, ite_true, ite_false, reduceIte, Nat.reduceAdd, Nat.reduceSub, Nat.reduceLeDiff, Nat.reduceEqDiff, Int.reduceAdd, modD_int, fdivD_int, mulR, mulL, Nat.sub_self, Nat.zero_add, Option.map_none, decide_true, decide_false, Bool.not_true, Bool.not_false, e, hx]
theorem insD_mem {xs : List PyData} {r : Int} {d : PyData} (h : 0 ≤ r) (h1 : r < xs.length + 1) (h2 : xs.length < 16777216) : ∃ ys, insD xs [.int r, d] = some ys ∧ List.Perm ys (xs ++ [d]) := by
  refine ⟨xs.take r.toNat ++ [d] ++ xs.drop r.toNat, ?_, ?_⟩
  · show (if xs.length < 16777216 ∧ 0 ≤ r ∧ r < 2 ^ 63 then some (xs.take r.toNat ++ [d] ++ xs.drop r.toNat) else none) = _
    rw [if_pos ⟨h2, h, by omega⟩]
  · refine ((List.Perm.append_right _ List.perm_append_comm).trans ?_).trans List.perm_append_comm
    rw [List.append_assoc, List.take_append_drop]
/-- a shuffle -/
theorem mixed_ok {b : Bag} (hb : BagOk b) {xs : List PyData} (h2 : xs.length < 16777216) :
    ∃ ys b', m_law_mixed (bagV b) [.list xs] = some (.list ys, bagV b') ∧ BagOk b' ∧ List.Perm ys xs := by
  have key := sFor_inv (it := iSeq (eV 1)) (g := gN 3) (ψ := sMut 2 insD (aC (eI m_law_take 0 (aC (eFz (e2 addD (eN (p1 lenS) (aC (eV 2) aN)) (eC (.int 1)))) aN)) (aC (eV 3) aN)))
    (ρ := [.b (bagV b), .d (.list xs), .o (.list []), .u]) (ρ0 := [.b (bagV b), .d (.list xs), .o (.list []), .u]) (ds := xs) rfl
    (fun done ρ => ∃ b' ys s, ρ = [.b (bagV b'), .d (.list xs), .o (.list ys), s] ∧ BagOk b' ∧ List.Perm ys done)
    ⟨b, [], .u, rfl, hb, List.Perm.refl _⟩
    (fun done x rest ρ e ⟨b1, ys, s, e1, hb1, hp⟩ => by
      subst e1
      have hl : ys.length < 16777216 := by
        have := hp.length_eq
        have h3 : xs.length = done.length + (rest.length + 1) := by rw [e, List.length_append, List.length_cons]
        omega
      obtain ⟨r, b2, ht, ok, r0, r1⟩ := take_ok hb1 (many := (ys.length : Int) + 1) (by omega) (by omega)
      obtain ⟨zs, hz, hq⟩ := insD_mem (d := x) r0 r1 hl
      refine ⟨[.b (bagV b1), .d (.list xs), .o (.list ys), .d x], [.b (bagV b2), .d (.list xs), .o (.list zs), .d x], rfl, ?_, b2, zs, _, rfl, ok, hq.trans (List.Perm.append_right _ hp)⟩

      simp [eI, sQ, sIf, sN, qFz, qB, qAnd, qOr, qNot, qYes, e1, DL.e2, eV, eC, eN, eI, eIf, eAnd, eOr, eFz, eSl, oS, oN, aN, aC, aX, sAsg, sAsgO, sRet, sRetO, sRetN, sDrop, sSet, sAugI, sMut, sPar, sPat, iSeq, iN, gN, gT, gC, gZ, outP, outF, outI, en0, stillE, Sl.still, Sl.own, Sl.put, seqOf, ixD, p1, lenS, intD, absD, tupD, lstD, mkT, mkL, slD, slL, setLD, notD, negD, ltI, leI, gtI, geI, iB, addD, subD, isN, isNotN, atI_0, atI_1, atI_2, atI_3, ixN_40, ixN_41, ixN_42, eqD_int, neD_int, DL.flatB, DL.flatBs, max2D, min2D, iI, sl1, sl2, sl3, sl4, sl0, sl5, sl6, sl7, sl8, List.length_cons, List.length_nil, List.length_append, List.length_map, List.getElem?_cons_zero, List.getElem?_cons_succ, List.set_cons_zero, List.set_cons_succ, List.map_cons, List.map_nil, List.replicate, List.cons_append, List.nil_append, List.append_nil, Option.map_some, if_true, if_false, ite_true, ite_false, reduceIte, Nat.reduceAdd, Nat.reduceSub, Nat.reduceLeDiff, Nat.reduceEqDiff, Int.reduceAdd, modD_int, fdivD_int, mulR, mulL, Nat.sub_self, Nat.zero_add, Option.map_none, decide_true, decide_false, Bool.not_true, Bool.not_false, ht, hz])
  obtain ⟨ρ', k1, b', ys, s, e1, hb', hp⟩ := key
  refine ⟨ys, b', ?_, hb', hp⟩
  subst e1
  simp [m_law_mixed, runI, b_law_mixed, sQ, sAsgO, eN, aN, mkL, en0, outI, sRetO, k1]
theorem ints_of {P : Int → Prop} : ∀ {ds : List PyData}, (∀ d ∈ ds, ∃ i, d = .int i ∧ P i) → ∃ row : List Int, ds = row.map .int ∧ ∀ i ∈ row, P i
  | [], _ => ⟨[], rfl, fun _ h => nomatch h⟩
  | d :: ds, h => by
    obtain ⟨i, rfl, p⟩ := h d (List.mem_cons_self ..)
    obtain ⟨row, rfl, q⟩ := ints_of fun e he => h e (List.mem_cons_of_mem _ he)
    refine ⟨i :: row, rfl, fun j hj => ?_⟩
    rcases List.mem_cons.mp hj with rfl | hj
    · exact p
    · exact q j hj
theorem upI_mem {lo : Int} {n : Nat} {d : PyData} (h : d ∈ upI lo n) : ∃ i : Int, d = .int i ∧ lo ≤ i ∧ i < lo + n := by
  obtain ⟨i, hi, rfl⟩ := List.mem_map.mp h
  have := List.mem_range.mp hi
  exact ⟨lo + i, rfl, by omega, by omega⟩
theorem upI_len {lo : Int} {n : Nat} : (upI lo n).length = n := by unfold upI; rw [List.length_map, List.length_range]
theorem rng1_ok {n : Nat} (h : n ≤ 16777216) : rng1 [.int (n : Int)] = some (upI 0 n) := by
  show (if -(2 ^ 62) ≤ (n : Int) ∧ (n : Int) ≤ 16777216 then some (upI 0 (n : Int).toNat) else none) = _
  rw [if_pos ⟨by omega, by omega⟩, Int.toNat_natCast]
theorem bits_64 {m : Int} (h : 0 ≤ m) (h1 : m < 64) : Builtin.Int.intBits m ≤ 6 := by
  unfold Builtin.Int.intBits
  split
  · omega
  · rename_i h2
    have h3 : m ≠ 0 := by simpa using h2
    have := (Nat.log2_lt (n := m.natAbs) (k := 6) (by omega)).mpr (by omega)
    omega
def GoodRow (row : List Int) : Prop := row.length ≤ 6 ∧ ∀ i ∈ row, 0 ≤ i ∧ i < 6
theorem row_ok {m : Int} (h : 0 ≤ m) (h1 : m < 64) : ∃ row : List Int, m_law_row [.int m] = some (.tuple (row.map .int)) ∧ GoodRow row := by
  have hn := bits_64 h h1
  have key := lcD_pure (vs := [1]) (g := gN 1) (q := qB (e2 eqD (e2 andD (e2 shrD (eV 0) (eV 1)) (eC (.int 1))) (eC (.int 1)))) (a := eV 1) (ρ0 := [.d (.int m), .u])
    (fun x => match x with | .int i => decide (Builtin.bitAnd (m / 2 ^ i.toNat) 1 = 1) | _ => false) (fun x => x) (upI 0 (Builtin.Int.intBits m)) (fun x hx => by
      obtain ⟨i, rfl, i0, i1⟩ := upI_mem hx
      have hs : shrD (.int m) (.int i) = some (.int (m / 2 ^ i.toNat)) := by
        show ((if 0 ≤ i then some (m / 2 ^ i.toNat) else none).map PyData.int) = _
        rw [if_pos i0]; rfl
      refine ⟨[.d (.int m), .d (.int i)], [.d (.int m), .d (.int i)], rfl, ?_, fun _ => ⟨_, rfl, rfl⟩, fun _ => rfl⟩
      simp [sQ, sIf, sN, qFz, qB, qAnd, qOr, qNot, qYes, e1, DL.e2, eV, eC, eN, eI, eIf, eAnd, eOr, eFz, eSl, oS, oN, aN, aC, aX, sAsg, sAsgO, sRet, sRetO, sRetN, sDrop, sSet, sAugI, sMut, sPar, sPat, iSeq, iN, gN, gT, gC, gZ, outP, outF, outI, en0, stillE, Sl.still, Sl.own, Sl.put, seqOf, ixD, p1, lenS, intD, absD, tupD, lstD, mkT, mkL, slD, slL, setLD, notD, negD, ltI, leI, gtI, geI, iB, addD, subD, isN, isNotN, atI_0, atI_1, atI_2, atI_3, ixN_40, ixN_41, ixN_42, eqD_int, neD_int, DL.flatB, DL.flatBs, max2D, min2D, iI, sl1, sl2, sl3, sl4, sl0, sl5, sl6, sl7, sl8, List.length_cons, List.length_nil, List.length_append, List.length_map, List.getElem?_cons_zero, List.getElem?_cons_succ, List.set_cons_zero, List.set_cons_succ, List.map_cons, List.map_nil, List.replicate, List.cons_append, List.nil_append, List.append_nil, Option.map_some, if_true, if_false, ite_true, ite_false, reduceIte, Nat.reduceAdd, Nat.reduceSub, Nat.reduceLeDiff, Nat.reduceEqDiff, Int.reduceAdd, modD_int, fdivD_int, mulR, mulL, Nat.sub_self, Nat.zero_add, Option.map_none, decide_true, decide_false, Bool.not_true, Bool.not_false, hs, andD])
  obtain ⟨row, hr, hp⟩ := ints_of (P := fun i => 0 ≤ i ∧ i < 6) (ds := ((upI 0 (Builtin.Int.intBits m)).filter fun x => match x with | .int i => decide (Builtin.bitAnd (m / 2 ^ i.toNat) 1 = 1) | _ => false).map (fun x => x)) (fun d hd => by
    rw [List.map_id'] at hd
    obtain ⟨i, e, i0, i1⟩ := upI_mem (List.mem_filter.mp hd).1
    exact ⟨i, e, i0, by omega⟩)
  refine ⟨row, ?_, ?_, hp⟩
  · rw [hr] at key
    simp [m_law_row, runP, b_law_row, sQ, sIf, sN, qFz, qB, qAnd, qOr, qNot, qYes, e1, DL.e2, eV, eC, eN, eI, eIf, eAnd, eOr, eFz, eSl, oS, oN, aN, aC, aX, sAsg, sAsgO, sRet, sRetO, sRetN, sDrop, sSet, sAugI, sMut, sPar, sPat, iSeq, iN, gN, gT, gC, gZ, outP, outF, outI, en0, stillE, Sl.still, Sl.own, Sl.put, seqOf, ixD, p1, lenS, intD, absD, tupD, lstD, mkT, mkL, slD, slL, setLD, notD, negD, ltI, leI, gtI, geI, iB, addD, subD, isN, isNotN, atI_0, atI_1, atI_2, atI_3, ixN_40, ixN_41, ixN_42, eqD_int, neD_int, DL.flatB, DL.flatBs, max2D, min2D, iI, sl1, sl2, sl3, sl4, sl0, sl5, sl6, sl7, sl8, List.length_cons, List.length_nil, List.length_append, List.length_map, List.getElem?_cons_zero, List.getElem?_cons_succ, List.set_cons_zero, List.set_cons_succ, List.map_cons, List.map_nil, List.replicate, List.cons_append, List.nil_append, List.append_nil, Option.map_some, if_true, if_false, ite_true, ite_false, reduceIte, Nat.reduceAdd, Nat.reduceSub, Nat.reduceLeDiff, Nat.reduceEqDiff, Int.reduceAdd, modD_int, fdivD_int, mulR, mulL, Nat.sub_self, Nat.zero_add, Option.map_none, decide_true, decide_false, Bool.not_true, Bool.not_false, eLc, bitsD, rng1_ok (show Builtin.Int.intBits m ≤ 16777216 by omega), wipeE, key]
  · have := congrArg List.length hr
    rw [List.length_map, List.length_map] at this
    have h2 := List.length_filter_le (fun x => match x with | PyData.int i => decide (Builtin.bitAnd (m / 2 ^ i.toNat) 1 = 1) | _ => false) (upI 0 (Builtin.Int.intBits m))
    rw [upI_len] at h2
    omega
theorem xor_64 : ∀ m : Fin 64, ∀ t : Fin 6, 0 ≤ Builtin.bitXor (m.val : Int) (1 * 2 ^ t.val) ∧ Builtin.bitXor (m.val : Int) (1 * 2 ^ t.val) < 64 := by decide
theorem xor_step {m r : Int} (h : 0 ≤ m) (h1 : m < 64) (r0 : 0 ≤ r) (r1 : r < 6) : ∃ m', xorD (.int m) (.int (1 * 2 ^ r.toNat)) = some (.int m') ∧ 0 ≤ m' ∧ m' < 64 := by
  obtain ⟨a, rfl⟩ := Int.eq_ofNat_of_zero_le h
  obtain ⟨t, rfl⟩ := Int.eq_ofNat_of_zero_le r0
  exact ⟨_, rfl, xor_64 ⟨a, by omega⟩ ⟨t, by omega⟩⟩
theorem any_row_ok {b : Bag} (hb : BagOk b) {many : Int} (h1 : 0 < many) (h2 : many ≤ 6) :
    ∃ row b', m_law_any_row (bagV b) [.int many] = some (.tuple (row.map .int), bagV b') ∧ BagOk b' ∧ GoodRow row := by
  obtain ⟨x, b1, hs, hb1, hm⟩ := some_ok hb (xs := [.int 1, .int 2, .int 2, .int 3, .int many]) (by simp) (by simp)
  have hx : ∃ n : Nat, x = .int n ∧ n ≤ 6 := by
    have h3 : x = .int 1 ∨ x = .int 2 ∨ x = .int 2 ∨ x = .int 3 ∨ x = .int many := by simpa using hm
    obtain ⟨k, rfl⟩ := Int.eq_ofNat_of_zero_le (show 0 ≤ many by omega)
    rcases h3 with rfl | rfl | rfl | rfl | rfl
    · exact ⟨1, rfl, by decide⟩
    · exact ⟨2, rfl, by decide⟩
    · exact ⟨2, rfl, by decide⟩
    · exact ⟨3, rfl, by decide⟩
    · exact ⟨k, rfl, by omega⟩
  obtain ⟨n, rfl, hn⟩ := hx
  obtain ⟨ρ', k1, m, b2, s, rfl, hb2, m0, m1⟩ := sFor_inv (it := iN rng1 (aC (eI m_law_some 0 (aC (eN mkL (aC (eC (.int 1)) (aC (eC (.int 2)) (aC (eC (.int 2)) (aC (eC (.int 3)) (aC (eV 1) aN)))))) aN)) aN)) (g := gN 3) (ψ := sAsg 2 (e2 xorD (eV 2) (e2 shlD (eC (.int 1)) (eI m_law_take 0 (aC (eV 1) aN)))))
    (ρ := [.b (bagV b), .d (.int many), .d (.int 0), .u]) (ρ0 := [.b (bagV b1), .d (.int many), .d (.int 0), .u]) (ds := upI 0 n) (by simp [sQ, sIf, sN, qFz, qB, qAnd, qOr, qNot, qYes, e1, DL.e2, eV, eC, eN, eI, eIf, eAnd, eOr, eFz, eSl, oS, oN, aN, aC, aX, sAsg, sAsgO, sRet, sRetO, sRetN, sDrop, sSet, sAugI, sMut, sPar, sPat, iSeq, iN, gN, gT, gC, gZ, outP, outF, outI, en0, stillE, Sl.still, Sl.own, Sl.put, seqOf, ixD, p1, lenS, intD, absD, tupD, lstD, mkT, mkL, slD, slL, setLD, notD, negD, ltI, leI, gtI, geI, iB, addD, subD, isN, isNotN, atI_0, atI_1, atI_2, atI_3, ixN_40, ixN_41, ixN_42, eqD_int, neD_int, DL.flatB, DL.flatBs, max2D, min2D, iI, sl1, sl2, sl3, sl4, sl0, sl5, sl6, sl7, sl8, List.length_cons, List.length_nil, List.length_append, List.length_map, List.getElem?_cons_zero, List.getElem?_cons_succ, List.set_cons_zero, List.set_cons_succ, List.map_cons, List.map_nil, List.replicate, List.cons_append, List.nil_append, List.append_nil, Option.map_some, if_true, if_false, ite_true, ite_false, reduceIte, Nat.reduceAdd, Nat.reduceSub, Nat.reduceLeDiff, Nat.reduceEqDiff, Int.reduceAdd, modD_int, fdivD_int, mulR, mulL, Nat.sub_self, Nat.zero_add, Option.map_none, decide_true, decide_false, Bool.not_true, Bool.not_false, eI, hs, rng1_ok (show n ≤ 16777216 by omega)])
    (fun done ρ => ∃ m b' s, ρ = [.b (bagV b'), .d (.int many), .d (.int m), s] ∧ BagOk b' ∧ 0 ≤ m ∧ m < 64)
    ⟨0, b1, .u, rfl, hb1, by decide, by decide⟩
    (fun done x rest ρ e ⟨m, b2, s, e1, hb2, m0, m1⟩ => by
      subst e1
      obtain ⟨r, b3, ht, ok, r0, r1⟩ := take_ok hb2 (many := many) h1 (by omega)
      obtain ⟨m', hx, m2, m3⟩ := xor_step m0 m1 r0 (show r < 6 by omega)
      have hsh : shlD (.int 1) (.int r) = some (.int (1 * 2 ^ r.toNat)) := by
        show ((if 0 ≤ r ∧ r ≤ 1000000 ∧ (1 : Int).natAbs < 2 ^ 64 then some (1 * 2 ^ r.toNat) else none).map PyData.int) = _
        rw [if_pos ⟨r0, by omega, by decide⟩]; rfl
      refine ⟨_, [.b (bagV b3), .d (.int many), .d (.int m'), .d x], rfl, ?_, m', b3, _, rfl, ok, m2, m3⟩
      rw [Int.one_mul] at hsh hx
      simp [sQ, sIf, sN, qFz, qB, qAnd, qOr, qNot, qYes, e1, DL.e2, eV, eC, eN, eI, eIf, eAnd, eOr, eFz, eSl, oS, oN, aN, aC, aX, sAsg, sAsgO, sRet, sRetO, sRetN, sDrop, sSet, sAugI, sMut, sPar, sPat, iSeq, iN, gN, gT, gC, gZ, outP, outF, outI, en0, stillE, Sl.still, Sl.own, Sl.put, seqOf, ixD, p1, lenS, intD, absD, tupD, lstD, mkT, mkL, slD, slL, setLD, notD, negD, ltI, leI, gtI, geI, iB, addD, subD, isN, isNotN, atI_0, atI_1, atI_2, atI_3, ixN_40, ixN_41, ixN_42, eqD_int, neD_int, DL.flatB, DL.flatBs, max2D, min2D, iI, sl1, sl2, sl3, sl4, sl0, sl5, sl6, sl7, sl8, List.length_cons, List.length_nil, List.length_append, List.length_map, List.getElem?_cons_zero, List.getElem?_cons_succ, List.set_cons_zero, List.set_cons_succ, List.map_cons, List.map_nil, List.replicate, List.cons_append, List.nil_append, List.append_nil, Option.map_some, if_true, if_false, ite_true, ite_false, reduceIte, Nat.reduceAdd, Nat.reduceSub, Nat.reduceLeDiff, Nat.reduceEqDiff, Int.reduceAdd, modD_int, fdivD_int, mulR, mulL, Nat.sub_self, Nat.zero_add, Option.map_none, decide_true, decide_false, Bool.not_true, Bool.not_false, eI, ht, hsh, hx])
  by_cases hz : 0 < m
  · obtain ⟨row, hr, hg⟩ := row_ok m0 m1
    refine ⟨row, b2, ?_, hb2, hg⟩
    simp [m_law_any_row, runI, b_law_any_row, sQ, sAsg, eN, eC, en0, outI, k1, sRet, eIf, sQ, sIf, sN, qFz, qB, qAnd, qOr, qNot, qYes, e1, DL.e2, eV, eC, eN, eI, eIf, eAnd, eOr, eFz, eSl, oS, oN, aN, aC, aX, sAsg, sAsgO, sRet, sRetO, sRetN, sDrop, sSet, sAugI, sMut, sPar, sPat, iSeq, iN, gN, gT, gC, gZ, outP, outF, outI, en0, stillE, Sl.still, Sl.own, Sl.put, seqOf, ixD, p1, lenS, intD, absD, tupD, lstD, mkT, mkL, slD, slL, setLD, notD, negD, ltI, leI, gtI, geI, iB, addD, subD, isN, isNotN, atI_0, atI_1, atI_2, atI_3, ixN_40, ixN_41, ixN_42, eqD_int, neD_int, DL.flatB, DL.flatBs, max2D, min2D, iI, sl1, sl2, sl3, sl4, sl0, sl5, sl6, sl7, sl8, List.length_cons, List.length_nil, List.length_append, List.length_map, List.getElem?_cons_zero, List.getElem?_cons_succ, List.set_cons_zero, List.set_cons_succ, List.map_cons, List.map_nil, List.replicate, List.cons_append, List.nil_append, List.append_nil, Option.map_some, if_true, if_false, ite_true, ite_false, reduceIte, Nat.reduceAdd, Nat.reduceSub, Nat.reduceLeDiff, Nat.reduceEqDiff, Int.reduceAdd, modD_int, fdivD_int, mulR, mulL, Nat.sub_self, Nat.zero_add, Option.map_none, decide_true, decide_false, Bool.not_true, Bool.not_false, hz, hr]
  · obtain ⟨r, b3, ht, ok, r0, r1⟩ := take_ok hb2 (many := many) h1 (by omega)
    refine ⟨[r], b3, ?_, ok, by show 1 ≤ 6; decide, fun i hi => by rw [List.mem_singleton.mp hi]; exact ⟨r0, by omega⟩⟩
    simp [m_law_any_row, runI, b_law_any_row, sQ, sAsg, eN, eC, en0, outI, k1, sRet, eIf, sQ, sIf, sN, qFz, qB, qAnd, qOr, qNot, qYes, e1, DL.e2, eV, eC, eN, eI, eIf, eAnd, eOr, eFz, eSl, oS, oN, aN, aC, aX, sAsg, sAsgO, sRet, sRetO, sRetN, sDrop, sSet, sAugI, sMut, sPar, sPat, iSeq, iN, gN, gT, gC, gZ, outP, outF, outI, en0, stillE, Sl.still, Sl.own, Sl.put, seqOf, ixD, p1, lenS, intD, absD, tupD, lstD, mkT, mkL, slD, slL, setLD, notD, negD, ltI, leI, gtI, geI, iB, addD, subD, isN, isNotN, atI_0, atI_1, atI_2, atI_3, ixN_40, ixN_41, ixN_42, eqD_int, neD_int, DL.flatB, DL.flatBs, max2D, min2D, iI, sl1, sl2, sl3, sl4, sl0, sl5, sl6, sl7, sl8, List.length_cons, List.length_nil, List.length_append, List.length_map, List.getElem?_cons_zero, List.getElem?_cons_succ, List.set_cons_zero, List.set_cons_succ, List.map_cons, List.map_nil, List.replicate, List.cons_append, List.nil_append, List.append_nil, Option.map_some, if_true, if_false, ite_true, ite_false, reduceIte, Nat.reduceAdd, Nat.reduceSub, Nat.reduceLeDiff, Nat.reduceEqDiff, Int.reduceAdd, modD_int, fdivD_int, mulR, mulL, Nat.sub_self, Nat.zero_add, Option.map_none, decide_true, decide_false, Bool.not_true, Bool.not_false, hz, eI, ht]
theorem perm_two {α : Type} {a b : α} {ys : List α} (h : List.Perm ys [a, b]) : ys = [a, b] ∨ ys = [b, a] := by
  match ys, h.length_eq, h with
  | [x, y], _, h =>
    have hx : x = a ∨ x = b := by simpa using h.subset (List.mem_cons_self ..)
    rcases hx with rfl | rfl
    · have := (List.perm_cons x).mp h
      have := List.perm_singleton.mp this
      left; rw [this]
    · have h2 : List.Perm [x, y] [x, a] := h.trans (List.Perm.swap ..)
      have := List.perm_singleton.mp ((List.perm_cons x).mp h2)
      right; rw [this]
/-! trees -/
inductive Tr where
  | fin (c : Int)
  | ask (row : List Int) (l r : Tr)
def rowD (row : List Int) : PyData := .tuple (row.map .int)
def Tr.dat : Tr → PyData
  | .fin c => .tuple [.str "end", .int c]
  | .ask row l r => .tuple [.str "ask", rowD row, l.dat, r.dat]
def Tr.ht : Tr → Nat
  | .fin _ => 0
  | .ask _ l r => 1 + max l.ht r.ht
def Tr.n : Tr → Nat
  | .fin _ => 1
  | .ask _ l r => l.n + r.n
def Tr.good : Tr → Prop
  | .fin c => 0 ≤ c ∧ c < 1000
  | .ask row l r => GoodRow row ∧ l.good ∧ r.good
def Tr.lvs : Tr → List PyData → List PyData
  | .fin c, ls => [.tuple [.int c, .tuple ls]]
  | .ask row l r, ls => l.lvs (ls ++ [.tuple [rowD row, .int 0]]) ++ r.lvs (ls ++ [.tuple [rowD row, .int 1]])
theorem Tr.n_pos : ∀ t : Tr, 1 ≤ t.n
  | .fin _ => Nat.le_refl 1
  | .ask _ l _ => Nat.le_trans l.n_pos (Nat.le_add_right _ _)
theorem ok_end : PyData.strOk "end" = true := by kernel_rfl
theorem ok_ask : PyData.strOk "ask" = true := by kernel_rfl
theorem end_end : eqD (.str "end") (.str "end") = some (.bool true) := by rw [eqD_str]; rfl
theorem ask_end : eqD (.str "ask") (.str "end") = some (.bool false) := by rw [eqD_str]; rfl
theorem any_tree_ok {many clauses : Int} (h1 : 0 < many) (h2 : many ≤ 6) (h3 : 0 < clauses) (h4 : clauses < 1000) : ∀ (deep : Nat) (k : Nat) (b : Bag), deep < k → BagOk b →
    ∃ (t : Tr) (b' : Bag), m_law_any_tree k (bagV b) [.int many, .int clauses, .int deep] = some (t.dat, bagV b') ∧ BagOk b' ∧ t.good ∧ t.ht ≤ deep ∧ t.n ≤ 2 ^ deep
  | 0, k + 1, b, hk, hb => by
    obtain ⟨r, b2, ht, ok, r0, r1⟩ := take_ok hb (many := clauses) h3 (by omega)
    refine ⟨.fin r, b2, ?_, ok, ⟨r0, by omega⟩, Nat.le_refl 0, Nat.le_refl 1⟩
    simp [m_law_any_tree, runI, b_law_any_tree, sQ, sIf, sN, qFz, qB, qAnd, qOr, qNot, qYes, e1, DL.e2, eV, eC, eN, eI, eIf, eAnd, eOr, eFz, eSl, oS, oN, aN, aC, aX, sAsg, sAsgO, sRet, sRetO, sRetN, sDrop, sSet, sAugI, sMut, sPar, sPat, iSeq, iN, gN, gT, gC, gZ, outP, outF, outI, en0, stillE, Sl.still, Sl.own, Sl.put, seqOf, ixD, p1, lenS, intD, absD, tupD, lstD, mkT, mkL, slD, slL, setLD, notD, negD, ltI, leI, gtI, geI, iB, addD, subD, isN, isNotN, atI_0, atI_1, atI_2, atI_3, ixN_40, ixN_41, ixN_42, eqD_int, neD_int, DL.flatB, DL.flatBs, max2D, min2D, iI, sl1, sl2, sl3, sl4, sl0, sl5, sl6, sl7, sl8, List.length_cons, List.length_nil, List.length_append, List.length_map, List.getElem?_cons_zero, List.getElem?_cons_succ, List.set_cons_zero, List.set_cons_succ, List.map_cons, List.map_nil, List.replicate, List.cons_append, List.nil_append, List.append_nil, Option.map_some, if_true, if_false, ite_true, ite_false, reduceIte, Nat.reduceAdd, Nat.reduceSub, Nat.reduceLeDiff, Nat.reduceEqDiff, Int.reduceAdd, modD_int, fdivD_int, mulR, mulL, Nat.sub_self, Nat.zero_add, Option.map_none, decide_true, decide_false, Bool.not_true, Bool.not_false, eI, ht, Tr.dat]
  | d + 1, k + 1, b, hk, hb => by
    obtain ⟨r, b1, ht1, ok1, r0, r1⟩ := take_ok hb (many := 4) (by decide) (by decide)
    by_cases hr : r = 0
    · obtain ⟨c, b2, ht, ok, c0, c1⟩ := take_ok ok1 (many := clauses) h3 (by omega)
      refine ⟨.fin c, b2, ?_, ok, ⟨c0, by omega⟩, Nat.zero_le _, Nat.one_le_two_pow⟩
      have hd : ¬ ((d : Int) + 1 = 0) := by omega
      simp [m_law_any_tree, runI, b_law_any_tree, sQ, sIf, sN, qFz, qB, qAnd, qOr, qNot, qYes, e1, DL.e2, eV, eC, eN, eI, eIf, eAnd, eOr, eFz, eSl, oS, oN, aN, aC, aX, sAsg, sAsgO, sRet, sRetO, sRetN, sDrop, sSet, sAugI, sMut, sPar, sPat, iSeq, iN, gN, gT, gC, gZ, outP, outF, outI, en0, stillE, Sl.still, Sl.own, Sl.put, seqOf, ixD, p1, lenS, intD, absD, tupD, lstD, mkT, mkL, slD, slL, setLD, notD, negD, ltI, leI, gtI, geI, iB, addD, subD, isN, isNotN, atI_0, atI_1, atI_2, atI_3, ixN_40, ixN_41, ixN_42, eqD_int, neD_int, DL.flatB, DL.flatBs, max2D, min2D, iI, sl1, sl2, sl3, sl4, sl0, sl5, sl6, sl7, sl8, List.length_cons, List.length_nil, List.length_append, List.length_map, List.getElem?_cons_zero, List.getElem?_cons_succ, List.set_cons_zero, List.set_cons_succ, List.map_cons, List.map_nil, List.replicate, List.cons_append, List.nil_append, List.append_nil, Option.map_some, if_true, if_false, ite_true, ite_false, reduceIte, Nat.reduceAdd, Nat.reduceSub, Nat.reduceLeDiff, Nat.reduceEqDiff, Int.reduceAdd, modD_int, fdivD_int, mulR, mulL, Nat.sub_self, Nat.zero_add, Option.map_none, decide_true, decide_false, Bool.not_true, Bool.not_false, eI, ht1, ht, Tr.dat, hr, hd]
    · obtain ⟨row, b2, hrow, ok2, hg⟩ := any_row_ok ok1 h1 h2
      obtain ⟨t1, b3, hq1, ok3, g1, l1, n1⟩ := any_tree_ok h1 h2 h3 h4 d k b2 (by omega) ok2
      obtain ⟨t2, b4, hq2, ok4, g2, l2, n2⟩ := any_tree_ok h1 h2 h3 h4 d k b3 (by omega) ok3
      refine ⟨.ask row t1 t2, b4, ?_, ok4, ⟨hg, g1, g2⟩, by show 1 + max t1.ht t2.ht ≤ d + 1; omega, by show t1.n + t2.n ≤ 2 ^ (d + 1); rw [Nat.pow_succ]; omega⟩
      have hd : ¬ ((d : Int) + 1 = 0) := by omega
      have hm : ¬ (many = 0) := by omega
      have hs : (d : Int) + 1 - 1 = d := by omega
      simp [m_law_any_tree, runI, b_law_any_tree, sQ, sIf, sN, qFz, qB, qAnd, qOr, qNot, qYes, e1, DL.e2, eV, eC, eN, eI, eIf, eAnd, eOr, eFz, eSl, oS, oN, aN, aC, aX, sAsg, sAsgO, sRet, sRetO, sRetN, sDrop, sSet, sAugI, sMut, sPar, sPat, iSeq, iN, gN, gT, gC, gZ, outP, outF, outI, en0, stillE, Sl.still, Sl.own, Sl.put, seqOf, ixD, p1, lenS, intD, absD, tupD, lstD, mkT, mkL, slD, slL, setLD, notD, negD, ltI, leI, gtI, geI, iB, addD, subD, isN, isNotN, atI_0, atI_1, atI_2, atI_3, ixN_40, ixN_41, ixN_42, eqD_int, neD_int, DL.flatB, DL.flatBs, max2D, min2D, iI, sl1, sl2, sl3, sl4, sl0, sl5, sl6, sl7, sl8, List.length_cons, List.length_nil, List.length_append, List.length_map, List.getElem?_cons_zero, List.getElem?_cons_succ, List.set_cons_zero, List.set_cons_succ, List.map_cons, List.map_nil, List.replicate, List.cons_append, List.nil_append, List.append_nil, Option.map_some, if_true, if_false, ite_true, ite_false, reduceIte, Nat.reduceAdd, Nat.reduceSub, Nat.reduceLeDiff, Nat.reduceEqDiff, Int.reduceAdd, modD_int, fdivD_int, mulR, mulL, Nat.sub_self, Nat.zero_add, Option.map_none, decide_true, decide_false, Bool.not_true, Bool.not_false, eI, ht1, hrow, hq1, hq2, Tr.dat, rowD, hr, hd, hm, hs]
theorem lopsided_ok {many clauses : Int} (h1 : 0 < many) (h2 : many ≤ 6) (h3 : 0 < clauses) (h4 : clauses < 1000) {deep : Nat} (hd : deep ≤ 20) {b : Bag} (hb : BagOk b) :
    ∃ (t : Tr) (b' : Bag), m_law_lopsided (bagV b) [.int many, .int clauses, .int deep] = some (t.dat, bagV b') ∧ BagOk b' ∧ t.good ∧ t.ht ≤ 21 ∧ t.n ≤ 41 := by
  obtain ⟨c, b1, ht, ok1, c0, c1⟩ := take_ok hb (many := clauses) h3 (by omega)
  obtain ⟨ρ', k1, t, b2, s, u, rfl, hb2, hg, hh, hn⟩ := sFor_inv (it := iN rng1 (aC (eV 3) aN)) (g := gN 5) (ψ := sQ (sAsg 6 (eN mkL (aC (eV 4) (aC (eI (m_law_any_tree 40) 0 (aC (eV 1) (aC (eV 2) (aC (eC (.int 1)) aN)))) aN)))) (sAsg 4 (e2 addD (eN mkT (aC (eC (.str "ask")) (aC (eI m_law_any_row 0 (aC (eV 1) aN)) aN))) (eN (p1 tupD) (aC (eI m_law_mixed 0 (aC (eV 6) aN)) aN)))))
    (ρ := [.b (bagV b1), .d (.int many), .d (.int clauses), .d (.int deep), .d (Tr.fin c).dat, .u, .u]) (ρ0 := [.b (bagV b1), .d (.int many), .d (.int clauses), .d (.int deep), .d (Tr.fin c).dat, .u, .u]) (ds := upI 0 deep) (by simp [sQ, sIf, sN, qFz, qB, qAnd, qOr, qNot, qYes, e1, DL.e2, eV, eC, eN, eI, eIf, eAnd, eOr, eFz, eSl, oS, oN, aN, aC, aX, sAsg, sAsgO, sRet, sRetO, sRetN, sDrop, sSet, sAugI, sMut, sPar, sPat, iSeq, iN, gN, gT, gC, gZ, outP, outF, outI, en0, stillE, Sl.still, Sl.own, Sl.put, seqOf, ixD, p1, lenS, intD, absD, tupD, lstD, mkT, mkL, slD, slL, setLD, notD, negD, ltI, leI, gtI, geI, iB, addD, subD, isN, isNotN, atI_0, atI_1, atI_2, atI_3, ixN_40, ixN_41, ixN_42, eqD_int, neD_int, DL.flatB, DL.flatBs, max2D, min2D, iI, sl1, sl2, sl3, sl4, sl0, sl5, sl6, sl7, sl8, List.length_cons, List.length_nil, List.length_append, List.length_map, List.getElem?_cons_zero, List.getElem?_cons_succ, List.set_cons_zero, List.set_cons_succ, List.map_cons, List.map_nil, List.replicate, List.cons_append, List.nil_append, List.append_nil, Option.map_some, if_true, if_false, ite_true, ite_false, reduceIte, Nat.reduceAdd, Nat.reduceSub, Nat.reduceLeDiff, Nat.reduceEqDiff, Int.reduceAdd, modD_int, fdivD_int, mulR, mulL, Nat.sub_self, Nat.zero_add, Option.map_none, decide_true, decide_false, Bool.not_true, Bool.not_false, rng1_ok (show deep ≤ 16777216 by omega)])
    (fun done ρ => ∃ (t : Tr) (b' : Bag) (s u : Sl), ρ = [.b (bagV b'), .d (.int many), .d (.int clauses), .d (.int deep), .d t.dat, s, u] ∧ BagOk b' ∧ t.good ∧ t.ht ≤ done.length + 1 ∧ t.n ≤ 2 * done.length + 1)
    ⟨.fin c, b1, .u, .u, rfl, ok1, ⟨c0, by omega⟩, Nat.zero_le _, Nat.le_refl 1⟩
    (fun done x rest ρ e ⟨t, b2, s, u, e1, hb2, hg, hh, hn⟩ => by
      subst e1
      obtain ⟨t1, b3, hq1, ok3, g1, l1, n1⟩ := any_tree_ok h1 h2 h3 h4 1 40 b2 (by omega) hb2
      obtain ⟨row, b4, hrow, ok4, hgr⟩ := any_row_ok ok3 h1 h2
      obtain ⟨ys, b5, hmx, ok5, hp⟩ := mixed_ok ok4 (xs := [t.dat, t1.dat]) (by simp)
      have hy : ∃ l r : Tr, ys = [l.dat, r.dat] ∧ l.good ∧ r.good ∧ max l.ht r.ht ≤ done.length + 1 ∧ l.n + r.n ≤ 2 * done.length + 3 := by
        have h5 : ys = [t.dat, t1.dat] ∨ ys = [t1.dat, t.dat] := perm_two hp
        rcases h5 with rfl | rfl
        · exact ⟨t, t1, rfl, hg, g1, by omega, by omega⟩
        · exact ⟨t1, t, rfl, g1, hg, by omega, by omega⟩
      obtain ⟨l, r, rfl, gl, gr, hlr, nlr⟩ := hy
      refine ⟨_, [.b (bagV b5), .d (.int many), .d (.int clauses), .d (.int deep), .d (Tr.ask row l r).dat, .d x, .d (.list [t.dat, t1.dat])], rfl, ?_, .ask row l r, b5, _, _, rfl, ok5, ⟨hgr, gl, gr⟩, ?_, ?_⟩
      · have hq1' : m_law_any_tree 40 (bagV b2) [.int many, .int clauses, .int 1] = some (t1.dat, bagV b3) := hq1
        simp [sQ, sIf, sN, qFz, qB, qAnd, qOr, qNot, qYes, e1, DL.e2, eV, eC, eN, eI, eIf, eAnd, eOr, eFz, eSl, oS, oN, aN, aC, aX, sAsg, sAsgO, sRet, sRetO, sRetN, sDrop, sSet, sAugI, sMut, sPar, sPat, iSeq, iN, gN, gT, gC, gZ, outP, outF, outI, en0, stillE, Sl.still, Sl.own, Sl.put, seqOf, ixD, p1, lenS, intD, absD, tupD, lstD, mkT, mkL, slD, slL, setLD, notD, negD, ltI, leI, gtI, geI, iB, addD, subD, isN, isNotN, atI_0, atI_1, atI_2, atI_3, ixN_40, ixN_41, ixN_42, eqD_int, neD_int, DL.flatB, DL.flatBs, max2D, min2D, iI, sl1, sl2, sl3, sl4, sl0, sl5, sl6, sl7, sl8, List.length_cons, List.length_nil, List.length_append, List.length_map, List.getElem?_cons_zero, List.getElem?_cons_succ, List.set_cons_zero, List.set_cons_succ, List.map_cons, List.map_nil, List.replicate, List.cons_append, List.nil_append, List.append_nil, Option.map_some, if_true, if_false, ite_true, ite_false, reduceIte, Nat.reduceAdd, Nat.reduceSub, Nat.reduceLeDiff, Nat.reduceEqDiff, Int.reduceAdd, modD_int, fdivD_int, mulR, mulL, Nat.sub_self, Nat.zero_add, Option.map_none, decide_true, decide_false, Bool.not_true, Bool.not_false, eI, hq1', hrow, hmx, Tr.dat, rowD]
      · show 1 + max l.ht r.ht ≤ _
        rw [List.length_append, List.length_singleton]; omega
      · show l.n + r.n ≤ _
        rw [List.length_append, List.length_singleton]; omega)
  rw [upI_len] at hh hn
  refine ⟨t, b2, ?_, hb2, hg, by omega, by omega⟩
  have hfin : (Tr.fin c).dat = .tuple [.str "end", .int c] := rfl
  rw [hfin] at k1
  simp [m_law_lopsided, runI, b_law_lopsided, sQ, sIf, sN, qFz, qB, qAnd, qOr, qNot, qYes, e1, DL.e2, eV, eC, eN, eI, eIf, eAnd, eOr, eFz, eSl, oS, oN, aN, aC, aX, sAsg, sAsgO, sRet, sRetO, sRetN, sDrop, sSet, sAugI, sMut, sPar, sPat, iSeq, iN, gN, gT, gC, gZ, outP, outF, outI, en0, stillE, Sl.still, Sl.own, Sl.put, seqOf, ixD, p1, lenS, intD, absD, tupD, lstD, mkT, mkL, slD, slL, setLD, notD, negD, ltI, leI, gtI, geI, iB, addD, subD, isN, isNotN, atI_0, atI_1, atI_2, atI_3, ixN_40, ixN_41, ixN_42, eqD_int, neD_int, DL.flatB, DL.flatBs, max2D, min2D, iI, sl1, sl2, sl3, sl4, sl0, sl5, sl6, sl7, sl8, List.length_cons, List.length_nil, List.length_append, List.length_map, List.getElem?_cons_zero, List.getElem?_cons_succ, List.set_cons_zero, List.set_cons_succ, List.map_cons, List.map_nil, List.replicate, List.cons_append, List.nil_append, List.append_nil, Option.map_some, if_true, if_false, ite_true, ite_false, reduceIte, Nat.reduceAdd, Nat.reduceSub, Nat.reduceLeDiff, Nat.reduceEqDiff, Int.reduceAdd, modD_int, fdivD_int, mulR, mulL, Nat.sub_self, Nat.zero_add, Option.map_none, decide_true, decide_false, Bool.not_true, Bool.not_false, eI, ht, k1]
theorem Tr.lvs_len : ∀ (t : Tr) (ls : List PyData), (t.lvs ls).length = t.n
  | .fin _, _ => rfl
  | .ask _ l r, ls => by show (l.lvs _ ++ r.lvs _).length = l.n + r.n; rw [List.length_append, l.lvs_len, r.lvs_len]
theorem max2_ht (a b : Nat) : max2D [.int a, .int b] = some (.int (max a b : Nat)) := by
  show some (PyData.int (if (b : Int) > (a : Int) then b else a)) = _
  congr 2
  split <;> omega
theorem height_ok : ∀ (t : Tr) (k : Nat), t.ht < k → m_height_of k [t.dat] = some (.int t.ht)
  | .fin c, k + 1, _ => by simp [m_height_of, runP, b_height_of, sQ, sIf, sN, qFz, qB, qAnd, qOr, qNot, qYes, e1, DL.e2, eV, eC, eN, eI, eIf, eAnd, eOr, eFz, eSl, oS, oN, aN, aC, aX, sAsg, sAsgO, sRet, sRetO, sRetN, sDrop, sSet, sAugI, sMut, sPar, sPat, iSeq, iN, gN, gT, gC, gZ, outP, outF, outI, en0, stillE, Sl.still, Sl.own, Sl.put, seqOf, ixD, p1, lenS, intD, absD, tupD, lstD, mkT, mkL, slD, slL, setLD, notD, negD, ltI, leI, gtI, geI, iB, addD, subD, isN, isNotN, atI_0, atI_1, atI_2, atI_3, ixN_40, ixN_41, ixN_42, eqD_int, neD_int, DL.flatB, DL.flatBs, max2D, min2D, iI, sl1, sl2, sl3, sl4, sl0, sl5, sl6, sl7, sl8, List.length_cons, List.length_nil, List.length_append, List.length_map, List.getElem?_cons_zero, List.getElem?_cons_succ, List.set_cons_zero, List.set_cons_succ, List.map_cons, List.map_nil, List.replicate, List.cons_append, List.nil_append, List.append_nil, Option.map_some, if_true, if_false, ite_true, ite_false, reduceIte, Nat.reduceAdd, Nat.reduceSub, Nat.reduceLeDiff, Nat.reduceEqDiff, Int.reduceAdd, modD_int, fdivD_int, mulR, mulL, Nat.sub_self, Nat.zero_add, Option.map_none, decide_true, decide_false, Bool.not_true, Bool.not_false, Tr.dat, end_end, Tr.ht]
  | .ask row l r, k + 1, h => by
    have h : 1 + max l.ht r.ht < k + 1 := h
    have h1 := height_ok l k (by omega)
    have h2 := height_ok r k (by omega)
    have hm := max2_ht l.ht r.ht
    have e : ((Tr.ask row l r).ht : Int) = 1 + ((max l.ht r.ht : Nat) : Int) := by show ((1 + max l.ht r.ht : Nat) : Int) = _; omega
    rw [e]
    unfold max2D at hm
    simp [m_height_of, runP, b_height_of, sQ, sIf, sN, qFz, qB, qAnd, qOr, qNot, qYes, e1, DL.e2, eV, eC, eN, eI, eIf, eAnd, eOr, eFz, eSl, oS, oN, aN, aC, aX, sAsg, sAsgO, sRet, sRetO, sRetN, sDrop, sSet, sAugI, sMut, sPar, sPat, iSeq, iN, gN, gT, gC, gZ, outP, outF, outI, en0, stillE, Sl.still, Sl.own, Sl.put, seqOf, ixD, p1, lenS, intD, absD, tupD, lstD, mkT, mkL, slD, slL, setLD, notD, negD, ltI, leI, gtI, geI, iB, addD, subD, isN, isNotN, atI_0, atI_1, atI_2, atI_3, ixN_40, ixN_41, ixN_42, eqD_int, neD_int, DL.flatB, DL.flatBs, max2D, min2D, iI, sl1, sl2, sl3, sl4, sl0, sl5, sl6, sl7, sl8, List.length_cons, List.length_nil, List.length_append, List.length_map, List.getElem?_cons_zero, List.getElem?_cons_succ, List.set_cons_zero, List.set_cons_succ, List.map_cons, List.map_nil, List.replicate, List.cons_append, List.nil_append, List.append_nil, Option.map_some, if_true, if_false, ite_true, ite_false, reduceIte, Nat.reduceAdd, Nat.reduceSub, Nat.reduceLeDiff, Nat.reduceEqDiff, Int.reduceAdd, modD_int, fdivD_int, mulR, mulL, Nat.sub_self, Nat.zero_add, Option.map_none, decide_true, decide_false, Bool.not_true, Bool.not_false, Tr.dat, ask_end, h1, h2]
    omega
theorem height2_ok : ∀ (t : Tr) (k : Nat), t.ht < k → m_law_tree_height k [t.dat] = some (.int t.ht)
  | .fin c, k + 1, _ => by simp [m_law_tree_height, runP, b_law_tree_height, sQ, sIf, sN, qFz, qB, qAnd, qOr, qNot, qYes, e1, DL.e2, eV, eC, eN, eI, eIf, eAnd, eOr, eFz, eSl, oS, oN, aN, aC, aX, sAsg, sAsgO, sRet, sRetO, sRetN, sDrop, sSet, sAugI, sMut, sPar, sPat, iSeq, iN, gN, gT, gC, gZ, outP, outF, outI, en0, stillE, Sl.still, Sl.own, Sl.put, seqOf, ixD, p1, lenS, intD, absD, tupD, lstD, mkT, mkL, slD, slL, setLD, notD, negD, ltI, leI, gtI, geI, iB, addD, subD, isN, isNotN, atI_0, atI_1, atI_2, atI_3, ixN_40, ixN_41, ixN_42, eqD_int, neD_int, DL.flatB, DL.flatBs, max2D, min2D, iI, sl1, sl2, sl3, sl4, sl0, sl5, sl6, sl7, sl8, List.length_cons, List.length_nil, List.length_append, List.length_map, List.getElem?_cons_zero, List.getElem?_cons_succ, List.set_cons_zero, List.set_cons_succ, List.map_cons, List.map_nil, List.replicate, List.cons_append, List.nil_append, List.append_nil, Option.map_some, if_true, if_false, ite_true, ite_false, reduceIte, Nat.reduceAdd, Nat.reduceSub, Nat.reduceLeDiff, Nat.reduceEqDiff, Int.reduceAdd, modD_int, fdivD_int, mulR, mulL, Nat.sub_self, Nat.zero_add, Option.map_none, decide_true, decide_false, Bool.not_true, Bool.not_false, Tr.dat, end_end, Tr.ht]
  | .ask row l r, k + 1, h => by
    have h : 1 + max l.ht r.ht < k + 1 := h
    have h1 := height2_ok l k (by omega)
    have h2 := height2_ok r k (by omega)
    have e : ((Tr.ask row l r).ht : Int) = 1 + ((max l.ht r.ht : Nat) : Int) := by show ((1 + max l.ht r.ht : Nat) : Int) = _; omega
    rw [e]
    simp [m_law_tree_height, runP, b_law_tree_height, sQ, sIf, sN, qFz, qB, qAnd, qOr, qNot, qYes, e1, DL.e2, eV, eC, eN, eI, eIf, eAnd, eOr, eFz, eSl, oS, oN, aN, aC, aX, sAsg, sAsgO, sRet, sRetO, sRetN, sDrop, sSet, sAugI, sMut, sPar, sPat, iSeq, iN, gN, gT, gC, gZ, outP, outF, outI, en0, stillE, Sl.still, Sl.own, Sl.put, seqOf, ixD, p1, lenS, intD, absD, tupD, lstD, mkT, mkL, slD, slL, setLD, notD, negD, ltI, leI, gtI, geI, iB, addD, subD, isN, isNotN, atI_0, atI_1, atI_2, atI_3, ixN_40, ixN_41, ixN_42, eqD_int, neD_int, DL.flatB, DL.flatBs, max2D, min2D, iI, sl1, sl2, sl3, sl4, sl0, sl5, sl6, sl7, sl8, List.length_cons, List.length_nil, List.length_append, List.length_map, List.getElem?_cons_zero, List.getElem?_cons_succ, List.set_cons_zero, List.set_cons_succ, List.map_cons, List.map_nil, List.replicate, List.cons_append, List.nil_append, List.append_nil, Option.map_some, if_true, if_false, ite_true, ite_false, reduceIte, Nat.reduceAdd, Nat.reduceSub, Nat.reduceLeDiff, Nat.reduceEqDiff, Int.reduceAdd, modD_int, fdivD_int, mulR, mulL, Nat.sub_self, Nat.zero_add, Option.map_none, decide_true, decide_false, Bool.not_true, Bool.not_false, Tr.dat, ask_end, h1, h2]
    omega
theorem leaves_ok : ∀ (t : Tr) (k : Nat) (ls : List PyData), t.ht < k → ls.length + t.ht ≤ 16777216 → t.n ≤ 16777216 → m_leaves_behind k [t.dat, .tuple ls] = some (.list (t.lvs ls))
  | .fin c, k + 1, ls, _, _, _ => by simp [m_leaves_behind, runF, b_leaves_behind, sQ, sIf, sN, qFz, qB, qAnd, qOr, qNot, qYes, e1, DL.e2, eV, eC, eN, eI, eIf, eAnd, eOr, eFz, eSl, oS, oN, aN, aC, aX, sAsg, sAsgO, sRet, sRetO, sRetN, sDrop, sSet, sAugI, sMut, sPar, sPat, iSeq, iN, gN, gT, gC, gZ, outP, outF, outI, en0, stillE, Sl.still, Sl.own, Sl.put, seqOf, ixD, p1, lenS, intD, absD, tupD, lstD, mkT, mkL, slD, slL, setLD, notD, negD, ltI, leI, gtI, geI, iB, addD, subD, isN, isNotN, atI_0, atI_1, atI_2, atI_3, ixN_40, ixN_41, ixN_42, eqD_int, neD_int, DL.flatB, DL.flatBs, max2D, min2D, iI, sl1, sl2, sl3, sl4, sl0, sl5, sl6, sl7, sl8, List.length_cons, List.length_nil, List.length_append, List.length_map, List.getElem?_cons_zero, List.getElem?_cons_succ, List.set_cons_zero, List.set_cons_succ, List.map_cons, List.map_nil, List.replicate, List.cons_append, List.nil_append, List.append_nil, Option.map_some, if_true, if_false, ite_true, ite_false, reduceIte, Nat.reduceAdd, Nat.reduceSub, Nat.reduceLeDiff, Nat.reduceEqDiff, Int.reduceAdd, modD_int, fdivD_int, mulR, mulL, Nat.sub_self, Nat.zero_add, Option.map_none, decide_true, decide_false, Bool.not_true, Bool.not_false, Tr.dat, end_end, Tr.lvs]
  | .ask row l r, k + 1, ls, h, h1, h2 => by
    have h : 1 + max l.ht r.ht < k + 1 := h
    have h1 : ls.length + (1 + max l.ht r.ht) ≤ 16777216 := h1
    have h2 : l.n + r.n ≤ 16777216 := h2
    have h3 : ls.length + 1 ≤ sizeLine := by rw [sizeLine_eq]; omega
    have h4 : l.n + r.n ≤ sizeLine := by rw [sizeLine_eq]; omega
    have e1 := leaves_ok l k (ls ++ [.tuple [rowD row, .int 0]]) (by omega) (by rw [List.length_append, List.length_singleton]; omega) (by omega)
    have e2 := leaves_ok r k (ls ++ [.tuple [rowD row, .int 1]]) (by omega) (by rw [List.length_append, List.length_singleton]; omega) (by omega)
    simp [m_leaves_behind, runF, b_leaves_behind, DL.e2, sQ, sIf, sN, qFz, qB, qAnd, qOr, qNot, qYes, e1, DL.e2, eV, eC, eN, eI, eIf, eAnd, eOr, eFz, eSl, oS, oN, aN, aC, aX, sAsg, sAsgO, sRet, sRetO, sRetN, sDrop, sSet, sAugI, sMut, sPar, sPat, iSeq, iN, gN, gT, gC, gZ, outP, outF, outI, en0, stillE, Sl.still, Sl.own, Sl.put, seqOf, ixD, p1, lenS, intD, absD, tupD, lstD, mkT, mkL, slD, slL, setLD, notD, negD, ltI, leI, gtI, geI, iB, addD, subD, isN, isNotN, atI_0, atI_1, atI_2, atI_3, ixN_40, ixN_41, ixN_42, eqD_int, neD_int, DL.flatB, DL.flatBs, max2D, min2D, iI, sl1, sl2, sl3, sl4, sl0, sl5, sl6, sl7, sl8, List.length_cons, List.length_nil, List.length_append, List.length_map, List.getElem?_cons_zero, List.getElem?_cons_succ, List.set_cons_zero, List.set_cons_succ, List.map_cons, List.map_nil, List.replicate, List.cons_append, List.nil_append, List.append_nil, Option.map_some, if_true, if_false, ite_true, ite_false, reduceIte, Nat.reduceAdd, Nat.reduceSub, Nat.reduceLeDiff, Nat.reduceEqDiff, Int.reduceAdd, modD_int, fdivD_int, mulR, mulL, Nat.sub_self, Nat.zero_add, Option.map_none, decide_true, decide_false, Bool.not_true, Bool.not_false, Tr.dat, ask_end, Tr.lvs, e1, e2, h3, h4, catF, Tr.lvs_len]
theorem leaves2_ok : ∀ (t : Tr) (k : Nat) (ls : List PyData), t.ht < k → ls.length + t.ht ≤ 16777216 → t.n ≤ 16777216 → m_law_tree_leaves k [t.dat, .tuple ls] = some (.list (t.lvs ls))
  | .fin c, k + 1, ls, _, _, _ => by simp [m_law_tree_leaves, runP, b_law_tree_leaves, sQ, sIf, sN, qFz, qB, qAnd, qOr, qNot, qYes, e1, DL.e2, eV, eC, eN, eI, eIf, eAnd, eOr, eFz, eSl, oS, oN, aN, aC, aX, sAsg, sAsgO, sRet, sRetO, sRetN, sDrop, sSet, sAugI, sMut, sPar, sPat, iSeq, iN, gN, gT, gC, gZ, outP, outF, outI, en0, stillE, Sl.still, Sl.own, Sl.put, seqOf, ixD, p1, lenS, intD, absD, tupD, lstD, mkT, mkL, slD, slL, setLD, notD, negD, ltI, leI, gtI, geI, iB, addD, subD, isN, isNotN, atI_0, atI_1, atI_2, atI_3, ixN_40, ixN_41, ixN_42, eqD_int, neD_int, DL.flatB, DL.flatBs, max2D, min2D, iI, sl1, sl2, sl3, sl4, sl0, sl5, sl6, sl7, sl8, List.length_cons, List.length_nil, List.length_append, List.length_map, List.getElem?_cons_zero, List.getElem?_cons_succ, List.set_cons_zero, List.set_cons_succ, List.map_cons, List.map_nil, List.replicate, List.cons_append, List.nil_append, List.append_nil, Option.map_some, if_true, if_false, ite_true, ite_false, reduceIte, Nat.reduceAdd, Nat.reduceSub, Nat.reduceLeDiff, Nat.reduceEqDiff, Int.reduceAdd, modD_int, fdivD_int, mulR, mulL, Nat.sub_self, Nat.zero_add, Option.map_none, decide_true, decide_false, Bool.not_true, Bool.not_false, Tr.dat, end_end, Tr.lvs]
  | .ask row l r, k + 1, ls, h, h1, h2 => by
    have h : 1 + max l.ht r.ht < k + 1 := h
    have h1 : ls.length + (1 + max l.ht r.ht) ≤ 16777216 := h1
    have h2 : l.n + r.n ≤ 16777216 := h2
    have h3 : ls.length + 1 ≤ sizeLine := by rw [sizeLine_eq]; omega
    have h4 : l.n + r.n ≤ sizeLine := by rw [sizeLine_eq]; omega
    have q1 := leaves2_ok l k (ls ++ [.tuple [rowD row, .int 0]]) (by omega) (by rw [List.length_append, List.length_singleton]; omega) (by omega)
    have q2 := leaves2_ok r k (ls ++ [.tuple [rowD row, .int 1]]) (by omega) (by rw [List.length_append, List.length_singleton]; omega) (by omega)
    simp [m_law_tree_leaves, runP, b_law_tree_leaves, sQ, sIf, sN, qFz, qB, qAnd, qOr, qNot, qYes, e1, DL.e2, eV, eC, eN, eI, eIf, eAnd, eOr, eFz, eSl, oS, oN, aN, aC, aX, sAsg, sAsgO, sRet, sRetO, sRetN, sDrop, sSet, sAugI, sMut, sPar, sPat, iSeq, iN, gN, gT, gC, gZ, outP, outF, outI, en0, stillE, Sl.still, Sl.own, Sl.put, seqOf, ixD, p1, lenS, intD, absD, tupD, lstD, mkT, mkL, slD, slL, setLD, notD, negD, ltI, leI, gtI, geI, iB, addD, subD, isN, isNotN, atI_0, atI_1, atI_2, atI_3, ixN_40, ixN_41, ixN_42, eqD_int, neD_int, DL.flatB, DL.flatBs, max2D, min2D, iI, sl1, sl2, sl3, sl4, sl0, sl5, sl6, sl7, sl8, List.length_cons, List.length_nil, List.length_append, List.length_map, List.getElem?_cons_zero, List.getElem?_cons_succ, List.set_cons_zero, List.set_cons_succ, List.map_cons, List.map_nil, List.replicate, List.cons_append, List.nil_append, List.append_nil, Option.map_some, if_true, if_false, ite_true, ite_false, reduceIte, Nat.reduceAdd, Nat.reduceSub, Nat.reduceLeDiff, Nat.reduceEqDiff, Int.reduceAdd, modD_int, fdivD_int, mulR, mulL, Nat.sub_self, Nat.zero_add, Option.map_none, decide_true, decide_false, Bool.not_true, Bool.not_false, Tr.dat, ask_end, Tr.lvs, q1, q2, h3, h4, Tr.lvs_len]
/-! sizes -/
theorem row_nc {row : List Int} (h : GoodRow row) : Nc 1 6 (rowD row) := (NcL.ints' (fun i hi => by have := h.2 i hi; omega)).tup.le (by decide) h.1
theorem nc_end : Nc 0 3 (.str "end") := Nc.str ok_end (by decide)
theorem nc_ask : Nc 0 3 (.str "ask") := Nc.str ok_ask (by decide)
theorem Tr.nc : ∀ (t : Tr), t.good → Nc (t.ht + 2) (18 * t.n - 13) t.dat
  | .fin c, h => (NcL.cons nc_end (NcL.cons (Nc.int (by have := h.1; have := h.2; omega)) NcL.nil)).tup.le (by show max 0 (max 0 0) + 1 ≤ 0 + 2; decide) (by show 3 + 1 + (0 + 1 + 0) ≤ 18 * 1 - 13; decide)
  | .ask row l r, h => (NcL.cons nc_ask (NcL.cons (row_nc h.1) (NcL.cons (l.nc h.2.1) (NcL.cons (r.nc h.2.2) NcL.nil)))).tup.le
      (by show max 0 (max 1 (max (l.ht + 2) (max (r.ht + 2) 0))) + 1 ≤ 1 + max l.ht r.ht + 2; omega)
      (by show 3 + 1 + (6 + 1 + (18 * l.n - 13 + 1 + (18 * r.n - 13 + 1 + 0))) ≤ 18 * (l.n + r.n) - 13; have := l.n_pos; have := r.n_pos; omega)
theorem Tr.lvs_nc (B : Nat) : ∀ (t : Tr) (ls : List PyData) (W : Nat), t.good → NcL 2 W ls → W + 9 * t.ht ≤ B → NcL 4 ((B + 3) * t.n) (t.lvs ls)
  | .fin c, ls, W, h, hl, hB => (NcL.cons (NcL.cons (Nc.int (i := c) (by have := h.1; have := h.2; omega)) (NcL.cons hl.tup NcL.nil)).tup NcL.nil).le (by decide) (by
      have hB : W + 9 * 0 ≤ B := hB
      show 0 + 1 + (W + 1 + 0) + 1 + 0 ≤ (B + 3) * 1; omega)
  | .ask row l r, ls, W, h, hl, hB => by
    have hB : W + 9 * (1 + max l.ht r.ht) ≤ B := hB
    have a1 := Tr.lvs_nc B l (ls ++ [.tuple [rowD row, .int 0]]) (W + 9) h.2.1 ((NcL.append (NcL.cons (NcL.cons (row_nc h.1) (NcL.cons (Nc.int (i := 0) (by decide)) NcL.nil)).tup NcL.nil) hl).le (by decide) (by omega)) (by omega)
    have a2 := Tr.lvs_nc B r (ls ++ [.tuple [rowD row, .int 1]]) (W + 9) h.2.2 ((NcL.append (NcL.cons (NcL.cons (row_nc h.1) (NcL.cons (Nc.int (i := 1) (by decide)) NcL.nil)).tup NcL.nil) hl).le (by decide) (by omega)) (by omega)
    exact (NcL.append a2 a1).le (by decide) (by show _ ≤ (B + 3) * (l.n + r.n); rw [Nat.mul_add]; exact Nat.le_refl _)
theorem pair_nc {t : Tr} (h : t.good) (h1 : t.ht ≤ 21) (h2 : t.n ≤ 41) : Nc 64 100000 (.list [.list (t.lvs []), .int t.ht]) := by
  refine (NcL.cons (Tr.lvs_nc 189 t [] 0 h (NcL.nil.le (Nat.zero_le _) (Nat.le_refl _)) (by omega)).lst (NcL.cons (Nc.int (i := (t.ht : Int)) (by omega)) NcL.nil)).lst.le (by decide) ?_
  omega
/-- the two lists are alike -/
theorem alike_ok {d : PyData} (h : Nc 64 100000 d) : m_law_alike [d, d] = some (.bool true) := by
  have h1 := eqD_refl h (by decide)
  have h2 := reprD_of (h.repr (by decide) (by decide))
  have h3 : eqD (.str d.shown) (.str d.shown) = some (.bool true) := by rw [eqD_str]; simp
  simp [m_law_alike, runP, b_law_alike, sQ, sIf, sN, qFz, qB, qAnd, qOr, qNot, qYes, e1, DL.e2, eV, eC, eN, eI, eIf, eAnd, eOr, eFz, eSl, oS, oN, aN, aC, aX, sAsg, sAsgO, sRet, sRetO, sRetN, sDrop, sSet, sAugI, sMut, sPar, sPat, iSeq, iN, gN, gT, gC, gZ, outP, outF, outI, en0, stillE, Sl.still, Sl.own, Sl.put, seqOf, ixD, p1, lenS, intD, absD, tupD, lstD, mkT, mkL, slD, slL, setLD, notD, negD, ltI, leI, gtI, geI, iB, addD, subD, isN, isNotN, atI_0, atI_1, atI_2, atI_3, ixN_40, ixN_41, ixN_42, eqD_int, neD_int, DL.flatB, DL.flatBs, max2D, min2D, iI, sl1, sl2, sl3, sl4, sl0, sl5, sl6, sl7, sl8, List.length_cons, List.length_nil, List.length_append, List.length_map, List.getElem?_cons_zero, List.getElem?_cons_succ, List.set_cons_zero, List.set_cons_succ, List.map_cons, List.map_nil, List.replicate, List.cons_append, List.nil_append, List.append_nil, Option.map_some, if_true, if_false, ite_true, ite_false, reduceIte, Nat.reduceAdd, Nat.reduceSub, Nat.reduceLeDiff, Nat.reduceEqDiff, Int.reduceAdd, modD_int, fdivD_int, mulR, mulL, Nat.sub_self, Nat.zero_add, Option.map_none, decide_true, decide_false, Bool.not_true, Bool.not_false, h1, h2, h3]
theorem leaves_of_ok {t : Tr} (h1 : t.ht ≤ 21) (h2 : t.n ≤ 41) : m_leaves_of [t.dat] = some (.list (t.lvs [])) := by
  have h := leaves_ok t 40 [] (by omega) (by show 0 + t.ht ≤ _; omega) (by omega)
  simp [m_leaves_of, runF, b_leaves_of, sQ, sIf, sN, qFz, qB, qAnd, qOr, qNot, qYes, e1, DL.e2, eV, eC, eN, eI, eIf, eAnd, eOr, eFz, eSl, oS, oN, aN, aC, aX, sAsg, sAsgO, sRet, sRetO, sRetN, sDrop, sSet, sAugI, sMut, sPar, sPat, iSeq, iN, gN, gT, gC, gZ, outP, outF, outI, en0, stillE, Sl.still, Sl.own, Sl.put, seqOf, ixD, p1, lenS, intD, absD, tupD, lstD, mkT, mkL, slD, slL, setLD, notD, negD, ltI, leI, gtI, geI, iB, addD, subD, isN, isNotN, atI_0, atI_1, atI_2, atI_3, ixN_40, ixN_41, ixN_42, eqD_int, neD_int, DL.flatB, DL.flatBs, max2D, min2D, iI, sl1, sl2, sl3, sl4, sl0, sl5, sl6, sl7, sl8, List.length_cons, List.length_nil, List.length_append, List.length_map, List.getElem?_cons_zero, List.getElem?_cons_succ, List.set_cons_zero, List.set_cons_succ, List.map_cons, List.map_nil, List.replicate, List.cons_append, List.nil_append, List.append_nil, Option.map_some, if_true, if_false, ite_true, ite_false, reduceIte, Nat.reduceAdd, Nat.reduceSub, Nat.reduceLeDiff, Nat.reduceEqDiff, Int.reduceAdd, modD_int, fdivD_int, mulR, mulL, Nat.sub_self, Nat.zero_add, Option.map_none, decide_true, decide_false, Bool.not_true, Bool.not_false, h]
/-- the inner loop -/
theorem again_ok {t : Tr} (hg : t.good) (h1 : t.ht ≤ 21) (h2 : t.n ≤ 41) {s0 s1 s2 s3 s4 s8 s9 : Sl} :
    ∃ s8' s9', sFor (iN rng1 (aC (eC (.int 2)) aN)) (gN 8) (sQ (sAsgO 9 (eN m_leaves_of (aC (eV 5) aN))) (sQ (sIf (qOr (qNot (qFz (qB (eN m_law_alike (aC (eN mkL (aC (eV 9) (aC (eN (m_height_of 40) (aC (eV 5) aN)) aN))) (aC (eN mkL (aC (eV 6) (aC (eN (m_law_tree_height 40) (aC (eV 5) aN)) aN))) aN)))))) (qB (e2 neD (eN (p1 reprD) (aC (eV 5) aN)) (eV 7)))) (sRet (eC (.bool false))) sN) (sMut 9 appD (aC (eC .none) aN)))) [s0, s1, s2, s3, s4, .d t.dat, .d (.list (t.lvs [])), .d (.str t.dat.shown), s8, s9] = some (.nx [s0, s1, s2, s3, s4, .d t.dat, .d (.list (t.lvs [])), .d (.str t.dat.shown), s8', s9']) := by
  obtain ⟨ρ', k1, s8', s9', rfl⟩ := sFor_inv (it := (iN rng1 (aC (eC (.int 2)) aN))) (g := (gN 8)) (ψ := (sQ (sAsgO 9 (eN m_leaves_of (aC (eV 5) aN))) (sQ (sIf (qOr (qNot (qFz (qB (eN m_law_alike (aC (eN mkL (aC (eV 9) (aC (eN (m_height_of 40) (aC (eV 5) aN)) aN))) (aC (eN mkL (aC (eV 6) (aC (eN (m_law_tree_height 40) (aC (eV 5) aN)) aN))) aN)))))) (qB (e2 neD (eN (p1 reprD) (aC (eV 5) aN)) (eV 7)))) (sRet (eC (.bool false))) sN) (sMut 9 appD (aC (eC .none) aN))))) (ρ := [s0, s1, s2, s3, s4, .d t.dat, .d (.list (t.lvs [])), .d (.str t.dat.shown), s8, s9]) (ρ0 := [s0, s1, s2, s3, s4, .d t.dat, .d (.list (t.lvs [])), .d (.str t.dat.shown), s8, s9])
    (ds := upI 0 2) (by have h : rng1 [.int 2] = some (upI 0 2) := rng1_ok (n := 2) (by decide); simp [sQ, sIf, sN, qFz, qB, qAnd, qOr, qNot, qYes, e1, DL.e2, eV, eC, eN, eI, eIf, eAnd, eOr, eFz, eSl, oS, oN, aN, aC, aX, sAsg, sAsgO, sRet, sRetO, sRetN, sDrop, sSet, sAugI, sMut, sPar, sPat, iSeq, iN, gN, gT, gC, gZ, outP, outF, outI, en0, stillE, Sl.still, Sl.own, Sl.put, seqOf, ixD, p1, lenS, intD, absD, tupD, lstD, mkT, mkL, slD, slL, setLD, notD, negD, ltI, leI, gtI, geI, iB, addD, subD, isN, isNotN, atI_0, atI_1, atI_2, atI_3, ixN_40, ixN_41, ixN_42, eqD_int, neD_int, DL.flatB, DL.flatBs, max2D, min2D, iI, sl1, sl2, sl3, sl4, sl0, sl5, sl6, sl7, sl8, List.length_cons, List.length_nil, List.length_append, List.length_map, List.getElem?_cons_zero, List.getElem?_cons_succ, List.set_cons_zero, List.set_cons_succ, List.map_cons, List.map_nil, List.replicate, List.cons_append, List.nil_append, List.append_nil, Option.map_some, if_true, if_false, ite_true, ite_false, reduceIte, Nat.reduceAdd, Nat.reduceSub, Nat.reduceLeDiff, Nat.reduceEqDiff, Int.reduceAdd, modD_int, fdivD_int, mulR, mulL, Nat.sub_self, Nat.zero_add, Option.map_none, decide_true, decide_false, Bool.not_true, Bool.not_false, h])
    (fun done ρ => ∃ s8 s9, ρ = [s0, s1, s2, s3, s4, .d t.dat, .d (.list (t.lvs [])), .d (.str t.dat.shown), s8, s9])
    ⟨s8, s9, rfl⟩
    (fun done x rest ρ e ⟨s8, s9, e1⟩ => by
      subst e1
      have q1 := leaves_of_ok h1 h2
      have q2 := height_ok t 40 (by omega)
      have q3 := height2_ok t 40 (by omega)
      have q4 := alike_ok (pair_nc hg h1 h2)
      have q5 := reprD_of (((t.nc hg).le (show _ ≤ 64 by omega) (show _ ≤ 100000 by omega)).repr (by decide) (by decide))
      have q6 : appD (t.lvs []) [.none] = some (t.lvs [] ++ [.none]) := by
        show (if (t.lvs []).length < 16777216 then some (t.lvs [] ++ [PyData.none]) else none) = _
        rw [if_pos (by rw [Tr.lvs_len]; omega)]
      refine ⟨[s0, s1, s2, s3, s4, .d t.dat, .d (.list (t.lvs [])), .d (.str t.dat.shown), .d x, s9], [s0, s1, s2, s3, s4, .d t.dat, .d (.list (t.lvs [])), .d (.str t.dat.shown), .d x, .o (.list (t.lvs [] ++ [.none]))], rfl, ?_, _, _, rfl⟩
      have hn : ∀ s : Str, neD (.str s) (.str s) = some (.bool false) := fun s => by rw [neD_str]; simp
      simp [sQ, sIf, sN, qFz, qB, qAnd, qOr, qNot, qYes, e1, DL.e2, eV, eC, eN, eI, eIf, eAnd, eOr, eFz, eSl, oS, oN, aN, aC, aX, sAsg, sAsgO, sRet, sRetO, sRetN, sDrop, sSet, sAugI, sMut, sPar, sPat, iSeq, iN, gN, gT, gC, gZ, outP, outF, outI, en0, stillE, Sl.still, Sl.own, Sl.put, seqOf, ixD, p1, lenS, intD, absD, tupD, lstD, mkT, mkL, slD, slL, setLD, notD, negD, ltI, leI, gtI, geI, iB, addD, subD, isN, isNotN, atI_0, atI_1, atI_2, atI_3, ixN_40, ixN_41, ixN_42, eqD_int, neD_int, DL.flatB, DL.flatBs, max2D, min2D, iI, sl1, sl2, sl3, sl4, sl0, sl5, sl6, sl7, sl8, List.length_cons, List.length_nil, List.length_append, List.length_map, List.getElem?_cons_zero, List.getElem?_cons_succ, List.set_cons_zero, List.set_cons_succ, List.map_cons, List.map_nil, List.replicate, List.cons_append, List.nil_append, List.append_nil, Option.map_some, if_true, if_false, ite_true, ite_false, reduceIte, Nat.reduceAdd, Nat.reduceSub, Nat.reduceLeDiff, Nat.reduceEqDiff, Int.reduceAdd, modD_int, fdivD_int, mulR, mulL, Nat.sub_self, Nat.zero_add, Option.map_none, decide_true, decide_false, Bool.not_true, Bool.not_false, q1, q2, q3, q4, q5, q6, hn])
  exact ⟨s8', s9', k1⟩
/-- one turn of the law -/
theorem turn_ok {b : Bag} (hb : BagOk b) {s0 s2 s3 s4 s5 s6 s7 s8 s9 : Sl} :
    ∃ (b' : Bag) (t3 t4 t5 t6 t7 t8 t9 : Sl), (sQ (sPar 3 4 (aC (e2 addD (eC (.int 1)) (eI m_law_take 1 (aC (eC (.int 6)) aN))) (aC (e2 addD (eC (.int 1)) (eI m_law_take 1 (aC (eC (.int 9)) aN))) aN))) (sQ (sAsg 5 (eI (m_law_any_tree 40) 1 (aC (eV 3) (aC (eV 4) (aC (eI m_law_some 1 (aC (eN mkL (aC (eC (.int 2)) (aC (eC (.int 3)) (aC (eC (.int 5)) (aC (eC (.int 0)) aN))))) aN)) aN))))) (sQ (sIf (qB (e2 eqD (eI m_law_take 1 (aC (eC (.int 3)) aN)) (eC (.int 0)))) (sAsg 5 (eI m_law_lopsided 1 (aC (eV 3) (aC (eV 4) (aC (eI m_law_some 1 (aC (eN mkL (aC (eC (.int 6)) (aC (eC (.int 12)) (aC (eC (.int 20)) aN)))) aN)) aN))))) sN) (sQ (sPar 6 7 (aC (eN (m_law_tree_leaves 40) (aC (eV 5) (aC (eN mkT aN) aN))) (aC (eN (p1 reprD) (aC (eV 5) aN)) aN))) (sFor (iN rng1 (aC (eC (.int 2)) aN)) (gN 8) (sQ (sAsgO 9 (eN m_leaves_of (aC (eV 5) aN))) (sQ (sIf (qOr (qNot (qFz (qB (eN m_law_alike (aC (eN mkL (aC (eV 9) (aC (eN (m_height_of 40) (aC (eV 5) aN)) aN))) (aC (eN mkL (aC (eV 6) (aC (eN (m_law_tree_height 40) (aC (eV 5) aN)) aN))) aN)))))) (qB (e2 neD (eN (p1 reprD) (aC (eV 5) aN)) (eV 7)))) (sRet (eC (.bool false))) sN) (sMut 9 appD (aC (eC .none) aN))))))))) [s0, .o (bagV b), s2, s3, s4, s5, s6, s7, s8, s9] = some (.nx [s0, .o (bagV b'), s2, t3, t4, t5, t6, t7, t8, t9]) ∧ BagOk b' := by
  obtain ⟨m, b1, ht1, ok1, m0, m1⟩ := take_ok hb (many := 6) (by decide) (by decide)
  obtain ⟨c, b2, ht2, ok2, c0, c1⟩ := take_ok ok1 (many := 9) (by decide) (by decide)
  obtain ⟨x, b3, ht3, ok3, hx⟩ := some_ok ok2 (xs := [.int 2, .int 3, .int 5, .int 0]) (by decide) (by decide)
  have hx' : ∃ n : Nat, x = .int n ∧ n ≤ 5 := by
    have h3 : x = .int 2 ∨ x = .int 3 ∨ x = .int 5 ∨ x = .int 0 := by simpa using hx
    rcases h3 with rfl | rfl | rfl | rfl
    · exact ⟨2, rfl, by decide⟩
    · exact ⟨3, rfl, by decide⟩
    · exact ⟨5, rfl, by decide⟩
    · exact ⟨0, rfl, by decide⟩
  obtain ⟨n, rfl, hn⟩ := hx'
  obtain ⟨t0, b4, ht4, ok4, g0, l0, n0⟩ := any_tree_ok (many := 1 + m) (clauses := 1 + c) (by omega) (by omega) (by omega) (by omega) n 40 b3 (by omega) ok3
  have n0' : t0.n ≤ 32 := Nat.le_trans n0 (Nat.pow_le_pow_right (by decide) hn)
  obtain ⟨r, b5, ht5, ok5, r0, r1⟩ := take_ok ok4 (many := 3) (by decide) (by decide)
  have key : ∃ (t : Tr) (b6 : Bag), sIf (qB (DL.e2 eqD (eI m_law_take 1 (aC (eC (.int 3)) aN)) (eC (.int 0)))) (sAsg 5 (eI m_law_lopsided 1 (aC (eV 3) (aC (eV 4) (aC (eI m_law_some 1 (aC (eN mkL (aC (eC (.int 6)) (aC (eC (.int 12)) (aC (eC (.int 20)) aN)))) aN)) aN))))) sN [s0, .o (bagV b4), s2, .d (.int (1 + m)), .d (.int (1 + c)), .d t0.dat, s6, s7, s8, s9] = some (.nx [s0, .o (bagV b6), s2, .d (.int (1 + m)), .d (.int (1 + c)), .d t.dat, s6, s7, s8, s9]) ∧ BagOk b6 ∧ t.good ∧ t.ht ≤ 21 ∧ t.n ≤ 41 := by
    by_cases hr : r = 0
    · obtain ⟨y, b6, ht6, ok6, hy⟩ := some_ok ok5 (xs := [.int 6, .int 12, .int 20]) (by decide) (by decide)
      have hy' : ∃ n : Nat, y = .int n ∧ n ≤ 20 := by
        have h3 : y = .int 6 ∨ y = .int 12 ∨ y = .int 20 := by simpa using hy
        rcases h3 with rfl | rfl | rfl
        · exact ⟨6, rfl, by decide⟩
        · exact ⟨12, rfl, by decide⟩
        · exact ⟨20, rfl, by decide⟩
      obtain ⟨p, rfl, hp⟩ := hy'
      obtain ⟨t, b7, ht7, ok7, g, l, nn⟩ := lopsided_ok (many := 1 + m) (clauses := 1 + c) (by omega) (by omega) (by omega) (by omega) hp ok6
      refine ⟨t, b7, ?_, ok7, g, l, nn⟩
      simp [sQ, sIf, sN, qFz, qB, qAnd, qOr, qNot, qYes, e1, DL.e2, eV, eC, eN, eI, eIf, eAnd, eOr, eFz, eSl, oS, oN, aN, aC, aX, sAsg, sAsgO, sRet, sRetO, sRetN, sDrop, sSet, sAugI, sMut, sPar, sPat, iSeq, iN, gN, gT, gC, gZ, outP, outF, outI, en0, stillE, Sl.still, Sl.own, Sl.put, seqOf, ixD, p1, lenS, intD, absD, tupD, lstD, mkT, mkL, slD, slL, setLD, notD, negD, ltI, leI, gtI, geI, iB, addD, subD, isN, isNotN, atI_0, atI_1, atI_2, atI_3, ixN_40, ixN_41, ixN_42, eqD_int, neD_int, DL.flatB, DL.flatBs, max2D, min2D, iI, sl1, sl2, sl3, sl4, sl0, sl5, sl6, sl7, sl8, List.length_cons, List.length_nil, List.length_append, List.length_map, List.getElem?_cons_zero, List.getElem?_cons_succ, List.set_cons_zero, List.set_cons_succ, List.map_cons, List.map_nil, List.replicate, List.cons_append, List.nil_append, List.append_nil, Option.map_some, if_true, if_false, ite_true, ite_false, reduceIte, Nat.reduceAdd, Nat.reduceSub, Nat.reduceLeDiff, Nat.reduceEqDiff, Int.reduceAdd, modD_int, fdivD_int, mulR, mulL, Nat.sub_self, Nat.zero_add, Option.map_none, decide_true, decide_false, Bool.not_true, Bool.not_false, ht5, hr, ht6, ht7]
    · refine ⟨t0, b5, ?_, ok5, g0, by omega, by omega⟩
      simp [sQ, sIf, sN, qFz, qB, qAnd, qOr, qNot, qYes, e1, DL.e2, eV, eC, eN, eI, eIf, eAnd, eOr, eFz, eSl, oS, oN, aN, aC, aX, sAsg, sAsgO, sRet, sRetO, sRetN, sDrop, sSet, sAugI, sMut, sPar, sPat, iSeq, iN, gN, gT, gC, gZ, outP, outF, outI, en0, stillE, Sl.still, Sl.own, Sl.put, seqOf, ixD, p1, lenS, intD, absD, tupD, lstD, mkT, mkL, slD, slL, setLD, notD, negD, ltI, leI, gtI, geI, iB, addD, subD, isN, isNotN, atI_0, atI_1, atI_2, atI_3, ixN_40, ixN_41, ixN_42, eqD_int, neD_int, DL.flatB, DL.flatBs, max2D, min2D, iI, sl1, sl2, sl3, sl4, sl0, sl5, sl6, sl7, sl8, List.length_cons, List.length_nil, List.length_append, List.length_map, List.getElem?_cons_zero, List.getElem?_cons_succ, List.set_cons_zero, List.set_cons_succ, List.map_cons, List.map_nil, List.replicate, List.cons_append, List.nil_append, List.append_nil, Option.map_some, if_true, if_false, ite_true, ite_false, reduceIte, Nat.reduceAdd, Nat.reduceSub, Nat.reduceLeDiff, Nat.reduceEqDiff, Int.reduceAdd, modD_int, fdivD_int, mulR, mulL, Nat.sub_self, Nat.zero_add, Option.map_none, decide_true, decide_false, Bool.not_true, Bool.not_false, ht5, hr]
  obtain ⟨t, b6, k1, ok6, hg, hh, hnn⟩ := key
  have q1 := leaves2_ok t 40 [] (by omega) (by show 0 + t.ht ≤ _; omega) (by omega)
  have q5 := reprD_of (((t.nc hg).le (show _ ≤ 64 by omega) (show _ ≤ 100000 by omega)).repr (by decide) (by decide))
  obtain ⟨s8', s9', k2⟩ := again_ok hg hh hnn (s0 := s0) (s1 := .o (bagV b6)) (s2 := s2) (s3 := .d (.int (1 + m))) (s4 := .d (.int (1 + c))) (s8 := s8) (s9 := s9)
  refine ⟨b6, .d (.int (1 + m)), .d (.int (1 + c)), .d t.dat, .d (.list (t.lvs [])), .d (.str t.dat.shown), s8', s9', ?_, ok6⟩
  rw [sQ_nx (ρ1 := [s0, .o (bagV b2), s2, .d (.int (1 + m)), .d (.int (1 + c)), s5, s6, s7, s8, s9]) (by simp [sQ, sIf, sN, qFz, qB, qAnd, qOr, qNot, qYes, e1, DL.e2, eV, eC, eN, eI, eIf, eAnd, eOr, eFz, eSl, oS, oN, aN, aC, aX, sAsg, sAsgO, sRet, sRetO, sRetN, sDrop, sSet, sAugI, sMut, sPar, sPat, iSeq, iN, gN, gT, gC, gZ, outP, outF, outI, en0, stillE, Sl.still, Sl.own, Sl.put, seqOf, ixD, p1, lenS, intD, absD, tupD, lstD, mkT, mkL, slD, slL, setLD, notD, negD, ltI, leI, gtI, geI, iB, addD, subD, isN, isNotN, atI_0, atI_1, atI_2, atI_3, ixN_40, ixN_41, ixN_42, eqD_int, neD_int, DL.flatB, DL.flatBs, max2D, min2D, iI, sl1, sl2, sl3, sl4, sl0, sl5, sl6, sl7, sl8, List.length_cons, List.length_nil, List.length_append, List.length_map, List.getElem?_cons_zero, List.getElem?_cons_succ, List.set_cons_zero, List.set_cons_succ, List.map_cons, List.map_nil, List.replicate, List.cons_append, List.nil_append, List.append_nil, Option.map_some, if_true, if_false, ite_true, ite_false, reduceIte, Nat.reduceAdd, Nat.reduceSub, Nat.reduceLeDiff, Nat.reduceEqDiff, Int.reduceAdd, modD_int, fdivD_int, mulR, mulL, Nat.sub_self, Nat.zero_add, Option.map_none, decide_true, decide_false, Bool.not_true, Bool.not_false, ht1, ht2])]
  rw [sQ_nx (ρ1 := [s0, .o (bagV b4), s2, .d (.int (1 + m)), .d (.int (1 + c)), .d t0.dat, s6, s7, s8, s9]) (by simp [sQ, sIf, sN, qFz, qB, qAnd, qOr, qNot, qYes, e1, DL.e2, eV, eC, eN, eI, eIf, eAnd, eOr, eFz, eSl, oS, oN, aN, aC, aX, sAsg, sAsgO, sRet, sRetO, sRetN, sDrop, sSet, sAugI, sMut, sPar, sPat, iSeq, iN, gN, gT, gC, gZ, outP, outF, outI, en0, stillE, Sl.still, Sl.own, Sl.put, seqOf, ixD, p1, lenS, intD, absD, tupD, lstD, mkT, mkL, slD, slL, setLD, notD, negD, ltI, leI, gtI, geI, iB, addD, subD, isN, isNotN, atI_0, atI_1, atI_2, atI_3, ixN_40, ixN_41, ixN_42, eqD_int, neD_int, DL.flatB, DL.flatBs, max2D, min2D, iI, sl1, sl2, sl3, sl4, sl0, sl5, sl6, sl7, sl8, List.length_cons, List.length_nil, List.length_append, List.length_map, List.getElem?_cons_zero, List.getElem?_cons_succ, List.set_cons_zero, List.set_cons_succ, List.map_cons, List.map_nil, List.replicate, List.cons_append, List.nil_append, List.append_nil, Option.map_some, if_true, if_false, ite_true, ite_false, reduceIte, Nat.reduceAdd, Nat.reduceSub, Nat.reduceLeDiff, Nat.reduceEqDiff, Int.reduceAdd, modD_int, fdivD_int, mulR, mulL, Nat.sub_self, Nat.zero_add, Option.map_none, decide_true, decide_false, Bool.not_true, Bool.not_false, ht3, ht4])]
  rw [sQ_nx k1]
  rw [sQ_nx (ρ1 := [s0, .o (bagV b6), s2, .d (.int (1 + m)), .d (.int (1 + c)), .d t.dat, .d (.list (t.lvs [])), .d (.str t.dat.shown), s8, s9]) (by simp [sQ, sIf, sN, qFz, qB, qAnd, qOr, qNot, qYes, e1, DL.e2, eV, eC, eN, eI, eIf, eAnd, eOr, eFz, eSl, oS, oN, aN, aC, aX, sAsg, sAsgO, sRet, sRetO, sRetN, sDrop, sSet, sAugI, sMut, sPar, sPat, iSeq, iN, gN, gT, gC, gZ, outP, outF, outI, en0, stillE, Sl.still, Sl.own, Sl.put, seqOf, ixD, p1, lenS, intD, absD, tupD, lstD, mkT, mkL, slD, slL, setLD, notD, negD, ltI, leI, gtI, geI, iB, addD, subD, isN, isNotN, atI_0, atI_1, atI_2, atI_3, ixN_40, ixN_41, ixN_42, eqD_int, neD_int, DL.flatB, DL.flatBs, max2D, min2D, iI, sl1, sl2, sl3, sl4, sl0, sl5, sl6, sl7, sl8, List.length_cons, List.length_nil, List.length_append, List.length_map, List.getElem?_cons_zero, List.getElem?_cons_succ, List.set_cons_zero, List.set_cons_succ, List.map_cons, List.map_nil, List.replicate, List.cons_append, List.nil_append, List.append_nil, Option.map_some, if_true, if_false, ite_true, ite_false, reduceIte, Nat.reduceAdd, Nat.reduceSub, Nat.reduceLeDiff, Nat.reduceEqDiff, Int.reduceAdd, modD_int, fdivD_int, mulR, mulL, Nat.sub_self, Nat.zero_add, Option.map_none, decide_true, decide_false, Bool.not_true, Bool.not_false, q1, q5])]
  exact k2
theorem law_true (ns : List Int) (h : ns.length ≤ 63) : ∃ ρ', b_law (DL.lawEn 10 1 ns) = some (.ret (.bool true) ρ') := by
  obtain ⟨b0, e0, hb0⟩ := bag0 ns h
  have he : DL.lawEn 10 1 ns = [.u, .o (bagV b0), .u, .u, .u, .u, .u, .u, .u, .u] := by rw [← e0]; rfl
  rw [he]
  obtain ⟨ρ', k1, _⟩ := sFor_inv (it := (iN rng1 (aC (eC (.int 6)) aN))) (g := (gN 2)) (ψ := (sQ (sPar 3 4 (aC (e2 addD (eC (.int 1)) (eI m_law_take 1 (aC (eC (.int 6)) aN))) (aC (e2 addD (eC (.int 1)) (eI m_law_take 1 (aC (eC (.int 9)) aN))) aN))) (sQ (sAsg 5 (eI (m_law_any_tree 40) 1 (aC (eV 3) (aC (eV 4) (aC (eI m_law_some 1 (aC (eN mkL (aC (eC (.int 2)) (aC (eC (.int 3)) (aC (eC (.int 5)) (aC (eC (.int 0)) aN))))) aN)) aN))))) (sQ (sIf (qB (e2 eqD (eI m_law_take 1 (aC (eC (.int 3)) aN)) (eC (.int 0)))) (sAsg 5 (eI m_law_lopsided 1 (aC (eV 3) (aC (eV 4) (aC (eI m_law_some 1 (aC (eN mkL (aC (eC (.int 6)) (aC (eC (.int 12)) (aC (eC (.int 20)) aN)))) aN)) aN))))) sN) (sQ (sPar 6 7 (aC (eN (m_law_tree_leaves 40) (aC (eV 5) (aC (eN mkT aN) aN))) (aC (eN (p1 reprD) (aC (eV 5) aN)) aN))) (sFor (iN rng1 (aC (eC (.int 2)) aN)) (gN 8) (sQ (sAsgO 9 (eN m_leaves_of (aC (eV 5) aN))) (sQ (sIf (qOr (qNot (qFz (qB (eN m_law_alike (aC (eN mkL (aC (eV 9) (aC (eN (m_height_of 40) (aC (eV 5) aN)) aN))) (aC (eN mkL (aC (eV 6) (aC (eN (m_law_tree_height 40) (aC (eV 5) aN)) aN))) aN)))))) (qB (e2 neD (eN (p1 reprD) (aC (eV 5) aN)) (eV 7)))) (sRet (eC (.bool false))) sN) (sMut 9 appD (aC (eC .none) aN)))))))))) (ρ := [.u, .o (bagV b0), .u, .u, .u, .u, .u, .u, .u, .u]) (ρ0 := [.u, .o (bagV b0), .u, .u, .u, .u, .u, .u, .u, .u])
    (ds := upI 0 6) (by have h : rng1 [.int 6] = some (upI 0 6) := rng1_ok (n := 6) (by decide); simp [sQ, sIf, sN, qFz, qB, qAnd, qOr, qNot, qYes, e1, DL.e2, eV, eC, eN, eI, eIf, eAnd, eOr, eFz, eSl, oS, oN, aN, aC, aX, sAsg, sAsgO, sRet, sRetO, sRetN, sDrop, sSet, sAugI, sMut, sPar, sPat, iSeq, iN, gN, gT, gC, gZ, outP, outF, outI, en0, stillE, Sl.still, Sl.own, Sl.put, seqOf, ixD, p1, lenS, intD, absD, tupD, lstD, mkT, mkL, slD, slL, setLD, notD, negD, ltI, leI, gtI, geI, iB, addD, subD, isN, isNotN, atI_0, atI_1, atI_2, atI_3, ixN_40, ixN_41, ixN_42, eqD_int, neD_int, DL.flatB, DL.flatBs, max2D, min2D, iI, sl1, sl2, sl3, sl4, sl0, sl5, sl6, sl7, sl8, List.length_cons, List.length_nil, List.length_append, List.length_map, List.getElem?_cons_zero, List.getElem?_cons_succ, List.set_cons_zero, List.set_cons_succ, List.map_cons, List.map_nil, List.replicate, List.cons_append, List.nil_append, List.append_nil, Option.map_some, if_true, if_false, ite_true, ite_false, reduceIte, Nat.reduceAdd, Nat.reduceSub, Nat.reduceLeDiff, Nat.reduceEqDiff, Int.reduceAdd, modD_int, fdivD_int, mulR, mulL, Nat.sub_self, Nat.zero_add, Option.map_none, decide_true, decide_false, Bool.not_true, Bool.not_false, h])
    (fun done ρ => ∃ (b : Bag) (s2 s3 s4 s5 s6 s7 s8 s9 : Sl), ρ = [.u, .o (bagV b), s2, s3, s4, s5, s6, s7, s8, s9] ∧ BagOk b)
    ⟨b0, _, _, _, _, _, _, _, _, rfl, hb0⟩
    (fun done x rest ρ e ⟨b, s2, s3, s4, s5, s6, s7, s8, s9, e1, hb⟩ => by
      subst e1
      obtain ⟨b', t3, t4, t5, t6, t7, t8, t9, k, ok⟩ := turn_ok hb (s0 := .u) (s2 := .d x) (s3 := s3) (s4 := s4) (s5 := s5) (s6 := s6) (s7 := s7) (s8 := s8) (s9 := s9)
      exact ⟨_, _, rfl, k, b', _, _, _, _, _, _, _, _, rfl, ok⟩)
  exact ⟨ρ', by unfold b_law; rw [sQ_nx k1]; rfl⟩
end Lk31

set_option maxHeartbeats 4000000
noncomputable section
namespace Lk31
open PySem PySem.Spec PyProof.Rows L2 DL
def topS (i : Nat) : Stmt := PySem.Challenge.pw_eithersums_k31_heights_and_leaves.main.body.getD i (.Pass ⟨0, 0, 0, 0⟩)
abbrev s_height_of : Stmt := topS 1
theorem sc_height_of : FnScope ["tree"] ["tree"] (defScope s_height_of) := ⟨rfl, rfl, rfl, by decide +kernel, rfl, by decide +kernel, by decide +kernel⟩
abbrev s_leaves_behind : Stmt := topS 2
theorem sc_leaves_behind : FnScope ["tree", "lines", "row"] ["tree", "lines"] (defScope s_leaves_behind) := ⟨rfl, rfl, rfl, by decide +kernel, rfl, by decide +kernel, by decide +kernel⟩
abbrev s_leaves_of : Stmt := topS 3
theorem sc_leaves_of : FnScope ["tree"] ["tree"] (defScope s_leaves_of) := ⟨rfl, rfl, rfl, by decide +kernel, rfl, by decide +kernel, by decide +kernel⟩
abbrev s_law_bag : Stmt := topS 5
theorem sc_law_bag : FnScope ["script", "cell"] ["script"] (defScope s_law_bag) := ⟨rfl, rfl, rfl, by decide +kernel, rfl, by decide +kernel, by decide +kernel⟩
abbrev s_law_take : Stmt := topS 6
theorem sc_law_take : FnScope ["bag", "many", "cell", "stirred", "value", "begin", "second"] ["bag", "many"] (defScope s_law_take) := ⟨rfl, rfl, rfl, by decide +kernel, rfl, by decide +kernel, by decide +kernel⟩
abbrev s_law_some : Stmt := topS 7
theorem sc_law_some : FnScope ["bag", "things"] ["bag", "things"] (defScope s_law_some) := ⟨rfl, rfl, rfl, by decide +kernel, rfl, by decide +kernel, by decide +kernel⟩
abbrev s_law_mixed : Stmt := topS 8
theorem sc_law_mixed : FnScope ["bag", "things", "found", "thing"] ["bag", "things"] (defScope s_law_mixed) := ⟨rfl, rfl, rfl, by decide +kernel, rfl, by decide +kernel, by decide +kernel⟩
abbrev s_law_alike : Stmt := topS 9
theorem sc_law_alike : FnScope ["found", "due"] ["found", "due"] (defScope s_law_alike) := ⟨rfl, rfl, rfl, by decide +kernel, rfl, by decide +kernel, by decide +kernel⟩
abbrev s_law_row : Stmt := topS 10
theorem sc_law_row : FnScope ["mask", "unknown"] ["mask"] (defScope s_law_row) := ⟨rfl, rfl, rfl, by decide +kernel, rfl, by decide +kernel, by decide +kernel⟩
abbrev s_law_any_row : Stmt := topS 11
theorem sc_law_any_row : FnScope ["bag", "many", "mask", "turn"] ["bag", "many"] (defScope s_law_any_row) := ⟨rfl, rfl, rfl, by decide +kernel, rfl, by decide +kernel, by decide +kernel⟩
abbrev s_law_any_tree : Stmt := topS 12
theorem sc_law_any_tree : FnScope ["bag", "many", "clauses", "deep", "row", "one"] ["bag", "many", "clauses", "deep"] (defScope s_law_any_tree) := ⟨rfl, rfl, rfl, by decide +kernel, rfl, by decide +kernel, by decide +kernel⟩
abbrev s_law_tree_leaves : Stmt := topS 13
theorem sc_law_tree_leaves : FnScope ["tree", "lines"] ["tree", "lines"] (defScope s_law_tree_leaves) := ⟨rfl, rfl, rfl, by decide +kernel, rfl, by decide +kernel, by decide +kernel⟩
abbrev s_law_tree_height : Stmt := topS 14
theorem sc_law_tree_height : FnScope ["tree"] ["tree"] (defScope s_law_tree_height) := ⟨rfl, rfl, rfl, by decide +kernel, rfl, by decide +kernel, by decide +kernel⟩
abbrev s_law_lopsided : Stmt := topS 15
theorem sc_law_lopsided : FnScope ["bag", "many", "clauses", "deep", "tree", "turn", "sides"] ["bag", "many", "clauses", "deep"] (defScope s_law_lopsided) := ⟨rfl, rfl, rfl, by decide +kernel, rfl, by decide +kernel, by decide +kernel⟩
abbrev s_law : Stmt := topS 16
theorem sc_law : FnScope ["script", "bag", "turn", "many", "clauses", "tree", "due", "shown", "again", "told"] ["script"] (defScope s_law) := ⟨rfl, rfl, rfl, by decide +kernel, rfl, by decide +kernel, by decide +kernel⟩
structure Tx (K : PySem.W.Frag) (mg : Str → Option Value) where
  a_height_of : Addr
  d_height_of : FuncData
  F_height_of : Fun K "height_of" "height_of" s_height_of a_height_of d_height_of
  g_height_of : mg "height_of" = some (.ref a_height_of)
  B_height_of : Binds K d_height_of ["tree"] []
  a_leaves_behind : Addr
  d_leaves_behind : FuncData
  F_leaves_behind : Fun K "leaves_behind" "leaves_behind" s_leaves_behind a_leaves_behind d_leaves_behind
  g_leaves_behind : mg "leaves_behind" = some (.ref a_leaves_behind)
  B_leaves_behind : Binds K d_leaves_behind ["tree", "lines"] []
  a_leaves_of : Addr
  d_leaves_of : FuncData
  F_leaves_of : Fun K "leaves_of" "leaves_of" s_leaves_of a_leaves_of d_leaves_of
  g_leaves_of : mg "leaves_of" = some (.ref a_leaves_of)
  B_leaves_of : Binds K d_leaves_of ["tree"] []
  a_law_bag : Addr
  d_law_bag : FuncData
  F_law_bag : Fun K "_law_bag" "_law_bag" s_law_bag a_law_bag d_law_bag
  g_law_bag : mg "_law_bag" = some (.ref a_law_bag)
  B_law_bag : Binds K d_law_bag ["script"] []
  a_law_take : Addr
  d_law_take : FuncData
  F_law_take : Fun K "_law_take" "_law_take" s_law_take a_law_take d_law_take
  g_law_take : mg "_law_take" = some (.ref a_law_take)
  B_law_take : Binds K d_law_take ["bag", "many"] []
  a_law_some : Addr
  d_law_some : FuncData
  F_law_some : Fun K "_law_some" "_law_some" s_law_some a_law_some d_law_some
  g_law_some : mg "_law_some" = some (.ref a_law_some)
  B_law_some : Binds K d_law_some ["bag", "things"] []
  a_law_mixed : Addr
  d_law_mixed : FuncData
  F_law_mixed : Fun K "_law_mixed" "_law_mixed" s_law_mixed a_law_mixed d_law_mixed
  g_law_mixed : mg "_law_mixed" = some (.ref a_law_mixed)
  B_law_mixed : Binds K d_law_mixed ["bag", "things"] []
  a_law_alike : Addr
  d_law_alike : FuncData
  F_law_alike : Fun K "_law_alike" "_law_alike" s_law_alike a_law_alike d_law_alike
  g_law_alike : mg "_law_alike" = some (.ref a_law_alike)
  B_law_alike : Binds K d_law_alike ["found", "due"] []
  a_law_row : Addr
  d_law_row : FuncData
  F_law_row : Fun K "_law_row" "_law_row" s_law_row a_law_row d_law_row
  g_law_row : mg "_law_row" = some (.ref a_law_row)
  B_law_row : Binds K d_law_row ["mask"] []
  a_law_any_row : Addr
  d_law_any_row : FuncData
  F_law_any_row : Fun K "_law_any_row" "_law_any_row" s_law_any_row a_law_any_row d_law_any_row
  g_law_any_row : mg "_law_any_row" = some (.ref a_law_any_row)
  B_law_any_row : Binds K d_law_any_row ["bag", "many"] []
  a_law_any_tree : Addr
  d_law_any_tree : FuncData
  F_law_any_tree : Fun K "_law_any_tree" "_law_any_tree" s_law_any_tree a_law_any_tree d_law_any_tree
  g_law_any_tree : mg "_law_any_tree" = some (.ref a_law_any_tree)
  B_law_any_tree : Binds K d_law_any_tree ["bag", "many", "clauses", "deep"] []
  a_law_tree_leaves : Addr
  d_law_tree_leaves : FuncData
  F_law_tree_leaves : Fun K "_law_tree_leaves" "_law_tree_leaves" s_law_tree_leaves a_law_tree_leaves d_law_tree_leaves
  g_law_tree_leaves : mg "_law_tree_leaves" = some (.ref a_law_tree_leaves)
  B_law_tree_leaves : Binds K d_law_tree_leaves ["tree", "lines"] []
  a_law_tree_height : Addr
  d_law_tree_height : FuncData
  F_law_tree_height : Fun K "_law_tree_height" "_law_tree_height" s_law_tree_height a_law_tree_height d_law_tree_height
  g_law_tree_height : mg "_law_tree_height" = some (.ref a_law_tree_height)
  B_law_tree_height : Binds K d_law_tree_height ["tree"] []
  a_law_lopsided : Addr
  d_law_lopsided : FuncData
  F_law_lopsided : Fun K "_law_lopsided" "_law_lopsided" s_law_lopsided a_law_lopsided d_law_lopsided
  g_law_lopsided : mg "_law_lopsided" = some (.ref a_law_lopsided)
  B_law_lopsided : Binds K d_law_lopsided ["bag", "many", "clauses", "deep"] []
  a_law : Addr
  d_law : FuncData
  F_law : Fun K "law" "law" s_law a_law d_law
  g_law : mg "law" = some (.ref a_law)
  B_law : Binds K d_law ["script"] []
  z_abs : mg "abs" = none
  z_int : mg "int" = none
  z_len : mg "len" = none
  z_max : mg "max" = none
  z_range : mg "range" = none
  z_repr : mg "repr" = none
  z_tuple : mg "tuple" = none
section
variable {P : Program} {w : World} {K : PySem.W.Frag} {mg : Str → Option Value} {base : Heap}
theorem ok_height_of (T : Tx K mg) : ∀ k : Nat, FnG P w K mg base (1 + k) T.a_height_of T.d_height_of ["tree"] (SpP K (m_height_of k))
  | 0 => FnG.badP
  | k + 1 => by
    have ih := ok_height_of T k
    exact fnP (k := 1 + k) T.F_height_of sc_height_of (by decide) fun cdv A outer s H E hr hg => (rs_cons (r_ifS (r_tcmp (op_eqX hr.units) p_eq (r_ix ix_seq p_ix (r_var (pv 0)) (r_int pe_int)) (r_str pe_str) (nomark _)) (rs_one (r_ret (r_int pe_int))) rs_nil)
      (rs_one (r_ret (r_bin o_add p_add (r_int pe_int) (r_cb (pe_callB (call_max2 rfl) (by rfl) T.z_max (by decide +kernel) (ra_cons (r_callP (pe_callG ih hr hg (by rfl) T.g_height_of T.F_height_of.kp T.B_height_of (ra_cons (r_ix ix_seq p_ix (r_var (pv 0)) (r_int pe_int)) ra_nil))) (ra_cons (r_callP (pe_callG ih hr hg (by rfl) T.g_height_of T.F_height_of.kp T.B_height_of (ra_cons (r_ix ix_seq p_ix (r_var (pv 0)) (r_int pe_int)) ra_nil))) ra_nil))) b_max2)))))
theorem ok_leaves_behind (T : Tx K mg) : ∀ k : Nat, FnG P w K mg base (1 + k) T.a_leaves_behind T.d_leaves_behind ["tree", "lines"] (SpF K (m_leaves_behind k))
  | 0 => FnG.badF
  | k + 1 => by
    have ih := ok_leaves_behind T k
    exact fnF (k := 1 + k) T.F_leaves_behind sc_leaves_behind (by decide) fun cdv A outer s H E hr hg => (rs_cons (r_ifS (r_tcmp (op_eqX hr.units) p_eq (r_ix ix_seq p_ix (r_var (pv 0)) (r_int pe_int)) (r_str pe_str) (nomark _)) (rs_one (r_retF (r_lst (ra_cons (r_tup (ra_cons (r_ix ix_seq p_ix (r_var (pv 0)) (r_int pe_int)) (ra_cons (r_var (pv 1)) ra_nil))) ra_nil)))) rs_nil)
      (rs_cons (r_asg (ps_set (i := 2) sc_leaves_behind.nd rfl (.inl rfl) (r_ix ix_seq p_ix (r_var (pv 0)) (r_int pe_int))))
      (rs_one (r_retF (r_binF op_cat p_catF (r_fz (r_callF (pe_callG ih hr hg (by rfl) T.g_leaves_behind T.F_leaves_behind.kp T.B_leaves_behind (ra_cons (r_ix ix_seq p_ix (r_var (pv 0)) (r_int pe_int)) (ra_cons (r_tup (ra_star (r_var (pv 1)) (ra_cons (r_tup (ra_cons (r_var (pv 2)) (ra_cons (r_int pe_int) ra_nil))) ra_nil))) ra_nil))))) (r_fz (r_callF (pe_callG ih hr hg (by rfl) T.g_leaves_behind T.F_leaves_behind.kp T.B_leaves_behind (ra_cons (r_ix ix_seq p_ix (r_var (pv 0)) (r_int pe_int)) (ra_cons (r_tup (ra_star (r_var (pv 1)) (ra_cons (r_tup (ra_cons (r_var (pv 2)) (ra_cons (r_int pe_int) ra_nil))) ra_nil))) ra_nil))))))))))
theorem ok_leaves_of (T : Tx K mg) : FnG P w K mg base 42 T.a_leaves_of T.d_leaves_of ["tree"] (SpF K m_leaves_of) :=
  fnF T.F_leaves_of sc_leaves_of (by decide) fun cdv A outer s H E hr hg => (rs_one (r_retF (r_callF (pe_callG (ok_leaves_behind T 40) (hr.mono (by omega)) hg (by rfl) T.g_leaves_behind T.F_leaves_behind.kp T.B_leaves_behind (ra_cons (r_var (pv 0)) (ra_cons (r_tup ra_nil) ra_nil))))))
theorem ok_law_bag (T : Tx K mg) : FnG P w K mg base 1 T.a_law_bag T.d_law_bag ["script"] (spBag K) := by
  refine fnG_ok T.F_law_bag sc_law_bag (fun vs H Q E ⟨a, ns, e, _⟩ => by rw [e]; rfl) fun cdv A outer s H vs Q E hr hg hsp => ?_
  obtain ⟨a, ns, rfl, hS, hl, q⟩ := hsp
  exact ⟨_, pss_one (ps_ret (pe_lst (pa_cons pe_int (pa_cons pe_int (pa_cons pe_int (pa_cons (pe_lc (own := [("cell", 1)]) rfl sc_law_bag.nd (pi_list (pe_slice sl_list (pv 0) po_none (po_some pe_int))) (blkOk_by (N := ["script", "cell"]) (sc := defScope s_law_bag) (by decide +kernel))
    (fun _ _ _ _ _ => pg_name (i := 1) sc_law_bag.nd rfl (.inl rfl)) (fun _ _ _ _ _ => pts_nil) (fun _ _ _ _ _ => pe_callB call_abs (by rfl) T.z_abs (by decide +kernel) (pa_cons (pv 1) pa_nil))) pa_nil)))))), bag_reads rfl hS hl q⟩
theorem ok_law_take (T : Tx K mg) : FnG P w K mg base 1 T.a_law_take T.d_law_take ["bag", "many"] (SpI K m_law_take) :=
  fnI T.F_law_take sc_law_take (by decide) fun cdv A outer s H E hr hg => (rs_cons (r_ifS (r_tfz (r_tcmp (op_eqX hr.units) p_eq (r_ix ix_seq p_ix (r_var (pv 0)) (r_int pe_int)) (r_int pe_int) (nomark _)) (pu_B (pu_2 (pu_2 pu_V pu_C) pu_C))) (rs_cons (r_asg (ps_set (i := 2) sc_law_take.nd rfl (.inl rfl) (r_sfz (r_ix ix_seq p_ix (r_bin o_add p_add (r_sl (r_ix ix_seq p_ix (r_var (pv 0)) (r_int pe_int)) (ro_some (r_ix ix_seq p_ix (r_var (pv 0)) (r_int pe_int))) ro_none) (r_fz (r_lst (ra_cons (r_int pe_int) ra_nil)))) (r_int pe_int)) (pu_2 (pu_2 (pu_Sl (pu_2 pu_V pu_C) (pu_oS (pu_2 pu_V pu_C)) pu_oN) (pu_N (pu_aC pu_C pu_aN))) pu_C))))
      (rs_cons (r_augI (ps_augS (pv 0) (r_int pe_int) get_list (r_int pe_int) ip_add set_list))
      (rs_cons (r_ifS (r_tcmp op_ge p_ge (r_var (pv 2)) (r_bin op_pow p_pow (r_int pe_int) (r_int pe_int)) (nomark _)) (rs_one (r_set (ps_asg (r_var (pv 2)) (pg_sub (pv 0) (r_int pe_int) set_list)))) rs_nil)
      (rs_cons (r_asg (ps_set (i := 3) sc_law_take.nd rfl (.inl rfl) (r_sfz (r_bin o_add p_add (r_bin o_add p_add (r_bin op_mul p_mulI (r_ix ix_seq p_ix (r_var (pv 0)) (r_int pe_int)) (r_int pe_int)) (r_bin op_modN p_mod (r_cb (pe_callTy call_int1 (by rfl) T.z_int (by decide +kernel) (ra_cons (r_var (pv 2)) ra_nil)) b_int) (r_int pe_int))) (r_bin op_mul p_mulI (r_int pe_int) (r_ix ix_seq p_ix (r_var (pv 0)) (r_int pe_int)))) (pu_2 (pu_2 (pu_2 (pu_2 pu_V pu_C) pu_C) (pu_2 (pu_N (pu_aC pu_V pu_aN)) pu_C)) (pu_2 pu_C (pu_2 pu_V pu_C))))))
      (rs_one (r_set (ps_asg (r_bin op_modN p_mod (r_cb (pe_callTy call_int1 (by rfl) T.z_int (by decide +kernel) (ra_cons (r_var (pv 3)) ra_nil)) b_int) (r_int pe_int)) (pg_sub (pv 0) (r_int pe_int) set_list)))))))) rs_nil)
      (rs_cons (r_ifS (r_tfz (r_tcmp op_gt p_gt (r_ix ix_seq p_ix (r_var (pv 0)) (r_int pe_int)) (r_int pe_int) (nomark _)) (pu_B (pu_2 (pu_2 pu_V pu_C) pu_C))) (rs_cons (r_asg (ps_set (i := 4) sc_law_take.nd rfl (.inl rfl) (r_sfz (r_bin op_modN p_mod (r_cb (pe_callTy call_int1 (by rfl) T.z_int (by decide +kernel) (ra_cons (r_ix ix_seq p_ix (r_var (pv 0)) (r_int pe_int)) ra_nil)) b_int) (r_var (pv 1))) (pu_2 (pu_N (pu_aC (pu_2 pu_V pu_C) pu_aN)) pu_V))))
      (rs_cons (r_set (ps_asg (r_sfz (r_bin op_fdivN p_fdiv (r_cb (pe_callTy call_int1 (by rfl) T.z_int (by decide +kernel) (ra_cons (r_ix ix_seq p_ix (r_var (pv 0)) (r_int pe_int)) ra_nil)) b_int) (r_var (pv 1))) (pu_2 (pu_N (pu_aC (pu_2 pu_V pu_C) pu_aN)) pu_V)) (pg_sub (pv 0) (r_int pe_int) set_list)))
      (rs_one (r_ret (r_var (pv 4)))))) rs_nil)
      (rs_cons (r_asg (ps_set (i := 5) sc_law_take.nd rfl (.inl rfl) (r_sfz (r_bin op_modN p_mod (r_cb (pe_callTy call_int1 (by rfl) T.z_int (by decide +kernel) (ra_cons (r_bin op_mul p_mulI (r_bin o_add p_add (r_ix ix_seq p_ix (r_var (pv 0)) (r_int pe_int)) (r_int pe_int)) (r_int pe_int)) ra_nil)) b_int) (r_int pe_int)) (pu_2 (pu_N (pu_aC (pu_2 (pu_2 (pu_2 pu_V pu_C) pu_C) pu_C) pu_aN)) pu_C))))
      (rs_cons (r_asg (ps_set (i := 6) sc_law_take.nd rfl (.inl rfl) (r_bin op_modN p_mod (r_cb (pe_callTy call_int1 (by rfl) T.z_int (by decide +kernel) (ra_cons (r_bin op_mul p_mulI (r_bin op_modN p_mod (r_cb (pe_callTy call_int1 (by rfl) T.z_int (by decide +kernel) (ra_cons (r_bin op_mul p_mulI (r_var (pv 5)) (r_var (pv 5))) ra_nil)) b_int) (r_int pe_int)) (r_int pe_int)) ra_nil)) b_int) (r_int pe_int))))
      (rs_one (r_ret (r_bin op_modN p_mod (r_cb (pe_callTy call_int1 (by rfl) T.z_int (by decide +kernel) (ra_cons (r_bin op_fdivN p_fdiv (r_var (pv 6)) (r_int pe_int)) ra_nil)) b_int) (r_var (pv 1)))))))))
theorem ok_law_some (T : Tx K mg) : FnG P w K mg base 2 T.a_law_some T.d_law_some ["bag", "things"] (SpI K m_law_some) :=
  fnI T.F_law_some sc_law_some (by decide) fun cdv A outer s H E hr hg => (rs_one (r_ret (r_ix ix_seq p_ix (r_var (pv 1)) (r_callI (pe_callG (ok_law_take T) (hr.mono (by omega)) hg (by rfl) T.g_law_take T.F_law_take.kp T.B_law_take (pa_cons (pv 0) (ra_cons (r_cb (pe_callB call_len_seq (by rfl) T.z_len (by decide +kernel) (ra_cons (r_var (pv 1)) ra_nil)) b_len) ra_nil)))))))
theorem ok_law_mixed (T : Tx K mg) : FnG P w K mg base 2 T.a_law_mixed T.d_law_mixed ["bag", "things"] (SpI K m_law_mixed) :=
  fnI T.F_law_mixed sc_law_mixed (by decide) fun cdv A outer s H E hr hg => (rs_cons (r_asgO (ps_set (i := 2) sc_law_mixed.nd rfl (.inl rfl) (r_lst ra_nil)))
      (rs_cons (r_for (vs := [3]) PassesOwn.never rfl (ri_seq (r_var (pv 1))) (rg_name (pg_name (i := 3) sc_law_mixed.nd rfl (.inl rfl)) (by decide))
      (rs_one (r_mut (ps_expr (pe_bm PySem.F.plainAttrs_list PySem.F.slot_list_insert PySem.F.type_list_insert mt_insert (pv 2) (ra_cons (r_callI (pe_callG (ok_law_take T) (hr.mono (by omega)) hg (by rfl) T.g_law_take T.F_law_take.kp T.B_law_take (pa_cons (pv 0) (ra_cons (r_sfz (r_bin o_add p_add (r_cb (pe_callB call_len_seq (by rfl) T.z_len (by decide +kernel) (ra_cons (r_var (pv 2)) ra_nil)) b_len) (r_int pe_int)) (pu_2 (pu_N (pu_aC pu_V pu_aN)) pu_C)) ra_nil)))) (ra_cons (r_var (pv 3)) ra_nil)))) m_ins)))
      (rs_one (r_retO (pv 2)))))
theorem ok_law_alike (T : Tx K mg) : FnG P w K mg base 1 T.a_law_alike T.d_law_alike ["found", "due"] (SpP K m_law_alike) :=
  fnP T.F_law_alike sc_law_alike (by decide) fun cdv A outer s H E hr hg => (rs_one (r_ret (r_and (r_cmp (op_eqX hr.units) p_eq (r_var (pv 0)) (r_var (pv 1)) (nomark _)) (r_one (r_cmp (op_eqX hr.units) p_eq (r_cb (pe_callB (c_repr hg (room66 hr)) (by rfl) T.z_repr (by decide +kernel) (ra_cons (r_var (pv 0)) ra_nil)) b_repr) (r_cb (pe_callB (c_repr hg (room66 hr)) (by rfl) T.z_repr (by decide +kernel) (ra_cons (r_var (pv 1)) ra_nil)) b_repr) (nomark _))))))
theorem ok_law_row (T : Tx K mg) : FnG P w K mg base 1 T.a_law_row T.d_law_row ["mask"] (SpP K m_law_row) :=
  fnP T.F_law_row sc_law_row (by decide) fun cdv A outer s H E hr hg => (rs_one (r_ret (r_cb (pe_callTy call_tuple_of (by rfl) T.z_tuple (by decide +kernel) (ra_cons (r_fz (r_lc (own := [("unknown", 1)]) rfl sc_law_row.nd (ri_range1 (by rfl) T.z_range (ra_cons (r_bits (pe_bits (r_var (pv 0)))) ra_nil)) (blkOk_by (N := ["mask", "unknown"]) (sc := defScope s_law_row) (by decide +kernel)) (fun _ _ _ _ _ => (rg_name (pg_name (i := 1) sc_law_row.nd rfl (.inl rfl)) (by decide))) (fun _ _ _ _ _ => (rt_one (r_tcmp (op_eqX hr.units) p_eq (r_bin op_and p_and (r_bin op_shr p_shr (r_var (pv 0)) (r_var (pv 1))) (r_int pe_int)) (r_int pe_int) (nomark _)))) (fun _ _ _ _ _ => (r_var (pv 1))))) ra_nil)) b_tuple)))
theorem ok_law_any_row (T : Tx K mg) : FnG P w K mg base 3 T.a_law_any_row T.d_law_any_row ["bag", "many"] (SpI K m_law_any_row) :=
  fnI T.F_law_any_row sc_law_any_row (by decide) fun cdv A outer s H E hr hg => (rs_cons (r_asg (ps_set (i := 2) sc_law_any_row.nd rfl (.inl rfl) (r_int pe_int)))
      (rs_cons (r_for (vs := [3]) PassesOwn.never rfl (ri_range1 (by rfl) T.z_range (ra_cons (r_callI (pe_callG (ok_law_some T) (hr.mono (by omega)) hg (by rfl) T.g_law_some T.F_law_some.kp T.B_law_some (pa_cons (pv 0) (ra_cons (r_fz (r_lst (ra_cons (r_int pe_int) (ra_cons (r_int pe_int) (ra_cons (r_int pe_int) (ra_cons (r_int pe_int) (ra_cons (r_var (pv 1)) ra_nil))))))) ra_nil)))) ra_nil)) (rg_name (pg_name (i := 3) sc_law_any_row.nd rfl (.inl rfl)) (by decide))
      (rs_one (r_asg (ps_set (i := 2) sc_law_any_row.nd rfl (.inl rfl) (r_bin op_xor p_xor (r_var (pv 2)) (r_bin op_shl p_shl (r_int pe_int) (r_callI (pe_callG (ok_law_take T) (hr.mono (by omega)) hg (by rfl) T.g_law_take T.F_law_take.kp T.B_law_take (pa_cons (pv 0) (ra_cons (r_var (pv 1)) ra_nil))))))))))
      (rs_one (r_ret (r_if (r_tcmp op_gt p_gt (r_var (pv 2)) (r_int pe_int) (nomark _)) (r_callP (pe_callG (ok_law_row T) (hr.mono (by omega)) hg (by rfl) T.g_law_row T.F_law_row.kp T.B_law_row (ra_cons (r_var (pv 2)) ra_nil))) (r_tup (ra_cons (r_callI (pe_callG (ok_law_take T) (hr.mono (by omega)) hg (by rfl) T.g_law_take T.F_law_take.kp T.B_law_take (pa_cons (pv 0) (ra_cons (r_var (pv 1)) ra_nil)))) ra_nil)))))))
theorem ok_law_any_tree (T : Tx K mg) : ∀ k : Nat, FnG P w K mg base (4 + k) T.a_law_any_tree T.d_law_any_tree ["bag", "many", "clauses", "deep"] (SpI K (m_law_any_tree k))
  | 0 => FnG.badI
  | k + 1 => by
    have ih := ok_law_any_tree T k
    exact fnI (k := 4 + k) T.F_law_any_tree sc_law_any_tree (by decide) fun cdv A outer s H E hr hg => (rs_cons (r_ifS (PW.pt (rw_or (r_tcmp (op_eqX hr.units) p_eq (r_var (pv 3)) (r_int pe_int) (nomark _)) (rw_or (r_tcmp (op_eqX hr.units) p_eq (r_callI (pe_callG (ok_law_take T) (hr.mono (by omega)) hg (by rfl) T.g_law_take T.F_law_take.kp T.B_law_take (pa_cons (pv 0) (ra_cons (r_int pe_int) ra_nil)))) (r_int pe_int) (nomark _)) (rw_or1 (r_tcmp (op_eqX hr.units) p_eq (r_var (pv 1)) (r_int pe_int) (nomark _)))))) (rs_one (r_ret (r_tup (ra_cons (r_str pe_str) (ra_cons (r_callI (pe_callG (ok_law_take T) (hr.mono (by omega)) hg (by rfl) T.g_law_take T.F_law_take.kp T.B_law_take (pa_cons (pv 0) (ra_cons (r_var (pv 2)) ra_nil)))) ra_nil))))) rs_nil)
      (rs_cons (r_par (ps_par rfl sc_law_any_tree.nd rfl rfl (by decide) rfl rfl (ra_cons (r_callI (pe_callG (ok_law_any_row T) (hr.mono (by omega)) hg (by rfl) T.g_law_any_row T.F_law_any_row.kp T.B_law_any_row (pa_cons (pv 0) (ra_cons (r_var (pv 1)) ra_nil)))) (ra_cons (r_callI (pe_callG ih hr hg (by rfl) T.g_law_any_tree T.F_law_any_tree.kp T.B_law_any_tree (pa_cons (pv 0) (ra_cons (r_var (pv 1)) (ra_cons (r_var (pv 2)) (ra_cons (r_bin op_sub p_sub (r_var (pv 3)) (r_int pe_int)) ra_nil)))))) ra_nil)) (by rfl)))
      (rs_one (r_ret (r_tup (ra_cons (r_str pe_str) (ra_cons (r_var (pv 4)) (ra_cons (r_var (pv 5)) (ra_cons (r_callI (pe_callG ih hr hg (by rfl) T.g_law_any_tree T.F_law_any_tree.kp T.B_law_any_tree (pa_cons (pv 0) (ra_cons (r_var (pv 1)) (ra_cons (r_var (pv 2)) (ra_cons (r_bin op_sub p_sub (r_var (pv 3)) (r_int pe_int)) ra_nil)))))) ra_nil)))))))))
theorem ok_law_tree_leaves (T : Tx K mg) : ∀ k : Nat, FnG P w K mg base (1 + k) T.a_law_tree_leaves T.d_law_tree_leaves ["tree", "lines"] (SpP K (m_law_tree_leaves k))
  | 0 => FnG.badP
  | k + 1 => by
    have ih := ok_law_tree_leaves T k
    exact fnP (k := 1 + k) T.F_law_tree_leaves sc_law_tree_leaves (by decide) fun cdv A outer s H E hr hg => (rs_cons (r_ifS (r_tcmp (op_eqX hr.units) p_eq (r_ix ix_seq p_ix (r_var (pv 0)) (r_int pe_int)) (r_str pe_str) (nomark _)) (rs_one (r_ret (r_fz (r_lst (ra_cons (r_tup (ra_cons (r_ix ix_seq p_ix (r_var (pv 0)) (r_int pe_int)) (ra_cons (r_var (pv 1)) ra_nil))) ra_nil))))) rs_nil)
      (rs_one (r_ret (r_bin o_add p_add (r_callP (pe_callG ih hr hg (by rfl) T.g_law_tree_leaves T.F_law_tree_leaves.kp T.B_law_tree_leaves (ra_cons (r_ix ix_seq p_ix (r_var (pv 0)) (r_int pe_int)) (ra_cons (r_bin o_add p_add (r_var (pv 1)) (r_tup (ra_cons (r_tup (ra_cons (r_ix ix_seq p_ix (r_var (pv 0)) (r_int pe_int)) (ra_cons (r_int pe_int) ra_nil))) ra_nil))) ra_nil)))) (r_callP (pe_callG ih hr hg (by rfl) T.g_law_tree_leaves T.F_law_tree_leaves.kp T.B_law_tree_leaves (ra_cons (r_ix ix_seq p_ix (r_var (pv 0)) (r_int pe_int)) (ra_cons (r_bin o_add p_add (r_var (pv 1)) (r_tup (ra_cons (r_tup (ra_cons (r_ix ix_seq p_ix (r_var (pv 0)) (r_int pe_int)) (ra_cons (r_int pe_int) ra_nil))) ra_nil))) ra_nil))))))))
theorem ok_law_tree_height (T : Tx K mg) : ∀ k : Nat, FnG P w K mg base (1 + k) T.a_law_tree_height T.d_law_tree_height ["tree"] (SpP K (m_law_tree_height k))
  | 0 => FnG.badP
  | k + 1 => by
    have ih := ok_law_tree_height T k
    exact fnP (k := 1 + k) T.F_law_tree_height sc_law_tree_height (by decide) fun cdv A outer s H E hr hg => (rs_one (r_ret (r_if (r_tcmp (op_eqX hr.units) p_eq (r_ix ix_seq p_ix (r_var (pv 0)) (r_int pe_int)) (r_str pe_str) (nomark _)) (r_int pe_int) (r_bin o_add p_add (r_int pe_int) (r_cb (pe_callB (call_max2 rfl) (by rfl) T.z_max (by decide +kernel) (ra_cons (r_callP (pe_callG ih hr hg (by rfl) T.g_law_tree_height T.F_law_tree_height.kp T.B_law_tree_height (ra_cons (r_ix ix_seq p_ix (r_var (pv 0)) (r_int pe_int)) ra_nil))) (ra_cons (r_callP (pe_callG ih hr hg (by rfl) T.g_law_tree_height T.F_law_tree_height.kp T.B_law_tree_height (ra_cons (r_ix ix_seq p_ix (r_var (pv 0)) (r_int pe_int)) ra_nil))) ra_nil))) b_max2)))))
theorem ok_law_lopsided (T : Tx K mg) : FnG P w K mg base 45 T.a_law_lopsided T.d_law_lopsided ["bag", "many", "clauses", "deep"] (SpI K m_law_lopsided) :=
  fnI T.F_law_lopsided sc_law_lopsided (by decide) fun cdv A outer s H E hr hg => (rs_cons (r_asg (ps_set (i := 4) sc_law_lopsided.nd rfl (.inl rfl) (r_tup (ra_cons (r_str pe_str) (ra_cons (r_callI (pe_callG (ok_law_take T) (hr.mono (by omega)) hg (by rfl) T.g_law_take T.F_law_take.kp T.B_law_take (pa_cons (pv 0) (ra_cons (r_var (pv 2)) ra_nil)))) ra_nil)))))
      (rs_cons (r_for (vs := [5]) PassesOwn.never rfl (ri_range1 (by rfl) T.z_range (ra_cons (r_var (pv 3)) ra_nil)) (rg_name (pg_name (i := 5) sc_law_lopsided.nd rfl (.inl rfl)) (by decide))
      (rs_cons (r_asg (ps_set (i := 6) sc_law_lopsided.nd rfl (.inl rfl) (r_fz (r_lst (ra_cons (r_var (pv 4)) (ra_cons (r_callI (pe_callG (ok_law_any_tree T 40) (hr.mono (by omega)) hg (by rfl) T.g_law_any_tree T.F_law_any_tree.kp T.B_law_any_tree (pa_cons (pv 0) (ra_cons (r_var (pv 1)) (ra_cons (r_var (pv 2)) (ra_cons (r_int pe_int) ra_nil)))))) ra_nil))))))
      (rs_one (r_asg (ps_set (i := 4) sc_law_lopsided.nd rfl (.inl rfl) (r_bin o_add p_add (r_tup (ra_cons (r_str pe_str) (ra_cons (r_callI (pe_callG (ok_law_any_row T) (hr.mono (by omega)) hg (by rfl) T.g_law_any_row T.F_law_any_row.kp T.B_law_any_row (pa_cons (pv 0) (ra_cons (r_var (pv 1)) ra_nil)))) ra_nil))) (r_cb (pe_callTy call_tuple_of (by rfl) T.z_tuple (by decide +kernel) (ra_cons (r_callI (pe_callG (ok_law_mixed T) (hr.mono (by omega)) hg (by rfl) T.g_law_mixed T.F_law_mixed.kp T.B_law_mixed (pa_cons (pv 0) (ra_cons (r_var (pv 6)) ra_nil)))) ra_nil)) b_tuple)))))))
      (rs_one (r_ret (r_var (pv 4))))))
theorem ok_law (T : Tx K mg) (hψ : ∀ ns : List Int, ns.length ≤ 63 → ∃ ρ', b_law (lawEn 10 1 ns) = some (.ret (.bool true) ρ')) : FnG P w K mg base 46 T.a_law T.d_law ["script"] (spLaw K) :=
  fnLaw (i := 1) T.F_law sc_law (by decide) (fun cdv A outer s H E hr hg => pss_cons (ps_set (i := 1) sc_law.nd rfl (.inl rfl) (pe_callG (ok_law_bag T) (hr.mono (by omega)) hg (by rfl) T.g_law_bag T.F_law_bag.kp T.B_law_bag (pa_cons (pv 0) pa_nil)))
      (rs_cons (r_for (vs := [2]) PassesOwn.never rfl (ri_range1 (by rfl) T.z_range (ra_cons (r_int pe_int) ra_nil)) (rg_name (pg_name (i := 2) sc_law.nd rfl (.inl rfl)) (by decide))
      (rs_cons (r_par (ps_par rfl sc_law.nd rfl rfl (by decide) rfl rfl (ra_cons (r_bin o_add p_add (r_int pe_int) (r_callI (pe_callG (ok_law_take T) (hr.mono (by omega)) hg (by rfl) T.g_law_take T.F_law_take.kp T.B_law_take (pa_cons (pv 1) (ra_cons (r_int pe_int) ra_nil))))) (ra_cons (r_bin o_add p_add (r_int pe_int) (r_callI (pe_callG (ok_law_take T) (hr.mono (by omega)) hg (by rfl) T.g_law_take T.F_law_take.kp T.B_law_take (pa_cons (pv 1) (ra_cons (r_int pe_int) ra_nil))))) ra_nil)) (by rfl)))
      (rs_cons (r_asg (ps_set (i := 5) sc_law.nd rfl (.inl rfl) (r_callI (pe_callG (ok_law_any_tree T 40) (hr.mono (by omega)) hg (by rfl) T.g_law_any_tree T.F_law_any_tree.kp T.B_law_any_tree (pa_cons (pv 1) (ra_cons (r_var (pv 3)) (ra_cons (r_var (pv 4)) (ra_cons (r_callI (pe_callG (ok_law_some T) (hr.mono (by omega)) hg (by rfl) T.g_law_some T.F_law_some.kp T.B_law_some (pa_cons (pv 1) (ra_cons (r_fz (r_lst (ra_cons (r_int pe_int) (ra_cons (r_int pe_int) (ra_cons (r_int pe_int) (ra_cons (r_int pe_int) ra_nil)))))) ra_nil)))) ra_nil))))))))
      (rs_cons (r_ifS (r_tcmp (op_eqX hr.units) p_eq (r_callI (pe_callG (ok_law_take T) (hr.mono (by omega)) hg (by rfl) T.g_law_take T.F_law_take.kp T.B_law_take (pa_cons (pv 1) (ra_cons (r_int pe_int) ra_nil)))) (r_int pe_int) (nomark _)) (rs_one (r_asg (ps_set (i := 5) sc_law.nd rfl (.inl rfl) (r_callI (pe_callG (ok_law_lopsided T) (hr.mono (by omega)) hg (by rfl) T.g_law_lopsided T.F_law_lopsided.kp T.B_law_lopsided (pa_cons (pv 1) (ra_cons (r_var (pv 3)) (ra_cons (r_var (pv 4)) (ra_cons (r_callI (pe_callG (ok_law_some T) (hr.mono (by omega)) hg (by rfl) T.g_law_some T.F_law_some.kp T.B_law_some (pa_cons (pv 1) (ra_cons (r_fz (r_lst (ra_cons (r_int pe_int) (ra_cons (r_int pe_int) (ra_cons (r_int pe_int) ra_nil))))) ra_nil)))) ra_nil))))))))) rs_nil)
      (rs_cons (r_par (ps_par rfl sc_law.nd rfl rfl (by decide) rfl rfl (ra_cons (r_callP (pe_callG (ok_law_tree_leaves T 40) (hr.mono (by omega)) hg (by rfl) T.g_law_tree_leaves T.F_law_tree_leaves.kp T.B_law_tree_leaves (ra_cons (r_var (pv 5)) (ra_cons (r_tup ra_nil) ra_nil)))) (ra_cons (r_cb (pe_callB (c_repr hg (room66 hr)) (by rfl) T.z_repr (by decide +kernel) (ra_cons (r_var (pv 5)) ra_nil)) b_repr) ra_nil)) (by rfl)))
      (rs_one (r_for (vs := [8]) PassesOwn.never rfl (ri_range1 (by rfl) T.z_range (ra_cons (r_int pe_int) ra_nil)) (rg_name (pg_name (i := 8) sc_law.nd rfl (.inl rfl)) (by decide))
      (rs_cons (r_asgO (ps_set (i := 9) sc_law.nd rfl (.inl rfl) (r_callF (pe_callG (ok_leaves_of T) (hr.mono (by omega)) hg (by rfl) T.g_leaves_of T.F_leaves_of.kp T.B_leaves_of (ra_cons (r_var (pv 5)) ra_nil)))))
      (rs_cons (r_ifS (PW.pt (rw_or (r_tnot (r_tfz (r_tval (r_callP (pe_callG (ok_law_alike T) (hr.mono (by omega)) hg (by rfl) T.g_law_alike T.F_law_alike.kp T.B_law_alike (ra_cons (r_fz (r_lst (ra_cons (r_var (pv 9)) (ra_cons (r_callP (pe_callG (ok_height_of T 40) (hr.mono (by omega)) hg (by rfl) T.g_height_of T.F_height_of.kp T.B_height_of (ra_cons (r_var (pv 5)) ra_nil))) ra_nil)))) (ra_cons (r_fz (r_lst (ra_cons (r_var (pv 6)) (ra_cons (r_callP (pe_callG (ok_law_tree_height T 40) (hr.mono (by omega)) hg (by rfl) T.g_law_tree_height T.F_law_tree_height.kp T.B_law_tree_height (ra_cons (r_var (pv 5)) ra_nil))) ra_nil)))) ra_nil))))) (pu_B (pu_N (pu_aC (pu_N (pu_aC pu_V (pu_aC (pu_N (pu_aC pu_V pu_aN)) pu_aN))) (pu_aC (pu_N (pu_aC pu_V (pu_aC (pu_N (pu_aC pu_V pu_aN)) pu_aN))) pu_aN)))))) (rw_or1 (r_tcmp (op_neX hr.units) p_ne (r_cb (pe_callB (c_repr hg (room66 hr)) (by rfl) T.z_repr (by decide +kernel) (ra_cons (r_var (pv 5)) ra_nil)) b_repr) (r_var (pv 7)) (nomark _))))) (rs_one (r_ret (r_bl pe_bl))) rs_nil)
      (rs_one (r_mut (ps_expr (pe_bm PySem.F.plainAttrs_list PySem.F.slot_list_append PySem.F.type_list_append mt_append (pv 9) (ra_cons (r_non pe_non) ra_nil))) m_app)))))))))))
      (rs_one (r_ret (r_bl pe_bl))))) hψ
end
theorem all_mk {l : PySem.W.OpenLaw} {w : World} {K : PySem.W.Frag} {h : Heap} {mg : Str → Option Value} {fa : Addr} (X : K.In h) (G : h.Ns mainGlobals mg) (hfa : mg "law" = some (.ref fa))
    {f1 f2 f3 f5 f6 f7 f8 f9 f10 f11 f12 f13 f14 f15 f16 : Addr}
    {o1 n1 o2 n2 o3 n3 o5 n5 o6 n6 o7 n7 o8 n8 o9 n9 o10 n10 o11 n11 o12 n12 o13 n13 o14 n14 o15 n15 o16 n16 : Option Addr}
    {sl1 sl2 sl3 sl5 sl6 sl7 sl8 sl9 sl10 sl11 sl12 sl13 sl14 sl15 sl16 : Array (Option Value)}
    {oc1 kV1 dc1 pm1 cd1 ct1 oc2 kV2 dc2 pm2 cd2 ct2 oc3 kV3 dc3 pm3 cd3 ct3 oc5 kV5 dc5 pm5 cd5 ct5 oc6 kV6 dc6 pm6 cd6 ct6 oc7 kV7 dc7 pm7 cd7 ct7 oc8 kV8 dc8 pm8 cd8 ct8 oc9 kV9 dc9 pm9 cd9 ct9 oc10 kV10 dc10 pm10 cd10 ct10 oc11 kV11 dc11 pm11 cd11 ct11 oc12 kV12 dc12 pm12 cd12 ct12 oc13 kV13 dc13 pm13 cd13 ct13 oc14 kV14 dc14 pm14 cd14 ct14 oc15 kV15 dc15 pm15 cd15 ct15 oc16 kV16 dc16 pm16 cd16 ct16 : Value}
    (a1 : PySem.W.nsIn K mainGlobals "height_of" = some (some (.ref f1))) (l1 : K.lookup f1 = some ⟨oc1, o1, .func (PySem.W.fnOf "height_of" "height_of" (defArgs s_height_of) (defBody s_height_of) (defScope s_height_of) .none kV1 dc1 pm1 n1 cd1 ct1), sl1⟩) (c1 : PySem.W.codeIn K cd1 "height_of" = true) (k1 : PySem.W.keepIn K (.ref f1) = true)
    (a2 : PySem.W.nsIn K mainGlobals "leaves_behind" = some (some (.ref f2))) (l2 : K.lookup f2 = some ⟨oc2, o2, .func (PySem.W.fnOf "leaves_behind" "leaves_behind" (defArgs s_leaves_behind) (defBody s_leaves_behind) (defScope s_leaves_behind) .none kV2 dc2 pm2 n2 cd2 ct2), sl2⟩) (c2 : PySem.W.codeIn K cd2 "leaves_behind" = true) (k2 : PySem.W.keepIn K (.ref f2) = true)
    (a3 : PySem.W.nsIn K mainGlobals "leaves_of" = some (some (.ref f3))) (l3 : K.lookup f3 = some ⟨oc3, o3, .func (PySem.W.fnOf "leaves_of" "leaves_of" (defArgs s_leaves_of) (defBody s_leaves_of) (defScope s_leaves_of) .none kV3 dc3 pm3 n3 cd3 ct3), sl3⟩) (c3 : PySem.W.codeIn K cd3 "leaves_of" = true) (k3 : PySem.W.keepIn K (.ref f3) = true)
    (a5 : PySem.W.nsIn K mainGlobals "_law_bag" = some (some (.ref f5))) (l5 : K.lookup f5 = some ⟨oc5, o5, .func (PySem.W.fnOf "_law_bag" "_law_bag" (defArgs s_law_bag) (defBody s_law_bag) (defScope s_law_bag) .none kV5 dc5 pm5 n5 cd5 ct5), sl5⟩) (c5 : PySem.W.codeIn K cd5 "_law_bag" = true) (k5 : PySem.W.keepIn K (.ref f5) = true)
    (a6 : PySem.W.nsIn K mainGlobals "_law_take" = some (some (.ref f6))) (l6 : K.lookup f6 = some ⟨oc6, o6, .func (PySem.W.fnOf "_law_take" "_law_take" (defArgs s_law_take) (defBody s_law_take) (defScope s_law_take) .none kV6 dc6 pm6 n6 cd6 ct6), sl6⟩) (c6 : PySem.W.codeIn K cd6 "_law_take" = true) (k6 : PySem.W.keepIn K (.ref f6) = true)
    (a7 : PySem.W.nsIn K mainGlobals "_law_some" = some (some (.ref f7))) (l7 : K.lookup f7 = some ⟨oc7, o7, .func (PySem.W.fnOf "_law_some" "_law_some" (defArgs s_law_some) (defBody s_law_some) (defScope s_law_some) .none kV7 dc7 pm7 n7 cd7 ct7), sl7⟩) (c7 : PySem.W.codeIn K cd7 "_law_some" = true) (k7 : PySem.W.keepIn K (.ref f7) = true)
    (a8 : PySem.W.nsIn K mainGlobals "_law_mixed" = some (some (.ref f8))) (l8 : K.lookup f8 = some ⟨oc8, o8, .func (PySem.W.fnOf "_law_mixed" "_law_mixed" (defArgs s_law_mixed) (defBody s_law_mixed) (defScope s_law_mixed) .none kV8 dc8 pm8 n8 cd8 ct8), sl8⟩) (c8 : PySem.W.codeIn K cd8 "_law_mixed" = true) (k8 : PySem.W.keepIn K (.ref f8) = true)
    (a9 : PySem.W.nsIn K mainGlobals "_law_alike" = some (some (.ref f9))) (l9 : K.lookup f9 = some ⟨oc9, o9, .func (PySem.W.fnOf "_law_alike" "_law_alike" (defArgs s_law_alike) (defBody s_law_alike) (defScope s_law_alike) .none kV9 dc9 pm9 n9 cd9 ct9), sl9⟩) (c9 : PySem.W.codeIn K cd9 "_law_alike" = true) (k9 : PySem.W.keepIn K (.ref f9) = true)
    (a10 : PySem.W.nsIn K mainGlobals "_law_row" = some (some (.ref f10))) (l10 : K.lookup f10 = some ⟨oc10, o10, .func (PySem.W.fnOf "_law_row" "_law_row" (defArgs s_law_row) (defBody s_law_row) (defScope s_law_row) .none kV10 dc10 pm10 n10 cd10 ct10), sl10⟩) (c10 : PySem.W.codeIn K cd10 "_law_row" = true) (k10 : PySem.W.keepIn K (.ref f10) = true)
    (a11 : PySem.W.nsIn K mainGlobals "_law_any_row" = some (some (.ref f11))) (l11 : K.lookup f11 = some ⟨oc11, o11, .func (PySem.W.fnOf "_law_any_row" "_law_any_row" (defArgs s_law_any_row) (defBody s_law_any_row) (defScope s_law_any_row) .none kV11 dc11 pm11 n11 cd11 ct11), sl11⟩) (c11 : PySem.W.codeIn K cd11 "_law_any_row" = true) (k11 : PySem.W.keepIn K (.ref f11) = true)
    (a12 : PySem.W.nsIn K mainGlobals "_law_any_tree" = some (some (.ref f12))) (l12 : K.lookup f12 = some ⟨oc12, o12, .func (PySem.W.fnOf "_law_any_tree" "_law_any_tree" (defArgs s_law_any_tree) (defBody s_law_any_tree) (defScope s_law_any_tree) .none kV12 dc12 pm12 n12 cd12 ct12), sl12⟩) (c12 : PySem.W.codeIn K cd12 "_law_any_tree" = true) (k12 : PySem.W.keepIn K (.ref f12) = true)
    (a13 : PySem.W.nsIn K mainGlobals "_law_tree_leaves" = some (some (.ref f13))) (l13 : K.lookup f13 = some ⟨oc13, o13, .func (PySem.W.fnOf "_law_tree_leaves" "_law_tree_leaves" (defArgs s_law_tree_leaves) (defBody s_law_tree_leaves) (defScope s_law_tree_leaves) .none kV13 dc13 pm13 n13 cd13 ct13), sl13⟩) (c13 : PySem.W.codeIn K cd13 "_law_tree_leaves" = true) (k13 : PySem.W.keepIn K (.ref f13) = true)
    (a14 : PySem.W.nsIn K mainGlobals "_law_tree_height" = some (some (.ref f14))) (l14 : K.lookup f14 = some ⟨oc14, o14, .func (PySem.W.fnOf "_law_tree_height" "_law_tree_height" (defArgs s_law_tree_height) (defBody s_law_tree_height) (defScope s_law_tree_height) .none kV14 dc14 pm14 n14 cd14 ct14), sl14⟩) (c14 : PySem.W.codeIn K cd14 "_law_tree_height" = true) (k14 : PySem.W.keepIn K (.ref f14) = true)
    (a15 : PySem.W.nsIn K mainGlobals "_law_lopsided" = some (some (.ref f15))) (l15 : K.lookup f15 = some ⟨oc15, o15, .func (PySem.W.fnOf "_law_lopsided" "_law_lopsided" (defArgs s_law_lopsided) (defBody s_law_lopsided) (defScope s_law_lopsided) .none kV15 dc15 pm15 n15 cd15 ct15), sl15⟩) (c15 : PySem.W.codeIn K cd15 "_law_lopsided" = true) (k15 : PySem.W.keepIn K (.ref f15) = true)
    (a16 : PySem.W.nsIn K mainGlobals "law" = some (some (.ref f16))) (l16 : K.lookup f16 = some ⟨oc16, o16, .func (PySem.W.fnOf "law" "law" (defArgs s_law) (defBody s_law) (defScope s_law) .none kV16 dc16 pm16 n16 cd16 ct16), sl16⟩) (c16 : PySem.W.codeIn K cd16 "law" = true) (k16 : PySem.W.keepIn K (.ref f16) = true)
    (z0 : PySem.W.nsIn K mainGlobals "abs" = some none) (z1 : PySem.W.nsIn K mainGlobals "int" = some none) (z2 : PySem.W.nsIn K mainGlobals "len" = some none) (z3 : PySem.W.nsIn K mainGlobals "max" = some none) (z4 : PySem.W.nsIn K mainGlobals "range" = some none) (z5 : PySem.W.nsIn K mainGlobals "repr" = some none) (z6 : PySem.W.nsIn K mainGlobals "tuple" = some none)
    (hψ : ∀ ns : List Int, ns.length ≤ 63 → ∃ ρ', b_law (lawEn 10 1 ns) = some (.ret (.bool true) ρ')) :
    ∃ fd : FuncData, (∀ (s : Shared) (v : Value), BindsTo s fd ⟨[v], []⟩ [("script", v)]) ∧ ∀ base : Heap, K.In base → base.Ns mainGlobals mg → FnG l.prog w K mg base 46 fa fd ["script"] (spLaw K) := by
  have e := hfa.symm.trans (PySem.W.mg_of X G a16)
  cases e
  let T : Tx K mg := {
    a_height_of := f1, d_height_of := _, F_height_of := fun_mk (st := s_height_of) l1 c1 k1, g_height_of := PySem.W.mg_of X G a1, B_height_of := ((fun_mk (st := s_height_of) l1 c1 k1).binds (ps := ["tree"]) fun _ _ _ _ _ _ us hl => match us, hl with | [_], _ => rfl),
    a_leaves_behind := f2, d_leaves_behind := _, F_leaves_behind := fun_mk (st := s_leaves_behind) l2 c2 k2, g_leaves_behind := PySem.W.mg_of X G a2, B_leaves_behind := ((fun_mk (st := s_leaves_behind) l2 c2 k2).binds (ps := ["tree", "lines"]) fun _ _ _ _ _ _ us hl => match us, hl with | [_, _], _ => rfl),
    a_leaves_of := f3, d_leaves_of := _, F_leaves_of := fun_mk (st := s_leaves_of) l3 c3 k3, g_leaves_of := PySem.W.mg_of X G a3, B_leaves_of := ((fun_mk (st := s_leaves_of) l3 c3 k3).binds (ps := ["tree"]) fun _ _ _ _ _ _ us hl => match us, hl with | [_], _ => rfl),
    a_law_bag := f5, d_law_bag := _, F_law_bag := fun_mk (st := s_law_bag) l5 c5 k5, g_law_bag := PySem.W.mg_of X G a5, B_law_bag := ((fun_mk (st := s_law_bag) l5 c5 k5).binds (ps := ["script"]) fun _ _ _ _ _ _ us hl => match us, hl with | [_], _ => rfl),
    a_law_take := f6, d_law_take := _, F_law_take := fun_mk (st := s_law_take) l6 c6 k6, g_law_take := PySem.W.mg_of X G a6, B_law_take := ((fun_mk (st := s_law_take) l6 c6 k6).binds (ps := ["bag", "many"]) fun _ _ _ _ _ _ us hl => match us, hl with | [_, _], _ => rfl),
    a_law_some := f7, d_law_some := _, F_law_some := fun_mk (st := s_law_some) l7 c7 k7, g_law_some := PySem.W.mg_of X G a7, B_law_some := ((fun_mk (st := s_law_some) l7 c7 k7).binds (ps := ["bag", "things"]) fun _ _ _ _ _ _ us hl => match us, hl with | [_, _], _ => rfl),
    a_law_mixed := f8, d_law_mixed := _, F_law_mixed := fun_mk (st := s_law_mixed) l8 c8 k8, g_law_mixed := PySem.W.mg_of X G a8, B_law_mixed := ((fun_mk (st := s_law_mixed) l8 c8 k8).binds (ps := ["bag", "things"]) fun _ _ _ _ _ _ us hl => match us, hl with | [_, _], _ => rfl),
    a_law_alike := f9, d_law_alike := _, F_law_alike := fun_mk (st := s_law_alike) l9 c9 k9, g_law_alike := PySem.W.mg_of X G a9, B_law_alike := ((fun_mk (st := s_law_alike) l9 c9 k9).binds (ps := ["found", "due"]) fun _ _ _ _ _ _ us hl => match us, hl with | [_, _], _ => rfl),
    a_law_row := f10, d_law_row := _, F_law_row := fun_mk (st := s_law_row) l10 c10 k10, g_law_row := PySem.W.mg_of X G a10, B_law_row := ((fun_mk (st := s_law_row) l10 c10 k10).binds (ps := ["mask"]) fun _ _ _ _ _ _ us hl => match us, hl with | [_], _ => rfl),
    a_law_any_row := f11, d_law_any_row := _, F_law_any_row := fun_mk (st := s_law_any_row) l11 c11 k11, g_law_any_row := PySem.W.mg_of X G a11, B_law_any_row := ((fun_mk (st := s_law_any_row) l11 c11 k11).binds (ps := ["bag", "many"]) fun _ _ _ _ _ _ us hl => match us, hl with | [_, _], _ => rfl),
    a_law_any_tree := f12, d_law_any_tree := _, F_law_any_tree := fun_mk (st := s_law_any_tree) l12 c12 k12, g_law_any_tree := PySem.W.mg_of X G a12, B_law_any_tree := ((fun_mk (st := s_law_any_tree) l12 c12 k12).binds (ps := ["bag", "many", "clauses", "deep"]) fun _ _ _ _ _ _ us hl => match us, hl with | [_, _, _, _], _ => rfl),
    a_law_tree_leaves := f13, d_law_tree_leaves := _, F_law_tree_leaves := fun_mk (st := s_law_tree_leaves) l13 c13 k13, g_law_tree_leaves := PySem.W.mg_of X G a13, B_law_tree_leaves := ((fun_mk (st := s_law_tree_leaves) l13 c13 k13).binds (ps := ["tree", "lines"]) fun _ _ _ _ _ _ us hl => match us, hl with | [_, _], _ => rfl),
    a_law_tree_height := f14, d_law_tree_height := _, F_law_tree_height := fun_mk (st := s_law_tree_height) l14 c14 k14, g_law_tree_height := PySem.W.mg_of X G a14, B_law_tree_height := ((fun_mk (st := s_law_tree_height) l14 c14 k14).binds (ps := ["tree"]) fun _ _ _ _ _ _ us hl => match us, hl with | [_], _ => rfl),
    a_law_lopsided := f15, d_law_lopsided := _, F_law_lopsided := fun_mk (st := s_law_lopsided) l15 c15 k15, g_law_lopsided := PySem.W.mg_of X G a15, B_law_lopsided := ((fun_mk (st := s_law_lopsided) l15 c15 k15).binds (ps := ["bag", "many", "clauses", "deep"]) fun _ _ _ _ _ _ us hl => match us, hl with | [_, _, _, _], _ => rfl),
    a_law := fa, d_law := _, F_law := fun_mk (st := s_law) l16 c16 k16, g_law := PySem.W.mg_of X G a16, B_law := ((fun_mk (st := s_law) l16 c16 k16).binds (ps := ["script"]) fun _ _ _ _ _ _ us hl => match us, hl with | [_], _ => rfl),
    z_abs := PySem.W.mg_none_of X G z0, z_int := PySem.W.mg_none_of X G z1, z_len := PySem.W.mg_none_of X G z2, z_max := PySem.W.mg_none_of X G z3, z_range := PySem.W.mg_none_of X G z4, z_repr := PySem.W.mg_none_of X G z5, z_tuple := PySem.W.mg_none_of X G z6 }
  exact ⟨_, fun s v => .of_eq rfl, fun base _ _ => ok_law T hψ⟩
end Lk31
end

open PySem PySem.W PyProof.Rows
set_option maxHeartbeats 0 in
theorem PySem.Challenge.cw_eithersums_k31_heights_and_leaves_holds : PySem.Challenge.rw_eithersums_k31_heights_and_leaves.Holds := by
  w_on; o_law; k_head; (case hw => w_witness2)
  k_fill
  refine DL.walkG (l := PySem.Challenge.rw_eithersums_k31_heights_and_leaves) (k := 46) (x := "script") rfl rfl ⟨rfl, by decide, by decide⟩ (fun w h Y => PySem.W.kIn_of Y) ?F
  case F =>
    intro w mg fa h KX G hmg
    refine' Lk31.all_mk KX G hmg ?a1 ?l1 ?c1 ?k1 ?a2 ?l2 ?c2 ?k2 ?a3 ?l3 ?c3 ?k3 ?a5 ?l5 ?c5 ?k5 ?a6 ?l6 ?c6 ?k6 ?a7 ?l7 ?c7 ?k7 ?a8 ?l8 ?c8 ?k8 ?a9 ?l9 ?c9 ?k9 ?a10 ?l10 ?c10 ?k10 ?a11 ?l11 ?c11 ?k11 ?a12 ?l12 ?c12 ?k12 ?a13 ?l13 ?c13 ?k13 ?a14 ?l14 ?c14 ?k14 ?a15 ?l15 ?c15 ?k15 ?a16 ?l16 ?c16 ?k16 ?z0 ?z1 ?z2 ?z3 ?z4 ?z5 ?z6 Lk31.law_true
    (case a1 => k_is); (case l1 => k_is); (case c1 => k_is); (case k1 => k_is); (case a2 => k_is); (case l2 => k_is); (case c2 => k_is); (case k2 => k_is)
    (case a3 => k_is); (case l3 => k_is); (case c3 => k_is); (case k3 => k_is); (case a5 => k_is); (case l5 => k_is); (case c5 => k_is); (case k5 => k_is)
    (case a6 => k_is); (case l6 => k_is); (case c6 => k_is); (case k6 => k_is); (case a7 => k_is); (case l7 => k_is); (case c7 => k_is); (case k7 => k_is)
    (case a8 => k_is); (case l8 => k_is); (case c8 => k_is); (case k8 => k_is); (case a9 => k_is); (case l9 => k_is); (case c9 => k_is); (case k9 => k_is)
    (case a10 => k_is); (case l10 => k_is); (case c10 => k_is); (case k10 => k_is); (case a11 => k_is); (case l11 => k_is); (case c11 => k_is); (case k11 => k_is)
    (case a12 => k_is); (case l12 => k_is); (case c12 => k_is); (case k12 => k_is); (case a13 => k_is); (case l13 => k_is); (case c13 => k_is); (case k13 => k_is)
    (case a14 => k_is); (case l14 => k_is); (case c14 => k_is); (case k14 => k_is); (case a15 => k_is); (case l15 => k_is); (case c15 => k_is); (case k15 => k_is)
    (case a16 => k_is); (case l16 => k_is); (case c16 => k_is); (case k16 => k_is); (case z0 => k_is); (case z1 => k_is); (case z2 => k_is); (case z3 => k_is)
    (case z4 => k_is); (case z5 => k_is); (case z6 => k_is)
