import PyProof.Rows.All
import Wide.All
import OpenK.AllK
import Wide.FinOn
import HandS.ForMost
import HandS.Walk
import HandS.IsInst
import HandS.Zip
import HandS.TupAny
import HandS.TupMul
import HandS.Wide
import HandS.Style
import HandS.Flow
import HandS.SortInts
import KE.GoesMore
import KE.GoesEnum
import HandS.SetFor
import HandS.Strs
import HandS.Ends
import PyProof.ReprRoads
import PyProof.ReprBulk
import HandS.Conv
import KE.SortData
import HandS.Flt
import HandS.Deep
import HandS.Iter
import KE.SortCalls
import PySem.Challenge.RW_fewrows_k17_whole_pairings_of_tilted_squ
set_option maxHeartbeats 4000000
set_option Elab.async false
set_option linter.all false
set_option maxRecDepth 100000
/-! DL0: a layer by data over the hand layer: slots that hold data, lists that are owned. -/
namespace DL
open PySem PySem.Spec PyProof.Rows L2

/-- what a slot holds: nothing, data that stands still, a list that only this slot knows, a list lent by the caller -/
inductive Sl where
  | un
  | dat (d : PyData)
  | own (xs : List PyData)
  | lent (xs : List PyData)
  | scr (ns : List Int)

abbrev Sls := List Sl

structure Fc where
  H0 : Hp
  Z0 : Hp
  lo : Option Addr
  loOk : ∀ p, lo = some p → H0 p ≠ none

theorem Same.ne {Z Z' : Hp} (h : Same Z Z') {a : Addr} (n : Z a ≠ none) : Z' a ≠ none := by
  cases q : Z a with
  | none => exact absurd q n
  | some o => rw [h a o q]; exact fun z => nomatch z
theorem Same.updNew {H : Hp} {p : Addr} {o : HO} (h : H p = none) : Same H (upd H p o) := fun b x e => by
  rw [upd_ne (ne_of_none e h)]
  exact e
theorem Same.upd2 {Z H : Hp} {p : Addr} {o : HO} (h : Same Z H) : Same (upd Z p o) (upd H p o) := fun b x e => by
  by_cases hb : b = p
  · subst hb
    rw [upd_same] at e ⊢
    exact e
  · rw [upd_ne hb] at e ⊢
    exact h b x e
theorem Same.updOther {Z H : Hp} {p : Addr} {o : HO} (h : Same Z H) (hz : Z p = none) : Same Z (upd H p o) := fun b x e => by
  rw [upd_ne (ne_of_none e hz)]
  exact h b x e
theorem Same.none {Z H : Hp} (h : Same Z H) {p : Addr} (n : H p = none) : Z p = none := Same.free h n

mutual
/-- a value that stands for data, in the still part Z: lists are tracked ones (or known ones), tuples any -/
inductive Dq (K : PySem.W.Frag) (Z : Hp) : V → PyData → Prop
  | non : Dq K Z .non .none
  | bl (b : Bool) : Dq K Z (.bl b) (.bool b)
  | int (i : Int) : Dq K Z (.int i) (.int i)
  | str (x : Str) : Dq K Z (.str x) (.str x)
  | lst {a : Addr} {xs : List V} {ds : List PyData} : Rd Z a (.lst xs) → DqAll K Z xs ds → Dq K Z (.ref a) (.list ds)
  | tup {a : Addr} {xs : List V} {ds : List PyData} : SqT K Z a xs → DqAll K Z xs ds → Dq K Z (.ref a) (.tuple ds)
inductive DqAll (K : PySem.W.Frag) (Z : Hp) : List V → List PyData → Prop
  | nil : DqAll K Z [] []
  | cons {v : V} {vs : List V} {d : PyData} {ds : List PyData} : Dq K Z v d → DqAll K Z vs ds → DqAll K Z (v :: vs) (d :: ds)
end
theorem rd_mono {H H' : Hp} {a : Addr} {u : HO} (e : Same H H') (h : Rd H a u) : Rd H' a u := by
  rcases h with h | ⟨o, h⟩
  · exact .inl (e _ _ h)
  · exact .inr ⟨o, e _ _ h⟩
mutual
theorem Dq.dp {K : PySem.W.Frag} {H : Hp} : ∀ {v : V} {d : PyData}, Dq K H v d → Dp K H v d
  | _, _, .non => .non
  | _, _, .bl b => .bl b
  | _, _, .int i => .int i
  | _, _, .str x => .str x
  | _, _, .lst h a => .lst (.inl h) (DqAll.dp a)
  | _, _, .tup h a => .tup h (DqAll.dp a)
theorem DqAll.dp {K : PySem.W.Frag} {H : Hp} : ∀ {vs : List V} {ds : List PyData}, DqAll K H vs ds → DpAll K H vs ds
  | _, _, .nil => .nil
  | _, _, .cons h a => .cons (Dq.dp h) (DqAll.dp a)
end
theorem sqT_mono {K : PySem.W.Frag} {H H' : Hp} {a : Addr} {xs : List V} (e : Same H H') (h : SqT K H a xs) : SqT K H' a xs := by
  rcases h with (h | ⟨o, h⟩) | h
  · exact .inl (.inl (e _ _ h))
  · exact .inl (.inr ⟨o, e _ _ h⟩)
  · exact .inr h
mutual
theorem dq_mono {K : PySem.W.Frag} {H H' : Hp} (e : Same H H') : ∀ {v : V} {d : PyData}, Dq K H v d → Dq K H' v d
  | _, _, .non => .non
  | _, _, .bl b => .bl b
  | _, _, .int i => .int i
  | _, _, .str x => .str x
  | _, _, .lst h a => .lst (rd_mono e h) (dqAll_mono e a)
  | _, _, .tup h a => .tup (sqT_mono e h) (dqAll_mono e a)
theorem dqAll_mono {K : PySem.W.Frag} {H H' : Hp} (e : Same H H') : ∀ {vs : List V} {ds : List PyData}, DqAll K H vs ds → DqAll K H' vs ds
  | _, _, .nil => .nil
  | _, _, .cons h a => .cons (dq_mono e h) (dqAll_mono e a)
end
theorem DqAll.length {K : PySem.W.Frag} {H : Hp} : ∀ {vs : List V} {ds : List PyData}, DqAll K H vs ds → vs.length = ds.length
  | _, _, .nil => rfl
  | _, _, .cons _ a => by rw [List.length_cons, List.length_cons, DqAll.length a]
theorem DqAll.get {K : PySem.W.Frag} {H : Hp} : ∀ {vs : List V} {ds : List PyData} {i : Nat} {v : V}, DqAll K H vs ds → vs[i]? = some v → ∃ d, ds[i]? = some d ∧ Dq K H v d
  | _, _, _, _, .nil, e => by simp at e
  | _, _, 0, _, .cons h _, e => by simp at e; subst e; exact ⟨_, rfl, h⟩
  | _, _, i + 1, v, .cons _ a, e => by
    obtain ⟨d, h1, h2⟩ := DqAll.get (i := i) (v := v) a (by simpa using e)
    exact ⟨d, by simpa using h1, h2⟩
theorem DqAll.getD {K : PySem.W.Frag} {H : Hp} : ∀ {vs : List V} {ds : List PyData} {i : Nat} {d : PyData}, DqAll K H vs ds → ds[i]? = some d → ∃ v, vs[i]? = some v ∧ Dq K H v d
  | _, _, _, _, .nil, e => by simp at e
  | _, _, 0, _, .cons h _, e => by simp at e; subst e; exact ⟨_, rfl, h⟩
  | _, _, i + 1, v, .cons _ a, e => by
    obtain ⟨d, h1, h2⟩ := DqAll.getD (i := i) (d := v) a (by simpa using e)
    exact ⟨d, by simpa using h1, h2⟩
theorem DqAll.append {K : PySem.W.Frag} {H : Hp} : ∀ {vs ws : List V} {ds es : List PyData}, DqAll K H vs ds → DqAll K H ws es → DqAll K H (vs ++ ws) (ds ++ es)
  | _, _, _, _, .nil, b => b
  | _, _, _, _, .cons h a, b => .cons h (DqAll.append a b)
theorem DqAll.take {K : PySem.W.Frag} {H : Hp} : ∀ {vs : List V} {ds : List PyData} (n : Nat), DqAll K H vs ds → DqAll K H (vs.take n) (ds.take n)
  | _, _, 0, _ => .nil
  | _, _, _ + 1, .nil => .nil
  | _, _, n + 1, .cons h a => .cons h (DqAll.take n a)
theorem DqAll.drop {K : PySem.W.Frag} {H : Hp} : ∀ {vs : List V} {ds : List PyData} (n : Nat), DqAll K H vs ds → DqAll K H (vs.drop n) (ds.drop n)
  | _, _, 0, r => r
  | _, _, _ + 1, .nil => .nil
  | _, _, n + 1, .cons _ a => DqAll.drop n a
theorem DqAll.set {K : PySem.W.Frag} {H : Hp} {v : V} {d : PyData} (h : Dq K H v d) : ∀ {vs : List V} {ds : List PyData} (n : Nat), DqAll K H vs ds → DqAll K H (vs.set n v) (ds.set n d)
  | _, _, _, .nil => .nil
  | _, _, 0, .cons _ a => .cons h a
  | _, _, n + 1, .cons h' a => .cons h' (DqAll.set h n a)
theorem DqAll.one {K : PySem.W.Frag} {H : Hp} {v : V} {d : PyData} (h : Dq K H v d) : DqAll K H [v] [d] := .cons h .nil
theorem DqAll.rep {K : PySem.W.Frag} {H : Hp} {vs : List V} {ds : List PyData} (h : DqAll K H vs ds) : ∀ n : Nat, DqAll K H (List.replicate n vs).flatten (List.replicate n ds).flatten
  | 0 => .nil
  | n + 1 => by
    rw [List.replicate_succ, List.replicate_succ, List.flatten_cons, List.flatten_cons]
    exact DqAll.append h (DqAll.rep h n)
theorem DqAll.reverse {K : PySem.W.Frag} {H : Hp} : ∀ {vs : List V} {ds : List PyData}, DqAll K H vs ds → DqAll K H vs.reverse ds.reverse
  | _, _, .nil => .nil
  | _, _, .cons h a => by
    rw [List.reverse_cons, List.reverse_cons]
    exact DqAll.append (DqAll.reverse a) (.cons h .nil)
theorem DqAll.eraseIdx {K : PySem.W.Frag} {H : Hp} : ∀ {vs : List V} {ds : List PyData} (n : Nat), DqAll K H vs ds → DqAll K H (vs.eraseIdx n) (ds.eraseIdx n)
  | _, _, _, .nil => .nil
  | _, _, 0, .cons _ a => a
  | _, _, n + 1, .cons h a => .cons h (DqAll.eraseIdx n a)

structure Rel (K : PySem.W.Frag) (C : Fc) (Z : Hp) (σ : L2.St) (H : Hp) (S : Sls) : Prop where
  sub : Same Z H
  ext : Same C.Z0 Z
  fresh : ∀ a, Z a ≠ none → C.Z0 a ≠ none ∨ C.H0 a = none
  same : ∀ b o, C.lo ≠ some b → C.H0 b = some o → H b = some o
  lo : ∀ p, C.lo = some p → (∃ ws, H p = some (HO.lst ws)) ∧ Z p = none
  len : σ.length = S.length
  dat : ∀ (i : Nat) (d : PyData), S[i]? = some (Sl.dat d) → ∃ v, σ[i]? = some (some v) ∧ Dq K Z v d
  own : ∀ (i : Nat) (xs : List PyData), S[i]? = some (Sl.own xs) → ∃ p ws, σ[i]? = some (some (V.ref p)) ∧ H p = some (HO.lst ws) ∧ DqAll K Z ws xs ∧ Z p = none ∧ C.H0 p = none
  lent : ∀ (i : Nat) (xs : List PyData), S[i]? = some (Sl.lent xs) → ∃ p ws, C.lo = some p ∧ σ[i]? = some (some (V.ref p)) ∧ H p = some (HO.lst ws) ∧ DqAll K Z ws xs
  dist : ∀ (i j : Nat) (xs ys : List PyData), S[i]? = some (Sl.own xs) → S[j]? = some (Sl.own ys) → i ≠ j → σ[i]? ≠ σ[j]?
  scr : ∀ (i : Nat) (ns : List Int), S[i]? = some (Sl.scr ns) → ∃ a, σ[i]? = some (some (V.ref a)) ∧ SqL K Z a (ns.map V.int)
  lent1 : ∀ (i j : Nat) (xs ys : List PyData), S[i]? = some (Sl.lent xs) → S[j]? = some (Sl.lent ys) → i = j

section
variable {K : PySem.W.Frag} {C : Fc} {Z Z' : Hp} {σ σ' : L2.St} {H H' : Hp} {S S' : Sls}

/-- the address p is not that of an owned or lent list -/
def Apart (σ : L2.St) (S : Sls) (p : Addr) : Prop := ∀ (i : Nat) (xs : List PyData), (S[i]? = some (Sl.own xs) ∨ S[i]? = some (Sl.lent xs)) → σ[i]? ≠ some (some (V.ref p))

theorem Rel.h0 (R : Rel K C Z σ H S) {a : Addr} (h : H a = none) : C.H0 a = none := by
  cases q : C.H0 a with
  | none => rfl
  | some o =>
    by_cases hl : C.lo = some a
    · obtain ⟨⟨ws, e⟩, _⟩ := R.lo a hl
      rw [h] at e
      cases e
    · rw [R.same a o hl q] at h
      cases h
theorem Rel.apart (R : Rel K C Z σ H S) {a : Addr} (h : H a = none) : Apart σ S a := fun i xs hi e => by
  rcases hi with hi | hi
  · obtain ⟨p, ws, h1, h2, _⟩ := R.own i xs hi
    rw [h1] at e
    cases e
    rw [h] at h2
    cases h2
  · obtain ⟨p, ws, _, h1, h2, _⟩ := R.lent i xs hi
    rw [h1] at e
    cases e
    rw [h] at h2
    cases h2
/-- the heap grows by new objects, the still part too -/
theorem Rel.grow (R : Rel K C Z σ H S) (hZ : Same Z Z') (hs : Same Z' H') (hH : Same H H') (hf : ∀ a, Z' a ≠ none → Z a ≠ none ∨ H a = none) : Rel K C Z' σ H' S := by
  have stay : ∀ {p : Addr} {o : HO}, Z p = none → H p = some o → Z' p = none := fun {p o} h1 h2 => by
    cases q : Z' p with
    | none => rfl
    | some o =>
      rcases hf p (by rw [q]; exact fun z => nomatch z) with z | z
      · exact absurd h1 z
      · rw [h2] at z
        cases z
  refine ⟨hs, R.ext.trans hZ, fun a n => ?_, fun b o hl e => hH b o (R.same b o hl e), fun p hp => ?_, R.len, fun i d e => let ⟨v, h1, h2⟩ := R.dat i d e; ⟨v, h1, dq_mono hZ h2⟩, fun i xs e => ?_, fun i xs e => ?_, R.dist, fun i ns e => let ⟨a, h1, h2⟩ := R.scr i ns e; ⟨a, h1, Same.seq hZ h2⟩, R.lent1⟩
  · rcases hf a n with h | h
    · exact R.fresh a h
    · exact .inr (R.h0 h)
  · obtain ⟨⟨ws, e⟩, z⟩ := R.lo p hp
    exact ⟨⟨ws, hH _ _ e⟩, stay z e⟩
  · obtain ⟨p, ws, h1, h2, h3, h4, h5⟩ := R.own i xs e
    exact ⟨p, ws, h1, hH _ _ h2, dqAll_mono hZ h3, stay h4 h2, h5⟩
  · obtain ⟨p, ws, h0, h1, h2, h3⟩ := R.lent i xs e
    exact ⟨p, ws, h0, h1, hH _ _ h2, dqAll_mono hZ h3⟩
/-- a new object, still from now on -/
theorem Rel.new (R : Rel K C Z σ H S) {p : Addr} {o : HO} (h : H p = none) : Rel K C (upd Z p o) σ (upd H p o) S :=
  R.grow (Same.updNew (Same.none R.sub h)) (Same.upd2 R.sub) (Same.updNew h) fun a n => by
    by_cases e : a = p
    · subst e; exact .inr h
    · rw [upd_ne e] at n; exact .inl n
theorem Rel.newZ (R : Rel K C Z σ H S) {p : Addr} {o : HO} (h : H p = none) : Same Z (upd Z p o) := Same.updNew (Same.none R.sub h)
/-- a new object, not yet still -/
theorem Rel.newU (R : Rel K C Z σ H S) {p : Addr} {o : HO} (h : H p = none) : Rel K C Z σ (upd H p o) S :=
  R.grow (Same.refl _) (Same.updOther R.sub (Same.none R.sub h)) (Same.updNew h) fun a n => .inl n
/-- an object that is known to no slot becomes still -/
theorem Rel.still (R : Rel K C Z σ H S) {p : Addr} {o : HO} (h : H p = some o) (hz : Z p = none) (h0 : C.H0 p = none) (ha : Apart σ S p) : Rel K C (upd Z p o) σ H S := by
  have hZ : Same Z (upd Z p o) := Same.updNew hz
  have ne : ∀ {q : Addr}, q ≠ p → Z q = none → upd Z p o q = none := fun {q} e n => by rw [upd_ne e]; exact n
  have lop : C.lo ≠ some p := fun e => C.loOk p e h0
  refine ⟨fun b x e => ?_, R.ext.trans hZ, fun a n => ?_, R.same, fun q hq => ?_, R.len, fun i d e => let ⟨v, h1, h2⟩ := R.dat i d e; ⟨v, h1, dq_mono hZ h2⟩, fun i xs e => ?_, fun i xs e => ?_, R.dist, fun i ns e => let ⟨a, h1, h2⟩ := R.scr i ns e; ⟨a, h1, Same.seq hZ h2⟩, R.lent1⟩
  · by_cases hb : b = p
    · subst hb; rw [upd_same] at e; rw [h]; exact e
    · rw [upd_ne hb] at e; exact R.sub b x e
  · by_cases e : a = p
    · subst e; exact .inr h0
    · rw [upd_ne e] at n; exact R.fresh a n
  · obtain ⟨w, z⟩ := R.lo q hq
    exact ⟨w, ne (fun e => lop (by rw [← e]; exact hq)) z⟩
  · obtain ⟨q, ws, h1, h2, h3, h4, h5⟩ := R.own i xs e
    exact ⟨q, ws, h1, h2, dqAll_mono hZ h3, ne (fun z => ha i xs (.inl e) (by rw [h1, z])) h4, h5⟩
  · obtain ⟨q, ws, h0, h1, h2, h3⟩ := R.lent i xs e
    exact ⟨q, ws, h0, h1, h2, dqAll_mono hZ h3⟩
theorem getElem?_set_cases {α : Type} {l : List α} {i j : Nat} {a b : α} (h : (l.set i a)[j]? = some b) : (i = j ∧ i < l.length ∧ a = b) ∨ (i ≠ j ∧ l[j]? = some b) := by
  by_cases e : i = j
  · subst e
    by_cases hl : i < l.length
    · rw [List.getElem?_set_self hl] at h
      exact .inl ⟨rfl, hl, Option.some.inj h⟩
    · rw [List.getElem?_eq_none (by simpa using hl)] at h
      cases h
  · rw [List.getElem?_set_ne e] at h
    exact .inr ⟨e, h⟩
/-- only what is told of a slot that is not lent, nor owned, changes -/
theorem Rel.setDat (R : Rel K C Z σ H S) {i : Nat} {v : V} {d : PyData} (hd : Dq K Z v d) : Rel K C Z (σ.set i (some v)) H (S.set i (.dat d)) := by
  refine ⟨R.sub, R.ext, R.fresh, R.same, R.lo, by rw [List.length_set, List.length_set]; exact R.len, fun j e he => ?_, fun j xs he => ?_, fun j xs he => ?_, fun j k xs ys hj hk ne => ?_, fun j ns he => (getElem?_set_cases he).elim (fun z => nomatch z.2.2) (fun z => let ⟨a, g1, g2⟩ := R.scr j ns z.2; ⟨a, (List.getElem?_set_ne z.1).trans g1, g2⟩), fun j k xs ys hj hk => ?_⟩
  · rcases getElem?_set_cases he with ⟨rfl, hl, e1⟩ | ⟨ne, e1⟩
    · cases e1
      exact ⟨v, by rw [List.getElem?_set_self (by rw [R.len]; exact hl)], hd⟩
    · obtain ⟨w, h1, h2⟩ := R.dat j e e1
      exact ⟨w, by rw [List.getElem?_set_ne ne]; exact h1, h2⟩
  · rcases getElem?_set_cases he with ⟨rfl, hl, e1⟩ | ⟨ne, e1⟩
    · cases e1
    · obtain ⟨p, ws, h1, h2⟩ := R.own j xs e1
      exact ⟨p, ws, by rw [List.getElem?_set_ne ne]; exact h1, h2⟩
  · rcases getElem?_set_cases he with ⟨rfl, hl, e1⟩ | ⟨ne, e1⟩
    · cases e1
    · obtain ⟨p, ws, h0, h1, h2⟩ := R.lent j xs e1
      exact ⟨p, ws, h0, by rw [List.getElem?_set_ne ne]; exact h1, h2⟩
  · rcases getElem?_set_cases hj with ⟨rfl, hl, e1⟩ | ⟨n1, e1⟩
    · cases e1
    rcases getElem?_set_cases hk with ⟨rfl, hl, e2⟩ | ⟨n2, e2⟩
    · cases e2
    rw [List.getElem?_set_ne n1, List.getElem?_set_ne n2]
    exact R.dist j k xs ys e1 e2 ne
  · rcases getElem?_set_cases hj with ⟨rfl, hl, e1⟩ | ⟨n1, e1⟩
    · cases e1
    rcases getElem?_set_cases hk with ⟨rfl, hl, e2⟩ | ⟨n2, e2⟩
    · cases e2
    exact R.lent1 j k xs ys e1 e2
/-- a slot is given a list that no other slot knows -/
theorem Rel.setOwn (R : Rel K C Z σ H S) {i : Nat} {p : Addr} {ws : List V} {xs : List PyData} (h1 : H p = some (.lst ws)) (h2 : DqAll K Z ws xs) (h3 : Z p = none) (h4 : C.H0 p = none) (ha : Apart σ S p) :
    Rel K C Z (σ.set i (some (.ref p))) H (S.set i (.own xs)) := by
  refine ⟨R.sub, R.ext, R.fresh, R.same, R.lo, by rw [List.length_set, List.length_set]; exact R.len, fun j e he => ?_, fun j ys he => ?_, fun j ys he => ?_, fun j k ys zs hj hk ne => ?_, fun j ns he => (getElem?_set_cases he).elim (fun z => nomatch z.2.2) (fun z => let ⟨a, g1, g2⟩ := R.scr j ns z.2; ⟨a, (List.getElem?_set_ne z.1).trans g1, g2⟩), fun j k ys zs hj hk => ?_⟩
  · rcases getElem?_set_cases he with ⟨rfl, hl, e1⟩ | ⟨ne, e1⟩
    · cases e1
    · obtain ⟨w, h1, h2⟩ := R.dat j e e1
      exact ⟨w, by rw [List.getElem?_set_ne ne]; exact h1, h2⟩
  · rcases getElem?_set_cases he with ⟨rfl, hl, e1⟩ | ⟨ne, e1⟩
    · cases e1
      exact ⟨p, ws, by rw [List.getElem?_set_self (by rw [R.len]; exact hl)], h1, h2, h3, h4⟩
    · obtain ⟨p, ws, h1, h2⟩ := R.own j ys e1
      exact ⟨p, ws, by rw [List.getElem?_set_ne ne]; exact h1, h2⟩
  · rcases getElem?_set_cases he with ⟨rfl, hl, e1⟩ | ⟨ne, e1⟩
    · cases e1
    · obtain ⟨p, ws, h0, h1, h2⟩ := R.lent j ys e1
      exact ⟨p, ws, h0, by rw [List.getElem?_set_ne ne]; exact h1, h2⟩
  · rcases getElem?_set_cases hj with ⟨rfl, hl, e1⟩ | ⟨n1, e1⟩
    · rcases getElem?_set_cases hk with ⟨rfl, _⟩ | ⟨n2, e2⟩
      · exact absurd rfl ne
      · rw [List.getElem?_set_ne n2, List.getElem?_set_self (by rw [R.len]; exact hl)]
        exact fun z => ha k zs (.inl e2) z.symm
    · rcases getElem?_set_cases hk with ⟨rfl, hl, e2⟩ | ⟨n2, e2⟩
      · rw [List.getElem?_set_ne n1, List.getElem?_set_self (by rw [R.len]; exact hl)]
        exact fun z => ha j ys (.inl e1) z
      · rw [List.getElem?_set_ne n1, List.getElem?_set_ne n2]
        exact R.dist j k ys zs e1 e2 ne
  · rcases getElem?_set_cases hj with ⟨rfl, hl, e1⟩ | ⟨n1, e1⟩
    · cases e1
    rcases getElem?_set_cases hk with ⟨rfl, hl, e2⟩ | ⟨n2, e2⟩
    · cases e2
    exact R.lent1 j k ys zs e1 e2
/-- a slot is forgotten (what stands in it may be anything) -/
theorem Rel.setUn (R : Rel K C Z σ H S) {i : Nat} {v : Option V} : Rel K C Z (σ.set i v) H (S.set i .un) := by
  refine ⟨R.sub, R.ext, R.fresh, R.same, R.lo, by rw [List.length_set, List.length_set]; exact R.len, fun j e he => ?_, fun j xs he => ?_, fun j xs he => ?_, fun j k xs ys hj hk ne => ?_, fun j ns he => (getElem?_set_cases he).elim (fun z => nomatch z.2.2) (fun z => let ⟨a, g1, g2⟩ := R.scr j ns z.2; ⟨a, (List.getElem?_set_ne z.1).trans g1, g2⟩), fun j k xs ys hj hk => ?_⟩
  · rcases getElem?_set_cases he with ⟨rfl, hl, e1⟩ | ⟨ne, e1⟩
    · cases e1
    · obtain ⟨w, h1, h2⟩ := R.dat j e e1
      exact ⟨w, by rw [List.getElem?_set_ne ne]; exact h1, h2⟩
  · rcases getElem?_set_cases he with ⟨rfl, hl, e1⟩ | ⟨ne, e1⟩
    · cases e1
    · obtain ⟨p, ws, h1, h2⟩ := R.own j xs e1
      exact ⟨p, ws, by rw [List.getElem?_set_ne ne]; exact h1, h2⟩
  · rcases getElem?_set_cases he with ⟨rfl, hl, e1⟩ | ⟨ne, e1⟩
    · cases e1
    · obtain ⟨p, ws, h0, h1, h2⟩ := R.lent j xs e1
      exact ⟨p, ws, h0, by rw [List.getElem?_set_ne ne]; exact h1, h2⟩
  · rcases getElem?_set_cases hj with ⟨rfl, hl, e1⟩ | ⟨n1, e1⟩
    · cases e1
    rcases getElem?_set_cases hk with ⟨rfl, hl, e2⟩ | ⟨n2, e2⟩
    · cases e2
    rw [List.getElem?_set_ne n1, List.getElem?_set_ne n2]
    exact R.dist j k xs ys e1 e2 ne
  · rcases getElem?_set_cases hj with ⟨rfl, hl, e1⟩ | ⟨n1, e1⟩
    · cases e1
    rcases getElem?_set_cases hk with ⟨rfl, hl, e2⟩ | ⟨n2, e2⟩
    · cases e2
    exact R.lent1 j k xs ys e1 e2
/-- an owned list is read as a value: it stands still from now on -/
theorem Rel.freeze (R : Rel K C Z σ H S) {i : Nat} {xs : List PyData} (h : S[i]? = some (.own xs)) : ∃ p ws, σ[i]? = some (some (.ref p)) ∧ Same Z (upd Z p (.lst ws)) ∧ Rel K C (upd Z p (.lst ws)) σ H (S.set i (.dat (.list xs))) ∧ Dq K (upd Z p (.lst ws)) (.ref p) (.list xs) := by
  obtain ⟨p, ws, h1, h2, h3, h4, h5⟩ := R.own i xs h
  have hi : i < S.length := (List.getElem?_eq_some_iff.mp h).1
  have hZ : Same Z (upd Z p (.lst ws)) := Same.updNew h4
  have hd : Dq K (upd Z p (.lst ws)) (.ref p) (.list xs) := .lst (.inl upd_same) (dqAll_mono hZ h3)
  -- first the slot is forgotten, then the list is stilled, then the slot is told again
  have R1 : Rel K C Z (σ.set i (some (.ref p))) H (S.set i .un) := R.setUn
  have e1 : σ.set i (some (.ref p)) = σ := by
    apply List.ext_getElem?
    intro j
    by_cases e : i = j
    · subst e; rw [List.getElem?_set_self (by rw [R.len]; exact hi), h1]
    · rw [List.getElem?_set_ne e]
  rw [e1] at R1
  have ap : Apart σ (S.set i .un) p := fun j ys hj ej => by
    have hne : i ≠ j := fun e => by
      subst e
      rcases hj with hj | hj <;> (rw [List.getElem?_set_self hi] at hj; cases hj)
    rw [List.getElem?_set_ne hne] at hj
    rcases hj with hj | hj
    · exact R.dist i j xs ys h hj hne (h1.trans ej.symm)
    · obtain ⟨q, ws', h0, h1', _⟩ := R.lent j ys hj
      rw [h1'] at ej
      cases ej
      exact C.loOk p h0 h5
  have R2 := (R1.still h2 h4 h5 ap).setDat (i := i) hd
  rw [e1, List.set_set] at R2
  exact ⟨p, ws, h1, hZ, R2, hd⟩
/-- an owned list is changed -/
theorem Rel.writeOwn (R : Rel K C Z σ H S) {i : Nat} {xs ys : List PyData} {p : Addr} {us : List V} (h : S[i]? = some (.own xs)) (hp : σ[i]? = some (some (.ref p))) (hu : DqAll K Z us ys) :
    Rel K C Z σ (upd H p (.lst us)) (S.set i (.own ys)) := by
  obtain ⟨p', ws, h1, h2, h3, h4, h5⟩ := R.own i xs h
  rw [hp] at h1
  cases h1
  have hi : i < S.length := (List.getElem?_eq_some_iff.mp h).1
  have lop : C.lo ≠ some p := fun e => C.loOk p e h5
  refine ⟨Same.updOther R.sub h4, R.ext, R.fresh, fun b o hl e => ?_, fun q hq => ?_, by rw [List.length_set]; exact R.len, fun j e he => ?_, fun j zs he => ?_, fun j zs he => ?_, fun j k zs vs hj hk ne => ?_, fun j ns he => (getElem?_set_cases he).elim (fun z => nomatch z.2.2) (fun z => R.scr j ns z.2), fun j k zs vs hj hk => ?_⟩
  · rw [upd_ne (ne_of_none e h5)]
    exact R.same b o hl e
  · obtain ⟨w, z⟩ := R.lo q hq
    exact ⟨by rw [upd_ne (fun e => lop (by rw [← e]; exact hq))]; exact w, z⟩
  · rcases getElem?_set_cases he with ⟨rfl, hl, e1⟩ | ⟨ne, e1⟩
    · cases e1
    · exact R.dat j e e1
  · rcases getElem?_set_cases he with ⟨rfl, hl, e1⟩ | ⟨ne, e1⟩
    · cases e1
      exact ⟨p, us, hp, upd_same, hu, h4, h5⟩
    · obtain ⟨q, ws', g1, g2, g3⟩ := R.own j zs e1
      exact ⟨q, ws', g1, by rw [upd_ne (fun e => R.dist i j xs zs h e1 ne (by rw [hp, g1, e]))]; exact g2, g3⟩
  · rcases getElem?_set_cases he with ⟨rfl, hl, e1⟩ | ⟨ne, e1⟩
    · cases e1
    · obtain ⟨q, ws', g0, g1, g2, g3⟩ := R.lent j zs e1
      exact ⟨q, ws', g0, g1, by rw [upd_ne (fun e => lop (by rw [← e]; exact g0))]; exact g2, g3⟩
  · have f : ∀ {m : Nat} {us : List PyData}, (S.set i (.own ys))[m]? = some (.own us) → ∃ us', S[m]? = some (.own us') := fun {m us} hm => by
      rcases getElem?_set_cases hm with ⟨rfl, _, _⟩ | ⟨_, e1⟩
      · exact ⟨_, h⟩
      · exact ⟨_, e1⟩
    obtain ⟨u1, f1⟩ := f hj
    obtain ⟨u2, f2⟩ := f hk
    exact R.dist j k u1 u2 f1 f2 ne
  · rcases getElem?_set_cases hj with ⟨rfl, hl, e1⟩ | ⟨n1, e1⟩
    · cases e1
    rcases getElem?_set_cases hk with ⟨rfl, hl, e2⟩ | ⟨n2, e2⟩
    · cases e2
    exact R.lent1 j k zs vs e1 e2
/-- the lent list is changed -/
theorem Rel.writeLent (R : Rel K C Z σ H S) {i : Nat} {xs ys : List PyData} {p : Addr} {us : List V} (h : S[i]? = some (.lent xs)) (hp : σ[i]? = some (some (.ref p))) (hu : DqAll K Z us ys) :
    Rel K C Z σ (upd H p (.lst us)) (S.set i (.lent ys)) := by
  obtain ⟨p', ws, h0, h1, h2, h3⟩ := R.lent i xs h
  rw [hp] at h1
  cases h1
  have hi : i < S.length := (List.getElem?_eq_some_iff.mp h).1
  have hz : Z p = none := (R.lo p h0).2
  refine ⟨Same.updOther R.sub hz, R.ext, R.fresh, fun b o hl e => ?_, fun q hq => ?_, by rw [List.length_set]; exact R.len, fun j e he => ?_, fun j zs he => ?_, fun j zs he => ?_, fun j k zs vs hj hk ne => ?_, fun j ns he => (getElem?_set_cases he).elim (fun z => nomatch z.2.2) (fun z => R.scr j ns z.2), fun j k zs vs hj hk => ?_⟩
  · rw [upd_ne (fun e => hl (by rw [e]; exact h0))]
    exact R.same b o hl e
  · rw [h0] at hq
    cases hq
    exact ⟨⟨us, upd_same⟩, hz⟩
  · rcases getElem?_set_cases he with ⟨rfl, hl, e1⟩ | ⟨ne, e1⟩
    · cases e1
    · exact R.dat j e e1
  · rcases getElem?_set_cases he with ⟨rfl, hl, e1⟩ | ⟨ne, e1⟩
    · cases e1
    · obtain ⟨q, ws', g1, g2, g3, g4, g5⟩ := R.own j zs e1
      exact ⟨q, ws', g1, by rw [upd_ne (fun e => C.loOk p h0 (by rw [← e]; exact g5))]; exact g2, g3, g4, g5⟩
  · rcases getElem?_set_cases he with ⟨rfl, hl, e1⟩ | ⟨ne, e1⟩
    · cases e1
      exact ⟨p, us, h0, hp, upd_same, hu⟩
    · exact absurd (R.lent1 i j xs zs h e1) ne
  · have f : ∀ {m : Nat} {us : List PyData}, (S.set i (.lent ys))[m]? = some (.own us) → S[m]? = some (.own us) := fun {m us} hm => by
      rcases getElem?_set_cases hm with ⟨rfl, _, e1⟩ | ⟨_, e1⟩
      · cases e1
      · exact e1
    exact R.dist j k zs vs (f hj) (f hk) ne
  · have f : ∀ {m : Nat} {us : List PyData}, (S.set i (.lent ys))[m]? = some (.lent us) → ∃ us', S[m]? = some (.lent us') := fun {m us} hm => by
      rcases getElem?_set_cases hm with ⟨rfl, _, _⟩ | ⟨_, e1⟩
      · exact ⟨_, h⟩
      · exact ⟨_, e1⟩
    obtain ⟨u1, f1⟩ := f hj
    obtain ⟨u2, f2⟩ := f hk
    exact R.lent1 j k u1 u2 f1 f2
end
end DL

/-! DL1: the canonical readings of expressions by data, and the rules for expressions. -/
namespace DL
open PySem PySem.Spec PyProof.Rows L2

abbrev EE := Sls → Option (PyData × Sls)
abbrev EL := Sls → Option (List PyData × Sls)
abbrev EB := Sls → Option (Bool × Sls)

section
variable {K : PySem.W.Frag} {C : Fc} {Z Z' : Hp} {σ σ' : L2.St} {H H' : Hp} {S S' : Sls}
/-- an object that no slot knows stands through whatever runs meanwhile -/
theorem Rel.guard (R : Rel K C Z σ H S) {D : Addr} {o : HO} (hD : H D = some o) (hz : Z D = none) (h0 : C.H0 D = none) (ha : Apart σ S D) :
    ∃ C' : Fc, Rel K C' Z σ H S ∧ (∀ q, C'.H0 q = none → C.H0 q = none ∧ q ≠ D) ∧ C'.lo = C.lo ∧
      ∀ (Z' : Hp) (σ' : L2.St) (H' : Hp) (S' : Sls), Same Z Z' → Rel K C' Z' σ' H' S' → Rel K C Z' σ' H' S' ∧ H' D = some o ∧ Z' D = none ∧ Apart σ' S' D := by
  have lop : ∀ p, C.lo = some p → p ≠ D := fun p hp e => C.loOk p hp (by rw [e]; exact h0)
  have hq : ∀ q, upd C.H0 D o q = none → C.H0 q = none ∧ q ≠ D := fun q e => by
    by_cases hd : q = D
    · subst hd; rw [upd_same] at e; cases e
    · rw [upd_ne hd] at e; exact ⟨e, hd⟩
  refine ⟨⟨upd C.H0 D o, Z, C.lo, fun p hp => by rw [upd_ne (lop p hp)]; exact C.loOk p hp⟩, ?_, hq, rfl, fun Z1 σ1 H1 S1 hZ R1 => ?_⟩
  · refine ⟨R.sub, Same.refl _, fun a n => .inl n, fun b x hl e => ?_, R.lo, R.len, R.dat, fun i xs hi => ?_, R.lent, R.dist, R.scr, R.lent1⟩
    · by_cases hb : b = D
      · subst hb
        have e' : upd C.H0 b o b = some x := e
        rw [upd_same] at e'
        rw [hD]; exact e'
      · have e' : upd C.H0 D o b = some x := e
        rw [upd_ne hb] at e'
        exact R.same b x hl e'
    · obtain ⟨p, ws, h1, h2, h3, h4, h5⟩ := R.own i xs hi
      refine ⟨p, ws, h1, h2, h3, h4, ?_⟩
      show upd C.H0 D o p = none
      rw [upd_ne (fun e => ha i xs (.inl hi) (by rw [h1, e]))]
      exact h5
  · have hDs : H1 D = some o := R1.same D o (fun e => lop D e rfl) upd_same
    have hZD : Z1 D = none := by
      cases q : Z1 D with
      | none => rfl
      | some u =>
        rcases R1.fresh D (by rw [q]; exact fun z => nomatch z) with z | z
        · exact absurd hz z
        · have z' : upd C.H0 D o D = none := z
          rw [upd_same] at z'
          cases z'
    refine ⟨⟨R1.sub, R.ext.trans hZ, fun a n => ?_, fun b x hl e => R1.same b x hl ?_, R1.lo, R1.len, R1.dat, fun i xs hi => ?_, R1.lent, R1.dist, R1.scr, R1.lent1⟩, hDs, hZD, fun i xs hi e => ?_⟩
    · rcases R1.fresh a n with z | z
      · exact R.fresh a z
      · exact .inr (hq a z).1
    · show upd C.H0 D o b = some x
      rw [upd_ne (ne_of_none e h0)]
      exact e
    · obtain ⟨p, ws, h1, h2, h3, h4, h5⟩ := R1.own i xs hi
      exact ⟨p, ws, h1, h2, h3, h4, (hq p h5).1⟩
    · rcases hi with hi | hi
      · obtain ⟨p, ws, h1, h2, h3, h4, h5⟩ := R1.own i xs hi
        rw [h1] at e
        cases e
        exact (hq D h5).2 rfl
      · obtain ⟨p, ws, h1, h2, h3⟩ := R1.lent i xs hi
        rw [h2] at e
        cases e
        exact lop D h1 rfl
end

/-! ### readings -/
def tD (K : PySem.W.Frag) (f : EE) : TE := fun σ H Q => ∃ C Z S d S', Rel K C Z σ H S ∧ f S = some (d, S') ∧ ∀ v H' Z', Same Z Z' → Rel K C Z' σ H' S' → Dq K Z' v d → Q v H'
/-- a new list that nothing else knows -/
def tF (K : PySem.W.Frag) (f : EL) : TE := fun σ H Q => ∃ C Z S ds S', Rel K C Z σ H S ∧ f S = some (ds, S') ∧
  ∀ p ws H' Z', Same Z Z' → Rel K C Z' σ H' S' → H' p = some (.lst ws) → Z' p = none → C.H0 p = none → Apart σ S' p → DqAll K Z' ws ds → Q (.ref p) H'
def tDA (K : PySem.W.Frag) (f : EL) : TA := fun σ H Q => ∃ C Z S ds S', Rel K C Z σ H S ∧ f S = some (ds, S') ∧ ∀ vs H' Z', Same Z Z' → Rel K C Z' σ H' S' → DqAll K Z' vs ds → Q vs H'
def tDT (K : PySem.W.Frag) (f : EB) : TT := fun σ H Q => ∃ C Z S b S', Rel K C Z σ H S ∧ f S = some (b, S') ∧ ∀ H' Z', Same Z Z' → Rel K C Z' σ H' S' → Q b H'

section
variable {X : Cx} {a b c e : Expr} {pos : Pos}
theorem _root_.L2.PE.imp {t t' : TE} (h : PE X e t) (i : ∀ σ H Q, t' σ H Q → t σ H Q) : PE X e t' := ⟨fun pins s σ H Q I hw => h.run pins s σ H Q I (i σ H Q hw)⟩
theorem _root_.L2.PT.imp {t t' : TT} (h : PT X e t) (i : ∀ σ H Q, t' σ H Q → t σ H Q) : PT X e t' := ⟨fun pins s σ H Q I hw => h.run pins s σ H Q I (i σ H Q hw)⟩
theorem _root_.L2.PW.imp {t t' : TT} (h : PW X e t) (i : ∀ σ H Q, t' σ H Q → t σ H Q) : PW X e t' := ⟨fun wh pins s σ H Q I hw => h.run wh pins s σ H Q I (i σ H Q hw)⟩
theorem _root_.L2.PA.imp {es : List Expr} {t t' : TA} (h : PA X es t) (i : ∀ σ H Q, t' σ H Q → t σ H Q) : PA X es t' := ⟨fun p pins s σ H Q I hw => h.run p pins s σ H Q I (i σ H Q hw)⟩

/-! ### names, constants -/
def eVar (i : Nat) : EE := fun S => match S[i]? with
  | some (.dat d) => some (d, S)
  | some (.own xs) => some (.list xs, S.set i (.dat (.list xs)))
  | _ => none
theorem dVar {K : PySem.W.Frag} {i : Nat} : ∀ σ H Q, tD K (eVar i) σ H Q → tVar i σ H Q := by
  rintro σ H Q ⟨C, Z, S, d, S', R, e, q⟩
  unfold eVar at e
  split at e
  · next d' h =>
    cases e
    obtain ⟨v, h1, h2⟩ := R.dat i _ h
    exact ⟨v, h1, q v H Z (Same.refl _) R h2⟩
  · next xs h =>
    cases e
    obtain ⟨p, ws, h1, h2, h3, h4⟩ := R.freeze h
    exact ⟨.ref p, h1, q _ H _ h2 h3 h4⟩
  · cases e
theorem d_var (i : Nat) {x : Str} {pos : Pos} (hN : X.N[i]? = some x := by rfl) (hv : Vis X.env.scope x := by first | exact Or.inl rfl | exact Or.inr (Or.inl rfl) | exact Or.inr (Or.inr rfl)) (hd : (x == ("__debug__" : Str)) = false := by decide)
    (hcd : (x == ("__classdict__" : Str)) = false := by decide) : PE X (.Name x pos) (tD X.K (eVar i)) := (pe_var hN hv hd hcd).imp dVar
def eC (d : PyData) : EE := fun S => some (d, S)
theorem dC {K : PySem.W.Frag} {v : V} {d : PyData} (h : ∀ Z, Dq K Z v d) : ∀ σ H Q, tD K (eC d) σ H Q → tC v σ H Q := by
  rintro σ H Q ⟨C, Z, S, d', S', R, e, q⟩
  cases e
  exact q v H Z (Same.refl _) R (h Z)
theorem d_int {i : Int} {j pos} : PE X (.Constant (.int i) j pos) (tD X.K (eC (.int i))) := pe_int.imp (dC fun _ => .int i)
theorem d_bl {b : Bool} {j pos} : PE X (.Constant (.bool b) j pos) (tD X.K (eC (.bool b))) := pe_bl.imp (dC fun _ => .bl b)
theorem d_non {j pos} : PE X (.Constant .none j pos) (tD X.K (eC .none)) := pe_non.imp (dC fun _ => .non)
theorem d_str {x : Str} {j pos} : PE X (.Constant (.str x) j pos) (tD X.K (eC (.str x))) := pe_str.imp (dC fun _ => .str x)
theorem d_glob {x : Str} {v : V} {u : Value} {d : PyData} {pos : Pos} (hg : Gl X x) (hm : X.mg x = some u) (r : RelV v u) (hd : ∀ Z, Dq X.K Z v d) (hdb : (x == ("__debug__" : Str)) = false := by decide) : PE X (.Name x pos) (tD X.K (eC d)) :=
  (pe_glob hg hm r hdb).imp (dC hd)
theorem d_globI {x : Str} {i : Int} {t : Tok} {pos : Pos} (hg : Gl X x) (hm : X.mg x = some (.int i t)) (hdb : (x == ("__debug__" : Str)) = false := by decide) : PE X (.Name x pos) (tD X.K (eC (.int i))) :=
  d_glob hg hm (v := .int i) ⟨t, rfl⟩ (fun _ => .int i) hdb
theorem d_globS {x y : Str} {t : Tok} {pos : Pos} (hg : Gl X x) (hm : X.mg x = some (.str y t)) (hdb : (x == ("__debug__" : Str)) = false := by decide) : PE X (.Name x pos) (tD X.K (eC (.str y))) :=
  d_glob hg hm (v := .str y) ⟨t, rfl⟩ (fun _ => .str y) hdb

/-! ### two values, one result -/
def eBin (g : PyData → PyData → Option PyData) (fa fb : EE) : EE := fun S => match fa S with
  | none => none
  | some (x, S1) => match fb S1 with
    | none => none
    | some (y, S2) => match g x y with
      | none => none
      | some z => some (z, S2)
theorem eBin_some {g : PyData → PyData → Option PyData} {fa fb : EE} {S S' : Sls} {z : PyData} (h : eBin g fa fb S = some (z, S')) : ∃ x S1 y, fa S = some (x, S1) ∧ fb S1 = some (y, S') ∧ g x y = some z := by
  unfold eBin at h
  split at h
  · cases h
  · next x S1 h1 =>
    split at h
    · cases h
    · next y S2 h2 =>
      split at h
      · cases h
      · next z' h3 =>
        cases h
        exact ⟨x, S1, y, h1, h2, h3⟩
/-- what an operation does with two values, by data -/
def BinD (K : PySem.W.Frag) (r : R2) (g : PyData → PyData → Option PyData) : Prop :=
  ∀ {C : Fc} {Z : Hp} {σ : L2.St} {H : Hp} {S : Sls} {x y : V} {d e z : PyData} {Q : VK}, Rel K C Z σ H S → Dq K Z x d → Dq K Z y e → g d e = some z → (∀ v H' Z', Same Z Z' → Rel K C Z' σ H' S → Dq K Z' v z → Q v H') → r x y H Q
theorem dOp {K : PySem.W.Frag} {r : R2} {g : PyData → PyData → Option PyData} {fa fb : EE} (hb : BinD K r g) : ∀ σ H Q, tD K (eBin g fa fb) σ H Q → tOp r (tD K fa) (tD K fb) σ H Q := by
  rintro σ H Q ⟨C, Z, S, z, S', R, e, q⟩
  obtain ⟨x, S1, y, h1, h2, h3⟩ := eBin_some e
  refine ⟨C, Z, S, x, S1, R, h1, fun v H1 Z1 sm R1 hv => ⟨C, Z1, S1, y, S', R1, h2, fun w H2 Z2 sm2 R2 hw => ?_⟩⟩
  exact hb R2 (dq_mono sm2 hv) hw h3 fun u H3 Z3 sm3 R3 hu => q u H3 Z3 (sm.trans (sm2.trans sm3)) R3 hu
theorem d_op {op : Operator} {r : R2} {g : PyData → PyData → Option PyData} {fa fb : EE} (ho : OpR X (binaryOp op) r) (hb : BinD X.K r g) (h1 : PE X a (tD X.K fa)) (h2 : PE X b (tD X.K fb)) : PE X (.BinOp a op b pos) (tD X.K (eBin g fa fb)) :=
  (pe_op ho h1 h2).imp (dOp hb)
theorem d_cmp {op : CmpOp} {r : R2} {g : PyData → PyData → Option PyData} {fa fb : EE} (ho : OpR X (compareOp op) r) (hb : BinD X.K r g) (h1 : PE X a (tD X.K fa)) (h2 : PE X b (tD X.K fb)) (hm : behindInMarks op b = false) : PE X (.Compare a [op] [b] pos) (tD X.K (eBin g fa fb)) :=
  (pe_cmpR ho h1 h2 hm).imp (dOp hb)
/-- a value that is a bool, as a test -/
def eTest (f : EE) : EB := fun S => match f S with
  | some (.bool k, S') => some (k, S')
  | _ => none
theorem dTest {K : PySem.W.Frag} {f : EE} : ∀ σ H Q, tDT K (eTest f) σ H Q → tTest (tD K f) σ H Q := by
  rintro σ H Q ⟨C, Z, S, k, S', R, e, q⟩
  unfold eTest at e
  split at e
  · next k' S1 h =>
    cases e
    refine ⟨C, Z, S, _, _, R, h, fun v H1 Z1 sm R1 hv => ?_⟩
    cases hv
    exact ⟨_, rfl, q H1 Z1 sm R1⟩
  · cases e
theorem dt_cmp {op : CmpOp} {r : R2} {g : PyData → PyData → Option PyData} {fa fb : EE} (ho : OpR X (compareOp op) r) (hb : BinD X.K r g) (h1 : PE X a (tD X.K fa)) (h2 : PE X b (tD X.K fb)) (hm : behindInMarks op b = false) : PT X (.Compare a [op] [b] pos) (tDT X.K (eTest (eBin g fa fb))) :=
  (pt_cmpR ho h1 h2 hm).imp fun σ H Q h => dTest σ H Q h |> fun z => by
    obtain ⟨C, Z, S, d, S', R, e, q⟩ := z
    exact dOp hb σ H _ ⟨C, Z, S, d, S', R, e, q⟩
/-- any expression that gives a bool, as a test -/
theorem dt_val {f : EE} (h : PE X e (tD X.K f)) (he : ∀ whole, isTrue e X.env whole = (do let v ← whole; standAt e.pos; holding [v] (truthy v)) := by intro _; rfl) : PT X e (tDT X.K (eTest f)) :=
  (pt_val h he).imp dTest
/-- the truth of a value: an int, a list, a tuple, None, a bool -/
def truD : PyData → Option Bool
  | .none => some false
  | .bool b => some b
  | .int i => some (i != 0)
  | .list xs => some (!xs.isEmpty)
  | .tuple xs => some (!xs.isEmpty)
  | _ => none
def eTru (f : EE) : EB := fun S => match f S with
  | some (d, S') => match truD d with
    | some k => some (k, S')
    | none => none
  | none => none
theorem Dq.flat_tru {K : PySem.W.Frag} {Z H : Hp} {v : V} {d : PyData} {k : Bool} (h : Dq K Z v d) (sm : Same Z H) (e : truD d = some k) (hs : ∀ x, d ≠ .str x) : TruV K v H k := by
  cases h with
  | non => cases e; rfl
  | bl b => cases e; rfl
  | int i => cases e; rfl
  | str x => exact absurd rfl (hs x)
  | lst h a =>
    cases e
    refine .inl ⟨_, .inl (rd_mono sm h), ?_⟩
    cases a <;> rfl
  | tup h a =>
    cases e
    refine .inr (.inl ⟨_, sqT_mono sm h, ?_⟩)
    cases a <;> rfl
theorem dt_tru {f : EE} (h : PE X e (tD X.K f)) (he : ∀ whole, isTrue e X.env whole = (do let v ← whole; standAt e.pos; holding [v] (truthy v)) := by intro _; rfl) : PT X e (tDT X.K (eTru f)) := by
  refine (pt_truth h he).imp fun σ H Q z => ?_
  obtain ⟨C, Z, S, k, S', R, e1, q⟩ := z
  unfold eTru at e1
  split at e1
  · next d S1 h1 =>
    split at e1
    · next k' h2 =>
      cases e1
      refine ⟨C, Z, S, d, S', R, h1, fun v H1 Z1 sm R1 hv => ?_⟩
      exact ⟨k, Dq.flat_tru hv R1.sub h2 (fun x ex => by rw [ex] at h2; cases h2), q H1 Z1 sm R1⟩
    · cases e1
  · cases e1

/-! ### not, and, or, if -/
def bNot (f : EB) : EB := fun S => match f S with
  | some (k, S') => some (!k, S')
  | none => none
theorem dt_not {f : EB} (h : PT X a (tDT X.K f)) : PT X (.UnaryOp .Not a pos) (tDT X.K (bNot f)) := by
  refine (pt_not h).imp fun σ H Q z => ?_
  obtain ⟨C, Z, S, k, S', R, e1, q⟩ := z
  unfold bNot at e1
  split at e1
  · next k' S1 h1 =>
    cases e1
    exact ⟨C, Z, S, k', S', R, h1, fun H1 Z1 sm R1 => q H1 Z1 sm R1⟩
  · cases e1
/-- a test as a value -/
def eOfB (f : EB) : EE := fun S => match f S with
  | some (k, S') => some (.bool k, S')
  | none => none
def eNot (f : EE) : EE := fun S => match f S with
  | some (.bool k, S') => some (.bool (!k), S')
  | _ => none
theorem d_not {f : EE} (h : PE X a (tD X.K f)) : PE X (.UnaryOp .Not a pos) (tD X.K (eNot f)) := by
  refine (pe_not h).imp fun σ H Q z => ?_
  obtain ⟨C, Z, S, k, S', R, e1, q⟩ := z
  unfold eNot at e1
  split at e1
  · next k' S1 h1 =>
    cases e1
    refine ⟨C, Z, S, _, S', R, h1, fun v H1 Z1 sm R1 hv => ?_⟩
    cases hv
    exact ⟨k', rfl, q _ H1 Z1 sm R1 (.bl _)⟩
  · cases e1
def bAnd (f g : EB) : EB := fun S => match f S with
  | some (true, S') => g S'
  | some (false, S') => some (false, S')
  | none => none
def bOr (f g : EB) : EB := fun S => match f S with
  | some (true, S') => some (true, S')
  | some (false, S') => g S'
  | none => none
theorem dw_and1 {f : EB} (h : PT X a (tDT X.K f)) : PW X (.BoolOp .And [a] pos) (tDT X.K f) := pw_and1 h
theorem dw_or1 {f : EB} (h : PT X a (tDT X.K f)) : PW X (.BoolOp .Or [a] pos) (tDT X.K f) := pw_or1 h
theorem dw_and {rest : List Expr} {f g : EB} (h : PT X a (tDT X.K f)) (h2 : PW X (.BoolOp .And (b :: rest) pos) (tDT X.K g)) : PW X (.BoolOp .And (a :: b :: rest) pos) (tDT X.K (bAnd f g)) := by
  refine (pw_and h h2).imp fun σ H Q z => ?_
  obtain ⟨C, Z, S, k, S', R, e1, q⟩ := z
  unfold bAnd at e1
  split at e1
  · next S1 h1 =>
    refine ⟨C, Z, S, true, S1, R, h1, fun H1 Z1 sm R1 => iteT ⟨C, Z1, S1, k, S', R1, e1, fun H2 Z2 sm2 R2 => q H2 Z2 (sm.trans sm2) R2⟩⟩
  · next S1 h1 =>
    cases e1
    exact ⟨C, Z, S, false, S', R, h1, fun H1 Z1 sm R1 => iteF (q H1 Z1 sm R1)⟩
  · cases e1
theorem dw_or {rest : List Expr} {f g : EB} (h : PT X a (tDT X.K f)) (h2 : PW X (.BoolOp .Or (b :: rest) pos) (tDT X.K g)) : PW X (.BoolOp .Or (a :: b :: rest) pos) (tDT X.K (bOr f g)) := by
  refine (pw_or h h2).imp fun σ H Q z => ?_
  obtain ⟨C, Z, S, k, S', R, e1, q⟩ := z
  unfold bOr at e1
  split at e1
  · next S1 h1 =>
    cases e1
    exact ⟨C, Z, S, true, S', R, h1, fun H1 Z1 sm R1 => iteT (q H1 Z1 sm R1)⟩
  · next S1 h1 =>
    exact ⟨C, Z, S, false, S1, R, h1, fun H1 Z1 sm R1 => iteF ⟨C, Z1, S1, k, S', R1, e1, fun H2 Z2 sm2 R2 => q H2 Z2 (sm.trans sm2) R2⟩⟩
  · cases e1
/-- and, or as values: all but the last bools -/
def eAnd (f g : EE) : EE := fun S => match f S with
  | some (.bool true, S') => g S'
  | some (.bool false, S') => some (.bool false, S')
  | _ => none
def eOr (f g : EE) : EE := fun S => match f S with
  | some (.bool true, S') => some (.bool true, S')
  | some (.bool false, S') => g S'
  | _ => none
theorem d_one {op} {f : EE} (h : PE X a (tD X.K f)) : PE X (.BoolOp op [a] pos) (tD X.K f) := pe_one h
theorem d_and {rest : List Expr} {f g : EE} (h : PE X a (tD X.K f)) (h2 : PE X (.BoolOp .And (b :: rest) pos) (tD X.K g)) : PE X (.BoolOp .And (a :: b :: rest) pos) (tD X.K (eAnd f g)) := by
  refine (pe_and h h2).imp fun σ H Q z => ?_
  obtain ⟨C, Z, S, k, S', R, e1, q⟩ := z
  unfold eAnd at e1
  split at e1
  · next S1 h1 =>
    refine ⟨C, Z, S, _, S1, R, h1, fun v H1 Z1 sm R1 hv => ?_⟩
    cases hv
    exact ⟨true, rfl, iteT ⟨C, Z1, S1, k, S', R1, e1, fun v H2 Z2 sm2 R2 => q v H2 Z2 (sm.trans sm2) R2⟩⟩
  · next S1 h1 =>
    cases e1
    refine ⟨C, Z, S, _, S', R, h1, fun v H1 Z1 sm R1 hv => ?_⟩
    cases hv
    exact ⟨false, rfl, iteF (q _ H1 Z1 sm R1 (.bl _))⟩
  · cases e1
theorem d_or {rest : List Expr} {f g : EE} (h : PE X a (tD X.K f)) (h2 : PE X (.BoolOp .Or (b :: rest) pos) (tD X.K g)) : PE X (.BoolOp .Or (a :: b :: rest) pos) (tD X.K (eOr f g)) := by
  refine (pe_or h h2).imp fun σ H Q z => ?_
  obtain ⟨C, Z, S, k, S', R, e1, q⟩ := z
  unfold eOr at e1
  split at e1
  · next S1 h1 =>
    cases e1
    refine ⟨C, Z, S, _, S', R, h1, fun v H1 Z1 sm R1 hv => ?_⟩
    cases hv
    exact ⟨true, rfl, iteT (q _ H1 Z1 sm R1 (.bl _))⟩
  · next S1 h1 =>
    refine ⟨C, Z, S, _, S1, R, h1, fun v H1 Z1 sm R1 hv => ?_⟩
    cases hv
    exact ⟨false, rfl, iteF ⟨C, Z1, S1, k, S', R1, e1, fun v H2 Z2 sm2 R2 => q v H2 Z2 (sm.trans sm2) R2⟩⟩
  · cases e1
def eIf (t : EB) (f g : EE) : EE := fun S => match t S with
  | some (true, S') => f S'
  | some (false, S') => g S'
  | none => none
theorem d_if {t : EB} {f g : EE} (ht : PT X c (tDT X.K t)) (h : PE X a (tD X.K f)) (h2 : PE X b (tD X.K g)) : PE X (.IfExp c a b pos) (tD X.K (eIf t f g)) := by
  refine (pe_ifExp ht h h2).imp fun σ H Q z => ?_
  obtain ⟨C, Z, S, k, S', R, e1, q⟩ := z
  unfold eIf at e1
  split at e1
  · next S1 h1 =>
    exact ⟨C, Z, S, true, S1, R, h1, fun H1 Z1 sm R1 => iteT ⟨C, Z1, S1, k, S', R1, e1, fun v H2 Z2 sm2 R2 => q v H2 Z2 (sm.trans sm2) R2⟩⟩
  · next S1 h1 =>
    exact ⟨C, Z, S, false, S1, R, h1, fun H1 Z1 sm R1 => iteF ⟨C, Z1, S1, k, S', R1, e1, fun v H2 Z2 sm2 R2 => q v H2 Z2 (sm.trans sm2) R2⟩⟩
  · cases e1

/-! ### one value -/
def eUn (g : PyData → Option PyData) (f : EE) : EE := fun S => match f S with
  | some (d, S') => match g d with
    | some z => some (z, S')
    | none => none
  | none => none
theorem eUn_some {g : PyData → Option PyData} {f : EE} {S S' : Sls} {z : PyData} (h : eUn g f S = some (z, S')) : ∃ d, f S = some (d, S') ∧ g d = some z := by
  unfold eUn at h
  split at h
  · next d S1 h1 =>
    split at h
    · next z' h2 => cases h; exact ⟨d, h1, h2⟩
    · cases h
  · cases h
def gNeg : PyData → Option PyData
  | .int i => some (.int (-i))
  | _ => none
theorem d_neg {f : EE} (h : PE X a (tD X.K f)) : PE X (.UnaryOp .USub a pos) (tD X.K (eUn gNeg f)) := by
  refine (pe_un un_neg h).imp fun σ H Q z => ?_
  obtain ⟨C, Z, S, k, S', R, e1, q⟩ := z
  obtain ⟨d, h1, h2⟩ := eUn_some e1
  refine ⟨C, Z, S, d, S', R, h1, fun v H1 Z1 sm R1 hv => ?_⟩
  unfold gNeg at h2
  split at h2
  · cases h2; cases hv
    exact ⟨_, rfl, q _ H1 Z1 sm R1 (.int _)⟩
  · cases h2

/-! ### arguments, displays -/
def lNil : EL := fun S => some ([], S)
def lCons (f : EE) (g : EL) : EL := fun S => match f S with
  | none => none
  | some (d, S1) => match g S1 with
    | none => none
    | some (ds, S2) => some (d :: ds, S2)
theorem da_nil : PA X [] (tDA X.K lNil) := pa_nil.imp fun σ H Q z => by
  obtain ⟨C, Z, S, ds, S', R, e1, q⟩ := z
  cases e1
  exact q [] H Z (Same.refl _) R .nil
theorem da_cons {es : List Expr} {f : EE} {g : EL} (h : PE X e (tD X.K f)) (hr : PA X es (tDA X.K g)) (hs : starEach (e :: es) X.env = (false, eval e X.env) :: starEach es X.env := by rfl) : PA X (e :: es) (tDA X.K (lCons f g)) := by
  refine (pa_cons h hr hs).imp fun σ H Q z => ?_
  obtain ⟨C, Z, S, ds, S', R, e1, q⟩ := z
  unfold lCons at e1
  split at e1
  · cases e1
  · next d S1 h1 =>
    split at e1
    · cases e1
    · next ds' S2 h2 =>
      cases e1
      exact ⟨C, Z, S, d, S1, R, h1, fun v H1 Z1 sm R1 hv => ⟨C, Z1, S1, ds', S', R1, h2, fun vs H2 Z2 sm2 R2 hvs => q (v :: vs) H2 Z2 (sm.trans sm2) R2 (.cons (dq_mono sm2 hv) hvs)⟩⟩
theorem million : (1000000 : Nat) ≤ sizeLine := by rw [sizeLine_eq]; omega
def eTup (g : EL) : EE := fun S => match g S with
  | none => none
  | some (ds, S') => if ds.length ≤ 1000000 then some (.tuple ds, S') else none
theorem d_tup {es : List Expr} {x1} {g : EL} (h : PA X es (tDA X.K g)) : PE X (.Tuple es x1 pos) (tD X.K (eTup g)) := by
  refine (pe_tup h).imp fun σ H Q z => ?_
  obtain ⟨C, Z, S, d, S', R, e1, q⟩ := z
  unfold eTup at e1
  split at e1
  · cases e1
  · next ds S1 h1 =>
    split at e1
    · next hl =>
      cases e1
      refine ⟨C, Z, S, ds, S', R, h1, fun vs H1 Z1 sm R1 hv => ⟨?_, fun p hp => ?_⟩⟩
      · rw [DqAll.length hv]; exact Nat.le_trans hl million
      · exact q _ _ _ (sm.trans (R1.newZ hp)) (R1.new hp) (.tup (.inl (.inl upd_same)) (dqAll_mono (R1.newZ hp) hv))
    · cases e1
/-- a new list, then still -/
def eL (g : EL) : EE := fun S => match g S with
  | none => none
  | some (ds, S') => some (.list ds, S')
theorem tF_D {K : PySem.W.Frag} {g : EL} : ∀ σ H Q, tD K (eL g) σ H Q → tF K g σ H Q := by
  rintro σ H Q ⟨C, Z, S, d, S', R, e1, q⟩
  unfold eL at e1
  split at e1
  · cases e1
  · next ds S1 h1 =>
    cases e1
    refine ⟨C, Z, S, ds, S', R, h1, fun p ws H1 Z1 sm R1 hp hz h0 ha hd => ?_⟩
    exact q _ H1 _ (sm.trans (Same.updNew hz)) (R1.still hp hz h0 ha) (.lst (.inl upd_same) (dqAll_mono (Same.updNew hz) hd))
theorem d_ofF {g : EL} (h : PE X e (tF X.K g)) : PE X e (tD X.K (eL g)) := h.imp tF_D
def lLst (g : EL) : EL := fun S => match g S with
  | none => none
  | some (ds, S') => if ds.length ≤ 1000000 then some (ds, S') else none
theorem df_new {K : PySem.W.Frag} {C : Fc} {Z : Hp} {σ : L2.St} {H : Hp} {S : Sls} (R : Rel K C Z σ H S) {p : Addr} {ws : List V} (hp : H p = none) : Rel K C Z σ (upd H p (.lst ws)) S ∧ upd H p (.lst ws) p = some (.lst ws) ∧ Z p = none ∧ C.H0 p = none ∧ Apart σ S p :=
  ⟨R.newU hp, upd_same, Same.none R.sub hp, R.h0 hp, R.apart hp⟩
theorem df_lst {es : List Expr} {g : EL} (h : PA X es (tDA X.K g)) : PE X (.List es pos) (tF X.K (lLst g)) := by
  refine (pe_lst h).imp fun σ H Q z => ?_
  obtain ⟨C, Z, S, d, S', R, e1, q⟩ := z
  unfold lLst at e1
  split at e1
  · cases e1
  · next ds S1 h1 =>
    split at e1
    · next hl =>
      cases e1
      refine ⟨C, Z, S, d, S', R, h1, fun vs H1 Z1 sm R1 hv => ⟨?_, fun p hp => ?_⟩⟩
      · rw [DqAll.length hv]; exact Nat.le_trans hl million
      · obtain ⟨a1, a2, a3, a4, a5⟩ := df_new R1 (ws := vs) hp
        exact q p vs _ Z1 sm a1 a2 a3 a4 a5 hv
    · cases e1
end
end DL

/-! DLT: tuple * 1, tuple * 0. -/
namespace L2
open PySem PySem.Spec PyProof.Rows
theorem tuple_mul1 (l : Addr) (items : Array Value) (n : Nat) (dd : Option Addr) (sl : Array (Option Value)) (u : Tok) :
    Meets (Builtin.«tuple.__mul__» ⟨[.ref l, .int 1 u], []⟩) (fun _ R s => s.heap.get? l = some { cls := .type "tuple", dict := dd, data := .seq items n, slots := sl } ∧ R (.ok (.ret (Value.ref l))) s) :=
  .of_wp fun prog w A R s h => by
    obtain ⟨hp, g, d, tk, os⟩ := s
    obtain ⟨hl, h⟩ := h
    have f1 := AutoSeq1.idx_int
    have c1 : (items.isEmpty || (1 : Int) == 1) = true := by simp
    wp_walk using wpAny_loadPart' hl
    repeat (first
      | (refine wpAny_ite_true (decide_eq_true (by rw [c1])) ?_; wp_walk using wpAny_loadPart' hl))
    exact ⟨_, rfl, h⟩
def rRepT1 (K : PySem.W.Frag) : R2 := fun x y H Q => ∃ l xs, x = .ref l ∧ y = .int 1 ∧ SqT K H l xs ∧ Q (.ref l) H
section
variable {X : Cx}
theorem op_repT1 : OpR X (binaryOp .Mult) (rRepT1 X.K) := by
  intro pins s σ H x y v u Q I rx ry h
  obtain ⟨l, xs, rfl, rfl, hT, q⟩ := h
  cases rx
  obtain ⟨t, rfl⟩ := ry
  obtain ⟨its, r, ⟨⟨cls, dd, data, sl⟩, ho, hc, n, hd⟩, hs⟩ := I.tuple hT
  simp only at hc hd
  subst hc hd
  exact wpAny_binaryOp_repeat_ref (T := "tuple") (U := "int") (by decide) ⟨_, ho, rfl⟩ (fun s' => typeIs_int s' 1 t) noFill_tuple_mul F.fills_int_mul F.slot_int_rmul repeat_tuple F.slot_int_index.lookup
    (call_meets F.slot_int_rmul (typeIs_int s 1 t) F.entry_int_rmul (F.args_int_rmul_2 _ _) (int_rmul_tuple 1 t l its.toArray n dd sl)
      ⟨ho, rfl, ⟨_, ho, rfl⟩, call_meets F.slot_tuple_mul ⟨_, ho, rfl⟩ F.entry_tuple_mul (F.args_tuple_mul_2 _ _) (tuple_mul1 l its.toArray n dd sl t) ⟨ho, .ref l, H, I, rfl, q⟩⟩)
end
end L2

/-! DL2: operators, comparisons, subscripts, slices, by data. -/
namespace DL
open PySem PySem.Spec PyProof.Rows L2

section
variable {K : PySem.W.Frag} {X : Cx}
/-! ### operators on ints -/
def gSub : PyData → PyData → Option PyData
  | .int i, .int j => some (.int (i - j))
  | _, _ => none
theorem b_sub : BinD K (rI0 fun i j => .int (i - j)) gSub := by
  intro C Z σ H S x y d e z Q R hx hy g q
  unfold gSub at g
  split at g
  · cases g; cases hx; cases hy
    exact ⟨_, _, rfl, rfl, q _ H Z (Same.refl _) R (.int _)⟩
  · cases g
def mulOk (i j : Int) : Bool := decide (i.natAbs < 2 ^ 64) || decide (j.natAbs < 2 ^ 64) || decide (i.natAbs.log2 + j.natAbs.log2 < 1000000)
def divOk (j : Int) : Bool := decide (0 < j) && decide (j.natAbs.log2 < 9000)
def divNg (j : Int) : Bool := decide (j < 0) && decide (j.natAbs.log2 < 9000)
def gFdiv : PyData → PyData → Option PyData
  | .int i, .int j => if divOk j = true then some (.int (i / j)) else if divNg j = true then some (.int (i.fdiv j)) else none
  | _, _ => none
theorem op_fdivG {X : Cx} : OpR X (binaryOp .FloorDiv) (rI (fun _ j => j ≠ 0 ∧ j.natAbs.log2 < 9000) fun i j => .int (i.fdiv j)) := opI fun _ _ _ _ _ _ _ hc q => floordiv_int hc.1 q (.inl (PyProof.noPylong_of_log2 hc.2))
theorem b_fdiv : BinD K (rI (fun _ j => j ≠ 0 ∧ j.natAbs.log2 < 9000) fun i j => .int (i.fdiv j)) gFdiv := by
  intro C Z σ H S x y d e z Q R hx hy g q
  unfold gFdiv at g
  split at g
  · split at g
    · next hd =>
      cases g; cases hx; cases hy
      unfold divOk at hd
      rw [Bool.and_eq_true, decide_eq_true_eq, decide_eq_true_eq] at hd
      refine ⟨_, _, rfl, rfl, ⟨by omega, hd.2⟩, ?_⟩
      have q' := q (.int _) H Z (Same.refl _) R (.int _)
      rw [← Int.fdiv_eq_ediv_of_nonneg _ (show 0 ≤ _ by omega)] at q'
      exact q'
    · split at g
      · next hd =>
        cases g; cases hx; cases hy
        unfold divNg at hd
        rw [Bool.and_eq_true, decide_eq_true_eq, decide_eq_true_eq] at hd
        exact ⟨_, _, rfl, rfl, ⟨by omega, hd.2⟩, q _ H Z (Same.refl _) R (.int _)⟩
      · cases g
  · cases g
def gMod : PyData → PyData → Option PyData
  | .int i, .int j => if 0 < j then some (.int (i % j)) else none
  | _, _ => none
theorem b_mod : BinD K (rI (fun _ j => 0 < j) fun i j => .int (i % j)) gMod := by
  intro C Z σ H S x y d e z Q R hx hy g q
  unfold gMod at g
  split at g
  · split at g
    · next hd =>
      cases g; cases hx; cases hy
      exact ⟨_, _, rfl, rfl, hd, q _ H Z (Same.refl _) R (.int _)⟩
    · cases g
  · cases g
def gPow : PyData → PyData → Option PyData
  | .int i, .int j => if 0 ≤ j ∧ j ≤ 1000000 ∧ i.natAbs < 2 ^ 64 then some (.int (i ^ j.toNat)) else none
  | _, _ => none
theorem b_pow : BinD K (rI CPow fun i j => .int (i ^ j.toNat)) gPow := by
  intro C Z σ H S x y d e z Q R hx hy g q
  unfold gPow at g
  split at g
  · split at g
    · next hd =>
      cases g; cases hx; cases hy
      exact ⟨_, _, rfl, rfl, hd, q _ H Z (Same.refl _) R (.int _)⟩
    · cases g
  · cases g
/-! ### + of ints, tuples, lists, texts -/
/-- list + list, the lists tracked or known -/
def rCatR (K : PySem.W.Frag) : R2 := fun x y H Q => ∃ l b xs zs, x = .ref l ∧ y = .ref b ∧ Rd H l (.lst xs) ∧ Rd H b (.lst zs) ∧ xs.length + zs.length ≤ sizeLine ∧ ∀ p, H p = none → Q (.ref p) (upd H p (.lst (xs ++ zs)))
theorem op_catR : OpR X (binaryOp .Add) (rCatR X.K) := by
  intro pins s σ H x y v u Q I rx ry h
  obtain ⟨l, b, xs, zs, rfl, rfl, hH, hB, hz, q⟩ := h
  cases rx
  cases ry
  obtain ⟨z1, i1, n1, r1, e1⟩ := hH.ok I.hok
  obtain ⟨z2, i2, n2, r2, e2⟩ := hB.ok I.hok
  have l1 := r1.length
  have l2 := r2.length
  refine PySem.P.add_list e1 e2 ?_ (by rw [List.size_toArray, List.size_toArray, ← l1, ← l2]; exact hz)
  rw [show i1.toArray ++ i2.toArray = (i1 ++ i2).toArray by simp]
  exact ⟨.ref _, _, I.lnew (t' := s.toks) (r1.append r2) (by rw [List.length_append]; exact hz), rfl, q _ I.fresh⟩
def gAdd : PyData → PyData → Option PyData
  | .int i, .int j => some (.int (i + j))
  | .tuple xs, .tuple ys => if xs.length + ys.length ≤ 1000000 then some (.tuple (xs ++ ys)) else none
  | .list xs, .list ys => if xs.length + ys.length ≤ 1000000 then some (.list (xs ++ ys)) else none
  | .str x, .str y => if x.length + y.length ≤ 1000000 then some (.str (x ++ y)) else none
  | _, _ => none
theorem dq_tup {C : Fc} {Z : Hp} {σ : L2.St} {H : Hp} {S : Sls} {p : Addr} {vs : List V} {ds : List PyData} (R : Rel K C Z σ H S) (hp : H p = none) (hv : DqAll K Z vs ds) : Dq K (upd Z p (.tup vs)) (.ref p) (.tuple ds) :=
  .tup (.inl (.inl upd_same)) (dqAll_mono (R.newZ hp) hv)
theorem dq_lst {C : Fc} {Z : Hp} {σ : L2.St} {H : Hp} {S : Sls} {p : Addr} {vs : List V} {ds : List PyData} (R : Rel K C Z σ H S) (hp : H p = none) (hv : DqAll K Z vs ds) : Dq K (upd Z p (.lst vs)) (.ref p) (.list ds) :=
  .lst (.inl upd_same) (dqAll_mono (R.newZ hp) hv)
theorem DqAll.nil_iff {Z : Hp} {vs : List V} {ds : List PyData} (h : DqAll K Z vs ds) : vs = [] ↔ ds = [] := by
  cases h <;> simp
def rAddG (K : PySem.W.Frag) : R2 := fun x y H Q => rI0 (fun i j => .int (i + j)) x y H Q ∨ rCatA K x y H Q ∨ rCatR K x y H Q ∨ (∃ i j, x = .str i ∧ y = .str j ∧ i.length + j.length ≤ sizeLine ∧ Q (.str (i ++ j)) H)
theorem op_addG : OpR X (binaryOp .Add) (rAddG X.K) := OpR.or op_add (OpR.or op_catA (OpR.or op_catR op_add_str))
theorem b_add : BinD K (rAddG K) gAdd := by
  intro C Z σ H S x y d e z Q R hx hy g q
  unfold gAdd at g
  split at g
  · cases g; cases hx; cases hy
    exact .inl ⟨_, _, rfl, rfl, q _ H Z (Same.refl _) R (.int _)⟩
  · split at g
    · next hl =>
      cases g
      cases hx with
      | tup h1 a1 =>
        cases hy with
        | tup h2 a2 =>
          refine .inr (.inl ?_)
          have ln : ∀ {a b : List V} {c d : List PyData}, DqAll K Z a c → DqAll K Z b d → c.length + d.length ≤ 1000000 → a.length + b.length ≤ sizeLine := fun p q h => by
            rw [DqAll.length p, DqAll.length q]; exact Nat.le_trans h million
          refine ⟨_, _, _, _, rfl, rfl, sqT_mono R.sub h1, sqT_mono R.sub h2, ln a1 a2 hl, ?_⟩
          exact ⟨fun e => by subst e; cases a1; exact q _ H Z (Same.refl _) R (.tup h2 a2), fun _ e => by subst e; cases a2; rw [List.append_nil] at q; exact q _ H Z (Same.refl _) R (.tup h1 a1), fun _ _ p hp => q _ _ _ (R.newZ hp) (R.new hp) (dq_tup R hp (DqAll.append a1 a2))⟩
    · cases g
  · split at g
    · next hl =>
      cases g
      cases hx with
      | lst h1 a1 =>
        cases hy with
        | lst h2 a2 =>
          refine .inr (.inr (.inl ⟨_, _, _, _, rfl, rfl, rd_mono R.sub h1, rd_mono R.sub h2, ?_, fun p hp => q _ _ _ (R.newZ hp) (R.new hp) (dq_lst R hp (DqAll.append a1 a2))⟩))
          rw [DqAll.length a1, DqAll.length a2]
          exact Nat.le_trans hl million
    · cases g
  · split at g
    · next hl =>
      cases g; cases hx; cases hy
      exact .inr (.inr (.inr ⟨_, _, rfl, rfl, Nat.le_trans hl million, q _ H Z (Same.refl _) R (.str _)⟩))
    · cases g
  · cases g

/-! ### * -/
def rRepR (K : PySem.W.Frag) : R2 := fun x y H Q => ∃ l k xs, x = .ref l ∧ y = .int k ∧ Rd H l (.lst xs) ∧ -(2 ^ 63) ≤ k ∧ k < 2 ^ 63 ∧ xs.length * k.toNat ≤ sizeLine ∧
  ∀ p, H p = none → Q (.ref p) (upd H p (.lst (List.replicate k.toNat xs).flatten))
theorem op_repR : OpR X (binaryOp .Mult) (rRepR X.K) := by
  intro pins s σ H x y v u Q I rx ry h
  obtain ⟨l, k, xs, rfl, rfl, hH, h1, h2, hz, q⟩ := h
  cases rx
  obtain ⟨t, rfl⟩ := ry
  obtain ⟨z1, its, n, r, e⟩ := hH.ok I.hok
  have ln := r.length
  have hlen : its.toArray.size * k.toNat ≤ sizeLine := by rw [List.size_toArray, ← ln]; exact hz
  have big : (sizeLine : Nat) ≤ (2 ^ 63 - 1) / 8 := by decide
  have hlong : ¬ Builtin.List.listTooLong (its.toArray.size * k.toNat) = true := by rw [notLongL hlen]; exact Bool.false_ne_true
  have hfit : ¬ (!Builtin.List.listFitsIndex k) = true := by rw [fitsIndex_both h1 h2]; exact Bool.false_ne_true
  have fold : ∀ m : Nat, List.foldl (fun x1 x2 => x1 ++ x2) #[] (List.replicate m its.toArray) = (List.replicate m its).flatten.toArray := fun m => (foldl_rep its m []).trans (by rw [List.nil_append])
  have hnew : List.foldl (fun x1 x2 => x1 ++ x2) #[] (List.replicate (if its.toArray.isEmpty = true then 0 else k.toNat) its.toArray) = (List.replicate k.toNat its).flatten.toArray := by
    rw [fold]
    cases its with
    | nil => simp
    | cons a b => rw [if_neg (by simp)]
  refine wpAny_binaryOp_repeat_ref (T := "list") (U := "int") (by decide) ⟨_, e, rfl⟩ (fun s' => typeIs_int s' k t) noFill_list_mul F.fills_int_mul F.slot_int_rmul repeat_list F.slot_int_index.lookup ?_
  refine call_meets F.slot_int_rmul (typeIs_int s k t) F.entry_int_rmul (F.args_int_rmul_2 _ _) (int___rmul___int_list k t l its.toArray n) ⟨e, rfl, ⟨_, e, rfl⟩, ?_⟩
  refine call_meets F.slot_list_mul ⟨_, e, rfl⟩ F.entry_list_mul (F.args_list_mul_2 _ _) (AutoListH.list___mul___list_int_3 l its.toArray n k t hfit (by omega) hlong) ⟨e, ?_⟩
  rw [hnew]
  exact ⟨.ref _, _, I.lnew (t' := s.toks) (r.rep k.toNat) (by rw [PyProof.Rows.lm_len_rep_flat, Nat.mul_comm]; exact hz), rfl, q _ I.fresh⟩
def CMulG (i j : Int) : Prop := mulOk i j = true
theorem CMulG.cases {i j : Int} (h : CMulG i j) : CMul i j ∨ CMulW i j := by
  unfold CMulG mulOk at h
  simp only [Bool.or_eq_true, decide_eq_true_eq] at h
  unfold CMul CMulW
  rcases h with (h | h) | h
  · exact .inl (.inl (by omega))
  · exact .inl (.inr (by omega))
  · exact .inr h
def gMul : PyData → PyData → Option PyData
  | .int i, .int j => if mulOk i j = true then some (.int (i * j)) else none
  | .list xs, .int k => if k ≤ 1000 ∧ xs.length ≤ 1000 ∧ -1000 ≤ k then some (.list (List.replicate k.toNat xs).flatten) else none
  | .tuple xs, .int k => if k = 1 then some (.tuple xs) else if 2 ≤ k ∧ k ≤ 1000 ∧ xs.length ≤ 1000 ∧ xs ≠ [] then some (.tuple (List.replicate k.toNat xs).flatten) else none
  | _, _ => none
instance {xs : List PyData} : Decidable (xs ≠ []) := match xs with
  | [] => isFalse (fun h => h rfl)
  | _ :: _ => isTrue (fun h => nomatch h)
def rMulG (K : PySem.W.Frag) : R2 := fun x y H Q => rI CMul (fun i j => .int (i * j)) x y H Q ∨ rI CMulW (fun i j => .int (i * j)) x y H Q ∨ rRepR K x y H Q ∨ rRepT K x y H Q ∨ rRepT1 K x y H Q
theorem op_mulG : OpR X (binaryOp .Mult) (rMulG X.K) := OpR.or op_mul (OpR.or op_mulW (OpR.or op_repR (OpR.or op_repT op_repT1)))
theorem b_mul : BinD K (rMulG K) gMul := by
  intro C Z σ H S x y d e z Q R hx hy g q
  unfold gMul at g
  split at g
  · split at g
    · next hd =>
      cases g; cases hx; cases hy
      rcases CMulG.cases hd with h | h
      · exact .inl ⟨_, _, rfl, rfl, h, q _ H Z (Same.refl _) R (.int _)⟩
      · exact .inr (.inl ⟨_, _, rfl, rfl, h, q _ H Z (Same.refl _) R (.int _)⟩)
    · cases g
  · split at g
    · next hd =>
      cases g
      cases hx with
      | lst h1 a1 =>
        cases hy
        refine .inr (.inr (.inl ⟨_, _, _, rfl, rfl, rd_mono R.sub h1, by omega, by omega, ?_, fun p hp => q _ _ _ (R.newZ hp) (R.new hp) (dq_lst R hp (DqAll.rep a1 _))⟩))
        rw [DqAll.length a1]
        exact Nat.le_trans (Nat.mul_le_mul hd.2.1 (show _ ≤ 1000 by omega)) million
    · cases g
  · split at g
    · next hk =>
      cases g
      cases hx with
      | tup h1 a1 =>
        cases hy
        subst hk
        exact .inr (.inr (.inr (.inr ⟨_, _, rfl, rfl, sqT_mono R.sub h1, q _ H Z (Same.refl _) R (.tup h1 a1)⟩)))
    · split at g
      · next hd =>
        cases g
        cases hx with
        | tup h1 a1 =>
          cases hy
          refine .inr (.inr (.inr (.inl ⟨_, _, _, rfl, rfl, sqT_mono R.sub h1, fun e => hd.2.2.2 ((DqAll.nil_iff a1).mp e), hd.1, hd.2.1, by rw [DqAll.length a1]; exact hd.2.2.1, fun p hp => q _ _ _ (R.newZ hp) (R.new hp) (dq_tup R hp (DqAll.rep a1 _))⟩)))
      · cases g
  · cases g

/-! ### comparisons -/
def gEq (d e : PyData) : Option PyData := if SeqAt.shaped d = true ∧ SeqAt.shaped e = true then some (.bool (PyData.eqv d e)) else none
def gNe (d e : PyData) : Option PyData := if SeqAt.shaped d = true ∧ SeqAt.shaped e = true then some (.bool (!PyData.eqv d e)) else none
theorem b_eq : BinD K (rEqD K) gEq := by
  intro C Z σ H S x y d e z Q R hx hy g q
  unfold gEq at g
  split at g
  · next hd =>
    cases g
    exact ⟨d, e, (dq_mono R.sub hx).dp, (dq_mono R.sub hy).dp, hd.1, hd.2, q _ H Z (Same.refl _) R (.bl _)⟩
  · cases g
theorem b_ne : BinD K (rNeD K) gNe := by
  intro C Z σ H S x y d e z Q R hx hy g q
  unfold gNe at g
  split at g
  · next hd =>
    cases g
    exact ⟨d, e, (dq_mono R.sub hx).dp, (dq_mono R.sub hy).dp, hd.1, hd.2, q _ H Z (Same.refl _) R (.bl _)⟩
  · cases g
def gCmp (f : Int → Int → Bool) : PyData → PyData → Option PyData
  | .int i, .int j => some (.bool (f i j))
  | _, _ => none
theorem b_cmp {f : Int → Int → Bool} : BinD K (rI0 fun i j => .bl (f i j)) (gCmp f) := by
  intro C Z σ H S x y d e z Q R hx hy g q
  unfold gCmp at g
  split at g
  · cases g; cases hx; cases hy
    exact ⟨_, _, rfl, rfl, q _ H Z (Same.refl _) R (.bl _)⟩
  · cases g
abbrev gLt := gCmp fun i j => decide (i < j)
abbrev gLe := gCmp fun i j => decide (i ≤ j)
abbrev gGt := gCmp fun i j => decide (j < i)
abbrev gGe := gCmp fun i j => decide (j ≤ i)
/-- is None, is not None -/
def isNone : PyData → Bool
  | .none => true
  | _ => false
def gIsN (d e : PyData) : Option PyData := match e with
  | .none => some (.bool (isNone d))
  | _ => none
def gNotN (d e : PyData) : Option PyData := match e with
  | .none => some (.bool (!isNone d))
  | _ => none
theorem dq_none {Z : Hp} {x : V} {d : PyData} (h : Dq K Z x d) : decide (x = .non) = isNone d := by
  cases h <;> rfl
theorem b_isN : BinD K (fun x y H Q => y = .non ∧ Q (.bl (decide (x = .non))) H) gIsN := by
  intro C Z σ H S x y d e z Q R hx hy g q
  unfold gIsN at g
  split at g
  · cases g; cases hy
    exact ⟨rfl, q _ H Z (Same.refl _) R (by rw [dq_none hx]; exact .bl _)⟩
  · cases g
theorem b_notN : BinD K (fun x y H Q => y = .non ∧ Q (.bl (!decide (x = .non))) H) gNotN := by
  intro C Z σ H S x y d e z Q R hx hy g q
  unfold gNotN at g
  split at g
  · cases g; cases hy
    exact ⟨rfl, q _ H Z (Same.refl _) R (by rw [dq_none hx]; exact .bl _)⟩
  · cases g
/-! in, not in: flat things -/
def flatD : PyData → Bool
  | .none | .bool _ | .int _ | .str _ => true
  | _ => false
def inD (d : PyData) (ds : List PyData) : Bool := ds.any fun y => PyData.eqv y d
def itemsD : PyData → Option (List PyData)
  | .list xs => some xs
  | .tuple xs => some xs
  | _ => none
def gIn (neg : Bool) (d e : PyData) : Option PyData := match itemsD e with
  | some xs => if flatD d = true ∧ xs.all flatD = true then some (.bool (if neg = true then !inD d xs else inD d xs)) else none
  | none => none
theorem dq_flat {Z : Hp} {x : V} {d : PyData} (h : Dq K Z x d) (f : flatD d = true) : flatV x = true := by
  cases h <;> first | rfl | cases f
theorem dqAll_flat {Z : Hp} : ∀ {xs : List V} {ds : List PyData}, DqAll K Z xs ds → ds.all flatD = true → xs.all flatV = true
  | _, _, .nil, _ => rfl
  | _, _, .cons h a, f => by
    rw [List.all_cons, Bool.and_eq_true] at f ⊢
    exact ⟨dq_flat h f.1, dqAll_flat a f.2⟩
theorem dq_eqV {Z : Hp} {x y : V} {d e : PyData} (h : Dq K Z x d) (h2 : Dq K Z y e) (f : flatD d = true) (f2 : flatD e = true) : eqV y x = PyData.eqv e d := by
  cases h <;> cases h2 <;> first
    | rfl
    | (cases f)
    | (cases f2)
    | simp [eqV, PyData.eqv]
    | (rename_i a b; cases a <;> cases b <;> rfl)
    | (rename_i a b; cases a <;> rfl)
    | (rename_i a b; cases b <;> rfl)
theorem dq_inV {Z : Hp} {x : V} {d : PyData} (h : Dq K Z x d) (f : flatD d = true) : ∀ {xs : List V} {ds : List PyData}, DqAll K Z xs ds → ds.all flatD = true → inV x xs = inD d ds
  | _, _, .nil, _ => rfl
  | _, _, .cons h2 a, f2 => by
    rw [List.all_cons, Bool.and_eq_true] at f2
    show (eqV _ x || inV x _) = (PyData.eqv _ d || inD d _)
    rw [dq_eqV h h2 f f2.1, dq_inV h f a f2.2]
theorem b_in (neg : Bool) : BinD K (rIn K neg) (gIn neg) := by
  intro C Z σ H S x y d e z Q R hx hy g q
  unfold gIn at g
  split at g
  · next xs hi =>
    split at g
    · next hf =>
      cases g
      cases hy with
      | lst h1 a1 =>
        cases hi
        refine ⟨_, _, rfl, .inl (.inl (rd_mono R.sub h1)), dq_flat hx hf.1, dqAll_flat a1 hf.2, ?_⟩
        rw [dq_inV hx hf.1 a1 hf.2]
        exact q _ H Z (Same.refl _) R (.bl _)
      | tup h1 a1 =>
        cases hi
        refine ⟨_, _, rfl, .inr (sqT_mono R.sub h1), dq_flat hx hf.1, dqAll_flat a1 hf.2, ?_⟩
        rw [dq_inV hx hf.1 a1 hf.2]
        exact q _ H Z (Same.refl _) R (.bl _)
      | non => cases hi
      | bl => cases hi
      | int => cases hi
      | str => cases hi
    · cases g
  · cases g
end
end DL

/-! DL3: subscripts, slices, calls of built-ins, by data. -/
namespace DL
open PySem PySem.Spec PyProof.Rows L2

section
variable {K : PySem.W.Frag} {X : Cx} {a b e : Expr} {pos : Pos}
theorem DqAll.atI {Z : Hp} {vs : List V} {ds : List PyData} {i : Int} {d : PyData} (h : DqAll K Z vs ds) (e : L2.atI ds i = some d) : ∃ v, L2.atI vs i = some v ∧ Dq K Z v d := by
  unfold L2.atI at e ⊢
  rw [DqAll.length h]
  cases q : ixN ds.length i with
  | none => rw [q] at e; cases e
  | some j =>
    rw [q] at e
    exact DqAll.getD h e
def gIx (d i : PyData) : Option PyData := match i with
  | .int k => match itemsD d with
    | some xs => L2.atI xs k
    | none => none
  | _ => none
theorem b_ix : BinD K (rIx K) gIx := by
  intro C Z σ H S x y d e z Q R hx hy g q
  unfold gIx at g
  split at g
  · next k =>
    cases hy
    split at g
    · next xs hi =>
      cases hx with
      | lst h1 a1 =>
        cases hi
        obtain ⟨v, hv, hd⟩ := DqAll.atI a1 g
        exact .inl ⟨_, _, _, v, rfl, rfl, .inl (rd_mono R.sub h1), hv, q v H Z (Same.refl _) R hd⟩
      | tup h1 a1 =>
        cases hi
        obtain ⟨v, hv, hd⟩ := DqAll.atI a1 g
        exact .inr (.inl ⟨_, _, _, v, rfl, rfl, sqT_mono R.sub h1, hv, q v H Z (Same.refl _) R hd⟩)
      | non => cases hi
      | bl => cases hi
      | int => cases hi
      | str => cases hi
    · cases g
  · cases g
theorem d_ix {fa fb : EE} (h1 : PE X a (tD X.K fa)) (h2 : PE X b (tD X.K fb)) (hs : PlainIx b := by exact fun _ _ => rfl) : PE X (.Subscript a b pos) (tD X.K (eBin gIx fa fb)) := (pe_ix ix_seq h1 h2 hs).imp (dOp b_ix)
/-- the list that a slot holds, owned or lent -/
def contD (S : Sls) (j : Nat) : Option (List PyData) := match S[j]? with
  | some (.own xs) => some xs
  | some (.lent xs) => some xs
  | _ => none
theorem Rel.cont {C : Fc} {Z : Hp} {σ : L2.St} {H : Hp} {S : Sls} (R : Rel K C Z σ H S) {j : Nat} {xs : List PyData} (h : contD S j = some xs) : ∃ p ws, σ[j]? = some (some (.ref p)) ∧ H p = some (.lst ws) ∧ DqAll K Z ws xs := by
  unfold contD at h
  split at h
  · next ys e =>
    cases h
    obtain ⟨p, ws, h1, h2, h3, _⟩ := R.own j _ e
    exact ⟨p, ws, h1, h2, h3⟩
  · next ys e =>
    cases h
    obtain ⟨p, ws, _, h1, h2, h3⟩ := R.lent j _ e
    exact ⟨p, ws, h1, h2, h3⟩
  · cases h
/-- x[i], x a name: its list may be owned -/
def eIxN (j : Nat) (fi : EE) : EE := fun S => match S[j]? with
  | some (.dat d) => match fi S with
    | some (i, S') => match gIx d i with
      | some z => some (z, S')
      | none => none
    | none => none
  | some (.un) => none
  | some (.scr _) => none
  | none => none
  | _ => match fi S with
    | some (i, S') => match contD S' j with
      | some xs => match gIx (.list xs) i with
        | some z => some (z, S')
        | none => none
      | none => none
    | none => none
theorem dIxN {j : Nat} {fi : EE} : ∀ σ H Q, tD K (eIxN j fi) σ H Q → tOp (rIx K) (tVar j) (tD K fi) σ H Q := by
  rintro σ H Q ⟨C, Z, S, d, S', R, e, q⟩
  unfold eIxN at e
  split at e
  · next d0 h =>
    split at e
    · next i S1 h1 =>
      split at e
      · next z h2 =>
        cases e
        obtain ⟨v, g1, g2⟩ := R.dat j _ h
        refine ⟨v, g1, C, Z, S, i, S', R, h1, fun w H1 Z1 sm R1 hw => ?_⟩
        exact b_ix R1 (dq_mono sm g2) hw h2 fun u H2 Z2 sm2 R2 hu => q u H2 Z2 (sm.trans sm2) R2 hu
      · cases e
    · cases e
  · cases e
  · cases e
  · cases e
  · next n1 n2 n3 n4 =>
    have hc : ∃ xs, contD S j = some xs := by
      unfold contD
      cases hs : S[j]? with
      | none => exact absurd hs n4
      | some sl =>
        cases sl with
        | un => exact absurd hs n2
        | dat d => exact absurd hs (n1 d)
        | scr ns => exact absurd hs (n3 ns)
        | own xs => exact ⟨xs, rfl⟩
        | lent xs => exact ⟨xs, rfl⟩
    obtain ⟨ys, hys⟩ := hc
    obtain ⟨p, ws0, g1, _⟩ := R.cont hys
    split at e
    · next i S1 h1 =>
      split at e
      · next xs h2 =>
        split at e
        · next z h3 =>
          cases e
          refine ⟨.ref p, g1, C, Z, S, i, S', R, h1, fun w H1 Z1 sm R1 hw => ?_⟩
          obtain ⟨p', ws, k1, k2, k3⟩ := R1.cont h2
          rw [g1] at k1
          cases k1
          unfold gIx at h3
          split at h3
          · next k =>
            cases hw
            obtain ⟨v, hv, hd⟩ := DqAll.atI k3 (show L2.atI xs k = some d from h3)
            exact .inl ⟨_, _, _, v, rfl, rfl, .inl (.inl k2), hv, q v H1 Z1 sm R1 hd⟩
          · cases h3
        · cases e
      · cases e
    · cases e
theorem d_ixN (j : Nat) {x : Str} {px : Pos} {fi : EE} (h2 : PE X b (tD X.K fi)) (hs : PlainIx b := by exact fun _ _ => rfl) (hN : X.N[j]? = some x := by rfl) (hv : Vis X.env.scope x := by first | exact Or.inl rfl | exact Or.inr (Or.inl rfl) | exact Or.inr (Or.inr rfl))
    (hd : (x == ("__debug__" : Str)) = false := by decide) (hcd : (x == ("__classdict__" : Str)) = false := by decide) : PE X (.Subscript (.Name x px) b pos) (tD X.K (eIxN j fi)) :=
  (pe_ix ix_seq (pe_var hN hv hd hcd) h2 hs).imp dIxN

/-! ### slices -/
abbrev EO := Sls → Option (Option Int × Sls)
def tDO (K : PySem.W.Frag) (f : EO) : TO := fun σ H Q => ∃ C Z S o S', Rel K C Z σ H S ∧ f S = some (o, S') ∧ ∀ H' Z', Same Z Z' → Rel K C Z' σ H' S' → Q o H'
theorem _root_.L2.PO.imp {o : Option Expr} {t t' : TO} (h : PO X o t) (i : ∀ σ H Q, t' σ H Q → t σ H Q) : PO X o t' := ⟨fun pins s σ H Q I hw => h.run pins s σ H Q I (i σ H Q hw)⟩
def oNone : EO := fun S => some (none, S)
def oSome (f : EE) : EO := fun S => match f S with
  | some (.int i, S') => some (some i, S')
  | _ => none
theorem do_none : PO X none (tDO X.K oNone) := po_none.imp fun σ H Q z => by
  obtain ⟨C, Z, S, d, S', R, e, q⟩ := z
  cases e
  exact q H Z (Same.refl _) R
theorem do_some {f : EE} (h : PE X e (tD X.K f)) : PO X (some e) (tDO X.K (oSome f)) := (po_some h).imp fun σ H Q z => by
  obtain ⟨C, Z, S, d, S', R, e1, q⟩ := z
  unfold oSome at e1
  split at e1
  · next i S1 h1 =>
    cases e1
    refine ⟨C, Z, S, _, S', R, h1, fun v H1 Z1 sm R1 hv => ?_⟩
    cases hv
    exact ⟨i, rfl, q H1 Z1 sm R1⟩
  · cases e1
def cutD (xs : List PyData) (lo hi : Option Int) : List PyData := (xs.drop (HT.sIx xs.length 0 lo)).take (HT.sIx xs.length xs.length hi - HT.sIx xs.length 0 lo)
theorem DqAll.cut {Z : Hp} {vs : List V} {ds : List PyData} (h : DqAll K Z vs ds) (lo hi : Option Int) : DqAll K Z (cutV vs lo hi) (cutD ds lo hi) := by
  unfold cutV cutD
  rw [DqAll.length h]
  exact DqAll.take _ (DqAll.drop _ h)
theorem cut_whole {α : Type} {xs : List α} {n m : Nat} (h1 : n = 0) (h2 : m = xs.length) : (xs.drop n).take (m - n) = xs := by
  subst h1; subst h2
  rw [List.drop_zero, Nat.sub_zero, List.take_length]
def gSl (d : PyData) (lo hi : Option Int) : Option PyData := match d with
  | .list xs => some (.list (cutD xs lo hi))
  | .tuple xs => some (.tuple (cutD xs lo hi))
  | _ => none
def eSl (f : EE) (l u : EO) : EE := fun S => match f S with
  | none => none
  | some (d, S1) => match l S1 with
    | none => none
    | some (lo, S2) => match u S2 with
      | none => none
      | some (hi, S3) => match gSl d lo hi with
        | none => none
        | some z => some (z, S3)
def rSlG (K : PySem.W.Frag) : V → Option Int → Option Int → Hp → VK → Prop := fun x lo hi H Q => rSlL K x lo hi H Q ∨ rSlA K x lo hi H Q
theorem d_sl {lo hi : Option Expr} {p2 : Pos} {f : EE} {l u : EO} (h : PE X e (tD X.K f)) (hl : PO X lo (tDO X.K l)) (hu : PO X hi (tDO X.K u)) : PE X (.Subscript e (.Slice lo hi none p2) pos) (tD X.K (eSl f l u)) := by
  refine (pe_slice (r := rSlG X.K) (SlR.or sl_list sl_tupA) h hl hu).imp fun σ H Q z => ?_
  obtain ⟨C, Z, S, d, S', R, e1, q⟩ := z
  unfold eSl at e1
  split at e1
  · cases e1
  · next x S1 h1 =>
    split at e1
    · cases e1
    · next l1 S2 h2 =>
      split at e1
      · cases e1
      · next u1 S3 h3 =>
        split at e1
        · cases e1
        · next z h4 =>
          cases e1
          refine ⟨C, Z, S, x, S1, R, h1, fun v H1 Z1 sm1 R1 hv => ⟨C, Z1, S1, l1, S2, R1, h2, fun H2 Z2 sm2 R2 => ⟨C, Z2, S2, u1, S', R2, h3, fun H3 Z3 sm3 R3 => ?_⟩⟩⟩
          have hv3 := dq_mono (sm2.trans sm3) hv
          have sm := sm1.trans (sm2.trans sm3)
          unfold gSl at h4
          split at h4
          · cases h4
            cases hv3 with
            | lst g1 g2 =>
              exact .inl ⟨_, _, rfl, .inl (rd_mono R3.sub g1), fun p hp => q _ _ _ (sm.trans (R3.newZ hp)) (R3.new hp) (dq_lst R3 hp (DqAll.cut g2 _ _))⟩
          · cases h4
            cases hv3 with
            | tup g1 g2 =>
              refine .inr ⟨_, _, rfl, sqT_mono R3.sub g1, fun ⟨w1, w2⟩ => ?_, fun _ p hp => q _ _ _ (sm.trans (R3.newZ hp)) (R3.new hp) (dq_tup R3 hp (DqAll.cut g2 _ _))⟩
              rw [DqAll.length g2] at w1 w2
              refine q _ H3 Z3 sm R3 ?_
              unfold cutD
              rw [cut_whole w1 w2]
              exact .tup g1 g2
          · cases h4
/-- a slice of an owned list by its name, the list left as it is -/
def eSlN (j : Nat) (l u : EO) : EL := fun S => match contD S j with
  | none => none
  | some _ => match l S with
    | none => none
    | some (lo, S2) => match u S2 with
      | none => none
      | some (hi, S3) => match contD S3 j with
        | none => none
        | some xs => some (cutD xs lo hi, S3)
theorem df_slN (j : Nat) {x : Str} {px : Pos} {lo hi : Option Expr} {p2 : Pos} {l u : EO} (hl : PO X lo (tDO X.K l)) (hu : PO X hi (tDO X.K u)) (hN : X.N[j]? = some x := by rfl) (hv : Vis X.env.scope x := by first | exact Or.inl rfl | exact Or.inr (Or.inl rfl) | exact Or.inr (Or.inr rfl))
    (hd : (x == ("__debug__" : Str)) = false := by decide) (hcd : (x == ("__classdict__" : Str)) = false := by decide) : PE X (.Subscript (.Name x px) (.Slice lo hi none p2) pos) (tF X.K (eSlN j l u)) := by
  refine (pe_slice (r := rSlG X.K) (SlR.or sl_list sl_tupA) (pe_var hN hv hd hcd) hl hu).imp fun σ H Q z => ?_
  obtain ⟨C, Z, S, d, S', R, e1, q⟩ := z
  unfold eSlN at e1
  split at e1
  · cases e1
  · next xs0 h0 =>
    split at e1
    · cases e1
    · next l1 S2 h2 =>
      split at e1
      · cases e1
      · next u1 S3 h3 =>
        split at e1
        · cases e1
        · next xs h4 =>
          cases e1
          obtain ⟨p0, ws0, g1, _⟩ := R.cont h0
          refine ⟨.ref p0, g1, C, Z, S, l1, S2, R, h2, fun H2 Z2 sm2 R2 => ⟨C, Z2, S2, u1, S', R2, h3, fun H3 Z3 sm3 R3 => ?_⟩⟩
          obtain ⟨p1, ws, k1, k2, k3⟩ := R3.cont h4
          rw [g1] at k1
          cases k1
          refine .inl ⟨_, _, rfl, .inl (.inl k2), fun p hp => ?_⟩
          obtain ⟨a1, a2, a3, a4, a5⟩ := df_new R3 (ws := cutV ws l1 u1) hp
          exact q p _ _ Z3 (sm2.trans sm3) a1 a2 a3 a4 a5 (DqAll.cut k3 _ _)
/-- the script: its slice is a new list of ints -/
def lScr (j : Nat) (l u : EO) : EL := fun S => match S[j]? with
  | some (.scr ns) => match l S with
    | none => none
    | some (lo, S2) => match u S2 with
      | none => none
      | some (hi, S3) => some (cutD (ns.map PyData.int) lo hi, S3)
  | _ => none
theorem dqAll_ints {Z : Hp} : ∀ ns : List Int, DqAll K Z (ns.map V.int) (ns.map PyData.int)
  | [] => .nil
  | n :: r => .cons (.int n) (dqAll_ints r)
theorem df_scr (j : Nat) {x : Str} {px : Pos} {lo hi : Option Expr} {p2 : Pos} {l u : EO} (hl : PO X lo (tDO X.K l)) (hu : PO X hi (tDO X.K u)) (hN : X.N[j]? = some x := by rfl) (hv : Vis X.env.scope x := by first | exact Or.inl rfl | exact Or.inr (Or.inl rfl) | exact Or.inr (Or.inr rfl))
    (hd : (x == ("__debug__" : Str)) = false := by decide) (hcd : (x == ("__classdict__" : Str)) = false := by decide) : PE X (.Subscript (.Name x px) (.Slice lo hi none p2) pos) (tF X.K (lScr j l u)) := by
  refine (pe_slice (r := rSlG X.K) (SlR.or sl_list sl_tupA) (pe_var hN hv hd hcd) hl hu).imp fun σ H Q z => ?_
  obtain ⟨C, Z, S, d, S', R, e1, q⟩ := z
  unfold lScr at e1
  split at e1
  · next ns hs =>
    split at e1
    · cases e1
    · next l1 S2 h2 =>
      split at e1
      · cases e1
      · next u1 S3 h3 =>
        cases e1
        obtain ⟨a0, g1, g2⟩ := R.scr j _ hs
        refine ⟨.ref a0, g1, C, Z, S, l1, S2, R, h2, fun H2 Z2 sm2 R2 => ⟨C, Z2, S2, u1, S', R2, h3, fun H3 Z3 sm3 R3 => ?_⟩⟩
        refine .inl ⟨_, _, rfl, Same.seq ((sm2.trans sm3).trans R3.sub) g2, fun p hp => ?_⟩
        obtain ⟨a1, a2, a3, a4, a5⟩ := df_new R3 (ws := cutV (ns.map V.int) l1 u1) hp
        exact q p _ _ Z3 (sm2.trans sm3) a1 a2 a3 a4 a5 (DqAll.cut (dqAll_ints ns) _ _)
  · cases e1

/-! ### built-ins -/
def CallD (K : PySem.W.Frag) (r : List V → Hp → VK → Prop) (g : List PyData → Option PyData) : Prop :=
  ∀ {C : Fc} {Z : Hp} {σ : L2.St} {H : Hp} {S : Sls} {vs : List V} {ds : List PyData} {z : PyData} {Q : VK}, Rel K C Z σ H S → DqAll K Z vs ds → g ds = some z → (∀ v H' Z', Same Z Z' → Rel K C Z' σ H' S → Dq K Z' v z → Q v H') → r vs H Q
def eCall (g : List PyData → Option PyData) (f : EL) : EE := fun S => match f S with
  | none => none
  | some (ds, S') => match g ds with
    | none => none
    | some z => some (z, S')
theorem dCall {r : List V → Hp → VK → Prop} {g : List PyData → Option PyData} {f : EL} (hd : CallD K r g) : ∀ σ H Q, tD K (eCall g f) σ H Q → tCB r (tDA K f) σ H Q := by
  rintro σ H Q ⟨C, Z, S, d, S', R, e1, q⟩
  unfold eCall at e1
  split at e1
  · cases e1
  · next ds S1 h1 =>
    split at e1
    · cases e1
    · next z h2 =>
      cases e1
      exact ⟨C, Z, S, ds, S', R, h1, fun vs H1 Z1 sm R1 hv => hd R1 hv h2 fun v H2 Z2 sm2 R2 hv2 => q v H2 Z2 (sm.trans sm2) R2 hv2⟩
theorem d_callB {x : Str} {p : Pos} {es : List Expr} {id : String} {r : List V → Hp → VK → Prop} {g : List PyData → Option PyData} {f : EL} (hc : CallR X (.builtin id) r) (hd : CallD X.K r g) (hm : X.mg x = none) (ha : PA X (e :: es) (tDA X.K f)) (hg : Gl X x := by rfl) (hv : bootBuiltins x = some (.builtin id) := by decide +kernel) (hn : x ≠ "__name__" := by decide) (hdb : (x == ("__debug__" : Str)) = false := by decide)
    (he : starEach (e :: es) X.env = (false, eval e X.env) :: starEach es X.env := by rfl) (hpl : (backTo pos (starEach es X.env)).any (·.1) = false := by rfl) : PE X (.Call (.Name x p) (e :: es) [] pos) (tD X.K (eCall g f)) :=
  (pe_callB hc hg hm hv ha hn hdb he hpl).imp (dCall hd)
theorem d_callTy {x : Str} {p : Pos} {es : List Expr} {T : String} {r : List V → Hp → VK → Prop} {g : List PyData → Option PyData} {f : EL} (hc : CallR X (.type T) r) (hd : CallD X.K r g) (hm : X.mg x = none) (ha : PA X (e :: es) (tDA X.K f)) (hg : Gl X x := by rfl) (hv : bootBuiltins x = some (.type T) := by decide +kernel) (hn : x ≠ "__name__" := by decide) (hdb : (x == ("__debug__" : Str)) = false := by decide)
    (he : starEach (e :: es) X.env = (false, eval e X.env) :: starEach es X.env := by rfl) (hpl : (backTo pos (starEach es X.env)).any (·.1) = false := by rfl) : PE X (.Call (.Name x p) (e :: es) [] pos) (tD X.K (eCall g f)) :=
  (pe_callTy hc hg hm hv ha hn hdb he hpl).imp (dCall hd)
def gLen : List PyData → Option PyData
  | [.list xs] => some (.int xs.length)
  | [.tuple xs] => some (.int xs.length)
  | _ => none
theorem c_len : CallD K (fun xs H Q => ∃ p ys, xs = [.ref p] ∧ (SqL K H p ys ∨ SqT K H p ys) ∧ Q (.int ys.length) H) gLen := by
  intro C Z σ H S vs ds z Q R hv g q
  unfold gLen at g
  split at g
  · cases g
    cases hv with
    | cons h t =>
      cases t
      cases h with
      | lst h1 a1 => exact ⟨_, _, rfl, .inl (.inl (rd_mono R.sub h1)), by rw [DqAll.length a1]; exact q _ H Z (Same.refl _) R (.int _)⟩
  · cases g
    cases hv with
    | cons h t =>
      cases t
      cases h with
      | tup h1 a1 => exact ⟨_, _, rfl, .inr (sqT_mono R.sub h1), by rw [DqAll.length a1]; exact q _ H Z (Same.refl _) R (.int _)⟩
  · cases g
/-- len(x), x a name: its list may be owned -/
def eLenN (j : Nat) : EE := fun S => match contD S j with
  | some xs => some (.int xs.length, S)
  | none => match S[j]? with
    | some (.dat d) => match gLen [d] with
      | some z => some (z, S)
      | none => none
    | _ => none
theorem d_lenN (j : Nat) {x y : Str} {p px : Pos} (hm : X.mg x = none) (hg : Gl X x := by rfl) (hv : bootBuiltins x = some (.builtin "len") := by decide +kernel) (hn : x ≠ "__name__" := by decide) (hdb : (x == ("__debug__" : Str)) = false := by decide)
    (hN : X.N[j]? = some y := by rfl) (hv : Vis X.env.scope y := by first | exact Or.inl rfl | exact Or.inr (Or.inl rfl) | exact Or.inr (Or.inr rfl)) (hd : (y == ("__debug__" : Str)) = false := by decide) (hcd : (y == ("__classdict__" : Str)) = false := by decide) :
    PE X (.Call (.Name x p) [.Name y px] [] pos) (tD X.K (eLenN j)) := by
  refine (pe_callB call_len_seq hg hm (by assumption) (pa_cons (pe_var hN hv hd hcd) pa_nil) hn hdb).imp fun σ H Q z => ?_
  obtain ⟨C, Z, S, d, S', R, e1, q⟩ := z
  unfold eLenN at e1
  split at e1
  · next xs hc =>
    cases e1
    obtain ⟨p, ws, g1, g2, g3⟩ := R.cont hc
    refine ⟨.ref p, g1, p, ws, rfl, .inl (.inl (.inl g2)), ?_⟩
    rw [DqAll.length g3]
    exact q _ H Z (Same.refl _) R (.int _)
  · split at e1
    · next d0 hs =>
      split at e1
      · next z h1 =>
        cases e1
        obtain ⟨v, g1, g2⟩ := R.dat j _ hs
        exact ⟨v, g1, c_len R (.cons g2 .nil) h1 fun v' H' Z' sm R' hd' => q v' H' Z' sm R' hd'⟩
      · cases e1
    · cases e1
def intsD : List PyData → Option (List Int)
  | [] => some []
  | .int i :: r => match intsD r with
    | some ns => some (i :: ns)
    | none => none
  | _ => none
theorem intsD_dq {Z : Hp} : ∀ {vs : List V} {ds : List PyData} {ns : List Int}, DqAll K Z vs ds → intsD ds = some ns → vs = ns.map V.int
  | _, _, _, .nil, e => by cases e; rfl
  | _, _, _, .cons h a, e => by
    unfold intsD at e
    split at e
    · next heq => cases heq
    · next i r heq =>
      cases heq
      split at e
      · next ns h1 =>
        cases e
        cases h
        rw [intsD_dq a h1]
        rfl
      · cases e
    · cases e
theorem intsD_map : ∀ ns : List Int, intsD (ns.map PyData.int) = some ns
  | [] => rfl
  | n :: r => by
    show (match intsD (r.map PyData.int) with | some ns => some (n :: ns) | none => none) = some (n :: r)
    rw [intsD_map r]
def gSum : List PyData → Option PyData
  | [.list xs] => match intsD xs with
    | some ns => some (.int ns.sum)
    | none => none
  | _ => none
theorem c_sum : CallD K (rSum K) gSum := by
  intro C Z σ H S vs ds z Q R hv g q
  unfold gSum at g
  split at g
  · split at g
    · next ns hns =>
      cases g
      cases hv with
      | cons h t =>
        cases t
        cases h with
        | lst h1 a1 =>
          have ev := intsD_dq a1 hns
          subst ev
          exact ⟨_, ns, rfl, .inl (rd_mono R.sub h1), q _ H Z (Same.refl _) R (.int _)⟩
    · cases g
  · cases g
def gAbs : List PyData → Option PyData
  | [.int i] => some (.int (if i < 0 then -i else i))
  | _ => none
theorem c_abs : CallD K (fun xs H Q => ∃ i, xs = [.int i] ∧ Q (.int (if i < 0 then -i else i)) H) gAbs := by
  intro C Z σ H S vs ds z Q R hv g q
  unfold gAbs at g
  split at g
  · cases g
    cases hv with
    | cons h t =>
      cases t; cases h
      exact ⟨_, rfl, q _ H Z (Same.refl _) R (.int _)⟩
  · cases g
def gInt : List PyData → Option PyData
  | [.int i] => some (.int i)
  | [.bool b] => some (.int (if b then 1 else 0))
  | _ => none
theorem c_int : CallD K (fun xs H Q => (∃ i, xs = [.int i] ∧ Q (.int i) H) ∨ ∃ k, xs = [.bl k] ∧ Q (.int (if k then 1 else 0)) H) gInt := by
  intro C Z σ H S vs ds z Q R hv g q
  unfold gInt at g
  split at g
  · cases g
    cases hv with
    | cons h t =>
      cases t; cases h
      exact .inl ⟨_, rfl, q _ H Z (Same.refl _) R (.int _)⟩
  · cases g
    cases hv with
    | cons h t =>
      cases t; cases h
      exact .inr ⟨_, rfl, q _ H Z (Same.refl _) R (.int _)⟩
  · cases g
def blsD : List PyData → Option (List Bool)
  | [] => some []
  | .bool i :: r => match blsD r with
    | some ns => some (i :: ns)
    | none => none
  | _ => none
theorem blsD_dq {Z : Hp} : ∀ {vs : List V} {ds : List PyData} {ns : List Bool}, DqAll K Z vs ds → blsD ds = some ns → vs = ns.map V.bl
  | _, _, _, .nil, e => by cases e; rfl
  | _, _, _, .cons h a, e => by
    unfold blsD at e
    split at e
    · next heq => cases heq
    · next i r heq =>
      cases heq
      split at e
      · next ns h1 =>
        cases e
        cases h
        rw [blsD_dq a h1]
        rfl
      · cases e
    · cases e
theorem blsD_map : ∀ ns : List Bool, blsD (ns.map PyData.bool) = some ns
  | [] => rfl
  | n :: r => by
    show (match blsD (r.map PyData.bool) with | some ns => some (n :: ns) | none => none) = some (n :: r)
    rw [blsD_map r]
def gAll : List PyData → Option PyData
  | [.list xs] => match blsD xs with
    | some ns => some (.bool (ns.all id))
    | none => none
  | _ => none
def gAny : List PyData → Option PyData
  | [.list xs] => match blsD xs with
    | some ns => some (.bool (ns.any id))
    | none => none
  | _ => none
theorem c_all : CallD K (rAll K) gAll := by
  intro C Z σ H S vs ds z Q R hv g q
  unfold gAll at g
  split at g
  · split at g
    · next ns hns =>
      cases g
      cases hv with
      | cons h t =>
        cases t
        cases h with
        | lst h1 a1 =>
          have ev := blsD_dq a1 hns
          subst ev
          exact ⟨_, ns, rfl, .inl (rd_mono R.sub h1), q _ H Z (Same.refl _) R (.bl _)⟩
    · cases g
  · cases g
theorem c_any : CallD K (rAny K) gAny := by
  intro C Z σ H S vs ds z Q R hv g q
  unfold gAny at g
  split at g
  · split at g
    · next ns hns =>
      cases g
      cases hv with
      | cons h t =>
        cases t
        cases h with
        | lst h1 a1 =>
          have ev := blsD_dq a1 hns
          subst ev
          exact ⟨_, ns, rfl, .inl (rd_mono R.sub h1), q _ H Z (Same.refl _) R (.bl _)⟩
    · cases g
  · cases g
/-- tuple(x) of a list or a tuple -/
def gTupO : List PyData → Option PyData
  | [.list xs] => some (.tuple xs)
  | [.tuple xs] => some (.tuple xs)
  | _ => none
theorem c_tup : CallD K (fun xs H Q => ∃ p ys, xs = [.ref p] ∧ ((SqL K H p ys ∧ ∀ l, H l = none → Q (.ref l) (upd H l (.tup ys))) ∨ (SqT K H p ys ∧ Q (.ref p) H))) gTupO := by
  intro C Z σ H S vs ds z Q R hv g q
  unfold gTupO at g
  split at g
  · cases g
    cases hv with
    | cons h t =>
      cases t
      cases h with
      | lst h1 a1 => exact ⟨_, _, rfl, .inl ⟨.inl (rd_mono R.sub h1), fun p hp => q _ _ _ (R.newZ hp) (R.new hp) (dq_tup R hp a1)⟩⟩
  · cases g
    cases hv with
    | cons h t =>
      cases t
      cases h with
      | tup h1 a1 => exact ⟨_, _, rfl, .inr ⟨sqT_mono R.sub h1, q _ H Z (Same.refl _) R (.tup h1 a1)⟩⟩
  · cases g
/-- list(x): a new list -/
def CallF (K : PySem.W.Frag) (r : List V → Hp → VK → Prop) (g : List PyData → Option (List PyData)) : Prop :=
  ∀ {C : Fc} {Z : Hp} {σ : L2.St} {H : Hp} {S : Sls} {vs : List V} {ds : List PyData} {z : List PyData} {Q : VK}, Rel K C Z σ H S → DqAll K Z vs ds → g ds = some z →
    (∀ p ws H' Z', Same Z Z' → Rel K C Z' σ H' S → H' p = some (.lst ws) → Z' p = none → C.H0 p = none → Apart σ S p → DqAll K Z' ws z → Q (.ref p) H') → r vs H Q
def eCallF (g : List PyData → Option (List PyData)) (f : EL) : EL := fun S => match f S with
  | none => none
  | some (ds, S') => match g ds with
    | none => none
    | some z => some (z, S')
theorem dCallF {r : List V → Hp → VK → Prop} {g : List PyData → Option (List PyData)} {f : EL} (hd : CallF K r g) : ∀ σ H Q, tF K (eCallF g f) σ H Q → tCB r (tDA K f) σ H Q := by
  rintro σ H Q ⟨C, Z, S, d, S', R, e1, q⟩
  unfold eCallF at e1
  split at e1
  · cases e1
  · next ds S1 h1 =>
    split at e1
    · cases e1
    · next z h2 =>
      cases e1
      exact ⟨C, Z, S, ds, S', R, h1, fun vs H1 Z1 sm R1 hv => hd R1 hv h2 fun p ws H2 Z2 sm2 R2 a1 a2 a3 a4 a5 => q p ws H2 Z2 (sm.trans sm2) R2 a1 a2 a3 a4 a5⟩
theorem df_callB {x : Str} {p : Pos} {es : List Expr} {id : String} {r : List V → Hp → VK → Prop} {g : List PyData → Option (List PyData)} {f : EL} (hc : CallR X (.builtin id) r) (hd : CallF X.K r g) (hm : X.mg x = none) (ha : PA X (e :: es) (tDA X.K f)) (hg : Gl X x := by rfl) (hv : bootBuiltins x = some (.builtin id) := by decide +kernel) (hn : x ≠ "__name__" := by decide) (hdb : (x == ("__debug__" : Str)) = false := by decide)
    (he : starEach (e :: es) X.env = (false, eval e X.env) :: starEach es X.env := by rfl) (hpl : (backTo pos (starEach es X.env)).any (·.1) = false := by rfl) : PE X (.Call (.Name x p) (e :: es) [] pos) (tF X.K (eCallF g f)) :=
  (pe_callB hc hg hm hv ha hn hdb he hpl).imp (dCallF hd)
theorem df_callTy {x : Str} {p : Pos} {es : List Expr} {T : String} {r : List V → Hp → VK → Prop} {g : List PyData → Option (List PyData)} {f : EL} (hc : CallR X (.type T) r) (hd : CallF X.K r g) (hm : X.mg x = none) (ha : PA X (e :: es) (tDA X.K f)) (hg : Gl X x := by rfl) (hv : bootBuiltins x = some (.type T) := by decide +kernel) (hn : x ≠ "__name__" := by decide) (hdb : (x == ("__debug__" : Str)) = false := by decide)
    (he : starEach (e :: es) X.env = (false, eval e X.env) :: starEach es X.env := by rfl) (hpl : (backTo pos (starEach es X.env)).any (·.1) = false := by rfl) : PE X (.Call (.Name x p) (e :: es) [] pos) (tF X.K (eCallF g f)) :=
  (pe_callTy hc hg hm hv ha hn hdb he hpl).imp (dCallF hd)
def gListO : List PyData → Option (List PyData)
  | [.list xs] => some xs
  | [.tuple xs] => some xs
  | _ => none
theorem c_list : CallF K (fun xs H Q => ∃ p ys, xs = [.ref p] ∧ (SqL K H p ys ∨ SqT K H p ys) ∧ ∀ l, H l = none → Q (.ref l) (upd H l (.lst ys))) gListO := by
  intro C Z σ H S vs ds z Q R hv g q
  have fin : ∀ {ws : List V}, DqAll K Z ws z → ∀ l, H l = none → Q (.ref l) (upd H l (.lst ws)) := fun {ws} a1 l hl => by
    obtain ⟨b1, b2, b3, b4, b5⟩ := df_new R (ws := ws) hl
    exact q l ws _ Z (Same.refl _) b1 b2 b3 b4 b5 a1
  unfold gListO at g
  split at g
  · cases g
    cases hv with
    | cons h t =>
      cases t
      cases h with
      | lst h1 a1 => exact ⟨_, _, rfl, .inl (.inl (rd_mono R.sub h1)), fin a1⟩
  · cases g
    cases hv with
    | cons h t =>
      cases t
      cases h with
      | tup h1 a1 => exact ⟨_, _, rfl, .inr (sqT_mono R.sub h1), fin a1⟩
  · cases g
/-! isinstance -/
def tyD : PyData → String
  | .none => "NoneType"
  | .bool _ => "bool"
  | .int _ => "int"
  | .str _ => "str"
  | .list _ => "list"
  | .tuple _ => "tuple"
  | .dict _ => "dict"
def gIsi (T : String) (d : PyData) : Option PyData := match kitB (tyD d) T with
  | some b => some (.bool b)
  | none => none
theorem dq_ty {Z H : Hp} (sm : Same Z H) {x : V} {d : PyData} (h : Dq K Z x d) : TyX K H x (.type (tyD d)) := by
  cases h with
  | non => exact .base .non
  | bl b => exact .base (.bl b)
  | int i => exact .base (.int i)
  | str x => exact .base (.str x)
  | lst h a =>
    rcases rd_mono sm h with h | ⟨o, h⟩
    · exact .base (.lst h)
    · exact .base (.frz h)
  | tup h a =>
    rcases sqT_mono sm h with (h | ⟨o, h⟩) | ⟨o, its, n, h1, h2, _⟩
    · exact .base (.tup h)
    · exact .fTuple h
    · exact .kTuple h1 h2
theorem d_isi {f : EE} (T : String) {p c : Pos} {x y : Str} (h : PE X a (tD X.K f)) (hm : X.mg x = none) (hm2 : X.mg y = none) (hg : Gl X x := by rfl) (hv : bootBuiltins x = some (.builtin "isinstance") := by decide +kernel) (hn : x ≠ "__name__" := by decide) (hdb : (x == ("__debug__" : Str)) = false := by decide)
    (hg2 : Gl X y := by rfl) (hv2 : bootBuiltins y = some (.type T) := by decide +kernel) (hn2 : y ≠ "__name__" := by decide) (hdb2 : (y == ("__debug__" : Str)) = false := by decide)
    (he2 : starEach [a, .Name y c] X.env = (false, eval a X.env) :: starEach [.Name y c] X.env := by rfl) :
    PE X (.Call (.Name x p) [a, .Name y c] [] pos) (tD X.K (eUn (gIsi T) f)) := by
  refine (pe_callB call_isi hg hm hv (pa_cons h (pa_cons (pe_bltn (v := .ty T) hg2 hm2 hv2 rfl hn2 hdb2) pa_nil) he2) hn hdb he2).imp fun σ H Q z => ?_
  obtain ⟨C, Z, S, d, S', R, e1, q⟩ := z
  obtain ⟨d0, h1, h2⟩ := eUn_some e1
  unfold gIsi at h2
  split at h2
  · next b hb =>
    cases h2
    exact ⟨C, Z, S, d0, S', R, h1, fun v H1 Z1 sm R1 hv => ⟨v, .ty T, _, .type T, b, rfl, .ty T, dq_ty R1.sub hv, kit_ty hb, q _ H1 Z1 sm R1 (.bl _)⟩⟩
  · cases h2
end
end DL

/-! DLI: what is walked: values that are lists or tuples, ranges, enumerate and zip over these. -/
namespace PySem
/-- enumerate(v), v anything that begins -/
theorem dl_enum_new {v : Value} {ob : Obj} {Hb : Heap → Prop} (B : Begins v ob Hb) :
    Meets (Builtin.«enumerate.__new__» ⟨[.type "enumerate", v], []⟩) (fun _ R st => Hb st.heap ∧
      R (.ok (.ret (.ref (st.heap.push ob).objs.size))) { st with heap := (st.heap.push ob).push { cls := .type "enumerate", data := .fields #[.none, .bool false, .ref st.heap.objs.size, rawInt 0, .none, .none] } }) :=
  .of_wp fun prog w A R st hh => by
    obtain ⟨heap, gs, dr, tk, os⟩ := st; obtain ⟨hb, hr⟩ := hh
    have hsub := sub_enumerate
    have begin : ∀ {A2 : Around} {E2 : Value → Shared → Prop} {Q2 : Value → Shared → Prop}, Q2 (.ref heap.objs.size) ⟨heap.push ob, gs, dr, tk, os⟩ → wpAny (model prog w) A2 (pyIter v) Q2 E2 ⟨heap, gs, dr, tk, os⟩ :=
      fun q => B.iter prog w _ _ ⟨heap, gs, dr, tk, os⟩ _ hb q
    wp_walk using begin
    refine wpAny_stack_any fun stk => wpAny_pure ?_
    split
    · rename_i cl _ _ _ _ _
      cases (cl == Value.type "enumerate")
      all_goals
        wp_walk using begin
        exact ⟨_, rfl, hr⟩
    · wp_walk using begin
      exact ⟨_, rfl, hr⟩
theorem dl_enum_begins {prog : Program} {w : World} {A : Around} {E : Value → Shared → Prop} {s : Shared} {v : Value} {o : Obj} {Hb : Heap → Prop} {Q : Value → Shared → Prop} (B : Begins v o Hb) (h1 : Hb s.heap)
    (h : ∀ h', IsEnum h' (s.heap.objs.size + 1) s.heap.objs.size 0 .none → h'.get? s.heap.objs.size = some o → (∀ b ob, s.heap.get? b = some ob → h'.get? b = some ob) → Q (.ref (s.heap.objs.size + 1)) { s with heap := h' }) :
    wpAny (model prog w) A (call (.type "enumerate") [v]) Q E s := by
  refine callType_new F.called_enumerate (by decide) (F.typeCall_enumerate_1 _) (F.newCall_enumerate_1 _) (fun obj => F.args_object_init_2 obj _) F.entry_enumerate_new (dl_enum_new B) ⟨h1, ?_⟩
  have sz : (s.heap.push o).objs.size = s.heap.objs.size + 1 := Heap.size_push ..
  show _ ∧ _
  rw [sz]
  have he : IsEnum ((s.heap.push o).push { cls := .type "enumerate", data := .fields #[.none, .bool false, .ref s.heap.objs.size, rawInt 0, .none, .none] }) (s.heap.objs.size + 1) s.heap.objs.size 0 .none := by
    have g := Heap.get?_push_size (s.heap.push o) (o := { cls := .type "enumerate", data := .fields #[.none, .bool false, .ref s.heap.objs.size, rawInt 0, .none, .none] }) rfl
    rw [sz] at g
    exact g
  exact ⟨⟨_, he, rfl⟩, h _ he (Heap.get?_push_of_some _ (Heap.get?_push_size _ B.free)) fun b ob x => Heap.get?_push_of_some _ (Heap.get?_push_of_some _ x)⟩
end PySem
namespace DL
open PySem PySem.Spec PyProof.Rows L2

/-! ### a list or a tuple as a source -/
/-- k: a list; else a tuple -/
def Sq (K : PySem.W.Frag) (k : Bool) (H : Hp) (a : Addr) (xs : List V) : Prop := if k = true then SqL K H a xs else SqT K H a xs
def At (k : Bool) (h : Heap) (a : Addr) (items : Array Value) : Prop := if k = true then h.IsList a items else h.IsTuple a items
def ItAt (k : Bool) (h : Heap) (it a : Addr) (i : Nat) : Prop := if k = true then h.IsListIter it a i else h.IsTupleIter it a i
def itO (k : Bool) (a : Addr) : Obj := if k = true then { cls := .type "list_iterator", data := .fields #[.ref a, .int 0 0] } else { cls := .type "tuple_iterator", data := .fields #[.ref a, .int 0 0] }
section
variable {X : Cx} {pins : List (Addr × Obj)} {σ : L2.St} {H : Hp} {s : Shared} {a : Addr} {xs ys : List V}
theorem inv_at {k : Bool} (I : Inv X pins σ H s) (h : Sq X.K k H a xs) : ∃ its : List Value, Vals xs its ∧ At k s.heap a its.toArray ∧ a < s.heap.objs.size := by
  cases k with
  | true =>
    obtain ⟨its, r, p, _⟩ := I.list (show SqL X.K H a xs from h)
    exact ⟨its, r, p.isList, p.lt⟩
  | false =>
    obtain ⟨its, r, p, _⟩ := I.tuple (show SqT X.K H a xs from h)
    obtain ⟨o, e, _⟩ := id p
    exact ⟨its, r, p, Heap.lt_size e⟩
theorem sq_inj {k : Bool} (I : Inv X pins σ H s) (h : Sq X.K k H a xs) (h' : Sq X.K k H a ys) : xs = ys := by
  cases k with
  | true => exact I.list_inj h h'
  | false => exact I.tuple_inj h h'
end
theorem sq_mono {K : PySem.W.Frag} {k : Bool} {H H' : Hp} {a : Addr} {xs : List V} (e : Same H H') (h : Sq K k H a xs) : Sq K k H' a xs := by
  cases k with
  | true => exact Same.seq e h
  | false => exact sqT_mono e h
theorem begins_at (k : Bool) (a : Addr) (items : Array Value) : Begins (.ref a) (itO k a) fun h => At k h a items := by
  cases k with
  | true => exact begins_list a items
  | false => exact begins_tuple a items
theorem itAt_obj {k : Bool} {h : Heap} {it a : Addr} {i : Nat} (e : ItAt k h it a i) : ∃ o, h.get? it = some o ∧ ∀ v, o.data ≠ .cell v := by
  cases k with
  | true => obtain ⟨o, e1, _, d⟩ := (show h.IsListIter it a i from e); exact ⟨o, e1, fun v q => by rw [d] at q; cases q⟩
  | false => obtain ⟨o, e1, _, d⟩ := (show h.IsTupleIter it a i from e); exact ⟨o, e1, fun v q => by rw [d] at q; cases q⟩
theorem itAt_keep {k : Bool} {h h' : Heap} {it a : Addr} {i : Nat} (e : ItAt k h it a i) (q : ∀ o, h.get? it = some o → h'.get? it = some o) : ItAt k h' it a i := by
  cases k with
  | true => exact (show h.IsListIter it a i from e).at fun o x => q o x
  | false => exact (show h.IsTupleIter it a i from e).at fun o x => q o x
theorem itAt_new {k : Bool} {h : Heap} {it a : Addr} (e : h.get? it = some (itO k a)) : ItAt k h it a 0 := by
  cases k with
  | true => exact ⟨_, e, rfl, rfl⟩
  | false => exact ⟨_, e, rfl, rfl⟩
theorem at_keep {k : Bool} {h h' : Heap} {a : Addr} {items : Array Value} (e : At k h a items) (q : ∀ o, h.get? a = some o → h'.get? a = some o) : At k h' a items := by
  cases k with
  | true => exact (show h.IsList a items from e).at fun o x => q o x
  | false => exact (show h.IsTuple a items from e).at fun o x => q o x
theorem draws_at {prog : Program} {w : World} {A : Around} (hh : A.handled = none) (k : Bool) (it a : Addr) (hne : a ≠ it) (items : Array Value) :
    Draws prog w A it [it, a] items.size (fun i v => items[i]? = some v) (fun i h => ItAt k h it a i ∧ At k h a items) := by
  cases k with
  | true => exact Draws.list hh it a hne items
  | false => exact Draws.tuple hh it a hne items

/-! ### the turns -/
/-- one walk over what stands still: n turns, Y what it gives -/
def ItG (n : Nat) (G : Hp → Prop) (Y : Nat → Hp → V → Hp → Prop) : It := ⟨fun i H => i < n ∧ G H, fun i H x H' => Y i H x H', fun i H => i = n ∧ G H⟩
theorem walk_ItG {n : Nat} {G : Hp → Prop} {Y : Nat → Hp → V → Hp → Prop} : Walk (ItG n G Y) n G Y := ⟨fun _ _ h g => ⟨h, g⟩, fun _ g => ⟨rfl, g⟩, fun _ _ _ _ _ _ y => y⟩

theorem turn_enumG {P : Program} {w : World} {K : PySem.W.Frag} {elts : List Expr} {kk : Nat} {tpos : Pos} (k : Bool) (a e it : Addr) (xs : List V) (hne : e ≠ it) (hea : e ≠ a) (hia : a ≠ it) :
    Turn P w K (.Tuple elts kk tpos) (ItG xs.length (fun H => Sq K k H a xs) (YPair (fun i => some (.int (i : Nat))) (fun i => xs[i]?))) [e, it] e (fun i h => (∃ old, IsEnum h e it ((i : Nat) : Int) old) ∧ ItAt k h it a i) where
  mem := by simp
  obj := fun i h st b hb => by
    obtain ⟨⟨old, he⟩, ho⟩ := st
    rcases (show b = e ∨ b = it by simpa using hb) with z | z
    · rw [z]; exact ⟨_, he, fun v q => nomatch q⟩
    · rw [z]; exact itAt_obj ho
  keep := fun i h h' st kp => let ⟨⟨old, he⟩, hi⟩ := st; ⟨⟨old, kp e (by simp) _ he⟩, itAt_keep hi fun o q => kp it (by simp) o q⟩
  item := by
    intro X hP hw hK hc i pins s σ H E I hf st hg
    subst hP hw hK
    obtain ⟨⟨old, he⟩, hit⟩ := st
    obtain ⟨hi, hq⟩ := hg
    obtain ⟨its, rv, p, hal⟩ := inv_at I hq
    have hx : xs[i]? = some xs[i] := List.getElem?_eq_getElem hi
    obtain ⟨u, hu, ru⟩ := rv.get hx
    have hel : e < s.heap.objs.size := Heap.lt_size he
    have hil : it < s.heap.objs.size := by obtain ⟨_, q, _⟩ := itAt_obj hit; exact Heap.lt_size q
    have D := draws_at (prog := X.prog) (w := X.w) (A := X.A.in1) (I.ok.hd hc) k it a hia its.toArray
    refine wpAny_pyNext_enum_itemD D he ⟨hit, p⟩ (by rw [List.size_toArray, ← rv.length]; exact hi) hne (by simp [hne, hea]) fun x h' tk hxx ho hst' hT hsz hk => ?_
    have ex : x = u := by
      have z : its.toArray[i]? = some x := hxx
      rw [show its.toArray[i]? = some u by simpa using hu] at z
      exact (Option.some.inj z).symm
    subst ex
    refine ⟨_, rfl, wpAny_letOwnedTupleGo_enum (s := { s with heap := h', toks := tk + 1 }) ho fun h2 he2 sb => ?_⟩
    have hT2 : h2.get? s.heap.objs.size = some { cls := .type "tuple", data := .seq #[.int i tk, x] } := (sb.2 _ (Nat.ne_of_gt hel)).trans hT
    have fresh : H s.heap.objs.size = none := I.hok.fresh (Nat.le_refl _)
    have new : ObjOk X.prog X.w (upd H s.heap.objs.size (.tup [.int (i : Nat), xs[i]])) h2 s.heap.objs.size (.tup [.int (i : Nat), xs[i]]) :=
      ⟨Nat.le_trans (by decide : (2 : Nat) ≤ 1000000) million, [.int i tk, x], .cons ⟨_, rfl⟩ (.cons ru .nil), ⟨_, hT2, rfl, _, rfl⟩⟩
    have I1 : Inv X pins σ (upd H s.heap.objs.size (.tup [.int (i : Nat), xs[i]])) { s with heap := h2, toks := tk + 1 } :=
      I.turnedNew (ch := [e, it]) (fun b ob hb q => (sb.2 b (fun z => hb (by simp [z]))).trans (hk b ob (fun z => hb (by simp [z])) (fun z => hb (by simp [z])) q)) hf (Nat.le_refl _) new
    refine ⟨.ref s.heap.objs.size, _, I1, rfl, ⟨_, _, xs[i], rfl, fresh, rfl, rfl, hx⟩, ⟨⟨x, ?_⟩, itAt_keep hst'.1 fun o q => (sb.2 it (Ne.symm hne)).trans q⟩, fun b hb => ?_⟩
    · rw [show ((i + 1 : Nat) : Int) = (i : Int) + 1 by omega]
      exact he2
    · rcases (show b = e ∨ b = it by simpa using hb) with z | z
      · rw [z, upd_ne (Nat.ne_of_lt hel)]; exact (hf e (by simp)).1
      · rw [z, upd_ne (Nat.ne_of_lt hil)]; exact (hf it (by simp)).1
  done := by
    intro X hP hw hK hc i pins s σ H E I hf st hg
    subst hP hw hK
    obtain ⟨⟨old, he⟩, hit⟩ := st
    obtain ⟨rfl, hq⟩ := hg
    obtain ⟨its, rv, p, hal⟩ := inv_at I hq
    have D := draws_at (prog := X.prog) (w := X.w) (A := X.A.in1) (I.ok.hd hc) k it a hia its.toArray
    obtain ⟨f0, f1, f2, f3, f4, f5⟩ := hf it (by simp)
    have hl : its.toArray.size = xs.length := by rw [List.size_toArray, rv.length]
    exact wpAny_pyNext_enum_endD D he ⟨by rw [hl]; exact hit, p⟩ fun h' eb => ⟨rfl, I.turned (t' := s.toks) (fun b o hb q => eb b o hb q) f0 f1 f3 f4 f5⟩
  self := fun A i s Q E st h => let ⟨⟨_, he⟩, _⟩ := st; wpAny_pyIter_enum he h
theorem turn_zipG {P : Program} {w : World} {K : PySem.W.Frag} {elts : List Expr} {kk : Nat} {tpos : Pos} (k1 k2 : Bool) {a b z TI TO i1 i2 : Addr} (S : ZipSep2 z TI TO i1 i2 [i1, a] [i2, b]) (h1 : a ≠ i1) (h2 : b ≠ i2) (xs ys : List V) (n : Nat) (hn : n = min xs.length ys.length) :
    Turn P w K (.Tuple elts kk tpos) (ItG n (fun H => Sq K k1 H a xs ∧ Sq K k2 H b ys) (YPair (fun i => xs[i]?) (fun i => ys[i]?))) [z, TI, TO, i1, i2] z
      (fun i h => IsZip h z TI TO .none ∧ IsTupOf2 h TI (.ref i1) (.ref i2) ∧ (∃ x y, IsTupOf2 h TO x y) ∧ ItAt k1 h i1 a i ∧ ItAt k2 h i2 b i) where
  mem := by simp
  obj := fun i h st c hc => by
    obtain ⟨hz, hTI, ⟨x, y, hTO⟩, o1, o2⟩ := st
    rcases (show c = z ∨ c = TI ∨ c = TO ∨ c = i1 ∨ c = i2 by simpa using hc) with q | q | q | q | q
    · rw [q]; exact ⟨_, hz, fun v q => nomatch q⟩
    · rw [q]; exact ⟨_, hTI, fun v q => nomatch q⟩
    · rw [q]; exact ⟨_, hTO, fun v q => nomatch q⟩
    · rw [q]; exact itAt_obj o1
    · rw [q]; exact itAt_obj o2
  keep := fun i h h' st kp => by
    obtain ⟨hz, hTI, ⟨x, y, hTO⟩, o1, o2⟩ := st
    exact ⟨kp z (by simp) _ hz, kp TI (by simp) _ hTI, ⟨x, y, kp TO (by simp) _ hTO⟩, itAt_keep o1 fun o q => kp i1 (by simp) o q, itAt_keep o2 fun o q => kp i2 (by simp) o q⟩
  item := by
    intro X hP hw hK hc i pins s σ H E I hf st hg
    subst hP hw hK
    obtain ⟨hz, hTI, ⟨x0, y0, hTO⟩, o1, o2⟩ := st
    obtain ⟨hi, hq1, hq2⟩ := hg
    obtain ⟨its1, rv1, p1, hl1⟩ := inv_at I hq1
    obtain ⟨its2, rv2, p2, hl2⟩ := inv_at I hq2
    have hix : i < xs.length := by omega
    have hiy : i < ys.length := by omega
    have hx : xs[i]? = some xs[i] := List.getElem?_eq_getElem hix
    have hy : ys[i]? = some ys[i] := List.getElem?_eq_getElem hiy
    obtain ⟨u1, hu1, ru1⟩ := rv1.get hx
    obtain ⟨u2, hu2, ru2⟩ := rv2.get hy
    have D1 := draws_at (prog := X.prog) (w := X.w) (A := X.A.in1) (I.ok.hd hc) k1 i1 a h1 its1.toArray
    have D2 := draws_at (prog := X.prog) (w := X.w) (A := X.A.in1) (I.ok.hd hc) k2 i2 b h2 its2.toArray
    have hzl : z < s.heap.objs.size := Heap.lt_size hz
    have ltOf : ∀ c ∈ [z, TI, TO, i1, i2], c < s.heap.objs.size := fun c hc => by
      rcases (show c = z ∨ c = TI ∨ c = TO ∨ c = i1 ∨ c = i2 by simpa using hc) with q | q | q | q | q
      · rw [q]; exact hzl
      · rw [q]; exact Heap.lt_size hTI
      · rw [q]; exact Heap.lt_size hTO
      · rw [q]; obtain ⟨_, g, _⟩ := itAt_obj o1; exact Heap.lt_size g
      · rw [q]; obtain ⟨_, g, _⟩ := itAt_obj o2; exact Heap.lt_size g
    refine wpAny_pyNext_zipD2_item S D1 D2 hz hTI hTO ⟨o1, p1⟩ ⟨o2, p2⟩ (by rw [List.size_toArray, ← rv1.length]; exact hix) (by rw [List.size_toArray, ← rv2.length]; exact hiy) fun x y h' tk hxx hyy z' TO' st1 st2 hT hsz hk => ?_
    have ex : x = u1 := by
      have q : its1.toArray[i]? = some x := hxx
      rw [show its1.toArray[i]? = some u1 by simpa using hu1] at q
      exact (Option.some.inj q).symm
    have ey : y = u2 := by
      have q : its2.toArray[i]? = some y := hyy
      rw [show its2.toArray[i]? = some u2 by simpa using hu2] at q
      exact (Option.some.inj q).symm
    subst ex
    subst ey
    refine ⟨_, rfl, wpAny_letOwnedTupleGo_zip (s := { s with heap := h', toks := tk }) z' fun h3 z3 sb => ?_⟩
    have hT2 : h3.get? s.heap.objs.size = some { cls := .type "tuple", data := .seq #[x, y] } := (sb.2 _ (Nat.ne_of_gt hzl)).trans hT
    have fresh : H s.heap.objs.size = none := I.hok.fresh (Nat.le_refl _)
    have new : ObjOk X.prog X.w (upd H s.heap.objs.size (.tup [xs[i], ys[i]])) h3 s.heap.objs.size (.tup [xs[i], ys[i]]) :=
      ⟨Nat.le_trans (by decide : (2 : Nat) ≤ 1000000) million, [x, y], .cons ru1 (.cons ru2 .nil), ⟨_, hT2, rfl, _, rfl⟩⟩
    have I1 : Inv X pins σ (upd H s.heap.objs.size (.tup [xs[i], ys[i]])) { s with heap := h3, toks := tk } :=
      I.turnedNew (t' := tk) (ch := [z, TI, TO, i1, i2]) (fun c o hb q => (sb.2 c (fun e => hb (by simp [e]))).trans (hk c o (fun e => hb (by simp [e])) (fun e => hb (by simp [e])) (fun e => hb (by simp [e])) (fun e => hb (by simp [e])) q)) hf (Nat.le_refl _) new
    refine ⟨.ref s.heap.objs.size, _, I1, rfl, ⟨_, xs[i], ys[i], rfl, fresh, rfl, hx, hy⟩, ⟨z3, (sb.2 _ S.TIz).trans (hk _ _ S.TIz S.TITO S.TIi1 S.TIi2 hTI), ⟨x, y, (sb.2 _ S.TOz).trans TO'⟩, itAt_keep st1.1 fun o q => (sb.2 _ (Ne.symm S.zi1)).trans q, itAt_keep st2.1 fun o q => (sb.2 _ (Ne.symm S.zi2)).trans q⟩, fun c hcm => ?_⟩
    rw [upd_ne (Nat.ne_of_lt (ltOf c hcm))]
    exact (hf c hcm).1
  done := by
    intro X hP hw hK hc i pins s σ H E I hf st hg
    subst hP hw hK
    obtain ⟨hz, hTI, ⟨x0, y0, hTO⟩, o1, o2⟩ := st
    obtain ⟨rfl, hq1, hq2⟩ := hg
    obtain ⟨its1, rv1, p1, hl1⟩ := inv_at I hq1
    obtain ⟨its2, rv2, p2, hl2⟩ := inv_at I hq2
    have D1 := draws_at (prog := X.prog) (w := X.w) (A := X.A.in1) (I.ok.hd hc) k1 i1 a h1 its1.toArray
    have D2 := draws_at (prog := X.prog) (w := X.w) (A := X.A.in1) (I.ok.hd hc) k2 i2 b h2 its2.toArray
    have z1 : its1.toArray.size = xs.length := by rw [List.size_toArray, rv1.length]
    have z2 : its2.toArray.size = ys.length := by rw [List.size_toArray, rv2.length]
    refine wpAny_pyNext_zipD2_end S D1 D2 hz hTI hTO ⟨o1, p1⟩ ⟨o2, p2⟩ (by omega) (by omega) (by omega) fun h' tk hk => ⟨rfl, I.turnedL (t' := tk) (ch := [z, TI, TO, i1, i2]) (fun c o hb q => ?_) hf⟩
    exact hk c o (fun e => hb (by simp [e])) (fun e => hb (by simp [e])) (fun e => hb (by simp [e])) (fun e => hb (by simp [e])) q
  self := fun A i s Q E st h => wpAny_pyIter_zip st.1 h

/-! ### by data -/
def YD (K : PySem.W.Frag) (Z : Hp) (H : Hp) (x : V) (H' : Hp) (d : PyData) : Prop :=
  (H' = H ∧ Dq K Z x d) ∨ ∃ T vs ds, x = .ref T ∧ H T = none ∧ H' = upd H T (.tup vs) ∧ d = .tuple ds ∧ DqAll K Z vs ds
def WalkD (K : PySem.W.Frag) (J : It) (Z : Hp) (items : List PyData) : Prop := ∃ G Y, Walk J items.length G Y ∧ (∀ H, Same Z H → G H) ∧
  ∀ i H x H', i < items.length → Same Z H → Y i H x H' → ∃ d, items[i]? = some d ∧ YD K Z H x H' d
def tDI (K : PySem.W.Frag) (f : EL) : TI := fun σ H R => ∃ C Z S ds S', Rel K C Z σ H S ∧ f S = some (ds, S') ∧ ∀ J H' Z', Same Z Z' → Rel K C Z' σ H' S' → WalkD K J Z' ds → R J H'
theorem _root_.L2.PI.imp {X : Cx} {tg e : Expr} {t t' : TI} (h : PI X tg e t) (i : ∀ σ H Q, t' σ H Q → t σ H Q) : PI X tg e t' := ⟨fun pins s σ H Q I hw => h.run pins s σ H Q I (i σ H Q hw)⟩
theorem sq_of {K : PySem.W.Frag} {Z : Hp} {v : V} {d : PyData} {ds : List PyData} (h : Dq K Z v d) (e : itemsD d = some ds) : ∃ k a xs, v = .ref a ∧ Sq K k Z a xs ∧ DqAll K Z xs ds := by
  cases h with
  | lst h1 a1 => cases e; exact ⟨true, _, _, rfl, .inl h1, a1⟩
  | tup h1 a1 => cases e; exact ⟨false, _, _, rfl, h1, a1⟩
  | non => cases e
  | bl => cases e
  | int => cases e
  | str => cases e
def eItems (f : EE) : EL := fun S => match f S with
  | none => none
  | some (d, S') => match itemsD d with
    | none => none
    | some ds => some (ds, S')
theorem eItems_some {f : EE} {S S' : Sls} {ds : List PyData} (h : eItems f S = some (ds, S')) : ∃ d, f S = some (d, S') ∧ itemsD d = some ds := by
  unfold eItems at h
  split at h
  · cases h
  · next d S1 h1 =>
    split at h
    · cases h
    · next ds' h2 => cases h; exact ⟨d, h1, h2⟩
theorem walkD_seq {K : PySem.W.Frag} {J : It} {Z : Hp} {xs : List V} {ds : List PyData} {G : Hp → Prop} (w : Walk J xs.length G (YAt xs)) (hG : ∀ H, Same Z H → G H) (a : DqAll K Z xs ds) : WalkD K J Z ds :=
  ⟨G, YAt xs, by rw [← DqAll.length a]; exact w, hG, fun i H x H' hi sm y => by
    obtain ⟨e, hx⟩ := y
    obtain ⟨d, h1, h2⟩ := DqAll.get a hx
    exact ⟨d, h1, .inl ⟨e, h2⟩⟩⟩
section
variable {X : Cx} {tg l : Expr}
/-- for x in a list or a tuple -/
theorem di_seq {f : EE} (h : PE X l (tD X.K f)) : PI X tg l (tDI X.K (eItems f)) := by
  refine ⟨fun pins s σ H R I hw => ?_⟩
  obtain ⟨C, Z, S, ds, S', Rl, e1, q⟩ := hw
  obtain ⟨d, h1, h2⟩ := eItems_some e1
  refine thn (h.run pins s σ H (fun v H1 => ∃ Z1, Same Z Z1 ∧ Rel X.K C Z1 σ H1 S' ∧ Dq X.K Z1 v d) I ⟨C, Z, S, d, S', Rl, h1, fun v H1 Z1 sm R1 hv => ⟨Z1, sm, R1, hv⟩⟩) fun v s1 hv => ?_
  obtain ⟨x, H1, I1, r1, Z1, sm, R1, hd⟩ := hv
  obtain ⟨k, a, xs, rfl, hs, ha⟩ := sq_of hd h2
  cases r1
  have fp : ∀ b ∈ [s1.heap.objs.size], FpOk X pins H1 b := fun b hb => by
    rw [show b = s1.heap.objs.size by simpa using hb]
    exact I1.fpOk (Nat.le_refl _) (I1.hok.fresh (Nat.le_refl _))
  cases k with
  | true =>
    obtain ⟨its, rv, p, hz⟩ := I1.list (Same.seq R1.sub hs)
    refine wpAny_pyIter_list p.isList ⟨s1.heap.objs.size, [s1.heap.objs.size], _, _, H1, rfl, I1.kept (t' := s1.toks) fun b o e => Heap.get?_push_of_some _ e, turn_list a _, ⟨_, Heap.get?_push_size _ rfl, rfl, rfl⟩, fp, ?_⟩
    exact q _ H1 Z1 sm R1 (walkD_seq walk_list (fun H sm2 => Same.seq sm2 hs) ha)
  | false =>
    obtain ⟨its, rv, p, hz⟩ := I1.tuple (sqT_mono R1.sub hs)
    refine wpAny_pyIter_tuple (show s1.heap.IsTuple a its.toArray from p) ⟨s1.heap.objs.size, [s1.heap.objs.size], _, _, H1, rfl, I1.kept (t' := s1.toks) fun b o e => Heap.get?_push_of_some _ e, turn_tuple a _, ⟨_, Heap.get?_push_size _ rfl, rfl, rfl⟩, fp, ?_⟩
    exact q _ H1 Z1 sm R1 (walkD_seq walk_tup (fun H sm2 => sqT_mono sm2 hs) ha)
/-- range -/
def rangeD (lo hi : Int) : List PyData := (List.range (hi - lo).toNat).map fun i => .int (lo + (i : Nat))
theorem rangeD_length (lo hi : Int) : (rangeD lo hi).length = (hi - lo).toNat := by unfold rangeD; rw [List.length_map, List.length_range]
theorem walkD_range {K : PySem.W.Frag} {Z : Hp} (lo hi : Int) : WalkD K (Itr lo (hi - lo).toNat) Z (rangeD lo hi) :=
  ⟨_, _, by rw [rangeD_length]; exact walk_range, fun _ _ => trivial, fun i H x H' hl sm y => by
    obtain ⟨e, hx⟩ := y
    rw [rangeD_length] at hl
    refine ⟨.int (lo + (i : Nat)), ?_, .inl ⟨e, by rw [hx]; exact .int _⟩⟩
    unfold rangeD
    rw [List.getElem?_map, List.getElem?_range hl]
    rfl⟩
def rOk (i : Int) : Bool := decide (-(2 ^ 62) ≤ i) && decide (i < 2 ^ 62)
def lRange1 (f : EL) : EL := fun S => match f S with
  | some ([.int j], S') => if rOk j = true then some (rangeD 0 j, S') else none
  | _ => none
def lRange2 (f : EL) : EL := fun S => match f S with
  | some ([.int i, .int j], S') => if rOk i = true ∧ rOk j = true then some (rangeD i j, S') else none
  | _ => none
theorem rOk_iff {i : Int} (h : rOk i = true) : -(2 ^ 62) ≤ i ∧ i < 2 ^ 62 := by
  unfold rOk at h
  simpa using h
theorem di_range1 {a : Expr} {f : EL} {p pos : Pos} (hm : X.mg "range" = none) (h : PA X [a] (tDA X.K f)) (hg : Gl X "range" := by rfl) (hs : starEach [a] X.env = [(false, eval a X.env)] := by rfl) : PI X tg (.Call (.Name "range" p) [a] [] pos) (tDI X.K (lRange1 f)) := by
  refine (pi_range1 hg hm h hs).imp fun σ H Q z => ?_
  obtain ⟨C, Z, S, ds, S', R, e1, q⟩ := z
  unfold lRange1 at e1
  split at e1
  · next j S1 h1 =>
    split at e1
    · next hr =>
      cases e1
      refine ⟨C, Z, S, _, S', R, h1, fun vs H1 Z1 sm R1 hv => ?_⟩
      obtain ⟨r1, r2⟩ := rOk_iff hr
      cases hv with
      | cons hd tl =>
        cases tl
        cases hd
        refine ⟨j, rfl, r1, r2, ?_⟩
        have w := walkD_range (K := X.K) (Z := Z1) 0 j
        rw [show j - 0 = j by omega] at w
        exact q _ H1 Z1 sm R1 w
    · cases e1
  · cases e1
theorem di_range2 {a b : Expr} {f : EL} {p pos : Pos} (hm : X.mg "range" = none) (h : PA X [a, b] (tDA X.K f)) (hg : Gl X "range" := by rfl) (hs : starEach [a, b] X.env = [(false, eval a X.env), (false, eval b X.env)] := by rfl) (hs2 : starEach [b] X.env = [(false, eval b X.env)] := by rfl) : PI X tg (.Call (.Name "range" p) [a, b] [] pos) (tDI X.K (lRange2 f)) := by
  refine (pi_range2 hg hm h hs hs2).imp fun σ H Q z => ?_
  obtain ⟨C, Z, S, ds, S', R, e1, q⟩ := z
  unfold lRange2 at e1
  split at e1
  · next i j S1 h1 =>
    split at e1
    · next hr =>
      cases e1
      refine ⟨C, Z, S, _, S', R, h1, fun vs H1 Z1 sm R1 hv => ?_⟩
      obtain ⟨r1, r2⟩ := rOk_iff hr.1
      obtain ⟨r3, r4⟩ := rOk_iff hr.2
      cases hv with
      | cons hd tl =>
        cases tl with
        | cons hd2 tl2 =>
          cases tl2
          cases hd
          cases hd2
          exact ⟨i, j, rfl, ⟨r1, r2, r3, r4⟩, q _ H1 Z1 sm R1 (walkD_range i j)⟩
    · cases e1
  · cases e1
/-! enumerate, zip -/
def enumD (xs : List PyData) : List PyData := xs.mapIdx fun i d => .tuple [.int (i : Nat), d]
def lEnum (f : EL) : EL := fun S => match f S with
  | some ([d], S') => match itemsD d with
    | some ds => some (enumD ds, S')
    | none => none
  | _ => none
theorem walkD_enum {K : PySem.W.Frag} {Z : Hp} {k : Bool} {a : Addr} {xs : List V} {ds : List PyData} (hs : Sq K k Z a xs) (ha : DqAll K Z xs ds) : WalkD K (ItG xs.length (fun H => Sq K k H a xs) (YPair (fun i => some (.int (i : Nat))) (fun i => xs[i]?))) Z (enumD ds) := by
  have hl : (enumD ds).length = xs.length := by unfold enumD; rw [List.length_mapIdx, DqAll.length ha]
  refine ⟨_, _, by rw [hl]; exact walk_ItG, fun H sm => sq_mono sm hs, fun i H x H' hi sm y => ?_⟩
  obtain ⟨T, x1, x2, e1, e2, e3, e4, e5⟩ := y
  obtain ⟨d, g1, g2⟩ := DqAll.get ha e5
  cases e4
  refine ⟨.tuple [.int (i : Nat), d], ?_, .inr ⟨T, _, _, e1, e2, e3, rfl, .cons (.int _) (.cons g2 .nil)⟩⟩
  unfold enumD
  rw [List.getElem?_mapIdx, g1]
  rfl
theorem di_enum {a : Expr} {f : EL} {p pos tpos : Pos} {elts : List Expr} {kk : Nat} (hm : X.mg "enumerate" = none) (ha : PA X [a] (tDA X.K f)) (hg : Gl X "enumerate" := by rfl) (hs : starEach [a] X.env = [(false, eval a X.env)] := by rfl) :
    PI X (.Tuple elts kk tpos) (.Call (.Name "enumerate" p) [a] [] pos) (tDI X.K (lEnum f)) := by
  refine ⟨fun pins s σ H R I hw => ?_⟩
  obtain ⟨C, Z, S, ds0, S', Rl, e1, q⟩ := hw
  unfold lEnum at e1
  split at e1
  · next d S1 h1 =>
    split at e1
    · next ds h2 =>
      cases e1
      refine Call_ (ld_blt I hg hm boot_enumerate (PyProof.Rows.callWith_type1 (thn (ha.run pos pins s σ H (fun vs H1 => ∃ Z1, Same Z Z1 ∧ Rel X.K C Z1 σ H1 S' ∧ DqAll X.K Z1 vs [d]) I ⟨C, Z, S, _, S', Rl, h1, fun vs H1 Z1 sm R1 hv => ⟨Z1, sm, R1, hv⟩⟩) fun us s1 hv => ?_) hs rfl))
      obtain ⟨vs, H1, I1, r1, Z1, sm, R1, hd⟩ := hv
      cases hd with
      | cons hd tl =>
        cases tl
        obtain ⟨k, b, xs, rfl, hsq, hall⟩ := sq_of hd h2
        cases r1 with
        | cons ra rb =>
          cases rb
          cases ra
          obtain ⟨its, rv, pt, hbl⟩ := inv_at I1 (sq_mono R1.sub hsq)
          refine dl_enum_begins (begins_at k b its.toArray) pt fun h' he hit hk => wpAny_pyIter_enum he ?_
          have I2 : Inv X pins σ H1 { s1 with heap := h' } := I1.kept (t' := s1.toks) hk
          have ne1 : s1.heap.objs.size + 1 ≠ s1.heap.objs.size := Nat.succ_ne_self _
          have ne2 : s1.heap.objs.size + 1 ≠ b := fun e => absurd (Nat.lt_succ_of_lt hbl) (by rw [← e]; exact Nat.lt_irrefl _)
          have ne3 : b ≠ s1.heap.objs.size := Nat.ne_of_lt hbl
          refine ⟨s1.heap.objs.size + 1, [s1.heap.objs.size + 1, s1.heap.objs.size], _, _, H1, rfl, I2, turn_enumG k b (s1.heap.objs.size + 1) s1.heap.objs.size xs ne1 ne2 ne3, ⟨⟨.none, he⟩, itAt_new hit⟩, fun c hcm => ?_, q _ H1 Z1 sm R1 (walkD_enum hsq hall)⟩
          have hle : s1.heap.objs.size ≤ c := by
            rcases (show c = s1.heap.objs.size + 1 ∨ c = s1.heap.objs.size by simpa using hcm) with z | z
            · rw [z]; exact Nat.le_succ _
            · rw [z]; exact Nat.le_refl _
          exact I1.fpOk hle (I1.hok.fresh hle)
    · cases e1
  · cases e1
def zipD : List PyData → List PyData → List PyData
  | x :: xs, y :: ys => .tuple [x, y] :: zipD xs ys
  | _, _ => []
theorem zipD_length : ∀ (xs ys : List PyData), (zipD xs ys).length = min xs.length ys.length
  | [], _ => by simp [zipD]
  | _ :: _, [] => by simp [zipD]
  | x :: xs, y :: ys => by
    show (zipD xs ys).length + 1 = _
    rw [zipD_length xs ys, List.length_cons, List.length_cons]
    omega
theorem zipD_get : ∀ {xs ys : List PyData} {i : Nat} {x y : PyData}, xs[i]? = some x → ys[i]? = some y → (zipD xs ys)[i]? = some (.tuple [x, y])
  | [], _, _, _, _, h, _ => by simp at h
  | _ :: _, [], _, _, _, _, h => by simp at h
  | a :: xs, b :: ys, 0, x, y, h1, h2 => by
    simp at h1 h2
    subst h1; subst h2
    rfl
  | a :: xs, b :: ys, i + 1, x, y, h1, h2 => zipD_get (xs := xs) (ys := ys) (i := i) (by simpa using h1) (by simpa using h2)
def lZip (f : EL) : EL := fun S => match f S with
  | some ([d, e], S') => match itemsD d, itemsD e with
    | some ds, some es => some (zipD ds es, S')
    | _, _ => none
  | _ => none
theorem walkD_zip {K : PySem.W.Frag} {Z : Hp} {k1 k2 : Bool} {a b : Addr} {xs ys : List V} {ds es : List PyData} (hs : Sq K k1 Z a xs) (ha : DqAll K Z xs ds) (hs2 : Sq K k2 Z b ys) (ha2 : DqAll K Z ys es) :
    WalkD K (ItG (min xs.length ys.length) (fun H => Sq K k1 H a xs ∧ Sq K k2 H b ys) (YPair (fun i => xs[i]?) (fun i => ys[i]?))) Z (zipD ds es) := by
  have hl : (zipD ds es).length = min xs.length ys.length := by rw [zipD_length, DqAll.length ha, DqAll.length ha2]
  refine ⟨fun H => Sq K k1 H a xs ∧ Sq K k2 H b ys, YPair (fun i => xs[i]?) (fun i => ys[i]?), by rw [hl]; exact walk_ItG, fun H sm => ⟨sq_mono sm hs, sq_mono sm hs2⟩, fun i H x H' hi sm y => ?_⟩
  obtain ⟨T, x1, x2, e1, e2, e3, e4, e5⟩ := y
  obtain ⟨d1, g1, g2⟩ := DqAll.get ha e4
  obtain ⟨d2, g3, g4⟩ := DqAll.get ha2 e5
  exact ⟨.tuple [d1, d2], zipD_get g1 g3, .inr ⟨T, _, _, e1, e2, e3, rfl, .cons g2 (.cons g4 .nil)⟩⟩
theorem di_zip {a b : Expr} {f : EL} {p pos tpos : Pos} {elts : List Expr} {kk : Nat} (hm : X.mg "zip" = none) (ha : PA X [a, b] (tDA X.K f)) (hg : Gl X "zip" := by rfl) (hs : starEach [a, b] X.env = (false, eval a X.env) :: starEach [b] X.env := by rfl) (hpl : (backTo pos (starEach [b] X.env)).any (·.1) = false := by rfl) :
    PI X (.Tuple elts kk tpos) (.Call (.Name "zip" p) [a, b] [] pos) (tDI X.K (lZip f)) := by
  refine ⟨fun pins s σ H R I hw => ?_⟩
  obtain ⟨C, Z, S, ds0, S', Rl, e1, q⟩ := hw
  unfold lZip at e1
  split at e1
  · next d e S1 h1 =>
    split at e1
    · next ds es h2 h3 =>
      cases e1
      refine Call_ (ld_blt I hg hm PyProof.Rows.boot_zip (PyProof.Rows.callWith_type1 (thn (ha.run pos pins s σ H (fun vs H1 => ∃ Z1, Same Z Z1 ∧ Rel X.K C Z1 σ H1 S' ∧ DqAll X.K Z1 vs [d, e]) I ⟨C, Z, S, _, S', Rl, h1, fun vs H1 Z1 sm R1 hv => ⟨Z1, sm, R1, hv⟩⟩) fun us s1 hv => ?_) hs hpl))
      obtain ⟨vs, H1, I1, r1, Z1, sm, R1, hd⟩ := hv
      cases hd with
      | cons hd tl =>
        cases tl with
        | cons hd2 tl2 =>
          cases tl2
          obtain ⟨k1, u, xs, rfl, hsq, hall⟩ := sq_of hd h2
          obtain ⟨k2, v, ys, rfl, hsq2, hall2⟩ := sq_of hd2 h3
          cases r1 with
          | cons ra rb =>
            cases rb with
            | cons rc rd =>
              cases rd
              cases ra
              cases rc
              obtain ⟨its, rv, pt, hbl⟩ := inv_at I1 (sq_mono R1.sub hsq)
              obtain ⟨its2, rv2, pt2, hbl2⟩ := inv_at I1 (sq_mono R1.sub hsq2)
              refine zip_begins2 (begins_at k1 u its.toArray) (begins_at k2 v its2.toArray) pt pt2 fun h' hz hTI hTO g1 g2 hsz hk => wpAny_pyIter_zip hz ?_
              have I2 : Inv X pins σ H1 { s1 with heap := h' } := I1.kept (t' := s1.toks) hk
              have sep := zip_sep2 (N := s1.heap.objs.size) (fp1 := [u]) (fp2 := [v]) (fun b hb => by rw [show b = u by simpa using hb]; exact hbl) (fun b hb => by rw [show b = v by simpa using hb]; exact hbl2)
              refine ⟨s1.heap.objs.size + 4, [s1.heap.objs.size + 4, s1.heap.objs.size + 2, s1.heap.objs.size + 3, s1.heap.objs.size, s1.heap.objs.size + 1], _, _, H1, rfl, I2, turn_zipG k1 k2 sep (Nat.ne_of_lt hbl) (Nat.ne_of_lt (Nat.lt_succ_of_lt hbl2)) xs ys _ rfl, ⟨hz, hTI, ⟨_, _, hTO⟩, itAt_new g1, itAt_new g2⟩, fun c hcm => ?_, q _ H1 Z1 sm R1 (walkD_zip hsq hall hsq2 hall2)⟩
              have hle : s1.heap.objs.size ≤ c := by
                rcases (show c = s1.heap.objs.size + 4 ∨ c = s1.heap.objs.size + 2 ∨ c = s1.heap.objs.size + 3 ∨ c = s1.heap.objs.size ∨ c = s1.heap.objs.size + 1 by simpa using hcm) with z | z | z | z | z
                · rw [z]; exact Nat.le_add_right _ _
                · rw [z]; exact Nat.le_add_right _ _
                · rw [z]; exact Nat.le_add_right _ _
                · rw [z]; exact Nat.le_refl _
                · rw [z]; exact Nat.le_add_right _ _
              exact I1.fpOk hle (I1.hok.fresh hle)
    · cases e1
  · cases e1
end
end DL

/-! DL4: targets, comprehensions, statements, loops, by data. -/
namespace DL
open PySem PySem.Spec PyProof.Rows L2

/-! ### targets -/
inductive Tg where
  | nm (i : Nat)
  | tp (ts : List Tg)
mutual
def bindT : Tg → PyData → Sls → Option Sls
  | .nm i, d, S => some (S.set i (.dat d))
  | .tp ts, .tuple ds, S => bindTs ts ds S
  | .tp _, _, _ => none
def bindTs : List Tg → List PyData → Sls → Option Sls
  | [], [], S => some S
  | t :: ts, d :: ds, S => match bindT t d S with
    | some S1 => bindTs ts ds S1
    | none => none
  | _, _, _ => none
end
mutual
def slT : Tg → List Nat
  | .nm i => [i]
  | .tp ts => slTs ts
def slTs : List Tg → List Nat
  | [] => []
  | t :: ts => slT t ++ slTs ts
end
mutual
def tG (K : PySem.W.Frag) : Tg → TG
  | .nm i => gName i
  | .tp ts => gTup K ts.length (tGs K ts)
def tGs (K : PySem.W.Frag) : List Tg → TGs
  | [] => gNil
  | t :: ts => gCons (tG K t) (tGs K ts)
end
theorem bindTs_length : ∀ (ts : List Tg) (ds : List PyData) (S S' : Sls), bindTs ts ds S = some S' → ds.length = ts.length
  | [], [], _, _, _ => rfl
  | [], _ :: _, _, _, h => by simp [bindTs] at h
  | _ :: _, [], _, _, h => by simp [bindTs] at h
  | t :: ts, d :: ds, S, S', h => by
    rw [bindTs] at h
    split at h
    · next S1 h1 => rw [List.length_cons, List.length_cons, bindTs_length ts ds S1 S' h]
    · cases h
mutual
theorem tG_ok {K : PySem.W.Frag} {C : Fc} {Z H : Hp} : ∀ (tg : Tg) {v : V} {σ : L2.St} {Q : L2.St → Hp → Prop} {d : PyData} {S S' : Sls}, Rel K C Z σ H S → Dq K Z v d → bindT tg d S = some S' →
    (∀ σ', Rel K C Z σ' H S' → σ'.length = σ.length → (∀ j, j ∉ slT tg → σ'[j]? = σ[j]?) → Q σ' H) → tG K tg v σ H Q
  | .nm i, v, σ, Q, d, S, S', R, hv, e, q => by
    rw [bindT] at e
    cases e
    rw [tG]
    exact q _ (R.setDat hv) (List.length_set ..) fun j hj => List.getElem?_set_ne (fun z => hj (by rw [slT]; simp [z]))
  | .tp ts, v, σ, Q, d, S, S', R, hv, e, q => by
    cases hv with
    | tup h1 a1 =>
      rw [bindT] at e
      rw [tG]
      refine ⟨_, _, rfl, sqT_mono R.sub h1, by rw [DqAll.length a1]; exact bindTs_length _ _ _ _ e, ?_⟩
      exact tGs_ok ts R a1 e fun σ' R' l hs => q σ' R' l (by rw [slT]; exact hs)
    | non => rw [bindT] at e <;> first | cases e | (intro _ z; cases z)
    | bl => rw [bindT] at e <;> first | cases e | (intro _ z; cases z)
    | int => rw [bindT] at e <;> first | cases e | (intro _ z; cases z)
    | str => rw [bindT] at e <;> first | cases e | (intro _ z; cases z)
    | lst => rw [bindT] at e <;> first | cases e | (intro _ z; cases z)
theorem tGs_ok {K : PySem.W.Frag} {C : Fc} {Z H : Hp} : ∀ (ts : List Tg) {vs : List V} {σ : L2.St} {Q : L2.St → Hp → Prop} {ds : List PyData} {S S' : Sls}, Rel K C Z σ H S → DqAll K Z vs ds → bindTs ts ds S = some S' →
    (∀ σ', Rel K C Z σ' H S' → σ'.length = σ.length → (∀ j, j ∉ slTs ts → σ'[j]? = σ[j]?) → Q σ' H) → tGs K ts vs σ H Q
  | [], vs, σ, Q, ds, S, S', R, hv, e, q => by
    cases hv with
    | nil =>
      rw [bindTs] at e
      cases e
      rw [tGs]
      exact ⟨rfl, q σ R rfl fun _ _ => rfl⟩
    | cons => simp [bindTs] at e
  | t :: ts, vs, σ, Q, ds, S, S', R, hv, e, q => by
    cases hv with
    | nil => simp [bindTs] at e
    | cons h a =>
      rw [bindTs] at e
      split at e
      · next S1 h1 =>
        rw [tGs]
        refine ⟨_, _, rfl, tG_ok t R h h1 fun σ1 R1 l1 s1 => tGs_ok ts R1 a e fun σ2 R2 l2 s2 => q σ2 R2 (l2.trans l1) fun j hj => ?_⟩
        rw [slTs, List.mem_append, not_or] at hj
        exact (s2 j hj.2).trans (s1 j hj.1)
      · cases e
end
section
variable {X : Cx} {pos : Pos}
theorem dg_nm {i : Nat} {x : Str} (hN : X.N.Nodup) (hi : X.N[i]? = some x := by rfl) (hx : Loc X.env.scope x := by first | exact Or.inl rfl | exact Or.inr rfl) (hf : X.fn x = true ∨ X.env.scope.names.lookup x = some .local := by first | exact .inl rfl | exact .inr rfl) : PG X (.Name x pos) (tG X.K (.nm i)) := by
  rw [tG]
  exact pg_name hN hi hx hf
theorem dgs_nil : PGs X [] (tGs X.K []) := by
  rw [tGs]
  exact pgs_nil
theorem dgs_cons {e : Expr} {es : List Expr} {t : Tg} {ts : List Tg} (h1 : PG X e (tG X.K t)) (h2 : PGs X es (tGs X.K ts)) (hs : (assignEach (e :: es) X.env).map (·.2) = assign e X.env :: (assignEach es X.env).map (·.2) := by rfl) : PGs X (e :: es) (tGs X.K (t :: ts)) := by
  rw [tGs]
  exact pgs_cons h1 h2 hs
theorem dg_tp {es : List Expr} {k : Nat} {ts : List Tg} (h : PGs X es (tGs X.K ts)) (hc : X.calm = true := by rfl) (hn : (assignEach es X.env).length = ts.length := by rfl) (hst : (assignEach es X.env).findIdx? (·.1) = none := by rfl) : PG X (.Tuple es k pos) (tG X.K (.tp ts)) := by
  rw [tG]
  exact pg_tup hc h hn hst
end

/-! ### slots forgotten for a block, and told again -/
def wipeS (S : Sls) : List Nat → Sls
  | [] => S
  | v :: vs => (wipeS S vs).set v .un
def okWipe (S : Sls) (vs : List Nat) : Bool := vs.all fun v => match S[v]? with
  | some (.own _) => false
  | some (.lent _) => false
  | some (.scr _) => false
  | _ => true
def restore (S S2 : Sls) : List Nat → Sls
  | [] => S2
  | v :: vs => (restore S S2 vs).set v (S.getD v .un)
section
variable {K : PySem.W.Frag} {C : Fc} {Z Z' : Hp} {σ σ' : L2.St} {H H' : Hp} {S S' : Sls}
theorem Rel.wipe (R : Rel K C Z σ H S) : ∀ vs : List Nat, Rel K C Z (L2.wipe σ vs) H (wipeS S vs)
  | [] => R
  | v :: vs => (Rel.wipe R vs).setUn
theorem wipe_get {σ : L2.St} {i : Nat} : ∀ {vs : List Nat}, i ∈ vs → (L2.wipe σ vs)[i]? = (if i < σ.length then some none else none)
  | [], h => by cases h
  | v :: vs, h => by
    show ((L2.wipe σ vs).set v none)[i]? = _
    by_cases e : v = i
    · subst e
      by_cases hl : v < σ.length
      · rw [List.getElem?_set_self (by rw [wipe_length]; exact hl), if_pos hl]
      · rw [List.getElem?_eq_none (by rw [List.length_set, wipe_length]; omega), if_neg hl]
    · rw [List.getElem?_set_ne e]
      rcases List.mem_cons.mp h with h | h
      · exact absurd h.symm e
      · exact wipe_get h
theorem wipe_same {σ σ' : L2.St} {vs : List Nat} (hl : σ'.length = σ.length) (h : ∀ j, j ∉ vs → σ'[j]? = σ[j]?) : L2.wipe σ' vs = L2.wipe σ vs := by
  apply List.ext_getElem?
  intro j
  by_cases hj : j ∈ vs
  · rw [wipe_get hj, wipe_get hj, hl]
  · rw [wipe_out hj, wipe_out hj, h j hj]
theorem wipe_wipe (σ : L2.St) (vs : List Nat) : L2.wipe (L2.wipe σ vs) vs = L2.wipe σ vs := wipe_same (wipe_length σ vs) fun j hj => wipe_out hj
theorem restore_length (S S2 : Sls) : ∀ vs : List Nat, (restore S S2 vs).length = S2.length
  | [] => rfl
  | v :: vs => by
    show ((restore S S2 vs).set v _).length = _
    rw [List.length_set, restore_length S S2 vs]
theorem restore_out (S S2 : Sls) {i : Nat} : ∀ {vs : List Nat}, i ∉ vs → (restore S S2 vs)[i]? = S2[i]?
  | [], _ => rfl
  | v :: vs, h => by
    have h1 : v ≠ i := fun e => h (by rw [e]; exact List.mem_cons_self)
    show ((restore S S2 vs).set v _)[i]? = _
    rw [List.getElem?_set_ne h1]
    exact restore_out S S2 fun m => h (List.mem_cons_of_mem _ m)
theorem restore_in (S S2 : Sls) (hl : S2.length = S.length) {i : Nat} : ∀ {vs : List Nat}, i ∈ vs → (restore S S2 vs)[i]? = S[i]?
  | [], h => by cases h
  | v :: vs, h => by
    show ((restore S S2 vs).set v _)[i]? = _
    by_cases e : v = i
    · subst e
      by_cases hv : v < S.length
      · rw [List.getElem?_set_self (by rw [restore_length, hl]; exact hv), List.getD_eq_getElem?_getD, List.getElem?_eq_getElem hv]
        rfl
      · rw [List.getElem?_eq_none (by rw [List.length_set, restore_length, hl]; omega), List.getElem?_eq_none (by omega)]
    · rw [List.getElem?_set_ne e]
      rcases List.mem_cons.mp h with h | h
      · exact absurd h.symm e
      · exact restore_in S S2 hl h
theorem okWipe_at {S : Sls} {vs : List Nat} (h : okWipe S vs = true) {i : Nat} (hi : i ∈ vs) : (∀ xs, S[i]? ≠ some (.own xs)) ∧ (∀ xs, S[i]? ≠ some (.lent xs)) ∧ ∀ ns, S[i]? ≠ some (.scr ns) := by
  have q := List.all_eq_true.mp h i hi
  refine ⟨fun xs e => ?_, fun xs e => ?_, fun ns e => ?_⟩ <;> simp [e] at q
theorem Rel.restore {Z2 : Hp} {H2 : Hp} {S2 : Sls} {vs : List Nat} (R : Rel K C Z σ H S) (ok : okWipe S vs = true) (sm : Same Z Z2) (R2 : Rel K C Z2 (L2.wipe σ vs) H2 S2) : Rel K C Z2 σ H2 (restore S S2 vs) := by
  have hl : S2.length = S.length := by rw [← R2.len, wipe_length, R.len]
  have cs : ∀ {i : Nat} {sl : Sl}, (DL.restore S S2 vs)[i]? = some sl → (i ∈ vs ∧ S[i]? = some sl) ∨ (i ∉ vs ∧ S2[i]? = some sl ∧ (L2.wipe σ vs)[i]? = σ[i]?) := fun {i sl} e => by
    by_cases hi : i ∈ vs
    · rw [restore_in S S2 hl hi] at e
      exact .inl ⟨hi, e⟩
    · rw [restore_out S S2 hi] at e
      exact .inr ⟨hi, e, wipe_out hi⟩
  refine ⟨R2.sub, R2.ext, R2.fresh, R2.same, R2.lo, by rw [restore_length, hl]; exact R.len, fun i d e => ?_, fun i xs e => ?_, fun i xs e => ?_, fun i j xs ys e1 e2 ne => ?_, fun i ns e => ?_, fun i j xs ys e1 e2 => ?_⟩
  · rcases cs e with ⟨_, e⟩ | ⟨_, e, w⟩
    · obtain ⟨v, h1, h2⟩ := R.dat i d e
      exact ⟨v, h1, dq_mono sm h2⟩
    · obtain ⟨v, h1, h2⟩ := R2.dat i d e
      exact ⟨v, w ▸ h1, h2⟩
  · rcases cs e with ⟨hi, e⟩ | ⟨_, e, w⟩
    · exact absurd e ((okWipe_at ok hi).1 xs)
    · obtain ⟨p, ws, h1, h2⟩ := R2.own i xs e
      exact ⟨p, ws, w ▸ h1, h2⟩
  · rcases cs e with ⟨hi, e⟩ | ⟨_, e, w⟩
    · exact absurd e ((okWipe_at ok hi).2.1 xs)
    · obtain ⟨p, ws, h0, h1, h2⟩ := R2.lent i xs e
      exact ⟨p, ws, h0, w ▸ h1, h2⟩
  · rcases cs e1 with ⟨hi, e1⟩ | ⟨_, e1, w1⟩
    · exact absurd e1 ((okWipe_at ok hi).1 xs)
    rcases cs e2 with ⟨hj, e2⟩ | ⟨_, e2, w2⟩
    · exact absurd e2 ((okWipe_at ok hj).1 ys)
    have q := R2.dist i j xs ys e1 e2 ne
    rw [w1, w2] at q
    exact q
  · rcases cs e with ⟨hi, e⟩ | ⟨_, e, w⟩
    · exact absurd e ((okWipe_at ok hi).2.2 ns)
    · obtain ⟨a, h1, h2⟩ := R2.scr i ns e
      exact ⟨a, w ▸ h1, h2⟩
  · rcases cs e1 with ⟨hi, e1⟩ | ⟨_, e1, w1⟩
    · exact absurd e1 ((okWipe_at ok hi).2.1 xs)
    rcases cs e2 with ⟨hj, e2⟩ | ⟨_, e2, w2⟩
    · exact absurd e2 ((okWipe_at ok hj).2.1 ys)
    exact R2.lent1 i j xs ys e1 e2
theorem Apart.restore {S2 : Sls} {vs : List Nat} {D : Addr} (ok : okWipe S vs = true) (hl : S2.length = S.length) (h : Apart (L2.wipe σ vs) S2 D) : Apart σ (DL.restore S S2 vs) D := fun i xs hi e => by
  by_cases hm : i ∈ vs
  · rw [restore_in S S2 hl hm] at hi
    rcases hi with hi | hi
    · exact (okWipe_at ok hm).1 xs hi
    · exact (okWipe_at ok hm).2.1 xs hi
  · rw [restore_out S S2 hm] at hi
    exact h i xs hi (by rw [wipe_out hm]; exact e)
theorem Apart.wipe {D : Addr} (h : Apart σ S D) : ∀ vs : List Nat, Apart (L2.wipe σ vs) (wipeS S vs) D
  | [] => h
  | v :: vs => fun i xs hi e => by
    have hi' : (((wipeS S vs).set v .un)[i]? = some (.own xs) ∨ ((wipeS S vs).set v .un)[i]? = some (.lent xs)) := hi
    have e' : ((L2.wipe σ vs).set v none)[i]? = some (some (.ref D)) := e
    by_cases hv : v = i
    · subst hv
      rcases hi' with q | q
      · rcases getElem?_set_cases q with ⟨_, _, z⟩ | ⟨z, _⟩
        · cases z
        · exact z rfl
      · rcases getElem?_set_cases q with ⟨_, _, z⟩ | ⟨z, _⟩
        · cases z
        · exact z rfl
    · rw [List.getElem?_set_ne hv] at e'
      simp only [List.getElem?_set_ne hv] at hi'
      exact Apart.wipe h vs i xs hi' e'
/-- an object that is known to no slot changes -/
theorem Rel.updFree (R : Rel K C Z σ H S) {D : Addr} {o : HO} (hz : Z D = none) (h0 : C.H0 D = none) (ha : Apart σ S D) : Rel K C Z σ (upd H D o) S := by
  have lop : ∀ p, C.lo = some p → p ≠ D := fun p hp e => C.loOk p hp (by rw [e]; exact h0)
  refine ⟨Same.updOther R.sub hz, R.ext, R.fresh, fun b x hl e => by rw [upd_ne (ne_of_none e h0)]; exact R.same b x hl e, fun p hp => ?_, R.len, R.dat, fun i xs e => ?_, fun i xs e => ?_, R.dist, R.scr, R.lent1⟩
  · obtain ⟨w, z⟩ := R.lo p hp
    exact ⟨by rw [upd_ne (lop p hp)]; exact w, z⟩
  · obtain ⟨p, ws, h1, h2, h3⟩ := R.own i xs e
    exact ⟨p, ws, h1, by rw [upd_ne (fun z => ha i xs (.inl e) (by rw [h1, z]))]; exact h2, h3⟩
  · obtain ⟨p, ws, g0, h1, h2, h3⟩ := R.lent i xs e
    exact ⟨p, ws, g0, h1, by rw [upd_ne (lop p g0)]; exact h2, h3⟩
end

/-! ### comprehensions -/
def lcL (tg : Tg) (vs : List Nat) (tt : EB) (te : EE) : List PyData → Sls → Option (List PyData × Sls)
  | [], S => some ([], S)
  | d :: ds, S => match bindT tg d S with
    | none => none
    | some S1 => match tt S1 with
      | none => none
      | some (false, S2) => lcL tg vs tt te ds (wipeS S2 vs)
      | some (true, S2) => match te S2 with
        | none => none
        | some (y, S3) => match lcL tg vs tt te ds (wipeS S3 vs) with
          | none => none
          | some (ys, S4) => some (y :: ys, S4)
def eLc (fi : EL) (tg : Tg) (vs : List Nat) (tt : EB) (te : EE) : EL := fun S => match fi S with
  | none => none
  | some (items, S1) => if okWipe S1 vs = true ∧ items.length ≤ 1000000 then match lcL tg vs tt te items (wipeS S1 vs) with
      | none => none
      | some (ys, S2) => some (ys, restore S1 S2 vs)
    else none
def bYes : EB := fun S => some (true, S)
theorem dYes {K : PySem.W.Frag} : ∀ σ H Q, tDT K bYes σ H Q → tYes σ H Q := by
  rintro σ H Q ⟨C, Z, S, b, S', R, e, q⟩
  cases e
  exact q H Z (Same.refl _) R
theorem _root_.L2.PTs.imp {X : Cx} {ifs : List Expr} {t t' : TT} (h : PTs X ifs t) (i : ∀ σ H Q, t' σ H Q → t σ H Q) : PTs X ifs t' := ⟨fun pins s σ H Q I hw => h.run pins s σ H Q I (i σ H Q hw)⟩
theorem dts_nil {X : Cx} : PTs X [] (tDT X.K bYes) := pts_nil.imp dYes
theorem dts_one {X : Cx} {c : Expr} {f : EB} (h : PT X c (tDT X.K f)) : PTs X [c] (tDT X.K f) := pts_one h

theorem dLc {K : PySem.W.Frag} {fi : EL} {tg : Tg} {vs : List Nat} {tt : EB} {te : EE} (hvs : ∀ j ∈ slT tg, j ∈ vs) : ∀ σ H Q, tF K (eLc fi tg vs tt te) σ H Q → tLc (tDI K fi) (tG K tg) (tDT K tt) (tD K te) vs σ H Q := by
  rintro σ H Q ⟨C, Z, S, ds, S', R, e, q⟩
  unfold eLc at e
  split at e
  · cases e
  · next items S1 h1 =>
    split at e
    · next hok =>
      obtain ⟨okw, hlen⟩ := hok
      split at e
      · cases e
      · next ys S2 h2 =>
        cases e
        refine ⟨C, Z, S, items, S1, R, h1, fun J H1 Z1 sm1 R1 hw D hD => ?_⟩
        obtain ⟨G, Y, w, hG, hY⟩ := hw
        have hz : Z1 D = none := Same.none R1.sub hD
        have h0 : C.H0 D = none := R1.h0 hD
        have ha : Apart σ S1 D := R1.apart hD
        refine lc_it w (fun i H => ∃ Zi Si acc accV, Same Z1 Zi ∧ Rel K C Zi (L2.wipe σ vs) H Si ∧ H D = some (.lst accV) ∧ Zi D = none ∧ Apart (L2.wipe σ vs) Si D ∧ DqAll K Zi accV acc ∧ accV.length ≤ i ∧
          ∃ rest, lcL tg vs tt te (items.drop i) Si = some (rest, S2) ∧ acc ++ rest = ds) ?_ ?_ ?_ ?_
        · exact ⟨Z1, wipeS S1 vs, [], [], Same.refl _, (R1.newU hD).wipe vs, upd_same, hz, ha.wipe vs, .nil, Nat.le_refl _, ds, h2, rfl⟩
        · rintro i H - ⟨Zi, Si, acc, accV, sm, Ri, _⟩
          exact hG H (sm.trans Ri.sub)
        · rintro i x H H' hi ⟨Zi, Si, acc, accV, sm, Ri, hDi, hzi, hai, hacc, hln, rest, hrest, happ⟩ hy
          obtain ⟨d, hd, hyd⟩ := hY i H x H' hi (sm.trans Ri.sub) hy
          have hdrop : items.drop i = d :: items.drop (i + 1) := by
            rw [List.drop_eq_getElem_cons hi]
            rw [List.getElem?_eq_getElem hi] at hd
            rw [Option.some.inj hd]
          rw [hdrop] at hrest
          -- the item, still
          have item : ∃ Zk, Same Zi Zk ∧ Rel K C Zk (L2.wipe σ vs) H' Si ∧ H' D = some (.lst accV) ∧ Zk D = none ∧ Dq K Zk x d := by
            rcases hyd with ⟨rfl, hq⟩ | ⟨T, us, es, rfl, hT, rfl, rfl, hq⟩
            · exact ⟨Zi, Same.refl _, Ri, hDi, hzi, dq_mono sm hq⟩
            · have hne : D ≠ T := ne_of_none hDi hT
              exact ⟨upd Zi T (.tup us), Ri.newZ hT, Ri.new hT, by rw [upd_ne hne]; exact hDi, by rw [upd_ne hne]; exact hzi, dq_tup Ri hT (dqAll_mono sm hq)⟩
          obtain ⟨Zk, smk, Rk, hDk, hzk, hx⟩ := item
          rw [lcL] at hrest
          split at hrest
          · cases hrest
          · next Sb hb =>
            obtain ⟨C', RC, hq0, _, back⟩ := Rk.guard hDk hzk h0 hai
            have nextTurn : ∀ (Z4 : Hp) (σ2 : L2.St) (H4 : Hp) (S4 : Sls) (acc2 : List PyData) (accV2 : List V) (rest2 : List PyData), Same Zk Z4 → Rel K C' Z4 σ2 H4 S4 → L2.wipe σ2 vs = L2.wipe σ vs → DqAll K Z4 accV2 acc2 → accV2.length ≤ i + 1 →
                lcL tg vs tt te (items.drop (i + 1)) (wipeS S4 vs) = some (rest2, S2) → acc2 ++ rest2 = ds → ∀ H5, H5 = upd H4 D (.lst accV2) →
                ∃ Zi Si acc accV, Same Z1 Zi ∧ Rel K C Zi (L2.wipe σ vs) H5 Si ∧ H5 D = some (.lst accV) ∧ Zi D = none ∧ Apart (L2.wipe σ vs) Si D ∧ DqAll K Zi accV acc ∧ accV.length ≤ i + 1 ∧
                  ∃ rest, lcL tg vs tt te (items.drop (i + 1)) Si = some (rest, S2) ∧ acc ++ rest = ds := fun Z4 σ2 H4 S4 acc2 accV2 rest2 sm4 R4 hw4 ha4 hl4 hr4 happ4 H5 hH5 => by
              obtain ⟨R5, d5, z5, a5⟩ := back Z4 σ2 H4 S4 sm4 R4
              subst hH5
              refine ⟨Z4, wipeS S4 vs, acc2, accV2, sm.trans (smk.trans sm4), ?_, upd_same, z5, ?_, ha4, hl4, rest2, hr4, happ4⟩
              · rw [← hw4]
                exact (R5.updFree z5 h0 a5).wipe vs
              · rw [← hw4]
                exact a5.wipe vs
            refine tG_ok tg RC hx hb fun σ2 R2 l2 s2 => ?_
            have hw2 : L2.wipe σ2 vs = L2.wipe σ vs := (wipe_same l2 fun j hj => s2 j fun m => hj (hvs j m)).trans (wipe_wipe σ vs)
            refine ⟨hw2, ?_⟩
            split at hrest
            · cases hrest
            · next S3 ht =>
              refine ⟨C', Zk, Sb, false, S3, R2, ht, fun H3 Z3 sm3 R3 => iteF ?_⟩
              obtain ⟨R5, d5, z5, a5⟩ := back Z3 σ2 H3 S3 sm3 R3
              exact nextTurn Z3 σ2 H3 S3 acc accV rest sm3 R3 hw2 (dqAll_mono (smk.trans sm3) hacc) (Nat.le_succ_of_le hln) hrest happ H3 (by
                funext b
                by_cases hbD : b = D
                · rw [hbD, upd_same, d5]
                · rw [upd_ne hbD])
            · next S3 ht =>
              split at hrest
              · cases hrest
              · next y S4 he =>
                split at hrest
                · cases hrest
                · next ys2 S5 hrec =>
                  cases hrest
                  refine ⟨C', Zk, Sb, true, S3, R2, ht, fun H3 Z3 sm3 R3 => iteT ⟨C', Z3, S3, y, S4, R3, he, fun v H4 Z4 sm4 R4 hv => ?_⟩⟩
                  obtain ⟨R5, d5, z5, a5⟩ := back Z4 σ2 H4 S4 (sm3.trans sm4) R4
                  refine ⟨accV, d5, Nat.lt_of_lt_of_le (show accV.length < 1000000 by omega) million, ?_⟩
                  exact nextTurn Z4 σ2 H4 S4 (acc ++ [y]) (accV ++ [v]) ys2 (sm3.trans sm4) R4 hw2 (DqAll.append (dqAll_mono (smk.trans (sm3.trans sm4)) hacc) (.cons hv .nil)) (by rw [List.length_append, List.length_singleton]; omega) hrec (by rw [List.append_assoc]; exact happ) _ rfl
        · rintro H ⟨Zi, Si, acc, accV, sm, Ri, hDi, hzi, hai, hacc, hln, rest, hrest, happ⟩
          have hl2 : Si.length = S1.length := by rw [← Ri.len, wipe_length, R1.len]
          rw [List.drop_length, lcL] at hrest
          cases hrest
          rw [List.append_nil] at happ
          subst happ
          exact q D accV H Zi (sm1.trans sm) (R1.restore okw sm Ri) hDi hzi h0 (Apart.restore okw hl2 hai) hacc
    · cases e
section
variable {X : Cx}
theorem df_lc {elt target iter : Expr} {ifs : List Expr} {scope : Scope} {own : List (Str × Nat)} {pos : Pos} {fi : EL} {tg : Tg} {tt : EB} {te : EE} (hN : X.N.Nodup) (hi : PI X target iter (tDI X.K fi)) (ok : BlkOk X.N X.env.scope scope own) (hvs : ∀ j ∈ slT tg, j ∈ own.map (·.2))
    (hg : ∀ (s : Shared) (H : Hp) (C : Addr) (cl : List (Str × Addr)) (fp : List Addr), PG (X.blk s H scope (compEnvC scope cl C X.env) fp) target (tG X.K tg)) (ht : ∀ (s : Shared) (H : Hp) (C : Addr) (cl : List (Str × Addr)) (fp : List Addr), PTs (X.blk s H scope (compEnvC scope cl C X.env) fp) ifs (tDT X.K tt))
    (he : ∀ (s : Shared) (H : Hp) (C : Addr) (cl : List (Str × Addr)) (fp : List Addr), PE (X.blk s H scope (compEnvC scope cl C X.env) fp) elt (tD X.K te)) (hc : X.calm = true := by rfl) (hs : ∀ x, foldedSetIterable iter X.env x = pure x := by intro _; rfl) :
    PE X (.ListComp elt [⟨target, iter, ifs, 0⟩] scope pos) (tF X.K (eLc fi tg (own.map (·.2)) tt te)) :=
  (pe_lc hc hN hi ok hg ht he hs).imp (dLc hvs)
end
end DL

/-! DL5: statements, loops, by data. -/
namespace DL
open PySem PySem.Spec PyProof.Rows L2

inductive Out where
  | nx (S : Sls)
  | rt (d : PyData) (S : Sls)
  | rtF (xs : List PyData) (S : Sls)
  | bk (S : Sls)
  | ct (S : Sls)
abbrev SF := Sls → Option Out
def OutOk (K : PySem.W.Frag) (C : Fc) (Z : Hp) (D : Ends) : Out → Prop
  | .nx S => ∀ σ' H' Z', Same Z Z' → Rel K C Z' σ' H' S → D.nx σ' H'
  | .rt d S => ∀ v σ' H' Z', Same Z Z' → Rel K C Z' σ' H' S → Dq K Z' v d → D.rt v H'
  | .rtF xs S => ∀ p ws σ' H' Z', Same Z Z' → Rel K C Z' σ' H' S → H' p = some (.lst ws) → Z' p = none → C.H0 p = none → DqAll K Z' ws xs → D.rt (.ref p) H'
  | .bk S => ∀ σ' H' Z', Same Z Z' → Rel K C Z' σ' H' S → D.bk σ' H'
  | .ct S => ∀ σ' H' Z', Same Z Z' → Rel K C Z' σ' H' S → D.ct σ' H'
theorem OutOk.mono {K : PySem.W.Frag} {C : Fc} {Z Z1 : Hp} {D : Ends} (sm : Same Z Z1) : ∀ {o : Out}, OutOk K C Z D o → OutOk K C Z1 D o
  | .nx S, h => fun σ' H' Z' s => h σ' H' Z' (sm.trans s)
  | .rt d S, h => fun v σ' H' Z' s => h v σ' H' Z' (sm.trans s)
  | .rtF xs S, h => fun p ws σ' H' Z' s => h p ws σ' H' Z' (sm.trans s)
  | .bk S, h => fun σ' H' Z' s => h σ' H' Z' (sm.trans s)
  | .ct S, h => fun σ' H' Z' s => h σ' H' Z' (sm.trans s)
def tDS (K : PySem.W.Frag) (g : SF) : TS := fun D σ H => ∃ C Z S o, Rel K C Z σ H S ∧ g S = some o ∧ OutOk K C Z D o
theorem _root_.L2.PS.imp {X : Cx} {st : Stmt} {t t' : TS} (h : PS X st t) (i : ∀ D σ H, t' D σ H → t D σ H) : PS X st t' := ⟨fun pins s σ H D I hw => h.run pins s σ H D I (i D σ H hw)⟩
theorem _root_.L2.PSs.imp {X : Cx} {st : List Stmt} {t t' : TS} (h : PSs X st t) (i : ∀ D σ H, t' D σ H → t D σ H) : PSs X st t' := ⟨fun pins s σ H D I hw => h.run pins s σ H D I (i D σ H hw)⟩

def sNil : SF := fun S => some (.nx S)
def sSeq (f g : SF) : SF := fun S => match f S with
  | some (.nx S1) => g S1
  | o => o
def sSetD (i : Nat) (f : EE) : SF := fun S => match f S with
  | some (d, S1) => some (.nx (S1.set i (.dat d)))
  | none => none
def sSetF (i : Nat) (f : EL) : SF := fun S => match f S with
  | some (xs, S1) => some (.nx (S1.set i (.own xs)))
  | none => none
def sSetT (tg : Tg) (f : EE) : SF := fun S => match f S with
  | some (d, S1) => match bindT tg d S1 with
    | some S2 => some (.nx S2)
    | none => none
  | none => none
def sIf (t : EB) (f g : SF) : SF := fun S => match t S with
  | some (true, S1) => f S1
  | some (false, S1) => g S1
  | none => none
def sRet (f : EE) : SF := fun S => match f S with
  | some (d, S1) => some (.rt d S1)
  | none => none
def sRetF (f : EL) : SF := fun S => match f S with
  | some (xs, S1) => some (.rtF xs S1)
  | none => none
def sRetN : SF := fun S => some (.rt .none S)
def sBreak : SF := fun S => some (.bk S)
def sCont : SF := fun S => some (.ct S)
def sExpr (f : EE) : SF := fun S => match f S with
  | some (_, S1) => some (.nx S1)
  | none => none
def sNever : SF := fun _ => none
def putD (S : Sls) (j : Nat) (xs : List PyData) : Sls := match S[j]? with
  | some (.own _) => S.set j (.own xs)
  | some (.lent _) => S.set j (.lent xs)
  | _ => S
def sAppend (j : Nat) (f : EE) : SF := fun S => match contD S j with
  | none => none
  | some _ => match f S with
    | none => none
    | some (d, S1) => match contD S1 j with
      | none => none
      | some xs => if xs.length < 1000000 then some (.nx (putD S1 j (xs ++ [d]))) else none
def sExtend (j : Nat) (f : EE) : SF := fun S => match contD S j with
  | none => none
  | some _ => match f S with
    | some (.list ds, S1) => match contD S1 j with
      | none => none
      | some xs => if xs.length + ds.length ≤ 1000000 then some (.nx (putD S1 j (xs ++ ds))) else none
    | _ => none
def sSetIx (j : Nat) (fi fv : EE) : SF := fun S => match fv S with
  | none => none
  | some (d, S1) => match contD S1 j with
    | none => none
    | some _ => match fi S1 with
      | some (.int k, S2) => match contD S2 j with
        | none => none
        | some xs => match ixN xs.length k with
          | none => none
          | some n => some (.nx (putD S2 j (xs.set n d)))
      | _ => none

section
variable {K : PySem.W.Frag} {C : Fc} {Z : Hp} {σ : L2.St} {H : Hp} {S : Sls}
theorem Rel.put (R : Rel K C Z σ H S) {j : Nat} {xs ys : List PyData} {p : Addr} {us : List V} (h : contD S j = some xs) (hp : σ[j]? = some (some (.ref p))) (hu : DqAll K Z us ys) : Rel K C Z σ (upd H p (.lst us)) (putD S j ys) := by
  unfold contD at h
  unfold putD
  split at h
  · next zs e => first | (simp only [e]; exact R.writeOwn e hp hu) | exact R.writeOwn e hp hu
  · next zs e => first | (simp only [e]; exact R.writeLent e hp hu) | exact R.writeLent e hp hu
  · cases h
end

section
variable {X : Cx} {st : Stmt} {rest : List Stmt} {e : Expr} {pos pos' : Pos}
theorem dss_nil : PSs X [] (tDS X.K sNil) := pss_nil.imp fun D σ H z => by
  obtain ⟨C, Z, S, o, R, e, q⟩ := z
  cases e
  exact q σ H Z (Same.refl _) R
theorem dss_cons {f g : SF} (h1 : PS X st (tDS X.K f)) (h2 : PSs X rest (tDS X.K g)) : PSs X (st :: rest) (tDS X.K (sSeq f g)) := by
  refine (pss_cons h1 h2).imp fun D σ H z => ?_
  obtain ⟨C, Z, S, o, R, e, q⟩ := z
  unfold sSeq at e
  split at e
  · next S1 h =>
    exact ⟨C, Z, S, .nx S1, R, h, fun σ' H' Z' sm R' => ⟨C, Z', S1, o, R', e, q.mono sm⟩⟩
  · next hne =>
    refine ⟨C, Z, S, o, R, e, ?_⟩
    cases o with
    | nx S1 => exact absurd e (hne S1)
    | rt d S1 => exact q
    | rtF xs S1 => exact q
    | bk S1 => exact q
    | ct S1 => exact q
theorem dss_one {f : SF} (h1 : PS X st (tDS X.K f)) : PSs X [st] (tDS X.K f) := pss_one h1
theorem ds_set {i : Nat} {x : Str} {f : EE} (hN : X.N.Nodup) (h : PE X e (tD X.K f)) (hi : X.N[i]? = some x := by rfl) (hx : Loc X.env.scope x := by first | exact Or.inl rfl | exact Or.inr rfl) (hs : swapsWith e (some (.Name x pos')) pos.line X.env = pure false := by rfl) (hf : X.fn x = true ∨ X.env.scope.names.lookup x = some .local := by first | exact .inl rfl | exact .inr rfl) :
    PS X (.Assign [.Name x pos'] e pos) (tDS X.K (sSetD i f)) := by
  refine (ps_set hN hi hx h hs hf).imp fun D σ H z => ?_
  obtain ⟨C, Z, S, o, R, e1, q⟩ := z
  unfold sSetD at e1
  split at e1
  · next d S1 h1 =>
    cases e1
    exact ⟨C, Z, S, d, S1, R, h1, fun v H1 Z1 sm R1 hv => q _ H1 Z1 sm (R1.setDat hv)⟩
  · cases e1
theorem setF_in {K : PySem.W.Frag} {i : Nat} {f : EL} : ∀ D σ H, tDS K (sSetF i f) D σ H → tF K f σ H (fun x H1 => gName i x σ H1 D.nx) := by
  rintro D σ H ⟨C, Z, S, o, R, e1, q⟩
  unfold sSetF at e1
  split at e1
  · next xs S1 h1 =>
    cases e1
    exact ⟨C, Z, S, xs, S1, R, h1, fun p ws H1 Z1 sm R1 hp hz h0 ha hd => q _ H1 Z1 sm (R1.setOwn hp hd hz h0 ha)⟩
  · cases e1
theorem ds_setF {i : Nat} {x : Str} {f : EL} (hN : X.N.Nodup) (h : PE X e (tF X.K f)) (hi : X.N[i]? = some x := by rfl) (hx : Loc X.env.scope x := by first | exact Or.inl rfl | exact Or.inr rfl) (hs : swapsWith e (some (.Name x pos')) pos.line X.env = pure false := by rfl) (hf : X.fn x = true ∨ X.env.scope.names.lookup x = some .local := by first | exact .inl rfl | exact .inr rfl) :
    PS X (.Assign [.Name x pos'] e pos) (tDS X.K (sSetF i f)) :=
  (ps_set hN hi hx h hs hf).imp fun D σ H z => setF_in D σ H z
theorem ds_setLc {i : Nat} {y : Str} {py spos : Pos} {elt target iter : Expr} {ifs : List Expr} {scope : Scope} {own : List (Str × Nat)} {fi : EL} {tg : Tg} {tt : EB} {te : EE} (hN : X.N.Nodup) (hi : PI X target iter (tDI X.K fi)) (ok : BlkOk X.N X.env.scope scope own) (hvs : ∀ j ∈ slT tg, j ∈ own.map (·.2))
    (hg : ∀ (s : Shared) (H : Hp) (C : Addr) (cl : List (Str × Addr)) (fp : List Addr), PG (X.blk s H scope (compEnvC scope cl C X.env) fp) target (tG X.K tg)) (ht : ∀ (s : Shared) (H : Hp) (C : Addr) (cl : List (Str × Addr)) (fp : List Addr), PTs (X.blk s H scope (compEnvC scope cl C X.env) fp) ifs (tDT X.K tt))
    (he : ∀ (s : Shared) (H : Hp) (C : Addr) (cl : List (Str × Addr)) (fp : List Addr), PE (X.blk s H scope (compEnvC scope cl C X.env) fp) elt (tD X.K te)) (hsw : swapsWith (.ListComp elt [⟨target, iter, ifs, 0⟩] scope pos) (some (.Name y py)) spos.line X.env = pure true)
    (hy : X.N[i]? = some y := by rfl) (hyl : X.env.scope.names.lookup y = some .local := by rfl) (hc : X.calm = true := by rfl) (hs : ∀ x, foldedSetIterable iter X.env x = pure x := by intro _; rfl) :
    PS X (.Assign [.Name y py] (.ListComp elt [⟨target, iter, ifs, 0⟩] scope pos) spos) (tDS X.K (sSetF i (eLc fi tg (own.map (·.2)) tt te))) :=
  (ps_setLc hc hN hy hyl hsw hi ok hg ht he hs).imp fun D σ H z => dLc hvs σ H _ (setF_in D σ H z)
theorem ds_setT {tge : Expr} {tg : Tg} {f : EE} (h : PE X e (tD X.K f)) (hg : PG X tge (tG X.K tg)) (hs : swapsWithSole [tge] e pos.line X.env = pure false := by rfl) (hw : swappedStores [tge] e X.env = pure none := by rfl) (h1 : (assignEach [tge] X.env).map (·.2) = [assign tge X.env] := by rfl) :
    PS X (.Assign [tge] e pos) (tDS X.K (sSetT tg f)) := by
  refine (ps_asg h hg hs hw h1).imp fun D σ H z => ?_
  obtain ⟨C, Z, S, o, R, e1, q⟩ := z
  unfold sSetT at e1
  split at e1
  · next d S1 h1 =>
    split at e1
    · next S2 h2 =>
      cases e1
      exact ⟨C, Z, S, d, S1, R, h1, fun v H1 Z1 sm R1 hv => tG_ok tg R1 hv h2 fun σ' R' _ _ => q σ' H1 Z1 sm R'⟩
    · cases e1
  · cases e1
theorem ds_if {c : Expr} {a b : List Stmt} {t : EB} {f g : SF} (hc : PT X c (tDT X.K t)) (ha : PSs X a (tDS X.K f)) (hb : PSs X b (tDS X.K g)) : PS X (.If c a b pos) (tDS X.K (sIf t f g)) := by
  refine (ps_if hc ha hb).imp fun D σ H z => ?_
  obtain ⟨C, Z, S, o, R, e1, q⟩ := z
  unfold sIf at e1
  split at e1
  · next S1 h1 => exact ⟨C, Z, S, true, S1, R, h1, fun H1 Z1 sm R1 => iteT ⟨C, Z1, S1, o, R1, e1, q.mono sm⟩⟩
  · next S1 h1 => exact ⟨C, Z, S, false, S1, R, h1, fun H1 Z1 sm R1 => iteF ⟨C, Z1, S1, o, R1, e1, q.mono sm⟩⟩
  · cases e1
theorem ds_ret {f : EE} (h : PE X e (tD X.K f)) : PS X (.Return (some e) pos) (tDS X.K (sRet f)) := by
  refine (ps_ret h).imp fun D σ H z => ?_
  obtain ⟨C, Z, S, o, R, e1, q⟩ := z
  unfold sRet at e1
  split at e1
  · next d S1 h1 =>
    cases e1
    exact ⟨C, Z, S, d, S1, R, h1, fun v H1 Z1 sm R1 hv => q v σ H1 Z1 sm R1 hv⟩
  · cases e1
theorem ds_retF {f : EL} (h : PE X e (tF X.K f)) : PS X (.Return (some e) pos) (tDS X.K (sRetF f)) := by
  refine (ps_ret h).imp fun D σ H z => ?_
  obtain ⟨C, Z, S, o, R, e1, q⟩ := z
  unfold sRetF at e1
  split at e1
  · next xs S1 h1 =>
    cases e1
    exact ⟨C, Z, S, xs, S1, R, h1, fun p ws H1 Z1 sm R1 hp hz h0 ha hd => q p ws σ H1 Z1 sm R1 hp hz h0 hd⟩
  · cases e1
theorem ds_retN : PS X (.Return none pos) (tDS X.K sRetN) := ps_retN.imp fun D σ H z => by
  obtain ⟨C, Z, S, o, R, e1, q⟩ := z
  cases e1
  exact q .non σ H Z (Same.refl _) R .non
theorem ds_pass : PS X (.Pass pos) (tDS X.K sNil) := ps_pass.imp fun D σ H z => by
  obtain ⟨C, Z, S, o, R, e1, q⟩ := z
  cases e1
  exact q σ H Z (Same.refl _) R
theorem ds_break : PS X (.Break pos) (tDS X.K sBreak) := ps_break.imp fun D σ H z => by
  obtain ⟨C, Z, S, o, R, e1, q⟩ := z
  cases e1
  exact q σ H Z (Same.refl _) R
theorem ds_continue : PS X (.Continue pos) (tDS X.K sCont) := ps_continue.imp fun D σ H z => by
  obtain ⟨C, Z, S, o, R, e1, q⟩ := z
  cases e1
  exact q σ H Z (Same.refl _) R
theorem ds_never : PS X st (tDS X.K sNever) := ps_never.imp fun D σ H z => by
  obtain ⟨C, Z, S, o, R, e1, q⟩ := z
  cases e1
theorem ds_expr {f : EE} (h : PE X e (tD X.K f)) (hs : swapsWith e none pos.line X.env = pure false := by rfl) : PS X (.Expr e pos) (tDS X.K (sExpr f)) := by
  refine (ps_expr h hs).imp fun D σ H z => ?_
  obtain ⟨C, Z, S, o, R, e1, q⟩ := z
  unfold sExpr at e1
  split at e1
  · next d S1 h1 =>
    cases e1
    exact ⟨C, Z, S, d, S1, R, h1, fun v H1 Z1 sm R1 hv => q σ H1 Z1 sm R1⟩
  · cases e1
/-! ### methods of owned lists, x[i] = v -/
theorem ty_list {K : PySem.W.Frag} {H : Hp} {p : Addr} {ws : List V} (h : H p = some (.lst ws)) : tyV K "list" (.ref p) H := .inl ⟨rfl, _, .inl (.inl h)⟩
theorem ds_append (j : Nat) {x : Str} {px apos cpos : Pos} {f : EE} (h : PE X e (tD X.K f)) (hN : X.N[j]? = some x := by rfl) (hv : Vis X.env.scope x := by first | exact Or.inl rfl | exact Or.inr (Or.inl rfl) | exact Or.inr (Or.inr rfl))
    (hd : (x == ("__debug__" : Str)) = false := by decide) (hcd : (x == ("__classdict__" : Str)) = false := by decide) (hs : swapsWith (.Call (.Attribute (.Name x px) "append" apos) [e] [] cpos) none pos.line X.env = pure false := by rfl)
    (hse : starEach [e] X.env = (false, eval e X.env) :: starEach [] X.env := by rfl) (hbase : attributeBase (.Name x px) "append" X.env (eval (.Name x px) X.env) = eval (.Name x px) X.env := by rfl)
    (hfew : ((backTo cpos (starEach [e] X.env)).all (fun x => !x.1) && (backToKw cpos (keywordEach [] X.env)).all (fun x => x.1.isSome) && decide ([e].length + ([] : List Keyword).length + (if ([] : List Keyword).isEmpty then 0 else 1) < 30)) = true := by rfl) (hline : (apos.endLine == cpos.line) = true := by rfl) :
    PS X (.Expr (.Call (.Attribute (.Name x px) "append" apos) [e] [] cpos) pos) (tDS X.K (sAppend j f)) := by
  refine (ps_expr (pe_bm PySem.F.plainAttrs_list PySem.F.slot_list_append PySem.F.type_list_append mt_append (pe_var hN hv hd hcd) (pa_cons h pa_nil hse) hbase hfew hline hse) hs).imp fun D σ H z => ?_
  obtain ⟨C, Z, S, o, R, e1, q⟩ := z
  unfold sAppend at e1
  split at e1
  · cases e1
  · next xs0 h0 =>
    split at e1
    · cases e1
    · next d S1 h1 =>
      split at e1
      · cases e1
      · next xs h2 =>
        split at e1
        · next hl =>
          cases e1
          obtain ⟨p, ws0, g1, g2, _⟩ := R.cont h0
          refine ⟨.ref p, g1, ty_list g2, C, Z, S, d, S1, R, h1, fun v H1 Z1 sm R1 hv => ?_⟩
          obtain ⟨p', ws, k1, k2, k3⟩ := R1.cont h2
          rw [g1] at k1
          cases k1
          refine ⟨p, ws, v, rfl, rfl, k2, ?_, q σ _ Z1 sm (R1.put h2 g1 (DqAll.append k3 (.cons hv .nil)))⟩
          rw [DqAll.length k3]
          exact Nat.lt_of_lt_of_le hl million
        · cases e1
/-- extend by a list -/
def rExtR : V → List V → Hp → VK → Prop := fun x vs H Q => ∃ l b xs zs, x = .ref l ∧ vs = [.ref b] ∧ H l = some (.lst xs) ∧ Rd H b (.lst zs) ∧ xs.length + zs.length ≤ sizeLine ∧ Q .non (upd H l (.lst (xs ++ zs)))
theorem mt_extR : MtM X "list.extend" rExtR := by
  intro pins s σ H x vs v us Q I rx rv h
  obtain ⟨l, b, xs, zs, rfl, rfl, hH, hB, hz, q⟩ := h
  cases rx
  obtain ⟨u, rfl, ru⟩ := rv.one
  cases ru
  obtain ⟨z1, i1, n1, r1, hl1, e1⟩ := I.lstM hH
  obtain ⟨z2, i2, n2, r2, e2⟩ := hB.ok I.hok
  have hl2 := r2.length
  have hsz : i1.toArray.size + i2.toArray.size ≤ sizeLine := by rw [List.size_toArray, List.size_toArray, ← hl1, ← hl2]; exact hz
  have hlong : ¬ (!i1.toArray.isEmpty && Builtin.List.listTooLong (i1.toArray.size + i2.toArray.size)) = true := by rw [notLongL hsz, Bool.and_false]; exact Bool.false_ne_true
  refine call_meets F.slot_list_extend ⟨_, e1, rfl⟩ F.entry_list_extend (F.args_list_extend_2 _ _) (AutoSeq1.list_extend_list_list_0 l i1.toArray n1 b i2.toArray n2 hlong (by rw [List.size_toArray, ← hl1]; exact z1) (by omega)) ⟨e1, e2, ?_⟩
  exact ⟨.non, _, I.lset (its' := i1 ++ i2) hH e1 (by simp) (r1.append r2) (by rw [List.length_append]; exact hz), rfl, q⟩
theorem ds_extend (j : Nat) {x : Str} {px apos cpos : Pos} {f : EE} (h : PE X e (tD X.K f)) (hN : X.N[j]? = some x := by rfl) (hv : Vis X.env.scope x := by first | exact Or.inl rfl | exact Or.inr (Or.inl rfl) | exact Or.inr (Or.inr rfl))
    (hd : (x == ("__debug__" : Str)) = false := by decide) (hcd : (x == ("__classdict__" : Str)) = false := by decide) (hs : swapsWith (.Call (.Attribute (.Name x px) "extend" apos) [e] [] cpos) none pos.line X.env = pure false := by rfl)
    (hse : starEach [e] X.env = (false, eval e X.env) :: starEach [] X.env := by rfl) (hbase : attributeBase (.Name x px) "extend" X.env (eval (.Name x px) X.env) = eval (.Name x px) X.env := by rfl)
    (hfew : ((backTo cpos (starEach [e] X.env)).all (fun x => !x.1) && (backToKw cpos (keywordEach [] X.env)).all (fun x => x.1.isSome) && decide ([e].length + ([] : List Keyword).length + (if ([] : List Keyword).isEmpty then 0 else 1) < 30)) = true := by rfl) (hline : (apos.endLine == cpos.line) = true := by rfl) :
    PS X (.Expr (.Call (.Attribute (.Name x px) "extend" apos) [e] [] cpos) pos) (tDS X.K (sExtend j f)) := by
  refine (ps_expr (pe_bm PySem.F.plainAttrs_list PySem.F.slot_list_extend PySem.F.type_list_extend mt_extR (pe_var hN hv hd hcd) (pa_cons h pa_nil hse) hbase hfew hline hse) hs).imp fun D σ H z => ?_
  obtain ⟨C, Z, S, o, R, e1, q⟩ := z
  unfold sExtend at e1
  split at e1
  · cases e1
  · next xs0 h0 =>
    split at e1
    · next ds S1 h1 =>
      split at e1
      · cases e1
      · next xs h2 =>
        split at e1
        · next hl =>
          cases e1
          obtain ⟨p, ws0, g1, g2, _⟩ := R.cont h0
          refine ⟨.ref p, g1, ty_list g2, C, Z, S, _, S1, R, h1, fun v H1 Z1 sm R1 hv => ?_⟩
          obtain ⟨p', ws, k1, k2, k3⟩ := R1.cont h2
          rw [g1] at k1
          cases k1
          cases hv with
          | lst m1 m2 =>
            refine ⟨p, _, ws, _, rfl, rfl, k2, rd_mono R1.sub m1, ?_, q σ _ Z1 sm (R1.put h2 g1 (DqAll.append k3 m2))⟩
            rw [DqAll.length k3, DqAll.length m2]
            exact Nat.le_trans hl million
        · cases e1
    · cases e1
/-- x[i] = v, x an owned list -/
theorem ds_setIx (j : Nat) {x : Str} {px spos : Pos} {i v : Expr} {fi fv : EE} (hv' : PE X v (tD X.K fv)) (hi' : PE X i (tD X.K fi)) (hN : X.N[j]? = some x := by rfl) (hv : Vis X.env.scope x := by first | exact Or.inl rfl | exact Or.inr (Or.inl rfl) | exact Or.inr (Or.inr rfl))
    (hd : (x == ("__debug__" : Str)) = false := by decide) (hcd : (x == ("__classdict__" : Str)) = false := by decide)
    (ha : ∀ u, assign (.Subscript (.Name x px) i spos) X.env u = (do
      let ov ← holding [u] (eval (.Name x px) X.env)
      let iv ← holding [u, ov] (eval i X.env)
      standAt spos
      holding [u, ov, iv] (setItem ov iv u)
      release [u, ov, iv] []) := by intro _; rfl)
    (hs : swapsWithSole [.Subscript (.Name x px) i spos] v pos.line X.env = pure false := by rfl) (hw : swappedStores [.Subscript (.Name x px) i spos] v X.env = pure none := by rfl) (h1 : (assignEach [.Subscript (.Name x px) i spos] X.env).map (·.2) = [assign (.Subscript (.Name x px) i spos) X.env] := by rfl) :
    PS X (.Assign [.Subscript (.Name x px) i spos] v pos) (tDS X.K (sSetIx j fi fv)) := by
  refine (ps_asg hv' (pg_sub (pe_var hN hv hd hcd) hi' set_list ha) hs hw h1).imp fun D σ H z => ?_
  obtain ⟨C, Z, S, o, R, e1, q⟩ := z
  unfold sSetIx at e1
  split at e1
  · cases e1
  · next d S1 h1 =>
    split at e1
    · cases e1
    · next xs0 h0 =>
      split at e1
      · next k S2 h2 =>
        split at e1
        · cases e1
        · next xs h3 =>
          split at e1
          · cases e1
          · next n h4 =>
            cases e1
            refine ⟨C, Z, S, d, S1, R, h1, fun w H1 Z1 sm R1 hw' => ?_⟩
            obtain ⟨p, ws0, g1, g2, _⟩ := R1.cont h0
            refine ⟨.ref p, g1, C, Z1, S1, _, S2, R1, h2, fun u H2 Z2 sm2 R2 hu => ?_⟩
            cases hu
            obtain ⟨p', ws, k1, k2, k3⟩ := R2.cont h3
            rw [g1] at k1
            cases k1
            refine ⟨p, ws, k, n, rfl, rfl, k2, by rw [DqAll.length k3]; exact h4, q σ _ Z2 (sm.trans sm2) (R2.put h3 g1 (DqAll.set (dq_mono sm2 hw') n k3))⟩
      · cases e1
/-! ### for, while -/
def forL (tg : Tg) (g : SF) : List PyData → Sls → Option Out
  | [], S => some (.nx S)
  | d :: ds, S => match bindT tg d S with
    | none => none
    | some S1 => match g S1 with
      | some (.nx S2) => forL tg g ds S2
      | some (.ct S2) => forL tg g ds S2
      | some (.bk S2) => some (.nx S2)
      | some (.rt r S2) => some (.rt r S2)
      | some (.rtF r S2) => some (.rtF r S2)
      | none => none
def sFor (fi : EL) (tg : Tg) (g : SF) : SF := fun S => match fi S with
  | none => none
  | some (items, S1) => forL tg g items S1
theorem ds_for {iter tge : Expr} {body : List Stmt} {fi : EL} {tg : Tg} {g : SF} (hi : PI X tge iter (tDI X.K fi)) (hg : PG X tge (tG X.K tg)) (hb : PSs X body (tDS X.K g)) (hp : PassesOwn (model X.prog X.w) X.A X.env X.xe := by exact PassesOwn.never) (hc : X.calm = true := by rfl) (hs : ∀ x, foldedSetIterable iter X.env x = pure x := by intro _; rfl) :
    PS X (.For tge iter body [] pos) (tDS X.K (sFor fi tg g)) := by
  refine (ps_for hp hc hi hg hb hs).imp fun D σ H z => ?_
  obtain ⟨C, Z, S, o, R, e1, q⟩ := z
  unfold sFor at e1
  split at e1
  · cases e1
  · next items S1 h1 =>
    refine ⟨C, Z, S, items, S1, R, h1, fun J H1 Z1 sm1 R1 hw => ?_⟩
    obtain ⟨G, Y, w, hG, hY⟩ := hw
    have q1 : OutOk X.K C Z1 D o := q.mono sm1
    refine for_it w (fun i σ H => ∃ Zi Si, Same Z1 Zi ∧ Rel X.K C Zi σ H Si ∧ forL tg g (items.drop i) Si = some o) ?_ ?_ ?_ ?_
    · exact ⟨Z1, S1, Same.refl _, R1, e1⟩
    · rintro i σ H - ⟨Zi, Si, sm, Ri, _⟩
      exact hG H (sm.trans Ri.sub)
    · rintro i x σ H H' hi ⟨Zi, Si, sm, Ri, hf⟩ hy
      obtain ⟨d, hd, hyd⟩ := hY i H x H' hi (sm.trans Ri.sub) hy
      have hdrop : items.drop i = d :: items.drop (i + 1) := by
        rw [List.drop_eq_getElem_cons hi]
        rw [List.getElem?_eq_getElem hi] at hd
        rw [Option.some.inj hd]
      rw [hdrop, forL] at hf
      have item : ∃ Zk, Same Zi Zk ∧ Rel X.K C Zk σ H' Si ∧ Dq X.K Zk x d := by
        rcases hyd with ⟨rfl, hq⟩ | ⟨T, us, es, rfl, hT, rfl, rfl, hq⟩
        · exact ⟨Zi, Same.refl _, Ri, dq_mono sm hq⟩
        · exact ⟨upd Zi T (.tup us), Ri.newZ hT, Ri.new hT, dq_tup Ri hT (dqAll_mono sm hq)⟩
      obtain ⟨Zk, smk, Rk, hx⟩ := item
      split at hf
      · cases hf
      · next Sb hb =>
        refine tG_ok tg Rk hx hb fun σ2 R2 _ _ => ?_
        have smz := sm.trans smk
        split at hf
        · next S2 hbd => exact ⟨C, Zk, Sb, .nx S2, R2, hbd, fun σ3 H3 Z3 sm3 R3 => ⟨Z3, S2, smz.trans sm3, R3, hf⟩⟩
        · next S2 hbd => exact ⟨C, Zk, Sb, .ct S2, R2, hbd, fun σ3 H3 Z3 sm3 R3 => ⟨Z3, S2, smz.trans sm3, R3, hf⟩⟩
        · next S2 hbd =>
          cases hf
          exact ⟨C, Zk, Sb, .bk S2, R2, hbd, fun σ3 H3 Z3 sm3 R3 => q1 σ3 H3 Z3 (smz.trans sm3) R3⟩
        · next r S2 hbd =>
          cases hf
          exact ⟨C, Zk, Sb, .rt r S2, R2, hbd, q1.mono smz⟩
        · next r S2 hbd =>
          cases hf
          exact ⟨C, Zk, Sb, .rtF r S2, R2, hbd, q1.mono smz⟩
        · cases hf
    · rintro σ H ⟨Zi, Si, sm, Ri, hf⟩
      rw [List.drop_length, forL] at hf
      cases hf
      exact q1 σ H Zi sm Ri
def whileL (c : EB) (g : SF) : Nat → Sls → Option Out
  | 0, _ => none
  | n + 1, S => match c S with
    | none => none
    | some (false, S1) => some (.nx S1)
    | some (true, S1) => match g S1 with
      | some (.nx S2) => whileL c g n S2
      | some (.ct S2) => whileL c g n S2
      | some (.bk S2) => some (.nx S2)
      | some (.rt r S2) => some (.rt r S2)
      | some (.rtF r S2) => some (.rtF r S2)
      | none => none
def sWhile (n : Nat) (c : EB) (g : SF) : SF := whileL c g n
theorem ds_while (n : Nat) {c : Expr} {body : List Stmt} {t : EB} {g : SF} (hc : PT X c (tDT X.K t)) (hb : PSs X body (tDS X.K g)) (hp : PassesOwn (model X.prog X.w) X.A X.env X.xe := by exact PassesOwn.never) : PS X (.While c body [] pos) (tDS X.K (sWhile n t g)) := by
  refine (ps_while hp hc hb).imp fun D σ H z => ?_
  obtain ⟨C, Z, S, o, R, e1, q⟩ := z
  refine ⟨fun m σ H => ∃ Zi Si, Same Z Zi ∧ Rel X.K C Zi σ H Si ∧ whileL t g m Si = some o, ⟨n, Z, S, Same.refl _, R, e1⟩, ?_⟩
  rintro m σ H ⟨Zi, Si, sm, Ri, hf⟩
  cases m with
  | zero => rw [whileL] at hf; cases hf
  | succ m =>
    rw [whileL] at hf
    split at hf
    · cases hf
    · next S1 hc1 =>
      cases hf
      exact ⟨C, Zi, Si, false, S1, Ri, hc1, fun H1 Z1 sm1 R1 => iteF (q σ H1 Z1 (sm.trans sm1) R1)⟩
    · next S1 hc1 =>
      refine ⟨C, Zi, Si, true, S1, Ri, hc1, fun H1 Z1 sm1 R1 => iteT ⟨fun σ' H' => ∃ Zi Si, Same Z Zi ∧ Rel X.K C Zi σ' H' Si ∧ whileL t g m Si = some o, fun σ' H' h' => ⟨m, Nat.lt_succ_self m, h'⟩, ?_⟩⟩
      have smz := sm.trans sm1
      split at hf
      · next S2 hbd => exact ⟨C, Z1, S1, .nx S2, R1, hbd, fun σ3 H3 Z3 sm3 R3 => ⟨Z3, S2, smz.trans sm3, R3, hf⟩⟩
      · next S2 hbd => exact ⟨C, Z1, S1, .ct S2, R1, hbd, fun σ3 H3 Z3 sm3 R3 => ⟨Z3, S2, smz.trans sm3, R3, hf⟩⟩
      · next S2 hbd =>
        cases hf
        exact ⟨C, Z1, S1, .bk S2, R1, hbd, fun σ3 H3 Z3 sm3 R3 => q σ3 H3 Z3 (smz.trans sm3) R3⟩
      · next r S2 hbd =>
        cases hf
        exact ⟨C, Z1, S1, .rt r S2, R1, hbd, q.mono smz⟩
      · next r S2 hbd =>
        cases hf
        exact ⟨C, Z1, S1, .rtF r S2, R1, hbd, q.mono smz⟩
      · cases hf
end
end DL

/-! DL6: several names at once; defs and their calls, by data. -/
namespace DL
open PySem PySem.Spec PyProof.Rows L2

/-! ### values that are data or new lists -/
def ownA : List V → List Sl → List Addr
  | .ref p :: vs, .own _ :: its => p :: ownA vs its
  | _ :: vs, _ :: its => ownA vs its
  | _, _ => []
inductive ItsOk (K : PySem.W.Frag) (C : Fc) (Z : Hp) (σ : L2.St) (H : Hp) (S : Sls) : List V → List Sl → Prop
  | nil : ItsOk K C Z σ H S [] []
  | consD {v : V} {d : PyData} {vs : List V} {its : List Sl} : Dq K Z v d → ItsOk K C Z σ H S vs its → ItsOk K C Z σ H S (v :: vs) (.dat d :: its)
  | consF {p : Addr} {ws : List V} {xs : List PyData} {vs : List V} {its : List Sl} : H p = some (.lst ws) → Z p = none → C.H0 p = none → Apart σ S p → DqAll K Z ws xs → p ∉ ownA vs its → ItsOk K C Z σ H S vs its → ItsOk K C Z σ H S (.ref p :: vs) (.own xs :: its)
abbrev EM := Sls → Option (List Sl × Sls)
def tDM (K : PySem.W.Frag) (f : EM) : TA := fun σ H Q => ∃ C Z S its S', Rel K C Z σ H S ∧ f S = some (its, S') ∧ ∀ vs H' Z', Same Z Z' → Rel K C Z' σ H' S' → ItsOk K C Z' σ H' S' vs its → Q vs H'
def mNil : EM := fun S => some ([], S)
def mConsD (f : EE) (g : EM) : EM := fun S => match f S with
  | none => none
  | some (d, S1) => match g S1 with
    | none => none
    | some (its, S2) => some (.dat d :: its, S2)
def mConsF (f : EL) (g : EM) : EM := fun S => match f S with
  | none => none
  | some (xs, S1) => match g S1 with
    | none => none
    | some (its, S2) => some (.own xs :: its, S2)
section
variable {K : PySem.W.Frag} {C C' : Fc} {Z : Hp} {σ : L2.St} {H : Hp} {S : Sls}
theorem ItsOk.weak {D : Addr} (h0 : ∀ q, C'.H0 q = none → C.H0 q = none ∧ q ≠ D) : ∀ {vs : List V} {its : List Sl}, ItsOk K C' Z σ H S vs its → ItsOk K C Z σ H S vs its ∧ D ∉ ownA vs its
  | _, _, .nil => ⟨.nil, fun h => by cases h⟩
  | _, _, .consD h t => by
    obtain ⟨a, b⟩ := ItsOk.weak h0 t
    refine ⟨.consD h a, ?_⟩
    rename_i v d vs its
    cases v <;> exact b
  | _, _, .consF h1 h2 h3 h4 h5 h6 t => by
    obtain ⟨a, b⟩ := ItsOk.weak h0 t
    refine ⟨.consF h1 h2 (h0 _ h3).1 h4 h5 h6 a, ?_⟩
    intro hm
    rcases List.mem_cons.mp hm with e | hm
    · exact (h0 _ h3).2 e.symm
    · exact b hm
theorem ItsOk.newU {p : Addr} {o : HO} (h : H p = none) : ∀ {vs : List V} {its : List Sl}, ItsOk K C Z σ H S vs its → ItsOk K C Z σ (upd H p o) S vs its
  | _, _, .nil => .nil
  | _, _, .consD h' t => .consD h' (ItsOk.newU h t)
  | _, _, .consF h1 h2 h3 h4 h5 h6 t => .consF (by rw [upd_ne (ne_of_none h1 h)]; exact h1) h2 h3 h4 h5 h6 (ItsOk.newU h t)
theorem ItsOk.length : ∀ {vs : List V} {its : List Sl}, ItsOk K C Z σ H S vs its → vs.length = its.length
  | _, _, .nil => rfl
  | _, _, .consD _ t => by rw [List.length_cons, List.length_cons, ItsOk.length t]
  | _, _, .consF _ _ _ _ _ _ t => by rw [List.length_cons, List.length_cons, ItsOk.length t]
def setV (σ : L2.St) : List Nat → List V → L2.St
  | [], _ => σ
  | _ :: _, [] => σ
  | i :: is, v :: vs => setV (σ.set i (some v)) is vs
def setS (S : Sls) : List Nat → List Sl → Sls
  | [], _ => S
  | _ :: _, [] => S
  | i :: is, t :: its => setS (S.set i t) is its
theorem ItsOk.move {i : Nat} {x : Option V} {sl : Sl} (R : Rel K C Z σ H S) (hsl : ∀ ys, sl ≠ .lent ys) : ∀ {vs : List V} {its : List Sl}, (∀ ys, sl = .own ys → ∃ p, x = some (.ref p) ∧ p ∉ ownA vs its) → ItsOk K C Z σ H S vs its → ItsOk K C Z (σ.set i x) H (S.set i sl) vs its
  | _, _, _, .nil => .nil
  | v :: vs, _ :: its, ho, .consD h t => .consD h (ItsOk.move R hsl (fun ys e => by
      obtain ⟨p, h1, h2⟩ := ho ys e
      refine ⟨p, h1, fun hm => h2 ?_⟩
      cases v <;> exact hm) t)
  | _, _, ho, .consF h1 h2 h3 h4 h5 h6 t => by
    refine .consF h1 h2 h3 (fun k zs hk e => ?_) h5 h6 (ItsOk.move R hsl (fun ys e => ?_) t)
    · rename_i p ws xs vs its
      rcases hk with hk | hk
      · rcases getElem?_set_cases hk with ⟨rfl, hl, e1⟩ | ⟨ne, e1⟩
        · obtain ⟨q, hx, hq⟩ := ho zs e1
          rw [hx, List.getElem?_set_self (by rw [R.len]; exact hl)] at e
          cases e
          exact hq (List.mem_cons_self ..)
        · rw [List.getElem?_set_ne ne] at e
          exact h4 k zs (.inl e1) e
      · rcases getElem?_set_cases hk with ⟨rfl, hl, e1⟩ | ⟨ne, e1⟩
        · exact hsl zs e1
        · rw [List.getElem?_set_ne ne] at e
          exact h4 k zs (.inr e1) e
    · obtain ⟨p, g1, g2⟩ := ho ys e
      exact ⟨p, g1, fun hm => g2 (List.mem_cons_of_mem _ hm)⟩
theorem Rel.setIts : ∀ (is : List Nat) {σ : L2.St} {S : Sls} {vs : List V} {its : List Sl}, Rel K C Z σ H S → ItsOk K C Z σ H S vs its → Rel K C Z (setV σ is vs) H (setS S is its)
  | [], _, _, _, _, R, _ => by rw [setV, setS]; exact R
  | i :: is, _, _, _, _, R, .nil => R
  | i :: is, _, _, _, _, R, .consD h t => Rel.setIts is (R.setDat h) (t.move R (by intro ys e; cases e) (by intro ys e; cases e))
  | i :: is, _, _, _, _, R, .consF h1 h2 h3 h4 h5 h6 t => Rel.setIts is (R.setOwn h1 h5 h2 h3 h4) (t.move R (by intro ys e; cases e) fun ys e => ⟨_, rfl, h6⟩)
end
section
variable {X : Cx} {e : Expr} {es : List Expr} {pos : Pos}
theorem dm_nil : PA X [] (tDM X.K mNil) := pa_nil.imp fun σ H Q z => by
  obtain ⟨C, Z, S, its, S', R, e1, q⟩ := z
  cases e1
  exact q [] H Z (Same.refl _) R .nil
theorem dm_consD {f : EE} {g : EM} (h : PE X e (tD X.K f)) (hr : PA X es (tDM X.K g)) (hs : starEach (e :: es) X.env = (false, eval e X.env) :: starEach es X.env := by rfl) : PA X (e :: es) (tDM X.K (mConsD f g)) := by
  refine (pa_cons h hr hs).imp fun σ H Q z => ?_
  obtain ⟨C, Z, S, its, S', R, e1, q⟩ := z
  unfold mConsD at e1
  split at e1
  · cases e1
  · next d S1 h1 =>
    split at e1
    · cases e1
    · next its' S2 h2 =>
      cases e1
      exact ⟨C, Z, S, d, S1, R, h1, fun v H1 Z1 sm R1 hv => ⟨C, Z1, S1, its', S', R1, h2, fun vs H2 Z2 sm2 R2 hvs => q (v :: vs) H2 Z2 (sm.trans sm2) R2 (.consD (dq_mono sm2 hv) hvs)⟩⟩
theorem dm_consF {f : EL} {g : EM} (h : PE X e (tF X.K f)) (hr : PA X es (tDM X.K g)) (hs : starEach (e :: es) X.env = (false, eval e X.env) :: starEach es X.env := by rfl) : PA X (e :: es) (tDM X.K (mConsF f g)) := by
  refine (pa_cons h hr hs).imp fun σ H Q z => ?_
  obtain ⟨C, Z, S, its, S', R, e1, q⟩ := z
  unfold mConsF at e1
  split at e1
  · cases e1
  · next xs S1 h1 =>
    split at e1
    · cases e1
    · next its' S2 h2 =>
      cases e1
      refine ⟨C, Z, S, xs, S1, R, h1, fun p ws H1 Z1 sm R1 hp hz h0 ha hd => ?_⟩
      obtain ⟨C', RC, hq, _, back⟩ := R1.guard hp hz h0 ha
      refine ⟨C', Z1, S1, its', S', RC, h2, fun vs H2 Z2 sm2 R2 hvs => ?_⟩
      obtain ⟨R3, d3, z3, a3⟩ := back Z2 σ H2 S' sm2 R2
      obtain ⟨ok, hn⟩ := ItsOk.weak hq hvs
      exact q (.ref p :: vs) H2 Z2 (sm.trans sm2) R3 (.consF d3 z3 h0 a3 (dqAll_mono sm2 hd) hn ok)
/-! a, b = e1, e2 -/
def sPar (is : List Nat) (f : EM) : SF := fun S => match f S with
  | some (its, S1) => if its.length = is.length then some (.nx (setS S1 is its)) else none
  | none => none
theorem ds_par2 (i j : Nat) {x y : Str} {a b : Expr} {px py pt : Pos} {kt k2 pt2} {f : EM} (hN : X.N.Nodup) (ha : PA X [a, b] (tDM X.K f)) (hw : swappedStores [.Tuple [.Name x px, .Name y py] kt pt] (.Tuple [a, b] k2 pt2) X.env = pure (some [x, y])) (hi : X.N[i]? = some x := by rfl) (hj : X.N[j]? = some y := by rfl) (hij : i ≠ j := by decide)
    (hx : X.env.scope.names.lookup x = some .local := by rfl) (hy : X.env.scope.names.lookup y = some .local := by rfl) (hc : X.calm = true := by rfl) (hs : swapsWithSole [.Tuple [.Name x px, .Name y py] kt pt] (.Tuple [a, b] k2 pt2) pos.line X.env = pure false := by rfl) :
    PS X (.Assign [.Tuple [.Name x px, .Name y py] kt pt] (.Tuple [a, b] k2 pt2) pos) (tDS X.K (sPar [i, j] f)) := by
  refine (ps_par hc hN hi hj hij hx hy ha hw hs).imp fun D σ H z => ?_
  obtain ⟨C, Z, S, o, R, e1, q⟩ := z
  unfold sPar at e1
  split at e1
  · next its S1 h1 =>
    split at e1
    · next hl =>
      cases e1
      refine ⟨C, Z, S, its, S1, R, h1, fun vs H1 Z1 sm R1 hv => ?_⟩
      have l2 : vs.length = 2 := hv.length.trans hl
      match vs, l2, hv with
      | [v, w], _, hv => exact ⟨v, w, rfl, q _ H1 Z1 sm (Rel.setIts [i, j] R1 hv)⟩
    · cases e1
  · cases e1
theorem ds_par3 (i j l : Nat) {x y z : Str} {a b c : Expr} {px py pz pt : Pos} {kt k2 pt2} {f : EM} (hN : X.N.Nodup) (ha : PA X [a, b, c] (tDM X.K f)) (hw : swappedStores [.Tuple [.Name x px, .Name y py, .Name z pz] kt pt] (.Tuple [a, b, c] k2 pt2) X.env = pure (some [x, y, z])) (hi : X.N[i]? = some x := by rfl) (hj : X.N[j]? = some y := by rfl) (hl : X.N[l]? = some z := by rfl) (hij : i ≠ j := by decide) (hil : i ≠ l := by decide) (hjl : j ≠ l := by decide)
    (hx : X.env.scope.names.lookup x = some .local := by rfl) (hy : X.env.scope.names.lookup y = some .local := by rfl) (hz : X.env.scope.names.lookup z = some .local := by rfl) (hc : X.calm = true := by rfl) (hs : swapsWithSole [.Tuple [.Name x px, .Name y py, .Name z pz] kt pt] (.Tuple [a, b, c] k2 pt2) pos.line X.env = pure false := by rfl) :
    PS X (.Assign [.Tuple [.Name x px, .Name y py, .Name z pz] kt pt] (.Tuple [a, b, c] k2 pt2) pos) (tDS X.K (sPar [i, j, l] f)) := by
  refine (ps_par3 hc hN hi hj hl hij hil hjl hx hy hz ha hw hs).imp fun D σ H z => ?_
  obtain ⟨C, Z, S, o, R, e1, q⟩ := z
  unfold sPar at e1
  split at e1
  · next its S1 h1 =>
    split at e1
    · next hl =>
      cases e1
      refine ⟨C, Z, S, its, S1, R, h1, fun vs H1 Z1 sm R1 hv => ?_⟩
      have l2 : vs.length = 3 := hv.length.trans hl
      match vs, l2, hv with
      | [v, w, u], _, hv => exact ⟨v, w, u, rfl, q _ H1 Z1 sm (Rel.setIts [i, j, l] R1 hv)⟩
    · cases e1
  · cases e1
/-- several names of any kind, the pair laid as a tuple -/
def gNms : List Nat → TGs
  | [] => gNil
  | i :: is => gCons (gName i) (gNms is)
theorem gNms_ok : ∀ (is : List Nat) {vs : List V} {σ : L2.St} {H : Hp} {Q : L2.St → Hp → Prop}, vs.length = is.length → Q (setV σ is vs) H → gNms is vs σ H Q
  | [], vs, σ, H, Q, hl, q => by
    cases vs with
    | nil => rw [setV] at q; exact ⟨rfl, q⟩
    | cons => cases hl
  | i :: is, vs, σ, H, Q, hl, q => by
    cases vs with
    | nil => cases hl
    | cons v vs => exact ⟨v, vs, rfl, gNms_ok is (Nat.succ.inj hl) q⟩
theorem dn_nil : PGs X [] (gNms []) := pgs_nil
theorem dn_cons {i : Nat} {is : List Nat} {x : Str} {px : Pos} (hN : X.N.Nodup) (h2 : PGs X es (gNms is)) (hi : X.N[i]? = some x := by rfl) (hx : Loc X.env.scope x := by first | exact Or.inl rfl | exact Or.inr rfl) (hf : X.fn x = true ∨ X.env.scope.names.lookup x = some .local := by first | exact .inl rfl | exact .inr rfl) (hs : (assignEach (.Name x px :: es) X.env).map (·.2) = assign (.Name x px) X.env :: (assignEach es X.env).map (·.2) := by rfl) : PGs X (.Name x px :: es) (gNms (i :: is)) := pgs_cons (pg_name hN hi hx hf) h2 hs
theorem ds_parN (is : List Nat) {ts : List Expr} {kt k2 pt pt2} {f : EM} (ha : PA X es (tDM X.K f)) (hg : PGs X ts (gNms is)) (hl : is.length ≤ 1000 := by decide) (hc : X.calm = true := by rfl) (hn : (assignEach ts X.env).length = is.length := by rfl) (hst : (assignEach ts X.env).findIdx? (·.1) = none := by rfl)
    (hs : swapsWithSole [.Tuple ts kt pt] (.Tuple es k2 pt2) pos.line X.env = pure false := by rfl) (hw : swappedStores [.Tuple ts kt pt] (.Tuple es k2 pt2) X.env = pure none := by rfl) (h1 : (assignEach [.Tuple ts kt pt] X.env).map (·.2) = [assign (.Tuple ts kt pt) X.env] := by rfl) :
    PS X (.Assign [.Tuple ts kt pt] (.Tuple es k2 pt2) pos) (tDS X.K (sPar is f)) := by
  refine (ps_asg (pe_tup ha) (pg_tup hc hg hn hst) hs hw h1).imp fun D σ H z => ?_
  obtain ⟨C, Z, S, o, R, e1, q⟩ := z
  unfold sPar at e1
  split at e1
  · next its S1 h1 =>
    split at e1
    · next hl2 =>
      cases e1
      refine ⟨C, Z, S, its, S1, R, h1, fun vs H1 Z1 sm R1 hv => ⟨?_, fun p hp => ?_⟩⟩
      · rw [hv.length, hl2]
        exact Nat.le_trans (Nat.le_trans hl (by decide : (1000 : Nat) ≤ 1000000)) million
      · refine ⟨p, vs, rfl, .inl (.inl upd_same), hv.length.trans hl2, gNms_ok is (hv.length.trans hl2) ?_⟩
        exact q _ _ Z1 sm (Rel.setIts is (R1.newU hp) (hv.newU hp))
    · cases e1
  · cases e1
/-! names and places of owned lists -/
inductive TK where
  | nm (i : Nat)
  | sub (j : Nat) (fi : EE)
def asgK : TK → PyData → Sls → Option Sls
  | .nm i, d, S => some (S.set i (.dat d))
  | .sub j fi, d, S => match contD S j with
    | none => none
    | some _ => match fi S with
      | some (.int k, S2) => match contD S2 j with
        | none => none
        | some xs => match ixN xs.length k with
          | none => none
          | some n => some (putD S2 j (xs.set n d))
      | _ => none
def asgKs : List TK → List PyData → Sls → Option Sls
  | [], [], S => some S
  | t :: ts, d :: ds, S => match asgK t d S with
    | some S1 => asgKs ts ds S1
    | none => none
  | _, _, _ => none
def gK (K : PySem.W.Frag) : TK → TG
  | .nm i => gName i
  | .sub j fi => L2.gSub (tVar j) (tD K fi) rSetL
def gKs (K : PySem.W.Frag) : List TK → TGs
  | [] => gNil
  | t :: ts => gCons (gK K t) (gKs K ts)
theorem gK_ok {K : PySem.W.Frag} {C : Fc} {t : TK} {v : V} {d : PyData} {Z : Hp} {σ : L2.St} {H : Hp} {S S' : Sls} {Q : L2.St → Hp → Prop} (R : Rel K C Z σ H S) (hv : Dq K Z v d) (e : asgK t d S = some S') (q : ∀ σ' H' Z', Same Z Z' → Rel K C Z' σ' H' S' → Q σ' H') : gK K t v σ H Q := by
  cases t with
  | nm i =>
    cases e
    exact q _ H Z (Same.refl _) (R.setDat hv)
  | sub j fi =>
    simp only [asgK] at e
    split at e
    · cases e
    · next xs0 h0 =>
      split at e
      · next k S2 h2 =>
        split at e
        · cases e
        · next xs h3 =>
          split at e
          · cases e
          · next n h4 =>
            cases e
            obtain ⟨p, ws0, g1, g2, _⟩ := R.cont h0
            refine ⟨.ref p, g1, C, Z, S, _, S2, R, h2, fun u H2 Z2 sm2 R2 hu => ?_⟩
            cases hu
            obtain ⟨p', ws, k1, k2, k3⟩ := R2.cont h3
            rw [g1] at k1
            cases k1
            exact ⟨p, ws, k, n, rfl, rfl, k2, by rw [DqAll.length k3]; exact h4, q σ _ Z2 sm2 (R2.put h3 g1 (DqAll.set (dq_mono sm2 hv) n k3))⟩
      · cases e
theorem gKs_ok {K : PySem.W.Frag} {C : Fc} : ∀ (ts : List TK) {vs : List V} {ds : List PyData} {Z : Hp} {σ : L2.St} {H : Hp} {S S' : Sls} {Q : L2.St → Hp → Prop}, Rel K C Z σ H S → DqAll K Z vs ds → asgKs ts ds S = some S' → (∀ σ' H' Z', Same Z Z' → Rel K C Z' σ' H' S' → Q σ' H') → gKs K ts vs σ H Q
  | [], vs, ds, Z, σ, H, S, S', Q, R, hv, e, q => by
    cases hv with
    | nil => cases e; exact ⟨rfl, q σ H Z (Same.refl _) R⟩
    | cons => cases e
  | t :: ts, vs, ds, Z, σ, H, S, S', Q, R, hv, e, q => by
    cases hv with
    | nil => cases e
    | cons h a =>
      unfold asgKs at e
      split at e
      · next S1 h1 => exact ⟨_, _, rfl, gK_ok R h h1 fun σ1 H1 Z1 sm R1 => gKs_ok ts R1 (dqAll_mono sm a) e fun σ2 H2 Z2 sm2 R2 => q σ2 H2 Z2 (sm.trans sm2) R2⟩
      · cases e
theorem dk_nil : PGs X [] (gKs X.K []) := pgs_nil
theorem dk_nm {i : Nat} {ts : List TK} {x : Str} {px : Pos} (hN : X.N.Nodup) (h2 : PGs X es (gKs X.K ts)) (hi : X.N[i]? = some x := by rfl) (hx : Loc X.env.scope x := by first | exact Or.inl rfl | exact Or.inr rfl) (hf : X.fn x = true ∨ X.env.scope.names.lookup x = some .local := by first | exact .inl rfl | exact .inr rfl) (hs : (assignEach (.Name x px :: es) X.env).map (·.2) = assign (.Name x px) X.env :: (assignEach es X.env).map (·.2) := by rfl) : PGs X (.Name x px :: es) (gKs X.K (.nm i :: ts)) := pgs_cons (pg_name hN hi hx hf) h2 hs
theorem dk_sub (j : Nat) {ts : List TK} {x : Str} {px spos : Pos} {i : Expr} {fi : EE} (hi' : PE X i (tD X.K fi)) (h2 : PGs X es (gKs X.K ts)) (hN : X.N[j]? = some x := by rfl) (hv : Vis X.env.scope x := by first | exact Or.inl rfl | exact Or.inr (Or.inl rfl) | exact Or.inr (Or.inr rfl))
    (hd : (x == ("__debug__" : Str)) = false := by decide) (hcd : (x == ("__classdict__" : Str)) = false := by decide)
    (ha : ∀ u, assign (.Subscript (.Name x px) i spos) X.env u = (do
      let ov ← holding [u] (eval (.Name x px) X.env)
      let iv ← holding [u, ov] (eval i X.env)
      standAt spos
      holding [u, ov, iv] (setItem ov iv u)
      release [u, ov, iv] []) := by intro _; rfl)
    (hs : (assignEach (.Subscript (.Name x px) i spos :: es) X.env).map (·.2) = assign (.Subscript (.Name x px) i spos) X.env :: (assignEach es X.env).map (·.2) := by rfl) : PGs X (.Subscript (.Name x px) i spos :: es) (gKs X.K (.sub j fi :: ts)) := pgs_cons (pg_sub (pe_var hN hv hd hcd) hi' set_list ha) h2 hs
def sParK (ts : List TK) (f : EL) : SF := fun S => match f S with
  | some (ds, S1) => if ds.length = ts.length then match asgKs ts ds S1 with
      | some S2 => some (.nx S2)
      | none => none
    else none
  | none => none
theorem ds_parK {ks : List TK} {ts : List Expr} {kt k2 pt pt2} {f : EL} (ha : PA X es (tDA X.K f)) (hg : PGs X ts (gKs X.K ks)) (hl : ks.length ≤ 1000 := by decide) (hc : X.calm = true := by rfl) (hn : (assignEach ts X.env).length = ks.length := by rfl) (hst : (assignEach ts X.env).findIdx? (·.1) = none := by rfl)
    (hs : swapsWithSole [.Tuple ts kt pt] (.Tuple es k2 pt2) pos.line X.env = pure false := by rfl) (hw : swappedStores [.Tuple ts kt pt] (.Tuple es k2 pt2) X.env = pure none := by rfl) (h1 : (assignEach [.Tuple ts kt pt] X.env).map (·.2) = [assign (.Tuple ts kt pt) X.env] := by rfl) :
    PS X (.Assign [.Tuple ts kt pt] (.Tuple es k2 pt2) pos) (tDS X.K (sParK ks f)) := by
  refine (ps_asg (pe_tup ha) (pg_tup hc hg hn hst) hs hw h1).imp fun D σ H z => ?_
  obtain ⟨C, Z, S, o, R, e1, q⟩ := z
  unfold sParK at e1
  split at e1
  · next ds S1 h1 =>
    split at e1
    · next hl2 =>
      split at e1
      · next S2 h2 =>
        cases e1
        refine ⟨C, Z, S, ds, S1, R, h1, fun vs H1 Z1 sm R1 hv => ⟨?_, fun p hp => ?_⟩⟩
        · rw [DqAll.length hv, hl2]
          exact Nat.le_trans (Nat.le_trans hl (by decide : (1000 : Nat) ≤ 1000000)) million
        · refine ⟨p, vs, rfl, .inl (.inl upd_same), (DqAll.length hv).trans hl2, gKs_ok ks (R1.newU hp) hv h2 fun σ' H' Z' sm2 R' => q σ' H' Z' (sm.trans sm2) R'⟩
      · cases e1
    · cases e1
  · cases e1
end

/-! ### defs -/
inductive RV where
  | d (r : PyData)
  | f (xs : List PyData)
abbrev FnD := Sls → Option (RV × Option (List PyData))
/-- the arguments as the slots tell them -/
structure ArgsOk (K : PySem.W.Frag) (Z H : Hp) (lo : Option Addr) (vs : List V) (S : Sls) : Prop where
  len : vs.length = S.length
  dat : ∀ (i : Nat) (d : PyData), S[i]? = some (.dat d) → ∃ v, vs[i]? = some v ∧ Dq K Z v d
  own : ∀ (i : Nat) (xs : List PyData), S[i]? ≠ some (.own xs)
  lent : ∀ (i : Nat) (xs : List PyData), S[i]? = some (.lent xs) → i = 0 ∧ ∃ p ws, lo = some p ∧ vs[0]? = some (.ref p) ∧ H p = some (.lst ws) ∧ DqAll K Z ws xs
  scr : ∀ (i : Nat) (ns : List Int), S[i]? = some (.scr ns) → ∃ a, vs[i]? = some (.ref a) ∧ SqL K Z a (ns.map V.int)
  lo : ∀ p, lo = some p → (∃ ws, H p = some (.lst ws)) ∧ Z p = none ∧ ∃ xs, S[0]? = some (.lent xs)
def RvOk (K : PySem.W.Frag) (Z' H H' : Hp) (lo : Option Addr) (v : V) : RV → Prop
  | .d r => Dq K Z' v r
  | .f xs => ∃ p ws, v = .ref p ∧ H' p = some (.lst ws) ∧ Z' p = none ∧ H p = none ∧ DqAll K Z' ws xs
def spG (K : PySem.W.Frag) (np : Nat) (F : FnD) : Sp := fun vs H Q _ => vs.length = np ∧ ∃ Z S lo r fin, Same Z H ∧ ArgsOk K Z H lo vs S ∧ F S = some (r, fin) ∧
  ∀ v H' Z', Same Z Z' → Same Z' H' → (∀ a, Z' a ≠ none → Z a ≠ none ∨ H a = none) → (∀ b o, lo ≠ some b → H b = some o → H' b = some o) →
    (∀ p, lo = some p → ∃ ws xs, fin = some xs ∧ H' p = some (.lst ws) ∧ Z' p = none ∧ DqAll K Z' ws xs) → RvOk K Z' H H' lo v r → Q v H'
def lentOf (S : Sls) : Option (List PyData) := match (S[0]? : Option Sl) with
  | some (Sl.lent xs) => some xs
  | _ => none
def runF (n np : Nat) (g : SF) : FnD := fun S => if S.length = np then match g (S ++ List.replicate (n - np) .un) with
    | some (.rt d S') => if (lentOf S).isSome = true → (lentOf S').isSome = true then some (.d d, lentOf S') else none
    | some (.rtF xs S') => if (lentOf S).isSome = true → (lentOf S').isSome = true then some (.f xs, lentOf S') else none
    | some (.nx S') => if (lentOf S).isSome = true → (lentOf S').isSome = true then some (.d .none, lentOf S') else none
    | _ => none
  else none
section
variable {P : Program} {w : World} {K : PySem.W.Frag} {mg : Str → Option Value} {base : Heap}
def isUn : Sl → Bool
  | .un => true
  | _ => false
theorem start_get {N : List Str} {vs : List V} {i : Nat} (h : i < vs.length) : (L2.start N vs)[i]? = (vs[i]?).map some := by
  unfold L2.start
  rw [List.getElem?_append_left (by rw [List.length_map]; exact h), List.getElem?_map]
theorem rel_start {N : List Str} {vs : List V} {Z H : Hp} {lo : Option Addr} {S : Sls} (hn : vs.length ≤ N.length) (hZ : Same Z H) (a : ArgsOk K Z H lo vs S) :
    ∃ C : Fc, C.H0 = H ∧ C.Z0 = Z ∧ C.lo = lo ∧ Rel K C Z (L2.start N vs) H (S ++ List.replicate (N.length - vs.length) .un) := by
  have inS : ∀ {i : Nat} {sl : Sl}, isUn sl = false → (S ++ List.replicate (N.length - vs.length) .un)[i]? = some sl → S[i]? = some sl ∧ i < vs.length := fun {i sl} ne e => by
    by_cases h : i < S.length
    · rw [List.getElem?_append_left h] at e
      exact ⟨e, by rw [a.len]; exact h⟩
    · rw [List.getElem?_append_right (by omega)] at e
      have := List.mem_of_getElem? e
      rw [List.eq_of_mem_replicate this] at ne
      cases ne
  refine ⟨⟨H, Z, lo, fun p hp => by obtain ⟨⟨ws, e⟩, _⟩ := a.lo p hp; rw [e]; exact fun z => nomatch z⟩, rfl, rfl, rfl, hZ, Same.refl _, fun b n => .inl n, fun b o _ e => e, fun p hp => ⟨(a.lo p hp).1, (a.lo p hp).2.1⟩, ?_, fun i d e => ?_, fun i xs e => ?_, fun i xs e => ?_, fun i j xs ys e _ _ => ?_, fun i ns e => ?_, fun i j xs ys e1 e2 => ?_⟩
  · unfold L2.start
    rw [List.length_append, List.length_append, List.length_map, List.length_replicate, List.length_replicate, a.len]
  · obtain ⟨e1, hi⟩ := inS rfl e
    obtain ⟨v, h1, h2⟩ := a.dat i d e1
    exact ⟨v, by rw [start_get hi, h1]; rfl, h2⟩
  · exact absurd (inS rfl e).1 (a.own i xs)
  · obtain ⟨e1, hi⟩ := inS rfl e
    obtain ⟨rfl, p, ws, h1, h2, h3, h4⟩ := a.lent i xs e1
    exact ⟨p, ws, h1, by rw [start_get hi, h2]; rfl, h3, h4⟩
  · exact absurd (inS rfl e).1 (a.own i xs)
  · obtain ⟨e1, hi⟩ := inS rfl e
    obtain ⟨b, h1, h2⟩ := a.scr i ns e1
    exact ⟨b, by rw [start_get hi, h1]; rfl, h2⟩
  · have z1 := (a.lent i xs (inS rfl e1).1).1
    have z2 := (a.lent j ys (inS rfl e2).1).1
    rw [z1, z2]
theorem lent_end {C : Fc} {Z H : Hp} {σ : L2.St} {S : Sls} (R : Rel K C Z σ H S) {xs : List PyData} (h : lentOf S = some xs) : ∃ p ws, C.lo = some p ∧ H p = some (.lst ws) ∧ Z p = none ∧ DqAll K Z ws xs := by
  unfold lentOf at h
  split at h
  · next ys e =>
    cases h
    obtain ⟨p, ws, h0, h1, h2, h3⟩ := R.lent 0 _ e
    exact ⟨p, ws, h0, h2, (R.lo p h0).2, h3⟩
  · cases h
/-- THE RULE for a def, by data: np its parameters, g what its body does -/
theorem fn_d {x qual : Str} {st : Stmt} {f : Addr} {fd : FuncData} {N ps : List Str} {k : Nat} {g : SF} (F : Fun K x qual st f fd) (S : FnScope N ps (defScope st)) (hnp : ps.length ≤ N.length)
    (hbody : ∀ (cdv : Value) (A : Around) (outer : List Env) (s : Shared) (H : Hp) (E : XK), Room k (A.deeper (envOfC qual (defScope st) s.heap.objs.size f cdv)) → PSs (cxOf CX0 P w K mg base N qual (defScope st) f cdv A outer s H E).nox (defBody st) (tDS K g)) :
    FnOk P w K mg base CX0 (k + 1) f fd ps (spG K ps.length (runF N.length ps.length g)) := by
  refine F.ok S (fun vs H Q E h => h.1) fun cdv A outer s H vs Q E hr h => ?_
  obtain ⟨hl, Z, S0, lo, r, fin, hZ, a, hF, q⟩ := h
  refine ⟨_, hbody cdv A outer s H E hr, ?_⟩
  obtain ⟨C, c1, c2, c3, R⟩ := rel_start (N := N) (by rw [hl]; exact hnp) hZ a
  unfold runF at hF
  split at hF
  · next hlen =>
    rw [hl] at R
    -- the end of the body
    have fin_of : ∀ {S' : Sls}, ((lentOf S0).isSome = true → (lentOf S').isSome = true) → ∀ {Z' H' : Hp} {σ' : L2.St}, Rel K C Z' σ' H' S' → ∀ p, lo = some p → ∃ ws xs, lentOf S' = some xs ∧ H' p = some (.lst ws) ∧ Z' p = none ∧ DqAll K Z' ws xs := fun {S'} hs {Z' H' σ'} R' p hp => by
      obtain ⟨_, _, xs0, hx0⟩ := a.lo p hp
      have h1 : (lentOf S0).isSome = true := by unfold lentOf; rw [hx0]; rfl
      obtain ⟨xs, hxs⟩ := Option.isSome_iff_exists.mp (hs h1)
      obtain ⟨p', ws, e0, e1, e2, e3⟩ := lent_end R' hxs
      rw [c3, hp] at e0
      cases e0
      exact ⟨ws, xs, hxs, e1, e2, e3⟩
    have fr : ∀ {Z' H' : Hp} {σ' : L2.St} {S' : Sls}, Rel K C Z' σ' H' S' → (∀ b, Z' b ≠ none → Z b ≠ none ∨ H b = none) ∧ (∀ b o, lo ≠ some b → H b = some o → H' b = some o) := fun {Z' H' σ' S'} R' =>
      ⟨fun b n => by have := R'.fresh b n; rw [c2, c1] at this; exact this, fun b o hb e => R'.same b o (by rw [c3]; exact hb) (by rw [c1]; exact e)⟩
    split at hF
    · next d S' hg =>
      split at hF
      · next hs =>
        cases hF
        refine ⟨C, Z, _, _, R, hg, fun v σ' H' Z' sm R' hv => ?_⟩
        exact q v H' Z' sm R'.sub (fr R').1 (fr R').2 (fin_of hs R') hv
      · cases hF
    · next xs S' hg =>
      split at hF
      · next hs =>
        cases hF
        refine ⟨C, Z, _, _, R, hg, fun p ws σ' H' Z' sm R' hp hz h0 hd => ?_⟩
        exact q _ H' Z' sm R'.sub (fr R').1 (fr R').2 (fin_of hs R') ⟨p, ws, rfl, hp, hz, by rw [← c1]; exact h0, hd⟩
      · cases hF
    · next S' hg =>
      split at hF
      · next hs =>
        cases hF
        refine ⟨C, Z, _, _, R, hg, fun σ' H' Z' sm R' => ?_⟩
        exact q .non H' Z' sm R'.sub (fr R').1 (fr R').2 (fin_of hs R') .non
      · cases hF
    · cases hF
  · cases hF
end
end DL

/-! DL7: calls of defs, by data; the law's end. -/
namespace DL
open PySem PySem.Spec PyProof.Rows L2

section
variable {K : PySem.W.Frag} {C : Fc} {Z Z' : Hp} {σ : L2.St} {H H' : Hp} {S : Sls}
theorem Rel.growPut (R : Rel K C Z σ H S) {j : Nat} {xs ys : List PyData} {p : Addr} {us : List V} (h : contD S j = some xs) (hp : σ[j]? = some (some (.ref p))) (hZ : Same Z Z') (hs : Same Z' H') (hf : ∀ a, Z' a ≠ none → Z a ≠ none ∨ H a = none) (hH : ∀ b o, p ≠ b → H b = some o → H' b = some o)
    (hz : Z' p = none) (hq : H' p = some (.lst us)) (hu : DqAll K Z' us ys) : Rel K C Z' σ H' (putD S j ys) := by
  obtain ⟨p', ws, g1, g2, g3⟩ := R.cont h
  rw [hp] at g1
  cases g1
  have R1 : Rel K C Z' σ (upd H' p (.lst ws)) S := R.grow hZ (Same.updOther hs hz) (fun b o e => by
    by_cases hb : b = p
    · subst hb; rw [upd_same, ← g2]; exact e
    · rw [upd_ne hb]; exact hH b o (Ne.symm hb) e) hf
  have R2 := R1.put (ys := ys) h hp hu
  rw [upd_upd] at R2
  have e : upd H' p (.lst us) = H' := by
    funext b
    by_cases hb : b = p
    · rw [hb, upd_same, hq]
    · rw [upd_ne hb]
  rw [e] at R2
  exact R2
end

def rvD : RV → PyData
  | .d r => r
  | .f xs => .list xs
def datS (ds : List PyData) : Sls := ds.map Sl.dat
def eCallU (F : FnD) (f : EL) : EE := fun S => match f S with
  | none => none
  | some (ds, S1) => match F (datS ds) with
    | some (r, _) => some (rvD r, S1)
    | none => none
def lCallU (F : FnD) (f : EL) : EL := fun S => match f S with
  | none => none
  | some (ds, S1) => match F (datS ds) with
    | some (.f xs, _) => some (xs, S1)
    | _ => none
/-- the list in slot j lent -/
def callL (j : Nat) (F : FnD) (f : EL) (S : Sls) : Option (RV × Sls) := match contD S j with
  | none => none
  | some _ => match f S with
    | none => none
    | some (ds, S1) => match contD S1 j with
      | none => none
      | some xs => match F (.lent xs :: datS ds) with
        | some (r, some ys) => some (r, putD S1 j ys)
        | _ => none
def eCallL (j : Nat) (F : FnD) (f : EL) : EE := fun S => match callL j F f S with
  | some (r, S1) => some (rvD r, S1)
  | none => none
def lCallL (j : Nat) (F : FnD) (f : EL) : EL := fun S => match callL j F f S with
  | some (.f xs, S1) => some (xs, S1)
  | _ => none
def lCallS (j : Nat) (F : FnD) : EL := fun S => match S[j]? with
  | some (.scr ns) => match F [.scr ns] with
    | some (.f xs, _) => some (xs, S)
    | _ => none
  | _ => none

structure DefD (P : Program) (w : World) (K : PySem.W.Frag) (mg : Str → Option Value) (base : Heap) (k : Nat) (x : Str) (np : Nat) (F : FnD) : Prop where
  ex : ∃ f fd ps, FnOk P w K mg base CX0 k f fd ps (spG K np F) ∧ mg x = some (.ref f) ∧ PySem.W.keepIn K (.ref f) = true ∧ Binds K fd ps []
  len : ∀ S r, F S = some r → S.length = np
theorem DefD.mono {P : Program} {w : World} {K : PySem.W.Frag} {mg : Str → Option Value} {base : Heap} {k k' : Nat} {x : Str} {np : Nat} {F : FnD} (D : DefD P w K mg base k x np F) (h : k ≤ k') : DefD P w K mg base k' x np F :=
  let ⟨f, fd, ps, a, b⟩ := D.ex; ⟨⟨f, fd, ps, a.mono h, b⟩, D.len⟩

section
variable {K : PySem.W.Frag}
theorem args_dat {Z H : Hp} {vs : List V} {ds : List PyData} (h : DqAll K Z vs ds) : ArgsOk K Z H none vs (datS ds) := by
  have inS : ∀ {i : Nat} {sl : Sl}, (datS ds)[i]? = some sl → ∃ d, ds[i]? = some d ∧ sl = .dat d := fun {i sl} e => by
    unfold datS at e
    rw [List.getElem?_map] at e
    cases q : ds[i]? with
    | none => rw [q] at e; cases e
    | some d => rw [q] at e; exact ⟨d, rfl, (Option.some.inj e).symm⟩
  refine ⟨by unfold datS; rw [List.length_map, DqAll.length h], fun i d e => ?_, fun i xs e => ?_, fun i xs e => ?_, fun i ns e => ?_, fun p hp => by cases hp⟩
  · obtain ⟨d', h1, h2⟩ := inS e
    cases h2
    exact DqAll.getD h h1
  · obtain ⟨d', _, h2⟩ := inS e; cases h2
  · obtain ⟨d', _, h2⟩ := inS e; cases h2
  · obtain ⟨d', _, h2⟩ := inS e; cases h2
theorem args_lent {Z H : Hp} {p : Addr} {ws vs : List V} {xs ds : List PyData} (hp : H p = some (.lst ws)) (hz : Z p = none) (hx : DqAll K Z ws xs) (h : DqAll K Z vs ds) : ArgsOk K Z H (some p) (.ref p :: vs) (.lent xs :: datS ds) := by
  have A := args_dat (H := H) h
  refine ⟨by rw [List.length_cons, List.length_cons, A.len], fun i d e => ?_, fun i ys e => ?_, fun i ys e => ?_, fun i ns e => ?_, fun q hq => ?_⟩
  · cases i with
    | zero => cases e
    | succ i => exact A.dat i d e
  · cases i with
    | zero => cases e
    | succ i => exact A.own i ys e
  · cases i with
    | zero => cases e; exact ⟨rfl, p, ws, rfl, rfl, hp, hx⟩
    | succ i => exact absurd (A.lent i ys e) (fun z => by obtain ⟨_, _, _, z, _⟩ := z; cases z)
  · cases i with
    | zero => cases e
    | succ i => exact A.scr i ns e
  · cases hq
    exact ⟨⟨ws, hp⟩, hz, xs, rfl⟩
theorem args_scr {Z H : Hp} {a : Addr} {ns : List Int} (h : SqL K Z a (ns.map V.int)) : ArgsOk K Z H none [.ref a] [.scr ns] := by
  refine ⟨rfl, fun i d e => ?_, fun i ys e => ?_, fun i ys e => ?_, fun i ms e => ?_, fun q hq => by cases hq⟩
  · cases i with
    | zero => cases e
    | succ i => cases e
  · cases i with
    | zero => cases e
    | succ i => cases e
  · cases i with
    | zero => cases e
    | succ i => cases e
  · cases i with
    | zero => cases e; exact ⟨a, rfl, h⟩
    | succ i => cases e
/-- what a call without a loan leaves -/
theorem call_back {C : Fc} {Z Z' H H' : Hp} {σ : L2.St} {S : Sls} {v : V} {r : RV} {Q : VK} (R : Rel K C Z σ H S) (hZ : Same Z Z') (hs : Same Z' H') (hf : ∀ a, Z' a ≠ none → Z a ≠ none ∨ H a = none) (hH : Same H H') (hv : RvOk K Z' H H' none v r)
    (q : ∀ v H' Z', Same Z Z' → Rel K C Z' σ H' S → Dq K Z' v (rvD r) → Q v H') : Q v H' := by
  have R' := R.grow hZ hs hH hf
  cases r with
  | d x => exact q v H' Z' hZ R' hv
  | f xs =>
    obtain ⟨p, ws, rfl, h1, h2, h3, h4⟩ := hv
    have ap : Apart σ S p := R.apart h3
    exact q _ H' _ (hZ.trans (Same.updNew h2)) (R'.still h1 h2 (R.h0 h3) ap) (.lst (.inl upd_same) (dqAll_mono (Same.updNew h2) h4))
end
theorem runF_len {n np : Nat} {g : SF} : ∀ S r, runF n np g S = some r → S.length = np := fun S r h => by
  unfold runF at h
  split at h
  · next hl => exact hl
  · cases h
theorem def_d {P : Program} {w : World} {K : PySem.W.Frag} {mg : Str → Option Value} {base : Heap} {x qual : Str} {st : Stmt} {f : Addr} {fd : FuncData} {N ps : List Str} {k : Nat} {g : SF} (F : Fun K x qual st f fd) (hm : mg x = some (.ref f)) (hb : Binds K fd ps []) (S : FnScope N ps (defScope st)) (hnp : ps.length ≤ N.length)
    (hbody : ∀ (cdv : Value) (A : Around) (outer : List Env) (s : Shared) (H : Hp) (E : XK), Room k (A.deeper (envOfC qual (defScope st) s.heap.objs.size f cdv)) → PSs (cxOf CX0 P w K mg base N qual (defScope st) f cdv A outer s H E).nox (defBody st) (tDS K g)) :
    DefD P w K mg base (k + 1) x ps.length (runF N.length ps.length g) :=
  ⟨⟨f, fd, ps, fn_d F S hnp hbody, hm, F.kp, hb⟩, runF_len⟩
section
variable {X : Cx} {e : Expr} {es : List Expr} {pos : Pos} {k np : Nat} {x : Str} {F : FnD}
theorem d_call {p : Pos} {f : EL} (D : DefD X.prog X.w X.K X.mg X.base k x np F) (hr : Room k X.A) (ha : PA X (e :: es) (tDA X.K f)) (hg : Gl X x := by rfl) (hdb : (x == ("__debug__" : Str)) = false := by decide) (he : starEach (e :: es) X.env = (false, eval e X.env) :: starEach es X.env := by rfl) (hpl : (backTo pos (starEach es X.env)).any (·.1) = false := by rfl) :
    PE X (.Call (.Name x p) (e :: es) [] pos) (tD X.K (eCallU F f)) := by
  obtain ⟨fa, fd, ps, G, hm, hk, hb⟩ := D.ex
  refine (pe_call G hr hg hm hk hb .nil pass0 ha hdb he hpl).imp fun σ H Q z => ?_
  obtain ⟨C, Z, S, d, S', R, e1, q⟩ := z
  unfold eCallU at e1
  split at e1
  · cases e1
  · next ds S1 h1 =>
    split at e1
    · next r fin h2 =>
      cases e1
      refine ⟨C, Z, S, ds, S', R, h1, fun vs H1 Z1 sm R1 hv => ?_⟩
      show spG X.K np F (vs ++ []) H1 Q E0
      rw [List.append_nil]
      have A := args_dat (H := H1) hv
      refine ⟨A.len.trans (D.len _ _ h2), Z1, datS ds, none, r, fin, R1.sub, A, h2, fun v H2 Z2 a1 a2 a3 a4 a5 a6 => ?_⟩
      exact call_back R1 a1 a2 a3 (fun b o eb => a4 b o (fun z => nomatch z) eb) a6 fun v' H3 Z3 b1 b2 b3 => q v' H3 Z3 (sm.trans b1) b2 b3
    · cases e1
theorem df_call {p : Pos} {f : EL} (D : DefD X.prog X.w X.K X.mg X.base k x np F) (hr : Room k X.A) (ha : PA X (e :: es) (tDA X.K f)) (hg : Gl X x := by rfl) (hdb : (x == ("__debug__" : Str)) = false := by decide) (he : starEach (e :: es) X.env = (false, eval e X.env) :: starEach es X.env := by rfl) (hpl : (backTo pos (starEach es X.env)).any (·.1) = false := by rfl) :
    PE X (.Call (.Name x p) (e :: es) [] pos) (tF X.K (lCallU F f)) := by
  obtain ⟨fa, fd, ps, G, hm, hk, hb⟩ := D.ex
  refine (pe_call G hr hg hm hk hb .nil pass0 ha hdb he hpl).imp fun σ H Q z => ?_
  obtain ⟨C, Z, S, d, S', R, e1, q⟩ := z
  unfold lCallU at e1
  split at e1
  · cases e1
  · next ds S1 h1 =>
    split at e1
    · next xs fin h2 =>
      cases e1
      refine ⟨C, Z, S, ds, S', R, h1, fun vs H1 Z1 sm R1 hv => ?_⟩
      show spG X.K np F (vs ++ []) H1 Q E0
      rw [List.append_nil]
      have A := args_dat (H := H1) hv
      refine ⟨A.len.trans (D.len _ _ h2), Z1, datS ds, none, _, fin, R1.sub, A, h2, fun v H2 Z2 a1 a2 a3 a4 a5 a6 => ?_⟩
      obtain ⟨p, ws, rfl, m1, m2, m3, m4⟩ := a6
      exact q p ws H2 Z2 (sm.trans a1) (R1.grow a1 a2 (fun b o eb => a4 b o (fun z => nomatch z) eb) a3) m1 m2 (R1.h0 m3) (R1.apart m3) m4
    · cases e1
/-- the core of a call with the list of slot j lent -/
theorem callL_core {K : PySem.W.Frag} {C : Fc} {Z : Hp} {σ : L2.St} {H : Hp} {S S2 : Sls} {j : Nat} {f : EL} {r : RV} {Q : VK} {E : XK} (len : ∀ S r, F S = some r → S.length = np) (R : Rel K C Z σ H S) (e : callL j F f S = some (r, S2))
    (q : ∀ v H' Z', Same Z Z' → Rel K C Z' σ H' S2 → (∃ ds S1 xs, f S = some (ds, S1) ∧ contD S1 j = some xs) → (∃ H1 Z1, Same Z Z1 ∧ Same Z1 Z' ∧ Rel K C Z' σ H' S2 ∧ RvOk K Z' H1 H' none v r ∧ (∀ a, H1 a = none → C.H0 a = none ∧ Apart σ S2 a)) → Q v H') :
    tCons (tVar j) (tDA K f) σ H (fun vs H1 => spG K np F (vs ++ []) H1 Q E) := by
  unfold callL at e
  split at e
  · cases e
  · next xs0 h0 =>
    split at e
    · cases e
    · next ds S1 h1 =>
      split at e
      · cases e
      · next xs h2 =>
        split at e
        · next r' ys h3 =>
          cases e
          obtain ⟨p, ws0, g1, g2, _⟩ := R.cont h0
          refine ⟨.ref p, g1, C, Z, S, ds, S1, R, h1, fun vs H1 Z1 sm R1 hv => ?_⟩
          obtain ⟨p', ws, k1, k2, k3⟩ := R1.cont h2
          rw [g1] at k1
          cases k1
          rw [List.append_nil]
          have hz : Z1 p = none := by
            unfold contD at h2
            split at h2
            · next zs ez =>
              obtain ⟨p'', ws'', a1, a2, a3, a4, a5⟩ := R1.own j zs ez
              rw [g1] at a1
              cases a1
              exact a4
            · next zs ez =>
              obtain ⟨p'', ws'', a0, a1, a2, a3⟩ := R1.lent j zs ez
              rw [g1] at a1
              cases a1
              exact (R1.lo p a0).2
            · cases h2
          have A := args_lent k2 hz k3 hv
          refine ⟨A.len.trans (len _ _ h3), Z1, _, some p, r, some ys, R1.sub, A, h3, fun v H2 Z2 a1 a2 a3 a4 a5 a6 => ?_⟩
          obtain ⟨us, ys', e1, m1, m2, m3⟩ := a5 p rfl
          cases e1
          have R2 : Rel K C Z2 σ H2 (putD S1 j ys) := R1.growPut h2 g1 a1 a2 a3 (fun b o hb eb => a4 b o (fun z => hb (Option.some.inj z)) eb) m2 m1 m3
          refine q v H2 Z2 (sm.trans a1) R2 ⟨ds, S1, xs, h1, h2⟩ ⟨H1, Z1, sm, a1, R2, ?_, fun a ha => ⟨R1.h0 ha, fun i zs hi ei => ?_⟩⟩
          · cases r with
            | d x => exact a6
            | f zs => exact a6
          · -- an address that was free ahead of the call is in no slot
            have hpa : a ≠ p := fun z => by subst z; rw [k2] at ha; cases ha
            have back : ∃ zs', S1[i]? = some (.own zs') ∨ S1[i]? = some (.lent zs') := by
              unfold putD at hi
              split at hi
              · next w ew =>
                rcases hi with hi | hi
                · rcases getElem?_set_cases hi with ⟨rfl, _, _⟩ | ⟨_, z⟩
                  · exact ⟨w, .inl ew⟩
                  · exact ⟨zs, .inl z⟩
                · rcases getElem?_set_cases hi with ⟨rfl, _, _⟩ | ⟨_, z⟩
                  · exact ⟨w, .inl ew⟩
                  · exact ⟨zs, .inr z⟩
              · next w ew =>
                rcases hi with hi | hi
                · rcases getElem?_set_cases hi with ⟨rfl, _, _⟩ | ⟨_, z⟩
                  · exact ⟨w, .inr ew⟩
                  · exact ⟨zs, .inl z⟩
                · rcases getElem?_set_cases hi with ⟨rfl, _, _⟩ | ⟨_, z⟩
                  · exact ⟨w, .inr ew⟩
                  · exact ⟨zs, .inr z⟩
              · exact ⟨zs, hi⟩
            obtain ⟨zs', hb⟩ := back
            exact R1.apart ha i zs' hb ei
        · cases e
theorem d_callL (j : Nat) {y : Str} {p py : Pos} {f : EL} (D : DefD X.prog X.w X.K X.mg X.base k x np F) (hr : Room k X.A) (ha : PA X es (tDA X.K f)) (hN : X.N[j]? = some y := by rfl) (hv : Vis X.env.scope y := by first | exact Or.inl rfl | exact Or.inr (Or.inl rfl) | exact Or.inr (Or.inr rfl)) (hd : (y == ("__debug__" : Str)) = false := by decide) (hcd : (y == ("__classdict__" : Str)) = false := by decide)
    (hg : Gl X x := by rfl) (hdb : (x == ("__debug__" : Str)) = false := by decide) (he : starEach (.Name y py :: es) X.env = (false, eval (.Name y py) X.env) :: starEach es X.env := by rfl) (hpl : (backTo pos (starEach es X.env)).any (·.1) = false := by rfl) :
    PE X (.Call (.Name x p) (.Name y py :: es) [] pos) (tD X.K (eCallL j F f)) := by
  obtain ⟨fa, fd, ps, G, hm, hk, hb⟩ := D.ex
  refine (pe_call G hr hg hm hk hb .nil pass0 (pa_cons (pe_var hN hv hd hcd) ha he) hdb he hpl).imp fun σ H Q z => ?_
  obtain ⟨C, Z, S, d, S', R, e1, q⟩ := z
  unfold eCallL at e1
  split at e1
  · next r S1 h1 =>
    cases e1
    refine callL_core D.len R h1 fun v H' Z' sm R' _ hx => ?_
    obtain ⟨H1, Z1, s1, s2, _, rv, fr⟩ := hx
    cases r with
    | d x => exact q v H' Z' sm R' rv
    | f xs =>
      obtain ⟨p, ws, rfl, m1, m2, m3, m4⟩ := rv
      obtain ⟨f1, f2⟩ := fr p m3
      exact q _ H' _ (sm.trans (Same.updNew m2)) (R'.still m1 m2 f1 f2) (.lst (.inl upd_same) (dqAll_mono (Same.updNew m2) m4))
  · cases e1
theorem df_callL (j : Nat) {y : Str} {p py : Pos} {f : EL} (D : DefD X.prog X.w X.K X.mg X.base k x np F) (hr : Room k X.A) (ha : PA X es (tDA X.K f)) (hN : X.N[j]? = some y := by rfl) (hv : Vis X.env.scope y := by first | exact Or.inl rfl | exact Or.inr (Or.inl rfl) | exact Or.inr (Or.inr rfl)) (hd : (y == ("__debug__" : Str)) = false := by decide) (hcd : (y == ("__classdict__" : Str)) = false := by decide)
    (hg : Gl X x := by rfl) (hdb : (x == ("__debug__" : Str)) = false := by decide) (he : starEach (.Name y py :: es) X.env = (false, eval (.Name y py) X.env) :: starEach es X.env := by rfl) (hpl : (backTo pos (starEach es X.env)).any (·.1) = false := by rfl) :
    PE X (.Call (.Name x p) (.Name y py :: es) [] pos) (tF X.K (lCallL j F f)) := by
  obtain ⟨fa, fd, ps, G, hm, hk, hb⟩ := D.ex
  refine (pe_call G hr hg hm hk hb .nil pass0 (pa_cons (pe_var hN hv hd hcd) ha he) hdb he hpl).imp fun σ H Q z => ?_
  obtain ⟨C, Z, S, d, S', R, e1, q⟩ := z
  unfold lCallL at e1
  split at e1
  · next xs S1 h1 =>
    cases e1
    refine callL_core D.len R h1 fun v H' Z' sm R' _ hx => ?_
    obtain ⟨H1, Z1, s1, s2, _, rv, fr⟩ := hx
    obtain ⟨p, ws, rfl, m1, m2, m3, m4⟩ := rv
    obtain ⟨f1, f2⟩ := fr p m3
    exact q p ws H' Z' sm R' m1 m2 f1 f2 m4
  · cases e1
/-- f(script) -/
theorem df_callS (j : Nat) {y : Str} {p py : Pos} (D : DefD X.prog X.w X.K X.mg X.base k x np F) (hr : Room k X.A) (hN : X.N[j]? = some y := by rfl) (hv : Vis X.env.scope y := by first | exact Or.inl rfl | exact Or.inr (Or.inl rfl) | exact Or.inr (Or.inr rfl)) (hd : (y == ("__debug__" : Str)) = false := by decide) (hcd : (y == ("__classdict__" : Str)) = false := by decide)
    (hg : Gl X x := by rfl) (hdb : (x == ("__debug__" : Str)) = false := by decide) (he : starEach [.Name y py] X.env = (false, eval (.Name y py) X.env) :: starEach [] X.env := by rfl) (hpl : (backTo pos (starEach [] X.env)).any (·.1) = false := by rfl) :
    PE X (.Call (.Name x p) [.Name y py] [] pos) (tF X.K (lCallS j F)) := by
  obtain ⟨fa, fd, ps, G, hm, hk, hb⟩ := D.ex
  refine (pe_call G hr hg hm hk hb .nil pass0 (pa_cons (pe_var hN hv hd hcd) pa_nil he) hdb he hpl).imp fun σ H Q z => ?_
  obtain ⟨C, Z, S, d, S', R, e1, q⟩ := z
  unfold lCallS at e1
  split at e1
  · next ns hs =>
    split at e1
    · next xs fin h1 =>
      cases e1
      obtain ⟨a, g1, g2⟩ := R.scr j _ hs
      have A := args_scr (H := H) g2
      refine ⟨.ref a, g1, A.len.trans (D.len _ _ h1), Z, _, none, _, fin, R.sub, A, h1, fun v H2 Z2 a1 a2 a3 a4 a5 a6 => ?_⟩
      obtain ⟨p, ws, rfl, m1, m2, m3, m4⟩ := a6
      exact q p ws H2 Z2 a1 (R.grow a1 a2 (fun b o eb => a4 b o (fun z => nomatch z) eb) a3) m1 m2 (R.h0 m3) (R.apart m3) m4
    · cases e1
  · cases e1
end

/-! ### the law -/
def spLaw (K : PySem.W.Frag) : Sp := fun vs H Q _ => ∃ (a : Addr) (ns : List Int), vs = [.ref a] ∧ SqL K H a (ns.map V.int) ∧ ns.length ≤ 63 ∧ ∀ H', Q (.bl true) H'
theorem law_imp {K : PySem.W.Frag} {F : FnD} (h : ∀ ns : List Int, ns.length ≤ 63 → ∃ fin, F [.scr ns] = some (.d (.bool true), fin)) : ∀ vs H Q E, spLaw K vs H Q E → spG K 1 F vs H Q E := by
  rintro vs H Q E ⟨a, ns, rfl, hs, hl, q⟩
  obtain ⟨fin, hF⟩ := h ns hl
  refine ⟨rfl, H, [.scr ns], none, _, fin, Same.refl _, args_scr hs, hF, fun v H' Z' a1 a2 a3 a4 a5 a6 => ?_⟩
  have a6' : Dq K Z' v (.bool true) := a6
  cases a6'
  exact q H'
end DL

/-! DL8: further rules by data: chains, new lists by + and *, sorted(set(..)), is True. -/
namespace DL
open PySem PySem.Spec PyProof.Rows L2
/-! ### set(l), l a list of ints -/
section
variable {P : Program} {w : World} {A : Around} {E : Value → Shared → Prop} {s : Shared}
/-- a set that is just made -/
def newSet (w : World) : Obj := { cls := .type "set", dict := none, data := .set #[] 0 (.fresh 0 0 (!w.params.followText "set-order")) }
abbrev withSet (w : World) (s : Shared) : Shared := { s with heap := s.heap.push (newSet w) }
def Fills (w : World) (s : Shared) (ns : List Int) (r : Value) (s2 : Shared) : Prop := r = .none ∧ ∃ (h' : Heap) (tk c : Nat), s2 = { s with heap := h', toks := tk } ∧
  SetR w h' s.heap.objs.size (fun j => decide (j ∈ ns)) c ∧ c ≤ ns.length ∧ ∀ b o, s.heap.get? b = some o → h'.get? b = some o
theorem newSet_at : (withSet w s).heap.get? s.heap.objs.size = some (newSet w) := Heap.get?_push_size _ rfl
theorem newSet_type : Shared.TypeIs (withSet w s) (.ref s.heap.objs.size) "set" := ⟨_, newSet_at, rfl⟩
theorem set_list_init {l : Addr} {items : Array Value} {ns : List Int} (hh : A.handled = none) (hl : s.heap.IsList l items) (hit : IntsAre items.toList ns) (hb : ns.length + 1 < scanBound) (hsize : items.size = ns.length) :
    wpAny (model P w) A.in1.in1 (Builtin.«set.__init__» (⟨[Value.ref s.heap.objs.size, Value.ref l], []⟩ : Args)) (fun (fin : PySem.Fin) s' => match fin with
      | .done f => wants (Fills w s ns) E (Except.ok f) s'
      | .again c' => c'.quiet = true ∧ codeAny (model P w) A.in1 c' (wants (Fills w s ns) E) s')
    (fun e s' => wants (Fills w s ns) E (Except.error e) s') (withSet w s) := by
  have hl0 := hl
  rcases hl with ⟨⟨c0, d0, x0, q0⟩, ho, hc, m, hx⟩
  dsimp only at hc hx
  cases hc
  cases hx
  have up : ∀ b o, s.heap.get? b = some o → (withSet w s).heap.get? b = some o := fun b o => Heap.get?_push_of_some _
  have ho' := up l _ ho
  have hl1 : (withSet w s).heap.IsList l items := ⟨_, ho', rfl, m, rfl⟩
  have lt : l < s.heap.objs.size := Heap.lt_size ho
  have sz : (withSet w s).heap.objs.size = s.heap.objs.size + 1 := Heap.size_push ..
  have nd : (Value.type "list" == Value.type "dict") = false := by decide
  obtain ⟨q1, q2⟩ : _ ∧ _ := ⟨F.sub_list_set, F.sub_list_frozenset⟩
  have at1 := newSet_at (w := w) (s := s)
  unfold Builtin.«set.__init__» Builtin.Frozenset.updateFrom noKeywords
  generalize hit' : pyIter = IT
  wp_walk
  cases hit'
  apply wpAny_pyIter_list hl1
  apply wpAny_bind
  apply wpAny_runValue
  have vals : ∀ (i : Nat) (v : Value), items[i]? = some v → ∃ (n : Int) (t : Tok), ns[i]? = some n ∧ v = .int n t := fun i v hv => by
    have hi : i < ns.length := hsize ▸ (Array.getElem?_eq_some_iff.mp hv).1
    rcases IntsAre.int_at hit i v ((Array.getElem?_toList ..).trans hv) with ⟨t, rfl⟩
    exact ⟨ns[i], t, List.getElem?_eq_getElem hi, by rw [List.getD_eq_getElem?_getD, List.getElem?_eq_getElem hi]; rfl⟩
  have ne1 : l ≠ (withSet w s).heap.objs.size := sz ▸ Nat.ne_of_lt (Nat.lt_succ_of_lt lt)
  have walk := (Walks.list (prog := P) (w := w) (A := A.in1.in1.in1) (by simp [hh]) (withSet w s).heap.objs.size l ne1 items).toS
  have out : s.heap.objs.size ∉ [(withSet w s).heap.objs.size, l] := by
    rw [sz]
    simp only [List.mem_cons, List.not_mem_nil, or_false, not_or]
    exact ⟨Nat.ne_of_lt (Nat.lt_succ_self _), Nat.ne_of_gt lt⟩
  refine set_update_ints walk s.heap.objs.size out ns hsize hb vals items.size 0 _ (Nat.sub_zero _) (Nat.zero_le _) ?_ ⟨0, Nat.le_refl 0, setR_new_at (Heap.get?_push_of_some _ at1)⟩ ?_
  · exact ⟨⟨_, Heap.get?_push_size _ rfl, rfl, rfl⟩, hl1.push _⟩
  · rintro ⟨h', g', d', tk', os'⟩ c mv hc hS
    rcases mv with ⟨mv, mg, md, mo, mt⟩
    cases mg
    cases md
    cases mo
    refine wpAny_pure (wpAny_pure ⟨rfl, h', tk', c, rfl, hS, hsize ▸ hc, fun b o e => ?_⟩)
    have bl : b < s.heap.objs.size := Heap.lt_size e
    refine mv b o ?_ (Heap.get?_push_of_some _ (up b o e))
    rw [sz]
    simp only [List.mem_cons, List.not_mem_nil, or_false, not_or]
    exact ⟨Nat.ne_of_lt bl, Nat.ne_of_lt (Nat.lt_succ_of_lt bl)⟩
theorem call_set_intlist {l : Addr} {items : Array Value} {ns : List Int} {Q : Value → Shared → Prop} (hh : A.handled = none) (hl : s.heap.IsList l items) (hit : IntsAre items.toList ns) (hb : ns.length + 1 < scanBound)
    (k : ∀ r s2, Fills w s ns r s2 → Q (.ref s.heap.objs.size) s2) : wpAny (model P w) A (call (.type "set") [.ref l]) Q E s := by
  have hsize : items.size = ns.length := (Array.length_toList (xs := items)).symm.trans (IntsAre.length hit)
  obtain ⟨c, tl, hmro⟩ := F.called_set.mro
  obtain ⟨hmade, hsub, h1, h2, hct⟩ : _ ∧ _ ∧ _ ∧ _ ∧ _ := ⟨F.called_set.made, F.called_set.sub, F.called_set.notType, F.called_set.canCreate, F.typeCall_set_1 (.ref l)⟩
  apply wpAny_call
  apply codeAny_of_tree
  change wpAny _ _ (callAny (.type "set") _) _ _ _
  apply wpAny_pure
  constructor
  · exact Code.quiet_builtin _ (by decide +kernel)
  apply codeAny_builtin F.entry_type_call
  rw [Around.under_plain (weight_type_call_type "set" [.ref l] []) rfl]
  repeat (any_goals (first | assumption | wp_step))
  apply codeAny_mono (R := wants (fun o s1 => o = .ref s.heap.objs.size ∧ s1 = withSet w s) E)
  · exact code_set_led1 _ ⟨rfl, rfl⟩
  intro r s1 hr
  rcases r with e | fl
  · exact hr
  rcases fl with _ | _ | _ | obj
  iterate 3 exact hr.elim
  rcases hr with ⟨rfl, rfl⟩
  obtain ⟨hT, hli, hbi⟩ : _ ∧ _ ∧ _ := ⟨newSet_type (w := w) (s := s), F.called_set.init.lookup, F.called_set.init.bind (.ref s.heap.objs.size)⟩
  repeat (any_goals (first | assumption | wp_step))
  apply codeAny_mono (R := wants (Fills w s ns) E)
  · apply codeAny_call_builtin F.called_set.init.plain F.entry_set_init
    apply check_set_init_1 hT
    exact set_list_init hh hl hit hb hsize
  · intro r2 s2 h2'
    rcases r2 with e | fl
    · exact h2'
    rcases fl with _ | _ | _ | r
    iterate 3 exact h2'.elim
    obtain ⟨rfl, z⟩ : Fills w s ns r s2 := h2'
    repeat (any_goals (first | assumption | wp_step))
    exact k _ _ ⟨rfl, z⟩
end

section
variable {X : Cx} {a b c e : Expr} {pos : Pos}
theorem d_globI2 {x : Str} {i : Int} {pos : Pos} (hg : Gl X x) (hm : ∃ t, X.mg x = some (.int i t)) (hdb : (x == ("__debug__" : Str)) = false := by decide) : PE X (.Name x pos) (tD X.K (eC (.int i))) :=
  let ⟨_, h⟩ := hm; d_globI hg h hdb
/-- a op b op' c -/
def eChain (g g' : PyData → PyData → Option PyData) (fa fb fc : EE) : EE := fun S => match fa S with
  | none => none
  | some (x, S1) => match fb S1 with
    | none => none
    | some (y, S2) => match g x y with
      | some (.bool true) => match fc S2 with
        | none => none
        | some (z, S3) => match g' y z with
          | none => none
          | some w => some (w, S3)
      | some (.bool false) => some (.bool false, S2)
      | _ => none
theorem dChain {K : PySem.W.Frag} {r r' : R2} {g g' : PyData → PyData → Option PyData} {fa fb fc : EE} (h1 : BinD K r g) (h2 : BinD K r' g') : ∀ σ H Q, tD K (eChain g g' fa fb fc) σ H Q → tChain r r' (tD K fa) (tD K fb) (tD K fc) σ H Q := by
  rintro σ H Q ⟨C, Z, S, d, S', R, e, q⟩
  unfold eChain at e
  split at e
  · cases e
  · next x S1 e1 =>
    split at e
    · cases e
    · next y S2 e2 =>
      split at e
      · next e3 =>
        split at e
        · cases e
        · next z S3 e4 =>
          split at e
          · cases e
          · next w e5 =>
            cases e
            refine ⟨C, Z, S, x, S1, R, e1, fun v H1 Z1 sm R1 hv => ⟨C, Z1, S1, y, S2, R1, e2, fun u H2 Z2 sm2 R2 hu => ?_⟩⟩
            refine h1 R2 (dq_mono sm2 hv) hu e3 fun k H3 Z3 sm3 R3 hk => ?_
            cases hk
            exact ⟨true, rfl, iteT ⟨C, Z3, S2, z, S', R3, e4, fun t H4 Z4 sm4 R4 ht => h2 R4 (dq_mono (sm3.trans sm4) hu) ht e5 fun v5 H5 Z5 sm5 R5 h5 => q v5 H5 Z5 (sm.trans (sm2.trans (sm3.trans (sm4.trans sm5)))) R5 h5⟩⟩
      · next e3 =>
        cases e
        refine ⟨C, Z, S, x, S1, R, e1, fun v H1 Z1 sm R1 hv => ⟨C, Z1, S1, y, S', R1, e2, fun u H2 Z2 sm2 R2 hu => ?_⟩⟩
        refine h1 R2 (dq_mono sm2 hv) hu e3 fun k H3 Z3 sm3 R3 hk => ?_
        cases hk
        exact ⟨false, rfl, iteF (q _ H3 Z3 (sm.trans (sm2.trans sm3)) R3 (.bl _))⟩
      · cases e
theorem d_chain {op op' : CmpOp} {r r' : R2} {g g' : PyData → PyData → Option PyData} {fa fb fc : EE} (ho : OpR X (compareOp op) r) (h1 : BinD X.K r g) (ho' : OpR X (compareOp op') r') (h2 : BinD X.K r' g') (ha : PE X a (tD X.K fa)) (hb : PE X b (tD X.K fb)) (hc : PE X c (tD X.K fc)) (hm : lastMarks [op, op'] [b, c] = false := by with_unfolding_all rfl) :
    PE X (.Compare a [op, op'] [b, c] pos) (tD X.K (eChain g g' fa fb fc)) := (pe_chain ho ho' ha hb hc hm).imp (dChain h1 h2)
theorem dt_chain {op op' : CmpOp} {r r' : R2} {g g' : PyData → PyData → Option PyData} {fa fb fc : EE} (ho : OpR X (compareOp op) r) (h1 : BinD X.K r g) (ho' : OpR X (compareOp op') r') (h2 : BinD X.K r' g') (ha : PE X a (tD X.K fa)) (hb : PE X b (tD X.K fb)) (hc : PE X c (tD X.K fc)) (hm : lastMarks [op, op'] [b, c] = false := by with_unfolding_all rfl) :
    PT X (.Compare a [op, op'] [b, c] pos) (tDT X.K (eTest (eChain g g' fa fb fc))) := (pt_chain ho ho' ha hb hc hm).imp fun σ H Q h => by
  obtain ⟨C, Z, S, d, S', R, e, q⟩ := dTest σ H Q h
  exact dChain h1 h2 σ H _ ⟨C, Z, S, d, S', R, e, q⟩
/-! is True, is False: of bools alone -/
def gIsB : PyData → PyData → Option PyData
  | .bool a, .bool b => some (.bool (decide (a = b)))
  | _, _ => none
def gNotB : PyData → PyData → Option PyData
  | .bool a, .bool b => some (.bool (!decide (a = b)))
  | _, _ => none
theorem b_isB {K : PySem.W.Frag} : BinD K rIsB gIsB := by
  intro C Z σ H S x y d e z Q R hx hy g q
  unfold gIsB at g
  split at g
  · cases g; cases hx; cases hy
    exact ⟨_, _, rfl, rfl, q _ H Z (Same.refl _) R (.bl _)⟩
  · cases g
theorem b_notB {K : PySem.W.Frag} : BinD K rNotB gNotB := by
  intro C Z σ H S x y d e z Q R hx hy g q
  unfold gNotB at g
  split at g
  · cases g; cases hx; cases hy
    exact ⟨_, _, rfl, rfl, q _ H Z (Same.refl _) R (.bl _)⟩
  · cases g
/-! ### new lists by + and * -/
def lCat (fa fb : EE) : EL := fun S => match fa S with
  | some (.list xs, S1) => match fb S1 with
    | some (.list ys, S2) => if xs.length + ys.length ≤ 1000000 then some (xs ++ ys, S2) else none
    | _ => none
  | _ => none
theorem df_cat {fa fb : EE} (h1 : PE X a (tD X.K fa)) (h2 : PE X b (tD X.K fb)) : PE X (.BinOp a .Add b pos) (tF X.K (lCat fa fb)) := by
  refine (pe_op op_catR h1 h2).imp fun σ H Q z => ?_
  obtain ⟨C, Z, S, ds, S', R, e1, q⟩ := z
  unfold lCat at e1
  split at e1
  · next xs S1 g1 =>
    split at e1
    · next ys S2 g2 =>
      split at e1
      · next hl =>
        cases e1
        refine ⟨C, Z, S, _, S1, R, g1, fun v H1 Z1 sm R1 hv => ⟨C, Z1, S1, _, S', R1, g2, fun w H2 Z2 sm2 R2 hw => ?_⟩⟩
        cases dq_mono sm2 hv with
        | lst m1 m2 =>
          cases hw with
          | lst m3 m4 =>
            refine ⟨_, _, _, _, rfl, rfl, rd_mono R2.sub m1, rd_mono R2.sub m3, by rw [DqAll.length m2, DqAll.length m4]; exact Nat.le_trans hl million, fun p hp => ?_⟩
            obtain ⟨b1, b2, b3, b4, b5⟩ := df_new R2 hp
            exact q p _ _ Z2 (sm.trans sm2) b1 b2 b3 b4 b5 (DqAll.append m2 m4)
      · cases e1
    · cases e1
  · cases e1
def lRep (fa fb : EE) : EL := fun S => match fa S with
  | some (.list xs, S1) => match fb S1 with
    | some (.int k, S2) => if k ≤ 1000 ∧ xs.length ≤ 1000 ∧ -1000 ≤ k then some ((List.replicate k.toNat xs).flatten, S2) else none
    | _ => none
  | _ => none
theorem df_rep {fa fb : EE} (h1 : PE X a (tD X.K fa)) (h2 : PE X b (tD X.K fb)) : PE X (.BinOp a .Mult b pos) (tF X.K (lRep fa fb)) := by
  refine (pe_op op_repR h1 h2).imp fun σ H Q z => ?_
  obtain ⟨C, Z, S, ds, S', R, e1, q⟩ := z
  unfold lRep at e1
  split at e1
  · next xs S1 g1 =>
    split at e1
    · next k S2 g2 =>
      split at e1
      · next hl =>
        cases e1
        refine ⟨C, Z, S, _, S1, R, g1, fun v H1 Z1 sm R1 hv => ⟨C, Z1, S1, _, S', R1, g2, fun w H2 Z2 sm2 R2 hw => ?_⟩⟩
        cases hw
        cases dq_mono sm2 hv with
        | lst m1 m2 =>
          refine ⟨_, _, _, rfl, rfl, rd_mono R2.sub m1, by omega, by omega, ?_, fun p hp => ?_⟩
          · rw [DqAll.length m2]
            exact Nat.le_trans (Nat.mul_le_mul hl.2.1 (show _ ≤ 1000 by omega)) million
          · obtain ⟨b1, b2, b3, b4, b5⟩ := df_new R2 hp
            exact q p _ _ Z2 (sm.trans sm2) b1 b2 b3 b4 b5 (DqAll.rep m2 _)
      · cases e1
    · cases e1
  · cases e1
/-! ### sorted(set(t)), t a tuple of ints -/
def insD (x : Int) : List Int → List Int
  | [] => [x]
  | y :: ys => if x < y then x :: y :: ys else if x = y then y :: ys else y :: insD x ys
def sortD : List Int → List Int
  | [] => []
  | x :: xs => insD x (sortD xs)
theorem mem_insD {x k : Int} : ∀ {ys : List Int}, k ∈ insD x ys ↔ k = x ∨ k ∈ ys
  | [] => by simp [insD]
  | y :: ys => by
    rw [insD]
    split
    · simp
    · split
      · next h => subst h; simp
      · rw [List.mem_cons, mem_insD, List.mem_cons]
        constructor
        · rintro (h | h | h)
          · exact .inr (.inl h)
          · exact .inl h
          · exact .inr (.inr h)
        · rintro (h | h | h)
          · exact .inr (.inl h)
          · exact .inl h
          · exact .inr (.inr h)
theorem mem_sortD {k : Int} : ∀ {xs : List Int}, k ∈ sortD xs ↔ k ∈ xs
  | [] => by simp [sortD]
  | x :: xs => by rw [sortD, mem_insD, mem_sortD, List.mem_cons]
theorem insD_sorted {x : Int} : ∀ {ys : List Int}, ys.Pairwise (· < ·) → (insD x ys).Pairwise (· < ·)
  | [], _ => by simp [insD]
  | y :: ys, h => by
    rw [insD]
    rw [List.pairwise_cons] at h
    split
    · next hx =>
      rw [List.pairwise_cons, List.pairwise_cons]
      exact ⟨fun z hz => by
        rcases List.mem_cons.mp hz with e | e
        · omega
        · have := h.1 z e; omega, h⟩
    · split
      · rw [List.pairwise_cons]; exact h
      · rw [List.pairwise_cons]
        refine ⟨fun z hz => ?_, insD_sorted h.2⟩
        rcases mem_insD.mp hz with e | e
        · omega
        · exact h.1 z e
theorem sortD_sorted : ∀ xs : List Int, (sortD xs).Pairwise (· < ·)
  | [] => .nil
  | x :: xs => insD_sorted (sortD_sorted xs)
theorem sorted_unique : ∀ {xs ys : List Int}, xs.Pairwise (· < ·) → ys.Pairwise (· < ·) → (∀ k, k ∈ xs ↔ k ∈ ys) → xs = ys
  | [], [], _, _, _ => rfl
  | [], y :: ys, _, _, h => by have := (h y).mpr List.mem_cons_self; cases this
  | x :: xs, [], _, _, h => by have := (h x).mp List.mem_cons_self; cases this
  | x :: xs, y :: ys, h1, h2, h => by
    rw [List.pairwise_cons] at h1 h2
    have e : x = y := by
      rcases List.mem_cons.mp ((h x).mp List.mem_cons_self) with e | e
      · exact e
      · rcases List.mem_cons.mp ((h y).mpr List.mem_cons_self) with e2 | e2
        · exact e2.symm
        · have a1 := h2.1 x e
          have a2 := h1.1 y e2
          omega
    subst e
    rw [sorted_unique h1.2 h2.2 fun k => ?_]
    constructor
    · intro hk
      rcases List.mem_cons.mp ((h k).mp (List.mem_cons_of_mem _ hk)) with e | e
      · have := h1.1 k hk; omega
      · exact e
    · intro hk
      rcases List.mem_cons.mp ((h k).mpr (List.mem_cons_of_mem _ hk)) with e | e
      · have := h2.1 k hk; omega
      · exact e
def rSetT (w : World) (K : PySem.W.Frag) : List V → Hp → VK → Prop := fun vs H Q => ∃ (a : Addr) (ns : List Int), vs = [.ref a] ∧ (SqT K H a (ns.map V.int) ∨ SqL K H a (ns.map V.int)) ∧ ns.length ≤ 1000 ∧ ∀ p c, c ≤ ns.length → H p = none → Q (.ref p) (upd H p (SetO w p (fun j => decide (j ∈ ns)) c))
theorem call_setT (hc : X.calm = true) : CallR X (.type "set") (rSetT X.w X.K) := by
  intro pins s σ H vs us Q I r h
  obtain ⟨a, ns, rfl, hq, hl, q⟩ := h
  rw [Vals.ref1 r]
  rcases hq with hq | hq
  · obtain ⟨its, rv, pt, hz⟩ := I.tuple hq
    have hi : IntsAre its.toArray.toList ns := rv.ints
    refine call_set_tupI ns (I.ok.hd hc) (show s.heap.IsTuple a its.toArray from pt) hi (by unfold scanBound; omega) fun h' tk c R1 hcn k => ?_
    exact ⟨.ref _, _, I.laid (t' := tk) k (Nat.le_refl _) (setO_new R1), rfl, q _ c hcn (I.hok.fresh (Nat.le_refl _))⟩
  · obtain ⟨its, rv, pl, hz⟩ := I.list hq
    have hi : IntsAre its.toArray.toList ns := rv.ints
    refine call_set_intlist (I.ok.hd hc) pl.isList hi (by unfold scanBound; omega) fun r2 s2 z => ?_
    obtain ⟨_, h', tk, c, rfl, R1, hcn, k⟩ := z
    exact ⟨.ref _, _, I.laid (t' := tk) k (Nat.le_refl _) (setO_new R1), rfl, q _ c hcn (I.hok.fresh (Nat.le_refl _))⟩
def lSortSet (f : EE) : EL := fun S => match f S with
  | some (.tuple xs, S1) => match intsD xs with
    | some ns => if ns.length < 64 then some ((sortD ns).map PyData.int, S1) else none
    | none => none
  | some (.list xs, S1) => match intsD xs with
    | some ns => if ns.length < 64 then some ((sortD ns).map PyData.int, S1) else none
    | none => none
  | _ => none
theorem df_sortedSet {f : EE} {x y : Str} {p q p2 : Pos} (hm : X.mg x = none) (hm2 : X.mg y = none) (h : PE X a (tD X.K f)) (hg : Gl X x := by rfl) (hv : bootBuiltins x = some (.builtin "sorted") := by decide +kernel) (hn : x ≠ "__name__" := by decide) (hdb : (x == ("__debug__" : Str)) = false := by decide)
    (hg2 : Gl X y := by rfl) (hv2 : bootBuiltins y = some (.type "set") := by decide +kernel) (hn2 : y ≠ "__name__" := by decide) (hdb2 : (y == ("__debug__" : Str)) = false := by decide) (hc : X.calm = true := by rfl)
    (he : starEach [a] X.env = (false, eval a X.env) :: starEach [] X.env := by rfl) (he2 : starEach [.Call (.Name y p2) [a] [] q] X.env = (false, eval (.Call (.Name y p2) [a] [] q) X.env) :: starEach [] X.env := by rfl) :
    PE X (.Call (.Name x p) [.Call (.Name y p2) [a] [] q] [] pos) (tF X.K (lSortSet f)) := by
  refine (pe_callB (cr_sortedSet hc) hg hm hv (pa_cons (pe_callTy (call_setT hc) hg2 hm2 hv2 (pa_cons h pa_nil he) hn2 hdb2 he) pa_nil he2) hn hdb he2).imp fun σ H Q z => ?_
  obtain ⟨C, Z, S, ds, S', R, e1, q⟩ := z
  unfold lSortSet at e1
  split at e1
  · next xs S1 g1 =>
    split at e1
    · next ns g2 =>
      split at e1
      · next hl =>
        cases e1
        refine ⟨C, Z, S, _, S', R, g1, fun v H1 Z1 sm R1 hv => ?_⟩
        cases hv with
        | tup m1 m2 =>
          have ev := intsD_dq m2 g2
          subst ev
          refine ⟨_, ns, rfl, .inl (sqT_mono R1.sub m1), by omega, fun p2 c hcn hp2 => ?_⟩
          refine ⟨p2, _, c, rfl, upd_same, by omega, fun ns' p3 hs hmem hlen hp3 => ?_⟩
          have e : ns' = sortD ns := sorted_unique hs (sortD_sorted ns) fun k => by
            rw [hmem k, mem_sortD, decide_eq_true_eq]
          subst e
          have R2 := R1.newU (o := SetO X.w p2 (fun j => decide (j ∈ ns)) c) hp2
          obtain ⟨b1, b2, b3, b4, b5⟩ := df_new R2 (ws := (sortD ns).map V.int) hp3
          exact q p3 _ _ Z1 sm b1 b2 b3 b4 b5 (dqAll_ints _)
      · cases e1
    · cases e1
  · next xs S1 g1 =>
    split at e1
    · next ns g2 =>
      split at e1
      · next hl =>
        cases e1
        refine ⟨C, Z, S, _, S', R, g1, fun v H1 Z1 sm R1 hv => ?_⟩
        cases hv with
        | lst m1 m2 =>
          have ev := intsD_dq m2 g2
          subst ev
          refine ⟨_, ns, rfl, .inr (.inl (rd_mono R1.sub m1)), by omega, fun p2 c hcn hp2 => ?_⟩
          refine ⟨p2, _, c, rfl, upd_same, by omega, fun ns' p3 hs hmem hlen hp3 => ?_⟩
          have e : ns' = sortD ns := sorted_unique hs (sortD_sorted ns) fun k => by
            rw [hmem k, mem_sortD, decide_eq_true_eq]
          subst e
          have R2 := R1.newU (o := SetO X.w p2 (fun j => decide (j ∈ ns)) c) hp2
          obtain ⟨b1, b2, b3, b4, b5⟩ := df_new R2 (ws := (sortD ns).map V.int) hp3
          exact q p3 _ _ Z1 sm b1 b2 b3 b4 b5 (dqAll_ints _)
      · cases e1
    · cases e1
  · cases e1
end
/-! ### a def that is not called any more -/
theorem never_fn {P : Program} {w : World} {K : PySem.W.Frag} {mg : Str → Option Value} {base : Heap} {x qual : Str} {st : Stmt} {f : Addr} {fd : FuncData} {N ps : List Str} {k np : Nat} (F : Fun K x qual st f fd) (S : FnScope N ps (defScope st)) : FnOk P w K mg base CX0 (k + 1) f fd ps (spG K np fun _ => none) := by
  refine F.ok S (fun vs H Q E h => ?_) fun cdv A outer s H vs Q E hr h => ?_
  · obtain ⟨_, _, _, _, _, _, _, _, h, _⟩ := h
    cases h
  · obtain ⟨_, _, _, _, _, _, _, _, h, _⟩ := h
    cases h
end DL

/-! DLE: how the functions by data are worked out: lemmas for loops, comprehensions, isinstance, comparisons of encoded data. -/
namespace DL
open PySem PySem.Spec PyProof.Rows L2
theorem isi_int_none : gIsi "int" .none = some (.bool false) := by
  unfold gIsi
  rw [show kitB (tyD .none) "int" = some false from (show kitB "NoneType" "int" = some false by decide +kernel)]
theorem isi_int_bool (b : Bool) : gIsi "int" (.bool b) = some (.bool true) := by
  unfold gIsi
  rw [show kitB (tyD (.bool b)) "int" = some true from (show kitB "bool" "int" = some true by decide +kernel)]
theorem isi_int_int (b : Int) : gIsi "int" (.int b) = some (.bool true) := by
  unfold gIsi
  rw [show kitB (tyD (.int b)) "int" = some true from (show kitB "int" "int" = some true by decide +kernel)]
theorem isi_int_str (b : Str) : gIsi "int" (.str b) = some (.bool false) := by
  unfold gIsi
  rw [show kitB (tyD (.str b)) "int" = some false from (show kitB "str" "int" = some false by decide +kernel)]
theorem isi_int_list (b : List PyData) : gIsi "int" (.list b) = some (.bool false) := by
  unfold gIsi
  rw [show kitB (tyD (.list b)) "int" = some false from (show kitB "list" "int" = some false by decide +kernel)]
theorem isi_int_tuple (b : List PyData) : gIsi "int" (.tuple b) = some (.bool false) := by
  unfold gIsi
  rw [show kitB (tyD (.tuple b)) "int" = some false from (show kitB "tuple" "int" = some false by decide +kernel)]
theorem isi_bool_none : gIsi "bool" .none = some (.bool false) := by
  unfold gIsi
  rw [show kitB (tyD .none) "bool" = some false from (show kitB "NoneType" "bool" = some false by decide +kernel)]
theorem isi_bool_bool (b : Bool) : gIsi "bool" (.bool b) = some (.bool true) := by
  unfold gIsi
  rw [show kitB (tyD (.bool b)) "bool" = some true from (show kitB "bool" "bool" = some true by decide +kernel)]
theorem isi_bool_int (b : Int) : gIsi "bool" (.int b) = some (.bool false) := by
  unfold gIsi
  rw [show kitB (tyD (.int b)) "bool" = some false from (show kitB "int" "bool" = some false by decide +kernel)]
theorem isi_bool_str (b : Str) : gIsi "bool" (.str b) = some (.bool false) := by
  unfold gIsi
  rw [show kitB (tyD (.str b)) "bool" = some false from (show kitB "str" "bool" = some false by decide +kernel)]
theorem isi_bool_list (b : List PyData) : gIsi "bool" (.list b) = some (.bool false) := by
  unfold gIsi
  rw [show kitB (tyD (.list b)) "bool" = some false from (show kitB "list" "bool" = some false by decide +kernel)]
theorem isi_bool_tuple (b : List PyData) : gIsi "bool" (.tuple b) = some (.bool false) := by
  unfold gIsi
  rw [show kitB (tyD (.tuple b)) "bool" = some false from (show kitB "tuple" "bool" = some false by decide +kernel)]
theorem isi_tuple_none : gIsi "tuple" .none = some (.bool false) := by
  unfold gIsi
  rw [show kitB (tyD .none) "tuple" = some false from (show kitB "NoneType" "tuple" = some false by decide +kernel)]
theorem isi_tuple_bool (b : Bool) : gIsi "tuple" (.bool b) = some (.bool false) := by
  unfold gIsi
  rw [show kitB (tyD (.bool b)) "tuple" = some false from (show kitB "bool" "tuple" = some false by decide +kernel)]
theorem isi_tuple_int (b : Int) : gIsi "tuple" (.int b) = some (.bool false) := by
  unfold gIsi
  rw [show kitB (tyD (.int b)) "tuple" = some false from (show kitB "int" "tuple" = some false by decide +kernel)]
theorem isi_tuple_str (b : Str) : gIsi "tuple" (.str b) = some (.bool false) := by
  unfold gIsi
  rw [show kitB (tyD (.str b)) "tuple" = some false from (show kitB "str" "tuple" = some false by decide +kernel)]
theorem isi_tuple_list (b : List PyData) : gIsi "tuple" (.list b) = some (.bool false) := by
  unfold gIsi
  rw [show kitB (tyD (.list b)) "tuple" = some false from (show kitB "list" "tuple" = some false by decide +kernel)]
theorem isi_tuple_tuple (b : List PyData) : gIsi "tuple" (.tuple b) = some (.bool true) := by
  unfold gIsi
  rw [show kitB (tyD (.tuple b)) "tuple" = some true from (show kitB "tuple" "tuple" = some true by decide +kernel)]
theorem isi_list_none : gIsi "list" .none = some (.bool false) := by
  unfold gIsi
  rw [show kitB (tyD .none) "list" = some false from (show kitB "NoneType" "list" = some false by decide +kernel)]
theorem isi_list_bool (b : Bool) : gIsi "list" (.bool b) = some (.bool false) := by
  unfold gIsi
  rw [show kitB (tyD (.bool b)) "list" = some false from (show kitB "bool" "list" = some false by decide +kernel)]
theorem isi_list_int (b : Int) : gIsi "list" (.int b) = some (.bool false) := by
  unfold gIsi
  rw [show kitB (tyD (.int b)) "list" = some false from (show kitB "int" "list" = some false by decide +kernel)]
theorem isi_list_str (b : Str) : gIsi "list" (.str b) = some (.bool false) := by
  unfold gIsi
  rw [show kitB (tyD (.str b)) "list" = some false from (show kitB "str" "list" = some false by decide +kernel)]
theorem isi_list_list (b : List PyData) : gIsi "list" (.list b) = some (.bool true) := by
  unfold gIsi
  rw [show kitB (tyD (.list b)) "list" = some true from (show kitB "list" "list" = some true by decide +kernel)]
theorem isi_list_tuple (b : List PyData) : gIsi "list" (.tuple b) = some (.bool false) := by
  unfold gIsi
  rw [show kitB (tyD (.tuple b)) "list" = some false from (show kitB "tuple" "list" = some false by decide +kernel)]
theorem isi_str_none : gIsi "str" .none = some (.bool false) := by
  unfold gIsi
  rw [show kitB (tyD .none) "str" = some false from (show kitB "NoneType" "str" = some false by decide +kernel)]
theorem isi_str_bool (b : Bool) : gIsi "str" (.bool b) = some (.bool false) := by
  unfold gIsi
  rw [show kitB (tyD (.bool b)) "str" = some false from (show kitB "bool" "str" = some false by decide +kernel)]
theorem isi_str_int (b : Int) : gIsi "str" (.int b) = some (.bool false) := by
  unfold gIsi
  rw [show kitB (tyD (.int b)) "str" = some false from (show kitB "int" "str" = some false by decide +kernel)]
theorem isi_str_str (b : Str) : gIsi "str" (.str b) = some (.bool true) := by
  unfold gIsi
  rw [show kitB (tyD (.str b)) "str" = some true from (show kitB "str" "str" = some true by decide +kernel)]
theorem isi_str_list (b : List PyData) : gIsi "str" (.list b) = some (.bool false) := by
  unfold gIsi
  rw [show kitB (tyD (.list b)) "str" = some false from (show kitB "list" "str" = some false by decide +kernel)]
theorem isi_str_tuple (b : List PyData) : gIsi "str" (.tuple b) = some (.bool false) := by
  unfold gIsi
  rw [show kitB (tyD (.tuple b)) "str" = some false from (show kitB "tuple" "str" = some false by decide +kernel)]
/-! ### data of ints, of rows -/
abbrev dLine (l : List Int) : PyData := .tuple (l.map PyData.int)
abbrev dRows (a : List (List Int)) : PyData := .tuple (a.map dLine)
theorem canLay_ints : ∀ l : List Int, PyData.canLayAll0 (l.map PyData.int) = true
  | [] => by rw [List.map_nil, PyData.canLayAll0]
  | x :: l => by rw [List.map_cons, PyData.canLayAll0, PyData.canLay0, canLay_ints l]; rfl
theorem depth_ints : ∀ l : List Int, PyData.depthAll (l.map PyData.int) = 0
  | [] => by rw [List.map_nil, PyData.depthAll]
  | x :: l => by rw [List.map_cons, PyData.depthAll, PyData.depth, depth_ints l]; rfl
theorem shaped_int (i : Int) : SeqAt.shaped (.int i) = true := by
  unfold SeqAt.shaped
  rw [PyData.canLay0, PyData.depth]; rfl
theorem shaped_bool (i : Bool) : SeqAt.shaped (.bool i) = true := by
  unfold SeqAt.shaped
  rw [PyData.canLay0, PyData.depth]; rfl
theorem shaped_none : SeqAt.shaped .none = true := by
  unfold SeqAt.shaped
  rw [PyData.canLay0, PyData.depth]; rfl
theorem shaped_line (l : List Int) : SeqAt.shaped (dLine l) = true := by
  unfold SeqAt.shaped dLine
  rw [PyData.canLay0, PyData.depth, canLay_ints, depth_ints]; rfl
theorem canLay_rows : ∀ a : List (List Int), PyData.canLayAll0 (a.map dLine) = true
  | [] => by rw [List.map_nil, PyData.canLayAll0]
  | x :: l => by
    rw [List.map_cons, PyData.canLayAll0, canLay_rows l, Bool.and_true]
    unfold dLine
    rw [PyData.canLay0]
    exact canLay_ints x
theorem depth_rows : ∀ a : List (List Int), PyData.depthAll (a.map dLine) ≤ 1
  | [] => by rw [List.map_nil, PyData.depthAll]; omega
  | x :: l => by
    have h := depth_rows l
    rw [List.map_cons, PyData.depthAll]
    unfold dLine at h ⊢
    rw [PyData.depth, depth_ints]
    omega
theorem shaped_rows (a : List (List Int)) : SeqAt.shaped (dRows a) = true := by
  have h := depth_rows a
  unfold SeqAt.shaped dRows
  rw [PyData.canLay0, PyData.depth, canLay_rows, Bool.true_and, decide_eq_true_eq]
  omega
theorem eqv_ints : ∀ l m : List Int, PyData.eqvAll (l.map PyData.int) (m.map PyData.int) = decide (l = m)
  | [], [] => by simp [PyData.eqvAll]
  | [], _ :: _ => by simp [PyData.eqvAll]
  | _ :: _, [] => by simp [PyData.eqvAll]
  | x :: l, y :: m => by
    rw [List.map_cons, List.map_cons, PyData.eqvAll, PyData.eqv, eqv_ints l m]
    by_cases h : x = y <;> by_cases h2 : l = m <;> simp [h, h2]
theorem eqv_int (i j : Int) : PyData.eqv (.int i) (.int j) = decide (i = j) := by
  rw [PyData.eqv]
  by_cases h : i = j <;> simp [h]
theorem eqv_line (l m : List Int) : PyData.eqv (dLine l) (dLine m) = decide (l = m) := by
  unfold dLine
  rw [PyData.eqv, eqv_ints]
theorem eqv_lines : ∀ a b : List (List Int), PyData.eqvAll (a.map dLine) (b.map dLine) = decide (a = b)
  | [], [] => by simp [PyData.eqvAll]
  | [], _ :: _ => by simp [PyData.eqvAll]
  | _ :: _, [] => by simp [PyData.eqvAll]
  | x :: l, y :: m => by
    rw [List.map_cons, List.map_cons, PyData.eqvAll, eqv_line, eqv_lines l m]
    by_cases h : x = y <;> by_cases h2 : l = m <;> simp [h, h2]
theorem eqv_rows (a b : List (List Int)) : PyData.eqv (dRows a) (dRows b) = decide (a = b) := by
  unfold dRows
  rw [PyData.eqv, eqv_lines]
theorem gEq_int (i j : Int) : gEq (.int i) (.int j) = some (.bool (decide (i = j))) := by
  unfold gEq; rw [if_pos ⟨shaped_int i, shaped_int j⟩, eqv_int]
theorem gNe_int (i j : Int) : gNe (.int i) (.int j) = some (.bool (!decide (i = j))) := by
  unfold gNe; rw [if_pos ⟨shaped_int i, shaped_int j⟩, eqv_int]
theorem gEq_line (i j : List Int) : gEq (dLine i) (dLine j) = some (.bool (decide (i = j))) := by
  unfold gEq; rw [if_pos ⟨shaped_line i, shaped_line j⟩, eqv_line]
theorem gNe_line (i j : List Int) : gNe (dLine i) (dLine j) = some (.bool (!decide (i = j))) := by
  unfold gNe; rw [if_pos ⟨shaped_line i, shaped_line j⟩, eqv_line]
theorem gEq_rows (i j : List (List Int)) : gEq (dRows i) (dRows j) = some (.bool (decide (i = j))) := by
  unfold gEq; rw [if_pos ⟨shaped_rows i, shaped_rows j⟩, eqv_rows]
theorem gNe_rows (i j : List (List Int)) : gNe (dRows i) (dRows j) = some (.bool (!decide (i = j))) := by
  unfold gNe; rw [if_pos ⟨shaped_rows i, shaped_rows j⟩, eqv_rows]
theorem eqv_bool (i j : Bool) : PyData.eqv (.bool i) (.bool j) = decide (i = j) := by
  rw [PyData.eqv]
  cases i <;> cases j <;> rfl
theorem gEq_bool (i j : Bool) : gEq (.bool i) (.bool j) = some (.bool (decide (i = j))) := by
  unfold gEq; rw [if_pos ⟨shaped_bool i, shaped_bool j⟩, eqv_bool]
theorem gNe_bool (i j : Bool) : gNe (.bool i) (.bool j) = some (.bool (!decide (i = j))) := by
  unfold gNe; rw [if_pos ⟨shaped_bool i, shaped_bool j⟩, eqv_bool]

/-! ### places -/
theorem atI_int {α : Type} (xs : List α) (i : Nat) (h : i < xs.length) : L2.atI xs (i : Int) = some xs[i] := atI_nat (List.getElem?_eq_getElem h)
theorem atI_of {α : Type} {xs : List α} {k : Int} {v : α} (h0 : 0 ≤ k) (h : xs[k.toNat]? = some v) : L2.atI xs k = some v := by
  have e : ((k.toNat : Nat) : Int) = k := Int.toNat_of_nonneg h0
  rw [← e]
  exact atI_nat h
theorem ixN_of {n : Nat} {k : Int} (h0 : 0 ≤ k) (h : k < n) : ixN n k = some k.toNat := by
  unfold ixN
  rw [if_pos h0, if_pos h]
theorem ixN_0 (n : Nat) : ixN (n + 1) 0 = some 0 := ixN_of (by omega) (by omega)
theorem ixN_1 (n : Nat) : ixN (n + 2) 1 = some 1 := ixN_of (by omega) (by omega)
theorem ixN_2 (n : Nat) : ixN (n + 3) 2 = some 2 := ixN_of (by omega) (by omega)
theorem ixN_3 (n : Nat) : ixN (n + 4) 3 = some 3 := ixN_of (by omega) (by omega)
theorem ixN_4 (n : Nat) : ixN (n + 5) 4 = some 4 := ixN_of (by omega) (by omega)
section
variable {α : Type} (a b c d e : α) (l : List α)
theorem atI_0 : L2.atI (a :: l) 0 = some a := atI_of (by omega) rfl
theorem atI_1 : L2.atI (a :: b :: l) 1 = some b := atI_of (by omega) rfl
theorem atI_2 : L2.atI (a :: b :: c :: l) 2 = some c := atI_of (by omega) rfl
theorem atI_3 : L2.atI (a :: b :: c :: d :: l) 3 = some d := atI_of (by omega) rfl
theorem atI_4 : L2.atI (a :: b :: c :: d :: e :: l) 4 = some e := atI_of (by omega) rfl
end
/-! ### loops -/
theorem forL_inv {α : Type} {tg : Tg} {g : SF} (enc : α → PyData) (P : List α → Sls → Prop) : ∀ (xs pre : List α) (S : Sls), P pre S →
    (∀ (pre : List α) (x : α) (S : Sls), x ∈ xs → P pre S → ∃ S1 S2, bindT tg (enc x) S = some S1 ∧ (g S1 = some (.nx S2) ∨ g S1 = some (.ct S2)) ∧ P (pre ++ [x]) S2) → ∃ S', forL tg g (xs.map enc) S = some (.nx S') ∧ P (pre ++ xs) S'
  | [], pre, S, h, _ => ⟨S, rfl, by rw [List.append_nil]; exact h⟩
  | x :: xs, pre, S, h, hs => by
    obtain ⟨S1, S2, h1, h2, h3⟩ := hs pre x S List.mem_cons_self h
    obtain ⟨S', h4, h5⟩ := forL_inv enc P xs (pre ++ [x]) S2 h3 fun p y S hy => hs p y S (List.mem_cons_of_mem _ hy)
    refine ⟨S', ?_, by rw [List.append_assoc] at h5; exact h5⟩
    rw [List.map_cons, forL]
    rcases h2 with h2 | h2 <;> simp only [h1, h2] <;> exact h4
/-- a state that is turned by each item: the state as a function of what it stands for -/
theorem forL_run {α β : Type} {tg : Tg} {g : SF} (enc : α → PyData) (P : β → Sls → Prop) (step : β → α → β) : ∀ (xs : List α) (b : β) (S : Sls), P b S →
    (∀ (b : β) (x : α) (S : Sls), x ∈ xs → P b S → ∃ S1 S2, bindT tg (enc x) S = some S1 ∧ (g S1 = some (.nx S2) ∨ g S1 = some (.ct S2)) ∧ P (step b x) S2) → ∃ S', forL tg g (xs.map enc) S = some (.nx S') ∧ P (xs.foldl step b) S'
  | [], b, S, h, _ => ⟨S, rfl, h⟩
  | x :: xs, b, S, h, hs => by
    obtain ⟨S1, S2, h1, h2, h3⟩ := hs b x S List.mem_cons_self h
    obtain ⟨S', h4, h5⟩ := forL_run enc P step xs (step b x) S2 h3 fun p y S hy => hs p y S (List.mem_cons_of_mem _ hy)
    refine ⟨S', ?_, h5⟩
    rw [List.map_cons, forL]
    rcases h2 with h2 | h2 <;> simp only [h1, h2] <;> exact h4
/-- a comprehension whose element leaves the state as it was -/
theorem lcL_map {α : Type} {tg : Tg} {vs : List Nat} {tt : EB} {te : EE} (enc : α → PyData) (h : α → PyData) (S : Sls) : ∀ (xs : List α),
    (∀ x ∈ xs, ∃ S1 S2 S3, bindT tg (enc x) S = some S1 ∧ tt S1 = some (true, S2) ∧ te S2 = some (h x, S3) ∧ wipeS S3 vs = S) → lcL tg vs tt te (xs.map enc) S = some (xs.map h, S)
  | [], _ => rfl
  | x :: xs, hs => by
    obtain ⟨S1, S2, S3, h1, h2, h3, h4⟩ := hs x List.mem_cons_self
    rw [List.map_cons, lcL]
    simp only [h1, h2, h3, h4]
    rw [lcL_map enc h S xs fun y hy => hs y (List.mem_cons_of_mem _ hy)]
    rfl
/-- .. with a test -/
theorem lcL_filter {α : Type} {tg : Tg} {vs : List Nat} {tt : EB} {te : EE} (enc : α → PyData) (p : α → Bool) (h : α → PyData) (S : Sls) : ∀ (xs : List α),
    (∀ x ∈ xs, ∃ S1 S2 S3, bindT tg (enc x) S = some S1 ∧ tt S1 = some (p x, S2) ∧ (p x = true → te S2 = some (h x, S3)) ∧ (p x = true → wipeS S3 vs = S) ∧ (p x = false → wipeS S2 vs = S)) → lcL tg vs tt te (xs.map enc) S = some ((xs.filter p).map h, S)
  | [], _ => rfl
  | x :: xs, hs => by
    obtain ⟨S1, S2, S3, h1, h2, h3, h4, h5⟩ := hs x List.mem_cons_self
    rw [List.map_cons, lcL]
    have ih := lcL_filter enc p h S xs fun y hy => hs y (List.mem_cons_of_mem _ hy)
    cases hp : p x with
    | true =>
      simp only [h1, h2, hp, h3 hp, h4 hp]
      rw [ih, List.filter_cons_of_pos hp, List.map_cons]
    | false =>
      simp only [h1, h2, hp, h5 hp]
      rw [ih, List.filter_cons_of_neg (by rw [hp]; exact Bool.false_ne_true)]
/-- a comprehension whose element may turn the state; P holds of each state, R of each item -/
theorem lcL_inv {α : Type} {tg : Tg} {vs : List Nat} {tt : EB} {te : EE} (enc : α → PyData) (P : Sls → Prop) (R : α → PyData → Prop) : ∀ (xs : List α) (S : Sls), P S →
    (∀ x S, x ∈ xs → P S → ∃ S1 S2 d S3, bindT tg (enc x) S = some S1 ∧ tt S1 = some (true, S2) ∧ te S2 = some (d, S3) ∧ P (wipeS S3 vs) ∧ R x d) →
      ∃ ds S', lcL tg vs tt te (xs.map enc) S = some (ds, S') ∧ P S' ∧ ds.length = xs.length ∧ ∀ d ∈ ds, ∃ x ∈ xs, R x d
  | [], S, hS, _ => ⟨[], S, rfl, hS, rfl, fun d hd => by cases hd⟩
  | x :: xs, S, hS, hs => by
    obtain ⟨S1, S2, d, S3, h1, h2, h3, h4, h5⟩ := hs x S List.mem_cons_self hS
    obtain ⟨ds, S', g1, g2, g3, g4⟩ := lcL_inv enc P R xs _ h4 fun y S hy => hs y S (List.mem_cons_of_mem _ hy)
    refine ⟨d :: ds, S', ?_, g2, by rw [List.length_cons, g3, List.length_cons], fun e he => ?_⟩
    · rw [List.map_cons, lcL]
      simp only [h1, h2, h3, g1]
    · rcases List.mem_cons.mp he with e1 | e1
      · subst e1; exact ⟨x, List.mem_cons_self, h5⟩
      · obtain ⟨y, hy, r⟩ := g4 e e1
        exact ⟨y, List.mem_cons_of_mem _ hy, r⟩
theorem rangeD_nat (n : Nat) : rangeD 0 n = (List.range n).map fun (i : Nat) => PyData.int i := by
  unfold rangeD
  rw [show ((n : Int) - 0).toNat = n by omega]
  apply List.map_congr_left
  intro a _
  rw [Int.zero_add]
theorem rOk_small {i : Int} (h : -1000000 ≤ i) (h2 : i ≤ 1000000) : rOk i = true := by
  unfold rOk
  simp only [Bool.and_eq_true, decide_eq_true_eq]
  omega

/-! ### lines and rows seen as tuples -/
theorem dLine_eq (l : List Int) : dLine l = .tuple (l.map PyData.int) := rfl
theorem dRows_eq (a : List (List Int)) : dRows a = .tuple (a.map dLine) := rfl
theorem tup_ints (l : List Int) : PyData.tuple (l.map PyData.int) = dLine l := rfl
theorem tup_lines (a : List (List Int)) : PyData.tuple (a.map dLine) = dRows a := rfl
theorem itemsD_line (l : List Int) : itemsD (dLine l) = some (l.map PyData.int) := rfl
theorem itemsD_rows (a : List (List Int)) : itemsD (dRows a) = some (a.map dLine) := rfl
theorem gLen_line (l : List Int) : gLen [dLine l] = some (.int l.length) := by
  show some (PyData.int ((l.map PyData.int).length : Nat)) = _
  rw [List.length_map]
theorem gLen_rows (a : List (List Int)) : gLen [dRows a] = some (.int a.length) := by
  show some (PyData.int ((a.map dLine).length : Nat)) = _
  rw [List.length_map]
theorem gTupO_ints (l : List Int) : gTupO [.list (l.map PyData.int)] = some (dLine l) := rfl
theorem gTupO_lines (a : List (List Int)) : gTupO [.list (a.map dLine)] = some (dRows a) := rfl
theorem gTupO_line (l : List Int) : gTupO [dLine l] = some (dLine l) := rfl
theorem gTupO_rows (a : List (List Int)) : gTupO [dRows a] = some (dRows a) := rfl
theorem gListO_line (l : List Int) : gListO [dLine l] = some (l.map PyData.int) := rfl
theorem gListO_rows (a : List (List Int)) : gListO [dRows a] = some (a.map dLine) := rfl
theorem gIx_line {l : List Int} {k : Int} {v : Int} (h0 : 0 ≤ k) (h : l[k.toNat]? = some v) : gIx (dLine l) (.int k) = some (.int v) := by
  show L2.atI (l.map PyData.int) k = some (.int v)
  exact atI_of h0 (by rw [List.getElem?_map, h]; rfl)
theorem gIx_rows {a : List (List Int)} {k : Int} {v : List Int} (h0 : 0 ≤ k) (h : a[k.toNat]? = some v) : gIx (dRows a) (.int k) = some (dLine v) := by
  show L2.atI (a.map dLine) k = some (dLine v)
  exact atI_of h0 (by rw [List.getElem?_map, h]; rfl)
theorem gIx_lineN {l : List Int} {k : Nat} {v : Int} (h : l[k]? = some v) : gIx (dLine l) (.int (k : Int)) = some (.int v) := gIx_line (by omega) h
theorem gIx_rowsN {a : List (List Int)} {k : Nat} {v : List Int} (h : a[k]? = some v) : gIx (dRows a) (.int (k : Int)) = some (dLine v) := gIx_rows (by omega) h
theorem gIx_ints {l : List Int} {k : Int} {v : Int} (h0 : 0 ≤ k) (h : l[k.toNat]? = some v) : gIx (.list (l.map PyData.int)) (.int k) = some (.int v) := gIx_line h0 h
theorem gIx_lines {a : List (List Int)} {k : Int} {v : List Int} (h0 : 0 ≤ k) (h : a[k.toNat]? = some v) : gIx (.list (a.map dLine)) (.int k) = some (dLine v) := gIx_rows h0 h
theorem isi_tuple_line (l : List Int) : gIsi "tuple" (dLine l) = some (.bool true) := isi_tuple_tuple _
theorem isi_tuple_rows (a : List (List Int)) : gIsi "tuple" (dRows a) = some (.bool true) := isi_tuple_tuple _
theorem gSum_ints (l : List Int) : gSum [.list (l.map PyData.int)] = some (.int l.sum) := by
  unfold gSum
  simp only [intsD_map]
theorem gAll_bools (l : List Bool) : gAll [.list (l.map PyData.bool)] = some (.bool (l.all id)) := by
  unfold gAll
  simp only [blsD_map]
theorem gAny_bools (l : List Bool) : gAny [.list (l.map PyData.bool)] = some (.bool (l.any id)) := by
  unfold gAny
  simp only [blsD_map]
theorem gAll_map {α : Type} (p : α → Bool) (l : List α) : gAll [.list (l.map fun x => PyData.bool (p x))] = some (.bool (l.all p)) := by
  have h := gAll_bools (l.map p)
  rw [List.map_map] at h
  rw [show (l.map fun x => PyData.bool (p x)) = l.map (PyData.bool ∘ p) from rfl, h, List.all_map]
  rfl
theorem gAny_map {α : Type} (p : α → Bool) (l : List α) : gAny [.list (l.map fun x => PyData.bool (p x))] = some (.bool (l.any p)) := by
  have h := gAny_bools (l.map p)
  rw [List.map_map] at h
  rw [show (l.map fun x => PyData.bool (p x)) = l.map (PyData.bool ∘ p) from rfl, h, List.any_map]
  rfl
theorem gSum_map {α : Type} (f : α → Int) (l : List α) : gSum [.list (l.map fun x => PyData.int (f x))] = some (.int (l.map f).sum) := by
  have h := gSum_ints (l.map f)
  rw [List.map_map] at h
  exact h
def cutZ {α : Type} (xs : List α) (lo hi : Option Int) : List α := (xs.drop (HT.sIx xs.length 0 lo)).take (HT.sIx xs.length xs.length hi - HT.sIx xs.length 0 lo)
theorem cutD_map {α : Type} (f : α → PyData) (xs : List α) (lo hi : Option Int) : cutD (xs.map f) lo hi = (cutZ xs lo hi).map f := by
  unfold cutD cutZ
  rw [List.length_map, List.map_take, List.map_drop]
theorem cutZ_from {α : Type} (xs : List α) (k : Nat) : cutZ xs (some (k : Int)) none = xs.drop k := by
  unfold cutZ
  rw [HT.sIx_none, HT.sIx_nat]
  by_cases h : k ≤ xs.length
  · rw [Nat.min_eq_left h, List.take_of_length_le (by rw [List.length_drop]; exact Nat.le_refl _)]
  · rw [Nat.min_eq_right (by omega), List.drop_length, List.drop_eq_nil_of_le (by omega)]
    simp
theorem cutZ_to {α : Type} (xs : List α) (k : Nat) : cutZ xs none (some (k : Int)) = xs.take k := by
  unfold cutZ
  rw [HT.sIx_none, HT.sIx_nat, List.drop_zero, Nat.sub_zero]
  by_cases h : k ≤ xs.length
  · rw [Nat.min_eq_left h]
  · rw [Nat.min_eq_right (by omega), List.take_length, List.take_of_length_le (by omega)]
theorem cutZ_all {α : Type} (xs : List α) : cutZ xs none none = xs := by
  unfold cutZ
  rw [HT.sIx_none, HT.sIx_none, List.drop_zero, Nat.sub_zero, List.take_length]
theorem gSl_line (l : List Int) (lo hi : Option Int) : gSl (dLine l) lo hi = some (dLine (cutZ l lo hi)) := by
  show some (PyData.tuple (cutD (l.map PyData.int) lo hi)) = _
  rw [cutD_map]
theorem gSl_rows (l : List (List Int)) (lo hi : Option Int) : gSl (dRows l) lo hi = some (dRows (cutZ l lo hi)) := by
  show some (PyData.tuple (cutD (l.map dLine) lo hi)) = _
  rw [cutD_map]
theorem gSl_list {α : Type} (f : α → PyData) (l : List α) (lo hi : Option Int) : gSl (.list (l.map f)) lo hi = some (.list ((cutZ l lo hi).map f)) := by
  show some (PyData.list (cutD (l.map f) lo hi)) = _
  rw [cutD_map]
theorem gAdd_line {l m : List Int} (h : l.length + m.length ≤ 1000000) : gAdd (dLine l) (dLine m) = some (dLine (l ++ m)) := by
  show (if (l.map PyData.int).length + (m.map PyData.int).length ≤ 1000000 then some (PyData.tuple (l.map PyData.int ++ m.map PyData.int)) else none) = _
  rw [List.length_map, List.length_map, if_pos h, ← List.map_append]
theorem dLine_nil : PyData.tuple [] = dLine [] := rfl
theorem dLine_one (i : Int) : PyData.tuple [.int i] = dLine [i] := rfl
theorem zipD_map {α β : Type} (f : α → PyData) (g : β → PyData) : ∀ (xs : List α) (ys : List β), zipD (xs.map f) (ys.map g) = (xs.zip ys).map fun p => .tuple [f p.1, g p.2]
  | [], _ => by simp [zipD]
  | _ :: _, [] => by simp [zipD]
  | x :: xs, y :: ys => by
    rw [List.map_cons, List.map_cons, zipD, zipD_map f g xs ys, List.zip_cons_cons, List.map_cons]
theorem enumD_map {α : Type} (f : α → PyData) (xs : List α) : enumD (xs.map f) = (xs.zipIdx).map fun p => .tuple [.int (p.2 : Nat), f p.1] := by
  unfold enumD
  apply List.ext_getElem
  · rw [List.length_mapIdx, List.length_map, List.length_map, List.length_zipIdx]
  · intro i h1 h2
    simp
theorem mulOk_left {i j : Int} (h : -(2 ^ 63) ≤ i) (h2 : i ≤ 2 ^ 63) : mulOk i j = true := by
  unfold mulOk
  have : i.natAbs < 2 ^ 64 := by omega
  simp [this]
theorem mulOk_right {i j : Int} (h : -(2 ^ 63) ≤ j) (h2 : j ≤ 2 ^ 63) : mulOk i j = true := by
  unfold mulOk
  have : j.natAbs < 2 ^ 64 := by omega
  simp [this]
theorem divOk_small {j : Int} (h : 0 < j) (h2 : j < 2 ^ 63) : divOk j = true := by
  unfold divOk
  have h3 : j.natAbs.log2 < 9000 := Nat.lt_of_lt_of_le (PySem.Flt.log2_lt_of (k := 64) (by decide) (by omega)) (by decide)
  simp [h, h3]
end DL

/-! DLF: the combinators worked out at a state, step by step: each step is an application of a named function, so that rewriting never has to look below a binder
and no step is left to reduction. -/
namespace DL
open PySem PySem.Spec PyProof.Rows L2
section
variable {α β : Type}
def k1 (f : α → Sls → Option β) (o : Option (α × Sls)) : Option β := match o with
  | some (a, S) => f a S
  | none => none
theorem k1_some {f : α → Sls → Option β} {a : α} {S : Sls} : k1 f (some (a, S)) = f a S := (rfl)
def kP (f : α → Option β) (o : Option α) : Option β := match o with
  | some a => f a
  | none => none
theorem kP_some {f : α → Option β} {a : α} : kP f (some a) = f a := (rfl)
def kO (o : Option α) (S : Sls) : Option (α × Sls) := match o with
  | some a => some (a, S)
  | none => none
theorem kO_some {a : α} {S : Sls} : kO (some a) S = some (a, S) := (rfl)
def qUn (g : α → Option β) (d : α) (S : Sls) : Option (β × Sls) := kO (g d) S
theorem qUn_r {g : α → Option β} {d : α} {S : Sls} : qUn g d S = kO (g d) S := (rfl)
def qIf (f g : Sls → Option β) (b : Bool) (S : Sls) : Option β := match b with
  | true => f S
  | false => g S
theorem qIf_t {f g : Sls → Option β} {S : Sls} : qIf f g true S = f S := (rfl)
theorem qIf_f {f g : Sls → Option β} {S : Sls} : qIf f g false S = g S := (rfl)
end
section
variable {i j n m : Nat} {d e x y z : PyData} {ds es xs ys : List PyData} {S S1 S2 : Sls} {f fa fb fc fi fv : EE} {l u : EO} {t tt : EB} {te : EE} {a b : Bool} {h : EL} {tg : Tg} {tgs : List Tg} {vs is : List Nat} {ns : List Int} {p q : Int} {lo hi : Option Int} {F : FnD}
  {g g' : PyData → PyData → Option PyData} {c c2 : SF} {o : Option (List PyData)} {r : RV} {its : List Sl} {s : Sl} {ks : List TK} {tk : TK}
def qVar (i : Nat) (S : Sls) (o : Option Sl) : Option (PyData × Sls) := match o with
  | some (.dat d) => some (d, S)
  | some (.own xs) => some (.list xs, S.set i (.dat (.list xs)))
  | _ => none
theorem vq_var : eVar i S = qVar i S S[i]? := (rfl)
theorem vq_var_d : qVar i S (some (.dat d)) = some (d, S) := (rfl)
theorem vq_var_o : qVar i S (some (.own xs)) = some (.list xs, S.set i (.dat (.list xs))) := (rfl)
theorem vq_c : eC d S = some (d, S) := (rfl)
def qBin2 (g : PyData → PyData → Option PyData) (x y : PyData) (S : Sls) : Option (PyData × Sls) := kO (g x y) S
def qBin1 (g : PyData → PyData → Option PyData) (fb : EE) (x : PyData) (S : Sls) : Option (PyData × Sls) := k1 (qBin2 g x) (fb S)
theorem vq_bin : eBin g fa fb S = k1 (qBin1 g fb) (fa S) := by
  unfold eBin k1
  cases fa S with
  | none => rfl
  | some p =>
    show (match fb p.2 with | none => none | some (y, S2) => match g p.1 y with | none => none | some z => some (z, S2)) = k1 (qBin2 g p.1) (fb p.2)
    cases fb p.2 with
    | none => rfl
    | some q =>
      show (match g p.1 q.1 with | none => none | some z => some (z, q.2)) = kO (g p.1 q.1) q.2
      cases g p.1 q.1 <;> rfl
theorem vq_bin1 : qBin1 g fb x S = k1 (qBin2 g x) (fb S) := (rfl)
theorem vq_bin2 : qBin2 g x y S = kO (g x y) S := (rfl)
def qTest (d : PyData) (S : Sls) : Option (Bool × Sls) := match d with
  | .bool k => some (k, S)
  | _ => none
theorem vq_test : eTest f S = k1 qTest (f S) := by
  unfold eTest k1
  cases f S with
  | none => rfl
  | some p =>
    obtain ⟨d, S'⟩ := p
    cases d <;> rfl
theorem vq_test1 : qTest (.bool a) S = some (a, S) := (rfl)
theorem vq_tru : eTru f S = k1 (qUn truD) (f S) := by
  unfold eTru k1
  cases f S with
  | none => rfl
  | some p =>
    show _ = kO (truD p.1) p.2
    dsimp only
    cases truD p.1 <;> rfl
def qNot (k : Bool) (S : Sls) : Option (Bool × Sls) := some (!k, S)
theorem vq_not : bNot t S = k1 qNot (t S) := by unfold bNot k1; cases t S <;> rfl
theorem vq_not1 : qNot a S = some (!a, S) := (rfl)
def qOfB (k : Bool) (S : Sls) : Option (PyData × Sls) := some (.bool k, S)
theorem vq_ofb : eOfB t S = k1 qOfB (t S) := by unfold eOfB k1; cases t S <;> rfl
theorem vq_ofb1 : qOfB a S = some (.bool a, S) := (rfl)
def qNotE (d : PyData) (S : Sls) : Option (PyData × Sls) := match d with
  | .bool k => some (.bool (!k), S)
  | _ => none
theorem vq_note : eNot f S = k1 qNotE (f S) := by
  unfold eNot k1
  cases f S with
  | none => rfl
  | some p =>
    obtain ⟨d, S'⟩ := p
    cases d <;> rfl
theorem vq_note1 : qNotE (.bool a) S = some (.bool (!a), S) := (rfl)
def qAnd (g : EB) (k : Bool) (S : Sls) : Option (Bool × Sls) := match k with
  | true => g S
  | false => some (false, S)
theorem vq_and : bAnd t tt S = k1 (qAnd tt) (t S) := by
  unfold bAnd k1
  cases t S with
  | none => rfl
  | some p =>
    obtain ⟨d, S'⟩ := p
    cases d <;> rfl
theorem vq_and_t : qAnd t true S = t S := (rfl)
theorem vq_and_f : qAnd t false S = some (false, S) := (rfl)
def qOr (g : EB) (k : Bool) (S : Sls) : Option (Bool × Sls) := match k with
  | true => some (true, S)
  | false => g S
theorem vq_or : bOr t tt S = k1 (qOr tt) (t S) := by
  unfold bOr k1
  cases t S with
  | none => rfl
  | some p =>
    obtain ⟨d, S'⟩ := p
    cases d <;> rfl
theorem vq_or_t : qOr t true S = some (true, S) := (rfl)
theorem vq_or_f : qOr t false S = t S := (rfl)
def qAndE (g : EE) (d : PyData) (S : Sls) : Option (PyData × Sls) := match d with
  | .bool true => g S
  | .bool false => some (.bool false, S)
  | _ => none
theorem vq_ande : eAnd fa fb S = k1 (qAndE fb) (fa S) := by
  unfold eAnd k1
  cases fa S with
  | none => rfl
  | some p =>
    obtain ⟨d, S'⟩ := p
    cases d with
    | bool k => cases k <;> rfl
    | _ => rfl
theorem vq_ande_t : qAndE f (.bool true) S = f S := (rfl)
theorem vq_ande_f : qAndE f (.bool false) S = some (.bool false, S) := (rfl)
def qOrE (g : EE) (d : PyData) (S : Sls) : Option (PyData × Sls) := match d with
  | .bool true => some (.bool true, S)
  | .bool false => g S
  | _ => none
theorem vq_ore : eOr fa fb S = k1 (qOrE fb) (fa S) := by
  unfold eOr k1
  cases fa S with
  | none => rfl
  | some p =>
    obtain ⟨d, S'⟩ := p
    cases d with
    | bool k => cases k <;> rfl
    | _ => rfl
theorem vq_ore_t : qOrE f (.bool true) S = some (.bool true, S) := (rfl)
theorem vq_ore_f : qOrE f (.bool false) S = f S := (rfl)
theorem vq_if : eIf t fa fb S = k1 (qIf fa fb) (t S) := by
  unfold eIf k1
  cases t S with
  | none => rfl
  | some p =>
    obtain ⟨d, S'⟩ := p
    cases d <;> rfl
theorem vq_un {g : PyData → Option PyData} : eUn g f S = k1 (qUn g) (f S) := by
  unfold eUn k1
  cases f S with
  | none => rfl
  | some p =>
    show _ = kO (g p.1) p.2
    dsimp only
    cases g p.1 <;> rfl
theorem vq_call {g : List PyData → Option PyData} : eCall g h S = k1 (qUn g) (h S) := by
  unfold eCall k1
  cases h S with
  | none => rfl
  | some p =>
    show _ = kO (g p.1) p.2
    dsimp only
    cases g p.1 <;> rfl
theorem vq_callF {g : List PyData → Option (List PyData)} : eCallF g h S = k1 (qUn g) (h S) := by
  unfold eCallF k1
  cases h S with
  | none => rfl
  | some p =>
    show _ = kO (g p.1) p.2
    dsimp only
    cases g p.1 <;> rfl
theorem vq_items : eItems f S = k1 (qUn itemsD) (f S) := by
  unfold eItems k1
  cases f S with
  | none => rfl
  | some p =>
    show _ = kO (itemsD p.1) p.2
    dsimp only
    cases itemsD p.1 <;> rfl
theorem vq_nil : lNil S = some ([], S) := (rfl)
def qCons2 (d : PyData) (ds : List PyData) (S : Sls) : Option (List PyData × Sls) := some (d :: ds, S)
def qCons (g : EL) (d : PyData) (S : Sls) : Option (List PyData × Sls) := k1 (qCons2 d) (g S)
theorem vq_cons : lCons f h S = k1 (qCons h) (f S) := by
  unfold lCons k1
  cases f S with
  | none => rfl
  | some p =>
    show _ = k1 (qCons2 p.1) (h p.2)
    dsimp only
    cases h p.2 <;> rfl
theorem vq_cons1 : qCons h d S = k1 (qCons2 d) (h S) := (rfl)
theorem vq_cons2 : qCons2 d ds S = some (d :: ds, S) := (rfl)
def qTup (ds : List PyData) (S : Sls) : Option (PyData × Sls) := if ds.length ≤ 1000000 then some (.tuple ds, S) else none
theorem vq_tup : eTup h S = k1 qTup (h S) := by unfold eTup k1; cases h S <;> rfl
theorem vq_tup1 : qTup ds S = if ds.length ≤ 1000000 then some (.tuple ds, S) else none := (rfl)
def qLst (ds : List PyData) (S : Sls) : Option (List PyData × Sls) := if ds.length ≤ 1000000 then some (ds, S) else none
theorem vq_lst : lLst h S = k1 qLst (h S) := by unfold lLst k1; cases h S <;> rfl
theorem vq_lst1 : qLst ds S = if ds.length ≤ 1000000 then some (ds, S) else none := (rfl)
def qL (ds : List PyData) (S : Sls) : Option (PyData × Sls) := some (.list ds, S)
theorem vq_l : eL h S = k1 qL (h S) := by unfold eL k1; cases h S <;> rfl
theorem vq_l1 : qL ds S = some (.list ds, S) := (rfl)
def qIx1 (d i : PyData) (S : Sls) : Option (PyData × Sls) := kO (gIx d i) S
def qIx3 (i : PyData) (S : Sls) (xs : List PyData) : Option (PyData × Sls) := kO (gIx (.list xs) i) S
def qIx2 (j : Nat) (i : PyData) (S : Sls) : Option (PyData × Sls) := kP (qIx3 i S) (contD S j)
def qIxN (j : Nat) (fi : EE) (S : Sls) (o : Option Sl) : Option (PyData × Sls) := match o with
  | some (.dat d) => k1 (qIx1 d) (fi S)
  | some (.un) => none
  | some (.scr _) => none
  | none => none
  | _ => k1 (qIx2 j) (fi S)
theorem vq_ixn : eIxN j fi S = qIxN j fi S S[j]? := by
  unfold eIxN qIxN
  cases S[j]? with
  | none => rfl
  | some w =>
    have e1 : ∀ d, (match fi S with
      | some (i, S') => match gIx d i with
        | some z => some (z, S')
        | none => none
      | none => none) = k1 (qIx1 d) (fi S) := fun d => by
        unfold k1
        cases fi S with
        | none => rfl
        | some p =>
          show _ = kO (gIx d p.1) p.2
          dsimp only
          cases gIx d p.1 <;> rfl
    have e2 : (match fi S with
      | some (i, S') => match contD S' j with
        | some xs => match gIx (.list xs) i with
          | some z => some (z, S')
          | none => none
        | none => none
      | none => none) = k1 (qIx2 j) (fi S) := by
        unfold k1
        cases fi S with
        | none => rfl
        | some p =>
          show _ = kP (qIx3 p.1 p.2) (contD p.2 j)
          dsimp only
          cases contD p.2 j with
          | none => rfl
          | some xs =>
            show _ = kO (gIx (.list xs) p.1) p.2
            dsimp only
            cases gIx (.list xs) p.1 <;> rfl
    cases w with
    | un => rfl
    | dat d => exact e1 d
    | own xs => exact e2
    | lent xs => exact e2
    | scr ns => rfl
theorem vq_ixn_d : qIxN j fi S (some (.dat d)) = k1 (qIx1 d) (fi S) := (rfl)
theorem vq_ixn_o : qIxN j fi S (some (.own xs)) = k1 (qIx2 j) (fi S) := (rfl)
theorem vq_ixn_l : qIxN j fi S (some (.lent xs)) = k1 (qIx2 j) (fi S) := (rfl)
theorem vq_ix1 : qIx1 d x S = kO (gIx d x) S := (rfl)
theorem vq_ix2 : qIx2 j x S = kP (qIx3 x S) (contD S j) := (rfl)
theorem vq_ix3 : qIx3 x S xs = kO (gIx (.list xs) x) S := (rfl)
theorem vq_onone : oNone S = some (none, S) := (rfl)
def qSome (d : PyData) (S : Sls) : Option (Option Int × Sls) := match d with
  | .int i => some (some i, S)
  | _ => none
theorem vq_osome : oSome f S = k1 qSome (f S) := by
  unfold oSome k1
  cases f S with
  | none => rfl
  | some p =>
    obtain ⟨d, S'⟩ := p
    cases d <;> rfl
theorem vq_osome1 : qSome (.int p) S = some (some p, S) := (rfl)
def qSl3 (d : PyData) (lo hi : Option Int) (S : Sls) : Option (PyData × Sls) := kO (gSl d lo hi) S
def qSl2 (u : EO) (d : PyData) (lo : Option Int) (S : Sls) : Option (PyData × Sls) := k1 (qSl3 d lo) (u S)
def qSl1 (l u : EO) (d : PyData) (S : Sls) : Option (PyData × Sls) := k1 (qSl2 u d) (l S)
theorem vq_sl : eSl f l u S = k1 (qSl1 l u) (f S) := by
  unfold eSl k1
  cases f S with
  | none => rfl
  | some p =>
    show _ = k1 (qSl2 u p.1) (l p.2)
    dsimp only
    cases l p.2 with
    | none => rfl
    | some q =>
      show _ = k1 (qSl3 p.1 q.1) (u q.2)
      dsimp only
      cases u q.2 with
      | none => rfl
      | some r =>
        show _ = kO (gSl p.1 q.1 r.1) r.2
        dsimp only
        cases gSl p.1 q.1 r.1 <;> rfl
theorem vq_sl1 : qSl1 l u d S = k1 (qSl2 u d) (l S) := (rfl)
theorem vq_sl2 : qSl2 u d lo S = k1 (qSl3 d lo) (u S) := (rfl)
theorem vq_sl3 : qSl3 d lo hi S = kO (gSl d lo hi) S := (rfl)
def qSlN3 (lo hi : Option Int) (S : Sls) (xs : List PyData) : Option (List PyData × Sls) := some (cutD xs lo hi, S)
def qSlN2 (j : Nat) (lo hi : Option Int) (S : Sls) : Option (List PyData × Sls) := kP (qSlN3 lo hi S) (contD S j)
def qSlN1 (j : Nat) (u : EO) (lo : Option Int) (S : Sls) : Option (List PyData × Sls) := k1 (qSlN2 j lo) (u S)
def qSlN0 (j : Nat) (l u : EO) (S : Sls) (_ : List PyData) : Option (List PyData × Sls) := k1 (qSlN1 j u) (l S)
theorem vq_sln : eSlN j l u S = kP (qSlN0 j l u S) (contD S j) := by
  unfold eSlN kP
  cases contD S j with
  | none => rfl
  | some w =>
    show _ = k1 (qSlN1 j u) (l S)
    unfold k1
    dsimp only
    cases l S with
    | none => rfl
    | some p =>
      show _ = k1 (qSlN2 j p.1) (u p.2)
      dsimp only
      cases u p.2 with
      | none => rfl
      | some q =>
        show _ = kP (qSlN3 p.1 q.1 q.2) (contD q.2 j)
        dsimp only
        cases contD q.2 j <;> rfl
theorem vq_sln0 : qSlN0 j l u S xs = k1 (qSlN1 j u) (l S) := (rfl)
theorem vq_sln1 : qSlN1 j u lo S = k1 (qSlN2 j lo) (u S) := (rfl)
theorem vq_sln2 : qSlN2 j lo hi S = kP (qSlN3 lo hi S) (contD S j) := (rfl)
theorem vq_sln3 : qSlN3 lo hi S xs = some (cutD xs lo hi, S) := (rfl)
def qScr2 (ns : List Int) (lo hi : Option Int) (S : Sls) : Option (List PyData × Sls) := some (cutD (ns.map PyData.int) lo hi, S)
def qScr1 (u : EO) (ns : List Int) (lo : Option Int) (S : Sls) : Option (List PyData × Sls) := k1 (qScr2 ns lo) (u S)
def qScr (l u : EO) (S : Sls) (o : Option Sl) : Option (List PyData × Sls) := match o with
  | some (.scr ns) => k1 (qScr1 u ns) (l S)
  | _ => none
theorem vq_scr : lScr j l u S = qScr l u S S[j]? := by
  unfold lScr qScr
  cases S[j]? with
  | none => rfl
  | some w =>
    cases w with
    | scr ns =>
      unfold k1
      dsimp only
      cases l S with
      | none => rfl
      | some p =>
        show _ = k1 (qScr2 ns p.1) (u p.2)
        dsimp only
        cases u p.2 <;> rfl
    | _ => rfl
theorem vq_scr0 : qScr l u S (some (.scr ns)) = k1 (qScr1 u ns) (l S) := (rfl)
theorem vq_scr1 : qScr1 u ns lo S = k1 (qScr2 ns lo) (u S) := (rfl)
theorem vq_scr2 : qScr2 ns lo hi S = some (cutD (ns.map PyData.int) lo hi, S) := (rfl)
def qLenN2 (S : Sls) (o : Option Sl) : Option (PyData × Sls) := match o with
  | some (.dat d) => kO (gLen [d]) S
  | _ => none
def qLenN (j : Nat) (S : Sls) (o : Option (List PyData)) : Option (PyData × Sls) := match o with
  | some xs => some (.int xs.length, S)
  | none => qLenN2 S S[j]?
theorem vq_lenn : eLenN j S = qLenN j S (contD S j) := by
  unfold eLenN qLenN qLenN2
  cases contD S j with
  | some xs => rfl
  | none =>
    dsimp only
    cases S[j]? with
    | none => rfl
    | some w =>
      cases w with
      | dat d =>
        dsimp only
        cases gLen [d] <;> rfl
      | _ => rfl
theorem vq_lenn_s : qLenN j S (some xs) = some (.int xs.length, S) := (rfl)
theorem vq_lenn_n : qLenN j S none = qLenN2 S S[j]? := (rfl)
theorem vq_lenn2 : qLenN2 S (some (.dat d)) = kO (gLen [d]) S := (rfl)
def qR1 (ds : List PyData) (S : Sls) : Option (List PyData × Sls) := match ds with
  | [.int j] => if rOk j = true then some (rangeD 0 j, S) else none
  | _ => none
theorem vq_r1 : lRange1 h S = k1 qR1 (h S) := by
  unfold lRange1 k1
  cases h S with
  | none => rfl
  | some p =>
    obtain ⟨ds, S'⟩ := p
    unfold qR1
    dsimp only
    split <;> simp_all
theorem vq_r11 : qR1 [.int p] S = if rOk p = true then some (rangeD 0 p, S) else none := (rfl)
def qR2 (ds : List PyData) (S : Sls) : Option (List PyData × Sls) := match ds with
  | [.int i, .int j] => if rOk i = true ∧ rOk j = true then some (rangeD i j, S) else none
  | _ => none
theorem vq_r2 : lRange2 h S = k1 qR2 (h S) := by
  unfold lRange2 k1
  cases h S with
  | none => rfl
  | some p =>
    obtain ⟨ds, S'⟩ := p
    unfold qR2
    dsimp only
    split <;> simp_all
theorem vq_r21 : qR2 [.int p, .int q] S = if rOk p = true ∧ rOk q = true then some (rangeD p q, S) else none := (rfl)
def qEnum2 (S : Sls) (ds : List PyData) : Option (List PyData × Sls) := some (enumD ds, S)
def qEnum (ds : List PyData) (S : Sls) : Option (List PyData × Sls) := match ds with
  | [d] => kP (qEnum2 S) (itemsD d)
  | _ => none
theorem vq_enum : lEnum h S = k1 qEnum (h S) := by
  unfold lEnum k1
  cases h S with
  | none => rfl
  | some p =>
    obtain ⟨ds, S'⟩ := p
    unfold qEnum
    dsimp only
    split
    · next d S2 e =>
      cases e
      dsimp only
      cases itemsD d <;> rfl
    · next hne =>
      split
      · next d => exact absurd rfl (hne d S')
      · rfl
theorem vq_enum1 : qEnum [d] S = kP (qEnum2 S) (itemsD d) := (rfl)
theorem vq_enum2 : qEnum2 S ds = some (enumD ds, S) := (rfl)
def qZip3 (ds : List PyData) (S : Sls) (es : List PyData) : Option (List PyData × Sls) := some (zipD ds es, S)
def qZip2 (e : PyData) (S : Sls) (ds : List PyData) : Option (List PyData × Sls) := kP (qZip3 ds S) (itemsD e)
def qZip (ds : List PyData) (S : Sls) : Option (List PyData × Sls) := match ds with
  | [d, e] => kP (qZip2 e S) (itemsD d)
  | _ => none
theorem vq_zip : lZip h S = k1 qZip (h S) := by
  unfold lZip k1
  cases h S with
  | none => rfl
  | some p =>
    obtain ⟨ds, S'⟩ := p
    unfold qZip
    dsimp only
    split
    · next d e S2 e =>
      cases e
      dsimp only
      unfold kP qZip2 kP
      cases itemsD d with
      | none => rfl
      | some x =>
        dsimp only
        cases itemsD e <;> rfl
    · next hne =>
      split
      · next d e => exact absurd rfl (hne d e S')
      · rfl
theorem vq_zip1 : qZip [d, e] S = kP (qZip2 e S) (itemsD d) := (rfl)
theorem vq_zip2 : qZip2 e S ds = kP (qZip3 ds S) (itemsD e) := (rfl)
theorem vq_zip3 : qZip3 ds S es = some (zipD ds es, S) := (rfl)
def qLc2 (S1 : Sls) (vs : List Nat) (ys : List PyData) (S2 : Sls) : Option (List PyData × Sls) := some (ys, restore S1 S2 vs)
def qLc (tg : Tg) (vs : List Nat) (tt : EB) (te : EE) (items : List PyData) (S1 : Sls) : Option (List PyData × Sls) :=
  if okWipe S1 vs = true ∧ items.length ≤ 1000000 then k1 (qLc2 S1 vs) (lcL tg vs tt te items (wipeS S1 vs)) else none
theorem vq_lc : eLc h tg vs tt te S = k1 (qLc tg vs tt te) (h S) := by
  unfold eLc k1
  cases h S with
  | none => rfl
  | some p =>
    obtain ⟨ds, S'⟩ := p
    unfold qLc
    dsimp only
    split
    · unfold k1
      cases lcL tg vs tt te ds (wipeS S' vs) <;> rfl
    · rfl
theorem vq_lc1 : qLc tg vs tt te xs S = if okWipe S vs = true ∧ xs.length ≤ 1000000 then k1 (qLc2 S vs) (lcL tg vs tt te xs (wipeS S vs)) else none := (rfl)
theorem vq_lc2 : qLc2 S1 vs ys S2 = some (ys, restore S1 S2 vs) := (rfl)
theorem vq_yes : bYes S = some (true, S) := (rfl)
theorem vq_snil : sNil S = some (.nx S) := (rfl)
def kSeq (g : SF) (o : Option Out) : Option Out := match o with
  | some (.nx S1) => g S1
  | o => o
theorem vq_seq : sSeq c c2 S = kSeq c2 (c S) := (rfl)
theorem vq_seq_nx : kSeq c (some (.nx S)) = c S := (rfl)
theorem vq_seq_rt : kSeq c (some (.rt d S)) = some (.rt d S) := (rfl)
theorem vq_seq_rtF : kSeq c (some (.rtF xs S)) = some (.rtF xs S) := (rfl)
theorem vq_seq_bk : kSeq c (some (.bk S)) = some (.bk S) := (rfl)
theorem vq_seq_ct : kSeq c (some (.ct S)) = some (.ct S) := (rfl)
def qSetD (i : Nat) (d : PyData) (S : Sls) : Option Out := some (.nx (S.set i (.dat d)))
theorem vq_set : sSetD i f S = k1 (qSetD i) (f S) := by unfold sSetD k1; cases f S <;> rfl
theorem vq_set1 : qSetD i d S = some (.nx (S.set i (.dat d))) := (rfl)
def qSetF (i : Nat) (xs : List PyData) (S : Sls) : Option Out := some (.nx (S.set i (.own xs)))
theorem vq_setF : sSetF i h S = k1 (qSetF i) (h S) := by unfold sSetF k1; cases h S <;> rfl
theorem vq_setF1 : qSetF i xs S = some (.nx (S.set i (.own xs))) := (rfl)
def qNx (S : Sls) : Option Out := some (.nx S)
theorem vq_nx : qNx S = some (.nx S) := (rfl)
def qSetT (tg : Tg) (d : PyData) (S : Sls) : Option Out := kP qNx (bindT tg d S)
theorem vq_setT : sSetT tg f S = k1 (qSetT tg) (f S) := by
  unfold sSetT k1
  cases f S with
  | none => rfl
  | some p =>
    show _ = kP qNx (bindT tg p.1 p.2)
    dsimp only
    cases bindT tg p.1 p.2 <;> rfl
theorem vq_setT1 : qSetT tg d S = kP qNx (bindT tg d S) := (rfl)
theorem vq_sif : sIf t c c2 S = k1 (qIf c c2) (t S) := by
  unfold sIf k1
  cases t S with
  | none => rfl
  | some p =>
    obtain ⟨d, S'⟩ := p
    cases d <;> rfl
def qRet (d : PyData) (S : Sls) : Option Out := some (.rt d S)
theorem vq_ret : sRet f S = k1 qRet (f S) := by unfold sRet k1; cases f S <;> rfl
theorem vq_ret1 : qRet d S = some (.rt d S) := (rfl)
def qRetF (xs : List PyData) (S : Sls) : Option Out := some (.rtF xs S)
theorem vq_retF : sRetF h S = k1 qRetF (h S) := by unfold sRetF k1; cases h S <;> rfl
theorem vq_retF1 : qRetF xs S = some (.rtF xs S) := (rfl)
theorem vq_retN : sRetN S = some (.rt .none S) := (rfl)
theorem vq_bk : sBreak S = some (.bk S) := (rfl)
theorem vq_ct : sCont S = some (.ct S) := (rfl)
def qExpr (_ : PyData) (S : Sls) : Option Out := some (.nx S)
theorem vq_expr : sExpr f S = k1 qExpr (f S) := by unfold sExpr k1; cases f S <;> rfl
theorem vq_expr1 : qExpr d S = some (.nx S) := (rfl)
def qApp3 (j : Nat) (d : PyData) (S : Sls) (xs : List PyData) : Option Out := if xs.length < 1000000 then some (.nx (putD S j (xs ++ [d]))) else none
def qApp2 (j : Nat) (d : PyData) (S : Sls) : Option Out := kP (qApp3 j d S) (contD S j)
def qApp (j : Nat) (f : EE) (S : Sls) (_ : List PyData) : Option Out := k1 (qApp2 j) (f S)
theorem vq_app : sAppend j f S = kP (qApp j f S) (contD S j) := by
  unfold sAppend kP
  cases contD S j with
  | none => rfl
  | some w =>
    show _ = k1 (qApp2 j) (f S)
    unfold k1
    dsimp only
    cases f S with
    | none => rfl
    | some p =>
      show _ = kP (qApp3 j p.1 p.2) (contD p.2 j)
      dsimp only
      cases contD p.2 j <;> rfl
theorem vq_app1 : qApp j f S xs = k1 (qApp2 j) (f S) := (rfl)
theorem vq_app2 : qApp2 j d S = kP (qApp3 j d S) (contD S j) := (rfl)
theorem vq_app3 : qApp3 j d S xs = if xs.length < 1000000 then some (.nx (putD S j (xs ++ [d]))) else none := (rfl)
def qExt3 (j : Nat) (ds : List PyData) (S : Sls) (xs : List PyData) : Option Out := if xs.length + ds.length ≤ 1000000 then some (.nx (putD S j (xs ++ ds))) else none
def qExt2 (j : Nat) (d : PyData) (S : Sls) : Option Out := match d with
  | .list ds => kP (qExt3 j ds S) (contD S j)
  | _ => none
def qExt (j : Nat) (f : EE) (S : Sls) (_ : List PyData) : Option Out := k1 (qExt2 j) (f S)
theorem vq_ext : sExtend j f S = kP (qExt j f S) (contD S j) := by
  unfold sExtend kP
  cases contD S j with
  | none => rfl
  | some w =>
    show _ = k1 (qExt2 j) (f S)
    unfold k1
    dsimp only
    cases f S with
    | none => rfl
    | some p =>
      obtain ⟨d, S'⟩ := p
      cases d with
      | list ds =>
        show _ = kP (qExt3 j ds S') (contD S' j)
        dsimp only
        cases contD S' j <;> rfl
      | _ => rfl
theorem vq_ext1 : qExt j f S xs = k1 (qExt2 j) (f S) := (rfl)
theorem vq_ext2 : qExt2 j (.list ds) S = kP (qExt3 j ds S) (contD S j) := (rfl)
theorem vq_ext3 : qExt3 j ds S xs = if xs.length + ds.length ≤ 1000000 then some (.nx (putD S j (xs ++ ds))) else none := (rfl)
def qSI5 (j : Nat) (d : PyData) (S : Sls) (xs : List PyData) (n : Nat) : Option Out := some (.nx (putD S j (xs.set n d)))
def qSI4 (j : Nat) (d : PyData) (k : Int) (S : Sls) (xs : List PyData) : Option Out := kP (qSI5 j d S xs) (ixN xs.length k)
def qSI3 (j : Nat) (d i : PyData) (S : Sls) : Option Out := match i with
  | .int k => kP (qSI4 j d k S) (contD S j)
  | _ => none
def qSI2 (j : Nat) (fi : EE) (d : PyData) (S : Sls) (_ : List PyData) : Option Out := k1 (qSI3 j d) (fi S)
def qSI1 (j : Nat) (fi : EE) (d : PyData) (S : Sls) : Option Out := kP (qSI2 j fi d S) (contD S j)
theorem vq_si : sSetIx j fi fv S = k1 (qSI1 j fi) (fv S) := by
  unfold sSetIx k1
  cases fv S with
  | none => rfl
  | some p =>
    show _ = kP (qSI2 j fi p.1 p.2) (contD p.2 j)
    unfold kP
    dsimp only
    cases contD p.2 j with
    | none => rfl
    | some w =>
      show _ = k1 (qSI3 j p.1) (fi p.2)
      unfold k1
      dsimp only
      cases fi p.2 with
      | none => rfl
      | some q =>
        obtain ⟨d, S'⟩ := q
        cases d with
        | int k =>
          show _ = kP (qSI4 j p.1 k S') (contD S' j)
          unfold kP
          dsimp only
          cases contD S' j with
          | none => rfl
          | some xs =>
            show _ = kP (qSI5 j p.1 S' xs) (ixN xs.length k)
            dsimp only
            cases ixN xs.length k <;> rfl
        | _ => rfl
theorem vq_si1 : qSI1 j fi d S = kP (qSI2 j fi d S) (contD S j) := (rfl)
theorem vq_si2 : qSI2 j fi d S xs = k1 (qSI3 j d) (fi S) := (rfl)
theorem vq_si3 : qSI3 j d (.int p) S = kP (qSI4 j d p S) (contD S j) := (rfl)
theorem vq_si4 : qSI4 j d p S xs = kP (qSI5 j d S xs) (ixN xs.length p) := (rfl)
theorem vq_si5 : qSI5 j d S xs n = some (.nx (putD S j (xs.set n d))) := (rfl)
def qFor (tg : Tg) (g : SF) (items : List PyData) (S : Sls) : Option Out := forL tg g items S
theorem vq_for : sFor h tg c S = k1 (qFor tg c) (h S) := by unfold sFor k1; cases h S <;> rfl
theorem vq_for1 : qFor tg c xs S = forL tg c xs S := (rfl)
def kF (tg : Tg) (g : SF) (ds : List PyData) (o : Option Out) : Option Out := match o with
  | some (.nx S2) => forL tg g ds S2
  | some (.ct S2) => forL tg g ds S2
  | some (.bk S2) => some (.nx S2)
  | some (.rt r S2) => some (.rt r S2)
  | some (.rtF r S2) => some (.rtF r S2)
  | none => none
def qF1 (tg : Tg) (g : SF) (ds : List PyData) (S : Sls) : Option Out := kF tg g ds (g S)
theorem vq_forl_nil : forL tg c [] S = some (.nx S) := (rfl)
theorem vq_forl : forL tg c (d :: ds) S = kP (qF1 tg c ds) (bindT tg d S) := by
  rw [forL]
  unfold kP
  cases bindT tg d S with
  | none => rfl
  | some S1 =>
    show _ = kF tg c ds (c S1)
    unfold kF
    dsimp only
    all_goals
      cases c S1 with
      | none => rfl
      | some o => cases o <;> rfl
theorem vq_f1 : qF1 tg c ds S = kF tg c ds (c S) := (rfl)
theorem vq_f_nx : kF tg c ds (some (.nx S)) = forL tg c ds S := (rfl)
theorem vq_f_ct : kF tg c ds (some (.ct S)) = forL tg c ds S := (rfl)
theorem vq_f_bk : kF tg c ds (some (.bk S)) = some (.nx S) := (rfl)
theorem vq_f_rt : kF tg c ds (some (.rt d S)) = some (.rt d S) := (rfl)
theorem vq_f_rtF : kF tg c ds (some (.rtF xs S)) = some (.rtF xs S) := (rfl)
theorem vq_mnil : mNil S = some ([], S) := (rfl)
def qM2 (s : Sl) (its : List Sl) (S : Sls) : Option (List Sl × Sls) := some (s :: its, S)
def qMD (g : EM) (d : PyData) (S : Sls) : Option (List Sl × Sls) := k1 (qM2 (.dat d)) (g S)
def qMF (g : EM) (xs : List PyData) (S : Sls) : Option (List Sl × Sls) := k1 (qM2 (.own xs)) (g S)
theorem vq_md {k : EM} : mConsD f k S = k1 (qMD k) (f S) := by
  unfold mConsD k1
  cases f S with
  | none => rfl
  | some p =>
    show _ = k1 (qM2 (.dat p.1)) (k p.2)
    dsimp only
    cases k p.2 <;> rfl
theorem vq_mf {k : EM} : mConsF h k S = k1 (qMF k) (h S) := by
  unfold mConsF k1
  cases h S with
  | none => rfl
  | some p =>
    show _ = k1 (qM2 (.own p.1)) (k p.2)
    dsimp only
    cases k p.2 <;> rfl
theorem vq_md1 {k : EM} : qMD k d S = k1 (qM2 (.dat d)) (k S) := (rfl)
theorem vq_mf1 {k : EM} : qMF k xs S = k1 (qM2 (.own xs)) (k S) := (rfl)
theorem vq_m2 : qM2 s its S = some (s :: its, S) := (rfl)
def qPar (is : List Nat) (its : List Sl) (S : Sls) : Option Out := if its.length = is.length then some (.nx (setS S is its)) else none
theorem vq_par {k : EM} : sPar is k S = k1 (qPar is) (k S) := by unfold sPar k1; cases k S <;> rfl
theorem vq_par1 : qPar is its S = if its.length = is.length then some (.nx (setS S is its)) else none := (rfl)
def qParK (ts : List TK) (ds : List PyData) (S : Sls) : Option Out := if ds.length = ts.length then kP qNx (asgKs ts ds S) else none
theorem vq_park : sParK ks h S = k1 (qParK ks) (h S) := by
  unfold sParK k1
  cases h S with
  | none => rfl
  | some p =>
    obtain ⟨ds, S'⟩ := p
    unfold qParK
    dsimp only
    split
    · cases asgKs ks ds S' <;> rfl
    · rfl
theorem vq_park1 : qParK ks ds S = if ds.length = ks.length then kP qNx (asgKs ks ds S) else none := (rfl)
def qAsg (ts : List TK) (ds : List PyData) (S : Sls) : Option Sls := asgKs ts ds S
theorem vq_asg_nil : asgKs [] [] S = some S := (rfl)
theorem vq_asg : asgKs (tk :: ks) (d :: ds) S = kP (qAsg ks ds) (asgK tk d S) := by
  rw [asgKs]
  unfold kP
  cases asgK tk d S <;> rfl
theorem vq_asg1 : qAsg ks ds S = asgKs ks ds S := (rfl)
def qAK4 (j : Nat) (d : PyData) (S : Sls) (xs : List PyData) (n : Nat) : Option Sls := some (putD S j (xs.set n d))
def qAK3 (j : Nat) (d : PyData) (k : Int) (S : Sls) (xs : List PyData) : Option Sls := kP (qAK4 j d S xs) (ixN xs.length k)
def qAK2 (j : Nat) (d i : PyData) (S : Sls) : Option Sls := match i with
  | .int k => kP (qAK3 j d k S) (contD S j)
  | _ => none
def qAK1 (j : Nat) (fi : EE) (d : PyData) (S : Sls) (_ : List PyData) : Option Sls := k1 (qAK2 j d) (fi S)
theorem vq_ak_nm : asgK (.nm n) d S = some (S.set n (.dat d)) := (rfl)
theorem vq_ak : asgK (.sub j fi) d S = kP (qAK1 j fi d S) (contD S j) := by
  unfold asgK kP
  dsimp only
  cases contD S j with
  | none => rfl
  | some w =>
    show _ = k1 (qAK2 j d) (fi S)
    unfold k1
    dsimp only
    cases fi S with
    | none => rfl
    | some q =>
      obtain ⟨i, S'⟩ := q
      cases i with
      | int k =>
        show _ = kP (qAK3 j d k S') (contD S' j)
        unfold kP
        dsimp only
        cases contD S' j with
        | none => rfl
        | some xs =>
          show _ = kP (qAK4 j d S' xs) (ixN xs.length k)
          dsimp only
          cases ixN xs.length k <;> rfl
      | _ => rfl
theorem vq_ak1 : qAK1 j fi d S xs = k1 (qAK2 j d) (fi S) := (rfl)
theorem vq_ak2 : qAK2 j d (.int p) S = kP (qAK3 j d p S) (contD S j) := (rfl)
theorem vq_ak3 : qAK3 j d p S xs = kP (qAK4 j d S xs) (ixN xs.length p) := (rfl)
theorem vq_ak4 : qAK4 j d S xs n = some (putD S j (xs.set n d)) := (rfl)
def qBT (ts : List Tg) (ds : List PyData) (S : Sls) : Option Sls := bindTs ts ds S
theorem vq_bind_nm : bindT (.nm n) d S = some (S.set n (.dat d)) := by rw [bindT]
theorem vq_bind_tp : bindT (.tp tgs) (.tuple xs) S = bindTs tgs xs S := by rw [bindT]
theorem vq_binds_nil : bindTs [] [] S = some S := by rw [bindTs]
theorem vq_binds : bindTs (tg :: tgs) (d :: xs) S = kP (qBT tgs xs) (bindT tg d S) := by
  rw [bindTs]
  unfold kP
  cases bindT tg d S <;> rfl
theorem vq_binds1 : qBT tgs xs S = bindTs tgs xs S := (rfl)
def kRun (lo : Option (List PyData)) (o : Option Out) : Option (RV × Option (List PyData)) := match o with
  | some (.rt d S') => if lo.isSome = true → (lentOf S').isSome = true then some (.d d, lentOf S') else none
  | some (.rtF xs S') => if lo.isSome = true → (lentOf S').isSome = true then some (.f xs, lentOf S') else none
  | some (.nx S') => if lo.isSome = true → (lentOf S').isSome = true then some (.d .none, lentOf S') else none
  | _ => none
theorem vq_run : runF n m c S = if S.length = m then kRun (lentOf S) (c (S ++ List.replicate (n - m) .un)) else none := (rfl)
theorem vq_run_rt : kRun o (some (.rt d S)) = if o.isSome = true → (lentOf S).isSome = true then some (.d d, lentOf S) else none := (rfl)
theorem vq_run_rtF : kRun o (some (.rtF xs S)) = if o.isSome = true → (lentOf S).isSome = true then some (.f xs, lentOf S) else none := (rfl)
theorem vq_run_nx : kRun o (some (.nx S)) = if o.isSome = true → (lentOf S).isSome = true then some (.d .none, lentOf S) else none := (rfl)
def kR (S : Sls) (o : Option (RV × Option (List PyData))) : Option (PyData × Sls) := match o with
  | some (r, _) => some (rvD r, S)
  | none => none
theorem vq_kR : kR S (some (r, o)) = some (rvD r, S) := (rfl)
def kRF (S : Sls) (o : Option (RV × Option (List PyData))) : Option (List PyData × Sls) := match o with
  | some (.f xs, _) => some (xs, S)
  | _ => none
theorem vq_kRF : kRF S (some (.f xs, o)) = some (xs, S) := (rfl)
def qCU (F : FnD) (ds : List PyData) (S : Sls) : Option (PyData × Sls) := kR S (F (datS ds))
theorem vq_cu : eCallU F h S = k1 (qCU F) (h S) := by
  unfold eCallU k1
  cases h S with
  | none => rfl
  | some p =>
    show _ = kR p.2 (F (datS p.1))
    unfold kR
    dsimp only
    all_goals (cases F (datS p.1) <;> rfl)
theorem vq_cu1 : qCU F ds S = kR S (F (datS ds)) := (rfl)
def qCUF (F : FnD) (ds : List PyData) (S : Sls) : Option (List PyData × Sls) := kRF S (F (datS ds))
theorem vq_cuf : lCallU F h S = k1 (qCUF F) (h S) := by
  unfold lCallU k1
  cases h S with
  | none => rfl
  | some p =>
    show _ = kRF p.2 (F (datS p.1))
    unfold kRF
    dsimp only
    all_goals
      cases F (datS p.1) with
      | none => rfl
      | some q =>
        obtain ⟨r, o⟩ := q
        cases r <;> rfl
theorem vq_cuf1 : qCUF F ds S = kRF S (F (datS ds)) := (rfl)
def kL (j : Nat) (S : Sls) (o : Option (RV × Option (List PyData))) : Option (RV × Sls) := match o with
  | some (r, some ys) => some (r, putD S j ys)
  | _ => none
theorem vq_kL : kL j S (some (r, some ys)) = some (r, putD S j ys) := (rfl)
def qCL2 (j : Nat) (F : FnD) (ds : List PyData) (S : Sls) (xs : List PyData) : Option (RV × Sls) := kL j S (F (.lent xs :: datS ds))
def qCL1 (j : Nat) (F : FnD) (ds : List PyData) (S : Sls) : Option (RV × Sls) := kP (qCL2 j F ds S) (contD S j)
def qCL0 (j : Nat) (F : FnD) (f : EL) (S : Sls) (_ : List PyData) : Option (RV × Sls) := k1 (qCL1 j F) (f S)
theorem vq_callL : callL j F h S = kP (qCL0 j F h S) (contD S j) := by
  unfold callL kP
  cases contD S j with
  | none => rfl
  | some w =>
    show _ = k1 (qCL1 j F) (h S)
    unfold k1
    dsimp only
    cases h S with
    | none => rfl
    | some p =>
      show _ = kP (qCL2 j F p.1 p.2) (contD p.2 j)
      unfold kP
      dsimp only
      cases contD p.2 j with
      | none => rfl
      | some xs =>
        show _ = kL j p.2 (F (.lent xs :: datS p.1))
        unfold kL
        dsimp only
        all_goals
          cases F (.lent xs :: datS p.1) with
          | none => rfl
          | some q =>
            obtain ⟨r, o⟩ := q
            cases o <;> rfl
theorem vq_cl0 : qCL0 j F h S xs = k1 (qCL1 j F) (h S) := (rfl)
theorem vq_cl1 : qCL1 j F ds S = kP (qCL2 j F ds S) (contD S j) := (rfl)
theorem vq_cl2 : qCL2 j F ds S xs = kL j S (F (.lent xs :: datS ds)) := (rfl)
def qRv (r : RV) (S : Sls) : Option (PyData × Sls) := some (rvD r, S)
theorem vq_cle : eCallL j F h S = k1 qRv (callL j F h S) := by unfold eCallL k1; cases callL j F h S <;> rfl
theorem vq_rv : qRv r S = some (rvD r, S) := (rfl)
def qRvF (r : RV) (S : Sls) : Option (List PyData × Sls) := match r with
  | .f xs => some (xs, S)
  | _ => none
theorem vq_clf : lCallL j F h S = k1 qRvF (callL j F h S) := by
  unfold lCallL k1
  cases callL j F h S with
  | none => rfl
  | some p =>
    obtain ⟨r, S'⟩ := p
    cases r <;> rfl
theorem vq_rvf1 : qRvF (.f xs) S = some (xs, S) := (rfl)
def qCS (F : FnD) (S : Sls) (o : Option Sl) : Option (List PyData × Sls) := match o with
  | some (.scr ns) => kRF S (F [.scr ns])
  | _ => none
theorem vq_cs : lCallS j F S = qCS F S S[j]? := by
  unfold lCallS qCS kRF
  cases S[j]? with
  | none => rfl
  | some w => cases w <;> rfl
theorem vq_cs1 : qCS F S (some (.scr ns)) = kRF S (F [.scr ns]) := (rfl)
def qCh4 (g' : PyData → PyData → Option PyData) (y z : PyData) (S : Sls) : Option (PyData × Sls) := kO (g' y z) S
def qCh3 (g' : PyData → PyData → Option PyData) (fc : EE) (y : PyData) (S : Sls) (o : Option PyData) : Option (PyData × Sls) := match o with
  | some (.bool true) => k1 (qCh4 g' y) (fc S)
  | some (.bool false) => some (.bool false, S)
  | _ => none
def qCh2 (g g' : PyData → PyData → Option PyData) (fc : EE) (x y : PyData) (S : Sls) : Option (PyData × Sls) := qCh3 g' fc y S (g x y)
def qCh1 (g g' : PyData → PyData → Option PyData) (fb fc : EE) (x : PyData) (S : Sls) : Option (PyData × Sls) := k1 (qCh2 g g' fc x) (fb S)
theorem vq_ch : eChain g g' fa fb fc S = k1 (qCh1 g g' fb fc) (fa S) := by
  unfold eChain k1
  cases fa S with
  | none => rfl
  | some p =>
    show _ = k1 (qCh2 g g' fc p.1) (fb p.2)
    unfold k1
    dsimp only
    cases fb p.2 with
    | none => rfl
    | some q =>
      show _ = qCh3 g' fc q.1 q.2 (g p.1 q.1)
      unfold qCh3
      dsimp only
      cases g p.1 q.1 with
      | none => rfl
      | some w =>
        cases w with
        | bool k =>
          cases k with
          | false => rfl
          | true =>
            unfold k1
            dsimp only
            cases fc q.2 with
            | none => rfl
            | some r =>
              show _ = kO (g' q.1 r.1) r.2
              dsimp only
              cases g' q.1 r.1 <;> rfl
        | _ => rfl
theorem vq_ch1 : qCh1 g g' fb fc x S = k1 (qCh2 g g' fc x) (fb S) := (rfl)
theorem vq_ch2 : qCh2 g g' fc x y S = qCh3 g' fc y S (g x y) := (rfl)
theorem vq_ch3_t : qCh3 g' fc y S (some (.bool true)) = k1 (qCh4 g' y) (fc S) := (rfl)
theorem vq_ch3_f : qCh3 g' fc y S (some (.bool false)) = some (.bool false, S) := (rfl)
theorem vq_ch4 : qCh4 g' y z S = kO (g' y z) S := (rfl)
def qCat2 (xs : List PyData) (d : PyData) (S : Sls) : Option (List PyData × Sls) := match d with
  | .list ys => if xs.length + ys.length ≤ 1000000 then some (xs ++ ys, S) else none
  | _ => none
def qCat1 (fb : EE) (d : PyData) (S : Sls) : Option (List PyData × Sls) := match d with
  | .list xs => k1 (qCat2 xs) (fb S)
  | _ => none
theorem vq_cat : lCat fa fb S = k1 (qCat1 fb) (fa S) := by
  unfold lCat k1
  cases fa S with
  | none => rfl
  | some p =>
    obtain ⟨d, S'⟩ := p
    cases d with
    | list xs =>
      show _ = k1 (qCat2 xs) (fb S')
      unfold k1
      dsimp only
      cases fb S' with
      | none => rfl
      | some q =>
        obtain ⟨e, S2⟩ := q
        cases e <;> rfl
    | _ => rfl
theorem vq_cat1 : qCat1 fb (.list xs) S = k1 (qCat2 xs) (fb S) := (rfl)
theorem vq_cat2 : qCat2 xs (.list ys) S = if xs.length + ys.length ≤ 1000000 then some (xs ++ ys, S) else none := (rfl)
def qRep2 (xs : List PyData) (d : PyData) (S : Sls) : Option (List PyData × Sls) := match d with
  | .int k => if k ≤ 1000 ∧ xs.length ≤ 1000 ∧ -1000 ≤ k then some ((List.replicate k.toNat xs).flatten, S) else none
  | _ => none
def qRep1 (fb : EE) (d : PyData) (S : Sls) : Option (List PyData × Sls) := match d with
  | .list xs => k1 (qRep2 xs) (fb S)
  | _ => none
theorem vq_rep : lRep fa fb S = k1 (qRep1 fb) (fa S) := by
  unfold lRep k1
  cases fa S with
  | none => rfl
  | some p =>
    obtain ⟨d, S'⟩ := p
    cases d with
    | list xs =>
      show _ = k1 (qRep2 xs) (fb S')
      unfold k1
      dsimp only
      cases fb S' with
      | none => rfl
      | some q =>
        obtain ⟨e, S2⟩ := q
        cases e <;> rfl
    | _ => rfl
theorem vq_rep1 : qRep1 fb (.list xs) S = k1 (qRep2 xs) (fb S) := (rfl)
theorem vq_rep2 : qRep2 xs (.int p) S = if p ≤ 1000 ∧ xs.length ≤ 1000 ∧ -1000 ≤ p then some ((List.replicate p.toNat xs).flatten, S) else none := (rfl)
def qSS2 (S : Sls) (ns : List Int) : Option (List PyData × Sls) := if ns.length < 64 then some ((sortD ns).map PyData.int, S) else none
def qSS (d : PyData) (S : Sls) : Option (List PyData × Sls) := match d with
  | .tuple xs => kP (qSS2 S) (intsD xs)
  | .list xs => kP (qSS2 S) (intsD xs)
  | _ => none
theorem vq_ss : lSortSet f S = k1 qSS (f S) := by
  unfold lSortSet k1
  cases f S with
  | none => rfl
  | some p =>
    obtain ⟨d, S'⟩ := p
    cases d with
    | tuple xs =>
      show _ = kP (qSS2 S') (intsD xs)
      dsimp only
      cases intsD xs <;> rfl
    | list xs =>
      show _ = kP (qSS2 S') (intsD xs)
      dsimp only
      cases intsD xs <;> rfl
    | _ => rfl
theorem vq_ss1 : qSS (.tuple xs) S = kP (qSS2 S) (intsD xs) := (rfl)
theorem vq_ss3 : qSS (.list xs) S = kP (qSS2 S) (intsD xs) := (rfl)
theorem vq_ss2 : qSS2 S ns = if ns.length < 64 then some ((sortD ns).map PyData.int, S) else none := (rfl)
def okS (o : Option Sl) : Bool := match o with
  | some (.own _) => false
  | some (.lent _) => false
  | some (.scr _) => false
  | _ => true
theorem vq_okw_nil : okWipe S [] = true := (rfl)
theorem vq_okw : okWipe S (n :: vs) = (okS S[n]? && okWipe S vs) := (rfl)
theorem vq_okS_d : okS (some (.dat d)) = true := (rfl)
theorem vq_okS_u : okS (some .un) = true := (rfl)
def qC4 (y : PyData) (ys : List PyData) (S : Sls) : Option (List PyData × Sls) := some (y :: ys, S)
def qC3 (tg : Tg) (vs : List Nat) (tt : EB) (te : EE) (ds : List PyData) (y : PyData) (S : Sls) : Option (List PyData × Sls) := k1 (qC4 y) (lcL tg vs tt te ds (wipeS S vs))
def qC2 (tg : Tg) (vs : List Nat) (tt : EB) (te : EE) (ds : List PyData) (b : Bool) (S : Sls) : Option (List PyData × Sls) := match b with
  | true => k1 (qC3 tg vs tt te ds) (te S)
  | false => lcL tg vs tt te ds (wipeS S vs)
def qC1 (tg : Tg) (vs : List Nat) (tt : EB) (te : EE) (ds : List PyData) (S : Sls) : Option (List PyData × Sls) := k1 (qC2 tg vs tt te ds) (tt S)
theorem vq_lcl_nil : lcL tg vs tt te [] S = some ([], S) := (rfl)
theorem vq_lcl : lcL tg vs tt te (d :: ds) S = kP (qC1 tg vs tt te ds) (bindT tg d S) := by
  rw [lcL]
  unfold kP
  cases bindT tg d S with
  | none => rfl
  | some S1 =>
    show _ = k1 (qC2 tg vs tt te ds) (tt S1)
    unfold k1
    dsimp only
    cases tt S1 with
    | none => rfl
    | some p =>
      obtain ⟨b, S2⟩ := p
      cases b with
      | false => rfl
      | true =>
        show _ = k1 (qC3 tg vs tt te ds) (te S2)
        unfold k1
        dsimp only
        cases te S2 with
        | none => rfl
        | some q =>
          show _ = k1 (qC4 q.1) (lcL tg vs tt te ds (wipeS q.2 vs))
          unfold k1
          dsimp only
          cases lcL tg vs tt te ds (wipeS q.2 vs) <;> rfl
theorem vq_c1 : qC1 tg vs tt te ds S = k1 (qC2 tg vs tt te ds) (tt S) := (rfl)
theorem vq_c2_t : qC2 tg vs tt te ds true S = k1 (qC3 tg vs tt te ds) (te S) := (rfl)
theorem vq_c2_f : qC2 tg vs tt te ds false S = lcL tg vs tt te ds (wipeS S vs) := (rfl)
theorem vq_c3 : qC3 tg vs tt te ds y S = k1 (qC4 y) (lcL tg vs tt te ds (wipeS S vs)) := (rfl)
theorem vq_c4 : qC4 y ys S = some (y :: ys, S) := (rfl)
def kW (c : EB) (g : SF) (n : Nat) (o : Option Out) : Option Out := match o with
  | some (.nx S2) => whileL c g n S2
  | some (.ct S2) => whileL c g n S2
  | some (.bk S2) => some (.nx S2)
  | some (.rt r S2) => some (.rt r S2)
  | some (.rtF r S2) => some (.rtF r S2)
  | none => none
def qW (c : EB) (g : SF) (n : Nat) (b : Bool) (S : Sls) : Option Out := match b with
  | false => some (.nx S)
  | true => kW c g n (g S)
theorem vq_sw : sWhile n t c S = whileL t c n S := (rfl)
theorem vq_w : whileL t c (n + 1) S = k1 (qW t c n) (t S) := by
  rw [whileL]
  unfold k1
  cases t S with
  | none => rfl
  | some p =>
    obtain ⟨b, S1⟩ := p
    cases b with
    | false => rfl
    | true =>
      show _ = kW t c n (c S1)
      unfold kW
      dsimp only
      all_goals
        cases c S1 with
        | none => rfl
        | some o => cases o <;> rfl
theorem vq_w_f : qW t c n false S = some (.nx S) := (rfl)
theorem vq_w_t : qW t c n true S = kW t c n (c S) := (rfl)
theorem vq_w_nx : kW t c n (some (.nx S)) = whileL t c n S := (rfl)
theorem vq_w_ct : kW t c n (some (.ct S)) = whileL t c n S := (rfl)
theorem vq_w_bk : kW t c n (some (.bk S)) = some (.nx S) := (rfl)
theorem vq_w_rt : kW t c n (some (.rt d S)) = some (.rt d S) := (rfl)
theorem vq_w_rtF : kW t c n (some (.rtF xs S)) = some (.rtF xs S) := (rfl)
end
/-! ### what the operations answer at data of the right kind -/
section
variable {i j k m : Int} {xs ys : List PyData} {a b : Bool} {d e : PyData} {neg : Bool}
theorem w_len_l : gLen [.list xs] = some (.int xs.length) := (rfl)
theorem w_len_t : gLen [.tuple xs] = some (.int xs.length) := (rfl)
theorem w_abs : gAbs [.int i] = some (.int (if i < 0 then -i else i)) := (rfl)
theorem w_int : gInt [.int i] = some (.int i) := (rfl)
theorem w_intb : gInt [.bool a] = some (.int (if a then 1 else 0)) := (rfl)
theorem w_tup_l : gTupO [.list xs] = some (.tuple xs) := (rfl)
theorem w_tup_t : gTupO [.tuple xs] = some (.tuple xs) := (rfl)
theorem w_lst_l : gListO [.list xs] = some xs := (rfl)
theorem w_lst_t : gListO [.tuple xs] = some xs := (rfl)
theorem w_neg : gNeg (.int i) = some (.int (-i)) := (rfl)
theorem w_sub : DL.gSub (.int i) (.int j) = some (.int (i - j)) := (rfl)
theorem w_add : gAdd (.int i) (.int j) = some (.int (i + j)) := (rfl)
theorem w_add_t (h : xs.length + ys.length ≤ 1000000) : gAdd (.tuple xs) (.tuple ys) = some (.tuple (xs ++ ys)) := if_pos h
theorem w_add_l (h : xs.length + ys.length ≤ 1000000) : gAdd (.list xs) (.list ys) = some (.list (xs ++ ys)) := if_pos h
theorem w_mul (h : mulOk i j = true) : gMul (.int i) (.int j) = some (.int (i * j)) := if_pos h
theorem w_mul_l (h : -9223372036854775808 ≤ i) (h2 : i ≤ 9223372036854775808) : gMul (.int i) (.int j) = some (.int (i * j)) := if_pos (mulOk_left (by omega) (by omega))
theorem w_mul_r (h : -9223372036854775808 ≤ j) (h2 : j ≤ 9223372036854775808) : gMul (.int i) (.int j) = some (.int (i * j)) := if_pos (mulOk_right (by omega) (by omega))
theorem w_mul_ls : gMul (.list xs) (.int k) = if k ≤ 1000 ∧ xs.length ≤ 1000 ∧ -1000 ≤ k then some (.list (List.replicate k.toNat xs).flatten) else none := (rfl)
theorem w_range0 {n : Nat} : rangeD 0 ((n : Nat) : Int) = (List.range n).map fun (i : Nat) => PyData.int i := rangeD_nat n
theorem w_atI_5 {α : Type} {a0 a1 a2 a3 a4 a5 : α} {l : List α} : L2.atI (a0 :: a1 :: a2 :: a3 :: a4 :: a5 :: l) 5 = some a5 := atI_of (by omega) rfl
theorem w_atI_6 {α : Type} {a0 a1 a2 a3 a4 a5 a6 : α} {l : List α} : L2.atI (a0 :: a1 :: a2 :: a3 :: a4 :: a5 :: a6 :: l) 6 = some a6 := atI_of (by omega) rfl
theorem w_ixN_5 {n : Nat} : ixN (n + 6) 5 = some 5 := ixN_of (by omega) (by omega)
theorem w_mod (h : 0 < j) : gMod (.int i) (.int j) = some (.int (i % j)) := if_pos h
theorem w_fdiv (h : 0 < j) (h2 : j < 9223372036854775808) : gFdiv (.int i) (.int j) = some (.int (i / j)) := if_pos (divOk_small h (by omega))
theorem w_pow (h : 0 ≤ j) (h2 : j ≤ 1000000) (h3 : -9223372036854775808 ≤ i) (h4 : i ≤ 9223372036854775808) : gPow (.int i) (.int j) = some (.int (i ^ j.toNat)) := if_pos ⟨h, h2, by omega⟩
theorem w_cmp {f : Int → Int → Bool} : gCmp f (.int i) (.int j) = some (.bool (f i j)) := (rfl)
theorem w_isn : gIsN d .none = some (.bool (isNone d)) := (rfl)
theorem w_notn : gNotN d .none = some (.bool (!isNone d)) := (rfl)
theorem w_isb : gIsB (.bool a) (.bool b) = some (.bool (decide (a = b))) := (rfl)
theorem w_notb : gNotB (.bool a) (.bool b) = some (.bool (!decide (a = b))) := (rfl)
theorem w_ix_l : gIx (.list xs) (.int k) = L2.atI xs k := (rfl)
theorem w_ix_t : gIx (.tuple xs) (.int k) = L2.atI xs k := (rfl)
theorem w_sl_l {lo hi : Option Int} : gSl (.list xs) lo hi = some (.list (cutD xs lo hi)) := (rfl)
theorem w_sl_t {lo hi : Option Int} : gSl (.tuple xs) lo hi = some (.tuple (cutD xs lo hi)) := (rfl)
theorem w_it_l : itemsD (.list xs) = some xs := (rfl)
theorem w_it_t : itemsD (.tuple xs) = some xs := (rfl)
theorem w_tru_n : truD .none = some false := (rfl)
theorem w_tru_b : truD (.bool a) = some a := (rfl)
theorem w_tru_i : truD (.int i) = some (i != 0) := (rfl)
theorem w_tru_l : truD (.list xs) = some (!xs.isEmpty) := (rfl)
theorem w_tru_t : truD (.tuple xs) = some (!xs.isEmpty) := (rfl)
theorem w_isnone_n : isNone .none = true := (rfl)
theorem w_isnone_b : isNone (.bool a) = false := (rfl)
theorem w_isnone_i : isNone (.int i) = false := (rfl)
theorem w_isnone_l : isNone (.list xs) = false := (rfl)
theorem w_isnone_t : isNone (.tuple xs) = false := (rfl)
theorem w_all_nil : gAll [.list []] = some (.bool true) := (rfl)
theorem w_cont_own {S : Sls} : contD (.own xs :: S) 0 = some xs := (rfl)
theorem w_cont_lent {S : Sls} : contD (.lent xs :: S) 0 = some xs := (rfl)
theorem w_cont_dat {S : Sls} : contD (.dat d :: S) 0 = none := (rfl)
theorem w_cont_un {S : Sls} : contD (.un :: S) 0 = none := (rfl)
theorem w_cont_scr {S : Sls} {ns : List Int} : contD (.scr ns :: S) 0 = none := (rfl)
theorem w_cont_nil {n : Nat} : contD [] n = none := by cases n <;> rfl
theorem w_cut {α : Type} {f : α → PyData} {zs : List α} {lo hi : Option Int} : cutD (zs.map f) lo hi = (cutZ zs lo hi).map f := cutD_map f zs lo hi
theorem w_cut_to {α : Type} {zs : List α} {n : Nat} : cutZ zs none (some ((OfNat.ofNat n : Nat) : Int)) = zs.take n := cutZ_to zs n
theorem w_cont_succ {S : Sls} {s : Sl} {n : Nat} : contD (s :: S) (n + 1) = contD S n := (rfl)
theorem w_put_own {S : Sls} : putD (.own xs :: S) 0 ys = .own ys :: S := (rfl)
theorem w_put_lent {S : Sls} : putD (.lent xs :: S) 0 ys = .lent ys :: S := (rfl)
theorem w_put_succ {S : Sls} {s : Sl} {n : Nat} : putD (s :: S) (n + 1) ys = s :: putD S n ys := by
  unfold putD
  rw [List.getElem?_cons_succ]
  cases h : S[n]? with
  | none => rfl
  | some t => cases t <;> rfl
theorem w_sets_nil {S : Sls} {its : List Sl} : setS S [] its = S := by cases its <;> rfl
theorem w_sets_nil2 {S : Sls} {n : Nat} {is : List Nat} : setS S (n :: is) [] = S := (rfl)
theorem w_sets_cons {S : Sls} {n : Nat} {is : List Nat} {t : Sl} {its : List Sl} : setS S (n :: is) (t :: its) = setS (S.set n t) is its := (rfl)
theorem w_wipe_nil {S : Sls} : wipeS S [] = S := (rfl)
theorem w_wipe_cons {S : Sls} {n : Nat} {vs : List Nat} : wipeS S (n :: vs) = (wipeS S vs).set n .un := (rfl)
theorem w_rest_nil {S S2 : Sls} : restore S S2 [] = S2 := (rfl)
theorem w_rest_cons {S S2 : Sls} {n : Nat} {vs : List Nat} : restore S S2 (n :: vs) = (restore S S2 vs).set n (S.getD n .un) := (rfl)
theorem w_lent_lent {S : Sls} : lentOf (.lent xs :: S) = some xs := (rfl)
theorem w_lent_dat {S : Sls} : lentOf (.dat d :: S) = none := (rfl)
theorem w_lent_own {S : Sls} : lentOf (.own xs :: S) = none := (rfl)
theorem w_lent_un {S : Sls} : lentOf (.un :: S) = none := (rfl)
theorem w_lent_scr {S : Sls} {ns : List Int} : lentOf (.scr ns :: S) = none := (rfl)
theorem w_lent_nil : lentOf [] = none := (rfl)
theorem w_dats_nil : datS [] = [] := (rfl)
theorem w_dats_cons : datS (d :: xs) = .dat d :: datS xs := (rfl)
theorem w_rvd {d : PyData} : rvD (.d d) = d := (rfl)
theorem w_rvf : rvD (.f xs) = .list xs := (rfl)
theorem w_repl0 {α : Type} {x : α} : List.replicate 0 x = [] := (rfl)
theorem w_repl {α : Type} {x : α} {n : Nat} : List.replicate (n + 1) x = x :: List.replicate n x := (rfl)
theorem w_rok (h : -1000000 ≤ i) (h2 : i ≤ 1000000) : rOk i = true := rOk_small h h2
theorem w_ite_le {n m : Nat} {α : Type} {x y : α} (h : n ≤ m) : (if n ≤ m then x else y) = x := if_pos h
theorem w_ite_lt {n m : Nat} {α : Type} {x y : α} (h : n < m) : (if n < m then x else y) = x := if_pos h
theorem w_rlen {j : Int} : (rangeD 0 j).length = j.toNat := by
  unfold rangeD
  rw [List.length_map, List.length_range, Int.sub_zero]
theorem w_dt {p : Prop} [Decidable p] (h : p) : decide p = true := decide_eq_true h
theorem w_df {p : Prop} [Decidable p] (h : ¬p) : decide p = false := decide_eq_false h
end
/-! ### comprehensions whose element leaves the state -/
theorem lcL_at {α : Type} {tg : Tg} {vs : List Nat} {tt : EB} {te : EE} (enc : α → PyData) (h : α → PyData) (S : Sls) (S1 : α → Sls) (xs : List α)
    (h1 : ∀ x ∈ xs, bindT tg (enc x) S = some (S1 x)) (h2 : ∀ x ∈ xs, tt (S1 x) = some (true, S1 x)) (h3 : ∀ x ∈ xs, te (S1 x) = some (h x, S1 x)) (h4 : ∀ x ∈ xs, wipeS (S1 x) vs = S) : lcL tg vs tt te (xs.map enc) S = some (xs.map h, S) :=
  lcL_map enc h S xs fun x hx => ⟨_, _, _, h1 x hx, h2 x hx, h3 x hx, h4 x hx⟩
theorem lcL_nm {α : Type} {v : Nat} {te : EE} (enc : α → PyData) (h : α → PyData) (S : Sls) (xs : List α) (hS : S.set v .un = S)
    (h3 : ∀ x ∈ xs, te (S.set v (.dat (enc x))) = some (h x, S.set v (.dat (enc x)))) : lcL (.nm v) [v] bYes te (xs.map enc) S = some (xs.map h, S) :=
  lcL_at enc h S (fun x => S.set v (.dat (enc x))) xs (fun x _ => by rw [bindT]) (fun _ _ => rfl) h3 fun x _ => by
    show (S.set v (.dat (enc x))).set v .un = S
    rw [List.set_set, hS]
theorem lcL_nmf {α : Type} {v : Nat} {tt : EB} {te : EE} (enc : α → PyData) (p : α → Bool) (h : α → PyData) (S : Sls) (xs : List α) (hS : S.set v .un = S)
    (h2 : ∀ x ∈ xs, tt (S.set v (.dat (enc x))) = some (p x, S.set v (.dat (enc x)))) (h3 : ∀ x ∈ xs, p x = true → te (S.set v (.dat (enc x))) = some (h x, S.set v (.dat (enc x)))) : lcL (.nm v) [v] tt te (xs.map enc) S = some ((xs.filter p).map h, S) := by
  have e : ∀ x, wipeS (S.set v (.dat (enc x))) [v] = S := fun x => by
    show (S.set v (.dat (enc x))).set v .un = S
    rw [List.set_set, hS]
  exact lcL_filter enc p h S xs fun x hx => ⟨_, _, _, by rw [bindT], h2 x hx, h3 x hx, fun _ => e x, fun _ => e x⟩
end DL

/-! DL9: the law's def at the caller's own stack, where no guard is under way: so its repr's can be told. -/
namespace DL
open PySem PySem.Spec PyProof.Rows L2
/-- what a def promises at ONE state around -/
def AtA (P : Program) (w : World) (K : PySem.W.Frag) (mg : Str → Option Value) (base : Heap) (A : Around) (k : Nat) (f : Addr) (fd : FuncData) (ps : List Str) (sp : Sp) : Prop :=
  ∀ (outer : List Env) (s : Shared) (H : Hp) (ar : Args) (us : List Value) (vs : List V) (Q : VK) (E : XK), Room k A → Env0 P w K mg base A outer s H → BindsTo s fd ar (ps.zip us) → Vals vs us → sp vs H Q E →
    codeAny (model P w) A (.call (.ref f) ar) (CR CX0 outer P w H s Q E) s
section
variable {P : Program} {w : World} {K : PySem.W.Frag} {mg : Str → Option Value} {base : Heap} {A : Around}
theorem at_of {x qual : Str} {st : Stmt} {f : Addr} {fd : FuncData} {N ps : List Str} {k : Nat} {sp : Sp} (F : Fun K x qual st f fd) (S : FnScope N ps (defScope st)) (hlen : ∀ vs H Q E, sp vs H Q E → vs.length = ps.length)
    (hb : ∀ (cdv : Value) (outer : List Env) (s : Shared) (H : Hp) (vs : List V) (Q : VK) (E : XK), Room k (A.deeper (envOfC qual (defScope st) s.heap.objs.size f cdv)) → sp vs H Q E →
      ∃ t, PSs (cxOf CX0 P w K mg base N qual (defScope st) f cdv A outer s H E).nox (defBody st) t ∧ t { nx := fun _ H' => Q .non H', rt := Q } (start N vs) H) : AtA P w K mg base A (k + 1) f fd ps sp := by
  obtain ⟨oc, od, kV, doc, pm, an, cdv, ct, osl, rfl, lk, hcd⟩ := F.ex
  intro outer s H ar us vs Q E room e0 bind rel spec
  obtain ⟨t, body, goal⟩ := hb cdv outer s H vs Q E (room.deeper _) spec
  have keep : ∀ b o, base.get? b = some o → s.heap.get? b = some o := fun b o e => (e0.bs b o e).1
  have known : K.In s.heap := e0.mod.kin.keeps keep
  refine codeAny_call_function room.depth (known _ _ lk) rfl S.co S.gen rfl (PySem.W.codeRec_of known hcd) (bind _ _ _ _ ?_)
  refine wpAny_newFunctionEnv_cells S.kind (fun y hy => ?_) fun env henv s2 inCall => ?_
  · obtain ⟨n, v⟩ := y
    cases S.par n (List.of_mem_zip hy).1 with
    | inl z => exact .inl z
    | inr z => exact .inr ⟨z, PySem.W.cellsFrom_some _ _ _ (.inl z)⟩
  subst henv
  refine ⟨(e0.mod.nolimit.keeps keep).keeps inCall.toInCall.keep, codeAny_func ?_⟩
  have start' := inv_start (CX := CX0) (E := E) (N := N) S room.hd e0 (hlen _ _ _ _ spec) rel inCall
  have done : ∀ (v : V) (u : Value) (σ' : L2.St) (H' : Hp) (s' : Shared), Inv (cxOf CX0 P w K mg base N qual (defScope st) f cdv A outer s H E) [] σ' H' s' → RelV v u → Q v H' → CE outer P w H s Q u s' :=
    fun v u σ' H' s' J r q => ⟨v, H', J.os, J.bare, J.base, J.hok, r, q⟩
  refine wpAny_mono (body.nox.run [] s2 (start N vs) H _ start' goal) (fun fl s' hs => ?_) (fun e s' z => z)
  cases fl with
  | brk => obtain ⟨_, _, _, z⟩ := hs; exact z.elim
  | cont => obtain ⟨_, _, _, z⟩ := hs; exact z.elim
  | next => obtain ⟨σ', H', J, z⟩ := hs; exact done .non .none σ' H' s' J rfl z
  | ret u => obtain ⟨v, σ', H', J, r, z⟩ := hs; exact done v u σ' H' s' J r z
/-- the body of a def, by data, reaches what its function says -/
theorem start_d {N ps : List Str} {g : SF} (hnp : ps.length ≤ N.length) {vs : List V} {H : Hp} {Q : VK} {E : XK} (h : spG K ps.length (runF N.length ps.length g) vs H Q E) : tDS K g { nx := fun _ H' => Q .non H', rt := Q } (start N vs) H := by
  obtain ⟨hl, Z, S0, lo, r, fin, hZ, a, hF, q⟩ := h
  obtain ⟨C, c1, c2, c3, R⟩ := rel_start (N := N) (by rw [hl]; exact hnp) hZ a
  unfold runF at hF
  split at hF
  · next hlen =>
    rw [hl] at R
    have fin_of : ∀ {S' : Sls}, ((lentOf S0).isSome = true → (lentOf S').isSome = true) → ∀ {Z' H' : Hp} {σ' : L2.St}, Rel K C Z' σ' H' S' → ∀ p, lo = some p → ∃ ws xs, lentOf S' = some xs ∧ H' p = some (.lst ws) ∧ Z' p = none ∧ DqAll K Z' ws xs := fun {S'} hs {Z' H' σ'} R' p hp => by
      obtain ⟨_, _, xs0, hx0⟩ := a.lo p hp
      have h1 : (lentOf S0).isSome = true := by unfold lentOf; rw [hx0]; rfl
      obtain ⟨xs, hxs⟩ := Option.isSome_iff_exists.mp (hs h1)
      obtain ⟨p', ws, e0, e1, e2, e3⟩ := lent_end R' hxs
      rw [c3, hp] at e0
      cases e0
      exact ⟨ws, xs, hxs, e1, e2, e3⟩
    have fr : ∀ {Z' H' : Hp} {σ' : L2.St} {S' : Sls}, Rel K C Z' σ' H' S' → (∀ b, Z' b ≠ none → Z b ≠ none ∨ H b = none) ∧ (∀ b o, lo ≠ some b → H b = some o → H' b = some o) := fun {Z' H' σ' S'} R' =>
      ⟨fun b n => by have := R'.fresh b n; rw [c2, c1] at this; exact this, fun b o hb e => R'.same b o (by rw [c3]; exact hb) (by rw [c1]; exact e)⟩
    split at hF
    · next d S' hg =>
      split at hF
      · next hs =>
        cases hF
        refine ⟨C, Z, _, _, R, hg, fun v σ' H' Z' sm R' hv => ?_⟩
        exact q v H' Z' sm R'.sub (fr R').1 (fr R').2 (fin_of hs R') hv
      · cases hF
    · next xs S' hg =>
      split at hF
      · next hs =>
        cases hF
        refine ⟨C, Z, _, _, R, hg, fun p ws σ' H' Z' sm R' hp hz h0 hd => ?_⟩
        exact q _ H' Z' sm R'.sub (fr R').1 (fr R').2 (fin_of hs R') ⟨p, ws, rfl, hp, hz, by rw [← c1]; exact h0, hd⟩
      · cases hF
    · next S' hg =>
      split at hF
      · next hs =>
        cases hF
        refine ⟨C, Z, _, _, R, hg, fun σ' H' Z' sm R' => ?_⟩
        exact q .non H' Z' sm R'.sub (fr R').1 (fr R').2 (fin_of hs R') .non
      · cases hF
    · cases hF
  · cases hF
theorem at_d {x qual : Str} {st : Stmt} {f : Addr} {fd : FuncData} {N ps : List Str} {k : Nat} {g : SF} (F : Fun K x qual st f fd) (S : FnScope N ps (defScope st)) (hnp : ps.length ≤ N.length)
    (hb : ∀ (cdv : Value) (outer : List Env) (s : Shared) (H : Hp) (E : XK), Room k (A.deeper (envOfC qual (defScope st) s.heap.objs.size f cdv)) → PSs (cxOf CX0 P w K mg base N qual (defScope st) f cdv A outer s H E).nox (defBody st) (tDS K g)) :
    AtA P w K mg base A (k + 1) f fd ps (spG K ps.length (runF N.length ps.length g)) :=
  at_of F S (fun vs H Q E h => h.1) fun cdv outer s H vs Q E hr h => ⟨_, hb cdv outer s H E hr, start_d hnp h⟩
end
/-! ### the law's call -/
/-- the heap with the script alone in sight -/
def scrH (K : PySem.W.Frag) (a : Addr) (o : Obj) (ns : List Int) : Hp := fun b => if b = a ∧ K.lookup a = none then some (.frz o (.lst (ns.map V.int))) else none
theorem law_at {P : Program} {w : World} {K : PySem.W.Frag} {mg mb : Str → Option Value} {k : Nat} {fa a : Addr} {fd : FuncData} {x : Str} {F : FnD} {s : Shared} {vs : List Value} {ns : List Int}
    (known : K.In s.heap) (hns : s.heap.Ns mainGlobals mg) (hb : s.heap.Ns builtinsNs mb) (hbb : ∀ y : Str, y ≠ "__name__" → mb y = bootBuiltins y) (hlim : s.heap.NoLimit) (hgen : s.gens = #[])
    (ha : s.heap.get? a = some { cls := .type "list", data := .seq vs.toArray }) (hi : IntsAre vs ns) (hl : ns.length ≤ 63) (room : Room k callerA)
    (at_ : ∀ base : Heap, K.In base → base.Ns mainGlobals mg → AtA P w K mg base callerA k fa fd [x] (spG K 1 F)) (hbind : ∀ (s : Shared) (u : Value), BindsTo s fd ⟨[u], []⟩ [(x, u)])
    (LAW : ∃ fin, F [.scr ns] = some (.d (.bool true), fin)) :
    codeAny (model P w) callerA (.call (.ref fa) ⟨[.ref a], []⟩) (fun r s' => r = .ok (.ret (.bool true)) ∧ OldK s.heap s'.heap ∧ s'.os = s.os ∧ AllBare s'.gens) s := by
  obtain ⟨fin, LAW⟩ := LAW
  have vals := L2.vals_ints hi
  have lv : vs.length = ns.length := by have := vals.length; rw [List.length_map] at this; exact this.symm
  have l63 : ns.length ≤ sizeLine := Nat.le_trans hl (by decide)
  -- the heap in sight
  let o : Obj := { cls := .type "list", data := .seq vs.toArray }
  let H : Hp := scrH K a o ns
  have H_at : ∀ b, H b ≠ none → b = a ∧ K.lookup a = none := fun b n => by
    by_cases c : b = a ∧ K.lookup a = none
    · exact c
    · exact absurd (if_neg c) n
  have H_val : ∀ b u, H b = some u → u = .frz o (.lst (ns.map V.int)) := fun b u e => by
    obtain ⟨c1, c2⟩ := H_at b (by rw [e]; exact Option.some_ne_none _)
    have e' := (if_pos ⟨c1, c2⟩ : H b = _).symm.trans e
    exact (Option.some.inj e').symm
  have sq : SqL K H a (ns.map V.int) := by
    cases q : K.lookup a with
    | some o' =>
      have e := known a o' q
      rw [ha] at e
      cases e
      exact .inr ⟨_, vs.toArray, _, q, rfl, rfl, rfl, by rw [List.size_toArray, lv]; exact l63, vals⟩
    | none => exact .inl (.inr ⟨o, if_pos ⟨rfl, q⟩⟩)
  have hok : HOk P w H s.heap := fun b u e => by
    obtain ⟨c1, c2⟩ := H_at b (by rw [e]; exact Option.some_ne_none _)
    have := H_val b u e
    subst this
    subst c1
    exact ⟨ha, by rw [List.length_map]; exact l63, vs, _, vals, ha⟩
  -- all that is not the script stands in the base
  have hid : ∀ {b : Addr} {q : Obj}, s.heap.get? b = some q → H b = none → (hidT s.heap H).get? b = some q := fun e n => hidT_get e n
  have dict_free : ∀ {b : Addr} {q : Obj} {es : Array DictEntry} {n : Nat}, s.heap.get? b = some q → q.data = .dict es n → H b = none := fun {b q es n} e d => by
    cases z : H b with
    | none => rfl
    | some u =>
      obtain ⟨c1, _⟩ := H_at b (by rw [z]; exact Option.some_ne_none _)
      rw [c1, ha] at e
      cases e
      exact absurd (show Data.seq vs.toArray _ = Data.dict es n from d) (fun y => Data.noConfusion y)
  have ns_hid : ∀ {b : Addr} {m : Str → Option Value}, s.heap.Ns b m → (hidT s.heap H).Ns b m := fun {b m} ⟨q, es, n, e, d, r⟩ => ⟨q, es, n, hid e (dict_free e d), d, r⟩
  have k_hid : K.In (hidT s.heap H) := fun b q e => hid (known b q e) (by
    cases z : H b with
    | none => rfl
    | some u =>
      obtain ⟨c1, c2⟩ := H_at b (by rw [z]; exact Option.some_ne_none _)
      rw [c1, c2] at e
      cases e)
  have env : Env0 P w K mg (hidT s.heap H) callerA [] s H := by
    refine ⟨rfl, ⟨k_hid, ns_hid hns, ⟨mb, ns_hid hb, hbb⟩, ?_⟩, fun b q e => of_hidT e, Nat.le_of_eq (hidT_size _ _), trivial, fun b z => ?_, hok, .of_eq hgen⟩
    · obtain ⟨mc, y1, y2⟩ := hlim
      exact ⟨mc, ns_hid y1, y2⟩
    · have z' : b ∈ ([] : List Addr) := z
      cases z'
  have want : spG K 1 F [.ref a] H (fun v _ => v = .bl true) fun _ _ _ => False :=
    ⟨rfl, H, [.scr ns], none, _, fin, Same.refl _, args_scr sq, LAW, fun v H' Z' a1 a2 a3 a4 a5 a6 => by
      have a6' : Dq K Z' v (.bool true) := a6
      cases a6'
      rfl⟩
  refine codeAny_mono (at_ _ k_hid (ns_hid hns) [] s H ⟨[.ref a], []⟩ [.ref a] [.ref a] _ _ room env (hbind s (.ref a)) (.cons rfl .nil) want) fun r s' out => ?_
  cases r with
  | error e => exact False.elim out
  | ok fl =>
    cases fl with
    | ret u =>
      obtain ⟨v, H', os, bare, un, hok', rv, rfl⟩ := out
      have : u = Value.bool true := rv
      subst this
      refine ⟨rfl, OldK.of_keep fun b q e => ?_, os, bare⟩
      cases z : H b with
      | none => exact un.keep b q e z (fun y => by have y' : b ∈ ([] : List Addr) := y; cases y') (by simp)
      | some t =>
        have := H_val b t z
        subst this
        obtain ⟨i1, _⟩ := hok b _ z
        obtain ⟨i2, _⟩ := hok' b _ (un.frzs b o _ z)
        rw [i1] at e
        cases e
        exact i2
    | next => exact False.elim out
    | brk => exact False.elim out
    | cont => exact False.elim out
theorem walk_at_caller {l : PySem.W.OpenLaw} {k : Nat} {q : Program} {loose : List Str} {XP : (Str → Option Value) → Heap → Prop} {YP : World → Heap → Prop} {d : DefRec} {K : Params → PySem.W.Frag} {F : FnD} {x : Str}
    (hn : l.most = some 63) (hdf : d.params.defaults = []) (room : Room k callerA) (hY : ∀ (w : World) (h : Heap), YP w h → (K w.params).In h)
    (G : ∀ (w : World) (mg : Str → Option Value) (fa : Addr) (h : Heap), (K w.params).In h → h.Ns mainGlobals mg → mg d.name = some (.ref fa) →
      ∃ fd : FuncData, (∀ (s : Shared) (u : Value), BindsTo s fd ⟨[u], []⟩ [(x, u)]) ∧ ∀ base : Heap, (K w.params).In base → base.Ns mainGlobals mg → AtA l.prog w (K w.params) mg base callerA k fa fd [x] (spG (K w.params) 1 F))
    (LAW : ∀ ns : List Int, ns.length ≤ 63 → ∃ fin, F [.scr ns] = some (.d (.bool true), fin)) :
    PySem.W.WalkO q loose XP YP l.row.toRowW d [] (fun f vs => PySem.call f vs) := by
  refine Att.attach_call hn hdf fun w s₀ s₁ mg mb fa o pm cd doc a vs ns G0 Y _ _ _ hmg hobj hints hlen hg => ?_
  obtain ⟨fd, h1, h2⟩ := G w mg fa _ (hY w _ Y) G0.T.g hmg
  exact law_at (hY w _ Y) G0.T.g G0.T.b G0.T.builtins G0.T.nolimit hg hobj hints hlen room h2 h1 (LAW ns hlen)

/-! ### repr -/
def showOk (d : PyData) : Bool := d.showable && !d.hasDict && decide (d.depth ≤ 40) && d.leavesShort 13 && decide (d.bulk ≤ 2 ^ 20)
def gRepr : List PyData → Option PyData
  | [d] => match d with
    | .str _ => none
    | .dict _ => none
    | _ => if showOk d = true then some (.str d.shown) else none
  | _ => none
def gRepr1 (d : PyData) : Bool := match d with
  | .str _ => false
  | .dict _ => false
  | _ => showOk d
theorem gRepr_of {d e : PyData} (h : gRepr [d] = some e) : gRepr1 d = true ∧ e = .str d.shown := by
  unfold gRepr at h
  unfold gRepr1
  cases d <;> dsimp only at h ⊢ <;> first
    | cases h
      done
    | (split at h
       · next c => cases h; exact ⟨c, rfl⟩
       · cases h)
theorem c_repr {X : Cx} (hG : X.A.guards = some []) (hu : X.A.units + 64 < cLine) : CallR X (.builtin "repr") (fun xs H Q => ∃ (v : V) (d : PyData), xs = [v] ∧ Dp X.K H v d ∧ gRepr1 d = true ∧ Q (.str d.shown) H) := by
  intro pins s σ H xs us Q I r h
  obtain ⟨v, d, rfl, hd, hs, q⟩ := h
  obtain ⟨u, rfl, r1⟩ := vals1 r
  obtain ⟨as, rd⟩ := Dp.reads I d _ u hd r1
  have go : ∀ {a : Addr}, u = .ref a → showOk d = true → wpAny (model X.prog X.w) X.A (call (.builtin "repr") [u]) (EP X pins σ Q) X.xe s := fun {a} e hs => by
    subst e
    unfold showOk at hs
    simp only [Bool.and_eq_true, Bool.not_eq_true', decide_eq_true_eq] at hs
    obtain ⟨⟨⟨⟨s1, s2⟩, s3⟩, s4⟩, s5⟩ := hs
    refine repr_of_reads' rd s1 (fun z => by rw [s2] at z; cases z) hG (by omega) (fun b o e => e) (fun h' u tk kp => ?_) (PyData.shown_fits_bulk (by decide) (by decide) s4 s5)
    exact ⟨.str d.shown, H, I.kept kp, ⟨_, rfl⟩, q⟩
  cases hd with
  | non =>
    obtain rfl : u = .none := r1
    exact PySem.P.repr_of_none ⟨.str _, H, I.tok _, ⟨_, rfl⟩, by rw [PyData.shown] at q; exact q⟩
  | bl b =>
    obtain rfl : u = .bool b := r1
    exact PySem.P.repr_of_bool ⟨.str _, H, I.tok _, ⟨_, rfl⟩, by rw [PyData.shown] at q; exact q⟩
  | int i =>
    obtain ⟨t, rfl⟩ := r1
    have hz : i.natAbs.log2 < 1920 := by
      have hs : showOk (.int i) = true := hs
      unfold showOk at hs
      simp only [Bool.and_eq_true] at hs
      have := hs.1.1.1.1
      rw [PyData.showable, decide_eq_true_eq] at this
      omega
    exact PySem.P.repr_of_int hz ⟨.str _, H, I.tok _, ⟨_, rfl⟩, by rw [PyData.shown] at q; exact q⟩
  | str x => cases hs
  | lst h1 h2 => exact go r1 hs
  | tup h1 h2 => exact go r1 hs
theorem cd_repr {K : PySem.W.Frag} : CallD K (fun xs H Q => ∃ (v : V) (d : PyData), xs = [v] ∧ Dp K H v d ∧ gRepr1 d = true ∧ Q (.str d.shown) H) gRepr := by
  intro C Z σ H S vs ds z Q R hv g q
  cases hv with
  | nil => cases g
  | cons h t =>
    cases t with
    | cons _ _ => cases g
    | nil =>
      obtain ⟨g1, rfl⟩ := gRepr_of g
      exact ⟨_, _, rfl, (dq_mono R.sub h).dp, g1, q _ H Z (Same.refl _) R (.str _)⟩
theorem repr_t {xs : List PyData} (h : showOk (.tuple xs) = true) : gRepr [.tuple xs] = some (.str (PyData.tuple xs).shown) := if_pos h
theorem repr_l {xs : List PyData} (h : showOk (.list xs) = true) : gRepr [.list xs] = some (.str (PyData.list xs).shown) := if_pos h
theorem repr_i {i : Int} (h : showOk (.int i) = true) : gRepr [.int i] = some (.str (PyData.int i).shown) := if_pos h
/-- != of two texts -/
def gNeS : PyData → PyData → Option PyData
  | .str x, .str y => some (.bool (!decide (x = y)))
  | _, _ => none
theorem b_neS {K : PySem.W.Frag} : BinD K rNe gNeS := by
  intro C Z σ H S x y d e z Q R hx hy g q
  unfold gNeS at g
  split at g
  · next a b =>
    cases g
    cases hx
    cases hy
    refine ⟨rfl, ?_⟩
    have q' := q (.bl (!decide (a = b))) H Z (Same.refl _) R (.bl _)
    by_cases c : a = b
    · subst c
      simpa using q'
    · have c' : ¬ (V.str a = V.str b) := fun z => c (V.str.inj z)
      simpa [c, c'] using q'
  · cases g
theorem w_neS {x y : Str} : gNeS (.str x) (.str y) = some (.bool (!decide (x = y))) := (rfl)
end DL

/-! DLG: rows by a rule: data of tables that a function tells, and sums of such. -/
namespace DL
open PySem PySem.Spec PyProof.Rows L2
/-! ### lines and tables by a rule -/
abbrev rowD (w : Nat) (f : Nat → Int) : PyData := .tuple ((List.range w).map fun j => PyData.int (f j))
abbrev matD (h w : Nat) (f : Nat → Nat → Int) : PyData := .tuple ((List.range h).map fun i => rowD w (f i))
theorem rowD_line (w : Nat) (f : Nat → Int) : rowD w f = dLine ((List.range w).map f) := by
  show PyData.tuple _ = PyData.tuple _
  rw [List.map_map]
  rfl
theorem matD_rows (h w : Nat) (f : Nat → Nat → Int) : matD h w f = dRows ((List.range h).map fun i => (List.range w).map (f i)) := by
  show PyData.tuple _ = PyData.tuple _
  rw [List.map_map]
  congr 1
  apply List.map_congr_left
  intro i _
  exact rowD_line w (f i)
theorem rowD_congr {w : Nat} {f g : Nat → Int} (h : ∀ j, j < w → f j = g j) : rowD w f = rowD w g := by
  show PyData.tuple _ = PyData.tuple _
  congr 1
  apply List.map_congr_left
  intro j hj
  rw [h j (List.mem_range.mp hj)]
theorem matD_congr {m n : Nat} {f g : Nat → Nat → Int} (h : ∀ i j, i < m → j < n → f i j = g i j) : matD m n f = matD m n g := by
  show PyData.tuple _ = PyData.tuple _
  congr 1
  apply List.map_congr_left
  intro i hi
  exact rowD_congr fun j hj => h i j (List.mem_range.mp hi) hj
theorem ne_row (w : Nat) (f : Nat → Int) : gNe (rowD w f) (rowD w f) = some (.bool false) := by
  rw [rowD_line, gNe_line]
  simp
theorem ne_mat (h w : Nat) (f : Nat → Nat → Int) : gNe (matD h w f) (matD h w f) = some (.bool false) := by
  rw [matD_rows, gNe_rows]
  simp
theorem ne_pair (a b : Int) : gNe (.tuple [.int a, .int b]) (.tuple [.int a, .int b]) = some (.bool false) := by
  have h := gNe_line [a, b] [a, b]
  rw [decide_eq_true (rfl : [a, b] = [a, b])] at h
  exact h
theorem atI_range {α : Type} {n : Nat} (f : Nat → α) {j : Nat} (h : j < n) : L2.atI ((List.range n).map f) (j : Int) = some (f j) := by
  refine atI_nat ?_
  rw [List.getElem?_map, List.getElem?_range h]
  rfl
theorem atI_range0 {α : Type} {n : Nat} (f : Nat → α) (h : 0 < n) : L2.atI ((List.range n).map f) 0 = some (f 0) := atI_range f h
theorem len_range {α : Type} {n : Nat} (f : Nat → α) : ((List.range n).map f).length = n := by rw [List.length_map, List.length_range]
theorem zipD_range {n : Nat} (f g : Nat → PyData) : zipD ((List.range n).map f) ((List.range n).map g) = (List.range n).map fun i => .tuple [f i, g i] := by
  rw [zipD_map]
  apply List.ext_getElem
  · simp
  · intro i h1 h2
    simp
/-- sums -/
def sumTo (n : Nat) (f : Nat → Int) : Int := ((List.range n).map f).sum
theorem gSum_range {n : Nat} (f : Nat → Int) : gSum [.list ((List.range n).map fun i => PyData.int (f i))] = some (.int (sumTo n f)) := gSum_map f (List.range n)
theorem gAll_range {n : Nat} (f : Nat → Bool) : gAll [.list ((List.range n).map fun i => PyData.bool (f i))] = some (.bool ((List.range n).all f)) := gAll_map f (List.range n)
theorem gAll_true (n : Nat) : gAll [.list ((List.range n).map fun _ => PyData.bool true)] = some (.bool true) := by
  rw [gAll_map (fun _ => true)]
  simp
theorem sumTo_zero (f : Nat → Int) : sumTo 0 f = 0 := rfl
theorem sum_concat : ∀ (l : List Int) (x : Int), (l ++ [x]).sum = l.sum + x
  | [], x => by simp
  | y :: l, x => by
    rw [List.cons_append, List.sum_cons, List.sum_cons, sum_concat l x]
    omega
theorem sumTo_succ (n : Nat) (f : Nat → Int) : sumTo (n + 1) f = sumTo n f + f n := by
  unfold sumTo
  rw [List.range_succ, List.map_append, List.map_cons, List.map_nil, sum_concat]
theorem sumTo_congr {n : Nat} {f g : Nat → Int} (h : ∀ k, k < n → f k = g k) : sumTo n f = sumTo n g := by
  unfold sumTo
  congr 1
  apply List.map_congr_left
  intro k hk
  exact h k (List.mem_range.mp hk)
theorem sumTo_add (f g : Nat → Int) : ∀ n : Nat, sumTo n (fun k => f k + g k) = sumTo n f + sumTo n g
  | 0 => rfl
  | n + 1 => by
    rw [sumTo_succ, sumTo_succ, sumTo_succ, sumTo_add f g n]
    omega
theorem sumTo_zeros : ∀ n : Nat, sumTo n (fun _ => 0) = 0
  | 0 => rfl
  | n + 1 => by rw [sumTo_succ, sumTo_zeros n]; rfl
theorem sumTo_mul (c : Int) (f : Nat → Int) : ∀ n : Nat, sumTo n (fun k => c * f k) = c * sumTo n f
  | 0 => by rw [sumTo_zero, sumTo_zero, Int.mul_zero]
  | n + 1 => by rw [sumTo_succ, sumTo_succ, sumTo_mul c f n, Int.mul_add]
theorem sumTo_mul_r (c : Int) (f : Nat → Int) (n : Nat) : sumTo n (fun k => f k * c) = sumTo n f * c := by
  rw [Int.mul_comm, ← sumTo_mul]
  exact sumTo_congr fun k _ => Int.mul_comm _ _
theorem sumTo_swap (f : Nat → Nat → Int) (m : Nat) : ∀ n : Nat, sumTo n (fun k => sumTo m (fun l => f k l)) = sumTo m (fun l => sumTo n (fun k => f k l))
  | 0 => by
    rw [sumTo_zero]
    exact (sumTo_zeros m).symm
  | n + 1 => by
    rw [sumTo_succ, sumTo_swap f m n, ← sumTo_add]
    exact sumTo_congr fun l _ => (sumTo_succ n fun k => f k l).symm
/-- the one term that counts -/
theorem sumTo_one (f : Nat → Int) (j : Nat) : ∀ n : Nat, sumTo n (fun k => if k = j then f k else 0) = if j < n then f j else 0
  | 0 => by simp [sumTo_zero]
  | n + 1 => by
    rw [sumTo_succ, sumTo_one f j n]
    by_cases h : n = j
    · subst h
      simp
    · by_cases h2 : j < n
      · rw [if_pos h2, if_neg h, if_pos (by omega), Int.add_zero]
      · rw [if_neg h2, if_neg h, if_neg (by omega)]
        rfl
theorem sumTo_bound {B : Int} (f : Nat → Int) : ∀ n : Nat, (∀ k, k < n → -B ≤ f k ∧ f k ≤ B) → -(n * B) ≤ sumTo n f ∧ sumTo n f ≤ n * B
  | 0, _ => by simp [sumTo_zero]
  | n + 1, h => by
    have h1 := sumTo_bound (B := B) f n fun k hk => h k (by omega)
    have h2 := h n (by omega)
    rw [sumTo_succ]
    have e : ((n + 1 : Nat) : Int) * B = n * B + B := by
      rw [show ((n + 1 : Nat) : Int) = (n : Int) + 1 from rfl, Int.add_mul, Int.one_mul]
    rw [e]
    omega
theorem mul_small {a b A B : Int} (ha : -A ≤ a ∧ a ≤ A) (hb : -B ≤ b ∧ b ≤ B) : -(A * B) ≤ a * b ∧ a * b ≤ A * B := by
  have h1 : a.natAbs ≤ A.natAbs := by omega
  have h2 : b.natAbs ≤ B.natAbs := by omega
  have h3 : (a * b).natAbs ≤ (A * B).natAbs := by
    rw [Int.natAbs_mul, Int.natAbs_mul]
    exact Nat.mul_le_mul h1 h2
  have h4 : 0 ≤ A * B := Int.mul_nonneg (by omega) (by omega)
  omega
/-! ### their texts -/
def smallI (i : Int) : Prop := i.natAbs < 10 ^ 11
theorem sh_int {i : Int} (h : smallI i) : (PyData.int i).showable = true ∧ (PyData.int i).leavesShort 13 = true := by
  unfold smallI at h
  constructor
  · rw [PyData.showable, decide_eq_true_eq]
    exact Nat.lt_of_lt_of_le (PySem.Flt.log2_lt_of (k := 40) (by decide) (Nat.lt_of_lt_of_le h (by decide))) (by decide)
  · rw [PyData.leavesShort, decide_eq_true_eq, PyData.shown]
    have e := int_text_length_le10 (k := 11) (by decide) h
    have e2 : (toString i : String).length ≤ 13 := by omega
    show (Str.ofString (toString i)).length ≤ 13
    rw [PySem.ofString_length]
    exact e2
theorem sh_ints {α : Type} (f : α → Int) : ∀ l : List α, (∀ x ∈ l, smallI (f x)) → PyData.showableAll (l.map fun x => .int (f x)) = true ∧ PyData.leavesShortAll 13 (l.map fun x => .int (f x)) = true ∧ PyData.hasDictAll (l.map fun x => .int (f x)) = false ∧ PyData.depthAll (l.map fun x => .int (f x)) = 0 ∧ PyData.bulkAll (l.map fun x => .int (f x)) = l.length
  | [], _ => by
    rw [List.map_nil]
    refine ⟨?_, ?_, ?_, ?_, ?_⟩
    · rw [PyData.showableAll]
    · rw [PyData.leavesShortAll]
    · rw [PyData.hasDictAll]
    · rw [PyData.depthAll]
    · rw [PyData.bulkAll]; rfl
  | x :: l, h => by
    obtain ⟨a1, a2, a3, a4, a5⟩ := sh_ints f l fun y hy => h y (List.mem_cons_of_mem _ hy)
    obtain ⟨b1, b2⟩ := sh_int (h x List.mem_cons_self)
    rw [List.map_cons]
    refine ⟨?_, ?_, ?_, ?_, ?_⟩
    · rw [PyData.showableAll, a1, b1]; rfl
    · rw [PyData.leavesShortAll, a2, b2]; rfl
    · rw [PyData.hasDictAll, a3, PyData.hasDict]; rfl
    · rw [PyData.depthAll, a4, PyData.depth]; rfl
    · rw [PyData.bulkAll, a5, PyData.bulk, List.length_cons]; omega
theorem sh_rows {α : Type} (w : Nat) (f : α → Nat → Int) : ∀ l : List α, (∀ x ∈ l, ∀ j, j < w → smallI (f x j)) → PyData.showableAll (l.map fun x => rowD w (f x)) = true ∧ PyData.leavesShortAll 13 (l.map fun x => rowD w (f x)) = true ∧ PyData.hasDictAll (l.map fun x => rowD w (f x)) = false ∧ PyData.depthAll (l.map fun x => rowD w (f x)) ≤ 1 ∧ PyData.bulkAll (l.map fun x => rowD w (f x)) = l.length * (w + 1)
  | [], _ => by
    rw [List.map_nil]
    refine ⟨?_, ?_, ?_, ?_, ?_⟩
    · rw [PyData.showableAll]
    · rw [PyData.leavesShortAll]
    · rw [PyData.hasDictAll]
    · rw [PyData.depthAll]; omega
    · rw [PyData.bulkAll]; simp
  | x :: l, h => by
    obtain ⟨a1, a2, a3, a4, a5⟩ := sh_rows w f l fun y hy => h y (List.mem_cons_of_mem _ hy)
    obtain ⟨b1, b2, b3, b4, b5⟩ := sh_ints (f x) (List.range w) fun j hj => h x List.mem_cons_self j (List.mem_range.mp hj)
    rw [List.map_cons]
    refine ⟨?_, ?_, ?_, ?_, ?_⟩
    · rw [PyData.showableAll, a1, PyData.showable, b1]; rfl
    · rw [PyData.leavesShortAll, a2, PyData.leavesShort, b2]; rfl
    · rw [PyData.hasDictAll, a3, PyData.hasDict, b3]; rfl
    · rw [PyData.depthAll, PyData.depth, b4]; omega
    · rw [PyData.bulkAll, a5, PyData.bulk, b5, List.length_cons, List.length_range, Nat.add_mul]; omega
theorem repr_mat {h w : Nat} {f : Nat → Nat → Int} (hh : h ≤ 10) (hw : w ≤ 10) (hf : ∀ i j, i < h → j < w → smallI (f i j)) : gRepr [matD h w f] = some (.str (matD h w f).shown) := by
  obtain ⟨b1, b2, b3, b4, b5⟩ := sh_rows w f (List.range h) fun i hi j hj => hf i j (List.mem_range.mp hi) hj
  refine if_pos ?_
  unfold showOk
  rw [PyData.showable, b1, PyData.hasDict, b3, PyData.leavesShort, b2, PyData.depth, PyData.bulk, b5, List.length_range]
  have e1 : PyData.depthAll ((List.range h).map fun i => rowD w (f i)) + 1 ≤ 40 := by omega
  have e2 : h * (w + 1) ≤ 2 ^ 20 := Nat.le_trans (Nat.mul_le_mul hh (show w + 1 ≤ 11 by omega)) (by decide)
  rw [decide_eq_true e1, decide_eq_true e2]
  rfl
theorem small_of {i : Int} (h : -1000000000 ≤ i) (h2 : i ≤ 1000000000) : smallI i := by
  unfold smallI
  have : (10 : Nat) ^ 11 = 100000000000 := by decide
  omega
/-! ### places left out -/
def skip (k j : Nat) : Nat := if j < k then j else j + 1
theorem enumD_range {n : Nat} (f : Nat → PyData) : enumD ((List.range n).map f) = (List.range n).map fun j => .tuple [.int (j : Nat), f j] := by
  rw [enumD_map]
  apply List.ext_getElem
  · simp
  · intro i h1 h2
    simp
theorem cut_from {n : Nat} (f : Nat → PyData) (k : Nat) : cutD ((List.range n).map f) (some (k : Int)) none = (List.range (n - k)).map fun j => f (k + j) := by
  rw [cutD_map, cutZ_from]
  apply List.ext_getElem
  · simp
  · intro i h1 h2
    simp
theorem cut_to {n : Nat} (f : Nat → PyData) {k : Nat} (h : k ≤ n) : cutD ((List.range n).map f) none (some (k : Int)) = (List.range k).map f := by
  rw [cutD_map, cutZ_to]
  apply List.ext_getElem
  · simp [Nat.min_eq_left h]
  · intro i h1 h2
    simp
theorem cut_skip {n k : Nat} (f : Nat → PyData) (h : k < n + 1) : (List.range k).map f ++ ((List.range (n + 1 - (k + 1))).map fun j => f (k + 1 + j)) = (List.range n).map fun j => f (skip k j) := by
  apply List.ext_getElem
  · simp
    omega
  · intro i h1 h2
    have e2 : ((List.range n).map fun j => f (skip k j))[i] = f (skip k i) := by rw [List.getElem_map, List.getElem_range]
    rw [e2, List.getElem_append]
    unfold skip
    by_cases c : i < k
    · simp [c]
    · simp [c]
      congr 1
      omega
/-- the determinant by the first row -/
def sgF (k : Nat) : Int := if k % 2 = 0 then 1 else -1
theorem sgF_succ (k : Nat) : sgF (k + 1) = -sgF k := by
  unfold sgF
  by_cases h : k % 2 = 0
  · rw [if_pos h, if_neg (by omega)]
  · rw [if_neg h, if_pos (by omega)]
    rfl
def minF (k : Nat) (f : Nat → Nat → Int) (i j : Nat) : Int := f (i + 1) (skip k j)
def detF : Nat → (Nat → Nat → Int) → Int
  | 0, _ => 1
  | n + 1, f => sumTo (n + 1) fun k => sgF k * f 0 k * detF n (minF k f)
end DL

/-! DLJ: more built-ins by data: list(range(..)), tuple(range(..)), min and max of two ints. -/
namespace DL
open PySem PySem.Spec PyProof.Rows L2
theorem dq_rg {K : PySem.W.Frag} {Z : Hp} (a b : Int) : DqAll K Z (rgV a b) (rangeD a b) := by
  unfold rgV rangeD
  have h : ∀ l : List Nat, DqAll K Z (l.map fun i => V.int (a + (i : Nat))) (l.map fun i => PyData.int (a + (i : Nat))) := by
    intro l
    induction l with
    | nil => exact .nil
    | cons i l ih => exact .cons (.int _) ih
  exact h _
def rgOk (a b : Int) : Bool := rOk a && rOk b && decide ((b - a).toNat ≤ 1000000)
theorem rgOk_ok {a b : Int} (h : rgOk a b = true) : RgOk a b := by
  unfold rgOk rOk at h
  simp only [Bool.and_eq_true, decide_eq_true_eq] at h
  obtain ⟨⟨⟨h1, h2⟩, h3, h4⟩, h5⟩ := h
  exact ⟨h1, h2, h3, h4, Nat.le_trans h5 (by decide)⟩
def lRg1 (fa : EE) : EL := fun S => match fa S with
  | some (.int j, S1) => if rgOk 0 j = true then some (rangeD 0 j, S1) else none
  | _ => none
def lRg2 (fa fb : EE) : EL := fun S => match fa S with
  | some (.int i, S1) => match fb S1 with
    | some (.int j, S2) => if rgOk i j = true then some (rangeD i j, S2) else none
    | _ => none
  | _ => none
section
variable {X : Cx} {a b : Expr} {p p2 pos pos2 : Pos}
theorem df_listRg1 {fa : EE} (hc : X.calm = true) (ml : X.mg "list" = none) (mr : X.mg "range" = none) (h1 : PE X a (tD X.K fa)) (gl : Gl X "list" := by rfl) (gr : Gl X "range" := by rfl)
    (na : starEach [a] X.env = (false, eval a X.env) :: starEach [] X.env := by rfl) (nc : starEach [Expr.Call (.Name "range" p2) [a] [] pos2] X.env = (false, eval (.Call (.Name "range" p2) [a] [] pos2) X.env) :: starEach [] X.env := by rfl) :
    PE X (.Call (.Name "list" p) [.Call (.Name "range" p2) [a] [] pos2] [] pos) (tF X.K (lRg1 fa)) := by
  refine (pe_listRg hc gl ml (prg_1 gr mr h1 na) nc).imp fun σ H Q z => ?_
  obtain ⟨C, Z, S, ds, S', R, e, q⟩ := z
  unfold lRg1 at e
  split at e
  · next j S1 g1 =>
    split at e
    · next ok =>
      cases e
      refine ⟨C, Z, S, _, _, R, g1, fun v H1 Z1 sm R1 hv => ?_⟩
      cases hv
      refine ⟨j, rfl, rgOk_ok ok, fun l hl => ?_⟩
      obtain ⟨b1, b2, b3, b4, b5⟩ := df_new R1 (ws := rgV 0 j) hl
      exact q l _ _ Z1 sm b1 b2 b3 b4 b5 (dq_rg _ _)
    · cases e
  · cases e
theorem df_listRg2 {fa fb : EE} (hc : X.calm = true) (ml : X.mg "list" = none) (mr : X.mg "range" = none) (h1 : PE X a (tD X.K fa)) (h2 : PE X b (tD X.K fb)) (gl : Gl X "list" := by rfl) (gr : Gl X "range" := by rfl)
    (na : starEach [a, b] X.env = (false, eval a X.env) :: starEach [b] X.env := by rfl) (nb : starEach [b] X.env = (false, eval b X.env) :: starEach [] X.env := by rfl) (hp : (backTo pos2 (starEach [b] X.env)).any (·.1) = false := by rfl)
    (nc : starEach [Expr.Call (.Name "range" p2) [a, b] [] pos2] X.env = (false, eval (.Call (.Name "range" p2) [a, b] [] pos2) X.env) :: starEach [] X.env := by rfl) :
    PE X (.Call (.Name "list" p) [.Call (.Name "range" p2) [a, b] [] pos2] [] pos) (tF X.K (lRg2 fa fb)) := by
  refine (pe_listRg hc gl ml (prg_2 gr mr h1 h2 na nb hp) nc).imp fun σ H Q z => ?_
  obtain ⟨C, Z, S, ds, S', R, e, q⟩ := z
  unfold lRg2 at e
  split at e
  · next i S1 g1 =>
    split at e
    · next j S2 g2 =>
      split at e
      · next ok =>
        cases e
        refine ⟨C, Z, S, _, S1, R, g1, fun v H1 Z1 sm R1 hv => ⟨C, Z1, S1, _, _, R1, g2, fun u H2 Z2 sm2 R2 hu => ?_⟩⟩
        cases hv
        cases hu
        refine ⟨i, j, rfl, rfl, rgOk_ok ok, fun l hl => ?_⟩
        obtain ⟨b1, b2, b3, b4, b5⟩ := df_new R2 (ws := rgV i j) hl
        exact q l _ _ Z2 (sm.trans sm2) b1 b2 b3 b4 b5 (dq_rg _ _)
      · cases e
    · cases e
  · cases e
end
/-! ### min, max of two ints -/
def gMin : List PyData → Option PyData
  | [.int i, .int j] => some (.int (if j < i then j else i))
  | _ => none
def gMax : List PyData → Option PyData
  | [.int i, .int j] => some (.int (if j > i then j else i))
  | _ => none
theorem c_min {K : PySem.W.Frag} : CallD K (fun xs H Q => ∃ i j, xs = [.int i, .int j] ∧ Q (.int (if j < i then j else i)) H) gMin := by
  intro C Z σ H S vs ds z Q R hv g q
  unfold gMin at g
  split at g
  · cases g
    cases hv with
    | cons h1 t =>
      cases t with
      | cons h2 t2 =>
        cases t2
        cases h1
        cases h2
        exact ⟨_, _, rfl, q _ H Z (Same.refl _) R (.int _)⟩
  · cases g
theorem c_max {K : PySem.W.Frag} : CallD K (fun xs H Q => ∃ i j, xs = [.int i, .int j] ∧ Q (.int (if j > i then j else i)) H) gMax := by
  intro C Z σ H S vs ds z Q R hv g q
  unfold gMax at g
  split at g
  · cases g
    cases hv with
    | cons h1 t =>
      cases t with
      | cons h2 t2 =>
        cases t2
        cases h1
        cases h2
        exact ⟨_, _, rfl, q _ H Z (Same.refl _) R (.int _)⟩
  · cases g
end DL

/-! DLK: sorted(xs) of a list of data. -/
namespace DL
open PySem PySem.Spec PyProof.Rows L2
def srtD (ds : List PyData) : List PyData := ds.mergeSort (PySem.W.dataLe false id)
/-- a value of the heap that is this datum -/
def IsDat (K : PySem.W.Frag) (Z : Hp) (v : Value) (d : PyData) : Prop := ∃ x : V, RelV x v ∧ Dq K Z x d
theorem each_dat {K : PySem.W.Frag} {Z : Hp} : ∀ {ws : List V} {its : List Value} {ds : List PyData}, Vals ws its → DqAll K Z ws ds → PySem.W.EachIs (IsDat K Z) its ds
  | _, _, _, .nil, .nil => .nil
  | _, _, _, .cons r rs, .cons d dd => .cons ⟨_, r, d⟩ (each_dat rs dd)
theorem dat_each {K : PySem.W.Frag} {Z : Hp} : ∀ {its : List Value} {ds : List PyData}, PySem.W.EachIs (IsDat K Z) its ds → ∃ ws : List V, Vals ws its ∧ DqAll K Z ws ds
  | _, _, .nil => ⟨[], .nil, .nil⟩
  | _, _, .cons ⟨x, r, d⟩ t => by
    obtain ⟨ws, a, b⟩ := dat_each t
    exact ⟨x :: ws, .cons r a, .cons d b⟩
def rSrt (K : PySem.W.Frag) : List V → Hp → VK → Prop := fun vs H Q => ∃ (a : Addr) (Z : Hp) (ws : List V) (ds : List PyData), vs = [V.ref a] ∧ SqL K H a ws ∧ DqAll K Z ws ds ∧ Same Z H ∧ PySem.W.AllAlike ds ∧ PySem.W.Sortable ds ∧ ds.length ≤ 1000000 ∧ (∀ d ∈ ds, d.depth ≤ 40) ∧
  ∀ (us : List V) (p : Addr), DqAll K Z us (srtD ds) → H p = none → Q (.ref p) (upd H p (.lst us))
theorem cr_srt {X : Cx} (hu : X.A.units + 64 < cLine) : CallR X (.builtin "sorted") (rSrt X.K) := by
  intro pins s σ H vs us Q I r h
  obtain ⟨a, Z, ws, ds, rfl, hs, hd, sm, al, so, hl, dp, q⟩ := h
  obtain ⟨its, rv, hL, _⟩ := I.list hs
  rw [Vals.ref1 r]
  have e := each_dat rv hd
  have er : PySem.W.EachIs (fun v b => ∃ as, Reads s.heap v (id b) as) its ds := e.mono fun v d ⟨x, r, hx⟩ => Dp.reads I d x v (dq_mono sm hx).dp r
  refine PySem.W.sorted_data (enc := id) hL.isList e er (by rw [List.map_id]; exact al) (by rw [List.map_id]; exact so) (Nat.le_trans hl million) (fun b hb => ?_) fun out ho eo => ?_
  · have := dp b hb
    show X.A.units + 2 + b.depth < cLine
    omega
  obtain ⟨us', rv', hd'⟩ := dat_each eo
  obtain ⟨ep, he'⟩ := PyProof.Rows.sortedAll_at s.heap its (List.toArray out)
  have hlen : us'.length ≤ sizeLine := by rw [rv'.length, ho]; exact Nat.le_trans hl million
  exact ⟨.ref _, upd H (s.heap.objs.size + 1) (.lst us'), I.laid (t' := s.toks) (fun _ _ => PyProof.Rows.sortedAll_old) (Nat.le_succ _) ⟨hlen, out, ep, rv', he'⟩, rfl, q us' _ hd' (I.hok.fresh (Nat.le_succ _))⟩
def intD : PyData → Bool
  | .int _ => true
  | _ => false
def intTupD : PyData → Bool
  | .tuple (x :: r) => intD x && r.all intD
  | _ => false
theorem alike_ints : ∀ xs ys : List PyData, xs.all intD = true → ys.all intD = true → PySem.W.alikeAll xs ys = true
  | [], _, _, _ => by rw [PySem.W.alikeAll]
  | _ :: _, [], _, _ => by rw [PySem.W.alikeAll]
  | x :: xs, y :: ys, h1, h2 => by
    rw [List.all_cons, Bool.and_eq_true] at h1 h2
    rw [PySem.W.alikeAll, alike_ints xs ys h1.2 h2.2]
    have a : PySem.W.alike x y = true := by
      cases x <;> cases y <;> first | (rw [PySem.W.alike]; done) | exact absurd h1.1 Bool.false_ne_true | exact absurd h2.1 Bool.false_ne_true
    rw [a]
    rfl
theorem intTup_shape {d : PyData} (h : intTupD d = true) : ∃ x r, d = .tuple (x :: r) ∧ (x :: r).all intD = true := by
  unfold intTupD at h
  split at h
  · next x r => exact ⟨x, r, rfl, h⟩
  · cases h
theorem depth_intD : ∀ xs : List PyData, xs.all intD = true → PyData.depthAll xs = 0
  | [], _ => by rw [PyData.depthAll]
  | x :: xs, h => by
    rw [List.all_cons, Bool.and_eq_true] at h
    rw [PyData.depthAll, depth_intD xs h.2]
    cases x <;> first | (rw [PyData.depth]; rfl) | exact absurd h.1 Bool.false_ne_true
def tripD : PyData → Bool
  | .tuple [.tuple a, .tuple b, .int _] => a.all intD && b.all intD
  | _ => false
def neTup : PyData → Bool
  | .tuple (_ :: _) => true
  | _ => false
def noNT : PyData → Bool
  | .none => false
  | .tuple _ => false
  | _ => true
def srtOk (ds : List PyData) : Bool := (ds.all fun d => ds.all fun e => PySem.W.alike d e) && (ds.all neTup || ds.all noNT) && ds.all fun d => decide (d.depth ≤ 40)
structure SrtP (ds : List PyData) : Prop where
  al : PySem.W.AllAlike ds
  so : PySem.W.Sortable ds
  dp : ∀ d ∈ ds, d.depth ≤ 40
theorem srtP_int {xs : List PyData} (h : xs.all intTupD = true) : SrtP xs := by
  have sh : ∀ d ∈ xs, ∃ x r, d = .tuple (x :: r) ∧ (x :: r).all intD = true := fun d m => intTup_shape (List.all_eq_true.mp h d m)
  refine ⟨fun d m e m2 => ?_, .inl fun d m => ?_, fun d m => ?_⟩
  · obtain ⟨x, r, rfl, e1⟩ := sh d m
    obtain ⟨y, r2, rfl, e2⟩ := sh e m2
    rw [PySem.W.alike]
    exact alike_ints _ _ e1 e2
  · obtain ⟨x, r, rfl, _⟩ := sh d m
    exact ⟨x, r, rfl⟩
  · obtain ⟨x, r, rfl, e1⟩ := sh d m
    rw [PyData.depth, depth_intD _ e1]
    decide
theorem trip_shape {d : PyData} (h : tripD d = true) : ∃ a b i, d = .tuple [.tuple a, .tuple b, .int i] ∧ a.all intD = true ∧ b.all intD = true := by
  unfold tripD at h
  split at h
  · next a b i =>
    rw [Bool.and_eq_true] at h
    exact ⟨a, b, i, rfl, h.1, h.2⟩
  · cases h
theorem srtP_trip {xs : List PyData} (h : xs.all tripD = true) : SrtP xs := by
  have sh := fun d (m : d ∈ xs) => trip_shape (List.all_eq_true.mp h d m)
  refine ⟨fun d m e m2 => ?_, .inl fun d m => ?_, fun d m => ?_⟩
  · obtain ⟨a, b, i, rfl, e1, e2⟩ := sh d m
    obtain ⟨a', b', i', rfl, e3, e4⟩ := sh e m2
    rw [PySem.W.alike, PySem.W.alikeAll, PySem.W.alikeAll, PySem.W.alikeAll, PySem.W.alikeAll, PySem.W.alike, PySem.W.alike, PySem.W.alike, alike_ints _ _ e1 e3, alike_ints _ _ e2 e4]
    rfl
  · obtain ⟨a, b, i, rfl, _⟩ := sh d m
    exact ⟨_, _, rfl⟩
  · obtain ⟨a, b, i, rfl, e1, e2⟩ := sh d m
    rw [PyData.depth, PyData.depthAll, PyData.depthAll, PyData.depthAll, PyData.depthAll, PyData.depth, PyData.depth, PyData.depth, depth_intD _ e1, depth_intD _ e2]
    decide
theorem srtP_ok {xs : List PyData} (h : srtOk xs = true) : SrtP xs := by
  unfold srtOk at h
  rw [Bool.and_eq_true, Bool.and_eq_true] at h
  refine ⟨fun d m e m2 => List.all_eq_true.mp (List.all_eq_true.mp h.1.1 d m) e m2, ?_, fun d m => of_decide_eq_true (List.all_eq_true.mp h.2 d m)⟩
  rcases Bool.or_eq_true _ _ ▸ h.1.2 with q | q
  · refine .inl fun d m => ?_
    have := List.all_eq_true.mp q d m
    unfold neTup at this
    split at this
    · exact ⟨_, _, rfl⟩
    · cases this
  · refine .inr fun d m => ?_
    have := List.all_eq_true.mp q d m
    unfold noNT at this
    split at this
    · cases this
    · cases this
    · next h1 h2 => exact ⟨h1, fun xs e => h2 xs e⟩
def gSrt : List PyData → Option (List PyData)
  | [.list ds] => if (ds.all intTupD || ds.all tripD || srtOk ds) = true ∧ ds.length ≤ 1000000 then some (srtD ds) else none
  | _ => none
theorem c_srt {K : PySem.W.Frag} : CallF K (rSrt K) gSrt := by
  intro C Z σ H S vs ds z Q R hv g q
  unfold gSrt at g
  split at g
  · next xs =>
    split at g
    · next hd =>
      cases g
      cases hv with
      | cons h t =>
        cases t
        cases h with
        | lst h1 a1 =>
          have sp : SrtP xs := by
            have := hd.1
            rw [Bool.or_eq_true, Bool.or_eq_true] at this
            rcases this with (h | h) | h
            · exact srtP_int h
            · exact srtP_trip h
            · exact srtP_ok h
          refine ⟨_, Z, _, xs, rfl, .inl (rd_mono R.sub h1), a1, R.sub, sp.al, sp.so, hd.2, sp.dp, fun us p h2 hp => ?_⟩
          obtain ⟨b1, b2, b3, b4, b5⟩ := df_new R (ws := us) hp
          exact q p us _ Z (Same.refl _) b1 b2 b3 b4 b5 h2
    · cases g
  · cases g
theorem srt_eq {xs ys : List PyData} (hp : xs.Perm ys) (ho : ys.Pairwise fun a b => PySem.W.dataLe false id a b = true) (ha : ∀ a b, a ∈ ys → b ∈ ys → PySem.W.dataLe false id a b = true → PySem.W.dataLe false id b a = true → a = b) : srtD xs = ys := by
  have T := PySem.W.sortLe_total (PyProof.Rows.listOrd PyProof.Rows.itemOrd) false fun b : PyData => PySem.W.keyToks (id b)
  have q := List.mergeSort_perm xs (PySem.W.dataLe false id)
  refine List.Perm.eq_of_pairwise (fun a b h1 h2 => ha a b ((q.trans hp).mem_iff.mp h1) h2) (List.pairwise_mergeSort (fun a b c => T.trans a b c) (fun a b => by have := T.total a b; simpa using this) xs) ho (q.trans hp)
/-! ### worked out at a state -/
section
variable {S : Sls} {f fa fb : EE} {i j : Int} {xs : List PyData}
def qRg1 (d : PyData) (S : Sls) : Option (List PyData × Sls) := match d with
  | .int j => if rgOk 0 j = true then some (rangeD 0 j, S) else none
  | _ => none
theorem vk_rg1 : lRg1 f S = k1 qRg1 (f S) := by
  unfold lRg1 k1
  cases f S with
  | none => rfl
  | some p =>
    obtain ⟨d, S'⟩ := p
    cases d <;> rfl
theorem vk_rg11 : qRg1 (.int j) S = if rgOk 0 j = true then some (rangeD 0 j, S) else none := (rfl)
def qRg3 (i : Int) (d : PyData) (S : Sls) : Option (List PyData × Sls) := match d with
  | .int j => if rgOk i j = true then some (rangeD i j, S) else none
  | _ => none
def qRg2 (fb : EE) (d : PyData) (S : Sls) : Option (List PyData × Sls) := match d with
  | .int i => k1 (qRg3 i) (fb S)
  | _ => none
theorem vk_rg2 : lRg2 fa fb S = k1 (qRg2 fb) (fa S) := by
  unfold lRg2 k1
  cases fa S with
  | none => rfl
  | some p =>
    obtain ⟨d, S'⟩ := p
    cases d with
    | int i =>
      show _ = k1 (qRg3 i) (fb S')
      unfold k1
      dsimp only
      cases fb S' with
      | none => rfl
      | some q =>
        obtain ⟨e, S2⟩ := q
        cases e <;> rfl
    | _ => rfl
theorem vk_rg21 : qRg2 fb (.int i) S = k1 (qRg3 i) (fb S) := (rfl)
theorem vk_rg3 : qRg3 i (.int j) S = if rgOk i j = true then some (rangeD i j, S) else none := (rfl)
theorem vk_rgok (h1 : -1000000 ≤ i) (h2 : i ≤ 500000) (h3 : -1000000 ≤ j) (h4 : j ≤ 500000) (h5 : j - i ≤ 1000000) : rgOk i j = true := by
  unfold rgOk
  rw [rOk_small h1 (by omega), rOk_small h3 (by omega), decide_eq_true (by omega)]
  rfl
theorem vk_min : gMin [.int i, .int j] = some (.int (if j < i then j else i)) := (rfl)
theorem vk_max : gMax [.int i, .int j] = some (.int (if j > i then j else i)) := (rfl)
theorem vk_srt (h : (xs.all intTupD || xs.all tripD || srtOk xs) = true) (h2 : xs.length ≤ 1000000) : gSrt [.list xs] = some (srtD xs) := if_pos ⟨h, h2⟩
end
theorem rangeD_lot (i k : Nat) : rangeD (i : Int) ((i : Int) + (k : Int)) = (List.range k).map fun t => PyData.int ((i + t : Nat) : Int) := by
  unfold rangeD
  rw [show ((i : Int) + (k : Int) - (i : Int)).toNat = k by omega]
  apply List.map_congr_left
  intro t _
  rfl
end DL

/-! DLM: lots of k out of n places, in order; sorting lists of lots. -/
namespace DL
open PySem PySem.Spec PyProof.Rows L2
def subsL : List Nat → Nat → List (List Nat)
  | _, 0 => [[]]
  | [], _ + 1 => []
  | x :: l, k + 1 => ((subsL l k).map fun t => x :: t) ++ subsL l (k + 1)
def lotsF (n k : Nat) : List (List Nat) := subsL (List.range n) k
abbrev lotE (l : List Nat) : PyData := .tuple (l.map fun (i : Nat) => PyData.int (i : Nat))
def rawL (n k : Nat) : List (List Nat) := ((List.range n).foldl (fun found x => found ++ (found.filter fun l => decide (l.length < k)).map fun l => l ++ [x]) [[]]).filter fun l => decide (l.length = k)
theorem subs_mem : ∀ (xs : List Nat) (k : Nat) (l : List Nat), l ∈ subsL xs k → l.length = k ∧ ∀ x ∈ l, x ∈ xs
  | [], 0, l, h => by
    rw [subsL, List.mem_singleton] at h
    subst h
    exact ⟨rfl, fun x h => by cases h⟩
  | _ :: _, 0, l, h => by
    rw [subsL, List.mem_singleton] at h
    subst h
    exact ⟨rfl, fun x h => by cases h⟩
  | [], k + 1, l, h => by
    rw [subsL] at h
    cases h
  | x :: xs, k + 1, l, h => by
    rw [subsL, List.mem_append, List.mem_map] at h
    rcases h with ⟨t, ht, rfl⟩ | h
    · obtain ⟨h1, h2⟩ := subs_mem xs k t ht
      refine ⟨by rw [List.length_cons, h1], fun y hy => ?_⟩
      rcases List.mem_cons.mp hy with e | e
      · rw [e]; exact List.mem_cons_self
      · exact List.mem_cons_of_mem _ (h2 y e)
    · obtain ⟨h1, h2⟩ := subs_mem xs (k + 1) l h
      exact ⟨h1, fun y hy => List.mem_cons_of_mem _ (h2 y hy)⟩
theorem lots_mem {n k : Nat} {l : List Nat} (h : l ∈ lotsF n k) : l.length = k ∧ ∀ x ∈ l, x < n := by
  obtain ⟨h1, h2⟩ := subs_mem _ _ _ h
  exact ⟨h1, fun x hx => List.mem_range.mp (h2 x hx)⟩
theorem lotE_range {l : List Nat} {k : Nat} (h : l.length = k) : (l.map fun (i : Nat) => PyData.int (i : Nat)) = (List.range k).map fun t => PyData.int ((l.getD t 0 : Nat) : Int) := by
  subst h
  apply List.ext_getElem
  · simp
  · intro i h1 h2
    rw [List.length_map] at h1
    rw [List.getElem_map, List.getElem_map, List.getElem_range, List.getD_eq_getElem?_getD, List.getElem?_eq_getElem h1]
    rfl
theorem lot_lt {n k : Nat} {l : List Nat} (h : l.length = k) (h2 : ∀ x ∈ l, x < n) {t : Nat} (ht : t < k) : l.getD t 0 < n := by
  subst h
  rw [List.getD_eq_getElem?_getD, List.getElem?_eq_getElem ht]
  exact h2 _ (List.getElem_mem _)
def ltAll : List PyData → Bool
  | [] => true
  | a :: l => (l.all fun b => PySem.W.dataLe false id a b && !PySem.W.dataLe false id b a) && ltAll l
theorem lt_pair : ∀ {ys : List PyData}, ltAll ys = true → ys.Pairwise (fun a b => PySem.W.dataLe false id a b = true) ∧ ∀ a b, a ∈ ys → b ∈ ys → PySem.W.dataLe false id a b = true → PySem.W.dataLe false id b a = true → a = b
  | [], _ => ⟨.nil, fun a b h => by cases h⟩
  | c :: l, h => by
    rw [ltAll, Bool.and_eq_true, List.all_eq_true] at h
    obtain ⟨h1, h2⟩ := lt_pair h.2
    have g : ∀ b ∈ l, PySem.W.dataLe false id c b = true ∧ PySem.W.dataLe false id b c = false := fun b hb => by
      have := h.1 b hb
      rw [Bool.and_eq_true, Bool.not_eq_true'] at this
      exact this
    refine ⟨List.pairwise_cons.mpr ⟨fun b hb => (g b hb).1, h1⟩, fun a b ha hb e1 e2 => ?_⟩
    rcases List.mem_cons.mp ha with ea | ea
    · rcases List.mem_cons.mp hb with eb | eb
      · rw [ea, eb]
      · subst ea
        rw [(g b eb).2] at e2
        cases e2
    · rcases List.mem_cons.mp hb with eb | eb
      · subst eb
        rw [(g a ea).2] at e1
        cases e1
      · exact h2 a b ea eb e1 e2
theorem srt_of {xs ys : List PyData} (hp : xs.Perm ys) (h : ltAll ys = true) : srtD xs = ys := srt_eq hp (lt_pair h).1 (lt_pair h).2
theorem raw_perm : ∀ n, n ≤ 5 → ∀ k, k ≤ 5 → (rawL n k).Perm (lotsF n k) := by decide +kernel
theorem lots_lt : ∀ n, n ≤ 5 → ∀ k, k ≤ 5 → ltAll ((lotsF n k).map lotE) = true := by decide +kernel
theorem srt_lots {n k : Nat} (hn : n ≤ 5) (hk : k ≤ 5) : srtD ((rawL n k).map lotE) = (lotsF n k).map lotE := srt_of ((raw_perm n hn k hk).map _) (lots_lt n hn k hk)
/-! ### orders with signs -/
abbrev ordE (p : List Nat × Int) : PyData := .tuple [lotE p.1, .int p.2]
def ordStep (n : Nat) (found : List (List Nat × Int)) : List (List Nat × Int) := found.flatMap fun p => ((List.range n).filter fun at_ => !p.1.contains at_).map fun at_ => (p.1 ++ [at_], if (p.1.filter fun x => decide (x > at_)).length % 2 = 0 then p.2 else 0 - p.2)
def ordIt (n : Nat) : Nat → List (List Nat × Int)
  | 0 => [([], 1)]
  | m + 1 => ordStep n (ordIt n m)
def ordL (n : Nat) : List (List Nat × Int) := ordIt n n
def prodO (n : Nat) (f : Nat → Nat → Int) (p : List Nat × Int) : Int := (List.range n).foldl (fun a i => a * f i (p.1.getD i 0)) p.2
def detO (n : Nat) (f : Nat → Nat → Int) : Int := ((ordL n).map (prodO n f)).sum
/-! ### is a place among those taken -/
theorem flat_ints : ∀ l : List Nat, (l.map fun (i : Nat) => PyData.int (i : Nat)).all flatD = true
  | [] => rfl
  | x :: l => by rw [List.map_cons, List.all_cons, flat_ints l]; rfl
theorem inD_ints (j : Nat) : ∀ l : List Nat, inD (.int (j : Nat)) (l.map fun (i : Nat) => PyData.int (i : Nat)) = l.contains j
  | [] => rfl
  | x :: l => by
    have h := inD_ints j l
    unfold inD at h ⊢
    rw [List.map_cons, List.any_cons, h, eqv_int, List.contains_cons]
    congr 1
    by_cases c : x = j
    · subst c
      simp
    · rw [decide_eq_false (by omega)]
      have c' : ¬ j = x := fun e => c e.symm
      simp [c']
theorem gIn_lot (neg : Bool) (j : Nat) (l : List Nat) : gIn neg (.int (j : Nat)) (lotE l) = some (.bool (if neg = true then !l.contains j else l.contains j)) := by
  rw [← inD_ints]
  exact if_pos ⟨rfl, flat_ints l⟩
theorem lotE_snoc (l : List Nat) (j : Nat) : (l.map fun (i : Nat) => PyData.int (i : Nat)) ++ [PyData.int (j : Nat)] = (l ++ [j]).map fun (i : Nat) => PyData.int (i : Nat) := by rw [List.map_append]; rfl
end DL

/-! DLN: max, min of a list of ints. -/
namespace DL
open PySem PySem.Spec PyProof.Rows L2
def maxI (x : Int) (l : List Int) : Int := l.foldl (fun a b => if b > a then b else a) x
def minI (x : Int) (l : List Int) : Int := l.foldl (fun a b => if b < a then b else a) x
theorem maxI_spec : ∀ (l : List Int) (x : Int), (maxI x l = x ∨ maxI x l ∈ l) ∧ x ≤ maxI x l ∧ ∀ y ∈ l, y ≤ maxI x l
  | [], x => ⟨.inl rfl, Int.le_refl _, fun y h => absurd h List.not_mem_nil⟩
  | b :: l, x => by
    obtain ⟨h1, h2, h3⟩ := maxI_spec l (if b > x then b else x)
    have e : maxI x (b :: l) = maxI (if b > x then b else x) l := rfl
    rw [e]
    by_cases c : b > x
    · rw [if_pos c] at h1 h2 h3 ⊢
      refine ⟨.inr ?_, by omega, fun y hy => ?_⟩
      · rcases h1 with h | h
        · rw [h]; exact List.mem_cons_self
        · exact List.mem_cons_of_mem _ h
      · rcases List.mem_cons.mp hy with h | h
        · omega
        · exact h3 y h
    · rw [if_neg c] at h1 h2 h3 ⊢
      refine ⟨?_, h2, fun y hy => ?_⟩
      · rcases h1 with h | h
        · exact .inl h
        · exact .inr (List.mem_cons_of_mem _ h)
      · rcases List.mem_cons.mp hy with h | h
        · omega
        · exact h3 y h
theorem minI_spec : ∀ (l : List Int) (x : Int), (minI x l = x ∨ minI x l ∈ l) ∧ minI x l ≤ x ∧ ∀ y ∈ l, minI x l ≤ y
  | [], x => ⟨.inl rfl, Int.le_refl _, fun y h => absurd h List.not_mem_nil⟩
  | b :: l, x => by
    obtain ⟨h1, h2, h3⟩ := minI_spec l (if b < x then b else x)
    have e : minI x (b :: l) = minI (if b < x then b else x) l := rfl
    rw [e]
    by_cases c : b < x
    · rw [if_pos c] at h1 h2 h3 ⊢
      refine ⟨.inr ?_, by omega, fun y hy => ?_⟩
      · rcases h1 with h | h
        · rw [h]; exact List.mem_cons_self
        · exact List.mem_cons_of_mem _ h
      · rcases List.mem_cons.mp hy with h | h
        · omega
        · exact h3 y h
    · rw [if_neg c] at h1 h2 h3 ⊢
      refine ⟨?_, h2, fun y hy => ?_⟩
      · rcases h1 with h | h
        · exact .inl h
        · exact .inr (List.mem_cons_of_mem _ h)
      · rcases List.mem_cons.mp hy with h | h
        · omega
        · exact h3 y h
def maxL : List Int → Int
  | [] => 0
  | x :: l => maxI x l
def minL : List Int → Int
  | [] => 0
  | x :: l => minI x l
theorem maxL_spec {l : List Int} (h : l ≠ []) : maxL l ∈ l ∧ ∀ y ∈ l, y ≤ maxL l := by
  cases l with
  | nil => exact absurd rfl h
  | cons x l =>
    obtain ⟨h1, h2, h3⟩ := maxI_spec l x
    refine ⟨?_, fun y hy => ?_⟩
    · show maxI x l ∈ x :: l
      rcases h1 with h | h
      · rw [h]; exact List.mem_cons_self
      · exact List.mem_cons_of_mem _ h
    · rcases List.mem_cons.mp hy with h | h
      · rw [h]; exact h2
      · exact h3 y h
theorem minL_spec {l : List Int} (h : l ≠ []) : minL l ∈ l ∧ ∀ y ∈ l, minL l ≤ y := by
  cases l with
  | nil => exact absurd rfl h
  | cons x l =>
    obtain ⟨h1, h2, h3⟩ := minI_spec l x
    refine ⟨?_, fun y hy => ?_⟩
    · show minI x l ∈ x :: l
      rcases h1 with h | h
      · rw [h]; exact List.mem_cons_self
      · exact List.mem_cons_of_mem _ h
    · rcases List.mem_cons.mp hy with h | h
      · rw [h]; exact h2
      · exact h3 y h
theorem maxL_eq {l : List Int} {m : Int} (h1 : m ∈ l) (h2 : ∀ y ∈ l, y ≤ m) : m = maxL l := by
  obtain ⟨h3, h4⟩ := maxL_spec (l := l) (fun e => by rw [e] at h1; cases h1)
  have := h2 _ h3
  have := h4 _ h1
  omega
theorem minL_eq {l : List Int} {m : Int} (h1 : m ∈ l) (h2 : ∀ y ∈ l, m ≤ y) : m = minL l := by
  obtain ⟨h3, h4⟩ := minL_spec (l := l) (fun e => by rw [e] at h1; cases h1)
  have := h2 _ h3
  have := h4 _ h1
  omega
def min3 (i j k : Int) : Int := if k < (if j < i then j else i) then k else (if j < i then j else i)
def gMin3 : List PyData → Option PyData
  | [.int i, .int j, .int k] => some (.int (min3 i j k))
  | _ => none
theorem c_min3 {K : PySem.W.Frag} : CallD K (rNuC3 nuMin3) gMin3 := by
  intro C Z σ H S vs ds z Q R hv g q
  unfold gMin3 at g
  split at g
  · next i j k =>
    cases g
    cases hv with
    | cons h1 t =>
      cases t with
      | cons h2 t2 =>
        cases t2 with
        | cons h3 t3 =>
          cases t3
          cases h1
          cases h2
          cases h3
          refine ⟨_, _, _, .int (min3 i j k), rfl, ?_, q _ H Z (Same.refl _) R (.int _)⟩
          show (Option.bind (Option.map (fun c => if c = true then V.int j else V.int i) (some (decide (j < i)))) fun m => nuMin2 m (V.int k)) = _
          unfold min3
          by_cases a : j < i
          · rw [if_pos a, decide_eq_true a]
            show Option.map (fun c => if c = true then V.int k else V.int j) (some (decide (k < j))) = _
            by_cases b : k < j
            · rw [if_pos b, decide_eq_true b]; rfl
            · rw [if_neg b, decide_eq_false b]; rfl
          · rw [if_neg a, decide_eq_false a]
            show Option.map (fun c => if c = true then V.int k else V.int i) (some (decide (k < i))) = _
            by_cases b : k < i
            · rw [if_pos b, decide_eq_true b]; rfl
            · rw [if_neg b, decide_eq_false b]; rfl
  · cases g
def gMaxL : List PyData → Option PyData
  | [.list xs] => match intsD xs with
    | some ns => if 0 < ns.length then some (.int (maxL ns)) else none
    | none => none
  | _ => none
def gMinL : List PyData → Option PyData
  | [.list xs] => match intsD xs with
    | some ns => if 0 < ns.length then some (.int (minL ns)) else none
    | none => none
  | _ => none
theorem c_maxL {K : PySem.W.Frag} : CallD K (rMax K) gMaxL := by
  intro C Z σ H S vs ds z Q R hv g q
  unfold gMaxL at g
  split at g
  · split at g
    · next ns hns =>
      split at g
      · next hp =>
        cases g
        cases hv with
        | cons h t =>
          cases t
          cases h with
          | lst h1 a1 =>
            have ev := intsD_dq a1 hns
            subst ev
            refine ⟨_, ns, rfl, .inl (rd_mono R.sub h1), hp, fun m h1 h2 => ?_⟩
            rw [maxL_eq h1 h2]
            exact q _ H Z (Same.refl _) R (.int _)
      · cases g
    · cases g
  · cases g
theorem c_minL {K : PySem.W.Frag} : CallD K (rMin K) gMinL := by
  intro C Z σ H S vs ds z Q R hv g q
  unfold gMinL at g
  split at g
  · split at g
    · next ns hns =>
      split at g
      · next hp =>
        cases g
        cases hv with
        | cons h t =>
          cases t
          cases h with
          | lst h1 a1 =>
            have ev := intsD_dq a1 hns
            subst ev
            refine ⟨_, ns, rfl, .inl (rd_mono R.sub h1), hp, fun m h1 h2 => ?_⟩
            rw [minL_eq h1 h2]
            exact q _ H Z (Same.refl _) R (.int _)
      · cases g
    · cases g
  · cases g
theorem gMaxL_map {α : Type} (f : α → Int) (l : List α) (h : 0 < l.length) : gMaxL [.list (l.map fun x => PyData.int (f x))] = some (.int (maxL (l.map f))) := by
  have e := intsD_map (l.map f)
  rw [List.map_map] at e
  unfold gMaxL
  rw [show (l.map fun x => PyData.int (f x)) = l.map (PyData.int ∘ f) from rfl]
  simp only [e]
  rw [if_pos (by rw [List.length_map]; exact h)]
theorem gMinL_map {α : Type} (f : α → Int) (l : List α) (h : 0 < l.length) : gMinL [.list (l.map fun x => PyData.int (f x))] = some (.int (minL (l.map f))) := by
  have e := intsD_map (l.map f)
  rw [List.map_map] at e
  unfold gMinL
  rw [show (l.map fun x => PyData.int (f x)) = l.map (PyData.int ∘ f) from rfl]
  simp only [e]
  rw [if_pos (by rw [List.length_map]; exact h)]
theorem flat_one {α : Type} (x : α) : ∀ n : Nat, (List.replicate n [x]).flatten = List.replicate n x
  | 0 => rfl
  | n + 1 => by rw [List.replicate_succ, List.flatten_cons, flat_one x n]; rfl
theorem vk_mul1 {x : PyData} {k : Int} (h : 1 ≤ k) (h2 : k ≤ 1000) : gMul (.tuple [x]) (.int k) = some (.tuple (List.replicate k.toNat x)) := by
  show (if k = 1 then some (PyData.tuple [x]) else if 2 ≤ k ∧ k ≤ 1000 ∧ [x].length ≤ 1000 ∧ [x] ≠ [] then some (.tuple (List.replicate k.toNat [x]).flatten) else none) = _
  by_cases c : k = 1
  · subst c
    rfl
  · rw [if_neg c, if_pos ⟨by omega, h2, by simp, by simp⟩, flat_one]
theorem set_range {α : Type} {n i : Nat} (g : Nat → α) (x : α) : ((List.range n).map g).set i x = (List.range n).map fun t => if t = i then x else g t := by
  apply List.ext_getElem
  · simp
  · intro k h1 h2
    rw [List.getElem_set]
    simp only [List.getElem_map, List.getElem_range]
    by_cases c : i = k
    · rw [if_pos c, if_pos c.symm]
    · rw [if_neg c, if_neg (fun e => c e.symm)]
theorem maxL_lt {l : List Int} {m : Int} (h : l ≠ []) : maxL l < m ↔ ∀ x ∈ l, x < m := by
  obtain ⟨h1, h2⟩ := maxL_spec h
  constructor
  · intro q x hx
    have := h2 x hx
    omega
  · intro q
    exact q _ h1
end DL

/-! DLO: l.index(x). -/
namespace DL
open PySem PySem.Spec PyProof.Rows L2
def idxD (d : PyData) : List PyData → Option Nat
  | [] => none
  | z :: zs => if PyData.eqv z d = true then some 0 else match idxD d zs with
    | some j => some (j + 1)
    | none => none
theorem idxD_spec {d : PyData} : ∀ {ds : List PyData} {j : Nat}, idxD d ds = some j → (∃ z, ds[j]? = some z ∧ PyData.eqv z d = true) ∧ ∀ (m : Nat) (z' : PyData), m < j → ds[m]? = some z' → PyData.eqv z' d = false
  | [], j, h => by cases h
  | z :: zs, j, h => by
    rw [idxD] at h
    by_cases c : PyData.eqv z d = true
    · rw [if_pos c] at h
      cases h
      exact ⟨⟨z, rfl, c⟩, fun m _ hm => absurd hm (Nat.not_lt_zero m)⟩
    · rw [if_neg c] at h
      split at h
      · next j' h' =>
        cases h
        obtain ⟨⟨y, h1, h2⟩, h3⟩ := idxD_spec h'
        refine ⟨⟨y, h1, h2⟩, fun m z' hm hz => ?_⟩
        cases m with
        | zero =>
          cases hz
          exact Bool.not_eq_true _ ▸ c
        | succ m => exact h3 m z' (by omega) hz
      · cases h
def gIdx : PyData → PyData → Option PyData
  | .list ds, d => if SeqAt.shaped (.list ds) = true ∧ SeqAt.shaped d = true then match idxD d ds with
    | some j => some (.int (j : Nat))
    | none => none
    else none
  | _, _ => none
theorem gIdx_of {ds : List PyData} {d : PyData} {j : Nat} (h1 : SeqAt.shaped (.list ds) = true) (h2 : SeqAt.shaped d = true) (h : idxD d ds = some j) : gIdx (.list ds) d = some (.int (j : Nat)) := by
  show (if SeqAt.shaped (.list ds) = true ∧ SeqAt.shaped d = true then _ else _) = _
  rw [if_pos ⟨h1, h2⟩, h]
theorem units65 {k : Nat} {A : Around} (r : Room k A) : A.units + 65 < cLine := by have := r.un; omega
section
variable {X : Cx} {o e : Expr} {apos cpos : Pos}
theorem d_index {fo fe : EE} (hu : X.A.units + 65 < cLine) (ho : PE X o (tD X.K fo)) (he : PE X e (tD X.K fe)) (hse : starEach [e] X.env = (false, eval e X.env) :: starEach [] X.env := by rfl) (hbase : attributeBase o "index" X.env (eval o X.env) = eval o X.env := by rfl)
    (hfew : ((backTo cpos (starEach [e] X.env)).all (fun x => !x.1) && (backToKw cpos (keywordEach [] X.env)).all (fun x => x.1.isSome) && decide ([e].length + ([] : List Keyword).length + (if ([] : List Keyword).isEmpty then 0 else 1) < 30)) = true := by rfl) (hline : (apos.endLine == cpos.line) = true := by rfl) :
    PE X (.Call (.Attribute o "index" apos) [e] [] cpos) (tD X.K (eBin gIdx fo fe)) := by
  refine (pe_bm PySem.F.plainAttrs_list PySem.F.slot_list_index PySem.F.type_list_index (mt_indexD hu) ho (pa_cons he pa_nil hse) hbase hfew hline hse).imp fun σ H Q z => ?_
  obtain ⟨C, Z, S, d, S', R, e1, q⟩ := z
  unfold eBin at e1
  split at e1
  · cases e1
  · next x S1 h1 =>
    split at e1
    · cases e1
    · next y S2 h2 =>
      split at e1
      · cases e1
      · next w h3 =>
        cases e1
        unfold gIdx at h3
        split at h3
        · next ds =>
          split at h3
          · next hs =>
            split at h3
            · next j hj =>
              cases h3
              refine ⟨C, Z, S, _, S1, R, h1, fun v H1 Z1 sm R1 hv => ?_⟩
              cases hv with
              | lst hl ha =>
                rename_i a ws
                refine ⟨.inl ⟨rfl, _, .inl (rd_mono R1.sub hl)⟩, C, Z1, S1, _, _, R1, h2, fun v2 H2 Z2 sm2 R2 hv2 => ?_⟩
                obtain ⟨⟨z, z1, z2⟩, z3⟩ := idxD_spec hj
                exact ⟨a, v2, _, ds, j, z, rfl, rfl, (dq_mono (sm2.trans R2.sub) (.lst hl ha)).dp, (dq_mono R2.sub hv2).dp, hs.1, hs.2, z1, z2, z3, q _ H2 Z2 (sm.trans sm2) R2 (.int _)⟩
            · cases h3
          · cases h3
        · cases h3
end
/-! ### tuples of ints at the top -/
def intsV : List Int → List Value → Bool
  | [], [] => true
  | n :: ns, .int m _ :: vs => decide (n = m) && intsV ns vs
  | _, _ => false
theorem intsV_ok : ∀ {ns : List Int} {vs : List Value}, intsV ns vs = true → Vals (ns.map V.int) vs
  | [], [], _ => .nil
  | n :: ns, .int m t :: vs, h => by
    rw [intsV, Bool.and_eq_true, decide_eq_true_eq] at h
    obtain ⟨rfl, h⟩ := h
    exact .cons ⟨t, rfl⟩ (intsV_ok h)
  | [], _ :: _, h => by cases h
  | _ :: _, [], h => by cases h
  | _ :: _, .none :: _, h => by cases h
  | _ :: _, .bool _ :: _, h => by cases h
  | _ :: _, .ref _ :: _, h => by cases h
def TupK (K : PySem.W.Frag) (a : Addr) (ns : List Int) : Prop := ∃ (o : Obj) (its : Array Value) (n : Nat), K.lookup a = some o ∧ o.cls = .type "tuple" ∧ o.data = .seq its n ∧ its.size ≤ sizeLine ∧ Vals (ns.map V.int) its.toList
theorem tupK_mk {K : PySem.W.Frag} {a : Addr} {od : Option Addr} {its : Array Value} {n : Nat} {sl : Array (Option Value)} {ns : List Int} (l : K.lookup a = some ⟨.type "tuple", od, .seq its n, sl⟩) (hs : its.size ≤ 1000) (h : intsV ns its.toList = true) : TupK K a ns :=
  ⟨_, its, n, l, rfl, rfl, Nat.le_trans hs (by decide), intsV_ok h⟩
theorem dq_ints {K : PySem.W.Frag} {Z : Hp} : ∀ ns : List Int, DqAll K Z (ns.map V.int) (ns.map PyData.int)
  | [] => .nil
  | n :: ns => .cons (.int n) (dq_ints ns)
theorem d_globT {X : Cx} {x : Str} {ns : List Int} {pos : Pos} (hg : Gl X x) (hm : ∃ a, X.mg x = some (.ref a) ∧ TupK X.K a ns) (hdb : (x == ("__debug__" : Str)) = false := by decide) : PE X (.Name x pos) (tD X.K (eC (.tuple (ns.map PyData.int)))) := by
  obtain ⟨a, h1, h2⟩ := hm
  exact d_glob hg h1 (v := .ref a) rfl (fun Z => .tup (.inr h2) (dq_ints ns)) hdb
/-- a def that another name calls -/
theorem def_dA {P : Program} {w : World} {K : PySem.W.Frag} {mg : Str → Option Value} {base : Heap} {x y qual : Str} {st : Stmt} {f : Addr} {fd : FuncData} {N ps : List Str} {k : Nat} {g : SF} (F : Fun K x qual st f fd) (hm : mg y = some (.ref f)) (hb : Binds K fd ps []) (S : FnScope N ps (defScope st)) (hnp : ps.length ≤ N.length)
    (hbody : ∀ (cdv : Value) (A : Around) (outer : List Env) (s : Shared) (H : Hp) (E : XK), Room k (A.deeper (envOfC qual (defScope st) s.heap.objs.size f cdv)) → PSs (cxOf CX0 P w K mg base N qual (defScope st) f cdv A outer s H E).nox (defBody st) (tDS K g)) :
    DefD P w K mg base (k + 1) y ps.length (runF N.length ps.length g) :=
  ⟨⟨f, fd, ps, fn_d F S hnp hbody, hm, F.kp, hb⟩, runF_len⟩
end DL

/-! DLR: echelons over a field, in plain terms: what they span, that there is just one, ranks. -/
namespace DL
section
variable {K : Type} [Lean.Grind.Field K]
inductive Sp (A : List (Nat → K)) : (Nat → K) → Prop
  | zero : Sp A (fun _ => 0)
  | step {v a : Nat → K} (c : K) : Sp A v → a ∈ A → Sp A (fun j => v j + c * a j)
theorem Sp.cast {A : List (Nat → K)} {v u : Nat → K} (h : Sp A v) (e : ∀ j, u j = v j) : Sp A u := by
  have : u = v := funext e
  rw [this]
  exact h
theorem Sp.mem {A : List (Nat → K)} {a : Nat → K} (h : a ∈ A) : Sp A a := (Sp.step 1 .zero h).cast fun j => by grind
theorem Sp.add {A : List (Nat → K)} {v u : Nat → K} (h : Sp A v) (h2 : Sp A u) : Sp A (fun j => v j + u j) := by
  induction h2 with
  | zero => exact h.cast fun j => by grind
  | step c _ hm ih => exact (ih.step c hm).cast fun j => by grind
theorem Sp.smul {A : List (Nat → K)} {v : Nat → K} (c : K) (h : Sp A v) : Sp A (fun j => c * v j) := by
  induction h with
  | zero => exact Sp.zero.cast fun j => by grind
  | step d _ hm ih => exact (ih.step (c * d) hm).cast fun j => by grind
theorem Sp.trans {A B : List (Nat → K)} {v : Nat → K} (hB : ∀ b ∈ B, Sp A b) (h : Sp B v) : Sp A v := by
  induction h with
  | zero => exact .zero
  | step c _ hm ih => exact ih.add ((hB _ hm).smul c)
def recon : List (Nat × (Nat → K)) → (Nat → K) → Nat → K
  | [], _, _ => 0
  | e :: E, v, j => v e.1 * e.2 j + recon E v j
def Rep (E : List (Nat × (Nat → K))) (v : Nat → K) : Prop := ∀ j, v j = recon E v j
def Rref : List (Nat × (Nat → K)) → Prop
  | [] => True
  | e :: E => e.2 e.1 = 1 ∧ (∀ j, j < e.1 → e.2 j = 0) ∧ (∀ d ∈ E, e.1 < d.1 ∧ e.2 d.1 = 0) ∧ Rref E
theorem recon_zero : ∀ (E : List (Nat × (Nat → K))) (v : Nat → K) (j : Nat), (∀ e ∈ E, v e.1 = 0) → recon E v j = 0
  | [], _, _, _ => rfl
  | e :: E, v, j, h => by
    rw [recon, h e List.mem_cons_self, recon_zero E v j fun d hd => h d (List.mem_cons_of_mem _ hd)]
    grind
theorem recon_lin (c : K) : ∀ (E : List (Nat × (Nat → K))) (v u : Nat → K) (j : Nat), recon E (fun j => v j + c * u j) j = recon E v j + c * recon E u j
  | [], _, _, _ => by
    show (0 : K) = 0 + c * 0
    grind
  | e :: E, v, u, j => by
    have := recon_lin c E v u j
    rw [recon, recon, recon, this]
    grind
theorem rep_of_sp {A : List (Nat → K)} {E : List (Nat × (Nat → K))} {v : Nat → K} (h : ∀ a ∈ A, Rep E a) (hv : Sp A v) : Rep E v := by
  induction hv with
  | zero => exact fun j => (recon_zero E _ j fun _ _ => rfl).symm
  | step c _ hm ih =>
    intro j
    rw [recon_lin, ← ih j, ← h _ hm j]
theorem row_zero : ∀ {E : List (Nat × (Nat → K))}, Rref E → ∀ e ∈ E, ∀ j, j < e.1 → e.2 j = 0
  | d :: E, h, e, he, j, hj => by
    obtain ⟨h1, h2, h3, h4⟩ := h
    rcases List.mem_cons.mp he with rfl | he
    · exact h2 j hj
    · exact row_zero h4 e he j hj
theorem row_one : ∀ {E : List (Nat × (Nat → K))}, Rref E → ∀ e ∈ E, e.2 e.1 = 1
  | d :: E, h, e, he => by
    obtain ⟨h1, h2, h3, h4⟩ := h
    rcases List.mem_cons.mp he with rfl | he
    · exact h1
    · exact row_one h4 e he
theorem rep_row : ∀ {E : List (Nat × (Nat → K))}, Rref E → ∀ e ∈ E, Rep E e.2
  | d :: E, h, e, he, j => by
    obtain ⟨h1, h2, h3, h4⟩ := h
    rw [recon]
    rcases List.mem_cons.mp he with rfl | he
    · rw [recon_zero E _ j fun c hc => (h3 c hc).2, h1]
      grind
    · rw [← rep_row h4 e he j, row_zero h4 e he _ (h3 e he).1]
      grind
theorem rep_lead : ∀ {E : List (Nat × (Nat → K))}, Rref E → ∀ {v : Nat → K} {p : Nat}, Rep E v → v p ≠ 0 → (∀ j, j < p → v j = 0) → ∃ e ∈ E, e.1 = p
  | [], _, v, p, h, hp, _ => absurd (h p) hp
  | d :: E, h, v, p, hr, hp, hz => by
    obtain ⟨h1, h2, h3, h4⟩ := h
    by_cases c : v d.1 = 0
    · have hr' : Rep E v := fun j => by
        have := hr j
        rw [recon, c] at this
        grind
      obtain ⟨e, he, q⟩ := rep_lead h4 hr' hp hz
      exact ⟨e, List.mem_cons_of_mem _ he, q⟩
    · refine ⟨d, List.mem_cons_self, ?_⟩
      have a1 : ¬ d.1 < p := fun q => c (hz _ q)
      have a2 : ¬ p < d.1 := fun q => hp (by
        have hE : ∀ (F : List (Nat × (Nat → K))), (∀ e ∈ F, e.2 p = 0) → recon F v p = 0 := by
          intro F
          induction F with
          | nil => intro _; rfl
          | cons e F ih =>
            intro hF
            rw [recon, hF e List.mem_cons_self, ih fun x hx => hF x (List.mem_cons_of_mem _ hx)]
            grind
        rw [hr p]
        exact hE (d :: E) fun e he => by
          rcases List.mem_cons.mp he with rfl | he
          · exact h2 p q
          · exact row_zero h4 e he p (Nat.lt_trans q (h3 e he).1))
      omega
theorem piv_sub {E F : List (Nat × (Nat → K))} (hE : Rref E) (hF : Rref F) (h : ∀ e ∈ E, Rep F e.2) : ∀ e ∈ E, ∃ f ∈ F, f.1 = e.1 := fun e he =>
  rep_lead hF (h e he) (by rw [row_one hE e he]; exact fun q => Lean.Grind.Field.zero_ne_one q.symm) (row_zero hE e he)
theorem piv_asc : ∀ {E : List (Nat × (Nat → K))}, Rref E → (E.map (·.1)).Pairwise (· < ·)
  | [], _ => .nil
  | d :: E, h => by
    obtain ⟨h1, h2, h3, h4⟩ := h
    refine List.pairwise_cons.mpr ⟨fun p hp => ?_, piv_asc h4⟩
    obtain ⟨e, he, rfl⟩ := List.mem_map.mp hp
    exact (h3 e he).1
theorem nodup_len : ∀ (a b : List Nat), a.Nodup → (∀ x ∈ a, x ∈ b) → a.length ≤ b.length
  | [], _, _, _ => Nat.zero_le _
  | x :: a, b, h, hs => by
    obtain ⟨h1, h2⟩ := List.nodup_cons.mp h
    have hx := hs x List.mem_cons_self
    have := nodup_len a (b.erase x) h2 fun y hy => (List.mem_erase_of_ne (fun e => h1 (by rw [← e]; exact hy))).mpr (hs y (List.mem_cons_of_mem _ hy))
    rw [List.length_erase_of_mem hx] at this
    have := List.length_pos_of_mem hx
    rw [List.length_cons]
    omega
theorem rref_len {E F : List (Nat × (Nat → K))} (hE : Rref E) (hF : Rref F) (h : ∀ e ∈ E, Rep F e.2) : E.length ≤ F.length := by
  have nd : (E.map fun x : Nat × (Nat → K) => x.1).Nodup := (piv_asc hE).imp fun q => Nat.ne_of_lt q
  have := nodup_len (E.map fun x : Nat × (Nat → K) => x.1) (F.map fun x : Nat × (Nat → K) => x.1) nd fun p hp => by
    obtain ⟨e, he, rfl⟩ := List.mem_map.mp hp
    obtain ⟨f, hf, q⟩ := piv_sub hE hF h e he
    rw [← q]
    exact List.mem_map.mpr ⟨f, hf, rfl⟩
  rw [List.length_map, List.length_map] at this
  exact this
theorem rref_uniq : ∀ {E F : List (Nat × (Nat → K))}, Rref E → Rref F → (∀ e ∈ E, Rep F e.2) → (∀ f ∈ F, Rep E f.2) → E = F
  | [], [], _, _, _, _ => rfl
  | [], f :: F, _, hF, _, h => by
    obtain ⟨e, he, _⟩ := piv_sub (F := ([] : List (Nat × (Nat → K)))) hF trivial h f List.mem_cons_self
    cases he
  | e :: E, [], hE, _, h, _ => by
    obtain ⟨f, hf, _⟩ := piv_sub (F := ([] : List (Nat × (Nat → K)))) hE trivial h e List.mem_cons_self
    cases hf
  | e :: E, f :: F, hE, hF, h, h' => by
    have hE0 := hE
    have hF0 := hF
    obtain ⟨a1, a2, a3, a4⟩ := hE
    obtain ⟨b1, b2, b3, b4⟩ := hF
    obtain ⟨x, hx, qx⟩ := piv_sub hE0 hF0 h e List.mem_cons_self
    obtain ⟨y, hy, qy⟩ := piv_sub hF0 hE0 h' f List.mem_cons_self
    have c1 : f.1 ≤ e.1 := by
      rcases List.mem_cons.mp hx with rfl | hx
      · omega
      · have := (b3 x hx).1; omega
    have c2 : e.1 ≤ f.1 := by
      rcases List.mem_cons.mp hy with rfl | hy
      · omega
      · have := (a3 y hy).1; omega
    have c : e.1 = f.1 := by omega
    have er : e.2 = f.2 := funext fun j => by
      have q := h e List.mem_cons_self j
      rw [recon, recon_zero F e.2 j fun g hg => ?_, ← c, a1] at q
      · grind
      · obtain ⟨z, hz, qz⟩ := piv_sub hF0 hE0 h' g (List.mem_cons_of_mem _ hg)
        rcases List.mem_cons.mp hz with rfl | hz
        · have := (b3 g hg).1; omega
        · rw [← qz]
          exact (a3 z hz).2
    have e0 : e = f := Prod.ext c er
    have t1 : ∀ d ∈ E, Rep F d.2 := fun d hd j => by
      have q := h d (List.mem_cons_of_mem _ hd) j
      rw [recon, ← c, row_zero a4 d hd _ (a3 d hd).1] at q
      grind
    have t2 : ∀ d ∈ F, Rep E d.2 := fun d hd j => by
      have q := h' d (List.mem_cons_of_mem _ hd) j
      rw [recon, c, row_zero b4 d hd _ (b3 d hd).1] at q
      grind
    rw [e0, rref_uniq a4 b4 t1 t2]
theorem rref_snoc : ∀ {E : List (Nat × (Nat → K))} {c : Nat} {r : Nat → K}, Rref E → (∀ e ∈ E, e.1 < c ∧ e.2 c = 0) → r c = 1 → (∀ j, j < c → r j = 0) → Rref (E ++ [(c, r)])
  | [], c, r, _, _, h1, h2 => ⟨h1, h2, fun d hd => absurd hd List.not_mem_nil, trivial⟩
  | e :: E, c, r, h, hc, h1, h2 => by
    obtain ⟨a1, a2, a3, a4⟩ := h
    refine ⟨a1, a2, fun d hd => ?_, rref_snoc a4 (fun x hx => hc x (List.mem_cons_of_mem _ hx)) h1 h2⟩
    rcases List.mem_append.mp hd with hd | hd
    · exact a3 d hd
    · rw [List.mem_singleton] at hd
      subst hd
      exact hc e List.mem_cons_self
theorem rref_map {r : Nat → K} {c : Nat} (h2 : ∀ j, j < c → r j = 0) : ∀ {E : List (Nat × (Nat → K))}, Rref E → (∀ e ∈ E, e.1 < c) → Rref (E.map fun e => (e.1, fun j => e.2 j + -(e.2 c) * r j))
  | [], _, _ => trivial
  | e :: E, h, hc => by
    obtain ⟨a1, a2, a3, a4⟩ := h
    have hc0 := hc e List.mem_cons_self
    refine ⟨?_, fun j hj => ?_, fun d hd => ?_, rref_map h2 a4 fun x hx => hc x (List.mem_cons_of_mem _ hx)⟩
    · show e.2 e.1 + -(e.2 c) * r e.1 = 1
      rw [a1, h2 _ hc0]
      grind
    · have hj : j < e.1 := hj
      show e.2 j + -(e.2 c) * r j = 0
      rw [a2 j hj, h2 _ (by omega)]
      grind
    · obtain ⟨x, hx, rfl⟩ := List.mem_map.mp hd
      refine ⟨(a3 x hx).1, ?_⟩
      show e.2 x.1 + -(e.2 c) * r x.1 = 0
      rw [(a3 x hx).2, h2 _ (hc x (List.mem_cons_of_mem _ hx))]
      grind
end
section
variable {K : Type} [Lean.Grind.Field K] [DecidableEq K]
def pickAt (c : Nat) : List (Nat → K) → Option ((Nat → K) × List (Nat → K))
  | [] => none
  | r :: L => if r c = 0 then (match pickAt c L with
    | none => none
    | some (x, M) => some (x, r :: M)) else some (r, L)
theorem pick_none {c : Nat} : ∀ {L : List (Nat → K)}, pickAt c L = none → ∀ v ∈ L, v c = 0
  | [], _, v, hv => absurd hv List.not_mem_nil
  | r :: L, h, v, hv => by
    rw [pickAt] at h
    by_cases q : r c = 0
    · rw [if_pos q] at h
      split at h
      · next h' =>
        rcases List.mem_cons.mp hv with rfl | hv
        · exact q
        · exact pick_none h' v hv
      · cases h
    · rw [if_neg q] at h
      cases h
theorem pick_some {c : Nat} : ∀ {L M : List (Nat → K)} {r : Nat → K}, pickAt c L = some (r, M) → r c ≠ 0 ∧ L.length = M.length + 1 ∧ ∀ v, v ∈ L ↔ v = r ∨ v ∈ M
  | [], _, _, h => by cases h
  | x :: L, M, r, h => by
    rw [pickAt] at h
    by_cases q : x c = 0
    · rw [if_pos q] at h
      split at h
      · cases h
      · next y N h' =>
        cases h
        obtain ⟨h1, h2, h3⟩ := pick_some h'
        refine ⟨h1, by rw [List.length_cons, List.length_cons, h2], fun v => ?_⟩
        rw [List.mem_cons, List.mem_cons, h3]
        exact ⟨fun h => by rcases h with h | h | h <;> simp [h], fun h => by rcases h with h | h | h <;> simp [h]⟩
    · rw [if_neg q] at h
      cases h
      exact ⟨q, rfl, fun v => List.mem_cons⟩
def nrm (c : Nat) (r : Nat → K) : Nat → K := fun j => r j / r c
def clr (c : Nat) (r v : Nat → K) : Nat → K := fun j => v j + -(v c) * r j
def elimS (c : Nat) (s : List (Nat → K) × List (Nat × (Nat → K))) : List (Nat → K) × List (Nat × (Nat → K)) := match pickAt c s.1 with
  | none => s
  | some (r, M) => (M.map (clr c (nrm c r)), s.2.map (fun e => (e.1, clr c (nrm c r) e.2)) ++ [(c, nrm c r)])
def elimN (A : List (Nat → K)) : Nat → List (Nat → K) × List (Nat × (Nat → K))
  | 0 => (A, [])
  | c + 1 => elimS c (elimN A c)
def ech (w : Nat) (A : List (Nat → K)) : List (Nat × (Nat → K)) := (elimN A w).2
structure EInv (w : Nat) (A : List (Nat → K)) (c : Nat) (s : List (Nat → K) × List (Nat × (Nat → K))) : Prop where
  z : ∀ v ∈ s.1, ∀ j, j < c → v j = 0
  y : ∀ v ∈ s.1, ∀ j, w ≤ j → v j = 0
  r : Rref s.2
  p : ∀ e ∈ s.2, e.1 < c
  a : ∀ a ∈ A, Sp (s.1 ++ s.2.map (·.2)) a
  l : ∀ v ∈ s.1, Sp A v
  e : ∀ e ∈ s.2, Sp A e.2
  n : s.1.length + s.2.length = A.length
theorem einv_step {w : Nat} {A : List (Nat → K)} {c : Nat} {s : List (Nat → K) × List (Nat × (Nat → K))} (h : EInv w A c s) : EInv w A (c + 1) (elimS c s) := by
  obtain ⟨L, E⟩ := s
  unfold elimS
  dsimp only
  split
  · next hp =>
    have h0 := pick_none hp
    exact ⟨fun v hv j hj => by
      by_cases q : j = c
      · rw [q]; exact h0 v hv
      · exact h.z v hv j (by omega), h.y, h.r, fun e he => Nat.lt_succ_of_lt (h.p e he), h.a, h.l, h.e, h.n⟩
  · next r M hp =>
    obtain ⟨rc, hl, hm⟩ := pick_some hp
    have hrL : r ∈ L := (hm r).mpr (.inl rfl)
    have n1 : nrm c r c = 1 := by unfold nrm; grind
    have n0 : ∀ j, j < c → nrm c r j = 0 := fun j hj => by
      unfold nrm
      rw [h.z r hrL j hj]
      grind
    have nw : ∀ j, w ≤ j → nrm c r j = 0 := fun j hj => by
      unfold nrm
      rw [h.y r hrL j hj]
      grind
    have sn : Sp A (nrm c r) := ((h.l r hrL).smul (r c)⁻¹).cast fun j => by
      unfold nrm
      grind
    have sc : ∀ v, Sp A v → Sp A (clr c (nrm c r) v) := fun v hv => (hv.add (sn.smul (-(v c)))).cast fun j => rfl
    refine ⟨fun v hv j hj => ?_, fun v hv j hj => ?_, ?_, fun e he => ?_, fun a ha => ?_, fun v hv => ?_, fun e he => ?_, ?_⟩
    · obtain ⟨u, hu, rfl⟩ := List.mem_map.mp hv
      have huL : u ∈ L := (hm u).mpr (.inr hu)
      unfold clr
      by_cases q : j = c
      · subst q
        rw [n1]
        grind
      · rw [h.z u huL j (by omega), n0 j (by omega)]
        grind
    · obtain ⟨u, hu, rfl⟩ := List.mem_map.mp hv
      have huL : u ∈ L := (hm u).mpr (.inr hu)
      unfold clr
      rw [h.y u huL j hj, nw j hj]
      grind
    · refine rref_snoc (rref_map n0 h.r h.p) (fun e he => ?_) n1 n0
      obtain ⟨x, hx, rfl⟩ := List.mem_map.mp he
      refine ⟨h.p x hx, ?_⟩
      show x.2 c + -(x.2 c) * nrm c r c = 0
      rw [n1]
      grind
    · rcases List.mem_append.mp he with he | he
      · obtain ⟨x, hx, rfl⟩ := List.mem_map.mp he
        exact Nat.lt_succ_of_lt (h.p x hx)
      · rw [List.mem_singleton] at he
        subst he
        exact Nat.lt_succ_self c
    · refine Sp.trans (fun b hb => ?_) (h.a a ha)
      let N := M.map (clr c (nrm c r)) ++ (E.map (fun e => (e.1, clr c (nrm c r) e.2)) ++ [(c, nrm c r)]).map (·.2)
      show Sp N b
      have hn : Sp N (nrm c r) := Sp.mem (List.mem_append.mpr (.inr (List.mem_map.mpr ⟨(c, nrm c r), List.mem_append.mpr (.inr (List.mem_singleton.mpr rfl)), rfl⟩)))
      have back : ∀ u, Sp N (clr c (nrm c r) u) → Sp N u := fun u hu => (hu.add (hn.smul (u c))).cast fun j => by
        unfold clr
        grind
      rcases List.mem_append.mp hb with hb | hb
      · rcases (hm b).mp hb with rfl | hb
        · exact (hn.smul (b c)).cast fun j => by
            unfold nrm
            grind
        · exact back b (Sp.mem (List.mem_append.mpr (.inl (List.mem_map.mpr ⟨b, hb, rfl⟩))))
      · obtain ⟨e, he, rfl⟩ := List.mem_map.mp hb
        exact back e.2 (Sp.mem (List.mem_append.mpr (.inr (List.mem_map.mpr ⟨(e.1, clr c (nrm c r) e.2), List.mem_append.mpr (.inl (List.mem_map.mpr ⟨e, he, rfl⟩)), rfl⟩))))
    · obtain ⟨u, hu, rfl⟩ := List.mem_map.mp hv
      exact sc u (h.l u ((hm u).mpr (.inr hu)))
    · rcases List.mem_append.mp he with he | he
      · obtain ⟨x, hx, rfl⟩ := List.mem_map.mp he
        exact sc x.2 (h.e x hx)
      · rw [List.mem_singleton] at he
        subst he
        exact sn
    · have hn := h.n
      dsimp only at hn ⊢
      rw [List.length_append, List.length_map, List.length_map, List.length_cons, List.length_nil]
      omega
theorem einv_n {w : Nat} {A : List (Nat → K)} (hA : ∀ a ∈ A, ∀ j, w ≤ j → a j = 0) : ∀ c, EInv w A c (elimN A c)
  | 0 => ⟨fun _ _ j hj => absurd hj (Nat.not_lt_zero j), hA, trivial, fun e he => absurd he List.not_mem_nil, fun a ha => Sp.mem (List.mem_append.mpr (.inl ha)), fun v hv => Sp.mem hv, fun e he => absurd he List.not_mem_nil, rfl⟩
  | c + 1 => einv_step (einv_n hA c)
/-- rows of width w -/
def Wd (w : Nat) (A : List (Nat → K)) : Prop := ∀ a ∈ A, ∀ j, w ≤ j → a j = 0
theorem ech_rref {w : Nat} {A : List (Nat → K)} (hA : Wd w A) : Rref (ech w A) := (einv_n hA w).r
theorem ech_sp {w : Nat} {A : List (Nat → K)} (hA : Wd w A) : ∀ e ∈ ech w A, Sp A e.2 := (einv_n hA w).e
theorem ech_lt {w : Nat} {A : List (Nat → K)} (hA : Wd w A) : ∀ e ∈ ech w A, e.1 < w := (einv_n hA w).p
theorem ech_len {w : Nat} {A : List (Nat → K)} (hA : Wd w A) : (ech w A).length ≤ A.length := by
  have := (einv_n hA w).n
  unfold ech
  omega
theorem ech_rep {w : Nat} {A : List (Nat → K)} (hA : Wd w A) : ∀ a ∈ A, Rep (ech w A) a := fun a ha => by
  have h := einv_n hA w
  refine rep_of_sp (A := (ech w A).map (·.2)) (fun b hb => ?_) ((h.a a ha).trans fun b hb => ?_)
  · obtain ⟨e, he, rfl⟩ := List.mem_map.mp hb
    exact rep_row h.r e he
  · rcases List.mem_append.mp hb with hb | hb
    · exact Sp.zero.cast fun j => by
        by_cases q : j < w
        · exact h.z b hb j q
        · exact h.y b hb j (by omega)
    · exact Sp.mem hb
theorem ech_repS {w : Nat} {A : List (Nat → K)} (hA : Wd w A) {v : Nat → K} (h : Sp A v) : Rep (ech w A) v := rep_of_sp (ech_rep hA) h
theorem rank_mono {w : Nat} {A B : List (Nat → K)} (hA : Wd w A) (hB : Wd w B) (h : ∀ b ∈ B, Sp A b) : (ech w B).length ≤ (ech w A).length :=
  rref_len (ech_rref hB) (ech_rref hA) fun e he => ech_repS hA ((ech_sp hB e he).trans h)
theorem ech_uniq {w : Nat} {A B : List (Nat → K)} (hA : Wd w A) (hB : Wd w B) (h : ∀ b ∈ B, Sp A b) (h' : ∀ a ∈ A, Sp B a) : ech w A = ech w B :=
  rref_uniq (ech_rref hA) (ech_rref hB) (fun e he => ech_repS hB ((ech_sp hA e he).trans h')) fun e he => ech_repS hA ((ech_sp hB e he).trans h)
/-- an echelon that spans the same is the echelon -/
theorem ech_is {w : Nat} {A : List (Nat → K)} (hA : Wd w A) {E : List (Nat × (Nat → K))} (hE : Rref E) (h : ∀ e ∈ E, Sp A e.2) (h' : ∀ a ∈ A, Rep E a) : ech w A = E :=
  rref_uniq (ech_rref hA) hE (fun e he => rep_of_sp h' (ech_sp hA e he)) fun e he => ech_repS hA (h e he)
end
end DL

/-! DLQ: fractions as data, how great they are, echelons of them. -/
namespace DL
open PySem PySem.Spec PyProof.Rows L2
abbrev encQ (q : Rat) : PyData := .tuple [.int q.num, .int (q.den : Int)]
theorem encQ_int (x : Int) : encQ (x : Rat) = .tuple [.int x, .int 1] := by
  show PyData.tuple _ = _
  rw [Rat.num_intCast, Rat.den_intCast]
  rfl
theorem red_num {t b : Int} (hb : b ≠ 0) : (if b > 0 then 1 else -1) * t / (Int.gcd t b : Int) = (Rat.divInt t b).num := by
  rw [Rat.num_divInt, Int.gcd_comm b t]
  congr 1
  congr 1
  split
  · next h => rw [Int.sign_eq_one_of_pos h]
  · next h => rw [Int.sign_eq_neg_one_of_neg (by omega)]
theorem red_den {t b : Int} (hb : b ≠ 0) : (if b > 0 then 1 else -1) * b / (Int.gcd t b : Int) = ((Rat.divInt t b).den : Int) := by
  rw [Rat.den_divInt, if_neg hb, Int.gcd_comm b t, Int.natCast_ediv]
  congr 1
  split <;> omega
/-- how great a fraction is -/
def SZ (q : Rat) (k : Nat) : Prop := q.num.natAbs < 2 ^ k ∧ q.den < 2 ^ k
theorem SZ.mono {q : Rat} {k m : Nat} (h : SZ q k) (hm : k ≤ m) : SZ q m := ⟨Nat.lt_of_lt_of_le h.1 (Nat.pow_le_pow_right (by decide) hm), Nat.lt_of_lt_of_le h.2 (Nat.pow_le_pow_right (by decide) hm)⟩
theorem SZ.neg {q : Rat} {k : Nat} (h : SZ q k) : SZ (-q) k := ⟨by rw [Rat.neg_num, Int.natAbs_neg]; exact h.1, by rw [Rat.neg_den]; exact h.2⟩
theorem mul_lt {a b j k : Nat} (h1 : a < 2 ^ j) (h2 : b < 2 ^ k) : a * b < 2 ^ (j + k) := by
  rw [Nat.pow_add]
  exact Nat.mul_lt_mul_of_lt_of_lt h1 h2
theorem div_num_le (t : Int) {b : Int} (hb : b ≠ 0) : (Rat.divInt t b).num.natAbs ≤ t.natAbs := by
  rw [Rat.num_divInt]
  have hs : (b.sign * t).natAbs = t.natAbs := by
    rw [Int.natAbs_mul]
    have : b.sign.natAbs = 1 := Int.natAbs_sign_of_ne_zero hb
    rw [this, Nat.one_mul]
  rw [← hs]
  exact Int.natAbs_ediv_le_natAbs _ _
theorem div_den_le (t : Int) {b : Int} (hb : b ≠ 0) : (Rat.divInt t b).den ≤ b.natAbs := by
  rw [Rat.den_divInt, if_neg hb]
  exact Nat.div_le_self _ _
theorem den_ne (q : Rat) : (q.den : Int) ≠ 0 := by
  have := q.den_nz
  omega
theorem add_div (a b : Rat) : Rat.divInt (a.num * b.den + b.num * a.den) ((a.den : Int) * b.den) = a + b := by
  have := Rat.divInt_add_divInt a.num b.num (den_ne a) (den_ne b)
  rw [Rat.num_divInt_den, Rat.num_divInt_den] at this
  exact this.symm
theorem mul_div (a b : Rat) : Rat.divInt (a.num * b.num) ((a.den : Int) * b.den) = a * b := by
  have := Rat.divInt_mul_divInt a.num b.num (d₁ := a.den) (d₂ := b.den)
  rw [Rat.num_divInt_den, Rat.num_divInt_den] at this
  exact this.symm
theorem div_div (a b : Rat) : Rat.divInt (a.num * b.den) ((a.den : Int) * b.num) = a / b := by
  have := Rat.divInt_mul_divInt a.num (b.den : Int) (d₁ := a.den) (d₂ := b.num)
  rw [Rat.num_divInt_den, ← Rat.inv_divInt, Rat.num_divInt_den] at this
  rw [Rat.div_def]
  exact this.symm
theorem SZ.add {a b : Rat} {j k : Nat} (h1 : SZ a j) (h2 : SZ b k) : SZ (a + b) (j + k + 1) := by
  rw [← add_div]
  have hb : (a.den : Int) * b.den ≠ 0 := Int.mul_ne_zero (den_ne a) (den_ne b)
  have e : 2 ^ (j + k + 1) = 2 ^ (j + k) + 2 ^ (j + k) := by rw [Nat.pow_succ]; omega
  constructor
  · refine Nat.lt_of_le_of_lt (div_num_le _ hb) ?_
    refine Nat.lt_of_le_of_lt (Int.natAbs_add_le _ _) ?_
    rw [Int.natAbs_mul, Int.natAbs_mul, Int.natAbs_natCast, Int.natAbs_natCast, e]
    have m1 := mul_lt h1.1 h2.2
    have m2 := mul_lt h1.2 h2.1
    rw [Nat.mul_comm] at m2
    omega
  · refine Nat.lt_of_le_of_lt (div_den_le _ hb) ?_
    rw [Int.natAbs_mul, Int.natAbs_natCast, Int.natAbs_natCast, e]
    have := mul_lt h1.2 h2.2
    omega
theorem SZ.mul {a b : Rat} {j k : Nat} (h1 : SZ a j) (h2 : SZ b k) : SZ (a * b) (j + k) := by
  rw [← mul_div]
  have hb : (a.den : Int) * b.den ≠ 0 := Int.mul_ne_zero (den_ne a) (den_ne b)
  constructor
  · refine Nat.lt_of_le_of_lt (div_num_le _ hb) ?_
    rw [Int.natAbs_mul]
    exact mul_lt h1.1 h2.1
  · refine Nat.lt_of_le_of_lt (div_den_le _ hb) ?_
    rw [Int.natAbs_mul, Int.natAbs_natCast, Int.natAbs_natCast]
    exact mul_lt h1.2 h2.2
theorem num_ne {q : Rat} (h : q ≠ 0) : q.num ≠ 0 := fun e => h (Rat.num_eq_zero.mp e)
theorem SZ.div {a b : Rat} {j k : Nat} (h1 : SZ a j) (h2 : SZ b k) (h : b ≠ 0) : SZ (a / b) (j + k) := by
  rw [← div_div]
  have hb : (a.den : Int) * b.num ≠ 0 := Int.mul_ne_zero (den_ne a) (num_ne h)
  constructor
  · refine Nat.lt_of_le_of_lt (div_num_le _ hb) ?_
    rw [Int.natAbs_mul, Int.natAbs_natCast]
    exact mul_lt h1.1 h2.2
  · refine Nat.lt_of_le_of_lt (div_den_le _ hb) ?_
    rw [Int.natAbs_mul, Int.natAbs_natCast]
    exact mul_lt h1.2 h2.1
theorem SZ.int {x : Int} {k : Nat} (k0 : 0 < k) (h : x.natAbs < 2 ^ k) : SZ (x : Rat) k := by
  constructor
  · rw [Rat.num_intCast]; exact h
  · rw [Rat.den_intCast]
    exact Nat.one_lt_two_pow (by omega)
theorem mulOk_sz {i j : Int} (h1 : i.natAbs < 2 ^ 9000) (h2 : j.natAbs < 2 ^ 9000) : mulOk i j = true := by
  unfold mulOk
  have a := PySem.Flt.log2_lt_of (k := 9000) (by decide) h1
  have b := PySem.Flt.log2_lt_of (k := 9000) (by decide) h2
  rw [Bool.or_eq_true]
  exact .inr (decide_eq_true (by omega))
theorem divOk_sz {j : Int} (h : 0 < j) (h1 : j.natAbs < 2 ^ 9000) : divOk j = true := by
  unfold divOk
  have a := PySem.Flt.log2_lt_of (k := 9000) (by decide) h1
  rw [decide_eq_true h, decide_eq_true a]
  rfl
/-- exact division by an int of either sign -/
theorem fdiv_ex {i j : Int} (h : j ≠ 0) (h1 : j.natAbs < 2 ^ 9000) (hd : j ∣ i) : gFdiv (.int i) (.int j) = some (.int (i / j)) := by
  have a := PySem.Flt.log2_lt_of (k := 9000) (by decide) h1
  unfold gFdiv
  dsimp only
  by_cases c : 0 < j
  · rw [if_pos (divOk_sz c h1)]
  · rw [if_neg (by unfold divOk; rw [decide_eq_false c]; exact Bool.false_ne_true), if_pos (by unfold divNg; rw [decide_eq_true (show j < 0 by omega), decide_eq_true a]; rfl), Int.fdiv_eq_ediv_of_dvd hd]
theorem fdiv_ok {i j : Int} (h : divOk j = true) : gFdiv (.int i) (.int j) = some (.int (i / j)) := if_pos h
/-! ### rows of fractions -/
abbrev encR (w : Nat) (r : Nat → Rat) : PyData := .list ((List.range w).map fun j => encQ (r j))
theorem encR_congr {w : Nat} {r s : Nat → Rat} (h : ∀ j, j < w → r j = s j) : encR w r = encR w s := by
  show PyData.list _ = PyData.list _
  congr 1
  apply List.map_congr_left
  intro j hj
  rw [h j (List.mem_range.mp hj)]
def SZr (w : Nat) (r : Nat → Rat) (k : Nat) : Prop := ∀ j, j < w → SZ (r j) k
theorem SZr.mono {w : Nat} {r : Nat → Rat} {k m : Nat} (h : SZr w r k) (hm : k ≤ m) : SZr w r m := fun j hj => (h j hj).mono hm
theorem SZr.nrm {w c : Nat} {r : Nat → Rat} {k : Nat} (hc : c < w) (h0 : r c ≠ 0) (h : SZr w r k) : SZr w (nrm c r) (k + k) := fun j hj => (h j hj).div (h c hc) h0
theorem SZr.clr {w c : Nat} {r v : Nat → Rat} {k m : Nat} (hc : c < w) (hr : SZr w r m) (h : SZr w v k) : SZr w (clr c r v) (k + (k + m) + 1) := fun j hj => (h j hj).add (((h c hc).neg).mul (hr j hj))
def szB : Nat → Nat
  | 0 => 5
  | m + 1 => 4 * szB m + 1
theorem szB_le {m : Nat} (h : m ≤ 4) : szB m ≤ 1365 := by
  rcases m with _ | _ | _ | _ | _ | m
  all_goals first | decide | omega
theorem pick_idx {c : Nat} : ∀ {L M : List (Nat → Rat)} {r : Nat → Rat} (k : Nat), pickAt c L = some (r, M) → ∃ i rest, (L.zipIdx k).filter (fun p => decide ((p.1 c).num ≠ 0)) = (r, k + i) :: rest ∧ i < L.length ∧ L[i]? = some r ∧ ((L.zipIdx k).filter fun p => decide ((p.2 : Int) ≠ ((k + i : Nat) : Int))).map (·.1) = M
  | [], _, _, _, h => by cases h
  | x :: L, M, r, k, h => by
    rw [pickAt] at h
    by_cases q : x c = 0
    · rw [if_pos q] at h
      split at h
      · cases h
      · next y N h' =>
        cases h
        obtain ⟨i, rest, h1, h2, h3, h4⟩ := pick_idx (k + 1) h'
        refine ⟨i + 1, rest, ?_, by rw [List.length_cons]; omega, by rw [List.getElem?_cons_succ]; exact h3, ?_⟩
        · rw [List.zipIdx_cons, List.filter_cons_of_neg (by
            show ¬ decide ((x c).num ≠ 0) = true
            rw [q]
            decide), h1]
          rw [show k + 1 + i = k + (i + 1) by omega]
        · rw [List.zipIdx_cons, List.filter_cons_of_pos (by
            show decide ((k : Int) ≠ ((k + (i + 1) : Nat) : Int)) = true
            exact decide_eq_true (by omega)), List.map_cons]
          rw [show k + 1 + i = k + (i + 1) by omega] at h4
          rw [h4]
    · rw [if_neg q] at h
      cases h
      refine ⟨0, (L.zipIdx (k + 1)).filter (fun p => decide ((p.1 c).num ≠ 0)), ?_, by rw [List.length_cons]; omega, rfl, ?_⟩
      · rw [List.zipIdx_cons, List.filter_cons_of_pos (by
          show decide ((x c).num ≠ 0) = true
          exact decide_eq_true (num_ne q))]
        rfl
      · rw [List.zipIdx_cons, List.filter_cons_of_neg (by
          show ¬ decide ((k : Int) ≠ ((k + 0 : Nat) : Int)) = true
          simp)]
        have hk : ∀ (N : List (Nat → Rat)) (m : Nat), k < m → ((N.zipIdx m).filter fun p => decide ((p.2 : Int) ≠ ((k + 0 : Nat) : Int))).map (·.1) = N := by
          intro N
          induction N with
          | nil => intro m _; rfl
          | cons y N ih =>
            intro m hm
            rw [List.zipIdx_cons, List.filter_cons_of_pos (by
              show decide ((m : Int) ≠ ((k + 0 : Nat) : Int)) = true
              exact decide_eq_true (by omega)), List.map_cons, ih (m + 1) (by omega)]
        exact hk L (k + 1) (by omega)
theorem pick_idx0 {c : Nat} : ∀ {L : List (Nat → Rat)} (k : Nat), pickAt c L = none → (L.zipIdx k).filter (fun p => decide ((p.1 c).num ≠ 0)) = []
  | [], _, _ => rfl
  | x :: L, k, h => by
    have hx := pick_none h x List.mem_cons_self
    rw [pickAt, if_pos hx] at h
    rw [List.zipIdx_cons, List.filter_cons_of_neg (by
      show ¬ decide ((x c).num ≠ 0) = true
      rw [hx]
      decide)]
    refine pick_idx0 (k + 1) ?_
    split at h
    · next h' => exact h'
    · cases h
/-! ### data that is like itself -/
mutual
def plainD : PyData → Bool
  | .int _ => true
  | .tuple xs => plainAll xs
  | .list xs => plainAll xs
  | _ => false
def plainAll : List PyData → Bool
  | [] => true
  | x :: xs => plainD x && plainAll xs
end
mutual
theorem eqv_self : ∀ d : PyData, plainD d = true → PyData.eqv d d = true
  | .int i, _ => by rw [eqv_int]; simp
  | .tuple xs, h => by
    rw [plainD] at h
    rw [PyData.eqv]
    exact eqvAll_self xs h
  | .list xs, h => by
    rw [plainD] at h
    rw [PyData.eqv]
    exact eqvAll_self xs h
  | .none, h => by cases h
  | .bool _, h => by cases h
  | .str _, h => by cases h
  | .dict _, h => by cases h
theorem eqvAll_self : ∀ xs : List PyData, plainAll xs = true → PyData.eqvAll xs xs = true
  | [], _ => by rw [PyData.eqvAll]
  | x :: xs, h => by
    rw [plainAll, Bool.and_eq_true] at h
    rw [PyData.eqvAll, eqv_self x h.1, eqvAll_self xs h.2]
    rfl
end
theorem gEq_self {d : PyData} (h : plainD d = true) (s : SeqAt.shaped d = true) : gEq d d = some (.bool true) := by
  unfold gEq
  rw [if_pos ⟨s, s⟩, eqv_self d h]
theorem gNe_self {d : PyData} (h : plainD d = true) (s : SeqAt.shaped d = true) : gNe d d = some (.bool false) := by
  unfold gNe
  rw [if_pos ⟨s, s⟩, eqv_self d h]
  rfl
theorem all_map {α : Type} (p : List PyData → Bool) (q : PyData → Bool) (h0 : p [] = true) (h1 : ∀ x xs, p (x :: xs) = (q x && p xs)) (f : α → PyData) : ∀ l : List α, (∀ x ∈ l, q (f x) = true) → p (l.map f) = true
  | [], _ => h0
  | x :: l, h => by
    rw [List.map_cons, h1, h x List.mem_cons_self, all_map p q h0 h1 f l fun y hy => h y (List.mem_cons_of_mem _ hy)]
    rfl
theorem plain_map {α : Type} (f : α → PyData) (l : List α) (h : ∀ x ∈ l, plainD (f x) = true) : plainAll (l.map f) = true := all_map plainAll plainD (by rw [plainAll]) (fun _ _ => by rw [plainAll]) f l h
theorem lay_map {α : Type} (f : α → PyData) (l : List α) (h : ∀ x ∈ l, PyData.canLay0 (f x) = true) : PyData.canLayAll0 (l.map f) = true := all_map PyData.canLayAll0 PyData.canLay0 (by rw [PyData.canLayAll0]) (fun _ _ => by rw [PyData.canLayAll0]) f l h
theorem depth_map {α : Type} (f : α → PyData) (k : Nat) : ∀ l : List α, (∀ x ∈ l, (f x).depth ≤ k) → PyData.depthAll (l.map f) ≤ k
  | [], _ => by rw [List.map_nil, PyData.depthAll]; omega
  | x :: l, h => by
    rw [List.map_cons, PyData.depthAll]
    have h1 := h x List.mem_cons_self
    have h2 := depth_map f k l fun y hy => h y (List.mem_cons_of_mem _ hy)
    omega
theorem encQ_plain (q : Rat) : plainD (encQ q) = true := by
  rw [plainD, plainAll, plainAll, plainAll, plainD, plainD]
  rfl
theorem encQ_lay (q : Rat) : PyData.canLay0 (encQ q) = true := by
  rw [PyData.canLay0, PyData.canLayAll0, PyData.canLayAll0, PyData.canLayAll0, PyData.canLay0, PyData.canLay0]
  rfl
theorem encQ_depth (q : Rat) : (encQ q).depth ≤ 1 := by
  rw [PyData.depth, PyData.depthAll, PyData.depthAll, PyData.depthAll, PyData.depth, PyData.depth]
  decide
end DL

/-! DLU: rows of integers as rows of fractions, lines of kernels as integers. -/
namespace DL
open PySem PySem.Spec PyProof.Rows L2
def qrow (w : Nat) (g : Nat → Int) : Nat → Rat := fun j => if j < w then (g j : Rat) else 0
def matQ (h w : Nat) (f : Nat → Nat → Int) : List (Nat → Rat) := (List.range h).map fun i => qrow w (f i)
theorem matQ_wd (h w : Nat) (f : Nat → Nat → Int) : Wd w (matQ h w f) := fun a ha j hj => by
  obtain ⟨i, _, rfl⟩ := List.mem_map.mp ha
  exact if_neg (by omega)
theorem matQ_mem {h w : Nat} {f : Nat → Nat → Int} {i : Nat} (hi : i < h) : qrow w (f i) ∈ matQ h w f := List.mem_map.mpr ⟨i, List.mem_range.mpr hi, rfl⟩
theorem matQ_of {h w : Nat} {f : Nat → Nat → Int} {v : Nat → Rat} (hv : v ∈ matQ h w f) : ∃ i, i < h ∧ v = qrow w (f i) := by
  obtain ⟨i, hi, rfl⟩ := List.mem_map.mp hv
  exact ⟨i, List.mem_range.mp hi, rfl⟩
theorem matQ_len (h w : Nat) (f : Nat → Nat → Int) : (matQ h w f).length = h := len_range _
/-! ### a line of fractions as integers -/
def lcmS (b : Int) (q : Rat) : Int := b * (q.den : Int) / (Int.gcd b (q.den : Int) : Int)
def botF (l : List Rat) (b : Int) : Int := l.foldl lcmS b
def lowL (l : List Int) (a : Int) : Int := l.foldl (fun a x => (Int.gcd a x : Int)) a
def wholeF (B : Int) (q : Rat) : Int := q.num * (B / (q.den : Int))
theorem lcmS_pos {b : Int} {q : Rat} (hb : 0 < b) : 0 < lcmS b q := by
  have hd : 0 < (q.den : Int) := by have := q.den_nz; omega
  have hg : 0 < (Int.gcd b (q.den : Int) : Int) := by
    have : 0 < Int.gcd b (q.den : Int) := Int.gcd_pos_of_ne_zero_left _ (by omega)
    omega
  have hd1 : (Int.gcd b (q.den : Int) : Int) ∣ b * (q.den : Int) := Int.dvd_trans (Int.gcd_dvd_left ..) (Int.dvd_mul_right _ _)
  have hm : 0 < b * (q.den : Int) := Int.mul_pos hb hd
  exact Int.ediv_pos_of_pos_of_dvd hm (by omega) hd1
theorem lcmS_lt {b : Int} {q : Rat} {m k : Nat} (hb : 0 < b) (h : b.natAbs < 2 ^ m) (hq : SZ q k) : (lcmS b q).natAbs < 2 ^ (m + k) := by
  unfold lcmS
  refine Nat.lt_of_le_of_lt (Int.natAbs_ediv_le_natAbs _ _) ?_
  rw [Int.natAbs_mul, Int.natAbs_natCast]
  exact mul_lt h hq.2
theorem botF_ok {k : Nat} : ∀ (l : List Rat) (b : Int) (m : Nat), 0 < b → b.natAbs < 2 ^ m → (∀ q ∈ l, SZ q k) → 0 < botF l b ∧ (botF l b).natAbs < 2 ^ (m + l.length * k)
  | [], b, m, hb, h, _ => ⟨hb, by rw [List.length_nil, Nat.zero_mul, Nat.add_zero]; exact h⟩
  | q :: l, b, m, hb, h, hq => by
    have hq0 := hq q List.mem_cons_self
    have := botF_ok l (lcmS b q) (m + k) (lcmS_pos hb) (lcmS_lt hb h hq0) fun x hx => hq x (List.mem_cons_of_mem _ hx)
    rw [List.length_cons, Nat.succ_mul, show m + (l.length * k + k) = m + k + l.length * k by omega]
    exact this
theorem lowL_dvd : ∀ (l : List Int) (a : Int), lowL l a ∣ a ∧ ∀ x ∈ l, lowL l a ∣ x
  | [], a => ⟨Int.dvd_refl a, fun x h => absurd h List.not_mem_nil⟩
  | y :: l, a => by
    obtain ⟨h1, h2⟩ := lowL_dvd l (Int.gcd a y : Int)
    refine ⟨Int.dvd_trans h1 (Int.gcd_dvd_left ..), fun x hx => ?_⟩
    rcases List.mem_cons.mp hx with rfl | hx
    · exact Int.dvd_trans h1 (Int.gcd_dvd_right ..)
    · exact h2 x hx
theorem lowL_nn : ∀ (l : List Int) (a : Int), 0 ≤ a → 0 ≤ lowL l a
  | [], a, h => h
  | y :: l, a, h => lowL_nn l (Int.gcd a y : Int) (Int.natCast_nonneg _)
theorem lowL_ok {l : List Int} {x : Int} (hx : x ∈ l) (h0 : x ≠ 0) : 0 < lowL l 0 ∧ (lowL l 0).natAbs ≤ x.natAbs := by
  have h1 := (lowL_dvd l 0).2 x hx
  have h2 := lowL_nn l 0 (by omega)
  have h3 : lowL l 0 ≠ 0 := fun e => by
    rw [e] at h1
    exact h0 (Int.zero_dvd.mp h1)
  exact ⟨by omega, Nat.le_of_dvd (by omega) (Int.natAbs_dvd_natAbs.mpr h1)⟩
def qlist (w : Nat) (g : Nat → Rat) : List Rat := (List.range w).map g
def botW (w : Nat) (g : Nat → Rat) : Int := botF (qlist w g) 1
def wholeW (w : Nat) (g : Nat → Rat) (j : Nat) : Int := wholeF (botW w g) (g j)
def lowW (w : Nat) (g : Nat → Rat) : Int := lowL ((List.range w).map (wholeW w g)) 0
def intsF (w : Nat) (g : Nat → Rat) (j : Nat) : Int := wholeW w g j / lowW w g
theorem wholeF_lt {B : Int} {q : Rat} {m k : Nat} (h : B.natAbs < 2 ^ m) (hq : SZ q k) : (wholeF B q).natAbs < 2 ^ (k + m) := by
  unfold wholeF
  rw [Int.natAbs_mul]
  exact mul_lt hq.1 (Nat.lt_of_le_of_lt (Int.natAbs_ediv_le_natAbs _ _) h)
/-! ### lines of the kernel -/
def kLine (E : List (Nat × (Nat → Rat))) (c : Nat) : Nat → Rat := E.foldl (fun l e j => if j = e.1 then -1 * e.2 c else l j) (fun j => if j = c then 1 else 0)
theorem kfold_sz {w k c : Nat} (hc : c < w) (k1 : 1 ≤ k) : ∀ (E : List (Nat × (Nat → Rat))) (l : Nat → Rat), (∀ e ∈ E, SZr w e.2 k) → SZr w l (k + 1) → SZr w (E.foldl (fun l e j => if j = e.1 then -1 * e.2 c else l j) l) (k + 1)
  | [], l, _, h => h
  | e :: E, l, hE, h => kfold_sz hc k1 E _ (fun x hx => hE x (List.mem_cons_of_mem _ hx)) fun j hj => by
      show SZ (if j = e.1 then -1 * e.2 c else l j) (k + 1)
      split
      · have := hE e List.mem_cons_self c hc
        have h1 : SZ (-1 : Rat) 1 := by
          constructor
          · show (-1 : Rat).num.natAbs < 2
            decide
          · show (-1 : Rat).den < 2
            decide
        exact (h1.mul this).mono (by omega)
      · exact h j hj
theorem kfold_at {c : Nat} : ∀ (E : List (Nat × (Nat → Rat))) (l : Nat → Rat) (j : Nat), (∀ e ∈ E, e.1 ≠ j) → E.foldl (fun l e j => if j = e.1 then -1 * e.2 c else l j) l j = l j
  | [], _, _, _ => rfl
  | e :: E, l, j, h => by
    rw [List.foldl_cons, kfold_at E _ j fun x hx => h x (List.mem_cons_of_mem _ hx)]
    exact if_neg fun q => h e List.mem_cons_self q.symm
theorem kLine_sz {w k c : Nat} (hc : c < w) (k1 : 1 ≤ k) {E : List (Nat × (Nat → Rat))} (hE : ∀ e ∈ E, SZr w e.2 k) : SZr w (kLine E c) (k + 1) :=
  kfold_sz hc k1 E _ hE fun j _ => by
    show SZ (if j = c then (1 : Rat) else 0) (k + 1)
    have h2 : 2 ≤ 2 ^ (k + 1) := by rw [Nat.pow_succ]; have := Nat.one_le_two_pow (n := k); omega
    split
    · exact ⟨show 1 < 2 ^ (k + 1) by omega, show 1 < 2 ^ (k + 1) by omega⟩
    · exact ⟨show 0 < 2 ^ (k + 1) by omega, show 1 < 2 ^ (k + 1) by omega⟩
def freeP (w : Nat) (E : List (Nat × (Nat → Rat))) : List Nat := (List.range w).filter fun c => !(E.map (·.1)).contains c
def kernD (w : Nat) (E : List (Nat × (Nat → Rat))) : List PyData := (freeP w E).map fun c => rowD w (intsF w (kLine E c))
theorem gIn_lst (neg : Bool) (j : Nat) (l : List Nat) : gIn neg (.int (j : Nat)) (.list (l.map fun (i : Nat) => PyData.int (i : Nat))) = some (.bool (if neg = true then !l.contains j else l.contains j)) := by
  rw [← inD_ints]
  exact if_pos ⟨rfl, flat_ints l⟩
theorem first_at {w p : Nat} {r : Nat → Rat} (hp : p < w) (h1 : r p ≠ 0) (h0 : ∀ j, j < p → r j = 0) : ∃ rest, (List.range w).filter (fun j => decide ((r j).num ≠ 0)) = p :: rest := by
  obtain ⟨d, rfl⟩ : ∃ d, w = p + 1 + d := ⟨w - p - 1, by omega⟩
  rw [List.range_add, List.range_succ, List.filter_append, List.filter_append]
  have e1 : (List.range p).filter (fun j => decide ((r j).num ≠ 0)) = [] := List.filter_eq_nil_iff.mpr fun j hj => by
    rw [h0 j (List.mem_range.mp hj)]
    decide
  have e2 : [p].filter (fun j => decide ((r j).num ≠ 0)) = [p] := by
    have hq : decide ((r p).num ≠ 0) = true := decide_eq_true (num_ne h1)
    simp [h1]
  rw [e1, e2]
  exact ⟨_, rfl⟩
end DL

/-! DLW: determinants over a commutative ring, printed by dlw.py. -/
namespace DL
section
variable {K : Type} [Lean.Grind.CommRing K]
def sK : Nat → (Nat → K) → K
  | 0, _ => 0
  | n + 1, f => sK n f + f n
def sgK (k : Nat) : K := if k % 2 = 0 then 1 else -1
def detK : Nat → (Nat → Nat → K) → K
  | 0, _ => 1
  | n + 1, f => sK (n + 1) fun k => sgK k * f 0 k * detK n fun i j => f (i + 1) (skip k j)
def mulK (n : Nat) (f g : Nat → Nat → K) (i j : Nat) : K := sK n fun k => f i k * g k j
def unK (i j : Nat) : K := if i = j then 1 else 0
def adjK (n : Nat) (f : Nat → Nat → K) (k m : Nat) : K := sgK (k + m) * detK (n - 1) fun i j => f (skip m i) (skip k j)
theorem sK_congr : ∀ {n : Nat} {f g : Nat → K}, (∀ k, k < n → f k = g k) → sK n f = sK n g
  | 0, _, _, _ => rfl
  | n + 1, f, g, h => by rw [sK, sK, sK_congr fun k hk => h k (by omega), h n (by omega)]
theorem sK_zero : ∀ {n : Nat} {f : Nat → K}, (∀ k, k < n → f k = 0) → sK n f = 0
  | 0, _, _ => rfl
  | n + 1, f, h => by
    rw [sK, sK_zero fun k hk => h k (by omega), h n (by omega)]
    grind
theorem sK_cons (f : Nat → K) : ∀ n : Nat, sK (n + 1) f = f 0 + sK n fun k => f (k + 1)
  | 0 => by
    show (0 : K) + f 0 = f 0 + 0
    grind
  | n + 1 => by
    rw [sK, sK_cons f n, sK]
    grind
theorem sK_add (f g : Nat → K) : ∀ n : Nat, sK n (fun k => f k + g k) = sK n f + sK n g
  | 0 => by
    show (0 : K) = 0 + 0
    grind
  | n + 1 => by
    rw [sK, sK, sK, sK_add f g n]
    grind
theorem sK_mul (c : K) (f : Nat → K) : ∀ n : Nat, sK n (fun k => c * f k) = c * sK n f
  | 0 => by
    show (0 : K) = c * 0
    grind
  | n + 1 => by
    rw [sK, sK, sK_mul c f n]
    grind
theorem sK_swap (f : Nat → Nat → K) (m : Nat) : ∀ n : Nat, sK n (fun k => sK m fun l => f k l) = sK m fun l => sK n fun k => f k l
  | 0 => (sK_zero fun _ _ => rfl).symm
  | n + 1 => by
    rw [sK, sK_swap f m n, ← sK_add]
    rfl
theorem sK_one (f : Nat → K) (j : Nat) : ∀ n : Nat, sK n (fun k => if k = j then f k else 0) = if j < n then f j else 0
  | 0 => by
    show (0 : K) = _
    rw [if_neg (Nat.not_lt_zero j)]
  | n + 1 => by
    rw [sK, sK_one f j n]
    by_cases h : n = j
    · subst h
      rw [if_neg (Nat.lt_irrefl n), if_pos rfl, if_pos (Nat.lt_succ_self n)]
      grind
    · by_cases h2 : j < n
      · rw [if_pos h2, if_neg h, if_pos (by omega)]
        grind
      · rw [if_neg h2, if_neg h, if_neg (by omega)]
        grind
theorem skip_lt' {k j n : Nat} (h : j < n) : skip k j < n + 1 := by
  unfold skip
  split <;> omega
theorem detK_congr : ∀ (n : Nat) (f g : Nat → Nat → K), (∀ i j, i < n → j < n → f i j = g i j) → detK n f = detK n g
  | 0, _, _, _ => rfl
  | n + 1, f, g, h => sK_congr fun k hk => by
    rw [h 0 k (by omega) hk, detK_congr n (fun i j => f (i + 1) (skip k j)) (fun i j => g (i + 1) (skip k j)) fun i j hi hj => h _ _ (by omega) (skip_lt' hj)]
/-- a last row of nothing -/
theorem detK_last : ∀ (n : Nat) (f : Nat → Nat → K), (∀ j, f n j = 0) → detK (n + 1) f = 0
  | 0, f, h => by
    show (0 : K) + sgK 0 * f 0 0 * 1 = 0
    rw [h 0]
    grind
  | n + 1, f, h => sK_zero fun k hk => by
    rw [detK_last n (fun i j => f (i + 1) (skip k j)) fun j => h _]
    grind
theorem sumTo_cast (f : Nat → Int) : ∀ n : Nat, ((DL.sumTo n f : Int) : Rat) = sK n fun k => (f k : Rat)
  | 0 => rfl
  | n + 1 => by
    rw [sumTo_succ, sK, ← sumTo_cast f n, Rat.intCast_add]
theorem sgF_cast (k : Nat) : ((sgF k : Int) : Rat) = sgK k := by
  unfold sgF sgK
  split <;> rfl
theorem detF_cast : ∀ (n : Nat) (f : Nat → Nat → Int), ((detF n f : Int) : Rat) = detK n fun i j => (f i j : Rat)
  | 0, _ => rfl
  | n + 1, f => by
    have h0 : detF (n + 1) f = DL.sumTo (n + 1) fun k => sgF k * f 0 k * detF n (minF k f) := rfl
    rw [h0, detK, sumTo_cast]
    refine sK_congr fun k _ => ?_
    have e := detF_cast n (minF k f)
    rw [show (detK n fun i j => (f (i + 1) (skip k j) : Rat)) = detK n fun i j => ((minF k f i j : Int) : Rat) from rfl, ← e, ← sgF_cast, Rat.intCast_mul, Rat.intCast_mul]
theorem kmul0 (f g : Nat → Nat → K) : detK 0 (mulK 0 f g) = detK 0 f * detK 0 g := by
  show (1 : K) = 1 * 1
  grind
theorem kmul1 (f g : Nat → Nat → K) : detK 1 (mulK 1 f g) = detK 1 f * detK 1 g := by
  have e0 : detK 1 (mulK 1 f g) = (0 + 1 * (0 + f 0 0 * g 0 0) * 1) := by kernel_rfl
  have e1 : detK 1 f = (0 + 1 * f 0 0 * 1) := by kernel_rfl
  have e2 : detK 1 g = (0 + 1 * g 0 0 * 1) := by kernel_rfl
  rw [e0, e1, e2]
  clear e0 e1 e2
  generalize f 0 0 = f00
  generalize g 0 0 = g00
  grind
theorem kmul2 (f g : Nat → Nat → K) : detK 2 (mulK 2 f g) = detK 2 f * detK 2 g := by
  have e0 : detK 2 (mulK 2 f g) = ((0 + 1 * ((0 + f 0 0 * g 0 0) + f 0 1 * g 1 0) * (0 + 1 * ((0 + f 1 0 * g 0 1) + f 1 1 * g 1 1) * 1)) + (-1) * ((0 + f 0 0 * g 0 1) + f 0 1 * g 1 1) * (0 + 1 * ((0 + f 1 0 * g 0 0) + f 1 1 * g 1 0) * 1)) := by kernel_rfl
  have e1 : detK 2 f = ((0 + 1 * f 0 0 * (0 + 1 * f 1 1 * 1)) + (-1) * f 0 1 * (0 + 1 * f 1 0 * 1)) := by kernel_rfl
  have e2 : detK 2 g = ((0 + 1 * g 0 0 * (0 + 1 * g 1 1 * 1)) + (-1) * g 0 1 * (0 + 1 * g 1 0 * 1)) := by kernel_rfl
  rw [e0, e1, e2]
  clear e0 e1 e2
  generalize f 0 0 = f00
  generalize f 0 1 = f01
  generalize f 1 0 = f10
  generalize f 1 1 = f11
  generalize g 0 0 = g00
  generalize g 0 1 = g01
  generalize g 1 0 = g10
  generalize g 1 1 = g11
  grind
theorem kmul3 (f g : Nat → Nat → K) : detK 3 (mulK 3 f g) = detK 3 f * detK 3 g := by
  have e0 : detK 3 (mulK 3 f g) = (((0 + 1 * (((0 + f 0 0 * g 0 0) + f 0 1 * g 1 0) + f 0 2 * g 2 0) * ((0 + 1 * (((0 + f 1 0 * g 0 1) + f 1 1 * g 1 1) + f 1 2 * g 2 1) * (0 + 1 * (((0 + f 2 0 * g 0 2) + f 2 1 * g 1 2) + f 2 2 * g 2 2) * 1)) + (-1) * (((0 + f 1 0 * g 0 2) + f 1 1 * g 1 2) + f 1 2 * g 2 2) * (0 + 1 * (((0 + f 2 0 * g 0 1) + f 2 1 * g 1 1) + f 2 2 * g 2 1) * 1))) + (-1) * (((0 + f 0 0 * g 0 1) + f 0 1 * g 1 1) + f 0 2 * g 2 1) * ((0 + 1 * (((0 + f 1 0 * g 0 0) + f 1 1 * g 1 0) + f 1 2 * g 2 0) * (0 + 1 * (((0 + f 2 0 * g 0 2) + f 2 1 * g 1 2) + f 2 2 * g 2 2) * 1)) + (-1) * (((0 + f 1 0 * g 0 2) + f 1 1 * g 1 2) + f 1 2 * g 2 2) * (0 + 1 * (((0 + f 2 0 * g 0 0) + f 2 1 * g 1 0) + f 2 2 * g 2 0) * 1))) + 1 * (((0 + f 0 0 * g 0 2) + f 0 1 * g 1 2) + f 0 2 * g 2 2) * ((0 + 1 * (((0 + f 1 0 * g 0 0) + f 1 1 * g 1 0) + f 1 2 * g 2 0) * (0 + 1 * (((0 + f 2 0 * g 0 1) + f 2 1 * g 1 1) + f 2 2 * g 2 1) * 1)) + (-1) * (((0 + f 1 0 * g 0 1) + f 1 1 * g 1 1) + f 1 2 * g 2 1) * (0 + 1 * (((0 + f 2 0 * g 0 0) + f 2 1 * g 1 0) + f 2 2 * g 2 0) * 1))) := by kernel_rfl
  have e1 : detK 3 f = (((0 + 1 * f 0 0 * ((0 + 1 * f 1 1 * (0 + 1 * f 2 2 * 1)) + (-1) * f 1 2 * (0 + 1 * f 2 1 * 1))) + (-1) * f 0 1 * ((0 + 1 * f 1 0 * (0 + 1 * f 2 2 * 1)) + (-1) * f 1 2 * (0 + 1 * f 2 0 * 1))) + 1 * f 0 2 * ((0 + 1 * f 1 0 * (0 + 1 * f 2 1 * 1)) + (-1) * f 1 1 * (0 + 1 * f 2 0 * 1))) := by kernel_rfl
  have e2 : detK 3 g = (((0 + 1 * g 0 0 * ((0 + 1 * g 1 1 * (0 + 1 * g 2 2 * 1)) + (-1) * g 1 2 * (0 + 1 * g 2 1 * 1))) + (-1) * g 0 1 * ((0 + 1 * g 1 0 * (0 + 1 * g 2 2 * 1)) + (-1) * g 1 2 * (0 + 1 * g 2 0 * 1))) + 1 * g 0 2 * ((0 + 1 * g 1 0 * (0 + 1 * g 2 1 * 1)) + (-1) * g 1 1 * (0 + 1 * g 2 0 * 1))) := by kernel_rfl
  rw [e0, e1, e2]
  clear e0 e1 e2
  generalize f 0 0 = f00
  generalize f 0 1 = f01
  generalize f 0 2 = f02
  generalize f 1 0 = f10
  generalize f 1 1 = f11
  generalize f 1 2 = f12
  generalize f 2 0 = f20
  generalize f 2 1 = f21
  generalize f 2 2 = f22
  generalize g 0 0 = g00
  generalize g 0 1 = g01
  generalize g 0 2 = g02
  generalize g 1 0 = g10
  generalize g 1 1 = g11
  generalize g 1 2 = g12
  generalize g 2 0 = g20
  generalize g 2 1 = g21
  generalize g 2 2 = g22
  grind
def mnK (f : Nat → Nat → K) (a b i j : Nat) : K := f a i * f b j - f a j * f b i
theorem klap4 (f : Nat → Nat → K) : detK 4 f = (1) * mnK f 0 1 0 1 * mnK f 2 3 2 3 + (-1) * mnK f 0 1 0 2 * mnK f 2 3 1 3 + (1) * mnK f 0 1 0 3 * mnK f 2 3 1 2 + (1) * mnK f 0 1 1 2 * mnK f 2 3 0 3 + (-1) * mnK f 0 1 1 3 * mnK f 2 3 0 2 + (1) * mnK f 0 1 2 3 * mnK f 2 3 0 1 := by
  have e0 : detK 4 f = ((((0 + 1 * f 0 0 * (((0 + 1 * f 1 1 * ((0 + 1 * f 2 2 * (0 + 1 * f 3 3 * 1)) + (-1) * f 2 3 * (0 + 1 * f 3 2 * 1))) + (-1) * f 1 2 * ((0 + 1 * f 2 1 * (0 + 1 * f 3 3 * 1)) + (-1) * f 2 3 * (0 + 1 * f 3 1 * 1))) + 1 * f 1 3 * ((0 + 1 * f 2 1 * (0 + 1 * f 3 2 * 1)) + (-1) * f 2 2 * (0 + 1 * f 3 1 * 1)))) + (-1) * f 0 1 * (((0 + 1 * f 1 0 * ((0 + 1 * f 2 2 * (0 + 1 * f 3 3 * 1)) + (-1) * f 2 3 * (0 + 1 * f 3 2 * 1))) + (-1) * f 1 2 * ((0 + 1 * f 2 0 * (0 + 1 * f 3 3 * 1)) + (-1) * f 2 3 * (0 + 1 * f 3 0 * 1))) + 1 * f 1 3 * ((0 + 1 * f 2 0 * (0 + 1 * f 3 2 * 1)) + (-1) * f 2 2 * (0 + 1 * f 3 0 * 1)))) + 1 * f 0 2 * (((0 + 1 * f 1 0 * ((0 + 1 * f 2 1 * (0 + 1 * f 3 3 * 1)) + (-1) * f 2 3 * (0 + 1 * f 3 1 * 1))) + (-1) * f 1 1 * ((0 + 1 * f 2 0 * (0 + 1 * f 3 3 * 1)) + (-1) * f 2 3 * (0 + 1 * f 3 0 * 1))) + 1 * f 1 3 * ((0 + 1 * f 2 0 * (0 + 1 * f 3 1 * 1)) + (-1) * f 2 1 * (0 + 1 * f 3 0 * 1)))) + (-1) * f 0 3 * (((0 + 1 * f 1 0 * ((0 + 1 * f 2 1 * (0 + 1 * f 3 2 * 1)) + (-1) * f 2 2 * (0 + 1 * f 3 1 * 1))) + (-1) * f 1 1 * ((0 + 1 * f 2 0 * (0 + 1 * f 3 2 * 1)) + (-1) * f 2 2 * (0 + 1 * f 3 0 * 1))) + 1 * f 1 2 * ((0 + 1 * f 2 0 * (0 + 1 * f 3 1 * 1)) + (-1) * f 2 1 * (0 + 1 * f 3 0 * 1)))) := by kernel_rfl
  rw [e0]
  clear e0
  unfold mnK
  generalize f 0 0 = f00
  generalize f 0 1 = f01
  generalize f 0 2 = f02
  generalize f 0 3 = f03
  generalize f 1 0 = f10
  generalize f 1 1 = f11
  generalize f 1 2 = f12
  generalize f 1 3 = f13
  generalize f 2 0 = f20
  generalize f 2 1 = f21
  generalize f 2 2 = f22
  generalize f 2 3 = f23
  generalize f 3 0 = f30
  generalize f 3 1 = f31
  generalize f 3 2 = f32
  generalize f 3 3 = f33
  grind
theorem kmm01 (f g : Nat → Nat → K) (i j : Nat) : mnK (mulK 4 f g) 0 1 i j = mnK f 0 1 0 1 * mnK g 0 1 i j + mnK f 0 1 0 2 * mnK g 0 2 i j + mnK f 0 1 0 3 * mnK g 0 3 i j + mnK f 0 1 1 2 * mnK g 1 2 i j + mnK f 0 1 1 3 * mnK g 1 3 i j + mnK f 0 1 2 3 * mnK g 2 3 i j := by
  have e : ∀ a b, mulK 4 f g a b = ((((0 + f a 0 * g 0 b) + f a 1 * g 1 b) + f a 2 * g 2 b) + f a 3 * g 3 b) := fun a b => by kernel_rfl
  unfold mnK
  rw [e, e, e, e]
  clear e
  generalize f 0 0 = f00
  generalize f 0 1 = f01
  generalize f 0 2 = f02
  generalize f 0 3 = f03
  generalize f 1 0 = f10
  generalize f 1 1 = f11
  generalize f 1 2 = f12
  generalize f 1 3 = f13
  generalize g 0 i = u0
  generalize g 0 j = v0
  generalize g 1 i = u1
  generalize g 1 j = v1
  generalize g 2 i = u2
  generalize g 2 j = v2
  generalize g 3 i = u3
  generalize g 3 j = v3
  grind
theorem kmm23 (f g : Nat → Nat → K) (i j : Nat) : mnK (mulK 4 f g) 2 3 i j = mnK f 2 3 0 1 * mnK g 0 1 i j + mnK f 2 3 0 2 * mnK g 0 2 i j + mnK f 2 3 0 3 * mnK g 0 3 i j + mnK f 2 3 1 2 * mnK g 1 2 i j + mnK f 2 3 1 3 * mnK g 1 3 i j + mnK f 2 3 2 3 * mnK g 2 3 i j := by
  have e : ∀ a b, mulK 4 f g a b = ((((0 + f a 0 * g 0 b) + f a 1 * g 1 b) + f a 2 * g 2 b) + f a 3 * g 3 b) := fun a b => by kernel_rfl
  unfold mnK
  rw [e, e, e, e]
  clear e
  generalize f 2 0 = f20
  generalize f 2 1 = f21
  generalize f 2 2 = f22
  generalize f 2 3 = f23
  generalize f 3 0 = f30
  generalize f 3 1 = f31
  generalize f 3 2 = f32
  generalize f 3 3 = f33
  generalize g 0 i = u0
  generalize g 0 j = v0
  generalize g 1 i = u1
  generalize g 1 j = v1
  generalize g 2 i = u2
  generalize g 2 j = v2
  generalize g 3 i = u3
  generalize g 3 j = v3
  grind
theorem ktt0101 (g : Nat → Nat → K) : (1) * mnK g 0 1 0 1 * mnK g 0 1 2 3 + (-1) * mnK g 0 1 0 2 * mnK g 0 1 1 3 + (1) * mnK g 0 1 0 3 * mnK g 0 1 1 2 + (1) * mnK g 0 1 1 2 * mnK g 0 1 0 3 + (-1) * mnK g 0 1 1 3 * mnK g 0 1 0 2 + (1) * mnK g 0 1 2 3 * mnK g 0 1 0 1 = 0 := by
  unfold mnK
  generalize g 0 0 = g00
  generalize g 0 1 = g01
  generalize g 0 2 = g02
  generalize g 0 3 = g03
  generalize g 1 0 = g10
  generalize g 1 1 = g11
  generalize g 1 2 = g12
  generalize g 1 3 = g13
  generalize g 2 0 = g20
  generalize g 2 1 = g21
  generalize g 2 2 = g22
  generalize g 2 3 = g23
  generalize g 3 0 = g30
  generalize g 3 1 = g31
  generalize g 3 2 = g32
  generalize g 3 3 = g33
  grind
theorem ktt0102 (g : Nat → Nat → K) : (1) * mnK g 0 1 0 1 * mnK g 0 2 2 3 + (-1) * mnK g 0 1 0 2 * mnK g 0 2 1 3 + (1) * mnK g 0 1 0 3 * mnK g 0 2 1 2 + (1) * mnK g 0 1 1 2 * mnK g 0 2 0 3 + (-1) * mnK g 0 1 1 3 * mnK g 0 2 0 2 + (1) * mnK g 0 1 2 3 * mnK g 0 2 0 1 = 0 := by
  unfold mnK
  generalize g 0 0 = g00
  generalize g 0 1 = g01
  generalize g 0 2 = g02
  generalize g 0 3 = g03
  generalize g 1 0 = g10
  generalize g 1 1 = g11
  generalize g 1 2 = g12
  generalize g 1 3 = g13
  generalize g 2 0 = g20
  generalize g 2 1 = g21
  generalize g 2 2 = g22
  generalize g 2 3 = g23
  generalize g 3 0 = g30
  generalize g 3 1 = g31
  generalize g 3 2 = g32
  generalize g 3 3 = g33
  grind
theorem ktt0103 (g : Nat → Nat → K) : (1) * mnK g 0 1 0 1 * mnK g 0 3 2 3 + (-1) * mnK g 0 1 0 2 * mnK g 0 3 1 3 + (1) * mnK g 0 1 0 3 * mnK g 0 3 1 2 + (1) * mnK g 0 1 1 2 * mnK g 0 3 0 3 + (-1) * mnK g 0 1 1 3 * mnK g 0 3 0 2 + (1) * mnK g 0 1 2 3 * mnK g 0 3 0 1 = 0 := by
  unfold mnK
  generalize g 0 0 = g00
  generalize g 0 1 = g01
  generalize g 0 2 = g02
  generalize g 0 3 = g03
  generalize g 1 0 = g10
  generalize g 1 1 = g11
  generalize g 1 2 = g12
  generalize g 1 3 = g13
  generalize g 2 0 = g20
  generalize g 2 1 = g21
  generalize g 2 2 = g22
  generalize g 2 3 = g23
  generalize g 3 0 = g30
  generalize g 3 1 = g31
  generalize g 3 2 = g32
  generalize g 3 3 = g33
  grind
theorem ktt0112 (g : Nat → Nat → K) : (1) * mnK g 0 1 0 1 * mnK g 1 2 2 3 + (-1) * mnK g 0 1 0 2 * mnK g 1 2 1 3 + (1) * mnK g 0 1 0 3 * mnK g 1 2 1 2 + (1) * mnK g 0 1 1 2 * mnK g 1 2 0 3 + (-1) * mnK g 0 1 1 3 * mnK g 1 2 0 2 + (1) * mnK g 0 1 2 3 * mnK g 1 2 0 1 = 0 := by
  unfold mnK
  generalize g 0 0 = g00
  generalize g 0 1 = g01
  generalize g 0 2 = g02
  generalize g 0 3 = g03
  generalize g 1 0 = g10
  generalize g 1 1 = g11
  generalize g 1 2 = g12
  generalize g 1 3 = g13
  generalize g 2 0 = g20
  generalize g 2 1 = g21
  generalize g 2 2 = g22
  generalize g 2 3 = g23
  generalize g 3 0 = g30
  generalize g 3 1 = g31
  generalize g 3 2 = g32
  generalize g 3 3 = g33
  grind
theorem ktt0113 (g : Nat → Nat → K) : (1) * mnK g 0 1 0 1 * mnK g 1 3 2 3 + (-1) * mnK g 0 1 0 2 * mnK g 1 3 1 3 + (1) * mnK g 0 1 0 3 * mnK g 1 3 1 2 + (1) * mnK g 0 1 1 2 * mnK g 1 3 0 3 + (-1) * mnK g 0 1 1 3 * mnK g 1 3 0 2 + (1) * mnK g 0 1 2 3 * mnK g 1 3 0 1 = 0 := by
  unfold mnK
  generalize g 0 0 = g00
  generalize g 0 1 = g01
  generalize g 0 2 = g02
  generalize g 0 3 = g03
  generalize g 1 0 = g10
  generalize g 1 1 = g11
  generalize g 1 2 = g12
  generalize g 1 3 = g13
  generalize g 2 0 = g20
  generalize g 2 1 = g21
  generalize g 2 2 = g22
  generalize g 2 3 = g23
  generalize g 3 0 = g30
  generalize g 3 1 = g31
  generalize g 3 2 = g32
  generalize g 3 3 = g33
  grind
theorem ktt0123 (g : Nat → Nat → K) : (1) * mnK g 0 1 0 1 * mnK g 2 3 2 3 + (-1) * mnK g 0 1 0 2 * mnK g 2 3 1 3 + (1) * mnK g 0 1 0 3 * mnK g 2 3 1 2 + (1) * mnK g 0 1 1 2 * mnK g 2 3 0 3 + (-1) * mnK g 0 1 1 3 * mnK g 2 3 0 2 + (1) * mnK g 0 1 2 3 * mnK g 2 3 0 1 = (1) * detK 4 g := by
  have e0 : detK 4 g = ((((0 + 1 * g 0 0 * (((0 + 1 * g 1 1 * ((0 + 1 * g 2 2 * (0 + 1 * g 3 3 * 1)) + (-1) * g 2 3 * (0 + 1 * g 3 2 * 1))) + (-1) * g 1 2 * ((0 + 1 * g 2 1 * (0 + 1 * g 3 3 * 1)) + (-1) * g 2 3 * (0 + 1 * g 3 1 * 1))) + 1 * g 1 3 * ((0 + 1 * g 2 1 * (0 + 1 * g 3 2 * 1)) + (-1) * g 2 2 * (0 + 1 * g 3 1 * 1)))) + (-1) * g 0 1 * (((0 + 1 * g 1 0 * ((0 + 1 * g 2 2 * (0 + 1 * g 3 3 * 1)) + (-1) * g 2 3 * (0 + 1 * g 3 2 * 1))) + (-1) * g 1 2 * ((0 + 1 * g 2 0 * (0 + 1 * g 3 3 * 1)) + (-1) * g 2 3 * (0 + 1 * g 3 0 * 1))) + 1 * g 1 3 * ((0 + 1 * g 2 0 * (0 + 1 * g 3 2 * 1)) + (-1) * g 2 2 * (0 + 1 * g 3 0 * 1)))) + 1 * g 0 2 * (((0 + 1 * g 1 0 * ((0 + 1 * g 2 1 * (0 + 1 * g 3 3 * 1)) + (-1) * g 2 3 * (0 + 1 * g 3 1 * 1))) + (-1) * g 1 1 * ((0 + 1 * g 2 0 * (0 + 1 * g 3 3 * 1)) + (-1) * g 2 3 * (0 + 1 * g 3 0 * 1))) + 1 * g 1 3 * ((0 + 1 * g 2 0 * (0 + 1 * g 3 1 * 1)) + (-1) * g 2 1 * (0 + 1 * g 3 0 * 1)))) + (-1) * g 0 3 * (((0 + 1 * g 1 0 * ((0 + 1 * g 2 1 * (0 + 1 * g 3 2 * 1)) + (-1) * g 2 2 * (0 + 1 * g 3 1 * 1))) + (-1) * g 1 1 * ((0 + 1 * g 2 0 * (0 + 1 * g 3 2 * 1)) + (-1) * g 2 2 * (0 + 1 * g 3 0 * 1))) + 1 * g 1 2 * ((0 + 1 * g 2 0 * (0 + 1 * g 3 1 * 1)) + (-1) * g 2 1 * (0 + 1 * g 3 0 * 1)))) := by kernel_rfl
  rw [e0]
  clear e0
  unfold mnK
  generalize g 0 0 = g00
  generalize g 0 1 = g01
  generalize g 0 2 = g02
  generalize g 0 3 = g03
  generalize g 1 0 = g10
  generalize g 1 1 = g11
  generalize g 1 2 = g12
  generalize g 1 3 = g13
  generalize g 2 0 = g20
  generalize g 2 1 = g21
  generalize g 2 2 = g22
  generalize g 2 3 = g23
  generalize g 3 0 = g30
  generalize g 3 1 = g31
  generalize g 3 2 = g32
  generalize g 3 3 = g33
  grind
theorem ktt0201 (g : Nat → Nat → K) : (1) * mnK g 0 2 0 1 * mnK g 0 1 2 3 + (-1) * mnK g 0 2 0 2 * mnK g 0 1 1 3 + (1) * mnK g 0 2 0 3 * mnK g 0 1 1 2 + (1) * mnK g 0 2 1 2 * mnK g 0 1 0 3 + (-1) * mnK g 0 2 1 3 * mnK g 0 1 0 2 + (1) * mnK g 0 2 2 3 * mnK g 0 1 0 1 = 0 := by
  unfold mnK
  generalize g 0 0 = g00
  generalize g 0 1 = g01
  generalize g 0 2 = g02
  generalize g 0 3 = g03
  generalize g 1 0 = g10
  generalize g 1 1 = g11
  generalize g 1 2 = g12
  generalize g 1 3 = g13
  generalize g 2 0 = g20
  generalize g 2 1 = g21
  generalize g 2 2 = g22
  generalize g 2 3 = g23
  generalize g 3 0 = g30
  generalize g 3 1 = g31
  generalize g 3 2 = g32
  generalize g 3 3 = g33
  grind
theorem ktt0202 (g : Nat → Nat → K) : (1) * mnK g 0 2 0 1 * mnK g 0 2 2 3 + (-1) * mnK g 0 2 0 2 * mnK g 0 2 1 3 + (1) * mnK g 0 2 0 3 * mnK g 0 2 1 2 + (1) * mnK g 0 2 1 2 * mnK g 0 2 0 3 + (-1) * mnK g 0 2 1 3 * mnK g 0 2 0 2 + (1) * mnK g 0 2 2 3 * mnK g 0 2 0 1 = 0 := by
  unfold mnK
  generalize g 0 0 = g00
  generalize g 0 1 = g01
  generalize g 0 2 = g02
  generalize g 0 3 = g03
  generalize g 1 0 = g10
  generalize g 1 1 = g11
  generalize g 1 2 = g12
  generalize g 1 3 = g13
  generalize g 2 0 = g20
  generalize g 2 1 = g21
  generalize g 2 2 = g22
  generalize g 2 3 = g23
  generalize g 3 0 = g30
  generalize g 3 1 = g31
  generalize g 3 2 = g32
  generalize g 3 3 = g33
  grind
theorem ktt0203 (g : Nat → Nat → K) : (1) * mnK g 0 2 0 1 * mnK g 0 3 2 3 + (-1) * mnK g 0 2 0 2 * mnK g 0 3 1 3 + (1) * mnK g 0 2 0 3 * mnK g 0 3 1 2 + (1) * mnK g 0 2 1 2 * mnK g 0 3 0 3 + (-1) * mnK g 0 2 1 3 * mnK g 0 3 0 2 + (1) * mnK g 0 2 2 3 * mnK g 0 3 0 1 = 0 := by
  unfold mnK
  generalize g 0 0 = g00
  generalize g 0 1 = g01
  generalize g 0 2 = g02
  generalize g 0 3 = g03
  generalize g 1 0 = g10
  generalize g 1 1 = g11
  generalize g 1 2 = g12
  generalize g 1 3 = g13
  generalize g 2 0 = g20
  generalize g 2 1 = g21
  generalize g 2 2 = g22
  generalize g 2 3 = g23
  generalize g 3 0 = g30
  generalize g 3 1 = g31
  generalize g 3 2 = g32
  generalize g 3 3 = g33
  grind
theorem ktt0212 (g : Nat → Nat → K) : (1) * mnK g 0 2 0 1 * mnK g 1 2 2 3 + (-1) * mnK g 0 2 0 2 * mnK g 1 2 1 3 + (1) * mnK g 0 2 0 3 * mnK g 1 2 1 2 + (1) * mnK g 0 2 1 2 * mnK g 1 2 0 3 + (-1) * mnK g 0 2 1 3 * mnK g 1 2 0 2 + (1) * mnK g 0 2 2 3 * mnK g 1 2 0 1 = 0 := by
  unfold mnK
  generalize g 0 0 = g00
  generalize g 0 1 = g01
  generalize g 0 2 = g02
  generalize g 0 3 = g03
  generalize g 1 0 = g10
  generalize g 1 1 = g11
  generalize g 1 2 = g12
  generalize g 1 3 = g13
  generalize g 2 0 = g20
  generalize g 2 1 = g21
  generalize g 2 2 = g22
  generalize g 2 3 = g23
  generalize g 3 0 = g30
  generalize g 3 1 = g31
  generalize g 3 2 = g32
  generalize g 3 3 = g33
  grind
theorem ktt0213 (g : Nat → Nat → K) : (1) * mnK g 0 2 0 1 * mnK g 1 3 2 3 + (-1) * mnK g 0 2 0 2 * mnK g 1 3 1 3 + (1) * mnK g 0 2 0 3 * mnK g 1 3 1 2 + (1) * mnK g 0 2 1 2 * mnK g 1 3 0 3 + (-1) * mnK g 0 2 1 3 * mnK g 1 3 0 2 + (1) * mnK g 0 2 2 3 * mnK g 1 3 0 1 = (-1) * detK 4 g := by
  have e0 : detK 4 g = ((((0 + 1 * g 0 0 * (((0 + 1 * g 1 1 * ((0 + 1 * g 2 2 * (0 + 1 * g 3 3 * 1)) + (-1) * g 2 3 * (0 + 1 * g 3 2 * 1))) + (-1) * g 1 2 * ((0 + 1 * g 2 1 * (0 + 1 * g 3 3 * 1)) + (-1) * g 2 3 * (0 + 1 * g 3 1 * 1))) + 1 * g 1 3 * ((0 + 1 * g 2 1 * (0 + 1 * g 3 2 * 1)) + (-1) * g 2 2 * (0 + 1 * g 3 1 * 1)))) + (-1) * g 0 1 * (((0 + 1 * g 1 0 * ((0 + 1 * g 2 2 * (0 + 1 * g 3 3 * 1)) + (-1) * g 2 3 * (0 + 1 * g 3 2 * 1))) + (-1) * g 1 2 * ((0 + 1 * g 2 0 * (0 + 1 * g 3 3 * 1)) + (-1) * g 2 3 * (0 + 1 * g 3 0 * 1))) + 1 * g 1 3 * ((0 + 1 * g 2 0 * (0 + 1 * g 3 2 * 1)) + (-1) * g 2 2 * (0 + 1 * g 3 0 * 1)))) + 1 * g 0 2 * (((0 + 1 * g 1 0 * ((0 + 1 * g 2 1 * (0 + 1 * g 3 3 * 1)) + (-1) * g 2 3 * (0 + 1 * g 3 1 * 1))) + (-1) * g 1 1 * ((0 + 1 * g 2 0 * (0 + 1 * g 3 3 * 1)) + (-1) * g 2 3 * (0 + 1 * g 3 0 * 1))) + 1 * g 1 3 * ((0 + 1 * g 2 0 * (0 + 1 * g 3 1 * 1)) + (-1) * g 2 1 * (0 + 1 * g 3 0 * 1)))) + (-1) * g 0 3 * (((0 + 1 * g 1 0 * ((0 + 1 * g 2 1 * (0 + 1 * g 3 2 * 1)) + (-1) * g 2 2 * (0 + 1 * g 3 1 * 1))) + (-1) * g 1 1 * ((0 + 1 * g 2 0 * (0 + 1 * g 3 2 * 1)) + (-1) * g 2 2 * (0 + 1 * g 3 0 * 1))) + 1 * g 1 2 * ((0 + 1 * g 2 0 * (0 + 1 * g 3 1 * 1)) + (-1) * g 2 1 * (0 + 1 * g 3 0 * 1)))) := by kernel_rfl
  rw [e0]
  clear e0
  unfold mnK
  generalize g 0 0 = g00
  generalize g 0 1 = g01
  generalize g 0 2 = g02
  generalize g 0 3 = g03
  generalize g 1 0 = g10
  generalize g 1 1 = g11
  generalize g 1 2 = g12
  generalize g 1 3 = g13
  generalize g 2 0 = g20
  generalize g 2 1 = g21
  generalize g 2 2 = g22
  generalize g 2 3 = g23
  generalize g 3 0 = g30
  generalize g 3 1 = g31
  generalize g 3 2 = g32
  generalize g 3 3 = g33
  grind
theorem ktt0223 (g : Nat → Nat → K) : (1) * mnK g 0 2 0 1 * mnK g 2 3 2 3 + (-1) * mnK g 0 2 0 2 * mnK g 2 3 1 3 + (1) * mnK g 0 2 0 3 * mnK g 2 3 1 2 + (1) * mnK g 0 2 1 2 * mnK g 2 3 0 3 + (-1) * mnK g 0 2 1 3 * mnK g 2 3 0 2 + (1) * mnK g 0 2 2 3 * mnK g 2 3 0 1 = 0 := by
  unfold mnK
  generalize g 0 0 = g00
  generalize g 0 1 = g01
  generalize g 0 2 = g02
  generalize g 0 3 = g03
  generalize g 1 0 = g10
  generalize g 1 1 = g11
  generalize g 1 2 = g12
  generalize g 1 3 = g13
  generalize g 2 0 = g20
  generalize g 2 1 = g21
  generalize g 2 2 = g22
  generalize g 2 3 = g23
  generalize g 3 0 = g30
  generalize g 3 1 = g31
  generalize g 3 2 = g32
  generalize g 3 3 = g33
  grind
theorem ktt0301 (g : Nat → Nat → K) : (1) * mnK g 0 3 0 1 * mnK g 0 1 2 3 + (-1) * mnK g 0 3 0 2 * mnK g 0 1 1 3 + (1) * mnK g 0 3 0 3 * mnK g 0 1 1 2 + (1) * mnK g 0 3 1 2 * mnK g 0 1 0 3 + (-1) * mnK g 0 3 1 3 * mnK g 0 1 0 2 + (1) * mnK g 0 3 2 3 * mnK g 0 1 0 1 = 0 := by
  unfold mnK
  generalize g 0 0 = g00
  generalize g 0 1 = g01
  generalize g 0 2 = g02
  generalize g 0 3 = g03
  generalize g 1 0 = g10
  generalize g 1 1 = g11
  generalize g 1 2 = g12
  generalize g 1 3 = g13
  generalize g 2 0 = g20
  generalize g 2 1 = g21
  generalize g 2 2 = g22
  generalize g 2 3 = g23
  generalize g 3 0 = g30
  generalize g 3 1 = g31
  generalize g 3 2 = g32
  generalize g 3 3 = g33
  grind
theorem ktt0302 (g : Nat → Nat → K) : (1) * mnK g 0 3 0 1 * mnK g 0 2 2 3 + (-1) * mnK g 0 3 0 2 * mnK g 0 2 1 3 + (1) * mnK g 0 3 0 3 * mnK g 0 2 1 2 + (1) * mnK g 0 3 1 2 * mnK g 0 2 0 3 + (-1) * mnK g 0 3 1 3 * mnK g 0 2 0 2 + (1) * mnK g 0 3 2 3 * mnK g 0 2 0 1 = 0 := by
  unfold mnK
  generalize g 0 0 = g00
  generalize g 0 1 = g01
  generalize g 0 2 = g02
  generalize g 0 3 = g03
  generalize g 1 0 = g10
  generalize g 1 1 = g11
  generalize g 1 2 = g12
  generalize g 1 3 = g13
  generalize g 2 0 = g20
  generalize g 2 1 = g21
  generalize g 2 2 = g22
  generalize g 2 3 = g23
  generalize g 3 0 = g30
  generalize g 3 1 = g31
  generalize g 3 2 = g32
  generalize g 3 3 = g33
  grind
theorem ktt0303 (g : Nat → Nat → K) : (1) * mnK g 0 3 0 1 * mnK g 0 3 2 3 + (-1) * mnK g 0 3 0 2 * mnK g 0 3 1 3 + (1) * mnK g 0 3 0 3 * mnK g 0 3 1 2 + (1) * mnK g 0 3 1 2 * mnK g 0 3 0 3 + (-1) * mnK g 0 3 1 3 * mnK g 0 3 0 2 + (1) * mnK g 0 3 2 3 * mnK g 0 3 0 1 = 0 := by
  unfold mnK
  generalize g 0 0 = g00
  generalize g 0 1 = g01
  generalize g 0 2 = g02
  generalize g 0 3 = g03
  generalize g 1 0 = g10
  generalize g 1 1 = g11
  generalize g 1 2 = g12
  generalize g 1 3 = g13
  generalize g 2 0 = g20
  generalize g 2 1 = g21
  generalize g 2 2 = g22
  generalize g 2 3 = g23
  generalize g 3 0 = g30
  generalize g 3 1 = g31
  generalize g 3 2 = g32
  generalize g 3 3 = g33
  grind
theorem ktt0312 (g : Nat → Nat → K) : (1) * mnK g 0 3 0 1 * mnK g 1 2 2 3 + (-1) * mnK g 0 3 0 2 * mnK g 1 2 1 3 + (1) * mnK g 0 3 0 3 * mnK g 1 2 1 2 + (1) * mnK g 0 3 1 2 * mnK g 1 2 0 3 + (-1) * mnK g 0 3 1 3 * mnK g 1 2 0 2 + (1) * mnK g 0 3 2 3 * mnK g 1 2 0 1 = (1) * detK 4 g := by
  have e0 : detK 4 g = ((((0 + 1 * g 0 0 * (((0 + 1 * g 1 1 * ((0 + 1 * g 2 2 * (0 + 1 * g 3 3 * 1)) + (-1) * g 2 3 * (0 + 1 * g 3 2 * 1))) + (-1) * g 1 2 * ((0 + 1 * g 2 1 * (0 + 1 * g 3 3 * 1)) + (-1) * g 2 3 * (0 + 1 * g 3 1 * 1))) + 1 * g 1 3 * ((0 + 1 * g 2 1 * (0 + 1 * g 3 2 * 1)) + (-1) * g 2 2 * (0 + 1 * g 3 1 * 1)))) + (-1) * g 0 1 * (((0 + 1 * g 1 0 * ((0 + 1 * g 2 2 * (0 + 1 * g 3 3 * 1)) + (-1) * g 2 3 * (0 + 1 * g 3 2 * 1))) + (-1) * g 1 2 * ((0 + 1 * g 2 0 * (0 + 1 * g 3 3 * 1)) + (-1) * g 2 3 * (0 + 1 * g 3 0 * 1))) + 1 * g 1 3 * ((0 + 1 * g 2 0 * (0 + 1 * g 3 2 * 1)) + (-1) * g 2 2 * (0 + 1 * g 3 0 * 1)))) + 1 * g 0 2 * (((0 + 1 * g 1 0 * ((0 + 1 * g 2 1 * (0 + 1 * g 3 3 * 1)) + (-1) * g 2 3 * (0 + 1 * g 3 1 * 1))) + (-1) * g 1 1 * ((0 + 1 * g 2 0 * (0 + 1 * g 3 3 * 1)) + (-1) * g 2 3 * (0 + 1 * g 3 0 * 1))) + 1 * g 1 3 * ((0 + 1 * g 2 0 * (0 + 1 * g 3 1 * 1)) + (-1) * g 2 1 * (0 + 1 * g 3 0 * 1)))) + (-1) * g 0 3 * (((0 + 1 * g 1 0 * ((0 + 1 * g 2 1 * (0 + 1 * g 3 2 * 1)) + (-1) * g 2 2 * (0 + 1 * g 3 1 * 1))) + (-1) * g 1 1 * ((0 + 1 * g 2 0 * (0 + 1 * g 3 2 * 1)) + (-1) * g 2 2 * (0 + 1 * g 3 0 * 1))) + 1 * g 1 2 * ((0 + 1 * g 2 0 * (0 + 1 * g 3 1 * 1)) + (-1) * g 2 1 * (0 + 1 * g 3 0 * 1)))) := by kernel_rfl
  rw [e0]
  clear e0
  unfold mnK
  generalize g 0 0 = g00
  generalize g 0 1 = g01
  generalize g 0 2 = g02
  generalize g 0 3 = g03
  generalize g 1 0 = g10
  generalize g 1 1 = g11
  generalize g 1 2 = g12
  generalize g 1 3 = g13
  generalize g 2 0 = g20
  generalize g 2 1 = g21
  generalize g 2 2 = g22
  generalize g 2 3 = g23
  generalize g 3 0 = g30
  generalize g 3 1 = g31
  generalize g 3 2 = g32
  generalize g 3 3 = g33
  grind
theorem ktt0313 (g : Nat → Nat → K) : (1) * mnK g 0 3 0 1 * mnK g 1 3 2 3 + (-1) * mnK g 0 3 0 2 * mnK g 1 3 1 3 + (1) * mnK g 0 3 0 3 * mnK g 1 3 1 2 + (1) * mnK g 0 3 1 2 * mnK g 1 3 0 3 + (-1) * mnK g 0 3 1 3 * mnK g 1 3 0 2 + (1) * mnK g 0 3 2 3 * mnK g 1 3 0 1 = 0 := by
  unfold mnK
  generalize g 0 0 = g00
  generalize g 0 1 = g01
  generalize g 0 2 = g02
  generalize g 0 3 = g03
  generalize g 1 0 = g10
  generalize g 1 1 = g11
  generalize g 1 2 = g12
  generalize g 1 3 = g13
  generalize g 2 0 = g20
  generalize g 2 1 = g21
  generalize g 2 2 = g22
  generalize g 2 3 = g23
  generalize g 3 0 = g30
  generalize g 3 1 = g31
  generalize g 3 2 = g32
  generalize g 3 3 = g33
  grind
theorem ktt0323 (g : Nat → Nat → K) : (1) * mnK g 0 3 0 1 * mnK g 2 3 2 3 + (-1) * mnK g 0 3 0 2 * mnK g 2 3 1 3 + (1) * mnK g 0 3 0 3 * mnK g 2 3 1 2 + (1) * mnK g 0 3 1 2 * mnK g 2 3 0 3 + (-1) * mnK g 0 3 1 3 * mnK g 2 3 0 2 + (1) * mnK g 0 3 2 3 * mnK g 2 3 0 1 = 0 := by
  unfold mnK
  generalize g 0 0 = g00
  generalize g 0 1 = g01
  generalize g 0 2 = g02
  generalize g 0 3 = g03
  generalize g 1 0 = g10
  generalize g 1 1 = g11
  generalize g 1 2 = g12
  generalize g 1 3 = g13
  generalize g 2 0 = g20
  generalize g 2 1 = g21
  generalize g 2 2 = g22
  generalize g 2 3 = g23
  generalize g 3 0 = g30
  generalize g 3 1 = g31
  generalize g 3 2 = g32
  generalize g 3 3 = g33
  grind
theorem ktt1201 (g : Nat → Nat → K) : (1) * mnK g 1 2 0 1 * mnK g 0 1 2 3 + (-1) * mnK g 1 2 0 2 * mnK g 0 1 1 3 + (1) * mnK g 1 2 0 3 * mnK g 0 1 1 2 + (1) * mnK g 1 2 1 2 * mnK g 0 1 0 3 + (-1) * mnK g 1 2 1 3 * mnK g 0 1 0 2 + (1) * mnK g 1 2 2 3 * mnK g 0 1 0 1 = 0 := by
  unfold mnK
  generalize g 0 0 = g00
  generalize g 0 1 = g01
  generalize g 0 2 = g02
  generalize g 0 3 = g03
  generalize g 1 0 = g10
  generalize g 1 1 = g11
  generalize g 1 2 = g12
  generalize g 1 3 = g13
  generalize g 2 0 = g20
  generalize g 2 1 = g21
  generalize g 2 2 = g22
  generalize g 2 3 = g23
  generalize g 3 0 = g30
  generalize g 3 1 = g31
  generalize g 3 2 = g32
  generalize g 3 3 = g33
  grind
theorem ktt1202 (g : Nat → Nat → K) : (1) * mnK g 1 2 0 1 * mnK g 0 2 2 3 + (-1) * mnK g 1 2 0 2 * mnK g 0 2 1 3 + (1) * mnK g 1 2 0 3 * mnK g 0 2 1 2 + (1) * mnK g 1 2 1 2 * mnK g 0 2 0 3 + (-1) * mnK g 1 2 1 3 * mnK g 0 2 0 2 + (1) * mnK g 1 2 2 3 * mnK g 0 2 0 1 = 0 := by
  unfold mnK
  generalize g 0 0 = g00
  generalize g 0 1 = g01
  generalize g 0 2 = g02
  generalize g 0 3 = g03
  generalize g 1 0 = g10
  generalize g 1 1 = g11
  generalize g 1 2 = g12
  generalize g 1 3 = g13
  generalize g 2 0 = g20
  generalize g 2 1 = g21
  generalize g 2 2 = g22
  generalize g 2 3 = g23
  generalize g 3 0 = g30
  generalize g 3 1 = g31
  generalize g 3 2 = g32
  generalize g 3 3 = g33
  grind
theorem ktt1203 (g : Nat → Nat → K) : (1) * mnK g 1 2 0 1 * mnK g 0 3 2 3 + (-1) * mnK g 1 2 0 2 * mnK g 0 3 1 3 + (1) * mnK g 1 2 0 3 * mnK g 0 3 1 2 + (1) * mnK g 1 2 1 2 * mnK g 0 3 0 3 + (-1) * mnK g 1 2 1 3 * mnK g 0 3 0 2 + (1) * mnK g 1 2 2 3 * mnK g 0 3 0 1 = (1) * detK 4 g := by
  have e0 : detK 4 g = ((((0 + 1 * g 0 0 * (((0 + 1 * g 1 1 * ((0 + 1 * g 2 2 * (0 + 1 * g 3 3 * 1)) + (-1) * g 2 3 * (0 + 1 * g 3 2 * 1))) + (-1) * g 1 2 * ((0 + 1 * g 2 1 * (0 + 1 * g 3 3 * 1)) + (-1) * g 2 3 * (0 + 1 * g 3 1 * 1))) + 1 * g 1 3 * ((0 + 1 * g 2 1 * (0 + 1 * g 3 2 * 1)) + (-1) * g 2 2 * (0 + 1 * g 3 1 * 1)))) + (-1) * g 0 1 * (((0 + 1 * g 1 0 * ((0 + 1 * g 2 2 * (0 + 1 * g 3 3 * 1)) + (-1) * g 2 3 * (0 + 1 * g 3 2 * 1))) + (-1) * g 1 2 * ((0 + 1 * g 2 0 * (0 + 1 * g 3 3 * 1)) + (-1) * g 2 3 * (0 + 1 * g 3 0 * 1))) + 1 * g 1 3 * ((0 + 1 * g 2 0 * (0 + 1 * g 3 2 * 1)) + (-1) * g 2 2 * (0 + 1 * g 3 0 * 1)))) + 1 * g 0 2 * (((0 + 1 * g 1 0 * ((0 + 1 * g 2 1 * (0 + 1 * g 3 3 * 1)) + (-1) * g 2 3 * (0 + 1 * g 3 1 * 1))) + (-1) * g 1 1 * ((0 + 1 * g 2 0 * (0 + 1 * g 3 3 * 1)) + (-1) * g 2 3 * (0 + 1 * g 3 0 * 1))) + 1 * g 1 3 * ((0 + 1 * g 2 0 * (0 + 1 * g 3 1 * 1)) + (-1) * g 2 1 * (0 + 1 * g 3 0 * 1)))) + (-1) * g 0 3 * (((0 + 1 * g 1 0 * ((0 + 1 * g 2 1 * (0 + 1 * g 3 2 * 1)) + (-1) * g 2 2 * (0 + 1 * g 3 1 * 1))) + (-1) * g 1 1 * ((0 + 1 * g 2 0 * (0 + 1 * g 3 2 * 1)) + (-1) * g 2 2 * (0 + 1 * g 3 0 * 1))) + 1 * g 1 2 * ((0 + 1 * g 2 0 * (0 + 1 * g 3 1 * 1)) + (-1) * g 2 1 * (0 + 1 * g 3 0 * 1)))) := by kernel_rfl
  rw [e0]
  clear e0
  unfold mnK
  generalize g 0 0 = g00
  generalize g 0 1 = g01
  generalize g 0 2 = g02
  generalize g 0 3 = g03
  generalize g 1 0 = g10
  generalize g 1 1 = g11
  generalize g 1 2 = g12
  generalize g 1 3 = g13
  generalize g 2 0 = g20
  generalize g 2 1 = g21
  generalize g 2 2 = g22
  generalize g 2 3 = g23
  generalize g 3 0 = g30
  generalize g 3 1 = g31
  generalize g 3 2 = g32
  generalize g 3 3 = g33
  grind
theorem ktt1212 (g : Nat → Nat → K) : (1) * mnK g 1 2 0 1 * mnK g 1 2 2 3 + (-1) * mnK g 1 2 0 2 * mnK g 1 2 1 3 + (1) * mnK g 1 2 0 3 * mnK g 1 2 1 2 + (1) * mnK g 1 2 1 2 * mnK g 1 2 0 3 + (-1) * mnK g 1 2 1 3 * mnK g 1 2 0 2 + (1) * mnK g 1 2 2 3 * mnK g 1 2 0 1 = 0 := by
  unfold mnK
  generalize g 0 0 = g00
  generalize g 0 1 = g01
  generalize g 0 2 = g02
  generalize g 0 3 = g03
  generalize g 1 0 = g10
  generalize g 1 1 = g11
  generalize g 1 2 = g12
  generalize g 1 3 = g13
  generalize g 2 0 = g20
  generalize g 2 1 = g21
  generalize g 2 2 = g22
  generalize g 2 3 = g23
  generalize g 3 0 = g30
  generalize g 3 1 = g31
  generalize g 3 2 = g32
  generalize g 3 3 = g33
  grind
theorem ktt1213 (g : Nat → Nat → K) : (1) * mnK g 1 2 0 1 * mnK g 1 3 2 3 + (-1) * mnK g 1 2 0 2 * mnK g 1 3 1 3 + (1) * mnK g 1 2 0 3 * mnK g 1 3 1 2 + (1) * mnK g 1 2 1 2 * mnK g 1 3 0 3 + (-1) * mnK g 1 2 1 3 * mnK g 1 3 0 2 + (1) * mnK g 1 2 2 3 * mnK g 1 3 0 1 = 0 := by
  unfold mnK
  generalize g 0 0 = g00
  generalize g 0 1 = g01
  generalize g 0 2 = g02
  generalize g 0 3 = g03
  generalize g 1 0 = g10
  generalize g 1 1 = g11
  generalize g 1 2 = g12
  generalize g 1 3 = g13
  generalize g 2 0 = g20
  generalize g 2 1 = g21
  generalize g 2 2 = g22
  generalize g 2 3 = g23
  generalize g 3 0 = g30
  generalize g 3 1 = g31
  generalize g 3 2 = g32
  generalize g 3 3 = g33
  grind
theorem ktt1223 (g : Nat → Nat → K) : (1) * mnK g 1 2 0 1 * mnK g 2 3 2 3 + (-1) * mnK g 1 2 0 2 * mnK g 2 3 1 3 + (1) * mnK g 1 2 0 3 * mnK g 2 3 1 2 + (1) * mnK g 1 2 1 2 * mnK g 2 3 0 3 + (-1) * mnK g 1 2 1 3 * mnK g 2 3 0 2 + (1) * mnK g 1 2 2 3 * mnK g 2 3 0 1 = 0 := by
  unfold mnK
  generalize g 0 0 = g00
  generalize g 0 1 = g01
  generalize g 0 2 = g02
  generalize g 0 3 = g03
  generalize g 1 0 = g10
  generalize g 1 1 = g11
  generalize g 1 2 = g12
  generalize g 1 3 = g13
  generalize g 2 0 = g20
  generalize g 2 1 = g21
  generalize g 2 2 = g22
  generalize g 2 3 = g23
  generalize g 3 0 = g30
  generalize g 3 1 = g31
  generalize g 3 2 = g32
  generalize g 3 3 = g33
  grind
theorem ktt1301 (g : Nat → Nat → K) : (1) * mnK g 1 3 0 1 * mnK g 0 1 2 3 + (-1) * mnK g 1 3 0 2 * mnK g 0 1 1 3 + (1) * mnK g 1 3 0 3 * mnK g 0 1 1 2 + (1) * mnK g 1 3 1 2 * mnK g 0 1 0 3 + (-1) * mnK g 1 3 1 3 * mnK g 0 1 0 2 + (1) * mnK g 1 3 2 3 * mnK g 0 1 0 1 = 0 := by
  unfold mnK
  generalize g 0 0 = g00
  generalize g 0 1 = g01
  generalize g 0 2 = g02
  generalize g 0 3 = g03
  generalize g 1 0 = g10
  generalize g 1 1 = g11
  generalize g 1 2 = g12
  generalize g 1 3 = g13
  generalize g 2 0 = g20
  generalize g 2 1 = g21
  generalize g 2 2 = g22
  generalize g 2 3 = g23
  generalize g 3 0 = g30
  generalize g 3 1 = g31
  generalize g 3 2 = g32
  generalize g 3 3 = g33
  grind
theorem ktt1302 (g : Nat → Nat → K) : (1) * mnK g 1 3 0 1 * mnK g 0 2 2 3 + (-1) * mnK g 1 3 0 2 * mnK g 0 2 1 3 + (1) * mnK g 1 3 0 3 * mnK g 0 2 1 2 + (1) * mnK g 1 3 1 2 * mnK g 0 2 0 3 + (-1) * mnK g 1 3 1 3 * mnK g 0 2 0 2 + (1) * mnK g 1 3 2 3 * mnK g 0 2 0 1 = (-1) * detK 4 g := by
  have e0 : detK 4 g = ((((0 + 1 * g 0 0 * (((0 + 1 * g 1 1 * ((0 + 1 * g 2 2 * (0 + 1 * g 3 3 * 1)) + (-1) * g 2 3 * (0 + 1 * g 3 2 * 1))) + (-1) * g 1 2 * ((0 + 1 * g 2 1 * (0 + 1 * g 3 3 * 1)) + (-1) * g 2 3 * (0 + 1 * g 3 1 * 1))) + 1 * g 1 3 * ((0 + 1 * g 2 1 * (0 + 1 * g 3 2 * 1)) + (-1) * g 2 2 * (0 + 1 * g 3 1 * 1)))) + (-1) * g 0 1 * (((0 + 1 * g 1 0 * ((0 + 1 * g 2 2 * (0 + 1 * g 3 3 * 1)) + (-1) * g 2 3 * (0 + 1 * g 3 2 * 1))) + (-1) * g 1 2 * ((0 + 1 * g 2 0 * (0 + 1 * g 3 3 * 1)) + (-1) * g 2 3 * (0 + 1 * g 3 0 * 1))) + 1 * g 1 3 * ((0 + 1 * g 2 0 * (0 + 1 * g 3 2 * 1)) + (-1) * g 2 2 * (0 + 1 * g 3 0 * 1)))) + 1 * g 0 2 * (((0 + 1 * g 1 0 * ((0 + 1 * g 2 1 * (0 + 1 * g 3 3 * 1)) + (-1) * g 2 3 * (0 + 1 * g 3 1 * 1))) + (-1) * g 1 1 * ((0 + 1 * g 2 0 * (0 + 1 * g 3 3 * 1)) + (-1) * g 2 3 * (0 + 1 * g 3 0 * 1))) + 1 * g 1 3 * ((0 + 1 * g 2 0 * (0 + 1 * g 3 1 * 1)) + (-1) * g 2 1 * (0 + 1 * g 3 0 * 1)))) + (-1) * g 0 3 * (((0 + 1 * g 1 0 * ((0 + 1 * g 2 1 * (0 + 1 * g 3 2 * 1)) + (-1) * g 2 2 * (0 + 1 * g 3 1 * 1))) + (-1) * g 1 1 * ((0 + 1 * g 2 0 * (0 + 1 * g 3 2 * 1)) + (-1) * g 2 2 * (0 + 1 * g 3 0 * 1))) + 1 * g 1 2 * ((0 + 1 * g 2 0 * (0 + 1 * g 3 1 * 1)) + (-1) * g 2 1 * (0 + 1 * g 3 0 * 1)))) := by kernel_rfl
  rw [e0]
  clear e0
  unfold mnK
  generalize g 0 0 = g00
  generalize g 0 1 = g01
  generalize g 0 2 = g02
  generalize g 0 3 = g03
  generalize g 1 0 = g10
  generalize g 1 1 = g11
  generalize g 1 2 = g12
  generalize g 1 3 = g13
  generalize g 2 0 = g20
  generalize g 2 1 = g21
  generalize g 2 2 = g22
  generalize g 2 3 = g23
  generalize g 3 0 = g30
  generalize g 3 1 = g31
  generalize g 3 2 = g32
  generalize g 3 3 = g33
  grind
theorem ktt1303 (g : Nat → Nat → K) : (1) * mnK g 1 3 0 1 * mnK g 0 3 2 3 + (-1) * mnK g 1 3 0 2 * mnK g 0 3 1 3 + (1) * mnK g 1 3 0 3 * mnK g 0 3 1 2 + (1) * mnK g 1 3 1 2 * mnK g 0 3 0 3 + (-1) * mnK g 1 3 1 3 * mnK g 0 3 0 2 + (1) * mnK g 1 3 2 3 * mnK g 0 3 0 1 = 0 := by
  unfold mnK
  generalize g 0 0 = g00
  generalize g 0 1 = g01
  generalize g 0 2 = g02
  generalize g 0 3 = g03
  generalize g 1 0 = g10
  generalize g 1 1 = g11
  generalize g 1 2 = g12
  generalize g 1 3 = g13
  generalize g 2 0 = g20
  generalize g 2 1 = g21
  generalize g 2 2 = g22
  generalize g 2 3 = g23
  generalize g 3 0 = g30
  generalize g 3 1 = g31
  generalize g 3 2 = g32
  generalize g 3 3 = g33
  grind
theorem ktt1312 (g : Nat → Nat → K) : (1) * mnK g 1 3 0 1 * mnK g 1 2 2 3 + (-1) * mnK g 1 3 0 2 * mnK g 1 2 1 3 + (1) * mnK g 1 3 0 3 * mnK g 1 2 1 2 + (1) * mnK g 1 3 1 2 * mnK g 1 2 0 3 + (-1) * mnK g 1 3 1 3 * mnK g 1 2 0 2 + (1) * mnK g 1 3 2 3 * mnK g 1 2 0 1 = 0 := by
  unfold mnK
  generalize g 0 0 = g00
  generalize g 0 1 = g01
  generalize g 0 2 = g02
  generalize g 0 3 = g03
  generalize g 1 0 = g10
  generalize g 1 1 = g11
  generalize g 1 2 = g12
  generalize g 1 3 = g13
  generalize g 2 0 = g20
  generalize g 2 1 = g21
  generalize g 2 2 = g22
  generalize g 2 3 = g23
  generalize g 3 0 = g30
  generalize g 3 1 = g31
  generalize g 3 2 = g32
  generalize g 3 3 = g33
  grind
theorem ktt1313 (g : Nat → Nat → K) : (1) * mnK g 1 3 0 1 * mnK g 1 3 2 3 + (-1) * mnK g 1 3 0 2 * mnK g 1 3 1 3 + (1) * mnK g 1 3 0 3 * mnK g 1 3 1 2 + (1) * mnK g 1 3 1 2 * mnK g 1 3 0 3 + (-1) * mnK g 1 3 1 3 * mnK g 1 3 0 2 + (1) * mnK g 1 3 2 3 * mnK g 1 3 0 1 = 0 := by
  unfold mnK
  generalize g 0 0 = g00
  generalize g 0 1 = g01
  generalize g 0 2 = g02
  generalize g 0 3 = g03
  generalize g 1 0 = g10
  generalize g 1 1 = g11
  generalize g 1 2 = g12
  generalize g 1 3 = g13
  generalize g 2 0 = g20
  generalize g 2 1 = g21
  generalize g 2 2 = g22
  generalize g 2 3 = g23
  generalize g 3 0 = g30
  generalize g 3 1 = g31
  generalize g 3 2 = g32
  generalize g 3 3 = g33
  grind
theorem ktt1323 (g : Nat → Nat → K) : (1) * mnK g 1 3 0 1 * mnK g 2 3 2 3 + (-1) * mnK g 1 3 0 2 * mnK g 2 3 1 3 + (1) * mnK g 1 3 0 3 * mnK g 2 3 1 2 + (1) * mnK g 1 3 1 2 * mnK g 2 3 0 3 + (-1) * mnK g 1 3 1 3 * mnK g 2 3 0 2 + (1) * mnK g 1 3 2 3 * mnK g 2 3 0 1 = 0 := by
  unfold mnK
  generalize g 0 0 = g00
  generalize g 0 1 = g01
  generalize g 0 2 = g02
  generalize g 0 3 = g03
  generalize g 1 0 = g10
  generalize g 1 1 = g11
  generalize g 1 2 = g12
  generalize g 1 3 = g13
  generalize g 2 0 = g20
  generalize g 2 1 = g21
  generalize g 2 2 = g22
  generalize g 2 3 = g23
  generalize g 3 0 = g30
  generalize g 3 1 = g31
  generalize g 3 2 = g32
  generalize g 3 3 = g33
  grind
theorem ktt2301 (g : Nat → Nat → K) : (1) * mnK g 2 3 0 1 * mnK g 0 1 2 3 + (-1) * mnK g 2 3 0 2 * mnK g 0 1 1 3 + (1) * mnK g 2 3 0 3 * mnK g 0 1 1 2 + (1) * mnK g 2 3 1 2 * mnK g 0 1 0 3 + (-1) * mnK g 2 3 1 3 * mnK g 0 1 0 2 + (1) * mnK g 2 3 2 3 * mnK g 0 1 0 1 = (1) * detK 4 g := by
  have e0 : detK 4 g = ((((0 + 1 * g 0 0 * (((0 + 1 * g 1 1 * ((0 + 1 * g 2 2 * (0 + 1 * g 3 3 * 1)) + (-1) * g 2 3 * (0 + 1 * g 3 2 * 1))) + (-1) * g 1 2 * ((0 + 1 * g 2 1 * (0 + 1 * g 3 3 * 1)) + (-1) * g 2 3 * (0 + 1 * g 3 1 * 1))) + 1 * g 1 3 * ((0 + 1 * g 2 1 * (0 + 1 * g 3 2 * 1)) + (-1) * g 2 2 * (0 + 1 * g 3 1 * 1)))) + (-1) * g 0 1 * (((0 + 1 * g 1 0 * ((0 + 1 * g 2 2 * (0 + 1 * g 3 3 * 1)) + (-1) * g 2 3 * (0 + 1 * g 3 2 * 1))) + (-1) * g 1 2 * ((0 + 1 * g 2 0 * (0 + 1 * g 3 3 * 1)) + (-1) * g 2 3 * (0 + 1 * g 3 0 * 1))) + 1 * g 1 3 * ((0 + 1 * g 2 0 * (0 + 1 * g 3 2 * 1)) + (-1) * g 2 2 * (0 + 1 * g 3 0 * 1)))) + 1 * g 0 2 * (((0 + 1 * g 1 0 * ((0 + 1 * g 2 1 * (0 + 1 * g 3 3 * 1)) + (-1) * g 2 3 * (0 + 1 * g 3 1 * 1))) + (-1) * g 1 1 * ((0 + 1 * g 2 0 * (0 + 1 * g 3 3 * 1)) + (-1) * g 2 3 * (0 + 1 * g 3 0 * 1))) + 1 * g 1 3 * ((0 + 1 * g 2 0 * (0 + 1 * g 3 1 * 1)) + (-1) * g 2 1 * (0 + 1 * g 3 0 * 1)))) + (-1) * g 0 3 * (((0 + 1 * g 1 0 * ((0 + 1 * g 2 1 * (0 + 1 * g 3 2 * 1)) + (-1) * g 2 2 * (0 + 1 * g 3 1 * 1))) + (-1) * g 1 1 * ((0 + 1 * g 2 0 * (0 + 1 * g 3 2 * 1)) + (-1) * g 2 2 * (0 + 1 * g 3 0 * 1))) + 1 * g 1 2 * ((0 + 1 * g 2 0 * (0 + 1 * g 3 1 * 1)) + (-1) * g 2 1 * (0 + 1 * g 3 0 * 1)))) := by kernel_rfl
  rw [e0]
  clear e0
  unfold mnK
  generalize g 0 0 = g00
  generalize g 0 1 = g01
  generalize g 0 2 = g02
  generalize g 0 3 = g03
  generalize g 1 0 = g10
  generalize g 1 1 = g11
  generalize g 1 2 = g12
  generalize g 1 3 = g13
  generalize g 2 0 = g20
  generalize g 2 1 = g21
  generalize g 2 2 = g22
  generalize g 2 3 = g23
  generalize g 3 0 = g30
  generalize g 3 1 = g31
  generalize g 3 2 = g32
  generalize g 3 3 = g33
  grind
theorem ktt2302 (g : Nat → Nat → K) : (1) * mnK g 2 3 0 1 * mnK g 0 2 2 3 + (-1) * mnK g 2 3 0 2 * mnK g 0 2 1 3 + (1) * mnK g 2 3 0 3 * mnK g 0 2 1 2 + (1) * mnK g 2 3 1 2 * mnK g 0 2 0 3 + (-1) * mnK g 2 3 1 3 * mnK g 0 2 0 2 + (1) * mnK g 2 3 2 3 * mnK g 0 2 0 1 = 0 := by
  unfold mnK
  generalize g 0 0 = g00
  generalize g 0 1 = g01
  generalize g 0 2 = g02
  generalize g 0 3 = g03
  generalize g 1 0 = g10
  generalize g 1 1 = g11
  generalize g 1 2 = g12
  generalize g 1 3 = g13
  generalize g 2 0 = g20
  generalize g 2 1 = g21
  generalize g 2 2 = g22
  generalize g 2 3 = g23
  generalize g 3 0 = g30
  generalize g 3 1 = g31
  generalize g 3 2 = g32
  generalize g 3 3 = g33
  grind
theorem ktt2303 (g : Nat → Nat → K) : (1) * mnK g 2 3 0 1 * mnK g 0 3 2 3 + (-1) * mnK g 2 3 0 2 * mnK g 0 3 1 3 + (1) * mnK g 2 3 0 3 * mnK g 0 3 1 2 + (1) * mnK g 2 3 1 2 * mnK g 0 3 0 3 + (-1) * mnK g 2 3 1 3 * mnK g 0 3 0 2 + (1) * mnK g 2 3 2 3 * mnK g 0 3 0 1 = 0 := by
  unfold mnK
  generalize g 0 0 = g00
  generalize g 0 1 = g01
  generalize g 0 2 = g02
  generalize g 0 3 = g03
  generalize g 1 0 = g10
  generalize g 1 1 = g11
  generalize g 1 2 = g12
  generalize g 1 3 = g13
  generalize g 2 0 = g20
  generalize g 2 1 = g21
  generalize g 2 2 = g22
  generalize g 2 3 = g23
  generalize g 3 0 = g30
  generalize g 3 1 = g31
  generalize g 3 2 = g32
  generalize g 3 3 = g33
  grind
theorem ktt2312 (g : Nat → Nat → K) : (1) * mnK g 2 3 0 1 * mnK g 1 2 2 3 + (-1) * mnK g 2 3 0 2 * mnK g 1 2 1 3 + (1) * mnK g 2 3 0 3 * mnK g 1 2 1 2 + (1) * mnK g 2 3 1 2 * mnK g 1 2 0 3 + (-1) * mnK g 2 3 1 3 * mnK g 1 2 0 2 + (1) * mnK g 2 3 2 3 * mnK g 1 2 0 1 = 0 := by
  unfold mnK
  generalize g 0 0 = g00
  generalize g 0 1 = g01
  generalize g 0 2 = g02
  generalize g 0 3 = g03
  generalize g 1 0 = g10
  generalize g 1 1 = g11
  generalize g 1 2 = g12
  generalize g 1 3 = g13
  generalize g 2 0 = g20
  generalize g 2 1 = g21
  generalize g 2 2 = g22
  generalize g 2 3 = g23
  generalize g 3 0 = g30
  generalize g 3 1 = g31
  generalize g 3 2 = g32
  generalize g 3 3 = g33
  grind
theorem ktt2313 (g : Nat → Nat → K) : (1) * mnK g 2 3 0 1 * mnK g 1 3 2 3 + (-1) * mnK g 2 3 0 2 * mnK g 1 3 1 3 + (1) * mnK g 2 3 0 3 * mnK g 1 3 1 2 + (1) * mnK g 2 3 1 2 * mnK g 1 3 0 3 + (-1) * mnK g 2 3 1 3 * mnK g 1 3 0 2 + (1) * mnK g 2 3 2 3 * mnK g 1 3 0 1 = 0 := by
  unfold mnK
  generalize g 0 0 = g00
  generalize g 0 1 = g01
  generalize g 0 2 = g02
  generalize g 0 3 = g03
  generalize g 1 0 = g10
  generalize g 1 1 = g11
  generalize g 1 2 = g12
  generalize g 1 3 = g13
  generalize g 2 0 = g20
  generalize g 2 1 = g21
  generalize g 2 2 = g22
  generalize g 2 3 = g23
  generalize g 3 0 = g30
  generalize g 3 1 = g31
  generalize g 3 2 = g32
  generalize g 3 3 = g33
  grind
theorem ktt2323 (g : Nat → Nat → K) : (1) * mnK g 2 3 0 1 * mnK g 2 3 2 3 + (-1) * mnK g 2 3 0 2 * mnK g 2 3 1 3 + (1) * mnK g 2 3 0 3 * mnK g 2 3 1 2 + (1) * mnK g 2 3 1 2 * mnK g 2 3 0 3 + (-1) * mnK g 2 3 1 3 * mnK g 2 3 0 2 + (1) * mnK g 2 3 2 3 * mnK g 2 3 0 1 = 0 := by
  unfold mnK
  generalize g 0 0 = g00
  generalize g 0 1 = g01
  generalize g 0 2 = g02
  generalize g 0 3 = g03
  generalize g 1 0 = g10
  generalize g 1 1 = g11
  generalize g 1 2 = g12
  generalize g 1 3 = g13
  generalize g 2 0 = g20
  generalize g 2 1 = g21
  generalize g 2 2 = g22
  generalize g 2 3 = g23
  generalize g 3 0 = g30
  generalize g 3 1 = g31
  generalize g 3 2 = g32
  generalize g 3 3 = g33
  grind
theorem kmul4 (f g : Nat → Nat → K) : detK 4 (mulK 4 f g) = detK 4 f * detK 4 g := by
  have h1 : detK 4 (mulK 4 f g) = (1) * (mnK f 0 1 0 1 * mnK g 0 1 0 1 + mnK f 0 1 0 2 * mnK g 0 2 0 1 + mnK f 0 1 0 3 * mnK g 0 3 0 1 + mnK f 0 1 1 2 * mnK g 1 2 0 1 + mnK f 0 1 1 3 * mnK g 1 3 0 1 + mnK f 0 1 2 3 * mnK g 2 3 0 1) * (mnK f 2 3 0 1 * mnK g 0 1 2 3 + mnK f 2 3 0 2 * mnK g 0 2 2 3 + mnK f 2 3 0 3 * mnK g 0 3 2 3 + mnK f 2 3 1 2 * mnK g 1 2 2 3 + mnK f 2 3 1 3 * mnK g 1 3 2 3 + mnK f 2 3 2 3 * mnK g 2 3 2 3) + (-1) * (mnK f 0 1 0 1 * mnK g 0 1 0 2 + mnK f 0 1 0 2 * mnK g 0 2 0 2 + mnK f 0 1 0 3 * mnK g 0 3 0 2 + mnK f 0 1 1 2 * mnK g 1 2 0 2 + mnK f 0 1 1 3 * mnK g 1 3 0 2 + mnK f 0 1 2 3 * mnK g 2 3 0 2) * (mnK f 2 3 0 1 * mnK g 0 1 1 3 + mnK f 2 3 0 2 * mnK g 0 2 1 3 + mnK f 2 3 0 3 * mnK g 0 3 1 3 + mnK f 2 3 1 2 * mnK g 1 2 1 3 + mnK f 2 3 1 3 * mnK g 1 3 1 3 + mnK f 2 3 2 3 * mnK g 2 3 1 3) + (1) * (mnK f 0 1 0 1 * mnK g 0 1 0 3 + mnK f 0 1 0 2 * mnK g 0 2 0 3 + mnK f 0 1 0 3 * mnK g 0 3 0 3 + mnK f 0 1 1 2 * mnK g 1 2 0 3 + mnK f 0 1 1 3 * mnK g 1 3 0 3 + mnK f 0 1 2 3 * mnK g 2 3 0 3) * (mnK f 2 3 0 1 * mnK g 0 1 1 2 + mnK f 2 3 0 2 * mnK g 0 2 1 2 + mnK f 2 3 0 3 * mnK g 0 3 1 2 + mnK f 2 3 1 2 * mnK g 1 2 1 2 + mnK f 2 3 1 3 * mnK g 1 3 1 2 + mnK f 2 3 2 3 * mnK g 2 3 1 2) + (1) * (mnK f 0 1 0 1 * mnK g 0 1 1 2 + mnK f 0 1 0 2 * mnK g 0 2 1 2 + mnK f 0 1 0 3 * mnK g 0 3 1 2 + mnK f 0 1 1 2 * mnK g 1 2 1 2 + mnK f 0 1 1 3 * mnK g 1 3 1 2 + mnK f 0 1 2 3 * mnK g 2 3 1 2) * (mnK f 2 3 0 1 * mnK g 0 1 0 3 + mnK f 2 3 0 2 * mnK g 0 2 0 3 + mnK f 2 3 0 3 * mnK g 0 3 0 3 + mnK f 2 3 1 2 * mnK g 1 2 0 3 + mnK f 2 3 1 3 * mnK g 1 3 0 3 + mnK f 2 3 2 3 * mnK g 2 3 0 3) + (-1) * (mnK f 0 1 0 1 * mnK g 0 1 1 3 + mnK f 0 1 0 2 * mnK g 0 2 1 3 + mnK f 0 1 0 3 * mnK g 0 3 1 3 + mnK f 0 1 1 2 * mnK g 1 2 1 3 + mnK f 0 1 1 3 * mnK g 1 3 1 3 + mnK f 0 1 2 3 * mnK g 2 3 1 3) * (mnK f 2 3 0 1 * mnK g 0 1 0 2 + mnK f 2 3 0 2 * mnK g 0 2 0 2 + mnK f 2 3 0 3 * mnK g 0 3 0 2 + mnK f 2 3 1 2 * mnK g 1 2 0 2 + mnK f 2 3 1 3 * mnK g 1 3 0 2 + mnK f 2 3 2 3 * mnK g 2 3 0 2) + (1) * (mnK f 0 1 0 1 * mnK g 0 1 2 3 + mnK f 0 1 0 2 * mnK g 0 2 2 3 + mnK f 0 1 0 3 * mnK g 0 3 2 3 + mnK f 0 1 1 2 * mnK g 1 2 2 3 + mnK f 0 1 1 3 * mnK g 1 3 2 3 + mnK f 0 1 2 3 * mnK g 2 3 2 3) * (mnK f 2 3 0 1 * mnK g 0 1 0 1 + mnK f 2 3 0 2 * mnK g 0 2 0 1 + mnK f 2 3 0 3 * mnK g 0 3 0 1 + mnK f 2 3 1 2 * mnK g 1 2 0 1 + mnK f 2 3 1 3 * mnK g 1 3 0 1 + mnK f 2 3 2 3 * mnK g 2 3 0 1) := by
    rw [klap4]
    simp only [kmm01, kmm23]
  have h2 : (1) * (mnK f 0 1 0 1 * mnK g 0 1 0 1 + mnK f 0 1 0 2 * mnK g 0 2 0 1 + mnK f 0 1 0 3 * mnK g 0 3 0 1 + mnK f 0 1 1 2 * mnK g 1 2 0 1 + mnK f 0 1 1 3 * mnK g 1 3 0 1 + mnK f 0 1 2 3 * mnK g 2 3 0 1) * (mnK f 2 3 0 1 * mnK g 0 1 2 3 + mnK f 2 3 0 2 * mnK g 0 2 2 3 + mnK f 2 3 0 3 * mnK g 0 3 2 3 + mnK f 2 3 1 2 * mnK g 1 2 2 3 + mnK f 2 3 1 3 * mnK g 1 3 2 3 + mnK f 2 3 2 3 * mnK g 2 3 2 3) + (-1) * (mnK f 0 1 0 1 * mnK g 0 1 0 2 + mnK f 0 1 0 2 * mnK g 0 2 0 2 + mnK f 0 1 0 3 * mnK g 0 3 0 2 + mnK f 0 1 1 2 * mnK g 1 2 0 2 + mnK f 0 1 1 3 * mnK g 1 3 0 2 + mnK f 0 1 2 3 * mnK g 2 3 0 2) * (mnK f 2 3 0 1 * mnK g 0 1 1 3 + mnK f 2 3 0 2 * mnK g 0 2 1 3 + mnK f 2 3 0 3 * mnK g 0 3 1 3 + mnK f 2 3 1 2 * mnK g 1 2 1 3 + mnK f 2 3 1 3 * mnK g 1 3 1 3 + mnK f 2 3 2 3 * mnK g 2 3 1 3) + (1) * (mnK f 0 1 0 1 * mnK g 0 1 0 3 + mnK f 0 1 0 2 * mnK g 0 2 0 3 + mnK f 0 1 0 3 * mnK g 0 3 0 3 + mnK f 0 1 1 2 * mnK g 1 2 0 3 + mnK f 0 1 1 3 * mnK g 1 3 0 3 + mnK f 0 1 2 3 * mnK g 2 3 0 3) * (mnK f 2 3 0 1 * mnK g 0 1 1 2 + mnK f 2 3 0 2 * mnK g 0 2 1 2 + mnK f 2 3 0 3 * mnK g 0 3 1 2 + mnK f 2 3 1 2 * mnK g 1 2 1 2 + mnK f 2 3 1 3 * mnK g 1 3 1 2 + mnK f 2 3 2 3 * mnK g 2 3 1 2) + (1) * (mnK f 0 1 0 1 * mnK g 0 1 1 2 + mnK f 0 1 0 2 * mnK g 0 2 1 2 + mnK f 0 1 0 3 * mnK g 0 3 1 2 + mnK f 0 1 1 2 * mnK g 1 2 1 2 + mnK f 0 1 1 3 * mnK g 1 3 1 2 + mnK f 0 1 2 3 * mnK g 2 3 1 2) * (mnK f 2 3 0 1 * mnK g 0 1 0 3 + mnK f 2 3 0 2 * mnK g 0 2 0 3 + mnK f 2 3 0 3 * mnK g 0 3 0 3 + mnK f 2 3 1 2 * mnK g 1 2 0 3 + mnK f 2 3 1 3 * mnK g 1 3 0 3 + mnK f 2 3 2 3 * mnK g 2 3 0 3) + (-1) * (mnK f 0 1 0 1 * mnK g 0 1 1 3 + mnK f 0 1 0 2 * mnK g 0 2 1 3 + mnK f 0 1 0 3 * mnK g 0 3 1 3 + mnK f 0 1 1 2 * mnK g 1 2 1 3 + mnK f 0 1 1 3 * mnK g 1 3 1 3 + mnK f 0 1 2 3 * mnK g 2 3 1 3) * (mnK f 2 3 0 1 * mnK g 0 1 0 2 + mnK f 2 3 0 2 * mnK g 0 2 0 2 + mnK f 2 3 0 3 * mnK g 0 3 0 2 + mnK f 2 3 1 2 * mnK g 1 2 0 2 + mnK f 2 3 1 3 * mnK g 1 3 0 2 + mnK f 2 3 2 3 * mnK g 2 3 0 2) + (1) * (mnK f 0 1 0 1 * mnK g 0 1 2 3 + mnK f 0 1 0 2 * mnK g 0 2 2 3 + mnK f 0 1 0 3 * mnK g 0 3 2 3 + mnK f 0 1 1 2 * mnK g 1 2 2 3 + mnK f 0 1 1 3 * mnK g 1 3 2 3 + mnK f 0 1 2 3 * mnK g 2 3 2 3) * (mnK f 2 3 0 1 * mnK g 0 1 0 1 + mnK f 2 3 0 2 * mnK g 0 2 0 1 + mnK f 2 3 0 3 * mnK g 0 3 0 1 + mnK f 2 3 1 2 * mnK g 1 2 0 1 + mnK f 2 3 1 3 * mnK g 1 3 0 1 + mnK f 2 3 2 3 * mnK g 2 3 0 1) = mnK f 0 1 0 1 * mnK f 2 3 0 1 * ((1) * mnK g 0 1 0 1 * mnK g 0 1 2 3 + (-1) * mnK g 0 1 0 2 * mnK g 0 1 1 3 + (1) * mnK g 0 1 0 3 * mnK g 0 1 1 2 + (1) * mnK g 0 1 1 2 * mnK g 0 1 0 3 + (-1) * mnK g 0 1 1 3 * mnK g 0 1 0 2 + (1) * mnK g 0 1 2 3 * mnK g 0 1 0 1) + mnK f 0 1 0 1 * mnK f 2 3 0 2 * ((1) * mnK g 0 1 0 1 * mnK g 0 2 2 3 + (-1) * mnK g 0 1 0 2 * mnK g 0 2 1 3 + (1) * mnK g 0 1 0 3 * mnK g 0 2 1 2 + (1) * mnK g 0 1 1 2 * mnK g 0 2 0 3 + (-1) * mnK g 0 1 1 3 * mnK g 0 2 0 2 + (1) * mnK g 0 1 2 3 * mnK g 0 2 0 1) + mnK f 0 1 0 1 * mnK f 2 3 0 3 * ((1) * mnK g 0 1 0 1 * mnK g 0 3 2 3 + (-1) * mnK g 0 1 0 2 * mnK g 0 3 1 3 + (1) * mnK g 0 1 0 3 * mnK g 0 3 1 2 + (1) * mnK g 0 1 1 2 * mnK g 0 3 0 3 + (-1) * mnK g 0 1 1 3 * mnK g 0 3 0 2 + (1) * mnK g 0 1 2 3 * mnK g 0 3 0 1) + mnK f 0 1 0 1 * mnK f 2 3 1 2 * ((1) * mnK g 0 1 0 1 * mnK g 1 2 2 3 + (-1) * mnK g 0 1 0 2 * mnK g 1 2 1 3 + (1) * mnK g 0 1 0 3 * mnK g 1 2 1 2 + (1) * mnK g 0 1 1 2 * mnK g 1 2 0 3 + (-1) * mnK g 0 1 1 3 * mnK g 1 2 0 2 + (1) * mnK g 0 1 2 3 * mnK g 1 2 0 1) + mnK f 0 1 0 1 * mnK f 2 3 1 3 * ((1) * mnK g 0 1 0 1 * mnK g 1 3 2 3 + (-1) * mnK g 0 1 0 2 * mnK g 1 3 1 3 + (1) * mnK g 0 1 0 3 * mnK g 1 3 1 2 + (1) * mnK g 0 1 1 2 * mnK g 1 3 0 3 + (-1) * mnK g 0 1 1 3 * mnK g 1 3 0 2 + (1) * mnK g 0 1 2 3 * mnK g 1 3 0 1) + mnK f 0 1 0 1 * mnK f 2 3 2 3 * ((1) * mnK g 0 1 0 1 * mnK g 2 3 2 3 + (-1) * mnK g 0 1 0 2 * mnK g 2 3 1 3 + (1) * mnK g 0 1 0 3 * mnK g 2 3 1 2 + (1) * mnK g 0 1 1 2 * mnK g 2 3 0 3 + (-1) * mnK g 0 1 1 3 * mnK g 2 3 0 2 + (1) * mnK g 0 1 2 3 * mnK g 2 3 0 1) + mnK f 0 1 0 2 * mnK f 2 3 0 1 * ((1) * mnK g 0 2 0 1 * mnK g 0 1 2 3 + (-1) * mnK g 0 2 0 2 * mnK g 0 1 1 3 + (1) * mnK g 0 2 0 3 * mnK g 0 1 1 2 + (1) * mnK g 0 2 1 2 * mnK g 0 1 0 3 + (-1) * mnK g 0 2 1 3 * mnK g 0 1 0 2 + (1) * mnK g 0 2 2 3 * mnK g 0 1 0 1) + mnK f 0 1 0 2 * mnK f 2 3 0 2 * ((1) * mnK g 0 2 0 1 * mnK g 0 2 2 3 + (-1) * mnK g 0 2 0 2 * mnK g 0 2 1 3 + (1) * mnK g 0 2 0 3 * mnK g 0 2 1 2 + (1) * mnK g 0 2 1 2 * mnK g 0 2 0 3 + (-1) * mnK g 0 2 1 3 * mnK g 0 2 0 2 + (1) * mnK g 0 2 2 3 * mnK g 0 2 0 1) + mnK f 0 1 0 2 * mnK f 2 3 0 3 * ((1) * mnK g 0 2 0 1 * mnK g 0 3 2 3 + (-1) * mnK g 0 2 0 2 * mnK g 0 3 1 3 + (1) * mnK g 0 2 0 3 * mnK g 0 3 1 2 + (1) * mnK g 0 2 1 2 * mnK g 0 3 0 3 + (-1) * mnK g 0 2 1 3 * mnK g 0 3 0 2 + (1) * mnK g 0 2 2 3 * mnK g 0 3 0 1) + mnK f 0 1 0 2 * mnK f 2 3 1 2 * ((1) * mnK g 0 2 0 1 * mnK g 1 2 2 3 + (-1) * mnK g 0 2 0 2 * mnK g 1 2 1 3 + (1) * mnK g 0 2 0 3 * mnK g 1 2 1 2 + (1) * mnK g 0 2 1 2 * mnK g 1 2 0 3 + (-1) * mnK g 0 2 1 3 * mnK g 1 2 0 2 + (1) * mnK g 0 2 2 3 * mnK g 1 2 0 1) + mnK f 0 1 0 2 * mnK f 2 3 1 3 * ((1) * mnK g 0 2 0 1 * mnK g 1 3 2 3 + (-1) * mnK g 0 2 0 2 * mnK g 1 3 1 3 + (1) * mnK g 0 2 0 3 * mnK g 1 3 1 2 + (1) * mnK g 0 2 1 2 * mnK g 1 3 0 3 + (-1) * mnK g 0 2 1 3 * mnK g 1 3 0 2 + (1) * mnK g 0 2 2 3 * mnK g 1 3 0 1) + mnK f 0 1 0 2 * mnK f 2 3 2 3 * ((1) * mnK g 0 2 0 1 * mnK g 2 3 2 3 + (-1) * mnK g 0 2 0 2 * mnK g 2 3 1 3 + (1) * mnK g 0 2 0 3 * mnK g 2 3 1 2 + (1) * mnK g 0 2 1 2 * mnK g 2 3 0 3 + (-1) * mnK g 0 2 1 3 * mnK g 2 3 0 2 + (1) * mnK g 0 2 2 3 * mnK g 2 3 0 1) + mnK f 0 1 0 3 * mnK f 2 3 0 1 * ((1) * mnK g 0 3 0 1 * mnK g 0 1 2 3 + (-1) * mnK g 0 3 0 2 * mnK g 0 1 1 3 + (1) * mnK g 0 3 0 3 * mnK g 0 1 1 2 + (1) * mnK g 0 3 1 2 * mnK g 0 1 0 3 + (-1) * mnK g 0 3 1 3 * mnK g 0 1 0 2 + (1) * mnK g 0 3 2 3 * mnK g 0 1 0 1) + mnK f 0 1 0 3 * mnK f 2 3 0 2 * ((1) * mnK g 0 3 0 1 * mnK g 0 2 2 3 + (-1) * mnK g 0 3 0 2 * mnK g 0 2 1 3 + (1) * mnK g 0 3 0 3 * mnK g 0 2 1 2 + (1) * mnK g 0 3 1 2 * mnK g 0 2 0 3 + (-1) * mnK g 0 3 1 3 * mnK g 0 2 0 2 + (1) * mnK g 0 3 2 3 * mnK g 0 2 0 1) + mnK f 0 1 0 3 * mnK f 2 3 0 3 * ((1) * mnK g 0 3 0 1 * mnK g 0 3 2 3 + (-1) * mnK g 0 3 0 2 * mnK g 0 3 1 3 + (1) * mnK g 0 3 0 3 * mnK g 0 3 1 2 + (1) * mnK g 0 3 1 2 * mnK g 0 3 0 3 + (-1) * mnK g 0 3 1 3 * mnK g 0 3 0 2 + (1) * mnK g 0 3 2 3 * mnK g 0 3 0 1) + mnK f 0 1 0 3 * mnK f 2 3 1 2 * ((1) * mnK g 0 3 0 1 * mnK g 1 2 2 3 + (-1) * mnK g 0 3 0 2 * mnK g 1 2 1 3 + (1) * mnK g 0 3 0 3 * mnK g 1 2 1 2 + (1) * mnK g 0 3 1 2 * mnK g 1 2 0 3 + (-1) * mnK g 0 3 1 3 * mnK g 1 2 0 2 + (1) * mnK g 0 3 2 3 * mnK g 1 2 0 1) + mnK f 0 1 0 3 * mnK f 2 3 1 3 * ((1) * mnK g 0 3 0 1 * mnK g 1 3 2 3 + (-1) * mnK g 0 3 0 2 * mnK g 1 3 1 3 + (1) * mnK g 0 3 0 3 * mnK g 1 3 1 2 + (1) * mnK g 0 3 1 2 * mnK g 1 3 0 3 + (-1) * mnK g 0 3 1 3 * mnK g 1 3 0 2 + (1) * mnK g 0 3 2 3 * mnK g 1 3 0 1) + mnK f 0 1 0 3 * mnK f 2 3 2 3 * ((1) * mnK g 0 3 0 1 * mnK g 2 3 2 3 + (-1) * mnK g 0 3 0 2 * mnK g 2 3 1 3 + (1) * mnK g 0 3 0 3 * mnK g 2 3 1 2 + (1) * mnK g 0 3 1 2 * mnK g 2 3 0 3 + (-1) * mnK g 0 3 1 3 * mnK g 2 3 0 2 + (1) * mnK g 0 3 2 3 * mnK g 2 3 0 1) + mnK f 0 1 1 2 * mnK f 2 3 0 1 * ((1) * mnK g 1 2 0 1 * mnK g 0 1 2 3 + (-1) * mnK g 1 2 0 2 * mnK g 0 1 1 3 + (1) * mnK g 1 2 0 3 * mnK g 0 1 1 2 + (1) * mnK g 1 2 1 2 * mnK g 0 1 0 3 + (-1) * mnK g 1 2 1 3 * mnK g 0 1 0 2 + (1) * mnK g 1 2 2 3 * mnK g 0 1 0 1) + mnK f 0 1 1 2 * mnK f 2 3 0 2 * ((1) * mnK g 1 2 0 1 * mnK g 0 2 2 3 + (-1) * mnK g 1 2 0 2 * mnK g 0 2 1 3 + (1) * mnK g 1 2 0 3 * mnK g 0 2 1 2 + (1) * mnK g 1 2 1 2 * mnK g 0 2 0 3 + (-1) * mnK g 1 2 1 3 * mnK g 0 2 0 2 + (1) * mnK g 1 2 2 3 * mnK g 0 2 0 1) + mnK f 0 1 1 2 * mnK f 2 3 0 3 * ((1) * mnK g 1 2 0 1 * mnK g 0 3 2 3 + (-1) * mnK g 1 2 0 2 * mnK g 0 3 1 3 + (1) * mnK g 1 2 0 3 * mnK g 0 3 1 2 + (1) * mnK g 1 2 1 2 * mnK g 0 3 0 3 + (-1) * mnK g 1 2 1 3 * mnK g 0 3 0 2 + (1) * mnK g 1 2 2 3 * mnK g 0 3 0 1) + mnK f 0 1 1 2 * mnK f 2 3 1 2 * ((1) * mnK g 1 2 0 1 * mnK g 1 2 2 3 + (-1) * mnK g 1 2 0 2 * mnK g 1 2 1 3 + (1) * mnK g 1 2 0 3 * mnK g 1 2 1 2 + (1) * mnK g 1 2 1 2 * mnK g 1 2 0 3 + (-1) * mnK g 1 2 1 3 * mnK g 1 2 0 2 + (1) * mnK g 1 2 2 3 * mnK g 1 2 0 1) + mnK f 0 1 1 2 * mnK f 2 3 1 3 * ((1) * mnK g 1 2 0 1 * mnK g 1 3 2 3 + (-1) * mnK g 1 2 0 2 * mnK g 1 3 1 3 + (1) * mnK g 1 2 0 3 * mnK g 1 3 1 2 + (1) * mnK g 1 2 1 2 * mnK g 1 3 0 3 + (-1) * mnK g 1 2 1 3 * mnK g 1 3 0 2 + (1) * mnK g 1 2 2 3 * mnK g 1 3 0 1) + mnK f 0 1 1 2 * mnK f 2 3 2 3 * ((1) * mnK g 1 2 0 1 * mnK g 2 3 2 3 + (-1) * mnK g 1 2 0 2 * mnK g 2 3 1 3 + (1) * mnK g 1 2 0 3 * mnK g 2 3 1 2 + (1) * mnK g 1 2 1 2 * mnK g 2 3 0 3 + (-1) * mnK g 1 2 1 3 * mnK g 2 3 0 2 + (1) * mnK g 1 2 2 3 * mnK g 2 3 0 1) + mnK f 0 1 1 3 * mnK f 2 3 0 1 * ((1) * mnK g 1 3 0 1 * mnK g 0 1 2 3 + (-1) * mnK g 1 3 0 2 * mnK g 0 1 1 3 + (1) * mnK g 1 3 0 3 * mnK g 0 1 1 2 + (1) * mnK g 1 3 1 2 * mnK g 0 1 0 3 + (-1) * mnK g 1 3 1 3 * mnK g 0 1 0 2 + (1) * mnK g 1 3 2 3 * mnK g 0 1 0 1) + mnK f 0 1 1 3 * mnK f 2 3 0 2 * ((1) * mnK g 1 3 0 1 * mnK g 0 2 2 3 + (-1) * mnK g 1 3 0 2 * mnK g 0 2 1 3 + (1) * mnK g 1 3 0 3 * mnK g 0 2 1 2 + (1) * mnK g 1 3 1 2 * mnK g 0 2 0 3 + (-1) * mnK g 1 3 1 3 * mnK g 0 2 0 2 + (1) * mnK g 1 3 2 3 * mnK g 0 2 0 1) + mnK f 0 1 1 3 * mnK f 2 3 0 3 * ((1) * mnK g 1 3 0 1 * mnK g 0 3 2 3 + (-1) * mnK g 1 3 0 2 * mnK g 0 3 1 3 + (1) * mnK g 1 3 0 3 * mnK g 0 3 1 2 + (1) * mnK g 1 3 1 2 * mnK g 0 3 0 3 + (-1) * mnK g 1 3 1 3 * mnK g 0 3 0 2 + (1) * mnK g 1 3 2 3 * mnK g 0 3 0 1) + mnK f 0 1 1 3 * mnK f 2 3 1 2 * ((1) * mnK g 1 3 0 1 * mnK g 1 2 2 3 + (-1) * mnK g 1 3 0 2 * mnK g 1 2 1 3 + (1) * mnK g 1 3 0 3 * mnK g 1 2 1 2 + (1) * mnK g 1 3 1 2 * mnK g 1 2 0 3 + (-1) * mnK g 1 3 1 3 * mnK g 1 2 0 2 + (1) * mnK g 1 3 2 3 * mnK g 1 2 0 1) + mnK f 0 1 1 3 * mnK f 2 3 1 3 * ((1) * mnK g 1 3 0 1 * mnK g 1 3 2 3 + (-1) * mnK g 1 3 0 2 * mnK g 1 3 1 3 + (1) * mnK g 1 3 0 3 * mnK g 1 3 1 2 + (1) * mnK g 1 3 1 2 * mnK g 1 3 0 3 + (-1) * mnK g 1 3 1 3 * mnK g 1 3 0 2 + (1) * mnK g 1 3 2 3 * mnK g 1 3 0 1) + mnK f 0 1 1 3 * mnK f 2 3 2 3 * ((1) * mnK g 1 3 0 1 * mnK g 2 3 2 3 + (-1) * mnK g 1 3 0 2 * mnK g 2 3 1 3 + (1) * mnK g 1 3 0 3 * mnK g 2 3 1 2 + (1) * mnK g 1 3 1 2 * mnK g 2 3 0 3 + (-1) * mnK g 1 3 1 3 * mnK g 2 3 0 2 + (1) * mnK g 1 3 2 3 * mnK g 2 3 0 1) + mnK f 0 1 2 3 * mnK f 2 3 0 1 * ((1) * mnK g 2 3 0 1 * mnK g 0 1 2 3 + (-1) * mnK g 2 3 0 2 * mnK g 0 1 1 3 + (1) * mnK g 2 3 0 3 * mnK g 0 1 1 2 + (1) * mnK g 2 3 1 2 * mnK g 0 1 0 3 + (-1) * mnK g 2 3 1 3 * mnK g 0 1 0 2 + (1) * mnK g 2 3 2 3 * mnK g 0 1 0 1) + mnK f 0 1 2 3 * mnK f 2 3 0 2 * ((1) * mnK g 2 3 0 1 * mnK g 0 2 2 3 + (-1) * mnK g 2 3 0 2 * mnK g 0 2 1 3 + (1) * mnK g 2 3 0 3 * mnK g 0 2 1 2 + (1) * mnK g 2 3 1 2 * mnK g 0 2 0 3 + (-1) * mnK g 2 3 1 3 * mnK g 0 2 0 2 + (1) * mnK g 2 3 2 3 * mnK g 0 2 0 1) + mnK f 0 1 2 3 * mnK f 2 3 0 3 * ((1) * mnK g 2 3 0 1 * mnK g 0 3 2 3 + (-1) * mnK g 2 3 0 2 * mnK g 0 3 1 3 + (1) * mnK g 2 3 0 3 * mnK g 0 3 1 2 + (1) * mnK g 2 3 1 2 * mnK g 0 3 0 3 + (-1) * mnK g 2 3 1 3 * mnK g 0 3 0 2 + (1) * mnK g 2 3 2 3 * mnK g 0 3 0 1) + mnK f 0 1 2 3 * mnK f 2 3 1 2 * ((1) * mnK g 2 3 0 1 * mnK g 1 2 2 3 + (-1) * mnK g 2 3 0 2 * mnK g 1 2 1 3 + (1) * mnK g 2 3 0 3 * mnK g 1 2 1 2 + (1) * mnK g 2 3 1 2 * mnK g 1 2 0 3 + (-1) * mnK g 2 3 1 3 * mnK g 1 2 0 2 + (1) * mnK g 2 3 2 3 * mnK g 1 2 0 1) + mnK f 0 1 2 3 * mnK f 2 3 1 3 * ((1) * mnK g 2 3 0 1 * mnK g 1 3 2 3 + (-1) * mnK g 2 3 0 2 * mnK g 1 3 1 3 + (1) * mnK g 2 3 0 3 * mnK g 1 3 1 2 + (1) * mnK g 2 3 1 2 * mnK g 1 3 0 3 + (-1) * mnK g 2 3 1 3 * mnK g 1 3 0 2 + (1) * mnK g 2 3 2 3 * mnK g 1 3 0 1) + mnK f 0 1 2 3 * mnK f 2 3 2 3 * ((1) * mnK g 2 3 0 1 * mnK g 2 3 2 3 + (-1) * mnK g 2 3 0 2 * mnK g 2 3 1 3 + (1) * mnK g 2 3 0 3 * mnK g 2 3 1 2 + (1) * mnK g 2 3 1 2 * mnK g 2 3 0 3 + (-1) * mnK g 2 3 1 3 * mnK g 2 3 0 2 + (1) * mnK g 2 3 2 3 * mnK g 2 3 0 1) := by
    generalize mnK f 0 1 0 1 = x01
    generalize mnK f 0 1 0 2 = x02
    generalize mnK f 0 1 0 3 = x03
    generalize mnK f 0 1 1 2 = x12
    generalize mnK f 0 1 1 3 = x13
    generalize mnK f 0 1 2 3 = x23
    generalize mnK f 2 3 0 1 = y01
    generalize mnK f 2 3 0 2 = y02
    generalize mnK f 2 3 0 3 = y03
    generalize mnK f 2 3 1 2 = y12
    generalize mnK f 2 3 1 3 = y13
    generalize mnK f 2 3 2 3 = y23
    generalize mnK g 0 1 0 1 = b0101
    generalize mnK g 0 1 0 2 = b0102
    generalize mnK g 0 1 0 3 = b0103
    generalize mnK g 0 1 1 2 = b0112
    generalize mnK g 0 1 1 3 = b0113
    generalize mnK g 0 1 2 3 = b0123
    generalize mnK g 0 2 0 1 = b0201
    generalize mnK g 0 2 0 2 = b0202
    generalize mnK g 0 2 0 3 = b0203
    generalize mnK g 0 2 1 2 = b0212
    generalize mnK g 0 2 1 3 = b0213
    generalize mnK g 0 2 2 3 = b0223
    generalize mnK g 0 3 0 1 = b0301
    generalize mnK g 0 3 0 2 = b0302
    generalize mnK g 0 3 0 3 = b0303
    generalize mnK g 0 3 1 2 = b0312
    generalize mnK g 0 3 1 3 = b0313
    generalize mnK g 0 3 2 3 = b0323
    generalize mnK g 1 2 0 1 = b1201
    generalize mnK g 1 2 0 2 = b1202
    generalize mnK g 1 2 0 3 = b1203
    generalize mnK g 1 2 1 2 = b1212
    generalize mnK g 1 2 1 3 = b1213
    generalize mnK g 1 2 2 3 = b1223
    generalize mnK g 1 3 0 1 = b1301
    generalize mnK g 1 3 0 2 = b1302
    generalize mnK g 1 3 0 3 = b1303
    generalize mnK g 1 3 1 2 = b1312
    generalize mnK g 1 3 1 3 = b1313
    generalize mnK g 1 3 2 3 = b1323
    generalize mnK g 2 3 0 1 = b2301
    generalize mnK g 2 3 0 2 = b2302
    generalize mnK g 2 3 0 3 = b2303
    generalize mnK g 2 3 1 2 = b2312
    generalize mnK g 2 3 1 3 = b2313
    generalize mnK g 2 3 2 3 = b2323
    grind
  rw [h1, h2, klap4 f]
  rw [ktt0101, ktt0102, ktt0103, ktt0112, ktt0113, ktt0123, ktt0201, ktt0202, ktt0203, ktt0212, ktt0213, ktt0223, ktt0301, ktt0302, ktt0303, ktt0312, ktt0313, ktt0323, ktt1201, ktt1202, ktt1203, ktt1212, ktt1213, ktt1223, ktt1301, ktt1302, ktt1303, ktt1312, ktt1313, ktt1323, ktt2301, ktt2302, ktt2303, ktt2312, ktt2313, ktt2323]
  generalize detK 4 g = D
  generalize mnK f 0 1 0 1 = x01
  generalize mnK f 0 1 0 2 = x02
  generalize mnK f 0 1 0 3 = x03
  generalize mnK f 0 1 1 2 = x12
  generalize mnK f 0 1 1 3 = x13
  generalize mnK f 0 1 2 3 = x23
  generalize mnK f 2 3 0 1 = y01
  generalize mnK f 2 3 0 2 = y02
  generalize mnK f 2 3 0 3 = y03
  generalize mnK f 2 3 1 2 = y12
  generalize mnK f 2 3 1 3 = y13
  generalize mnK f 2 3 2 3 = y23
  grind
theorem detK_mul {n : Nat} (h4 : n ≤ 4) (f g : Nat → Nat → K) : detK n (mulK n f g) = detK n f * detK n g := by
  rcases n with _ | _ | _ | _ | _ | n
  · exact kmul0 f g
  · exact kmul1 f g
  · exact kmul2 f g
  · exact kmul3 f g
  · exact kmul4 f g
  · exfalso; omega
theorem ktu0 (f : Nat → Nat → K) : detK 0 (fun i j => f j i) = detK 0 f := rfl
theorem ktu1 (f : Nat → Nat → K) : detK 1 (fun i j => f j i) = detK 1 f := rfl
theorem ktu2 (f : Nat → Nat → K) : detK 2 (fun i j => f j i) = detK 2 f := by
  have e0 : detK 2 (fun i j => f j i) = ((0 + 1 * f 0 0 * (0 + 1 * f 1 1 * 1)) + (-1) * f 1 0 * (0 + 1 * f 0 1 * 1)) := by kernel_rfl
  have e1 : detK 2 f = ((0 + 1 * f 0 0 * (0 + 1 * f 1 1 * 1)) + (-1) * f 0 1 * (0 + 1 * f 1 0 * 1)) := by kernel_rfl
  rw [e0, e1]
  clear e0 e1
  generalize f 0 0 = f00
  generalize f 0 1 = f01
  generalize f 1 0 = f10
  generalize f 1 1 = f11
  grind
theorem ktu3 (f : Nat → Nat → K) : detK 3 (fun i j => f j i) = detK 3 f := by
  have e0 : detK 3 (fun i j => f j i) = (((0 + 1 * f 0 0 * ((0 + 1 * f 1 1 * (0 + 1 * f 2 2 * 1)) + (-1) * f 2 1 * (0 + 1 * f 1 2 * 1))) + (-1) * f 1 0 * ((0 + 1 * f 0 1 * (0 + 1 * f 2 2 * 1)) + (-1) * f 2 1 * (0 + 1 * f 0 2 * 1))) + 1 * f 2 0 * ((0 + 1 * f 0 1 * (0 + 1 * f 1 2 * 1)) + (-1) * f 1 1 * (0 + 1 * f 0 2 * 1))) := by kernel_rfl
  have e1 : detK 3 f = (((0 + 1 * f 0 0 * ((0 + 1 * f 1 1 * (0 + 1 * f 2 2 * 1)) + (-1) * f 1 2 * (0 + 1 * f 2 1 * 1))) + (-1) * f 0 1 * ((0 + 1 * f 1 0 * (0 + 1 * f 2 2 * 1)) + (-1) * f 1 2 * (0 + 1 * f 2 0 * 1))) + 1 * f 0 2 * ((0 + 1 * f 1 0 * (0 + 1 * f 2 1 * 1)) + (-1) * f 1 1 * (0 + 1 * f 2 0 * 1))) := by kernel_rfl
  rw [e0, e1]
  clear e0 e1
  generalize f 0 0 = f00
  generalize f 0 1 = f01
  generalize f 0 2 = f02
  generalize f 1 0 = f10
  generalize f 1 1 = f11
  generalize f 1 2 = f12
  generalize f 2 0 = f20
  generalize f 2 1 = f21
  generalize f 2 2 = f22
  grind
theorem ktu4 (f : Nat → Nat → K) : detK 4 (fun i j => f j i) = detK 4 f := by
  have e0 : detK 4 (fun i j => f j i) = ((((0 + 1 * f 0 0 * (((0 + 1 * f 1 1 * ((0 + 1 * f 2 2 * (0 + 1 * f 3 3 * 1)) + (-1) * f 3 2 * (0 + 1 * f 2 3 * 1))) + (-1) * f 2 1 * ((0 + 1 * f 1 2 * (0 + 1 * f 3 3 * 1)) + (-1) * f 3 2 * (0 + 1 * f 1 3 * 1))) + 1 * f 3 1 * ((0 + 1 * f 1 2 * (0 + 1 * f 2 3 * 1)) + (-1) * f 2 2 * (0 + 1 * f 1 3 * 1)))) + (-1) * f 1 0 * (((0 + 1 * f 0 1 * ((0 + 1 * f 2 2 * (0 + 1 * f 3 3 * 1)) + (-1) * f 3 2 * (0 + 1 * f 2 3 * 1))) + (-1) * f 2 1 * ((0 + 1 * f 0 2 * (0 + 1 * f 3 3 * 1)) + (-1) * f 3 2 * (0 + 1 * f 0 3 * 1))) + 1 * f 3 1 * ((0 + 1 * f 0 2 * (0 + 1 * f 2 3 * 1)) + (-1) * f 2 2 * (0 + 1 * f 0 3 * 1)))) + 1 * f 2 0 * (((0 + 1 * f 0 1 * ((0 + 1 * f 1 2 * (0 + 1 * f 3 3 * 1)) + (-1) * f 3 2 * (0 + 1 * f 1 3 * 1))) + (-1) * f 1 1 * ((0 + 1 * f 0 2 * (0 + 1 * f 3 3 * 1)) + (-1) * f 3 2 * (0 + 1 * f 0 3 * 1))) + 1 * f 3 1 * ((0 + 1 * f 0 2 * (0 + 1 * f 1 3 * 1)) + (-1) * f 1 2 * (0 + 1 * f 0 3 * 1)))) + (-1) * f 3 0 * (((0 + 1 * f 0 1 * ((0 + 1 * f 1 2 * (0 + 1 * f 2 3 * 1)) + (-1) * f 2 2 * (0 + 1 * f 1 3 * 1))) + (-1) * f 1 1 * ((0 + 1 * f 0 2 * (0 + 1 * f 2 3 * 1)) + (-1) * f 2 2 * (0 + 1 * f 0 3 * 1))) + 1 * f 2 1 * ((0 + 1 * f 0 2 * (0 + 1 * f 1 3 * 1)) + (-1) * f 1 2 * (0 + 1 * f 0 3 * 1)))) := by kernel_rfl
  have e1 : detK 4 f = ((((0 + 1 * f 0 0 * (((0 + 1 * f 1 1 * ((0 + 1 * f 2 2 * (0 + 1 * f 3 3 * 1)) + (-1) * f 2 3 * (0 + 1 * f 3 2 * 1))) + (-1) * f 1 2 * ((0 + 1 * f 2 1 * (0 + 1 * f 3 3 * 1)) + (-1) * f 2 3 * (0 + 1 * f 3 1 * 1))) + 1 * f 1 3 * ((0 + 1 * f 2 1 * (0 + 1 * f 3 2 * 1)) + (-1) * f 2 2 * (0 + 1 * f 3 1 * 1)))) + (-1) * f 0 1 * (((0 + 1 * f 1 0 * ((0 + 1 * f 2 2 * (0 + 1 * f 3 3 * 1)) + (-1) * f 2 3 * (0 + 1 * f 3 2 * 1))) + (-1) * f 1 2 * ((0 + 1 * f 2 0 * (0 + 1 * f 3 3 * 1)) + (-1) * f 2 3 * (0 + 1 * f 3 0 * 1))) + 1 * f 1 3 * ((0 + 1 * f 2 0 * (0 + 1 * f 3 2 * 1)) + (-1) * f 2 2 * (0 + 1 * f 3 0 * 1)))) + 1 * f 0 2 * (((0 + 1 * f 1 0 * ((0 + 1 * f 2 1 * (0 + 1 * f 3 3 * 1)) + (-1) * f 2 3 * (0 + 1 * f 3 1 * 1))) + (-1) * f 1 1 * ((0 + 1 * f 2 0 * (0 + 1 * f 3 3 * 1)) + (-1) * f 2 3 * (0 + 1 * f 3 0 * 1))) + 1 * f 1 3 * ((0 + 1 * f 2 0 * (0 + 1 * f 3 1 * 1)) + (-1) * f 2 1 * (0 + 1 * f 3 0 * 1)))) + (-1) * f 0 3 * (((0 + 1 * f 1 0 * ((0 + 1 * f 2 1 * (0 + 1 * f 3 2 * 1)) + (-1) * f 2 2 * (0 + 1 * f 3 1 * 1))) + (-1) * f 1 1 * ((0 + 1 * f 2 0 * (0 + 1 * f 3 2 * 1)) + (-1) * f 2 2 * (0 + 1 * f 3 0 * 1))) + 1 * f 1 2 * ((0 + 1 * f 2 0 * (0 + 1 * f 3 1 * 1)) + (-1) * f 2 1 * (0 + 1 * f 3 0 * 1)))) := by kernel_rfl
  rw [e0, e1]
  clear e0 e1
  generalize f 0 0 = f00
  generalize f 0 1 = f01
  generalize f 0 2 = f02
  generalize f 0 3 = f03
  generalize f 1 0 = f10
  generalize f 1 1 = f11
  generalize f 1 2 = f12
  generalize f 1 3 = f13
  generalize f 2 0 = f20
  generalize f 2 1 = f21
  generalize f 2 2 = f22
  generalize f 2 3 = f23
  generalize f 3 0 = f30
  generalize f 3 1 = f31
  generalize f 3 2 = f32
  generalize f 3 3 = f33
  grind
theorem detK_tu {n : Nat} (h4 : n ≤ 4) (f : Nat → Nat → K) : detK n (fun i j => f j i) = detK n f := by
  rcases n with _ | _ | _ | _ | _ | n
  · exact ktu0 f
  · exact ktu1 f
  · exact ktu2 f
  · exact ktu3 f
  · exact ktu4 f
  · exfalso; omega
theorem kun0 : detK 0 (unK : Nat → Nat → K) = 1 := rfl
theorem kun1 : detK 1 (unK : Nat → Nat → K) = 1 := by
  have e : detK 1 (unK : Nat → Nat → K) = (0 + 1 * 1 * 1) := by kernel_rfl
  rw [e]
  grind
theorem kun2 : detK 2 (unK : Nat → Nat → K) = 1 := by
  have e : detK 2 (unK : Nat → Nat → K) = ((0 + 1 * 1 * (0 + 1 * 1 * 1)) + (-1) * 0 * (0 + 1 * 0 * 1)) := by kernel_rfl
  rw [e]
  grind
theorem kun3 : detK 3 (unK : Nat → Nat → K) = 1 := by
  have e : detK 3 (unK : Nat → Nat → K) = (((0 + 1 * 1 * ((0 + 1 * 1 * (0 + 1 * 1 * 1)) + (-1) * 0 * (0 + 1 * 0 * 1))) + (-1) * 0 * ((0 + 1 * 0 * (0 + 1 * 1 * 1)) + (-1) * 0 * (0 + 1 * 0 * 1))) + 1 * 0 * ((0 + 1 * 0 * (0 + 1 * 0 * 1)) + (-1) * 1 * (0 + 1 * 0 * 1))) := by kernel_rfl
  rw [e]
  grind
theorem kun4 : detK 4 (unK : Nat → Nat → K) = 1 := by
  have e : detK 4 (unK : Nat → Nat → K) = ((((0 + 1 * 1 * (((0 + 1 * 1 * ((0 + 1 * 1 * (0 + 1 * 1 * 1)) + (-1) * 0 * (0 + 1 * 0 * 1))) + (-1) * 0 * ((0 + 1 * 0 * (0 + 1 * 1 * 1)) + (-1) * 0 * (0 + 1 * 0 * 1))) + 1 * 0 * ((0 + 1 * 0 * (0 + 1 * 0 * 1)) + (-1) * 1 * (0 + 1 * 0 * 1)))) + (-1) * 0 * (((0 + 1 * 0 * ((0 + 1 * 1 * (0 + 1 * 1 * 1)) + (-1) * 0 * (0 + 1 * 0 * 1))) + (-1) * 0 * ((0 + 1 * 0 * (0 + 1 * 1 * 1)) + (-1) * 0 * (0 + 1 * 0 * 1))) + 1 * 0 * ((0 + 1 * 0 * (0 + 1 * 0 * 1)) + (-1) * 1 * (0 + 1 * 0 * 1)))) + 1 * 0 * (((0 + 1 * 0 * ((0 + 1 * 0 * (0 + 1 * 1 * 1)) + (-1) * 0 * (0 + 1 * 0 * 1))) + (-1) * 1 * ((0 + 1 * 0 * (0 + 1 * 1 * 1)) + (-1) * 0 * (0 + 1 * 0 * 1))) + 1 * 0 * ((0 + 1 * 0 * (0 + 1 * 0 * 1)) + (-1) * 0 * (0 + 1 * 0 * 1)))) + (-1) * 0 * (((0 + 1 * 0 * ((0 + 1 * 0 * (0 + 1 * 0 * 1)) + (-1) * 1 * (0 + 1 * 0 * 1))) + (-1) * 1 * ((0 + 1 * 0 * (0 + 1 * 0 * 1)) + (-1) * 1 * (0 + 1 * 0 * 1))) + 1 * 0 * ((0 + 1 * 0 * (0 + 1 * 0 * 1)) + (-1) * 0 * (0 + 1 * 0 * 1)))) := by kernel_rfl
  rw [e]
  grind
theorem detK_un {n : Nat} (h4 : n ≤ 4)  : detK n (unK : Nat → Nat → K) = 1 := by
  rcases n with _ | _ | _ | _ | _ | n
  · exact kun0
  · exact kun1
  · exact kun2
  · exact kun3
  · exact kun4
  · exfalso; omega
theorem kad100 (f : Nat → Nat → K) : sK 1 (fun m => adjK 1 f 0 m * f m 0) = detK 1 f := by
  have e1 : sK 1 (fun m => adjK 1 f 0 m * f m 0) = (0 + 1 * 1 * f 0 0) := by kernel_rfl
  have e2 : detK 1 f = (0 + 1 * f 0 0 * 1) := by kernel_rfl
  rw [e1, e2]
  clear e1 e2
  generalize f 0 0 = f00
  grind
theorem kad200 (f : Nat → Nat → K) : sK 2 (fun m => adjK 2 f 0 m * f m 0) = detK 2 f := by
  have e1 : sK 2 (fun m => adjK 2 f 0 m * f m 0) = ((0 + 1 * (0 + 1 * f 1 1 * 1) * f 0 0) + (-1) * (0 + 1 * f 0 1 * 1) * f 1 0) := by kernel_rfl
  have e2 : detK 2 f = ((0 + 1 * f 0 0 * (0 + 1 * f 1 1 * 1)) + (-1) * f 0 1 * (0 + 1 * f 1 0 * 1)) := by kernel_rfl
  rw [e1, e2]
  clear e1 e2
  generalize f 0 0 = f00
  generalize f 0 1 = f01
  generalize f 1 0 = f10
  generalize f 1 1 = f11
  grind
theorem kad201 (f : Nat → Nat → K) : sK 2 (fun m => adjK 2 f 0 m * f m 1) = 0 := by
  have e1 : sK 2 (fun m => adjK 2 f 0 m * f m 1) = ((0 + 1 * (0 + 1 * f 1 1 * 1) * f 0 1) + (-1) * (0 + 1 * f 0 1 * 1) * f 1 1) := by kernel_rfl
  rw [e1]
  clear e1
  generalize f 0 0 = f00
  generalize f 0 1 = f01
  generalize f 1 0 = f10
  generalize f 1 1 = f11
  grind
theorem kad210 (f : Nat → Nat → K) : sK 2 (fun m => adjK 2 f 1 m * f m 0) = 0 := by
  have e1 : sK 2 (fun m => adjK 2 f 1 m * f m 0) = ((0 + (-1) * (0 + 1 * f 1 0 * 1) * f 0 0) + 1 * (0 + 1 * f 0 0 * 1) * f 1 0) := by kernel_rfl
  rw [e1]
  clear e1
  generalize f 0 0 = f00
  generalize f 0 1 = f01
  generalize f 1 0 = f10
  generalize f 1 1 = f11
  grind
theorem kad211 (f : Nat → Nat → K) : sK 2 (fun m => adjK 2 f 1 m * f m 1) = detK 2 f := by
  have e1 : sK 2 (fun m => adjK 2 f 1 m * f m 1) = ((0 + (-1) * (0 + 1 * f 1 0 * 1) * f 0 1) + 1 * (0 + 1 * f 0 0 * 1) * f 1 1) := by kernel_rfl
  have e2 : detK 2 f = ((0 + 1 * f 0 0 * (0 + 1 * f 1 1 * 1)) + (-1) * f 0 1 * (0 + 1 * f 1 0 * 1)) := by kernel_rfl
  rw [e1, e2]
  clear e1 e2
  generalize f 0 0 = f00
  generalize f 0 1 = f01
  generalize f 1 0 = f10
  generalize f 1 1 = f11
  grind
theorem kad300 (f : Nat → Nat → K) : sK 3 (fun m => adjK 3 f 0 m * f m 0) = detK 3 f := by
  have e1 : sK 3 (fun m => adjK 3 f 0 m * f m 0) = (((0 + 1 * ((0 + 1 * f 1 1 * (0 + 1 * f 2 2 * 1)) + (-1) * f 1 2 * (0 + 1 * f 2 1 * 1)) * f 0 0) + (-1) * ((0 + 1 * f 0 1 * (0 + 1 * f 2 2 * 1)) + (-1) * f 0 2 * (0 + 1 * f 2 1 * 1)) * f 1 0) + 1 * ((0 + 1 * f 0 1 * (0 + 1 * f 1 2 * 1)) + (-1) * f 0 2 * (0 + 1 * f 1 1 * 1)) * f 2 0) := by kernel_rfl
  have e2 : detK 3 f = (((0 + 1 * f 0 0 * ((0 + 1 * f 1 1 * (0 + 1 * f 2 2 * 1)) + (-1) * f 1 2 * (0 + 1 * f 2 1 * 1))) + (-1) * f 0 1 * ((0 + 1 * f 1 0 * (0 + 1 * f 2 2 * 1)) + (-1) * f 1 2 * (0 + 1 * f 2 0 * 1))) + 1 * f 0 2 * ((0 + 1 * f 1 0 * (0 + 1 * f 2 1 * 1)) + (-1) * f 1 1 * (0 + 1 * f 2 0 * 1))) := by kernel_rfl
  rw [e1, e2]
  clear e1 e2
  generalize f 0 0 = f00
  generalize f 0 1 = f01
  generalize f 0 2 = f02
  generalize f 1 0 = f10
  generalize f 1 1 = f11
  generalize f 1 2 = f12
  generalize f 2 0 = f20
  generalize f 2 1 = f21
  generalize f 2 2 = f22
  grind
theorem kad301 (f : Nat → Nat → K) : sK 3 (fun m => adjK 3 f 0 m * f m 1) = 0 := by
  have e1 : sK 3 (fun m => adjK 3 f 0 m * f m 1) = (((0 + 1 * ((0 + 1 * f 1 1 * (0 + 1 * f 2 2 * 1)) + (-1) * f 1 2 * (0 + 1 * f 2 1 * 1)) * f 0 1) + (-1) * ((0 + 1 * f 0 1 * (0 + 1 * f 2 2 * 1)) + (-1) * f 0 2 * (0 + 1 * f 2 1 * 1)) * f 1 1) + 1 * ((0 + 1 * f 0 1 * (0 + 1 * f 1 2 * 1)) + (-1) * f 0 2 * (0 + 1 * f 1 1 * 1)) * f 2 1) := by kernel_rfl
  rw [e1]
  clear e1
  generalize f 0 0 = f00
  generalize f 0 1 = f01
  generalize f 0 2 = f02
  generalize f 1 0 = f10
  generalize f 1 1 = f11
  generalize f 1 2 = f12
  generalize f 2 0 = f20
  generalize f 2 1 = f21
  generalize f 2 2 = f22
  grind
theorem kad302 (f : Nat → Nat → K) : sK 3 (fun m => adjK 3 f 0 m * f m 2) = 0 := by
  have e1 : sK 3 (fun m => adjK 3 f 0 m * f m 2) = (((0 + 1 * ((0 + 1 * f 1 1 * (0 + 1 * f 2 2 * 1)) + (-1) * f 1 2 * (0 + 1 * f 2 1 * 1)) * f 0 2) + (-1) * ((0 + 1 * f 0 1 * (0 + 1 * f 2 2 * 1)) + (-1) * f 0 2 * (0 + 1 * f 2 1 * 1)) * f 1 2) + 1 * ((0 + 1 * f 0 1 * (0 + 1 * f 1 2 * 1)) + (-1) * f 0 2 * (0 + 1 * f 1 1 * 1)) * f 2 2) := by kernel_rfl
  rw [e1]
  clear e1
  generalize f 0 0 = f00
  generalize f 0 1 = f01
  generalize f 0 2 = f02
  generalize f 1 0 = f10
  generalize f 1 1 = f11
  generalize f 1 2 = f12
  generalize f 2 0 = f20
  generalize f 2 1 = f21
  generalize f 2 2 = f22
  grind
theorem kad310 (f : Nat → Nat → K) : sK 3 (fun m => adjK 3 f 1 m * f m 0) = 0 := by
  have e1 : sK 3 (fun m => adjK 3 f 1 m * f m 0) = (((0 + (-1) * ((0 + 1 * f 1 0 * (0 + 1 * f 2 2 * 1)) + (-1) * f 1 2 * (0 + 1 * f 2 0 * 1)) * f 0 0) + 1 * ((0 + 1 * f 0 0 * (0 + 1 * f 2 2 * 1)) + (-1) * f 0 2 * (0 + 1 * f 2 0 * 1)) * f 1 0) + (-1) * ((0 + 1 * f 0 0 * (0 + 1 * f 1 2 * 1)) + (-1) * f 0 2 * (0 + 1 * f 1 0 * 1)) * f 2 0) := by kernel_rfl
  rw [e1]
  clear e1
  generalize f 0 0 = f00
  generalize f 0 1 = f01
  generalize f 0 2 = f02
  generalize f 1 0 = f10
  generalize f 1 1 = f11
  generalize f 1 2 = f12
  generalize f 2 0 = f20
  generalize f 2 1 = f21
  generalize f 2 2 = f22
  grind
theorem kad311 (f : Nat → Nat → K) : sK 3 (fun m => adjK 3 f 1 m * f m 1) = detK 3 f := by
  have e1 : sK 3 (fun m => adjK 3 f 1 m * f m 1) = (((0 + (-1) * ((0 + 1 * f 1 0 * (0 + 1 * f 2 2 * 1)) + (-1) * f 1 2 * (0 + 1 * f 2 0 * 1)) * f 0 1) + 1 * ((0 + 1 * f 0 0 * (0 + 1 * f 2 2 * 1)) + (-1) * f 0 2 * (0 + 1 * f 2 0 * 1)) * f 1 1) + (-1) * ((0 + 1 * f 0 0 * (0 + 1 * f 1 2 * 1)) + (-1) * f 0 2 * (0 + 1 * f 1 0 * 1)) * f 2 1) := by kernel_rfl
  have e2 : detK 3 f = (((0 + 1 * f 0 0 * ((0 + 1 * f 1 1 * (0 + 1 * f 2 2 * 1)) + (-1) * f 1 2 * (0 + 1 * f 2 1 * 1))) + (-1) * f 0 1 * ((0 + 1 * f 1 0 * (0 + 1 * f 2 2 * 1)) + (-1) * f 1 2 * (0 + 1 * f 2 0 * 1))) + 1 * f 0 2 * ((0 + 1 * f 1 0 * (0 + 1 * f 2 1 * 1)) + (-1) * f 1 1 * (0 + 1 * f 2 0 * 1))) := by kernel_rfl
  rw [e1, e2]
  clear e1 e2
  generalize f 0 0 = f00
  generalize f 0 1 = f01
  generalize f 0 2 = f02
  generalize f 1 0 = f10
  generalize f 1 1 = f11
  generalize f 1 2 = f12
  generalize f 2 0 = f20
  generalize f 2 1 = f21
  generalize f 2 2 = f22
  grind
theorem kad312 (f : Nat → Nat → K) : sK 3 (fun m => adjK 3 f 1 m * f m 2) = 0 := by
  have e1 : sK 3 (fun m => adjK 3 f 1 m * f m 2) = (((0 + (-1) * ((0 + 1 * f 1 0 * (0 + 1 * f 2 2 * 1)) + (-1) * f 1 2 * (0 + 1 * f 2 0 * 1)) * f 0 2) + 1 * ((0 + 1 * f 0 0 * (0 + 1 * f 2 2 * 1)) + (-1) * f 0 2 * (0 + 1 * f 2 0 * 1)) * f 1 2) + (-1) * ((0 + 1 * f 0 0 * (0 + 1 * f 1 2 * 1)) + (-1) * f 0 2 * (0 + 1 * f 1 0 * 1)) * f 2 2) := by kernel_rfl
  rw [e1]
  clear e1
  generalize f 0 0 = f00
  generalize f 0 1 = f01
  generalize f 0 2 = f02
  generalize f 1 0 = f10
  generalize f 1 1 = f11
  generalize f 1 2 = f12
  generalize f 2 0 = f20
  generalize f 2 1 = f21
  generalize f 2 2 = f22
  grind
theorem kad320 (f : Nat → Nat → K) : sK 3 (fun m => adjK 3 f 2 m * f m 0) = 0 := by
  have e1 : sK 3 (fun m => adjK 3 f 2 m * f m 0) = (((0 + 1 * ((0 + 1 * f 1 0 * (0 + 1 * f 2 1 * 1)) + (-1) * f 1 1 * (0 + 1 * f 2 0 * 1)) * f 0 0) + (-1) * ((0 + 1 * f 0 0 * (0 + 1 * f 2 1 * 1)) + (-1) * f 0 1 * (0 + 1 * f 2 0 * 1)) * f 1 0) + 1 * ((0 + 1 * f 0 0 * (0 + 1 * f 1 1 * 1)) + (-1) * f 0 1 * (0 + 1 * f 1 0 * 1)) * f 2 0) := by kernel_rfl
  rw [e1]
  clear e1
  generalize f 0 0 = f00
  generalize f 0 1 = f01
  generalize f 0 2 = f02
  generalize f 1 0 = f10
  generalize f 1 1 = f11
  generalize f 1 2 = f12
  generalize f 2 0 = f20
  generalize f 2 1 = f21
  generalize f 2 2 = f22
  grind
theorem kad321 (f : Nat → Nat → K) : sK 3 (fun m => adjK 3 f 2 m * f m 1) = 0 := by
  have e1 : sK 3 (fun m => adjK 3 f 2 m * f m 1) = (((0 + 1 * ((0 + 1 * f 1 0 * (0 + 1 * f 2 1 * 1)) + (-1) * f 1 1 * (0 + 1 * f 2 0 * 1)) * f 0 1) + (-1) * ((0 + 1 * f 0 0 * (0 + 1 * f 2 1 * 1)) + (-1) * f 0 1 * (0 + 1 * f 2 0 * 1)) * f 1 1) + 1 * ((0 + 1 * f 0 0 * (0 + 1 * f 1 1 * 1)) + (-1) * f 0 1 * (0 + 1 * f 1 0 * 1)) * f 2 1) := by kernel_rfl
  rw [e1]
  clear e1
  generalize f 0 0 = f00
  generalize f 0 1 = f01
  generalize f 0 2 = f02
  generalize f 1 0 = f10
  generalize f 1 1 = f11
  generalize f 1 2 = f12
  generalize f 2 0 = f20
  generalize f 2 1 = f21
  generalize f 2 2 = f22
  grind
theorem kad322 (f : Nat → Nat → K) : sK 3 (fun m => adjK 3 f 2 m * f m 2) = detK 3 f := by
  have e1 : sK 3 (fun m => adjK 3 f 2 m * f m 2) = (((0 + 1 * ((0 + 1 * f 1 0 * (0 + 1 * f 2 1 * 1)) + (-1) * f 1 1 * (0 + 1 * f 2 0 * 1)) * f 0 2) + (-1) * ((0 + 1 * f 0 0 * (0 + 1 * f 2 1 * 1)) + (-1) * f 0 1 * (0 + 1 * f 2 0 * 1)) * f 1 2) + 1 * ((0 + 1 * f 0 0 * (0 + 1 * f 1 1 * 1)) + (-1) * f 0 1 * (0 + 1 * f 1 0 * 1)) * f 2 2) := by kernel_rfl
  have e2 : detK 3 f = (((0 + 1 * f 0 0 * ((0 + 1 * f 1 1 * (0 + 1 * f 2 2 * 1)) + (-1) * f 1 2 * (0 + 1 * f 2 1 * 1))) + (-1) * f 0 1 * ((0 + 1 * f 1 0 * (0 + 1 * f 2 2 * 1)) + (-1) * f 1 2 * (0 + 1 * f 2 0 * 1))) + 1 * f 0 2 * ((0 + 1 * f 1 0 * (0 + 1 * f 2 1 * 1)) + (-1) * f 1 1 * (0 + 1 * f 2 0 * 1))) := by kernel_rfl
  rw [e1, e2]
  clear e1 e2
  generalize f 0 0 = f00
  generalize f 0 1 = f01
  generalize f 0 2 = f02
  generalize f 1 0 = f10
  generalize f 1 1 = f11
  generalize f 1 2 = f12
  generalize f 2 0 = f20
  generalize f 2 1 = f21
  generalize f 2 2 = f22
  grind
theorem kad400 (f : Nat → Nat → K) : sK 4 (fun m => adjK 4 f 0 m * f m 0) = detK 4 f := by
  have e1 : sK 4 (fun m => adjK 4 f 0 m * f m 0) = ((((0 + 1 * (((0 + 1 * f 1 1 * ((0 + 1 * f 2 2 * (0 + 1 * f 3 3 * 1)) + (-1) * f 2 3 * (0 + 1 * f 3 2 * 1))) + (-1) * f 1 2 * ((0 + 1 * f 2 1 * (0 + 1 * f 3 3 * 1)) + (-1) * f 2 3 * (0 + 1 * f 3 1 * 1))) + 1 * f 1 3 * ((0 + 1 * f 2 1 * (0 + 1 * f 3 2 * 1)) + (-1) * f 2 2 * (0 + 1 * f 3 1 * 1))) * f 0 0) + (-1) * (((0 + 1 * f 0 1 * ((0 + 1 * f 2 2 * (0 + 1 * f 3 3 * 1)) + (-1) * f 2 3 * (0 + 1 * f 3 2 * 1))) + (-1) * f 0 2 * ((0 + 1 * f 2 1 * (0 + 1 * f 3 3 * 1)) + (-1) * f 2 3 * (0 + 1 * f 3 1 * 1))) + 1 * f 0 3 * ((0 + 1 * f 2 1 * (0 + 1 * f 3 2 * 1)) + (-1) * f 2 2 * (0 + 1 * f 3 1 * 1))) * f 1 0) + 1 * (((0 + 1 * f 0 1 * ((0 + 1 * f 1 2 * (0 + 1 * f 3 3 * 1)) + (-1) * f 1 3 * (0 + 1 * f 3 2 * 1))) + (-1) * f 0 2 * ((0 + 1 * f 1 1 * (0 + 1 * f 3 3 * 1)) + (-1) * f 1 3 * (0 + 1 * f 3 1 * 1))) + 1 * f 0 3 * ((0 + 1 * f 1 1 * (0 + 1 * f 3 2 * 1)) + (-1) * f 1 2 * (0 + 1 * f 3 1 * 1))) * f 2 0) + (-1) * (((0 + 1 * f 0 1 * ((0 + 1 * f 1 2 * (0 + 1 * f 2 3 * 1)) + (-1) * f 1 3 * (0 + 1 * f 2 2 * 1))) + (-1) * f 0 2 * ((0 + 1 * f 1 1 * (0 + 1 * f 2 3 * 1)) + (-1) * f 1 3 * (0 + 1 * f 2 1 * 1))) + 1 * f 0 3 * ((0 + 1 * f 1 1 * (0 + 1 * f 2 2 * 1)) + (-1) * f 1 2 * (0 + 1 * f 2 1 * 1))) * f 3 0) := by kernel_rfl
  have e2 : detK 4 f = ((((0 + 1 * f 0 0 * (((0 + 1 * f 1 1 * ((0 + 1 * f 2 2 * (0 + 1 * f 3 3 * 1)) + (-1) * f 2 3 * (0 + 1 * f 3 2 * 1))) + (-1) * f 1 2 * ((0 + 1 * f 2 1 * (0 + 1 * f 3 3 * 1)) + (-1) * f 2 3 * (0 + 1 * f 3 1 * 1))) + 1 * f 1 3 * ((0 + 1 * f 2 1 * (0 + 1 * f 3 2 * 1)) + (-1) * f 2 2 * (0 + 1 * f 3 1 * 1)))) + (-1) * f 0 1 * (((0 + 1 * f 1 0 * ((0 + 1 * f 2 2 * (0 + 1 * f 3 3 * 1)) + (-1) * f 2 3 * (0 + 1 * f 3 2 * 1))) + (-1) * f 1 2 * ((0 + 1 * f 2 0 * (0 + 1 * f 3 3 * 1)) + (-1) * f 2 3 * (0 + 1 * f 3 0 * 1))) + 1 * f 1 3 * ((0 + 1 * f 2 0 * (0 + 1 * f 3 2 * 1)) + (-1) * f 2 2 * (0 + 1 * f 3 0 * 1)))) + 1 * f 0 2 * (((0 + 1 * f 1 0 * ((0 + 1 * f 2 1 * (0 + 1 * f 3 3 * 1)) + (-1) * f 2 3 * (0 + 1 * f 3 1 * 1))) + (-1) * f 1 1 * ((0 + 1 * f 2 0 * (0 + 1 * f 3 3 * 1)) + (-1) * f 2 3 * (0 + 1 * f 3 0 * 1))) + 1 * f 1 3 * ((0 + 1 * f 2 0 * (0 + 1 * f 3 1 * 1)) + (-1) * f 2 1 * (0 + 1 * f 3 0 * 1)))) + (-1) * f 0 3 * (((0 + 1 * f 1 0 * ((0 + 1 * f 2 1 * (0 + 1 * f 3 2 * 1)) + (-1) * f 2 2 * (0 + 1 * f 3 1 * 1))) + (-1) * f 1 1 * ((0 + 1 * f 2 0 * (0 + 1 * f 3 2 * 1)) + (-1) * f 2 2 * (0 + 1 * f 3 0 * 1))) + 1 * f 1 2 * ((0 + 1 * f 2 0 * (0 + 1 * f 3 1 * 1)) + (-1) * f 2 1 * (0 + 1 * f 3 0 * 1)))) := by kernel_rfl
  rw [e1, e2]
  clear e1 e2
  generalize f 0 0 = f00
  generalize f 0 1 = f01
  generalize f 0 2 = f02
  generalize f 0 3 = f03
  generalize f 1 0 = f10
  generalize f 1 1 = f11
  generalize f 1 2 = f12
  generalize f 1 3 = f13
  generalize f 2 0 = f20
  generalize f 2 1 = f21
  generalize f 2 2 = f22
  generalize f 2 3 = f23
  generalize f 3 0 = f30
  generalize f 3 1 = f31
  generalize f 3 2 = f32
  generalize f 3 3 = f33
  grind
theorem kad401 (f : Nat → Nat → K) : sK 4 (fun m => adjK 4 f 0 m * f m 1) = 0 := by
  have e1 : sK 4 (fun m => adjK 4 f 0 m * f m 1) = ((((0 + 1 * (((0 + 1 * f 1 1 * ((0 + 1 * f 2 2 * (0 + 1 * f 3 3 * 1)) + (-1) * f 2 3 * (0 + 1 * f 3 2 * 1))) + (-1) * f 1 2 * ((0 + 1 * f 2 1 * (0 + 1 * f 3 3 * 1)) + (-1) * f 2 3 * (0 + 1 * f 3 1 * 1))) + 1 * f 1 3 * ((0 + 1 * f 2 1 * (0 + 1 * f 3 2 * 1)) + (-1) * f 2 2 * (0 + 1 * f 3 1 * 1))) * f 0 1) + (-1) * (((0 + 1 * f 0 1 * ((0 + 1 * f 2 2 * (0 + 1 * f 3 3 * 1)) + (-1) * f 2 3 * (0 + 1 * f 3 2 * 1))) + (-1) * f 0 2 * ((0 + 1 * f 2 1 * (0 + 1 * f 3 3 * 1)) + (-1) * f 2 3 * (0 + 1 * f 3 1 * 1))) + 1 * f 0 3 * ((0 + 1 * f 2 1 * (0 + 1 * f 3 2 * 1)) + (-1) * f 2 2 * (0 + 1 * f 3 1 * 1))) * f 1 1) + 1 * (((0 + 1 * f 0 1 * ((0 + 1 * f 1 2 * (0 + 1 * f 3 3 * 1)) + (-1) * f 1 3 * (0 + 1 * f 3 2 * 1))) + (-1) * f 0 2 * ((0 + 1 * f 1 1 * (0 + 1 * f 3 3 * 1)) + (-1) * f 1 3 * (0 + 1 * f 3 1 * 1))) + 1 * f 0 3 * ((0 + 1 * f 1 1 * (0 + 1 * f 3 2 * 1)) + (-1) * f 1 2 * (0 + 1 * f 3 1 * 1))) * f 2 1) + (-1) * (((0 + 1 * f 0 1 * ((0 + 1 * f 1 2 * (0 + 1 * f 2 3 * 1)) + (-1) * f 1 3 * (0 + 1 * f 2 2 * 1))) + (-1) * f 0 2 * ((0 + 1 * f 1 1 * (0 + 1 * f 2 3 * 1)) + (-1) * f 1 3 * (0 + 1 * f 2 1 * 1))) + 1 * f 0 3 * ((0 + 1 * f 1 1 * (0 + 1 * f 2 2 * 1)) + (-1) * f 1 2 * (0 + 1 * f 2 1 * 1))) * f 3 1) := by kernel_rfl
  rw [e1]
  clear e1
  generalize f 0 0 = f00
  generalize f 0 1 = f01
  generalize f 0 2 = f02
  generalize f 0 3 = f03
  generalize f 1 0 = f10
  generalize f 1 1 = f11
  generalize f 1 2 = f12
  generalize f 1 3 = f13
  generalize f 2 0 = f20
  generalize f 2 1 = f21
  generalize f 2 2 = f22
  generalize f 2 3 = f23
  generalize f 3 0 = f30
  generalize f 3 1 = f31
  generalize f 3 2 = f32
  generalize f 3 3 = f33
  grind
theorem kad402 (f : Nat → Nat → K) : sK 4 (fun m => adjK 4 f 0 m * f m 2) = 0 := by
  have e1 : sK 4 (fun m => adjK 4 f 0 m * f m 2) = ((((0 + 1 * (((0 + 1 * f 1 1 * ((0 + 1 * f 2 2 * (0 + 1 * f 3 3 * 1)) + (-1) * f 2 3 * (0 + 1 * f 3 2 * 1))) + (-1) * f 1 2 * ((0 + 1 * f 2 1 * (0 + 1 * f 3 3 * 1)) + (-1) * f 2 3 * (0 + 1 * f 3 1 * 1))) + 1 * f 1 3 * ((0 + 1 * f 2 1 * (0 + 1 * f 3 2 * 1)) + (-1) * f 2 2 * (0 + 1 * f 3 1 * 1))) * f 0 2) + (-1) * (((0 + 1 * f 0 1 * ((0 + 1 * f 2 2 * (0 + 1 * f 3 3 * 1)) + (-1) * f 2 3 * (0 + 1 * f 3 2 * 1))) + (-1) * f 0 2 * ((0 + 1 * f 2 1 * (0 + 1 * f 3 3 * 1)) + (-1) * f 2 3 * (0 + 1 * f 3 1 * 1))) + 1 * f 0 3 * ((0 + 1 * f 2 1 * (0 + 1 * f 3 2 * 1)) + (-1) * f 2 2 * (0 + 1 * f 3 1 * 1))) * f 1 2) + 1 * (((0 + 1 * f 0 1 * ((0 + 1 * f 1 2 * (0 + 1 * f 3 3 * 1)) + (-1) * f 1 3 * (0 + 1 * f 3 2 * 1))) + (-1) * f 0 2 * ((0 + 1 * f 1 1 * (0 + 1 * f 3 3 * 1)) + (-1) * f 1 3 * (0 + 1 * f 3 1 * 1))) + 1 * f 0 3 * ((0 + 1 * f 1 1 * (0 + 1 * f 3 2 * 1)) + (-1) * f 1 2 * (0 + 1 * f 3 1 * 1))) * f 2 2) + (-1) * (((0 + 1 * f 0 1 * ((0 + 1 * f 1 2 * (0 + 1 * f 2 3 * 1)) + (-1) * f 1 3 * (0 + 1 * f 2 2 * 1))) + (-1) * f 0 2 * ((0 + 1 * f 1 1 * (0 + 1 * f 2 3 * 1)) + (-1) * f 1 3 * (0 + 1 * f 2 1 * 1))) + 1 * f 0 3 * ((0 + 1 * f 1 1 * (0 + 1 * f 2 2 * 1)) + (-1) * f 1 2 * (0 + 1 * f 2 1 * 1))) * f 3 2) := by kernel_rfl
  rw [e1]
  clear e1
  generalize f 0 0 = f00
  generalize f 0 1 = f01
  generalize f 0 2 = f02
  generalize f 0 3 = f03
  generalize f 1 0 = f10
  generalize f 1 1 = f11
  generalize f 1 2 = f12
  generalize f 1 3 = f13
  generalize f 2 0 = f20
  generalize f 2 1 = f21
  generalize f 2 2 = f22
  generalize f 2 3 = f23
  generalize f 3 0 = f30
  generalize f 3 1 = f31
  generalize f 3 2 = f32
  generalize f 3 3 = f33
  grind
theorem kad403 (f : Nat → Nat → K) : sK 4 (fun m => adjK 4 f 0 m * f m 3) = 0 := by
  have e1 : sK 4 (fun m => adjK 4 f 0 m * f m 3) = ((((0 + 1 * (((0 + 1 * f 1 1 * ((0 + 1 * f 2 2 * (0 + 1 * f 3 3 * 1)) + (-1) * f 2 3 * (0 + 1 * f 3 2 * 1))) + (-1) * f 1 2 * ((0 + 1 * f 2 1 * (0 + 1 * f 3 3 * 1)) + (-1) * f 2 3 * (0 + 1 * f 3 1 * 1))) + 1 * f 1 3 * ((0 + 1 * f 2 1 * (0 + 1 * f 3 2 * 1)) + (-1) * f 2 2 * (0 + 1 * f 3 1 * 1))) * f 0 3) + (-1) * (((0 + 1 * f 0 1 * ((0 + 1 * f 2 2 * (0 + 1 * f 3 3 * 1)) + (-1) * f 2 3 * (0 + 1 * f 3 2 * 1))) + (-1) * f 0 2 * ((0 + 1 * f 2 1 * (0 + 1 * f 3 3 * 1)) + (-1) * f 2 3 * (0 + 1 * f 3 1 * 1))) + 1 * f 0 3 * ((0 + 1 * f 2 1 * (0 + 1 * f 3 2 * 1)) + (-1) * f 2 2 * (0 + 1 * f 3 1 * 1))) * f 1 3) + 1 * (((0 + 1 * f 0 1 * ((0 + 1 * f 1 2 * (0 + 1 * f 3 3 * 1)) + (-1) * f 1 3 * (0 + 1 * f 3 2 * 1))) + (-1) * f 0 2 * ((0 + 1 * f 1 1 * (0 + 1 * f 3 3 * 1)) + (-1) * f 1 3 * (0 + 1 * f 3 1 * 1))) + 1 * f 0 3 * ((0 + 1 * f 1 1 * (0 + 1 * f 3 2 * 1)) + (-1) * f 1 2 * (0 + 1 * f 3 1 * 1))) * f 2 3) + (-1) * (((0 + 1 * f 0 1 * ((0 + 1 * f 1 2 * (0 + 1 * f 2 3 * 1)) + (-1) * f 1 3 * (0 + 1 * f 2 2 * 1))) + (-1) * f 0 2 * ((0 + 1 * f 1 1 * (0 + 1 * f 2 3 * 1)) + (-1) * f 1 3 * (0 + 1 * f 2 1 * 1))) + 1 * f 0 3 * ((0 + 1 * f 1 1 * (0 + 1 * f 2 2 * 1)) + (-1) * f 1 2 * (0 + 1 * f 2 1 * 1))) * f 3 3) := by kernel_rfl
  rw [e1]
  clear e1
  generalize f 0 0 = f00
  generalize f 0 1 = f01
  generalize f 0 2 = f02
  generalize f 0 3 = f03
  generalize f 1 0 = f10
  generalize f 1 1 = f11
  generalize f 1 2 = f12
  generalize f 1 3 = f13
  generalize f 2 0 = f20
  generalize f 2 1 = f21
  generalize f 2 2 = f22
  generalize f 2 3 = f23
  generalize f 3 0 = f30
  generalize f 3 1 = f31
  generalize f 3 2 = f32
  generalize f 3 3 = f33
  grind
theorem kad410 (f : Nat → Nat → K) : sK 4 (fun m => adjK 4 f 1 m * f m 0) = 0 := by
  have e1 : sK 4 (fun m => adjK 4 f 1 m * f m 0) = ((((0 + (-1) * (((0 + 1 * f 1 0 * ((0 + 1 * f 2 2 * (0 + 1 * f 3 3 * 1)) + (-1) * f 2 3 * (0 + 1 * f 3 2 * 1))) + (-1) * f 1 2 * ((0 + 1 * f 2 0 * (0 + 1 * f 3 3 * 1)) + (-1) * f 2 3 * (0 + 1 * f 3 0 * 1))) + 1 * f 1 3 * ((0 + 1 * f 2 0 * (0 + 1 * f 3 2 * 1)) + (-1) * f 2 2 * (0 + 1 * f 3 0 * 1))) * f 0 0) + 1 * (((0 + 1 * f 0 0 * ((0 + 1 * f 2 2 * (0 + 1 * f 3 3 * 1)) + (-1) * f 2 3 * (0 + 1 * f 3 2 * 1))) + (-1) * f 0 2 * ((0 + 1 * f 2 0 * (0 + 1 * f 3 3 * 1)) + (-1) * f 2 3 * (0 + 1 * f 3 0 * 1))) + 1 * f 0 3 * ((0 + 1 * f 2 0 * (0 + 1 * f 3 2 * 1)) + (-1) * f 2 2 * (0 + 1 * f 3 0 * 1))) * f 1 0) + (-1) * (((0 + 1 * f 0 0 * ((0 + 1 * f 1 2 * (0 + 1 * f 3 3 * 1)) + (-1) * f 1 3 * (0 + 1 * f 3 2 * 1))) + (-1) * f 0 2 * ((0 + 1 * f 1 0 * (0 + 1 * f 3 3 * 1)) + (-1) * f 1 3 * (0 + 1 * f 3 0 * 1))) + 1 * f 0 3 * ((0 + 1 * f 1 0 * (0 + 1 * f 3 2 * 1)) + (-1) * f 1 2 * (0 + 1 * f 3 0 * 1))) * f 2 0) + 1 * (((0 + 1 * f 0 0 * ((0 + 1 * f 1 2 * (0 + 1 * f 2 3 * 1)) + (-1) * f 1 3 * (0 + 1 * f 2 2 * 1))) + (-1) * f 0 2 * ((0 + 1 * f 1 0 * (0 + 1 * f 2 3 * 1)) + (-1) * f 1 3 * (0 + 1 * f 2 0 * 1))) + 1 * f 0 3 * ((0 + 1 * f 1 0 * (0 + 1 * f 2 2 * 1)) + (-1) * f 1 2 * (0 + 1 * f 2 0 * 1))) * f 3 0) := by kernel_rfl
  rw [e1]
  clear e1
  generalize f 0 0 = f00
  generalize f 0 1 = f01
  generalize f 0 2 = f02
  generalize f 0 3 = f03
  generalize f 1 0 = f10
  generalize f 1 1 = f11
  generalize f 1 2 = f12
  generalize f 1 3 = f13
  generalize f 2 0 = f20
  generalize f 2 1 = f21
  generalize f 2 2 = f22
  generalize f 2 3 = f23
  generalize f 3 0 = f30
  generalize f 3 1 = f31
  generalize f 3 2 = f32
  generalize f 3 3 = f33
  grind
theorem kad411 (f : Nat → Nat → K) : sK 4 (fun m => adjK 4 f 1 m * f m 1) = detK 4 f := by
  have e1 : sK 4 (fun m => adjK 4 f 1 m * f m 1) = ((((0 + (-1) * (((0 + 1 * f 1 0 * ((0 + 1 * f 2 2 * (0 + 1 * f 3 3 * 1)) + (-1) * f 2 3 * (0 + 1 * f 3 2 * 1))) + (-1) * f 1 2 * ((0 + 1 * f 2 0 * (0 + 1 * f 3 3 * 1)) + (-1) * f 2 3 * (0 + 1 * f 3 0 * 1))) + 1 * f 1 3 * ((0 + 1 * f 2 0 * (0 + 1 * f 3 2 * 1)) + (-1) * f 2 2 * (0 + 1 * f 3 0 * 1))) * f 0 1) + 1 * (((0 + 1 * f 0 0 * ((0 + 1 * f 2 2 * (0 + 1 * f 3 3 * 1)) + (-1) * f 2 3 * (0 + 1 * f 3 2 * 1))) + (-1) * f 0 2 * ((0 + 1 * f 2 0 * (0 + 1 * f 3 3 * 1)) + (-1) * f 2 3 * (0 + 1 * f 3 0 * 1))) + 1 * f 0 3 * ((0 + 1 * f 2 0 * (0 + 1 * f 3 2 * 1)) + (-1) * f 2 2 * (0 + 1 * f 3 0 * 1))) * f 1 1) + (-1) * (((0 + 1 * f 0 0 * ((0 + 1 * f 1 2 * (0 + 1 * f 3 3 * 1)) + (-1) * f 1 3 * (0 + 1 * f 3 2 * 1))) + (-1) * f 0 2 * ((0 + 1 * f 1 0 * (0 + 1 * f 3 3 * 1)) + (-1) * f 1 3 * (0 + 1 * f 3 0 * 1))) + 1 * f 0 3 * ((0 + 1 * f 1 0 * (0 + 1 * f 3 2 * 1)) + (-1) * f 1 2 * (0 + 1 * f 3 0 * 1))) * f 2 1) + 1 * (((0 + 1 * f 0 0 * ((0 + 1 * f 1 2 * (0 + 1 * f 2 3 * 1)) + (-1) * f 1 3 * (0 + 1 * f 2 2 * 1))) + (-1) * f 0 2 * ((0 + 1 * f 1 0 * (0 + 1 * f 2 3 * 1)) + (-1) * f 1 3 * (0 + 1 * f 2 0 * 1))) + 1 * f 0 3 * ((0 + 1 * f 1 0 * (0 + 1 * f 2 2 * 1)) + (-1) * f 1 2 * (0 + 1 * f 2 0 * 1))) * f 3 1) := by kernel_rfl
  have e2 : detK 4 f = ((((0 + 1 * f 0 0 * (((0 + 1 * f 1 1 * ((0 + 1 * f 2 2 * (0 + 1 * f 3 3 * 1)) + (-1) * f 2 3 * (0 + 1 * f 3 2 * 1))) + (-1) * f 1 2 * ((0 + 1 * f 2 1 * (0 + 1 * f 3 3 * 1)) + (-1) * f 2 3 * (0 + 1 * f 3 1 * 1))) + 1 * f 1 3 * ((0 + 1 * f 2 1 * (0 + 1 * f 3 2 * 1)) + (-1) * f 2 2 * (0 + 1 * f 3 1 * 1)))) + (-1) * f 0 1 * (((0 + 1 * f 1 0 * ((0 + 1 * f 2 2 * (0 + 1 * f 3 3 * 1)) + (-1) * f 2 3 * (0 + 1 * f 3 2 * 1))) + (-1) * f 1 2 * ((0 + 1 * f 2 0 * (0 + 1 * f 3 3 * 1)) + (-1) * f 2 3 * (0 + 1 * f 3 0 * 1))) + 1 * f 1 3 * ((0 + 1 * f 2 0 * (0 + 1 * f 3 2 * 1)) + (-1) * f 2 2 * (0 + 1 * f 3 0 * 1)))) + 1 * f 0 2 * (((0 + 1 * f 1 0 * ((0 + 1 * f 2 1 * (0 + 1 * f 3 3 * 1)) + (-1) * f 2 3 * (0 + 1 * f 3 1 * 1))) + (-1) * f 1 1 * ((0 + 1 * f 2 0 * (0 + 1 * f 3 3 * 1)) + (-1) * f 2 3 * (0 + 1 * f 3 0 * 1))) + 1 * f 1 3 * ((0 + 1 * f 2 0 * (0 + 1 * f 3 1 * 1)) + (-1) * f 2 1 * (0 + 1 * f 3 0 * 1)))) + (-1) * f 0 3 * (((0 + 1 * f 1 0 * ((0 + 1 * f 2 1 * (0 + 1 * f 3 2 * 1)) + (-1) * f 2 2 * (0 + 1 * f 3 1 * 1))) + (-1) * f 1 1 * ((0 + 1 * f 2 0 * (0 + 1 * f 3 2 * 1)) + (-1) * f 2 2 * (0 + 1 * f 3 0 * 1))) + 1 * f 1 2 * ((0 + 1 * f 2 0 * (0 + 1 * f 3 1 * 1)) + (-1) * f 2 1 * (0 + 1 * f 3 0 * 1)))) := by kernel_rfl
  rw [e1, e2]
  clear e1 e2
  generalize f 0 0 = f00
  generalize f 0 1 = f01
  generalize f 0 2 = f02
  generalize f 0 3 = f03
  generalize f 1 0 = f10
  generalize f 1 1 = f11
  generalize f 1 2 = f12
  generalize f 1 3 = f13
  generalize f 2 0 = f20
  generalize f 2 1 = f21
  generalize f 2 2 = f22
  generalize f 2 3 = f23
  generalize f 3 0 = f30
  generalize f 3 1 = f31
  generalize f 3 2 = f32
  generalize f 3 3 = f33
  grind
theorem kad412 (f : Nat → Nat → K) : sK 4 (fun m => adjK 4 f 1 m * f m 2) = 0 := by
  have e1 : sK 4 (fun m => adjK 4 f 1 m * f m 2) = ((((0 + (-1) * (((0 + 1 * f 1 0 * ((0 + 1 * f 2 2 * (0 + 1 * f 3 3 * 1)) + (-1) * f 2 3 * (0 + 1 * f 3 2 * 1))) + (-1) * f 1 2 * ((0 + 1 * f 2 0 * (0 + 1 * f 3 3 * 1)) + (-1) * f 2 3 * (0 + 1 * f 3 0 * 1))) + 1 * f 1 3 * ((0 + 1 * f 2 0 * (0 + 1 * f 3 2 * 1)) + (-1) * f 2 2 * (0 + 1 * f 3 0 * 1))) * f 0 2) + 1 * (((0 + 1 * f 0 0 * ((0 + 1 * f 2 2 * (0 + 1 * f 3 3 * 1)) + (-1) * f 2 3 * (0 + 1 * f 3 2 * 1))) + (-1) * f 0 2 * ((0 + 1 * f 2 0 * (0 + 1 * f 3 3 * 1)) + (-1) * f 2 3 * (0 + 1 * f 3 0 * 1))) + 1 * f 0 3 * ((0 + 1 * f 2 0 * (0 + 1 * f 3 2 * 1)) + (-1) * f 2 2 * (0 + 1 * f 3 0 * 1))) * f 1 2) + (-1) * (((0 + 1 * f 0 0 * ((0 + 1 * f 1 2 * (0 + 1 * f 3 3 * 1)) + (-1) * f 1 3 * (0 + 1 * f 3 2 * 1))) + (-1) * f 0 2 * ((0 + 1 * f 1 0 * (0 + 1 * f 3 3 * 1)) + (-1) * f 1 3 * (0 + 1 * f 3 0 * 1))) + 1 * f 0 3 * ((0 + 1 * f 1 0 * (0 + 1 * f 3 2 * 1)) + (-1) * f 1 2 * (0 + 1 * f 3 0 * 1))) * f 2 2) + 1 * (((0 + 1 * f 0 0 * ((0 + 1 * f 1 2 * (0 + 1 * f 2 3 * 1)) + (-1) * f 1 3 * (0 + 1 * f 2 2 * 1))) + (-1) * f 0 2 * ((0 + 1 * f 1 0 * (0 + 1 * f 2 3 * 1)) + (-1) * f 1 3 * (0 + 1 * f 2 0 * 1))) + 1 * f 0 3 * ((0 + 1 * f 1 0 * (0 + 1 * f 2 2 * 1)) + (-1) * f 1 2 * (0 + 1 * f 2 0 * 1))) * f 3 2) := by kernel_rfl
  rw [e1]
  clear e1
  generalize f 0 0 = f00
  generalize f 0 1 = f01
  generalize f 0 2 = f02
  generalize f 0 3 = f03
  generalize f 1 0 = f10
  generalize f 1 1 = f11
  generalize f 1 2 = f12
  generalize f 1 3 = f13
  generalize f 2 0 = f20
  generalize f 2 1 = f21
  generalize f 2 2 = f22
  generalize f 2 3 = f23
  generalize f 3 0 = f30
  generalize f 3 1 = f31
  generalize f 3 2 = f32
  generalize f 3 3 = f33
  grind
theorem kad413 (f : Nat → Nat → K) : sK 4 (fun m => adjK 4 f 1 m * f m 3) = 0 := by
  have e1 : sK 4 (fun m => adjK 4 f 1 m * f m 3) = ((((0 + (-1) * (((0 + 1 * f 1 0 * ((0 + 1 * f 2 2 * (0 + 1 * f 3 3 * 1)) + (-1) * f 2 3 * (0 + 1 * f 3 2 * 1))) + (-1) * f 1 2 * ((0 + 1 * f 2 0 * (0 + 1 * f 3 3 * 1)) + (-1) * f 2 3 * (0 + 1 * f 3 0 * 1))) + 1 * f 1 3 * ((0 + 1 * f 2 0 * (0 + 1 * f 3 2 * 1)) + (-1) * f 2 2 * (0 + 1 * f 3 0 * 1))) * f 0 3) + 1 * (((0 + 1 * f 0 0 * ((0 + 1 * f 2 2 * (0 + 1 * f 3 3 * 1)) + (-1) * f 2 3 * (0 + 1 * f 3 2 * 1))) + (-1) * f 0 2 * ((0 + 1 * f 2 0 * (0 + 1 * f 3 3 * 1)) + (-1) * f 2 3 * (0 + 1 * f 3 0 * 1))) + 1 * f 0 3 * ((0 + 1 * f 2 0 * (0 + 1 * f 3 2 * 1)) + (-1) * f 2 2 * (0 + 1 * f 3 0 * 1))) * f 1 3) + (-1) * (((0 + 1 * f 0 0 * ((0 + 1 * f 1 2 * (0 + 1 * f 3 3 * 1)) + (-1) * f 1 3 * (0 + 1 * f 3 2 * 1))) + (-1) * f 0 2 * ((0 + 1 * f 1 0 * (0 + 1 * f 3 3 * 1)) + (-1) * f 1 3 * (0 + 1 * f 3 0 * 1))) + 1 * f 0 3 * ((0 + 1 * f 1 0 * (0 + 1 * f 3 2 * 1)) + (-1) * f 1 2 * (0 + 1 * f 3 0 * 1))) * f 2 3) + 1 * (((0 + 1 * f 0 0 * ((0 + 1 * f 1 2 * (0 + 1 * f 2 3 * 1)) + (-1) * f 1 3 * (0 + 1 * f 2 2 * 1))) + (-1) * f 0 2 * ((0 + 1 * f 1 0 * (0 + 1 * f 2 3 * 1)) + (-1) * f 1 3 * (0 + 1 * f 2 0 * 1))) + 1 * f 0 3 * ((0 + 1 * f 1 0 * (0 + 1 * f 2 2 * 1)) + (-1) * f 1 2 * (0 + 1 * f 2 0 * 1))) * f 3 3) := by kernel_rfl
  rw [e1]
  clear e1
  generalize f 0 0 = f00
  generalize f 0 1 = f01
  generalize f 0 2 = f02
  generalize f 0 3 = f03
  generalize f 1 0 = f10
  generalize f 1 1 = f11
  generalize f 1 2 = f12
  generalize f 1 3 = f13
  generalize f 2 0 = f20
  generalize f 2 1 = f21
  generalize f 2 2 = f22
  generalize f 2 3 = f23
  generalize f 3 0 = f30
  generalize f 3 1 = f31
  generalize f 3 2 = f32
  generalize f 3 3 = f33
  grind
theorem kad420 (f : Nat → Nat → K) : sK 4 (fun m => adjK 4 f 2 m * f m 0) = 0 := by
  have e1 : sK 4 (fun m => adjK 4 f 2 m * f m 0) = ((((0 + 1 * (((0 + 1 * f 1 0 * ((0 + 1 * f 2 1 * (0 + 1 * f 3 3 * 1)) + (-1) * f 2 3 * (0 + 1 * f 3 1 * 1))) + (-1) * f 1 1 * ((0 + 1 * f 2 0 * (0 + 1 * f 3 3 * 1)) + (-1) * f 2 3 * (0 + 1 * f 3 0 * 1))) + 1 * f 1 3 * ((0 + 1 * f 2 0 * (0 + 1 * f 3 1 * 1)) + (-1) * f 2 1 * (0 + 1 * f 3 0 * 1))) * f 0 0) + (-1) * (((0 + 1 * f 0 0 * ((0 + 1 * f 2 1 * (0 + 1 * f 3 3 * 1)) + (-1) * f 2 3 * (0 + 1 * f 3 1 * 1))) + (-1) * f 0 1 * ((0 + 1 * f 2 0 * (0 + 1 * f 3 3 * 1)) + (-1) * f 2 3 * (0 + 1 * f 3 0 * 1))) + 1 * f 0 3 * ((0 + 1 * f 2 0 * (0 + 1 * f 3 1 * 1)) + (-1) * f 2 1 * (0 + 1 * f 3 0 * 1))) * f 1 0) + 1 * (((0 + 1 * f 0 0 * ((0 + 1 * f 1 1 * (0 + 1 * f 3 3 * 1)) + (-1) * f 1 3 * (0 + 1 * f 3 1 * 1))) + (-1) * f 0 1 * ((0 + 1 * f 1 0 * (0 + 1 * f 3 3 * 1)) + (-1) * f 1 3 * (0 + 1 * f 3 0 * 1))) + 1 * f 0 3 * ((0 + 1 * f 1 0 * (0 + 1 * f 3 1 * 1)) + (-1) * f 1 1 * (0 + 1 * f 3 0 * 1))) * f 2 0) + (-1) * (((0 + 1 * f 0 0 * ((0 + 1 * f 1 1 * (0 + 1 * f 2 3 * 1)) + (-1) * f 1 3 * (0 + 1 * f 2 1 * 1))) + (-1) * f 0 1 * ((0 + 1 * f 1 0 * (0 + 1 * f 2 3 * 1)) + (-1) * f 1 3 * (0 + 1 * f 2 0 * 1))) + 1 * f 0 3 * ((0 + 1 * f 1 0 * (0 + 1 * f 2 1 * 1)) + (-1) * f 1 1 * (0 + 1 * f 2 0 * 1))) * f 3 0) := by kernel_rfl
  rw [e1]
  clear e1
  generalize f 0 0 = f00
  generalize f 0 1 = f01
  generalize f 0 2 = f02
  generalize f 0 3 = f03
  generalize f 1 0 = f10
  generalize f 1 1 = f11
  generalize f 1 2 = f12
  generalize f 1 3 = f13
  generalize f 2 0 = f20
  generalize f 2 1 = f21
  generalize f 2 2 = f22
  generalize f 2 3 = f23
  generalize f 3 0 = f30
  generalize f 3 1 = f31
  generalize f 3 2 = f32
  generalize f 3 3 = f33
  grind
theorem kad421 (f : Nat → Nat → K) : sK 4 (fun m => adjK 4 f 2 m * f m 1) = 0 := by
  have e1 : sK 4 (fun m => adjK 4 f 2 m * f m 1) = ((((0 + 1 * (((0 + 1 * f 1 0 * ((0 + 1 * f 2 1 * (0 + 1 * f 3 3 * 1)) + (-1) * f 2 3 * (0 + 1 * f 3 1 * 1))) + (-1) * f 1 1 * ((0 + 1 * f 2 0 * (0 + 1 * f 3 3 * 1)) + (-1) * f 2 3 * (0 + 1 * f 3 0 * 1))) + 1 * f 1 3 * ((0 + 1 * f 2 0 * (0 + 1 * f 3 1 * 1)) + (-1) * f 2 1 * (0 + 1 * f 3 0 * 1))) * f 0 1) + (-1) * (((0 + 1 * f 0 0 * ((0 + 1 * f 2 1 * (0 + 1 * f 3 3 * 1)) + (-1) * f 2 3 * (0 + 1 * f 3 1 * 1))) + (-1) * f 0 1 * ((0 + 1 * f 2 0 * (0 + 1 * f 3 3 * 1)) + (-1) * f 2 3 * (0 + 1 * f 3 0 * 1))) + 1 * f 0 3 * ((0 + 1 * f 2 0 * (0 + 1 * f 3 1 * 1)) + (-1) * f 2 1 * (0 + 1 * f 3 0 * 1))) * f 1 1) + 1 * (((0 + 1 * f 0 0 * ((0 + 1 * f 1 1 * (0 + 1 * f 3 3 * 1)) + (-1) * f 1 3 * (0 + 1 * f 3 1 * 1))) + (-1) * f 0 1 * ((0 + 1 * f 1 0 * (0 + 1 * f 3 3 * 1)) + (-1) * f 1 3 * (0 + 1 * f 3 0 * 1))) + 1 * f 0 3 * ((0 + 1 * f 1 0 * (0 + 1 * f 3 1 * 1)) + (-1) * f 1 1 * (0 + 1 * f 3 0 * 1))) * f 2 1) + (-1) * (((0 + 1 * f 0 0 * ((0 + 1 * f 1 1 * (0 + 1 * f 2 3 * 1)) + (-1) * f 1 3 * (0 + 1 * f 2 1 * 1))) + (-1) * f 0 1 * ((0 + 1 * f 1 0 * (0 + 1 * f 2 3 * 1)) + (-1) * f 1 3 * (0 + 1 * f 2 0 * 1))) + 1 * f 0 3 * ((0 + 1 * f 1 0 * (0 + 1 * f 2 1 * 1)) + (-1) * f 1 1 * (0 + 1 * f 2 0 * 1))) * f 3 1) := by kernel_rfl
  rw [e1]
  clear e1
  generalize f 0 0 = f00
  generalize f 0 1 = f01
  generalize f 0 2 = f02
  generalize f 0 3 = f03
  generalize f 1 0 = f10
  generalize f 1 1 = f11
  generalize f 1 2 = f12
  generalize f 1 3 = f13
  generalize f 2 0 = f20
  generalize f 2 1 = f21
  generalize f 2 2 = f22
  generalize f 2 3 = f23
  generalize f 3 0 = f30
  generalize f 3 1 = f31
  generalize f 3 2 = f32
  generalize f 3 3 = f33
  grind
theorem kad422 (f : Nat → Nat → K) : sK 4 (fun m => adjK 4 f 2 m * f m 2) = detK 4 f := by
  have e1 : sK 4 (fun m => adjK 4 f 2 m * f m 2) = ((((0 + 1 * (((0 + 1 * f 1 0 * ((0 + 1 * f 2 1 * (0 + 1 * f 3 3 * 1)) + (-1) * f 2 3 * (0 + 1 * f 3 1 * 1))) + (-1) * f 1 1 * ((0 + 1 * f 2 0 * (0 + 1 * f 3 3 * 1)) + (-1) * f 2 3 * (0 + 1 * f 3 0 * 1))) + 1 * f 1 3 * ((0 + 1 * f 2 0 * (0 + 1 * f 3 1 * 1)) + (-1) * f 2 1 * (0 + 1 * f 3 0 * 1))) * f 0 2) + (-1) * (((0 + 1 * f 0 0 * ((0 + 1 * f 2 1 * (0 + 1 * f 3 3 * 1)) + (-1) * f 2 3 * (0 + 1 * f 3 1 * 1))) + (-1) * f 0 1 * ((0 + 1 * f 2 0 * (0 + 1 * f 3 3 * 1)) + (-1) * f 2 3 * (0 + 1 * f 3 0 * 1))) + 1 * f 0 3 * ((0 + 1 * f 2 0 * (0 + 1 * f 3 1 * 1)) + (-1) * f 2 1 * (0 + 1 * f 3 0 * 1))) * f 1 2) + 1 * (((0 + 1 * f 0 0 * ((0 + 1 * f 1 1 * (0 + 1 * f 3 3 * 1)) + (-1) * f 1 3 * (0 + 1 * f 3 1 * 1))) + (-1) * f 0 1 * ((0 + 1 * f 1 0 * (0 + 1 * f 3 3 * 1)) + (-1) * f 1 3 * (0 + 1 * f 3 0 * 1))) + 1 * f 0 3 * ((0 + 1 * f 1 0 * (0 + 1 * f 3 1 * 1)) + (-1) * f 1 1 * (0 + 1 * f 3 0 * 1))) * f 2 2) + (-1) * (((0 + 1 * f 0 0 * ((0 + 1 * f 1 1 * (0 + 1 * f 2 3 * 1)) + (-1) * f 1 3 * (0 + 1 * f 2 1 * 1))) + (-1) * f 0 1 * ((0 + 1 * f 1 0 * (0 + 1 * f 2 3 * 1)) + (-1) * f 1 3 * (0 + 1 * f 2 0 * 1))) + 1 * f 0 3 * ((0 + 1 * f 1 0 * (0 + 1 * f 2 1 * 1)) + (-1) * f 1 1 * (0 + 1 * f 2 0 * 1))) * f 3 2) := by kernel_rfl
  have e2 : detK 4 f = ((((0 + 1 * f 0 0 * (((0 + 1 * f 1 1 * ((0 + 1 * f 2 2 * (0 + 1 * f 3 3 * 1)) + (-1) * f 2 3 * (0 + 1 * f 3 2 * 1))) + (-1) * f 1 2 * ((0 + 1 * f 2 1 * (0 + 1 * f 3 3 * 1)) + (-1) * f 2 3 * (0 + 1 * f 3 1 * 1))) + 1 * f 1 3 * ((0 + 1 * f 2 1 * (0 + 1 * f 3 2 * 1)) + (-1) * f 2 2 * (0 + 1 * f 3 1 * 1)))) + (-1) * f 0 1 * (((0 + 1 * f 1 0 * ((0 + 1 * f 2 2 * (0 + 1 * f 3 3 * 1)) + (-1) * f 2 3 * (0 + 1 * f 3 2 * 1))) + (-1) * f 1 2 * ((0 + 1 * f 2 0 * (0 + 1 * f 3 3 * 1)) + (-1) * f 2 3 * (0 + 1 * f 3 0 * 1))) + 1 * f 1 3 * ((0 + 1 * f 2 0 * (0 + 1 * f 3 2 * 1)) + (-1) * f 2 2 * (0 + 1 * f 3 0 * 1)))) + 1 * f 0 2 * (((0 + 1 * f 1 0 * ((0 + 1 * f 2 1 * (0 + 1 * f 3 3 * 1)) + (-1) * f 2 3 * (0 + 1 * f 3 1 * 1))) + (-1) * f 1 1 * ((0 + 1 * f 2 0 * (0 + 1 * f 3 3 * 1)) + (-1) * f 2 3 * (0 + 1 * f 3 0 * 1))) + 1 * f 1 3 * ((0 + 1 * f 2 0 * (0 + 1 * f 3 1 * 1)) + (-1) * f 2 1 * (0 + 1 * f 3 0 * 1)))) + (-1) * f 0 3 * (((0 + 1 * f 1 0 * ((0 + 1 * f 2 1 * (0 + 1 * f 3 2 * 1)) + (-1) * f 2 2 * (0 + 1 * f 3 1 * 1))) + (-1) * f 1 1 * ((0 + 1 * f 2 0 * (0 + 1 * f 3 2 * 1)) + (-1) * f 2 2 * (0 + 1 * f 3 0 * 1))) + 1 * f 1 2 * ((0 + 1 * f 2 0 * (0 + 1 * f 3 1 * 1)) + (-1) * f 2 1 * (0 + 1 * f 3 0 * 1)))) := by kernel_rfl
  rw [e1, e2]
  clear e1 e2
  generalize f 0 0 = f00
  generalize f 0 1 = f01
  generalize f 0 2 = f02
  generalize f 0 3 = f03
  generalize f 1 0 = f10
  generalize f 1 1 = f11
  generalize f 1 2 = f12
  generalize f 1 3 = f13
  generalize f 2 0 = f20
  generalize f 2 1 = f21
  generalize f 2 2 = f22
  generalize f 2 3 = f23
  generalize f 3 0 = f30
  generalize f 3 1 = f31
  generalize f 3 2 = f32
  generalize f 3 3 = f33
  grind
theorem kad423 (f : Nat → Nat → K) : sK 4 (fun m => adjK 4 f 2 m * f m 3) = 0 := by
  have e1 : sK 4 (fun m => adjK 4 f 2 m * f m 3) = ((((0 + 1 * (((0 + 1 * f 1 0 * ((0 + 1 * f 2 1 * (0 + 1 * f 3 3 * 1)) + (-1) * f 2 3 * (0 + 1 * f 3 1 * 1))) + (-1) * f 1 1 * ((0 + 1 * f 2 0 * (0 + 1 * f 3 3 * 1)) + (-1) * f 2 3 * (0 + 1 * f 3 0 * 1))) + 1 * f 1 3 * ((0 + 1 * f 2 0 * (0 + 1 * f 3 1 * 1)) + (-1) * f 2 1 * (0 + 1 * f 3 0 * 1))) * f 0 3) + (-1) * (((0 + 1 * f 0 0 * ((0 + 1 * f 2 1 * (0 + 1 * f 3 3 * 1)) + (-1) * f 2 3 * (0 + 1 * f 3 1 * 1))) + (-1) * f 0 1 * ((0 + 1 * f 2 0 * (0 + 1 * f 3 3 * 1)) + (-1) * f 2 3 * (0 + 1 * f 3 0 * 1))) + 1 * f 0 3 * ((0 + 1 * f 2 0 * (0 + 1 * f 3 1 * 1)) + (-1) * f 2 1 * (0 + 1 * f 3 0 * 1))) * f 1 3) + 1 * (((0 + 1 * f 0 0 * ((0 + 1 * f 1 1 * (0 + 1 * f 3 3 * 1)) + (-1) * f 1 3 * (0 + 1 * f 3 1 * 1))) + (-1) * f 0 1 * ((0 + 1 * f 1 0 * (0 + 1 * f 3 3 * 1)) + (-1) * f 1 3 * (0 + 1 * f 3 0 * 1))) + 1 * f 0 3 * ((0 + 1 * f 1 0 * (0 + 1 * f 3 1 * 1)) + (-1) * f 1 1 * (0 + 1 * f 3 0 * 1))) * f 2 3) + (-1) * (((0 + 1 * f 0 0 * ((0 + 1 * f 1 1 * (0 + 1 * f 2 3 * 1)) + (-1) * f 1 3 * (0 + 1 * f 2 1 * 1))) + (-1) * f 0 1 * ((0 + 1 * f 1 0 * (0 + 1 * f 2 3 * 1)) + (-1) * f 1 3 * (0 + 1 * f 2 0 * 1))) + 1 * f 0 3 * ((0 + 1 * f 1 0 * (0 + 1 * f 2 1 * 1)) + (-1) * f 1 1 * (0 + 1 * f 2 0 * 1))) * f 3 3) := by kernel_rfl
  rw [e1]
  clear e1
  generalize f 0 0 = f00
  generalize f 0 1 = f01
  generalize f 0 2 = f02
  generalize f 0 3 = f03
  generalize f 1 0 = f10
  generalize f 1 1 = f11
  generalize f 1 2 = f12
  generalize f 1 3 = f13
  generalize f 2 0 = f20
  generalize f 2 1 = f21
  generalize f 2 2 = f22
  generalize f 2 3 = f23
  generalize f 3 0 = f30
  generalize f 3 1 = f31
  generalize f 3 2 = f32
  generalize f 3 3 = f33
  grind
theorem kad430 (f : Nat → Nat → K) : sK 4 (fun m => adjK 4 f 3 m * f m 0) = 0 := by
  have e1 : sK 4 (fun m => adjK 4 f 3 m * f m 0) = ((((0 + (-1) * (((0 + 1 * f 1 0 * ((0 + 1 * f 2 1 * (0 + 1 * f 3 2 * 1)) + (-1) * f 2 2 * (0 + 1 * f 3 1 * 1))) + (-1) * f 1 1 * ((0 + 1 * f 2 0 * (0 + 1 * f 3 2 * 1)) + (-1) * f 2 2 * (0 + 1 * f 3 0 * 1))) + 1 * f 1 2 * ((0 + 1 * f 2 0 * (0 + 1 * f 3 1 * 1)) + (-1) * f 2 1 * (0 + 1 * f 3 0 * 1))) * f 0 0) + 1 * (((0 + 1 * f 0 0 * ((0 + 1 * f 2 1 * (0 + 1 * f 3 2 * 1)) + (-1) * f 2 2 * (0 + 1 * f 3 1 * 1))) + (-1) * f 0 1 * ((0 + 1 * f 2 0 * (0 + 1 * f 3 2 * 1)) + (-1) * f 2 2 * (0 + 1 * f 3 0 * 1))) + 1 * f 0 2 * ((0 + 1 * f 2 0 * (0 + 1 * f 3 1 * 1)) + (-1) * f 2 1 * (0 + 1 * f 3 0 * 1))) * f 1 0) + (-1) * (((0 + 1 * f 0 0 * ((0 + 1 * f 1 1 * (0 + 1 * f 3 2 * 1)) + (-1) * f 1 2 * (0 + 1 * f 3 1 * 1))) + (-1) * f 0 1 * ((0 + 1 * f 1 0 * (0 + 1 * f 3 2 * 1)) + (-1) * f 1 2 * (0 + 1 * f 3 0 * 1))) + 1 * f 0 2 * ((0 + 1 * f 1 0 * (0 + 1 * f 3 1 * 1)) + (-1) * f 1 1 * (0 + 1 * f 3 0 * 1))) * f 2 0) + 1 * (((0 + 1 * f 0 0 * ((0 + 1 * f 1 1 * (0 + 1 * f 2 2 * 1)) + (-1) * f 1 2 * (0 + 1 * f 2 1 * 1))) + (-1) * f 0 1 * ((0 + 1 * f 1 0 * (0 + 1 * f 2 2 * 1)) + (-1) * f 1 2 * (0 + 1 * f 2 0 * 1))) + 1 * f 0 2 * ((0 + 1 * f 1 0 * (0 + 1 * f 2 1 * 1)) + (-1) * f 1 1 * (0 + 1 * f 2 0 * 1))) * f 3 0) := by kernel_rfl
  rw [e1]
  clear e1
  generalize f 0 0 = f00
  generalize f 0 1 = f01
  generalize f 0 2 = f02
  generalize f 0 3 = f03
  generalize f 1 0 = f10
  generalize f 1 1 = f11
  generalize f 1 2 = f12
  generalize f 1 3 = f13
  generalize f 2 0 = f20
  generalize f 2 1 = f21
  generalize f 2 2 = f22
  generalize f 2 3 = f23
  generalize f 3 0 = f30
  generalize f 3 1 = f31
  generalize f 3 2 = f32
  generalize f 3 3 = f33
  grind
theorem kad431 (f : Nat → Nat → K) : sK 4 (fun m => adjK 4 f 3 m * f m 1) = 0 := by
  have e1 : sK 4 (fun m => adjK 4 f 3 m * f m 1) = ((((0 + (-1) * (((0 + 1 * f 1 0 * ((0 + 1 * f 2 1 * (0 + 1 * f 3 2 * 1)) + (-1) * f 2 2 * (0 + 1 * f 3 1 * 1))) + (-1) * f 1 1 * ((0 + 1 * f 2 0 * (0 + 1 * f 3 2 * 1)) + (-1) * f 2 2 * (0 + 1 * f 3 0 * 1))) + 1 * f 1 2 * ((0 + 1 * f 2 0 * (0 + 1 * f 3 1 * 1)) + (-1) * f 2 1 * (0 + 1 * f 3 0 * 1))) * f 0 1) + 1 * (((0 + 1 * f 0 0 * ((0 + 1 * f 2 1 * (0 + 1 * f 3 2 * 1)) + (-1) * f 2 2 * (0 + 1 * f 3 1 * 1))) + (-1) * f 0 1 * ((0 + 1 * f 2 0 * (0 + 1 * f 3 2 * 1)) + (-1) * f 2 2 * (0 + 1 * f 3 0 * 1))) + 1 * f 0 2 * ((0 + 1 * f 2 0 * (0 + 1 * f 3 1 * 1)) + (-1) * f 2 1 * (0 + 1 * f 3 0 * 1))) * f 1 1) + (-1) * (((0 + 1 * f 0 0 * ((0 + 1 * f 1 1 * (0 + 1 * f 3 2 * 1)) + (-1) * f 1 2 * (0 + 1 * f 3 1 * 1))) + (-1) * f 0 1 * ((0 + 1 * f 1 0 * (0 + 1 * f 3 2 * 1)) + (-1) * f 1 2 * (0 + 1 * f 3 0 * 1))) + 1 * f 0 2 * ((0 + 1 * f 1 0 * (0 + 1 * f 3 1 * 1)) + (-1) * f 1 1 * (0 + 1 * f 3 0 * 1))) * f 2 1) + 1 * (((0 + 1 * f 0 0 * ((0 + 1 * f 1 1 * (0 + 1 * f 2 2 * 1)) + (-1) * f 1 2 * (0 + 1 * f 2 1 * 1))) + (-1) * f 0 1 * ((0 + 1 * f 1 0 * (0 + 1 * f 2 2 * 1)) + (-1) * f 1 2 * (0 + 1 * f 2 0 * 1))) + 1 * f 0 2 * ((0 + 1 * f 1 0 * (0 + 1 * f 2 1 * 1)) + (-1) * f 1 1 * (0 + 1 * f 2 0 * 1))) * f 3 1) := by kernel_rfl
  rw [e1]
  clear e1
  generalize f 0 0 = f00
  generalize f 0 1 = f01
  generalize f 0 2 = f02
  generalize f 0 3 = f03
  generalize f 1 0 = f10
  generalize f 1 1 = f11
  generalize f 1 2 = f12
  generalize f 1 3 = f13
  generalize f 2 0 = f20
  generalize f 2 1 = f21
  generalize f 2 2 = f22
  generalize f 2 3 = f23
  generalize f 3 0 = f30
  generalize f 3 1 = f31
  generalize f 3 2 = f32
  generalize f 3 3 = f33
  grind
theorem kad432 (f : Nat → Nat → K) : sK 4 (fun m => adjK 4 f 3 m * f m 2) = 0 := by
  have e1 : sK 4 (fun m => adjK 4 f 3 m * f m 2) = ((((0 + (-1) * (((0 + 1 * f 1 0 * ((0 + 1 * f 2 1 * (0 + 1 * f 3 2 * 1)) + (-1) * f 2 2 * (0 + 1 * f 3 1 * 1))) + (-1) * f 1 1 * ((0 + 1 * f 2 0 * (0 + 1 * f 3 2 * 1)) + (-1) * f 2 2 * (0 + 1 * f 3 0 * 1))) + 1 * f 1 2 * ((0 + 1 * f 2 0 * (0 + 1 * f 3 1 * 1)) + (-1) * f 2 1 * (0 + 1 * f 3 0 * 1))) * f 0 2) + 1 * (((0 + 1 * f 0 0 * ((0 + 1 * f 2 1 * (0 + 1 * f 3 2 * 1)) + (-1) * f 2 2 * (0 + 1 * f 3 1 * 1))) + (-1) * f 0 1 * ((0 + 1 * f 2 0 * (0 + 1 * f 3 2 * 1)) + (-1) * f 2 2 * (0 + 1 * f 3 0 * 1))) + 1 * f 0 2 * ((0 + 1 * f 2 0 * (0 + 1 * f 3 1 * 1)) + (-1) * f 2 1 * (0 + 1 * f 3 0 * 1))) * f 1 2) + (-1) * (((0 + 1 * f 0 0 * ((0 + 1 * f 1 1 * (0 + 1 * f 3 2 * 1)) + (-1) * f 1 2 * (0 + 1 * f 3 1 * 1))) + (-1) * f 0 1 * ((0 + 1 * f 1 0 * (0 + 1 * f 3 2 * 1)) + (-1) * f 1 2 * (0 + 1 * f 3 0 * 1))) + 1 * f 0 2 * ((0 + 1 * f 1 0 * (0 + 1 * f 3 1 * 1)) + (-1) * f 1 1 * (0 + 1 * f 3 0 * 1))) * f 2 2) + 1 * (((0 + 1 * f 0 0 * ((0 + 1 * f 1 1 * (0 + 1 * f 2 2 * 1)) + (-1) * f 1 2 * (0 + 1 * f 2 1 * 1))) + (-1) * f 0 1 * ((0 + 1 * f 1 0 * (0 + 1 * f 2 2 * 1)) + (-1) * f 1 2 * (0 + 1 * f 2 0 * 1))) + 1 * f 0 2 * ((0 + 1 * f 1 0 * (0 + 1 * f 2 1 * 1)) + (-1) * f 1 1 * (0 + 1 * f 2 0 * 1))) * f 3 2) := by kernel_rfl
  rw [e1]
  clear e1
  generalize f 0 0 = f00
  generalize f 0 1 = f01
  generalize f 0 2 = f02
  generalize f 0 3 = f03
  generalize f 1 0 = f10
  generalize f 1 1 = f11
  generalize f 1 2 = f12
  generalize f 1 3 = f13
  generalize f 2 0 = f20
  generalize f 2 1 = f21
  generalize f 2 2 = f22
  generalize f 2 3 = f23
  generalize f 3 0 = f30
  generalize f 3 1 = f31
  generalize f 3 2 = f32
  generalize f 3 3 = f33
  grind
theorem kad433 (f : Nat → Nat → K) : sK 4 (fun m => adjK 4 f 3 m * f m 3) = detK 4 f := by
  have e1 : sK 4 (fun m => adjK 4 f 3 m * f m 3) = ((((0 + (-1) * (((0 + 1 * f 1 0 * ((0 + 1 * f 2 1 * (0 + 1 * f 3 2 * 1)) + (-1) * f 2 2 * (0 + 1 * f 3 1 * 1))) + (-1) * f 1 1 * ((0 + 1 * f 2 0 * (0 + 1 * f 3 2 * 1)) + (-1) * f 2 2 * (0 + 1 * f 3 0 * 1))) + 1 * f 1 2 * ((0 + 1 * f 2 0 * (0 + 1 * f 3 1 * 1)) + (-1) * f 2 1 * (0 + 1 * f 3 0 * 1))) * f 0 3) + 1 * (((0 + 1 * f 0 0 * ((0 + 1 * f 2 1 * (0 + 1 * f 3 2 * 1)) + (-1) * f 2 2 * (0 + 1 * f 3 1 * 1))) + (-1) * f 0 1 * ((0 + 1 * f 2 0 * (0 + 1 * f 3 2 * 1)) + (-1) * f 2 2 * (0 + 1 * f 3 0 * 1))) + 1 * f 0 2 * ((0 + 1 * f 2 0 * (0 + 1 * f 3 1 * 1)) + (-1) * f 2 1 * (0 + 1 * f 3 0 * 1))) * f 1 3) + (-1) * (((0 + 1 * f 0 0 * ((0 + 1 * f 1 1 * (0 + 1 * f 3 2 * 1)) + (-1) * f 1 2 * (0 + 1 * f 3 1 * 1))) + (-1) * f 0 1 * ((0 + 1 * f 1 0 * (0 + 1 * f 3 2 * 1)) + (-1) * f 1 2 * (0 + 1 * f 3 0 * 1))) + 1 * f 0 2 * ((0 + 1 * f 1 0 * (0 + 1 * f 3 1 * 1)) + (-1) * f 1 1 * (0 + 1 * f 3 0 * 1))) * f 2 3) + 1 * (((0 + 1 * f 0 0 * ((0 + 1 * f 1 1 * (0 + 1 * f 2 2 * 1)) + (-1) * f 1 2 * (0 + 1 * f 2 1 * 1))) + (-1) * f 0 1 * ((0 + 1 * f 1 0 * (0 + 1 * f 2 2 * 1)) + (-1) * f 1 2 * (0 + 1 * f 2 0 * 1))) + 1 * f 0 2 * ((0 + 1 * f 1 0 * (0 + 1 * f 2 1 * 1)) + (-1) * f 1 1 * (0 + 1 * f 2 0 * 1))) * f 3 3) := by kernel_rfl
  have e2 : detK 4 f = ((((0 + 1 * f 0 0 * (((0 + 1 * f 1 1 * ((0 + 1 * f 2 2 * (0 + 1 * f 3 3 * 1)) + (-1) * f 2 3 * (0 + 1 * f 3 2 * 1))) + (-1) * f 1 2 * ((0 + 1 * f 2 1 * (0 + 1 * f 3 3 * 1)) + (-1) * f 2 3 * (0 + 1 * f 3 1 * 1))) + 1 * f 1 3 * ((0 + 1 * f 2 1 * (0 + 1 * f 3 2 * 1)) + (-1) * f 2 2 * (0 + 1 * f 3 1 * 1)))) + (-1) * f 0 1 * (((0 + 1 * f 1 0 * ((0 + 1 * f 2 2 * (0 + 1 * f 3 3 * 1)) + (-1) * f 2 3 * (0 + 1 * f 3 2 * 1))) + (-1) * f 1 2 * ((0 + 1 * f 2 0 * (0 + 1 * f 3 3 * 1)) + (-1) * f 2 3 * (0 + 1 * f 3 0 * 1))) + 1 * f 1 3 * ((0 + 1 * f 2 0 * (0 + 1 * f 3 2 * 1)) + (-1) * f 2 2 * (0 + 1 * f 3 0 * 1)))) + 1 * f 0 2 * (((0 + 1 * f 1 0 * ((0 + 1 * f 2 1 * (0 + 1 * f 3 3 * 1)) + (-1) * f 2 3 * (0 + 1 * f 3 1 * 1))) + (-1) * f 1 1 * ((0 + 1 * f 2 0 * (0 + 1 * f 3 3 * 1)) + (-1) * f 2 3 * (0 + 1 * f 3 0 * 1))) + 1 * f 1 3 * ((0 + 1 * f 2 0 * (0 + 1 * f 3 1 * 1)) + (-1) * f 2 1 * (0 + 1 * f 3 0 * 1)))) + (-1) * f 0 3 * (((0 + 1 * f 1 0 * ((0 + 1 * f 2 1 * (0 + 1 * f 3 2 * 1)) + (-1) * f 2 2 * (0 + 1 * f 3 1 * 1))) + (-1) * f 1 1 * ((0 + 1 * f 2 0 * (0 + 1 * f 3 2 * 1)) + (-1) * f 2 2 * (0 + 1 * f 3 0 * 1))) + 1 * f 1 2 * ((0 + 1 * f 2 0 * (0 + 1 * f 3 1 * 1)) + (-1) * f 2 1 * (0 + 1 * f 3 0 * 1)))) := by kernel_rfl
  rw [e1, e2]
  clear e1 e2
  generalize f 0 0 = f00
  generalize f 0 1 = f01
  generalize f 0 2 = f02
  generalize f 0 3 = f03
  generalize f 1 0 = f10
  generalize f 1 1 = f11
  generalize f 1 2 = f12
  generalize f 1 3 = f13
  generalize f 2 0 = f20
  generalize f 2 1 = f21
  generalize f 2 2 = f22
  generalize f 2 3 = f23
  generalize f 3 0 = f30
  generalize f 3 1 = f31
  generalize f 3 2 = f32
  generalize f 3 3 = f33
  grind
theorem adjK_ok {n k l : Nat} (h4 : n ≤ 4) (hk : k < n) (hl : l < n) (f : Nat → Nat → K) : sK n (fun m => adjK n f k m * f m l) = if k = l then detK n f else 0 := by
  rcases n with _ | _ | _ | _ | _ | n
  · exfalso; omega
  · rcases k with _ | k
    · rcases l with _ | l
      · exact kad100 f
      · exfalso; omega
    · exfalso; omega
  · rcases k with _ | _ | k
    · rcases l with _ | _ | l
      · exact kad200 f
      · exact kad201 f
      · exfalso; omega
    · rcases l with _ | _ | l
      · exact kad210 f
      · exact kad211 f
      · exfalso; omega
    · exfalso; omega
  · rcases k with _ | _ | _ | k
    · rcases l with _ | _ | _ | l
      · exact kad300 f
      · exact kad301 f
      · exact kad302 f
      · exfalso; omega
    · rcases l with _ | _ | _ | l
      · exact kad310 f
      · exact kad311 f
      · exact kad312 f
      · exfalso; omega
    · rcases l with _ | _ | _ | l
      · exact kad320 f
      · exact kad321 f
      · exact kad322 f
      · exfalso; omega
    · exfalso; omega
  · rcases k with _ | _ | _ | _ | k
    · rcases l with _ | _ | _ | _ | l
      · exact kad400 f
      · exact kad401 f
      · exact kad402 f
      · exact kad403 f
      · exfalso; omega
    · rcases l with _ | _ | _ | _ | l
      · exact kad410 f
      · exact kad411 f
      · exact kad412 f
      · exact kad413 f
      · exfalso; omega
    · rcases l with _ | _ | _ | _ | l
      · exact kad420 f
      · exact kad421 f
      · exact kad422 f
      · exact kad423 f
      · exfalso; omega
    · rcases l with _ | _ | _ | _ | l
      · exact kad430 f
      · exact kad431 f
      · exact kad432 f
      · exact kad433 f
      · exfalso; omega
    · exfalso; omega
  · exfalso; omega
end
end DL

/-! DLX: ranks and minors. -/
namespace DL
section
variable {K : Type} [Lean.Grind.Field K]
def rws (h : Nat) (F : Nat → Nat → K) : List (Nat → K) := (List.range h).map F
def Box (h w : Nat) (F : Nat → Nat → K) : Prop := ∀ i j, h ≤ i ∨ w ≤ j → F i j = 0
theorem rws_mem {h : Nat} {F : Nat → Nat → K} {i : Nat} (hi : i < h) : F i ∈ rws h F := List.mem_map.mpr ⟨i, List.mem_range.mpr hi, rfl⟩
theorem rws_of {h : Nat} {F : Nat → Nat → K} {v : Nat → K} (hv : v ∈ rws h F) : ∃ i, i < h ∧ v = F i := by
  obtain ⟨i, hi, rfl⟩ := List.mem_map.mp hv
  exact ⟨i, List.mem_range.mp hi, rfl⟩
theorem rws_len (h : Nat) (F : Nat → Nat → K) : (rws h F).length = h := len_range _
theorem Box.wd {h w : Nat} {F : Nat → Nat → K} (b : Box h w F) : Wd w (rws h F) := fun a ha j hj => by
  obtain ⟨i, _, rfl⟩ := rws_of ha
  exact b i j (.inr hj)
theorem Box.tu {h w : Nat} {F : Nat → Nat → K} (b : Box h w F) : Box w h fun i j => F j i := fun i j hj => b j i hj.symm
theorem sp_comb {h : Nat} {F : Nat → Nat → K} {v : Nat → K} (hv : Sp (rws h F) v) : ∃ x : Nat → K, ∀ j, v j = sK h fun l => x l * F l j := by
  induction hv with
  | zero => exact ⟨fun _ => 0, fun j => (sK_zero fun _ _ => by grind).symm⟩
  | step c _ hm ih =>
    obtain ⟨x, hx⟩ := ih
    obtain ⟨i, hi, rfl⟩ := rws_of hm
    refine ⟨fun l => x l + if l = i then c else 0, fun j => ?_⟩
    have e : (sK h fun l => (x l + if l = i then c else 0) * F l j) = (sK h fun l => x l * F l j) + sK h fun l => if l = i then c * F l j else 0 := by
      rw [← sK_add]
      exact sK_congr fun l _ => by
        split <;> grind
    rw [e, ← hx j, sK_one (fun l => c * F l j) i h, if_pos hi]
theorem sp_sum {A : List (Nat → K)} {T : Nat → Nat → K} (c : Nat → K) : ∀ r : Nat, (∀ k, k < r → Sp A (T k)) → Sp A fun i => sK r fun k => c k * T k i
  | 0, _ => .zero
  | r + 1, h => ((sp_sum c r fun k hk => h k (by omega)).add ((h r (by omega)).smul (c r))).cast fun i => by rw [sK]
def piv (E : List (Nat × (Nat → K))) (k : Nat) : Nat := (E.getD k (0, fun _ => 0)).1
def row (E : List (Nat × (Nat → K))) (k : Nat) : Nat → K := (E.getD k (0, fun _ => 0)).2
theorem getD_mem' {E : List (Nat × (Nat → K))} {k : Nat} (h : k < E.length) : E.getD k (0, fun _ => 0) ∈ E := by
  rw [List.getD_eq_getElem?_getD, List.getElem?_eq_getElem h]
  exact List.getElem_mem h
theorem recon_idx : ∀ (E : List (Nat × (Nat → K))) (v : Nat → K) (j : Nat), recon E v j = sK E.length fun k => v (piv E k) * row E k j
  | [], _, _ => rfl
  | e :: E, v, j => by
    rw [recon, recon_idx E v j, List.length_cons, sK_cons]
    rfl
theorem rref_delta : ∀ {E : List (Nat × (Nat → K))}, Rref E → ∀ k m, k < E.length → m < E.length → row E k (piv E m) = unK k m
  | [], _, k, m, hk, _ => absurd hk (Nat.not_lt_zero k)
  | e :: E, h, k, m, hk, hm => by
    obtain ⟨h1, h2, h3, h4⟩ := h
    cases k with
    | zero =>
      cases m with
      | zero => exact h1
      | succ m => exact (h3 _ (getD_mem' (E := E) (k := m) (by simpa using hm))).2
    | succ k =>
      have hk : k < E.length := by simpa using hk
      cases m with
      | zero => exact row_zero h4 _ (getD_mem' (E := E) hk) _ (h3 _ (getD_mem' (E := E) hk)).1
      | succ m =>
        have := rref_delta h4 k m hk (by simpa using hm)
        show row E k (piv E m) = unK (k + 1) (m + 1)
        rw [this]
        unfold unK
        by_cases c : k = m
        · rw [if_pos c, if_pos (by omega)]
        · rw [if_neg c, if_neg (by omega)]
theorem piv_lt {E : List (Nat × (Nat → K))} (h : Rref E) {a b : Nat} (hab : a < b) (hb : b < E.length) : piv E a < piv E b := by
  have := List.pairwise_iff_getElem.mp (piv_asc h) a b (by rw [List.length_map]; omega) (by rw [List.length_map]; exact hb) hab
  rw [List.getElem_map, List.getElem_map] at this
  unfold piv
  rw [List.getD_eq_getElem?_getD, List.getD_eq_getElem?_getD, List.getElem?_eq_getElem hb, List.getElem?_eq_getElem (by omega)]
  exact this
section
variable [DecidableEq K]
def rk (h w : Nat) (F : Nat → Nat → K) : Nat := (ech w (rws h F)).length
theorem rk_le {h w : Nat} {F : Nat → Nat → K} (b : Box h w F) : rk h w F ≤ h := by
  have := ech_len b.wd
  rw [rws_len] at this
  exact this
/-- each row by the echelon -/
theorem by_ech {h w : Nat} {F : Nat → Nat → K} (b : Box h w F) (i j : Nat) : F i j = sK (rk h w F) fun k => F i (piv (ech w (rws h F)) k) * row (ech w (rws h F)) k j := by
  by_cases hi : i < h
  · have := ech_rep b.wd (F i) (rws_mem hi) j
    rw [recon_idx] at this
    exact this
  · rw [b i j (.inl (by omega))]
    exact (sK_zero fun k _ => by
      rw [b i _ (.inl (by omega))]
      grind).symm
theorem rk_fac {h w r : Nat} {F : Nat → Nat → K} (b : Box h w F) (C : Nat → Nat → K) (e : Nat → Nat → K) (bC : Box r h C) (hF : ∀ i j, F i j = sK r fun k => C k i * e k j) : rk w h (fun j i => F i j) ≤ rk r h C := by
  refine rank_mono bC.wd b.tu.wd fun v hv => ?_
  obtain ⟨j, _, rfl⟩ := rws_of hv
  refine (sp_sum (A := rws r C) (T := C) (fun k => e k j) r fun k hk => Sp.mem (rws_mem hk)).cast fun i => ?_
  rw [hF i j]
  exact sK_congr fun k _ => by grind
def cutC (r : Nat) (p : Nat → Nat) (F : Nat → Nat → K) (k i : Nat) : K := if k < r then F i (p k) else 0
theorem cutC_box {h w r : Nat} {F : Nat → Nat → K} (b : Box h w F) (p : Nat → Nat) : Box r h (cutC r p F) := fun k i hk => by
  unfold cutC
  split
  · exact b i _ (.inl (by omega))
  · rfl
theorem by_cut {h w : Nat} {F : Nat → Nat → K} (b : Box h w F) (i j : Nat) : F i j = sK (rk h w F) fun k => cutC (rk h w F) (piv (ech w (rws h F))) F k i * row (ech w (rws h F)) k j := by
  rw [by_ech b i j]
  exact sK_congr fun k hk => by
    unfold cutC
    rw [if_pos hk]
theorem rk_tu_le {h w : Nat} {F : Nat → Nat → K} (b : Box h w F) : rk w h (fun j i => F i j) ≤ rk h w F :=
  Nat.le_trans (rk_fac b _ _ (cutC_box b (piv (ech w (rws h F)))) (by_cut b)) (rk_le (cutC_box b _))
theorem rk_tu {h w : Nat} {F : Nat → Nat → K} (b : Box h w F) : rk w h (fun j i => F i j) = rk h w F :=
  Nat.le_antisymm (rk_tu_le b) (rk_tu_le b.tu)
/-- places of a minor that has a back -/
theorem minor_ex {h w : Nat} {F : Nat → Nat → K} (b : Box h w F) : ∃ q : Nat → Nat, (∀ k, k < rk h w F → q k < h) ∧ (∀ a c, a < c → c < rk h w F → q a < q c) ∧
    ∃ X : Nat → Nat → K, ∀ k m, k < rk h w F → m < rk h w F → (sK (rk h w F) fun l => X k l * F (q m) (piv (ech w (rws h F)) l)) = unK k m := by
  have bT := cutC_box (r := rk h w F) b (piv (ech w (rws h F)))
  have e1 : rk (rk h w F) h (cutC (rk h w F) (piv (ech w (rws h F))) F) = rk h w F := by
    refine Nat.le_antisymm (rk_le bT) ?_
    have := rk_fac b _ _ bT (by_cut b)
    rw [rk_tu b] at this
    exact this
  have hr := ech_rref bT.wd
  have hl : (ech h (rws (rk h w F) (cutC (rk h w F) (piv (ech w (rws h F))) F))).length = rk h w F := e1
  generalize hE : ech h (rws (rk h w F) (cutC (rk h w F) (piv (ech w (rws h F))) F)) = ET at hr hl
  have hx : ∀ k, k < rk h w F → ∃ x : Nat → K, ∀ i, row ET k i = sK (rk h w F) fun l => x l * cutC (rk h w F) (piv (ech w (rws h F))) F l i := fun k hk => by
    refine sp_comb (ech_sp bT.wd _ ?_)
    rw [hE]
    exact getD_mem' (by omega)
  refine ⟨piv ET, fun k hk => ?_, fun a c hac hc => piv_lt hr hac (by omega), fun k => if hk : k < rk h w F then (hx k hk).choose else fun _ => 0, fun k m hk hm => ?_⟩
  · refine ech_lt bT.wd (ET.getD k (0, fun _ => 0)) ?_
    rw [hE]
    exact getD_mem' (by omega)
  · have h1 := (hx k hk).choose_spec (piv ET m)
    rw [rref_delta hr k m (by omega) (by omega)] at h1
    rw [h1]
    refine sK_congr fun l hl => ?_
    dsimp only
    rw [dif_pos hk]
    unfold cutC
    rw [if_pos hl]
theorem piv_in {h w : Nat} {F : Nat → Nat → K} (b : Box h w F) {k : Nat} (hk : k < rk h w F) : piv (ech w (rws h F)) k < w := ech_lt b.wd _ (getD_mem' hk)
theorem det_ne {r : Nat} (r4 : r ≤ 4) {X S : Nat → Nat → K} (h : ∀ k m, k < r → m < r → (sK r fun l => X k l * S m l) = unK k m) : detK r S ≠ 0 := fun e => by
  have h1 : detK r (mulK r X fun l m => S m l) = 1 := by
    exact (detK_congr r _ unK fun k m hk hm => h k m hk hm).trans (detK_un r4)
  rw [detK_mul r4, detK_tu r4 S, e] at h1
  have : (0 : K) = 1 := by grind
  exact Lean.Grind.Field.zero_ne_one this
theorem minor_zero {h w k : Nat} (k4 : k ≤ 4) {F : Nat → Nat → K} (b : Box h w F) (hk : rk h w F < k) (l c : Nat → Nat) : (detK k fun s t => F (l s) (c t)) = 0 := by
  obtain ⟨r, hr⟩ : ∃ r, r = rk h w F := ⟨_, rfl⟩
  have e : detK k (fun s t => F (l s) (c t)) = detK k (mulK k (fun s m => if m < r then F (l s) (piv (ech w (rws h F)) m) else 0) fun m t => if m < r then row (ech w (rws h F)) m (c t) else 0) := by
    refine detK_congr k _ _ fun s t _ _ => ?_
    rw [by_ech b (l s) (c t), ← hr]
    unfold mulK
    have pad : ∀ (g : Nat → K) (d : Nat), sK (r + d) (fun m => if m < r then g m else 0) = sK r g := by
      intro g d
      induction d with
      | zero => exact sK_congr fun m hm => if_pos hm
      | succ d ih =>
        show sK (r + d) _ + (if r + d < r then g (r + d) else 0) = _
        rw [ih, if_neg (by omega)]
        grind
    have hp := pad (fun m => F (l s) (piv (ech w (rws h F)) m) * row (ech w (rws h F)) m (c t)) (k - r)
    rw [show r + (k - r) = k by omega] at hp
    rw [← hp]
    exact sK_congr fun m _ => by
      split <;> grind
  rw [e, detK_mul k4]
  obtain ⟨d, rfl⟩ : ∃ d, k = d + 1 := ⟨k - 1, by omega⟩
  have z : detK (d + 1) (fun m t => if m < r then row (ech w (rws h F)) m (c t) else (0 : K)) = 0 := detK_last d _ fun j => if_neg (by omega)
  rw [z]
  grind
end
end
end DL

/-! DLY: ranks of rows put together. -/
namespace DL
section
variable {K : Type} [Lean.Grind.Field K]
theorem rref_from (piv : Nat → Nat) (rw_ : Nat → Nat → K) : ∀ (d k : Nat), (∀ a b, k ≤ a → a < b → b < k + d → piv a < piv b) → (∀ a b, k ≤ a → a < k + d → k ≤ b → b < k + d → rw_ a (piv b) = unK a b) → (∀ a j, k ≤ a → a < k + d → j < piv a → rw_ a j = 0) → Rref ((List.range' k d).map fun a => (piv a, rw_ a))
  | 0, _, _, _, _ => trivial
  | d + 1, k, h1, h2, h3 => by
    rw [show List.range' k (d + 1) = k :: List.range' (k + 1) d from rfl, List.map_cons]
    refine ⟨?_, fun j hj => h3 k j (Nat.le_refl k) (by omega) hj, fun e he => ?_, rref_from piv rw_ d (k + 1) (fun a b ha hb hc => h1 a b (by omega) hb (by omega)) (fun a b ha hb hc hd => h2 a b (by omega) (by omega) (by omega) (by omega)) fun a j ha hb hj => h3 a j (by omega) (by omega) hj⟩
    · show rw_ k (piv k) = 1
      rw [h2 k k (Nat.le_refl k) (by omega) (Nat.le_refl k) (by omega)]
      exact if_pos rfl
    · obtain ⟨b, hb, rfl⟩ := List.mem_map.mp he
      have := List.mem_range'_1.mp hb
      refine ⟨h1 k b (Nat.le_refl k) (by omega) (by omega), ?_⟩
      show rw_ k (piv b) = 0
      rw [h2 k b (Nat.le_refl k) (by omega) (by omega) (by omega)]
      exact if_neg (by omega)
theorem rref_idx {r : Nat} {piv : Nat → Nat} {rw_ : Nat → Nat → K} (h1 : ∀ a b, a < b → b < r → piv a < piv b) (h2 : ∀ a b, a < r → b < r → rw_ a (piv b) = unK a b) (h3 : ∀ a j, a < r → j < piv a → rw_ a j = 0) : Rref ((List.range r).map fun a => (piv a, rw_ a)) := by
  rw [List.range_eq_range']
  exact rref_from piv rw_ r 0 (fun a b _ hb hc => h1 a b hb (by omega)) (fun a b _ hb _ hd => h2 a b (by omega) (by omega)) fun a j _ hb hj => h3 a j (by omega) hj
section
variable [DecidableEq K]
/-- rows that an echelon in index form spans, and that span it -/
theorem rk_idx {h w r : Nat} {F : Nat → Nat → K} (b : Box h w F) {piv : Nat → Nat} {rw_ : Nat → Nat → K} (h1 : ∀ a b, a < b → b < r → piv a < piv b) (h2 : ∀ a b, a < r → b < r → rw_ a (piv b) = unK a b) (h3 : ∀ a j, a < r → j < piv a → rw_ a j = 0)
    (s1 : ∀ a, a < r → Sp (rws h F) (rw_ a)) (s2 : ∀ i, i < h → Sp (rws r rw_) (F i)) : rk h w F = r := by
  have hE := rref_idx h1 h2 h3
  have e := ech_is b.wd hE (fun e he => by
    obtain ⟨a, ha, rfl⟩ := List.mem_map.mp he
    exact s1 a (List.mem_range.mp ha)) fun v hv => by
    obtain ⟨i, hi, rfl⟩ := rws_of hv
    refine rep_of_sp (fun c hc => ?_) (s2 i hi)
    obtain ⟨a, ha, rfl⟩ := rws_of hc
    exact rep_row hE (piv a, rw_ a) (List.mem_map.mpr ⟨a, List.mem_range.mpr ha, rfl⟩)
  unfold rk
  rw [e]
  exact len_range _
/-- the echelon of rows in index form -/
theorem ech_facts {h w : Nat} {F : Nat → Nat → K} (b : Box h w F) : ∃ (p : Nat → Nat) (e : Nat → Nat → K), (∀ a c, a < c → c < rk h w F → p a < p c) ∧ (∀ a, a < rk h w F → p a < w) ∧ (∀ a c, a < rk h w F → c < rk h w F → e a (p c) = unK a c) ∧ (∀ a j, a < rk h w F → j < p a → e a j = 0) ∧ (∀ a j, a < rk h w F → w ≤ j → e a j = 0) ∧
    (∀ a, a < rk h w F → ∃ x : Nat → K, ∀ j, e a j = sK h fun l => x l * F l j) ∧ ∀ i j, F i j = sK (rk h w F) fun k => F i (p k) * e k j := by
  have hr := ech_rref b.wd
  refine ⟨piv (ech w (rws h F)), row (ech w (rws h F)), fun a c hac hc => piv_lt hr hac hc, fun a ha => piv_in b ha, fun a c ha hc => rref_delta hr a c ha hc, fun a j ha hj => row_zero hr _ (getD_mem' ha) j hj, fun a j ha hj => ?_, fun a ha => sp_comb (ech_sp b.wd _ (getD_mem' ha)), by_ech b⟩
  obtain ⟨x, hx⟩ := sp_comb (ech_sp b.wd _ (getD_mem' ha))
  rw [show row (ech w (rws h F)) a j = sK h fun l => x l * F l j from hx j]
  exact sK_zero fun l _ => by
    rw [b l j (.inr hj)]
    grind
/-! ### both along the middle -/
def blkK (h w : Nat) (F G : Nat → Nat → K) (i j : Nat) : K := if i < h then (if j < w then F i j else 0) else if j < w then 0 else G (i - h) (j - w)
theorem rk_blk {h w h2 w2 : Nat} {F G : Nat → Nat → K} (b : Box h w F) (c : Box h2 w2 G) (hb : Box (h + h2) (w + w2) (blkK h w F G)) : rk (h + h2) (w + w2) (blkK h w F G) = rk h w F + rk h2 w2 G := by
  obtain ⟨p, e, p1, p2, p3, p4, p5, p6, p7⟩ := ech_facts b
  obtain ⟨q, d, q1, q2, q3, q4, q5, q6, q7⟩ := ech_facts c
  generalize rk h w F = r at *
  generalize rk h2 w2 G = s at *
  have lift1 : ∀ x : Nat → K, ∀ j, (sK h fun l => x l * F l j) = sK h fun l => x l * blkK h w F G l j := fun x j => sK_congr fun l hl => by
    unfold blkK
    rw [if_pos hl]
    by_cases z : j < w
    · rw [if_pos z]
    · rw [if_neg z, b l j (.inr (by omega))]
  refine rk_idx hb (piv := fun a => if a < r then p a else w + q (a - r)) (rw_ := fun a j => if a < r then e a j else if j < w then 0 else d (a - r) (j - w)) (fun a c hac hc => ?_) (fun a c ha hc => ?_) (fun a j ha hj => ?_) (fun a ha => ?_) (fun i hi => ?_)
  · skip
    by_cases z : c < r
    · rw [if_pos z, if_pos (by omega)]
      exact p1 a c hac z
    · rw [if_neg z]
      by_cases y : a < r
      · rw [if_pos y]
        have := p2 a y
        omega
      · rw [if_neg y]
        have := q1 (a - r) (c - r) (by omega) (by omega)
        omega
  · skip
    by_cases z : a < r
    · rw [if_pos z]
      by_cases y : c < r
      · rw [if_pos y]
        exact p3 a c z y
      · rw [if_neg y, p5 a _ z (by omega)]
        exact (if_neg (by omega)).symm
    · rw [if_neg z]
      by_cases y : c < r
      · rw [if_pos y, if_pos (p2 c y)]
        exact (if_neg (by omega)).symm
      · rw [if_neg y, if_neg (by omega), show w + q (c - r) - w = q (c - r) by omega, q3 (a - r) (c - r) (by omega) (by omega)]
        unfold unK
        by_cases x : a = c
        · rw [if_pos x, if_pos (by omega)]
        · rw [if_neg x, if_neg (by omega)]
  · skip
    by_cases z : a < r
    · rw [if_pos z] at hj ⊢
      exact p4 a j z hj
    · rw [if_neg z] at hj ⊢
      by_cases y : j < w
      · rw [if_pos y]
      · rw [if_neg y]
        exact q4 (a - r) _ (by omega) (by omega)
  · by_cases z : a < r
    · obtain ⟨x, hx⟩ := p6 a z
      refine (sp_sum (A := rws (h + h2) (blkK h w F G)) (T := blkK h w F G) x h fun l hl => Sp.mem (rws_mem (by omega))).cast fun j => ?_
      rw [if_pos z, hx j, lift1]
    · obtain ⟨x, hx⟩ := q6 (a - r) (by omega)
      refine (sp_sum (A := rws (h + h2) (blkK h w F G)) (T := fun l => blkK h w F G (h + l)) x h2 fun l hl => Sp.mem (rws_mem (by omega))).cast fun j => ?_
      rw [if_neg z]
      by_cases y : j < w
      · rw [if_pos y]
        exact (sK_zero fun l _ => by
          unfold blkK
          rw [if_neg (by omega), if_pos y]
          grind).symm
      · rw [if_neg y, hx]
        exact sK_congr fun l _ => by
          unfold blkK
          rw [if_neg (by omega), if_neg y, show h + l - h = l by omega]
  · by_cases z : i < h
    · refine (sp_sum (A := rws (r + s) fun a j => if a < r then e a j else if j < w then 0 else d (a - r) (j - w)) (T := fun a j => if a < r then e a j else if j < w then 0 else d (a - r) (j - w)) (fun k => F i (p k)) r fun l hl => Sp.mem (rws_mem (by omega))).cast fun j => ?_
      have hL : blkK h w F G i j = F i j := by
        unfold blkK
        rw [if_pos z]
        by_cases y : j < w
        · rw [if_pos y]
        · rw [if_neg y, b i j (.inr (by omega))]
      rw [hL, p7 i j]
      exact sK_congr fun k hk => by
        rw [if_pos hk]
    · refine (sp_sum (A := rws (r + s) fun a j => if a < r then e a j else if j < w then 0 else d (a - r) (j - w)) (T := fun l j => if r + l < r then e (r + l) j else if j < w then 0 else d (r + l - r) (j - w)) (fun k => G (i - h) (q k)) s fun l hl => Sp.mem (rws_mem (F := fun a j => if a < r then e a j else if j < w then 0 else d (a - r) (j - w)) (i := r + l) (by omega))).cast fun j => ?_
      unfold blkK
      rw [if_neg z]
      by_cases y : j < w
      · rw [if_pos y]
        exact (sK_zero fun k _ => by
          rw [if_neg (by omega), if_pos y]
          grind).symm
      · rw [if_neg y, q7 (i - h) (j - w)]
        exact sK_congr fun k _ => by
          rw [if_neg (by omega), if_neg y, show r + k - r = k by omega]
/-! ### all by all -/
def krK (h2 w2 : Nat) (F G : Nat → Nat → K) (i j : Nat) : K := F (i / h2) (j / w2) * G (i % h2) (j % w2)
theorem sK_prod (f g : Nat → K) (m : Nat) : ∀ n : Nat, sK n f * sK m g = sK n fun a => sK m fun b => f a * g b
  | 0 => by
    show (0 : K) * _ = 0
    grind
  | n + 1 => by
    rw [sK, sK, ← sK_prod f g m n, sK_mul]
    grind
theorem rk_kr {h w h2 w2 : Nat} (h20 : 0 < h2) (w20 : 0 < w2) {F G : Nat → Nat → K} (b : Box h w F) (c : Box h2 w2 G) (hb : Box (h * h2) (w * w2) (krK h2 w2 F G)) : rk (h * h2) (w * w2) (krK h2 w2 F G) = rk h w F * rk h2 w2 G := by
  obtain ⟨p, e, p1, p2, p3, p4, p5, p6, p7⟩ := ech_facts b
  obtain ⟨q, d, q1, q2, q3, q4, q5, q6, q7⟩ := ech_facts c
  generalize rk h w F = r at *
  generalize rk h2 w2 G = s at *
  have dm : ∀ a b n, b < n → (a * n + b) / n = a ∧ (a * n + b) % n = b := fun a b n hb => by
    have hn : 0 < n := Nat.lt_of_le_of_lt (Nat.zero_le _) hb
    constructor
    · rw [Nat.add_comm, Nat.add_mul_div_right _ _ hn, Nat.div_eq_of_lt hb, Nat.zero_add]
    · rw [Nat.add_comm, Nat.add_mul_mod_self_right, Nat.mod_eq_of_lt hb]
  have ds : ∀ k, k < r * s → 0 < s ∧ k / s < r ∧ k % s < s := fun k hk => by
    have hs : 0 < s := Nat.pos_of_ne_zero fun z => by rw [z, Nat.mul_zero] at hk; omega
    exact ⟨hs, (Nat.div_lt_iff_lt_mul hs).mpr hk, Nat.mod_lt _ hs⟩
  have dh : ∀ k, k < h * h2 → k / h2 < h ∧ k % h2 < h2 := fun k hk => ⟨(Nat.div_lt_iff_lt_mul h20).mpr hk, Nat.mod_lt _ h20⟩
  refine rk_idx hb (piv := fun k => p (k / s) * w2 + q (k % s)) (rw_ := fun k j => e (k / s) (j / w2) * d (k % s) (j % w2)) (fun a c hac hc => ?_) (fun a c ha hc => ?_) (fun a j ha hj => ?_) (fun a ha => ?_) (fun i hi => ?_)
  · skip
    obtain ⟨s0, c1, c2⟩ := ds c hc
    obtain ⟨_, a1, a2⟩ := ds a (by omega)
    have ea := Nat.div_add_mod a s
    have ec := Nat.div_add_mod c s
    have le : a / s ≤ c / s := Nat.div_le_div_right (by omega)
    by_cases z : a / s = c / s
    · rw [z] at ea ⊢
      have := q1 (a % s) (c % s) (by omega) c2
      omega
    · have y := p1 (a / s) (c / s) (by omega) c1
      have t1 := q2 (a % s) a2
      have t2 : (p (a / s) + 1) * w2 ≤ p (c / s) * w2 := Nat.mul_le_mul_right w2 y
      rw [Nat.add_mul, Nat.one_mul] at t2
      omega
  · obtain ⟨s0, c1, c2⟩ := ds c hc
    obtain ⟨_, a1, a2⟩ := ds a ha
    rw [(dm (p (c / s)) (q (c % s)) w2 (q2 _ c2)).1, (dm (p (c / s)) (q (c % s)) w2 (q2 _ c2)).2, p3 _ _ a1 c1, q3 _ _ a2 c2]
    unfold unK
    have ea := Nat.div_add_mod a s
    have ec := Nat.div_add_mod c s
    by_cases x : a = c
    · subst x
      rw [if_pos rfl, if_pos rfl, if_pos rfl]
      grind
    · rw [if_neg x]
      by_cases y : a / s = c / s
      · rw [if_pos y, if_neg (fun z => x (by rw [← ea, ← ec, y, z]))]
        grind
      · rw [if_neg y]
        grind
  · obtain ⟨s0, a1, a2⟩ := ds a ha
    skip
    have ej := Nat.div_add_mod j w2
    have jm := Nat.mod_lt j w20
    by_cases z : j / w2 < p (a / s)
    · rw [p4 _ _ a1 z]
      grind
    · by_cases y : j / w2 = p (a / s)
      · rw [y] at ej
        rw [Nat.mul_comm] at ej
        rw [q4 _ _ a2 (by omega)]
        grind
      · have t : (p (a / s) + 1) * w2 ≤ (j / w2) * w2 := Nat.mul_le_mul_right w2 (by omega)
        rw [Nat.add_mul, Nat.one_mul] at t
        have := q2 _ a2
        rw [Nat.mul_comm] at ej
        omega
  · obtain ⟨s0, a1, a2⟩ := ds a ha
    obtain ⟨x, hx⟩ := p6 (a / s) a1
    obtain ⟨y, hy⟩ := q6 (a % s) a2
    have inner : ∀ i, i < h → Sp (rws (h * h2) (krK h2 w2 F G)) fun j => sK h2 fun l => y l * (F i (j / w2) * G l (j % w2)) := fun i hi => by
      refine (sp_sum (A := rws (h * h2) (krK h2 w2 F G)) (T := fun l => krK h2 w2 F G (i * h2 + l)) y h2 fun l hl => Sp.mem (rws_mem ?_)).cast fun j => sK_congr fun l hl => ?_
      · have : (i + 1) * h2 ≤ h * h2 := Nat.mul_le_mul_right h2 hi
        rw [Nat.add_mul, Nat.one_mul] at this
        omega
      · unfold krK
        rw [(dm i l h2 hl).1, (dm i l h2 hl).2]
    refine (sp_sum (A := rws (h * h2) (krK h2 w2 F G)) (T := fun i j => sK h2 fun l => y l * (F i (j / w2) * G l (j % w2))) x h inner).cast fun j => ?_
    rw [hx, hy, sK_prod]
    refine sK_congr fun i _ => ?_
    rw [← sK_mul]
    exact sK_congr fun l _ => by grind
  · obtain ⟨i1, i2⟩ := dh i hi
    have inner : ∀ k, k < r → Sp (rws (r * s) fun k j => e (k / s) (j / w2) * d (k % s) (j % w2)) fun j => sK s fun l => G (i % h2) (q l) * (e k (j / w2) * d l (j % w2)) := fun k hk => by
      refine (sp_sum (A := rws (r * s) fun k j => e (k / s) (j / w2) * d (k % s) (j % w2)) (T := fun l j => e ((k * s + l) / s) (j / w2) * d ((k * s + l) % s) (j % w2)) (fun l => G (i % h2) (q l)) s fun l hl => Sp.mem (rws_mem (F := fun k j => e (k / s) (j / w2) * d (k % s) (j % w2)) (i := k * s + l) ?_)).cast fun j => sK_congr fun l hl => ?_
      · have : (k + 1) * s ≤ r * s := Nat.mul_le_mul_right s hk
        rw [Nat.add_mul, Nat.one_mul] at this
        omega
      · rw [(dm k l s hl).1, (dm k l s hl).2]
    refine (sp_sum (T := fun k j => sK s fun l => G (i % h2) (q l) * (e k (j / w2) * d l (j % w2))) (fun k => F (i / h2) (p k)) r inner).cast fun j => ?_
    unfold krK
    rw [p7 (i / h2) (j / w2), q7 (i % h2) (j % w2), sK_prod]
    refine sK_congr fun k _ => ?_
    rw [← sK_mul]
    exact sK_congr fun l _ => by grind
/-! ### sums, beside, over -/
theorem rk_of_sp {h w n : Nat} {F : Nat → Nat → K} (b : Box h w F) (L : List (Nat → K)) (hL : Wd w L) (hl : L.length = n) (s : ∀ i, i < h → Sp L (F i)) : rk h w F ≤ n := by
  have := rank_mono hL b.wd fun v hv => by
    obtain ⟨i, hi, rfl⟩ := rws_of hv
    exact s i hi
  have l := ech_len hL
  unfold rk
  omega
theorem rk_sum {h w : Nat} {F G H : Nat → Nat → K} (b : Box h w F) (c : Box h w G) (d : Box h w H) (e : ∀ i j, i < h → H i j = F i j + G i j) : rk h w H ≤ rk h w F + rk h w G := by
  have wd1 : Wd w ((ech w (rws h F)).map (·.2)) := fun v hv j hj => by
    obtain ⟨x, hx, rfl⟩ := List.mem_map.mp hv
    obtain ⟨y, hy⟩ := sp_comb (ech_sp b.wd x hx)
    rw [hy j]
    exact sK_zero fun l _ => by rw [b l j (.inr hj)]; grind
  have wd2 : Wd w ((ech w (rws h G)).map (·.2)) := fun v hv j hj => by
    obtain ⟨x, hx, rfl⟩ := List.mem_map.mp hv
    obtain ⟨y, hy⟩ := sp_comb (ech_sp c.wd x hx)
    rw [hy j]
    exact sK_zero fun l _ => by rw [c l j (.inr hj)]; grind
  have rep_sp : ∀ (E : List (Nat × (Nat → K))) (v : Nat → K), Rep E v → Sp (E.map (·.2)) v := fun E v hv => by
    refine (sp_sum (A := E.map (·.2)) (T := row E) (fun k => v (piv E k)) E.length fun k hk => Sp.mem (List.mem_map.mpr ⟨_, getD_mem' hk, rfl⟩)).cast fun j => ?_
    rw [hv j, recon_idx]
  refine rk_of_sp d ((ech w (rws h F)).map (·.2) ++ (ech w (rws h G)).map (·.2)) (fun v hv => ?_) (by rw [List.length_append, List.length_map, List.length_map]; rfl) fun i hi => ?_
  · rcases List.mem_append.mp hv with q | q
    · exact wd1 v q
    · exact wd2 v q
  · have s1 := (rep_sp _ _ (ech_rep b.wd (F i) (rws_mem hi))).trans (A := (ech w (rws h F)).map (·.2) ++ (ech w (rws h G)).map (·.2)) fun v hv => Sp.mem (List.mem_append.mpr (.inl hv))
    have s2 := (rep_sp _ _ (ech_rep c.wd (G i) (rws_mem hi))).trans (A := (ech w (rws h F)).map (·.2) ++ (ech w (rws h G)).map (·.2)) fun v hv => Sp.mem (List.mem_append.mpr (.inr hv))
    exact (s1.add s2).cast fun j => e i j hi
/-- rows among other rows -/
theorem rk_sub {h h2 w : Nat} {F G : Nat → Nat → K} (b : Box h w F) (c : Box h2 w G) (s : ∀ i, i < h → Sp (rws h2 G) (F i)) : rk h w F ≤ rk h2 w G := rank_mono c.wd b.wd fun v hv => by
  obtain ⟨i, hi, rfl⟩ := rws_of hv
  exact s i hi
end
end
end DL

/-! DLB: xs[::-1], of a list and of a tuple. -/
namespace DL
open PySem PySem.Spec PyProof.Rows L2
section
variable {P : Program} {w : World} {A : Around} {E : Value → Shared → Prop} {s : Shared}
theorem fm_congr {α β : Type} {f g : α → Option β} : ∀ l : List α, (∀ m ∈ l, f m = g m) → l.filterMap f = l.filterMap g
  | [], _ => rfl
  | a :: l, h => by
    rw [List.filterMap_cons, List.filterMap_cons, h a List.mem_cons_self, fm_congr l fun m hm => h m (List.mem_cons_of_mem _ hm)]
theorem rev_pick (xs : Array Value) : ((List.range xs.size).filterMap fun (m : Nat) => xs[((xs.size : Int) - 1 + (m : Int) * (-1)).toNat]?) = xs.toList.reverse := by
  have e : ((List.range xs.size).filterMap fun (m : Nat) => xs[((xs.size : Int) - 1 + (m : Int) * (-1)).toNat]?) = (List.range xs.size).filterMap fun m => xs.toList.reverse[m]? := by
    refine fm_congr _ fun m hm => ?_
    have hm := List.mem_range.mp hm
    rw [List.getElem?_reverse (by rw [Array.length_toList]; exact hm), Array.getElem?_toList, Array.length_toList]
    congr 1
    omega
  rw [e]
  have q : ∀ l : List Value, ((List.range l.length).filterMap fun m => l[m]?) = l := by
    intro l
    induction l with
    | nil => rfl
    | cons a l ih =>
      rw [List.length_cons, List.range_succ_eq_map, List.filterMap_cons]
      show a :: _ = _
      rw [List.filterMap_map]
      exact congrArg _ ih
  have r := q xs.toList.reverse
  rw [List.length_reverse, Array.length_toList] at r
  exact r
theorem applied_rev {sl : Addr} {n : Nat} {u : Tok} {Q : Int × Int × Nat → Shared → Prop} (hs : s.heap.IsSliceOf sl .none .none (.int (-1) u)) (h : Q ((n : Int) - 1, -1, n) s) :
    wpAny (model P w) A (Builtin.Slice.sliceApplied (.ref sl) (pure (n : Int))) Q E s := by
  rcases id hs with ⟨ob, g1, g2, g3⟩
  unfold Builtin.Slice.sliceApplied Builtin.Slice.sliceFields
  apply wpAny_bind
  apply wpAny_bind
  apply wpAny_field g1 g3 (x := .none) rfl
  apply wpAny_bind
  apply wpAny_field g1 g3 (x := .none) rfl
  apply wpAny_bind
  apply wpAny_field g1 g3 (x := .int (-1) u) rfl
  apply wpAny_pure
  apply wpAny_bind
  apply slicePart_int
  show wpAny _ _ (if ((-1 : Int) == 0) = true then _ else _) _ _ s
  rw [if_neg (by decide)]
  apply wpAny_bind
  apply slicePart_none
  apply wpAny_bind
  apply slicePart_none
  apply wpAny_bind
  apply wpAny_pure
  have e : Builtin.Slice.sliceAdjust none none (-1) (n : Int) = ((n : Int) - 1, -1) := rfl
  show wpAny _ _ (match Builtin.Slice.sliceAdjust none none (-1) (n : Int) with | (lo, hi) => pure (lo, (-1 : Int), Builtin.Slice.slicePlaces lo hi (-1))) _ _ s
  rw [e]
  have e2 : Builtin.Slice.slicePlaces ((n : Int) - 1) (-1) (-1) = n := by
    unfold Builtin.Slice.slicePlaces
    have h1 : ¬ (-1 : Int) > 0 := by decide
    simp only [h1, if_false]
    rw [show (- (-1 : Int)) = 1 from rfl, Int.ediv_one]
    split <;> omega
  show wpAny _ _ (pure ((n : Int) - 1, (-1 : Int), Builtin.Slice.slicePlaces ((n : Int) - 1) (-1) (-1))) _ _ s
  rw [e2]
  exact wpAny_pure h
theorem item_rev {t sl : Addr} {items : Array Value} {u : Tok} {Q : Value → Shared → Prop} (ht : IsTup s.heap t items) (hs : s.heap.IsSliceOf sl .none .none (.int (-1) u)) (hz : items.size ≤ sizeLine)
    (h : Q (.ref s.heap.objs.size) { s with heap := s.heap.push { cls := .type "tuple", data := .seq items.toList.reverse.toArray } }) : wpAny (model P w) A (getItem (.ref t) (.ref sl)) Q E s := by
  have room : sizeOk (.seq items.toList.reverse.toArray) := by
    show items.toList.reverse.toArray.size ≤ sizeLine
    rw [List.size_toArray, List.length_reverse, Array.length_toList]
    exact hz
  have ty : s.TypeIs (.ref sl) "slice" := by
    rcases id hs with ⟨ob, g1, g2, _⟩
    exact ⟨ob, g1, g2⟩
  unfold getItem
  try with_reducible apply wpAny_holding
  first | (apply wpAny_bind; apply wpAny_pure) | skip
  apply wpAny_bind
  apply wpAny_sequenceKey ht.typeIs (by decide)
  apply wpAny_bind
  apply wpAny_callSpecial?_slot (name := Str.ofString "__getitem__") ht.typeIs slot_tuple_getitem
  apply wpAny_call_entry slot_tuple_getitem ht.typeIs entry_tuple_getitem
  change wpAny _ _ (Builtin.Tuple.tupleItemsOf (.ref t) >>= _) _ _ s
  apply wpAny_bind
  apply tupleItemsOf_ ht
  apply wpAny_bind
  apply wpAny_typeOf ty
  rw [if_pos (by decide)]
  apply wpAny_bind
  apply applied_rev hs
  have no : ¬ (((items.size : Int) - 1 == 0 && (-1 : Int) == 1 && items.size == items.size) = true) := by
    rw [show ((-1 : Int) == 1) = false from rfl, Bool.and_false, Bool.false_and]
    exact Bool.false_ne_true
  dsimp only
  rw [if_neg no, rev_pick]
  have fin : wpAny (model P w) A.in1 (Builtin.Tuple.tupleExact items.toList.reverse.toArray) (fun r s' => r = .ref s.heap.objs.size ∧ s' = { s with heap := s.heap.push { cls := .type "tuple", data := .seq items.toList.reverse.toArray } }) E s := wpAny_newObj_type ⟨rfl, rfl⟩ room
  refine wpAny_bind (wpAny_mono fin ?_ fun _ _ x => x)
  rintro r s' ⟨rfl, rfl⟩
  exact wpAny_pure ⟨_, rfl, wpAny_pure h⟩
end
/-! ### the rule -/
def tRevT (K : PySem.W.Frag) (te : TE) : TE := fun σ H Q => te σ H fun x H1 => ∃ a xs, x = .ref a ∧ SqT K H1 a xs ∧ ∀ p, H1 p = none → Q (.ref p) (upd H1 p (.tup xs.reverse))
section
variable {X : Cx} {e : Expr}
theorem pe_revT {te : TE} {k : Nat} {p1 p2 p3 pos : Pos} (he : PE X e te) : PE X (.Subscript e (.Slice none none (some (.UnaryOp .USub (.Constant (.int 1) k p1) p2)) p3) pos) (tRevT X.K te) := by
  constructor
  intro pins s σ H Q I h
  apply Subscript_
  apply thn (he.run pins s σ H _ I h)
  rintro v s1 ⟨x, H1, I1, r1, a, xs, rfl, hx, q⟩
  cases r1
  have minus : PO X (some (.UnaryOp .USub (.Constant (.int 1) k p1) p2)) (tPart (tUn (rU fun i => .int (-i)) (tC (.int 1)))) := po_some (pe_un un_neg pe_int)
  have nop := fun (s : Shared) (H : Hp) (I : Inv X pins σ H s) => (po_none (X := X)).run pins s σ H (fun o H2 => o = none ∧ H2 = H) I ⟨rfl, rfl⟩
  apply wpAny_Slice
  apply thn (nop s1 H1 I1)
  rintro vl s2 ⟨l, H2, I2, pl, rfl, rfl⟩
  apply thn (nop s2 _ I2)
  rintro vu s3 ⟨u, H3, I3, pu, rfl, rfl⟩
  apply thn (minus.run pins s3 σ _ (fun o H4 => o = some (-1) ∧ H4 = H3) I3 ⟨1, rfl, -1, rfl, rfl, rfl⟩)
  rintro vs s4 ⟨o, H4, I4, ps, rfl, rfl⟩
  cases pl
  cases pu
  obtain ⟨tk, rfl⟩ : ∃ t, vs = .int (-1) t := by
    cases ps
    exact ⟨_, rfl⟩
  have up : ∀ b ob, s4.heap.get? b = some ob → (s4.heap.push { cls := .type "slice", data := .fields #[.none, .none, .int (-1) tk] }).get? b = some ob := fun b ob => Heap.get?_push_of_some _
  have J : Inv X pins σ H4 { s4 with heap := s4.heap.push { cls := .type "slice", data := .fields #[.none, .none, .int (-1) tk] } } := I4.kept (t' := s4.toks) up
  rcases J.tuple hx with ⟨its, r, ht, hz⟩
  have hl : its.length = xs.length := r.length.symm
  apply tail_any (ops := [.ref a, .ref s4.heap.objs.size]) ht.typeIs (slot_tuple_getitem.lookup) _ (by with_unfolding_all rfl)
  apply item_rev ht (Heap.IsSliceOf.new _ .none .none (.int (-1) tk)) (by rw [List.size_toArray, hl]; exact hz)
  refine ⟨.ref _, _, J.laid (t' := s4.toks) (o := .tup xs.reverse) (fun b ob z => Heap.get?_push_of_some _ z) (Nat.le_refl _) ?_, rfl, q _ (J.hok.fresh (Nat.le_refl _))⟩
  exact ⟨by rw [List.length_reverse]; exact hz, _, r.reverse, IsTup.new _ _⟩
def gRev : PyData → Option PyData
  | .list xs => some (.list xs.reverse)
  | .tuple xs => some (.tuple xs.reverse)
  | _ => none
theorem vk_rev1 {xs : List PyData} : gRev (.list xs) = some (.list xs.reverse) := (rfl)
theorem vk_rev2 {xs : List PyData} : gRev (.tuple xs) = some (.tuple xs.reverse) := (rfl)
theorem rev_range {n : Nat} {α : Type} (f : Nat → α) : ((List.range n).map f).reverse = (List.range n).map fun i => f (n - 1 - i) := by
  apply List.ext_getElem
  · simp
  · intro i h1 h2
    simp
theorem DqAll.rev {K : PySem.W.Frag} {Z : Hp} {vs : List V} {ds : List PyData} (h : DqAll K Z vs ds) : DqAll K Z vs.reverse ds.reverse := by
  have ap : ∀ {vs ws : List V} {ds es : List PyData}, DqAll K Z vs ds → DqAll K Z ws es → DqAll K Z (vs ++ ws) (ds ++ es) := by
    intro vs
    induction vs with
    | nil => intro ws ds es h g; cases h; exact g
    | cons v vs ih => intro ws ds es h g; cases h with | cons a b => exact .cons a (ih b g)
  revert ds
  induction vs with
  | nil => intro ds h; cases h; exact .nil
  | cons v vs ih =>
    intro ds h
    cases h with
    | cons a b =>
      rw [List.reverse_cons, List.reverse_cons]
      exact ap (ih b) (.cons a .nil)
theorem d_rev {f : EE} {k : Nat} {p1 p2 p3 pos : Pos} (he : PE X e (tD X.K f)) : PE X (.Subscript e (.Slice none none (some (.UnaryOp .USub (.Constant (.int 1) k p1) p2)) p3) pos) (tD X.K (eUn gRev f)) := by
  constructor
  intro pins s σ H Q I h
  obtain ⟨C, Z, S, d, S', R, e1, q⟩ := h
  obtain ⟨x, h1, g1⟩ := eUn_some e1
  cases x with
  | list xs =>
    cases g1
    refine (pe_revL he).run pins s σ H Q I ?_
    refine ⟨C, Z, S, _, S', R, h1, fun v H1 Z1 sm R1 hv => ?_⟩
    cases hv with
    | lst m1 m2 => exact ⟨_, _, rfl, .inl (rd_mono R1.sub m1), fun p hp => q _ _ _ (sm.trans (R1.newZ hp)) (R1.new hp) (dq_lst R1 hp (DqAll.rev m2))⟩
  | tuple xs =>
    cases g1
    refine (pe_revT he).run pins s σ H Q I ?_
    refine ⟨C, Z, S, _, S', R, h1, fun v H1 Z1 sm R1 hv => ?_⟩
    cases hv with
    | tup m1 m2 => exact ⟨_, _, rfl, sqT_mono R1.sub m1, fun p hp => q _ _ _ (sm.trans (R1.newZ hp)) (R1.new hp) (dq_tup R1 hp (DqAll.rev m2))⟩
  | _ => cases g1
end
end DL

/-! DLD: a op b op c op d, range(i, j, -1), xs.pop(), xs.pop(i). -/
namespace PySem.W
open PySem PySem.Calls PyProof.Rows
section
variable {prog : Program} {w : World} {A : Around} {E : Value → Shared → Prop} {s : Shared}
theorem collect_tup {l : Addr} {vs : List Value} {Q : List Value → Shared → Prop} {o : Obj} {n : Nat} (ho : s.heap.get? l = some o) (hc : o.cls = .type "tuple") (hd : o.data = .seq vs.toArray n)
    (h : Q vs { s with heap := (s.heap.push (seqObj "list" #[] 0)).update s.heap.objs.size (Obj.mapSeq (· ++ vs.toArray)) }) (hsz : vs.length ≤ sizeLine) : wpAny (model prog w) A (collect (.ref l)) Q E s := by
  unfold collect
  refine wpAny_bind (wpAny_runValue (codeAny_builtin entry_proto_collect' ?_))
  show wpAny _ _ (do again (.builtin "list.__iadd__" ⟨[← newList [], .ref l], []⟩)) _ _ s
  refine wpAny_bind (wpAny_newList (wpAny_pure ⟨Code.quiet_builtin _ (by decide +kernel), codeAny_builtin entry_list_iadd' ?_⟩))
  show wpAny _ _ (Builtin.List.listExtendWith (.ref s.heap.objs.size) (.ref l) (.ref s.heap.objs.size)) _ _ { s with heap := s.heap.push (seqObj "list" #[] 0) }
  unfold Builtin.List.listExtendWith
  have ho' : (s.heap.push (seqObj "list" #[] 0)).get? l = some o := Heap.get?_push_of_some _ ho
  refine wpAny_bind (wpAny_typeOf (T := "tuple") ⟨o, ho', hc⟩ ?_)
  rw [if_pos (by simp)]
  refine wpAny_bind (listItems_at ho' hd ?_)
  refine wpAny_bind (listItems_at (xs := #[]) (n := 0) (Heap.get?_push_size _ rfl) rfl ?_)
  rw [if_neg (by simp)]
  refine wpAny_bind (listUpdate_at (xs := #[]) (n := 0) (Heap.get?_push_size _ rfl) rfl ?_ (Nat.zero_le _) (by show (#[] ++ vs.toArray).size ≤ sizeLine + 1; simp only [Array.size_append, List.size_toArray, List.length_nil]; omega))
  refine wpAny_pure ?_
  show wpAny (model prog w) A (do
      let o ← load s.heap.objs.size
      match o.data with
      | .seq xs _ => pure xs.toList
      | _ => unsupported "internal:collect") Q E { s with heap := (s.heap.push (seqObj "list" #[] 0)).update s.heap.objs.size (Obj.mapSeq (· ++ vs.toArray)) }
  refine wpAny_bind (wpAny_load (get?_update_seq (Heap.get?_push_size _ rfl) _) ?_)
  show wpAny _ _ (pure ((#[] : Array Value) ++ vs.toArray).toList) Q E _
  rw [show ((#[] : Array Value) ++ vs.toArray).toList = vs by simp]
  exact wpAny_pure h
variable {β : Type} {vs : List Value} {bs : List β} {enc : β → PyData} {R : Value → β → Prop}
theorem sorted_tup_data {l : Addr} {Q : Value → Shared → Prop} {o : Obj} {n : Nat} (ho : s.heap.get? l = some o) (hc : o.cls = .type "tuple") (hd : o.data = .seq vs.toArray n) (e : EachIs R vs bs) (er : EachIs (fun v b => ∃ as, Reads s.heap v (enc b) as) vs bs) (hal : AllAlike (bs.map enc)) (hk : Sortable (bs.map enc)) (hL : bs.length ≤ sizeLine)
    (hu : ∀ b, b ∈ bs → A.units + 2 + (enc b).depth < cLine) (h : ∀ out, out.length = bs.length → EachIs R out (bs.mergeSort (dataLe false enc)) → Q (.ref (s.heap.objs.size + 1)) { s with heap := sortedAll s.heap vs (List.toArray out) }) :
    wpAny (model prog w) A (call (.builtin "sorted") [.ref l]) Q E s := by
  have er' : EachIs (fun v b => ∃ as, Reads (sortingHeap (copyHeap s.heap vs) (s.heap.objs.size + 1) vs) v (enc b) as) vs bs := er.mono fun _ _ ⟨as, r⟩ => ⟨as, PyProof.Rows.Reads.keeps (fun _ _ => sorting_copy_old) r⟩
  have S := SortsAt.data (A := A.in1.in1) (prog := prog) (w := w) (s := { s with heap := sortingHeap (copyHeap s.heap vs) (s.heap.objs.size + 1) vs }) (each_map (R := fun v d => ∃ as, Reads (sortingHeap (copyHeap s.heap vs) (s.heap.objs.size + 1) vs) v d as) enc er') hal hk (bound_map hu)
  have hL' : vs.length ≤ sizeLine := by rw [e.length]; exact hL
  have hq := h _ (by rw [sortVals_length false rfl]; exact e.length) (sortVals_data false e er' hal)
  refine call_function_entry_kw kind_sorted plain_sorted entry_sorted (args_sorted1 _) ?_
  unfold Builtin.«sorted»
  refine wpAny_bind (m := checkCount "sorted" 1 1 _) (wpAny_pure ?_)
  refine wpAny_bind (collect_tup ho hc hd ?_ hL')
  refine wpAny_bind (wpAny_newList ?_ hL')
  have hsz : ((s.heap.push (seqObj "list" #[] 0)).update s.heap.objs.size (Obj.mapSeq (· ++ vs.toArray))).objs.size = s.heap.objs.size + 1 := by
    rw [Heap.size_update, size_push']
  show wpAny _ _ _ _ _ { s with heap := copyHeap s.heap vs }
  rw [hsz]
  refine wpAny_bind (wpAny_holding (wpAny_call_entry_kw slot_list_sort ⟨_, copyHeap_at s.heap vs, rfl⟩ entry_list_sort ?body (args_list_sort _)))
  case body =>
    refine wpAny_mono (list_sort_vals (P := fun f s' => f = .done (.ret .none) ∧ Q (.ref (s.heap.objs.size + 1)) s') (s := { s with heap := copyHeap s.heap vs }) (copyHeap_at s.heap vs) S hL' ⟨rfl, hq⟩) (fun f s' hf => ?_) fun _ _ e => e
    obtain ⟨rfl, hq⟩ := hf
    exact ⟨_, rfl, wpAny_pure ⟨_, rfl, hq⟩⟩
end
end PySem.W
namespace DL
open PySem PySem.Spec PyProof.Rows L2
/-! ### chains of three -/
def tChain3 (r r' r'' : R2) (ta tb tc td : TE) : TE := fun σ H Q => ta σ H fun x H1 => tb σ H1 fun y H2 => r x y H2 fun z H3 => ∃ k, z = .bl k ∧
  (if k = true then tc σ H3 fun w H4 => r' y w H4 fun z2 H5 => ∃ k2, z2 = .bl k2 ∧ (if k2 = true then td σ H5 fun u H6 => r'' w u H6 Q else Q (.bl false) H5) else Q (.bl false) H3)
section
variable {X : Cx} {a b c e d : Expr} {ta tb tc td : TE} {pos : Pos}
theorem pe_chain3 {op op' op'' : CmpOp} {r r' r'' : R2} (ho : OpR X (compareOp op) r) (ho' : OpR X (compareOp op') r') (ho'' : OpR X (compareOp op'') r'') (ha : PE X a ta) (hb : PE X b tb) (hc : PE X c tc) (hd : PE X d td)
    (hm : lastMarks [op, op', op''] [b, c, d] = false := by with_unfolding_all rfl) : PE X (.Compare a [op, op', op''] [b, c, d] pos) (tChain3 r r' r'' ta tb tc td) := by
  refine ⟨fun pins s σ H Q I h => ?_⟩
  refine Compare_chain (thn (ha.run pins s σ H _ I h) fun v s1 ⟨x, H1, I1, r1, q1⟩ => chain_link (thn (hb.run pins s1 σ H1 _ I1 q1) fun u s2 ⟨y, H2, I2, r2, q2⟩ =>
    thn (ho pins s2 σ H2 x y v u _ I2 r1 r2 q2) fun d s3 ⟨z, H3, I3, r3, k, e, q3⟩ => ?_)) hm
  subst e
  cases r3
  refine wpAny_truthy_bool ?_
  cases k with
  | false => exact ite_ff ⟨.bl false, H3, I3, rfl, q3⟩
  | true =>
    refine ite_tt (chain_link (thn (hc.run pins s3 σ H3 _ I3 q3) fun w' s4 ⟨z', H4, I4, r4, q4⟩ => thn (ho' pins s4 σ H4 y z' u w' _ I4 r2 r4 q4) fun d2 s5 ⟨z2, H5, I5, r5, k2, e2, q5⟩ => ?_))
    subst e2
    cases r5
    refine wpAny_truthy_bool ?_
    cases k2 with
    | false => exact ite_ff ⟨.bl false, H5, I5, rfl, q5⟩
    | true => exact ite_tt (chain_last (thn (hd.run pins s5 σ H5 _ I5 q5) fun w6 s6 ⟨z6, H6, I6, r6, q6⟩ => ho'' pins s6 σ H6 z' z6 w' w6 Q I6 r4 r6 q6))
theorem pt_chain3 {op op' op'' : CmpOp} {r r' r'' : R2} (ho : OpR X (compareOp op) r) (ho' : OpR X (compareOp op') r') (ho'' : OpR X (compareOp op'') r'') (ha : PE X a ta) (hb : PE X b tb) (hc : PE X c tc) (hd : PE X d td)
    (hm : lastMarks [op, op', op''] [b, c, d] = false := by with_unfolding_all rfl) : PT X (.Compare a [op, op', op''] [b, c, d] pos) (tTest (tChain3 r r' r'' ta tb tc td)) := by
  refine ⟨fun pins s σ H Q I h => ?_⟩
  refine isTrue_chain (thn (ha.run pins s σ H _ I h) fun v s1 ⟨x, H1, I1, r1, q1⟩ => test_link (thn (hb.run pins s1 σ H1 _ I1 q1) fun u s2 ⟨y, H2, I2, r2, q2⟩ =>
    thn (ho pins s2 σ H2 x y v u _ I2 r1 r2 q2) fun d s3 ⟨z, H3, I3, r3, k, e, q3⟩ => ?_)) hm
  subst e
  cases r3
  refine wpAny_truthy_bool ?_
  cases k with
  | false =>
    obtain ⟨k', e', q'⟩ := q3
    cases e'
    exact ite_ff ⟨H3, I3, q'⟩
  | true =>
    refine ite_tt (test_link (thn (hc.run pins s3 σ H3 _ I3 q3) fun w' s4 ⟨z', H4, I4, r4, q4⟩ => thn (ho' pins s4 σ H4 y z' u w' _ I4 r2 r4 q4) fun d2 s5 ⟨z2, H5, I5, r5, k2, e2, q5⟩ => ?_))
    subst e2
    cases r5
    refine wpAny_truthy_bool ?_
    cases k2 with
    | false =>
      obtain ⟨k', e', q'⟩ := q5
      cases e'
      exact ite_ff ⟨H5, I5, q'⟩
    | true =>
      refine ite_tt (test_last (thn (hd.run pins s5 σ H5 _ I5 q5) fun w6 s6 ⟨z6, H6, I6, r6, q6⟩ => thn (ho'' pins s6 σ H6 z' z6 w' w6 _ I6 r4 r6 q6) fun d' s7 ⟨z7, H7, I7, r7, k7, e7, q7⟩ => ?_))
      subst e7
      cases r7
      exact wpAny_truthy_bool ⟨H7, I7, q7⟩
/-- a op b op' c op'' d -/
def eChain3 (g g' g'' : PyData → PyData → Option PyData) (fa fb fc fd : EE) : EE := fun S => match fa S with
  | none => none
  | some (x, S1) => match fb S1 with
    | none => none
    | some (y, S2) => match g x y with
      | some (.bool true) => match fc S2 with
        | none => none
        | some (z, S3) => match g' y z with
          | some (.bool true) => match fd S3 with
            | none => none
            | some (u, S4) => match g'' z u with
              | none => none
              | some w => some (w, S4)
          | some (.bool false) => some (.bool false, S3)
          | _ => none
      | some (.bool false) => some (.bool false, S2)
      | _ => none
theorem dChain3 {K : PySem.W.Frag} {r r' r'' : R2} {g g' g'' : PyData → PyData → Option PyData} {fa fb fc fd : EE} (h1 : BinD K r g) (h2 : BinD K r' g') (h3 : BinD K r'' g'') : ∀ σ H Q, tD K (eChain3 g g' g'' fa fb fc fd) σ H Q → tChain3 r r' r'' (tD K fa) (tD K fb) (tD K fc) (tD K fd) σ H Q := by
  rintro σ H Q ⟨C, Z, S, d, S', R, e, q⟩
  unfold eChain3 at e
  split at e
  · cases e
  · next x S1 e1 =>
    split at e
    · cases e
    · next y S2 e2 =>
      split at e
      · next e3 =>
        split at e
        · cases e
        · next z S3 e4 =>
          refine ⟨C, Z, S, x, S1, R, e1, fun v H1 Z1 sm R1 hv => ⟨C, Z1, S1, y, S2, R1, e2, fun u H2 Z2 sm2 R2 hu => ?_⟩⟩
          refine h1 R2 (dq_mono sm2 hv) hu e3 fun k H3 Z3 sm3 R3 hk => ?_
          cases hk
          refine ⟨true, rfl, iteT ⟨C, Z3, S2, z, S3, R3, e4, fun t H4 Z4 sm4 R4 ht => ?_⟩⟩
          split at e
          · next e5 =>
            split at e
            · cases e
            · next w S4 e6 =>
              split at e
              · cases e
              · next o e7 =>
                cases e
                refine h2 R4 (dq_mono (sm3.trans sm4) hu) ht e5 fun k5 H5 Z5 sm5 R5 h5 => ?_
                cases h5
                exact ⟨true, rfl, iteT ⟨C, Z5, S3, w, S', R5, e6, fun t6 H6 Z6 sm6 R6 h6 => h3 R6 (dq_mono (sm5.trans sm6) ht) h6 e7 fun v7 H7 Z7 sm7 R7 h7 => q v7 H7 Z7 (sm.trans (sm2.trans (sm3.trans (sm4.trans (sm5.trans (sm6.trans sm7)))))) R7 h7⟩⟩
          · next e5 =>
            cases e
            refine h2 R4 (dq_mono (sm3.trans sm4) hu) ht e5 fun k5 H5 Z5 sm5 R5 h5 => ?_
            cases h5
            exact ⟨false, rfl, iteF (q _ H5 Z5 (sm.trans (sm2.trans (sm3.trans (sm4.trans sm5)))) R5 (.bl _))⟩
          · cases e
      · next e3 =>
        cases e
        refine ⟨C, Z, S, x, S1, R, e1, fun v H1 Z1 sm R1 hv => ⟨C, Z1, S1, y, S', R1, e2, fun u H2 Z2 sm2 R2 hu => ?_⟩⟩
        refine h1 R2 (dq_mono sm2 hv) hu e3 fun k H3 Z3 sm3 R3 hk => ?_
        cases hk
        exact ⟨false, rfl, iteF (q _ H3 Z3 (sm.trans (sm2.trans sm3)) R3 (.bl _))⟩
      · cases e
theorem d_chain3 {op op' op'' : CmpOp} {r r' r'' : R2} {g g' g'' : PyData → PyData → Option PyData} {fa fb fc fd : EE} (ho : OpR X (compareOp op) r) (h1 : BinD X.K r g) (ho' : OpR X (compareOp op') r') (h2 : BinD X.K r' g') (ho'' : OpR X (compareOp op'') r'') (h3 : BinD X.K r'' g'') (ha : PE X a (tD X.K fa)) (hb : PE X b (tD X.K fb)) (hc : PE X c (tD X.K fc)) (hd : PE X d (tD X.K fd)) (hm : lastMarks [op, op', op''] [b, c, d] = false := by with_unfolding_all rfl) :
    PE X (.Compare a [op, op', op''] [b, c, d] pos) (tD X.K (eChain3 g g' g'' fa fb fc fd)) := (pe_chain3 ho ho' ho'' ha hb hc hd hm).imp (dChain3 h1 h2 h3)
theorem dt_chain3 {op op' op'' : CmpOp} {r r' r'' : R2} {g g' g'' : PyData → PyData → Option PyData} {fa fb fc fd : EE} (ho : OpR X (compareOp op) r) (h1 : BinD X.K r g) (ho' : OpR X (compareOp op') r') (h2 : BinD X.K r' g') (ho'' : OpR X (compareOp op'') r'') (h3 : BinD X.K r'' g'') (ha : PE X a (tD X.K fa)) (hb : PE X b (tD X.K fb)) (hc : PE X c (tD X.K fc)) (hd : PE X d (tD X.K fd)) (hm : lastMarks [op, op', op''] [b, c, d] = false := by with_unfolding_all rfl) :
    PT X (.Compare a [op, op', op''] [b, c, d] pos) (tDT X.K (eTest (eChain3 g g' g'' fa fb fc fd))) := (pt_chain3 ho ho' ho'' ha hb hc hd hm).imp fun σ H Q h => by
  obtain ⟨C, Z, S, d, S', R, e, q⟩ := dTest σ H Q h
  exact dChain3 h1 h2 h3 σ H _ ⟨C, Z, S, d, S', R, e, q⟩
end
/-! ### range down -/
def rangeN (lo hi : Int) : List PyData := (List.range (lo - hi).toNat).map fun (t : Nat) => PyData.int (lo - (t : Nat))
theorem rangeN_length (lo hi : Int) : (rangeN lo hi).length = (lo - hi).toNat := by
  unfold rangeN
  rw [List.length_map, List.length_range]
def lRangeN (f : EL) : EL := fun S => match f S with
  | some ([.int i, .int j, .int k], S') => if rOk i = true ∧ rOk j = true ∧ k = -1 then some (rangeN i j, S') else none
  | _ => none
theorem walkD_rangeN {K : PySem.W.Frag} {Z : Hp} (lo hi : Int) : WalkD K (Itc lo (-1) (lo - hi).toNat) Z (rangeN lo hi) :=
  ⟨_, _, by rw [rangeN_length]; exact walk_rangeC, fun _ _ => trivial, fun i H x H' hl sm y => by
    obtain ⟨e, hx⟩ := y
    rw [rangeN_length] at hl
    refine ⟨.int (lo - (i : Nat)), ?_, .inl ⟨e, by rw [hx]; show Dq K Z (V.int (lo + (i : Nat) * (-1 : Int))) _; rw [show lo + (i : Nat) * (-1 : Int) = lo - (i : Nat) by omega]; exact .int _⟩⟩
    unfold rangeN
    rw [List.getElem?_map, List.getElem?_range hl]
    rfl⟩
theorem di_rangeN {X : Cx} {tg a b c : Expr} {f : EL} {p pos : Pos} (hm : X.mg "range" = none) (h : PA X [a, b, c] (tDA X.K f)) (hg : Gl X "range" := by rfl) (hs : starEach [a, b, c] X.env = (false, eval a X.env) :: starEach [b, c] X.env := by rfl) (hpl : (backTo pos (starEach [b, c] X.env)).any (·.1) = false := by rfl) : PI X tg (.Call (.Name "range" p) [a, b, c] [] pos) (tDI X.K (lRangeN f)) := by
  refine (pi_range3 hg hm h hs hpl).imp fun σ H Q z => ?_
  obtain ⟨C, Z, S, ds, S', R, e1, q⟩ := z
  unfold lRangeN at e1
  split at e1
  · next i j k S1 h1 =>
    split at e1
    · next hr =>
      cases e1
      refine ⟨C, Z, S, _, S', R, h1, fun vs H1 Z1 sm R1 hv => ?_⟩
      obtain ⟨r1, r2⟩ := rOk_iff hr.1
      obtain ⟨r3, r4⟩ := rOk_iff hr.2.1
      obtain rfl := hr.2.2
      cases hv with
      | cons hd tl =>
        cases tl with
        | cons hd2 tl2 =>
          cases tl2 with
          | cons hd3 tl3 =>
            cases tl3
            cases hd
            cases hd2
            cases hd3
            exact ⟨i, j, -1, (i - j).toNat, rfl, RgC.neg r1 r2 r3 r4, q _ H1 Z1 sm R1 (walkD_rangeN i j)⟩
    · cases e1
  · cases e1
/-! ### xs.pop(), xs.pop(i) -/
def ePop (j : Nat) : EE := fun S => match contD S j with
  | none => none
  | some xs => match xs[xs.length - 1]? with
    | none => none
    | some d => some (d, putD S j xs.dropLast)
def ePopAt (j : Nat) (f : EE) : EE := fun S => match contD S j with
  | none => none
  | some _ => match f S with
    | some (.int i, S1) => match contD S1 j with
      | none => none
      | some xs => if 0 ≤ i ∧ xs.length ≤ 1000000 then match xs[i.toNat]? with
        | none => none
        | some d => some (d, putD S1 j (xs.eraseIdx i.toNat))
        else none
    | _ => none
theorem DqAll.dropLast {K : PySem.W.Frag} {H : Hp} {vs : List V} {ds : List PyData} (h : DqAll K H vs ds) : DqAll K H vs.dropLast ds.dropLast := by
  rw [List.dropLast_eq_take, List.dropLast_eq_take, DqAll.length h]
  exact DqAll.take _ h
section
variable {X : Cx} {e : Expr}
theorem d_pop (j : Nat) {x : Str} {px apos cpos : Pos} (hN : X.N[j]? = some x := by rfl) (hv : Vis X.env.scope x := by first | exact Or.inl rfl | exact Or.inr (Or.inl rfl) | exact Or.inr (Or.inr rfl))
    (hd : (x == ("__debug__" : Str)) = false := by decide) (hcd : (x == ("__classdict__" : Str)) = false := by decide) (hbase : attributeBase (.Name x px) "pop" X.env (eval (.Name x px) X.env) = eval (.Name x px) X.env := by rfl) (hline : (apos.endLine == cpos.line) = true := by rfl) :
    PE X (.Call (.Attribute (.Name x px) "pop" apos) [] [] cpos) (tD X.K (ePop j)) := by
  refine (pe_bm0 PySem.F.plainAttrs_list PySem.F.slot_list_pop PySem.F.type_list_pop mt_pop (pe_var hN hv hd hcd) hbase hline).imp fun σ H Q z => ?_
  obtain ⟨C, Z, S, d, S', R, e1, q⟩ := z
  unfold ePop at e1
  split at e1
  · cases e1
  · next xs h2 =>
    split at e1
    · cases e1
    · next d' hd' =>
      cases e1
      obtain ⟨p, ws, g1, g2, g3⟩ := R.cont h2
      obtain ⟨v, hv1, hv2⟩ := DqAll.getD g3 hd'
      refine ⟨.ref p, g1, ty_list g2, p, ws, v, rfl, rfl, g2, by rw [DqAll.length g3]; exact hv1, ?_⟩
      exact q _ _ Z (Same.refl _) (R.put h2 g1 (DqAll.dropLast g3)) hv2
theorem d_popAt (j : Nat) {x : Str} {px apos cpos : Pos} {f : EE} (h : PE X e (tD X.K f)) (hN : X.N[j]? = some x := by rfl) (hv : Vis X.env.scope x := by first | exact Or.inl rfl | exact Or.inr (Or.inl rfl) | exact Or.inr (Or.inr rfl))
    (hd : (x == ("__debug__" : Str)) = false := by decide) (hcd : (x == ("__classdict__" : Str)) = false := by decide)
    (hse : starEach [e] X.env = (false, eval e X.env) :: starEach [] X.env := by rfl) (hbase : attributeBase (.Name x px) "pop" X.env (eval (.Name x px) X.env) = eval (.Name x px) X.env := by rfl)
    (hfew : ((backTo cpos (starEach [e] X.env)).all (fun x => !x.1) && (backToKw cpos (keywordEach [] X.env)).all (fun x => x.1.isSome) && decide ([e].length + ([] : List Keyword).length + (if ([] : List Keyword).isEmpty then 0 else 1) < 30)) = true := by rfl) (hline : (apos.endLine == cpos.line) = true := by rfl) :
    PE X (.Call (.Attribute (.Name x px) "pop" apos) [e] [] cpos) (tD X.K (ePopAt j f)) := by
  refine (pe_bm PySem.F.plainAttrs_list PySem.F.slot_list_pop PySem.F.type_list_pop mt_popAt (pe_var hN hv hd hcd) (pa_cons h pa_nil hse) hbase hfew hline hse).imp fun σ H Q z => ?_
  obtain ⟨C, Z, S, d, S', R, e1, q⟩ := z
  unfold ePopAt at e1
  split at e1
  · cases e1
  · next xs0 h0 =>
    split at e1
    · next i S1 h1 =>
      split at e1
      · cases e1
      · next xs h2 =>
        split at e1
        · next hi =>
          split at e1
          · cases e1
          · next d' hd' =>
            cases e1
            obtain ⟨p, ws0, g1, g2, _⟩ := R.cont h0
            refine ⟨.ref p, g1, ty_list g2, C, Z, S, _, S1, R, h1, fun v H1 Z1 sm R1 hv => ?_⟩
            obtain ⟨p', ws, k1, k2, k3⟩ := R1.cont h2
            rw [g1] at k1
            cases k1
            cases hv
            obtain ⟨v, hv1, hv2⟩ := DqAll.getD k3 hd'
            have hl : i.toNat < xs.length := by
              rcases Nat.lt_or_ge i.toNat xs.length with c | c
              · exact c
              · rw [List.getElem?_eq_none c] at hd'
                cases hd'
            have hsq : seqIndex? i ws.length = some i.toNat := by
              rw [DqAll.length k3]
              unfold seqIndex?
              dsimp only
              rw [if_neg (show ¬ i < 0 by omega), decide_eq_true hi.1, decide_eq_true (show i < (xs.length : Int) by omega)]
              rfl
            refine ⟨p, ws, i, i.toNat, v, rfl, rfl, k2, by omega, by omega, hsq, hv1, ?_⟩
            exact q _ _ Z1 sm (R1.put h2 g1 (DqAll.eraseIdx _ k3)) hv2
        · cases e1
    · cases e1
end
/-! ### to work these out -/
section
variable {g g' g'' : PyData → PyData → Option PyData} {fa fb fc fd f : EE} {h : EL} {S : Sls} {x y z : PyData} {i j k : Int}
def qT6 (g'' : PyData → PyData → Option PyData) (z u : PyData) (S : Sls) : Option (PyData × Sls) := kO (g'' z u) S
def qT5 (g'' : PyData → PyData → Option PyData) (fd : EE) (z : PyData) (S : Sls) (o : Option PyData) : Option (PyData × Sls) := match o with
  | some (.bool true) => k1 (qT6 g'' z) (fd S)
  | some (.bool false) => some (.bool false, S)
  | _ => none
def qT4 (g' g'' : PyData → PyData → Option PyData) (fd : EE) (y z : PyData) (S : Sls) : Option (PyData × Sls) := qT5 g'' fd z S (g' y z)
def qT3 (g' g'' : PyData → PyData → Option PyData) (fc fd : EE) (y : PyData) (S : Sls) (o : Option PyData) : Option (PyData × Sls) := match o with
  | some (.bool true) => k1 (qT4 g' g'' fd y) (fc S)
  | some (.bool false) => some (.bool false, S)
  | _ => none
def qT2 (g g' g'' : PyData → PyData → Option PyData) (fc fd : EE) (x y : PyData) (S : Sls) : Option (PyData × Sls) := qT3 g' g'' fc fd y S (g x y)
def qT1 (g g' g'' : PyData → PyData → Option PyData) (fb fc fd : EE) (x : PyData) (S : Sls) : Option (PyData × Sls) := k1 (qT2 g g' g'' fc fd x) (fb S)
theorem vd_ch : eChain3 g g' g'' fa fb fc fd S = k1 (qT1 g g' g'' fb fc fd) (fa S) := by
  unfold eChain3 k1
  cases fa S with
  | none => rfl
  | some p =>
    show _ = k1 (qT2 g g' g'' fc fd p.1) (fb p.2)
    unfold k1
    dsimp only
    cases fb p.2 with
    | none => rfl
    | some q =>
      show _ = qT3 g' g'' fc fd q.1 q.2 (g p.1 q.1)
      unfold qT3
      dsimp only
      cases g p.1 q.1 with
      | none => rfl
      | some w =>
        cases w with
        | bool k =>
          cases k with
          | false => rfl
          | true =>
            unfold k1
            dsimp only
            cases fc q.2 with
            | none => rfl
            | some r =>
              show _ = qT5 g'' fd r.1 r.2 (g' q.1 r.1)
              unfold qT5
              dsimp only
              cases g' q.1 r.1 with
              | none => rfl
              | some w =>
                cases w with
                | bool k =>
                  cases k with
                  | false => rfl
                  | true =>
                    unfold k1
                    dsimp only
                    cases fd r.2 with
                    | none => rfl
                    | some t =>
                      show _ = kO (g'' r.1 t.1) t.2
                      dsimp only
                      cases g'' r.1 t.1 <;> rfl
                | _ => rfl
        | _ => rfl
theorem vd_ch1 : qT1 g g' g'' fb fc fd x S = k1 (qT2 g g' g'' fc fd x) (fb S) := (rfl)
theorem vd_ch2 : qT2 g g' g'' fc fd x y S = qT3 g' g'' fc fd y S (g x y) := (rfl)
theorem vd_ch3t : qT3 g' g'' fc fd y S (some (.bool true)) = k1 (qT4 g' g'' fd y) (fc S) := (rfl)
theorem vd_ch3f : qT3 g' g'' fc fd y S (some (.bool false)) = some (.bool false, S) := (rfl)
theorem vd_ch4 : qT4 g' g'' fd y z S = qT5 g'' fd z S (g' y z) := (rfl)
theorem vd_ch5t : qT5 g'' fd z S (some (.bool true)) = k1 (qT6 g'' z) (fd S) := (rfl)
theorem vd_ch5f : qT5 g'' fd z S (some (.bool false)) = some (.bool false, S) := (rfl)
theorem vd_ch6 : qT6 g'' z x S = kO (g'' z x) S := (rfl)
def qRN (ds : List PyData) (S : Sls) : Option (List PyData × Sls) := match ds with
  | [.int i, .int j, .int k] => if rOk i = true ∧ rOk j = true ∧ k = -1 then some (rangeN i j, S) else none
  | _ => none
theorem vd_rn : lRangeN h S = k1 qRN (h S) := by
  unfold lRangeN k1
  cases h S with
  | none => rfl
  | some p =>
    obtain ⟨ds, S'⟩ := p
    unfold qRN
    dsimp only
    split <;> simp_all
theorem vd_rn1 : qRN [.int i, .int j, .int (-1)] S = if rOk i = true ∧ rOk j = true then some (rangeN i j, S) else none := by
  show (if rOk i = true ∧ rOk j = true ∧ (-1 : Int) = -1 then _ else _) = _
  simp only [and_true]
theorem vd_pop {n : Nat} : ePop n S = kP (fun xs => kP (fun d => some (d, putD S n xs.dropLast)) xs[xs.length - 1]?) (contD S n) := by
  unfold ePop kP
  cases contD S n with
  | none => rfl
  | some xs =>
    dsimp only
    cases xs[xs.length - 1]? <;> rfl
def qPop2 (S : Sls) (n : Nat) (i : Int) (xs : List PyData) : Option (PyData × Sls) := if 0 ≤ i ∧ xs.length ≤ 1000000 then kP (fun d => some (d, putD S n (xs.eraseIdx i.toNat))) xs[i.toNat]? else none
def qPop1 (n : Nat) (d : PyData) (S : Sls) : Option (PyData × Sls) := match d with
  | .int i => kP (qPop2 S n i) (contD S n)
  | _ => none
def qPop0 (n : Nat) (f : EE) (S : Sls) (_ : List PyData) : Option (PyData × Sls) := k1 (qPop1 n) (f S)
theorem vd_popAt {n : Nat} : ePopAt n f S = kP (qPop0 n f S) (contD S n) := by
  unfold ePopAt kP
  cases contD S n with
  | none => rfl
  | some xs =>
    show _ = k1 (qPop1 n) (f S)
    unfold k1
    dsimp only
    cases f S with
    | none => rfl
    | some p =>
      obtain ⟨d, S1⟩ := p
      unfold qPop1
      cases d with
      | int i =>
        dsimp only
        unfold kP
        cases contD S1 n with
        | none => rfl
        | some ys =>
          show _ = qPop2 S1 n i ys
          unfold qPop2 kP
          dsimp only
          split
          · cases ys[i.toNat]? <;> rfl
          · rfl
      | _ => rfl
theorem vd_pop0 {n : Nat} {xs : List PyData} : qPop0 n f S xs = k1 (qPop1 n) (f S) := (rfl)
theorem vd_pop1 {n : Nat} : qPop1 n (.int i) S = kP (qPop2 S n i) (contD S n) := (rfl)
theorem vd_pop2 {n : Nat} {xs : List PyData} (h : 0 ≤ i) (h2 : xs.length ≤ 1000000) : qPop2 S n i xs = kP (fun d => some (d, putD S n (xs.eraseIdx i.toNat))) xs[i.toNat]? := if_pos ⟨h, h2⟩
end
/-! ### sorted(tuple) -/
def rSrtT (K : PySem.W.Frag) : List V → Hp → VK → Prop := fun vs H Q => ∃ (a : Addr) (Z : Hp) (ws : List V) (ds : List PyData), vs = [V.ref a] ∧ SqT K H a ws ∧ DqAll K Z ws ds ∧ Same Z H ∧ PySem.W.AllAlike ds ∧ PySem.W.Sortable ds ∧ ds.length ≤ 1000000 ∧ (∀ d ∈ ds, d.depth ≤ 40) ∧
  ∀ (us : List V) (p : Addr), DqAll K Z us (srtD ds) → H p = none → Q (.ref p) (upd H p (.lst us))
theorem cr_srtT {X : Cx} (hu : X.A.units + 64 < cLine) : CallR X (.builtin "sorted") (rSrtT X.K) := by
  intro pins s σ H vs us Q I r h
  obtain ⟨a, Z, ws, ds, rfl, hs, hd, sm, al, so, hl, dp, q⟩ := h
  obtain ⟨its, rv, pl, _⟩ := I.tuple hs
  obtain ⟨o, ho, hc, n, hdd⟩ := pl
  rw [Vals.ref1 r]
  have e := each_dat rv hd
  have er : PySem.W.EachIs (fun v b => ∃ as, Reads s.heap v (id b) as) its ds := e.mono fun v d ⟨x, r, hx⟩ => Dp.reads I d x v (dq_mono sm hx).dp r
  refine PySem.W.sorted_tup_data (enc := id) ho hc hdd e er (by rw [List.map_id]; exact al) (by rw [List.map_id]; exact so) (Nat.le_trans hl million) (fun b hb => ?_) fun out ho eo => ?_
  · have := dp b hb
    show X.A.units + 2 + b.depth < cLine
    omega
  obtain ⟨us', rv', hd'⟩ := dat_each eo
  obtain ⟨ep, he'⟩ := PyProof.Rows.sortedAll_at s.heap its (List.toArray out)
  have hlen : us'.length ≤ sizeLine := by rw [rv'.length, ho]; exact Nat.le_trans hl million
  exact ⟨.ref _, upd H (s.heap.objs.size + 1) (.lst us'), I.laid (t' := s.toks) (fun _ _ => PyProof.Rows.sortedAll_old) (Nat.le_succ _) ⟨hlen, out, ep, rv', he'⟩, rfl, q us' _ hd' (I.hok.fresh (Nat.le_succ _))⟩
def gSrtT : List PyData → Option (List PyData)
  | [.tuple ds] => if (ds.all intTupD || ds.all tripD || srtOk ds) = true ∧ ds.length ≤ 1000000 then some (srtD ds) else none
  | _ => none
theorem c_srtT {K : PySem.W.Frag} : CallF K (rSrtT K) gSrtT := by
  intro C Z σ H S vs ds z Q R hv g q
  unfold gSrtT at g
  split at g
  · next xs =>
    split at g
    · next hd =>
      cases g
      cases hv with
      | cons h t =>
        cases t
        cases h with
        | tup h1 a1 =>
          have sp : SrtP xs := by
            have := hd.1
            rw [Bool.or_eq_true, Bool.or_eq_true] at this
            rcases this with (h | h) | h
            · exact srtP_int h
            · exact srtP_trip h
            · exact srtP_ok h
          refine ⟨_, Z, _, xs, rfl, sqT_mono R.sub h1, a1, R.sub, sp.al, sp.so, hd.2, sp.dp, fun us p h2 hp => ?_⟩
          obtain ⟨b1, b2, b3, b4, b5⟩ := df_new R (ws := us) hp
          exact q p us _ Z (Same.refl _) b1 b2 b3 b4 b5 h2
    · cases g
  · cases g
theorem vd_srtT {xs : List PyData} (h : (xs.all intTupD || xs.all tripD || srtOk xs) = true) (h2 : xs.length ≤ 1000000) : gSrtT [.tuple xs] = some (srtD xs) := if_pos ⟨h, h2⟩
end DL

/-! K17: the defs by data, printed by gen.py. -/
namespace K17
open PySem PySem.Spec PyProof.Rows L2 DL
def topS (i : Nat) : Stmt := PySem.Challenge.pw_fewrows_k17_whole_pairings_of_tilted_squ.main.body.getD i (.Pass ⟨0, 0, 0, 0⟩)
abbrev s__law_hand : Stmt := topS 35
abbrev N__law_hand : List Str := ["script", "cells", "cell"]
theorem sc__law_hand : FnScope ["script", "cells", "cell"] ["script"] (defScope s__law_hand) := ⟨rfl, rfl, rfl, by decide +kernel, rfl, by decide +kernel, by decide +kernel⟩
def c__law_hand_0 : EE :=
    eCall gAbs (lCons (eCall gInt (lCons (eVar 2) lNil)) lNil)
theorem c__law_hand_0_ap (S : Sls) : c__law_hand_0 S = (eCall gAbs (lCons (eCall gInt (lCons (eVar 2) lNil)) lNil)) S := (rfl)
def g__law_hand : SF :=
    sSeq (sSetF 1 (eLc (eItems (eL (lScr 0 oNone (oSome (eC (.int 63)))))) (.nm 2) [2] bYes c__law_hand_0))
    (sRetF (lLst (lCons (eVar 1) (lCons (eC (.int 0)) (lCons (eC (.int 0)) (lCons (eBin gAdd (eC (.int 1)) (eLenN 1)) (lCons (eC (.int 0)) lNil)))))))
theorem g__law_hand_ap (S : Sls) : g__law_hand S = (sSeq (sSetF 1 (eLc (eItems (eL (lScr 0 oNone (oSome (eC (.int 63)))))) (.nm 2) [2] bYes c__law_hand_0))
    (sRetF (lLst (lCons (eVar 1) (lCons (eC (.int 0)) (lCons (eC (.int 0)) (lCons (eBin gAdd (eC (.int 1)) (eLenN 1)) (lCons (eC (.int 0)) lNil)))))))) S := (rfl)
def F__law_hand : FnD := runF 3 1 g__law_hand
theorem F__law_hand_ap (S : Sls) : F__law_hand S = runF 3 1 g__law_hand S := (rfl)
abbrev s_is_tuple : Stmt := topS 3
abbrev N_is_tuple : List Str := ["thing", "least", "most"]
theorem sc_is_tuple : FnScope ["thing", "least", "most"] ["thing", "least", "most"] (defScope s_is_tuple) := ⟨rfl, rfl, rfl, by decide +kernel, rfl, by decide +kernel, by decide +kernel⟩
def g_is_tuple : SF :=
    sRet (eAnd (eUn (gIsi "tuple") (eVar 0)) (eChain gLe gLe (eVar 1) (eLenN 0) (eVar 2)))
theorem g_is_tuple_ap (S : Sls) : g_is_tuple S = (sRet (eAnd (eUn (gIsi "tuple") (eVar 0)) (eChain gLe gLe (eVar 1) (eLenN 0) (eVar 2)))) S := (rfl)
def F_is_tuple : FnD := runF 3 3 g_is_tuple
theorem F_is_tuple_ap (S : Sls) : F_is_tuple S = runF 3 3 g_is_tuple S := (rfl)
abbrev s_is_integer : Stmt := topS 1
abbrev N_is_integer : List Str := ["thing"]
theorem sc_is_integer : FnScope ["thing"] ["thing"] (defScope s_is_integer) := ⟨rfl, rfl, rfl, by decide +kernel, rfl, by decide +kernel, by decide +kernel⟩
def g_is_integer : SF :=
    sRet (eAnd (eUn (gIsi "int") (eVar 0)) (eNot (eUn (gIsi "bool") (eVar 0))))
theorem g_is_integer_ap (S : Sls) : g_is_integer S = (sRet (eAnd (eUn (gIsi "int") (eVar 0)) (eNot (eUn (gIsi "bool") (eVar 0))))) S := (rfl)
def F_is_integer : FnD := runF 1 1 g_is_integer
theorem F_is_integer_ap (S : Sls) : F_is_integer S = runF 1 1 g_is_integer S := (rfl)
abbrev s_is_within : Stmt := topS 2
abbrev N_is_within : List Str := ["thing", "low", "high"]
theorem sc_is_within : FnScope ["thing", "low", "high"] ["thing", "low", "high"] (defScope s_is_within) := ⟨rfl, rfl, rfl, by decide +kernel, rfl, by decide +kernel, by decide +kernel⟩
def g_is_within : SF :=
    sRet (eAnd (eCallU F_is_integer (lCons (eVar 0) lNil)) (eChain gLe gLe (eVar 1) (eVar 0) (eVar 2)))
theorem g_is_within_ap (S : Sls) : g_is_within S = (sRet (eAnd (eCallU F_is_integer (lCons (eVar 0) lNil)) (eChain gLe gLe (eVar 1) (eVar 0) (eVar 2)))) S := (rfl)
def F_is_within : FnD := runF 3 3 g_is_within
theorem F_is_within_ap (S : Sls) : F_is_within S = runF 3 3 g_is_within S := (rfl)
abbrev s_is_entry : Stmt := topS 15
abbrev N_is_entry : List Str := ["thing"]
theorem sc_is_entry : FnScope ["thing"] ["thing"] (defScope s_is_entry) := ⟨rfl, rfl, rfl, by decide +kernel, rfl, by decide +kernel, by decide +kernel⟩
def g_is_entry : SF :=
    sRet (eCallU F_is_within (lCons (eVar 0) (lCons (eUn gNeg (eC (.int 30))) (lCons (eC (.int 30)) lNil))))
theorem g_is_entry_ap (S : Sls) : g_is_entry S = (sRet (eCallU F_is_within (lCons (eVar 0) (lCons (eUn gNeg (eC (.int 30))) (lCons (eC (.int 30)) lNil))))) S := (rfl)
def F_is_entry : FnD := runF 1 1 g_is_entry
theorem F_is_entry_ap (S : Sls) : F_is_entry S = runF 1 1 g_is_entry S := (rfl)
abbrev s_is_line : Stmt := topS 16
abbrev N_is_line : List Str := ["thing", "many", "one"]
theorem sc_is_line : FnScope ["thing", "many", "one"] ["thing", "many"] (defScope s_is_line) := ⟨rfl, rfl, rfl, by decide +kernel, rfl, by decide +kernel, by decide +kernel⟩
def c_is_line_0 : EE :=
    eCallU F_is_entry (lCons (eVar 2) lNil)
theorem c_is_line_0_ap (S : Sls) : c_is_line_0 S = (eCallU F_is_entry (lCons (eVar 2) lNil)) S := (rfl)
def g_is_line : SF :=
    sRet (eAnd (eCallU F_is_tuple (lCons (eVar 0) (lCons (eVar 1) (lCons (eVar 1) lNil)))) (eCall gAll (lCons (eL (eLc (eItems (eVar 0)) (.nm 2) [2] bYes c_is_line_0)) lNil)))
theorem g_is_line_ap (S : Sls) : g_is_line S = (sRet (eAnd (eCallU F_is_tuple (lCons (eVar 0) (lCons (eVar 1) (lCons (eVar 1) lNil)))) (eCall gAll (lCons (eL (eLc (eItems (eVar 0)) (.nm 2) [2] bYes c_is_line_0)) lNil)))) S := (rfl)
def F_is_line : FnD := runF 3 2 g_is_line
theorem F_is_line_ap (S : Sls) : F_is_line S = runF 3 2 g_is_line S := (rfl)
abbrev s_are_rows : Stmt := topS 17
abbrev N_are_rows : List Str := ["thing", "row"]
theorem sc_are_rows : FnScope ["thing", "row"] ["thing"] (defScope s_are_rows) := ⟨rfl, rfl, rfl, by decide +kernel, rfl, by decide +kernel, by decide +kernel⟩
def c_are_rows_0 : EE :=
    eCallU F_is_line (lCons (eVar 1) (lCons (eCall gLen (lCons (eIxN 0 (eC (.int 0))) lNil)) lNil))
theorem c_are_rows_0_ap (S : Sls) : c_are_rows_0 S = (eCallU F_is_line (lCons (eVar 1) (lCons (eCall gLen (lCons (eIxN 0 (eC (.int 0))) lNil)) lNil))) S := (rfl)
def g_are_rows : SF :=
    sSeq (sIf (bOr (bNot (eTru (eCallU F_is_tuple (lCons (eVar 0) (lCons (eC (.int 1)) (lCons (eC (.int 5)) lNil)))))) (bNot (eTru (eCallU F_is_tuple (lCons (eIxN 0 (eC (.int 0))) (lCons (eC (.int 1)) (lCons (eC (.int 5)) lNil)))))))
    (sRet (eC (.bool false)))
    (sNil))
    (sRet (eCall gAll (lCons (eL (eLc (eItems (eVar 0)) (.nm 1) [1] bYes c_are_rows_0)) lNil)))
theorem g_are_rows_ap (S : Sls) : g_are_rows S = (sSeq (sIf (bOr (bNot (eTru (eCallU F_is_tuple (lCons (eVar 0) (lCons (eC (.int 1)) (lCons (eC (.int 5)) lNil)))))) (bNot (eTru (eCallU F_is_tuple (lCons (eIxN 0 (eC (.int 0))) (lCons (eC (.int 1)) (lCons (eC (.int 5)) lNil)))))))
    (sRet (eC (.bool false)))
    (sNil))
    (sRet (eCall gAll (lCons (eL (eLc (eItems (eVar 0)) (.nm 1) [1] bYes c_are_rows_0)) lNil)))) S := (rfl)
def F_are_rows : FnD := runF 2 1 g_are_rows
theorem F_are_rows_ap (S : Sls) : F_are_rows S = runF 2 1 g_are_rows S := (rfl)
abbrev s_check_rows : Stmt := topS 18
abbrev N_check_rows : List Str := ["rows"]
theorem sc_check_rows : FnScope ["rows"] ["rows"] (defScope s_check_rows) := ⟨rfl, rfl, rfl, by decide +kernel, rfl, by decide +kernel, by decide +kernel⟩
def g_check_rows : SF :=
    sIf (bNot (eTru (eCallU F_are_rows (lCons (eVar 0) lNil))))
    (sNever)
    (sNil)
theorem g_check_rows_ap (S : Sls) : g_check_rows S = (sIf (bNot (eTru (eCallU F_are_rows (lCons (eVar 0) lNil))))
    (sNever)
    (sNil)) S := (rfl)
def F_check_rows : FnD := runF 1 1 g_check_rows
theorem F_check_rows_ap (S : Sls) : F_check_rows S = runF 1 1 g_check_rows S := (rfl)
abbrev s_check_square : Stmt := topS 19
abbrev N_check_square : List Str := ["rows"]
theorem sc_check_square : FnScope ["rows"] ["rows"] (defScope s_check_square) := ⟨rfl, rfl, rfl, by decide +kernel, rfl, by decide +kernel, by decide +kernel⟩
def g_check_square : SF :=
    sSeq (sExpr (eCallU F_check_rows (lCons (eVar 0) lNil)))
    (sIf (eTest (eBin gNe (eLenN 0) (eCall gLen (lCons (eIxN 0 (eC (.int 0))) lNil))))
    (sNever)
    (sNil))
theorem g_check_square_ap (S : Sls) : g_check_square S = (sSeq (sExpr (eCallU F_check_rows (lCons (eVar 0) lNil)))
    (sIf (eTest (eBin gNe (eLenN 0) (eCall gLen (lCons (eIxN 0 (eC (.int 0))) lNil))))
    (sNever)
    (sNil))) S := (rfl)
def F_check_square : FnD := runF 1 1 g_check_square
theorem F_check_square_ap (S : Sls) : F_check_square S = runF 1 1 g_check_square S := (rfl)
abbrev s_pairings_of : Stmt := topS 30
abbrev N_pairings_of : List Str := ["places", "found", "other", "rest", "one", "some"]
theorem sc_pairings_of : FnScope ["places", "found", "other", "rest", "one", "some"] ["places"] (defScope s_pairings_of) := ⟨rfl, rfl, rfl, by decide +kernel, rfl, by decide +kernel, by decide +kernel⟩
def p_pairings_of_0 (rec : FnD) : EB :=
    eTest (eBin gNe (eVar 4) (eVar 2))
theorem p_pairings_of_0_ap (rec : FnD) (S : Sls) : p_pairings_of_0 rec S = (eTest (eBin gNe (eVar 4) (eVar 2))) S := (rfl)
def c_pairings_of_0 (rec : FnD) : EE :=
    eVar 4
theorem c_pairings_of_0_ap (rec : FnD) (S : Sls) : c_pairings_of_0 rec S = (eVar 4) S := (rfl)
def c_pairings_of_1 (rec : FnD) : EE :=
    eBin gAdd (eTup (lCons (eTup (lCons (eIxN 0 (eC (.int 0))) (lCons (eVar 2) lNil))) lNil)) (eVar 5)
theorem c_pairings_of_1_ap (rec : FnD) (S : Sls) : c_pairings_of_1 rec S = (eBin gAdd (eTup (lCons (eTup (lCons (eIxN 0 (eC (.int 0))) (lCons (eVar 2) lNil))) lNil)) (eVar 5)) S := (rfl)
def b_pairings_of_0 (rec : FnD) : SF :=
    sSeq (sSetF 3 (eLc (eItems (eSl (eVar 0) (oSome (eC (.int 1))) oNone)) (.nm 4) [4] (p_pairings_of_0 rec) (c_pairings_of_0 rec)))
    (sExtend 1 (eL (eLc (eItems (eCallU rec (lCons (eVar 3) lNil))) (.nm 5) [5] bYes (c_pairings_of_1 rec))))
theorem b_pairings_of_0_ap (rec : FnD) (S : Sls) : b_pairings_of_0 rec S = (sSeq (sSetF 3 (eLc (eItems (eSl (eVar 0) (oSome (eC (.int 1))) oNone)) (.nm 4) [4] (p_pairings_of_0 rec) (c_pairings_of_0 rec)))
    (sExtend 1 (eL (eLc (eItems (eCallU rec (lCons (eVar 3) lNil))) (.nm 5) [5] bYes (c_pairings_of_1 rec))))) S := (rfl)
def g_pairings_of (rec : FnD) : SF :=
    sSeq (sIf (eTest (eBin gEq (eLenN 0) (eC (.int 0))))
    (sRet (eL (lLst (lCons (eTup lNil) lNil))))
    (sNil))
    (sSeq (sSetF 1 (lLst lNil))
    (sSeq (sFor (eItems (eSl (eVar 0) (oSome (eC (.int 1))) oNone)) (.nm 2)
    (b_pairings_of_0 rec))
    (sRet (eVar 1))))
theorem g_pairings_of_ap (rec : FnD) (S : Sls) : g_pairings_of rec S = (sSeq (sIf (eTest (eBin gEq (eLenN 0) (eC (.int 0))))
    (sRet (eL (lLst (lCons (eTup lNil) lNil))))
    (sNil))
    (sSeq (sSetF 1 (lLst lNil))
    (sSeq (sFor (eItems (eSl (eVar 0) (oSome (eC (.int 1))) oNone)) (.nm 2)
    (b_pairings_of_0 rec))
    (sRet (eVar 1))))) S := (rfl)
def F_pairings_of : Nat → FnD
  | 0 => fun _ => none
  | n + 1 => runF 6 1 (g_pairings_of (F_pairings_of n))
theorem F_pairings_of_ap (n : Nat) (S : Sls) : F_pairings_of (n + 1) S = runF 6 1 (g_pairings_of (F_pairings_of n)) S := (rfl)
abbrev s_columns_of : Stmt := topS 21
abbrev N_columns_of : List Str := ["rows", "at", "row"]
theorem sc_columns_of : FnScope ["rows", "at", "row"] ["rows"] (defScope s_columns_of) := ⟨rfl, rfl, rfl, by decide +kernel, rfl, by decide +kernel, by decide +kernel⟩
def c_columns_of_0 : EE :=
    eIxN 2 (eVar 1)
theorem c_columns_of_0_ap (S : Sls) : c_columns_of_0 S = (eIxN 2 (eVar 1)) S := (rfl)
def c_columns_of_1 : EE :=
    eCall gTupO (lCons (eL (eLc (eItems (eVar 0)) (.nm 2) [2] bYes c_columns_of_0)) lNil)
theorem c_columns_of_1_ap (S : Sls) : c_columns_of_1 S = (eCall gTupO (lCons (eL (eLc (eItems (eVar 0)) (.nm 2) [2] bYes c_columns_of_0)) lNil)) S := (rfl)
def g_columns_of : SF :=
    sRet (eCall gTupO (lCons (eL (eLc (lRange1 (lCons (eCall gLen (lCons (eIxN 0 (eC (.int 0))) lNil)) lNil)) (.nm 1) [1] bYes c_columns_of_1)) lNil))
theorem g_columns_of_ap (S : Sls) : g_columns_of S = (sRet (eCall gTupO (lCons (eL (eLc (lRange1 (lCons (eCall gLen (lCons (eIxN 0 (eC (.int 0))) lNil)) lNil)) (.nm 1) [1] bYes c_columns_of_1)) lNil))) S := (rfl)
def F_columns_of : FnD := runF 3 1 g_columns_of
theorem F_columns_of_ap (S : Sls) : F_columns_of S = runF 3 1 g_columns_of S := (rfl)
abbrev s_turned_of : Stmt := topS 22
abbrev N_turned_of : List Str := ["rows"]
theorem sc_turned_of : FnScope ["rows"] ["rows"] (defScope s_turned_of) := ⟨rfl, rfl, rfl, by decide +kernel, rfl, by decide +kernel, by decide +kernel⟩
def g_turned_of : SF :=
    sRet (eCallU F_columns_of (lCons (eVar 0) lNil))
theorem g_turned_of_ap (S : Sls) : g_turned_of S = (sRet (eCallU F_columns_of (lCons (eVar 0) lNil))) S := (rfl)
def F_turned_of : FnD := runF 1 1 g_turned_of
theorem F_turned_of_ap (S : Sls) : F_turned_of S = runF 1 1 g_turned_of S := (rfl)
abbrev s_sign_of : Stmt := topS 31
abbrev N_sign_of : List Str := ["pairing", "many", "a", "b", "c", "d"]
theorem sc_sign_of : FnScope ["pairing", "many", "a", "b", "c", "d"] ["pairing"] (defScope s_sign_of) := ⟨rfl, rfl, rfl, by decide +kernel, rfl, by decide +kernel, by decide +kernel⟩
def p_sign_of_0 : EB :=
    eTest (eChain3 gLt gLt gLt (eVar 2) (eVar 4) (eVar 3) (eVar 5))
theorem p_sign_of_0_ap (S : Sls) : p_sign_of_0 S = (eTest (eChain3 gLt gLt gLt (eVar 2) (eVar 4) (eVar 3) (eVar 5))) S := (rfl)
def c_sign_of_0 : EE :=
    eC (.int 1)
theorem c_sign_of_0_ap (S : Sls) : c_sign_of_0 S = (eC (.int 1)) S := (rfl)
def b_sign_of_0 : SF :=
    sSetD 1 (eBin gAdd (eVar 1) (eCall gLen (lCons (eL (eLc (eItems (eVar 0)) (.tp [.nm 4, .nm 5]) [4, 5] p_sign_of_0 c_sign_of_0)) lNil)))
theorem b_sign_of_0_ap (S : Sls) : b_sign_of_0 S = (sSetD 1 (eBin gAdd (eVar 1) (eCall gLen (lCons (eL (eLc (eItems (eVar 0)) (.tp [.nm 4, .nm 5]) [4, 5] p_sign_of_0 c_sign_of_0)) lNil)))) S := (rfl)
def g_sign_of : SF :=
    sSeq (sSetD 1 (eC (.int 0)))
    (sSeq (sFor (eItems (eVar 0)) (.tp [.nm 2, .nm 3])
    (b_sign_of_0))
    (sRet (eIf (eTest (eBin gEq (eBin gMod (eVar 1) (eC (.int 2))) (eC (.int 0)))) (eC (.int 1)) (eUn gNeg (eC (.int 1))))))
theorem g_sign_of_ap (S : Sls) : g_sign_of S = (sSeq (sSetD 1 (eC (.int 0)))
    (sSeq (sFor (eItems (eVar 0)) (.tp [.nm 2, .nm 3])
    (b_sign_of_0))
    (sRet (eIf (eTest (eBin gEq (eBin gMod (eVar 1) (eC (.int 2))) (eC (.int 0)))) (eC (.int 1)) (eUn gNeg (eC (.int 1))))))) S := (rfl)
def F_sign_of : FnD := runF 6 1 g_sign_of
theorem F_sign_of_ap (S : Sls) : F_sign_of S = runF 6 1 g_sign_of S := (rfl)
abbrev s_pairs_sum : Stmt := topS 33
abbrev N_pairs_sum : List Str := ["rows", "found", "pairing", "whole", "a", "b", "row", "one"]
theorem sc_pairs_sum : FnScope ["rows", "found", "pairing", "whole", "a", "b", "row", "one"] ["rows"] (defScope s_pairs_sum) := ⟨rfl, rfl, rfl, by decide +kernel, rfl, by decide +kernel, by decide +kernel⟩
def c_pairs_sum_0 : EE :=
    eUn gNeg (eVar 7)
theorem c_pairs_sum_0_ap (S : Sls) : c_pairs_sum_0 S = (eUn gNeg (eVar 7)) S := (rfl)
def c_pairs_sum_1 : EE :=
    eCall gTupO (lCons (eL (eLc (eItems (eVar 6)) (.nm 7) [7] bYes c_pairs_sum_0)) lNil)
theorem c_pairs_sum_1_ap (S : Sls) : c_pairs_sum_1 S = (eCall gTupO (lCons (eL (eLc (eItems (eVar 6)) (.nm 7) [7] bYes c_pairs_sum_0)) lNil)) S := (rfl)
def b_pairs_sum_0 : SF :=
    sSetD 3 (eBin gMul (eVar 3) (eBin gIx (eIxN 0 (eVar 4)) (eVar 5)))
theorem b_pairs_sum_0_ap (S : Sls) : b_pairs_sum_0 S = (sSetD 3 (eBin gMul (eVar 3) (eBin gIx (eIxN 0 (eVar 4)) (eVar 5)))) S := (rfl)
def b_pairs_sum_1 : SF :=
    sSeq (sSetD 3 (eCallU F_sign_of (lCons (eVar 2) lNil)))
    (sSeq (sFor (eItems (eVar 2)) (.tp [.nm 4, .nm 5])
    (b_pairs_sum_0))
    (sSetD 1 (eBin gAdd (eVar 1) (eVar 3))))
theorem b_pairs_sum_1_ap (S : Sls) : b_pairs_sum_1 S = (sSeq (sSetD 3 (eCallU F_sign_of (lCons (eVar 2) lNil)))
    (sSeq (sFor (eItems (eVar 2)) (.tp [.nm 4, .nm 5])
    (b_pairs_sum_0))
    (sSetD 1 (eBin gAdd (eVar 1) (eVar 3))))) S := (rfl)
def g_pairs_sum : SF :=
    sSeq (sExpr (eCallU F_check_square (lCons (eVar 0) lNil)))
    (sSeq (sIf (eTest (eBin gNe (eCallU F_turned_of (lCons (eVar 0) lNil)) (eCall gTupO (lCons (eL (eLc (eItems (eVar 0)) (.nm 6) [6] bYes c_pairs_sum_1)) lNil))))
    (sNever)
    (sNil))
    (sSeq (sIf (eTest (eBin gEq (eBin gMod (eLenN 0) (eC (.int 2))) (eC (.int 1))))
    (sNever)
    (sNil))
    (sSeq (sSetD 1 (eC (.int 0)))
    (sSeq (sFor (eItems (eCallU (F_pairings_of 4) (lCons (eL (lRg1 (eLenN 0))) lNil))) (.nm 2)
    (b_pairs_sum_1))
    (sRet (eVar 1))))))
theorem g_pairs_sum_ap (S : Sls) : g_pairs_sum S = (sSeq (sExpr (eCallU F_check_square (lCons (eVar 0) lNil)))
    (sSeq (sIf (eTest (eBin gNe (eCallU F_turned_of (lCons (eVar 0) lNil)) (eCall gTupO (lCons (eL (eLc (eItems (eVar 0)) (.nm 6) [6] bYes c_pairs_sum_1)) lNil))))
    (sNever)
    (sNil))
    (sSeq (sIf (eTest (eBin gEq (eBin gMod (eLenN 0) (eC (.int 2))) (eC (.int 1))))
    (sNever)
    (sNil))
    (sSeq (sSetD 1 (eC (.int 0)))
    (sSeq (sFor (eItems (eCallU (F_pairings_of 4) (lCons (eL (lRg1 (eLenN 0))) lNil))) (.nm 2)
    (b_pairs_sum_1))
    (sRet (eVar 1))))))) S := (rfl)
def F_pairs_sum : FnD := runF 8 1 g_pairs_sum
theorem F_pairs_sum_ap (S : Sls) : F_pairs_sum S = runF 8 1 g_pairs_sum S := (rfl)
abbrev s__law_draw : Stmt := topS 36
abbrev N__law_draw : List Str := ["hand", "bound", "cell", "digit", "number"]
theorem sc__law_draw : FnScope ["hand", "bound", "cell", "digit", "number"] ["hand", "bound"] (defScope s__law_draw) := ⟨rfl, rfl, rfl, by decide +kernel, rfl, by decide +kernel, by decide +kernel⟩
def g__law_draw : SF :=
    sSeq (sIf (bAnd (eTest (eBin gEq (eIxN 0 (eC (.int 2))) (eC (.int 0)))) (eTest (eBin gLt (eIxN 0 (eC (.int 1))) (eCall gLen (lCons (eIxN 0 (eC (.int 0))) lNil)))))
    (sSeq (sSetD 2 (eBin gIx (eIxN 0 (eC (.int 0))) (eIxN 0 (eC (.int 1)))))
    (sSeq (sSetIx 0 (eC (.int 1)) (eBin gAdd (eIxN 0 (eC (.int 1))) (eC (.int 1))))
    (sSeq (sSetIx 0 (eC (.int 3)) (eBin gMod (eCall gInt (lCons (eBin gAdd (eBin gAdd (eBin gMul (eIxN 0 (eC (.int 3))) (eC (.int 69621))) (eVar 2)) (eC (.int 11))) lNil)) (eC (.int 2147483629))))
    (sIf (eTest (eBin gGe (eVar 2) (eBin gPow (eC (.int 10)) (eC (.int 18)))))
    (sSetIx 0 (eC (.int 2)) (eVar 2))
    (sNil)))))
    (sNil))
    (sSeq (sIf (eTest (eBin gGt (eIxN 0 (eC (.int 2))) (eC (.int 0))))
    (sSeq (sSetD 3 (eBin gMod (eCall gInt (lCons (eIxN 0 (eC (.int 2))) lNil)) (eVar 1)))
    (sSeq (sSetIx 0 (eC (.int 2)) (eBin gFdiv (eIxN 0 (eC (.int 2))) (eVar 1)))
    (sRet (eVar 3))))
    (sNil))
    (sSeq (sSetIx 0 (eC (.int 4)) (eBin gAdd (eIxN 0 (eC (.int 4))) (eC (.int 1))))
    (sSeq (sSetD 4 (eBin gMod (eCall gInt (lCons (eBin gMul (eCall gInt (lCons (eBin gAdd (eIxN 0 (eC (.int 3))) (eBin gMul (eC (.int 7919)) (eIxN 0 (eC (.int 4))))) lNil)) (eC (.int 48271))) lNil)) (eC (.int 2147483647))))
    (sSeq (sSetD 4 (eBin gMod (eCall gInt (lCons (eBin gMul (eVar 4) (eBin gAdd (eBin gFdiv (eVar 4) (eC (.int 1009))) (eC (.int 69621)))) lNil)) (eC (.int 2147483647))))
    (sSeq (sSetD 4 (eBin gMod (eCall gInt (lCons (eBin gMul (eVar 4) (eBin gAdd (eBin gFdiv (eVar 4) (eC (.int 2003))) (eC (.int 40692)))) lNil)) (eC (.int 2147483399))))
    (sRet (eBin gMod (eCall gInt (lCons (eBin gFdiv (eVar 4) (eC (.int 16))) lNil)) (eVar 1))))))))
theorem g__law_draw_ap (S : Sls) : g__law_draw S = (sSeq (sIf (bAnd (eTest (eBin gEq (eIxN 0 (eC (.int 2))) (eC (.int 0)))) (eTest (eBin gLt (eIxN 0 (eC (.int 1))) (eCall gLen (lCons (eIxN 0 (eC (.int 0))) lNil)))))
    (sSeq (sSetD 2 (eBin gIx (eIxN 0 (eC (.int 0))) (eIxN 0 (eC (.int 1)))))
    (sSeq (sSetIx 0 (eC (.int 1)) (eBin gAdd (eIxN 0 (eC (.int 1))) (eC (.int 1))))
    (sSeq (sSetIx 0 (eC (.int 3)) (eBin gMod (eCall gInt (lCons (eBin gAdd (eBin gAdd (eBin gMul (eIxN 0 (eC (.int 3))) (eC (.int 69621))) (eVar 2)) (eC (.int 11))) lNil)) (eC (.int 2147483629))))
    (sIf (eTest (eBin gGe (eVar 2) (eBin gPow (eC (.int 10)) (eC (.int 18)))))
    (sSetIx 0 (eC (.int 2)) (eVar 2))
    (sNil)))))
    (sNil))
    (sSeq (sIf (eTest (eBin gGt (eIxN 0 (eC (.int 2))) (eC (.int 0))))
    (sSeq (sSetD 3 (eBin gMod (eCall gInt (lCons (eIxN 0 (eC (.int 2))) lNil)) (eVar 1)))
    (sSeq (sSetIx 0 (eC (.int 2)) (eBin gFdiv (eIxN 0 (eC (.int 2))) (eVar 1)))
    (sRet (eVar 3))))
    (sNil))
    (sSeq (sSetIx 0 (eC (.int 4)) (eBin gAdd (eIxN 0 (eC (.int 4))) (eC (.int 1))))
    (sSeq (sSetD 4 (eBin gMod (eCall gInt (lCons (eBin gMul (eCall gInt (lCons (eBin gAdd (eIxN 0 (eC (.int 3))) (eBin gMul (eC (.int 7919)) (eIxN 0 (eC (.int 4))))) lNil)) (eC (.int 48271))) lNil)) (eC (.int 2147483647))))
    (sSeq (sSetD 4 (eBin gMod (eCall gInt (lCons (eBin gMul (eVar 4) (eBin gAdd (eBin gFdiv (eVar 4) (eC (.int 1009))) (eC (.int 69621)))) lNil)) (eC (.int 2147483647))))
    (sSeq (sSetD 4 (eBin gMod (eCall gInt (lCons (eBin gMul (eVar 4) (eBin gAdd (eBin gFdiv (eVar 4) (eC (.int 2003))) (eC (.int 40692)))) lNil)) (eC (.int 2147483399))))
    (sRet (eBin gMod (eCall gInt (lCons (eBin gFdiv (eVar 4) (eC (.int 16))) lNil)) (eVar 1))))))))) S := (rfl)
def F__law_draw : FnD := runF 5 2 g__law_draw
theorem F__law_draw_ap (S : Sls) : F__law_draw S = runF 5 2 g__law_draw S := (rfl)
abbrev s__law_any : Stmt := topS 37
abbrev N__law_any : List Str := ["hand", "things"]
theorem sc__law_any : FnScope ["hand", "things"] ["hand", "things"] (defScope s__law_any) := ⟨rfl, rfl, rfl, by decide +kernel, rfl, by decide +kernel, by decide +kernel⟩
def g__law_any : SF :=
    sRet (eIxN 1 (eCallL 0 F__law_draw (lCons (eLenN 1) lNil)))
theorem g__law_any_ap (S : Sls) : g__law_any S = (sRet (eIxN 1 (eCallL 0 F__law_draw (lCons (eLenN 1) lNil)))) S := (rfl)
def F__law_any : FnD := runF 2 2 g__law_any
theorem F__law_any_ap (S : Sls) : F__law_any S = runF 2 2 g__law_any S := (rfl)
abbrev s__law_rows : Stmt := topS 38
abbrev N__law_rows : List Str := ["hand", "high", "wide", "most", "found", "a", "b"]
theorem sc__law_rows : FnScope ["hand", "high", "wide", "most", "found", "a", "b"] ["hand", "high", "wide", "most"] (defScope s__law_rows) := ⟨rfl, rfl, rfl, by decide +kernel, rfl, by decide +kernel, by decide +kernel⟩
def c__law_rows_0 : EE :=
    eBin DL.gSub (eCallL 0 F__law_draw (lCons (eBin gAdd (eBin gMul (eC (.int 2)) (eVar 3)) (eC (.int 1))) lNil)) (eVar 3)
theorem c__law_rows_0_ap (S : Sls) : c__law_rows_0 S = (eBin DL.gSub (eCallL 0 F__law_draw (lCons (eBin gAdd (eBin gMul (eC (.int 2)) (eVar 3)) (eC (.int 1))) lNil)) (eVar 3)) S := (rfl)
def b__law_rows_0 : SF :=
    sAppend 4 (eCall gTupO (lCons (eL (eLc (lRange1 (lCons (eVar 2) lNil)) (.nm 6) [6] bYes c__law_rows_0)) lNil))
theorem b__law_rows_0_ap (S : Sls) : b__law_rows_0 S = (sAppend 4 (eCall gTupO (lCons (eL (eLc (lRange1 (lCons (eVar 2) lNil)) (.nm 6) [6] bYes c__law_rows_0)) lNil))) S := (rfl)
def g__law_rows : SF :=
    sSeq (sSetF 4 (lLst lNil))
    (sSeq (sFor (lRange1 (lCons (eVar 1) lNil)) (.nm 5)
    (b__law_rows_0))
    (sRet (eCall gTupO (lCons (eVar 4) lNil))))
theorem g__law_rows_ap (S : Sls) : g__law_rows S = (sSeq (sSetF 4 (lLst lNil))
    (sSeq (sFor (lRange1 (lCons (eVar 1) lNil)) (.nm 5)
    (b__law_rows_0))
    (sRet (eCall gTupO (lCons (eVar 4) lNil))))) S := (rfl)
def F__law_rows : FnD := runF 7 4 g__law_rows
theorem F__law_rows_ap (S : Sls) : F__law_rows S = runF 7 4 g__law_rows S := (rfl)
abbrev s__law_tilted : Stmt := topS 44
abbrev N__law_tilted : List Str := ["hand", "n", "most", "rows", "found", "a", "b"]
theorem sc__law_tilted : FnScope ["hand", "n", "most", "rows", "found", "a", "b"] ["hand", "n", "most"] (defScope s__law_tilted) := ⟨rfl, rfl, rfl, by decide +kernel, rfl, by decide +kernel, by decide +kernel⟩
def c__law_tilted_0 : EE :=
    eIf (eTest (eBin gGt (eVar 6) (eVar 5))) (eBin gIx (eIxN 3 (eVar 5)) (eVar 6)) (eIf (eTest (eBin gLt (eVar 6) (eVar 5))) (eBin DL.gSub (eC (.int 0)) (eBin gIx (eIxN 3 (eVar 6)) (eVar 5))) (eC (.int 0)))
theorem c__law_tilted_0_ap (S : Sls) : c__law_tilted_0 S = (eIf (eTest (eBin gGt (eVar 6) (eVar 5))) (eBin gIx (eIxN 3 (eVar 5)) (eVar 6)) (eIf (eTest (eBin gLt (eVar 6) (eVar 5))) (eBin DL.gSub (eC (.int 0)) (eBin gIx (eIxN 3 (eVar 6)) (eVar 5))) (eC (.int 0)))) S := (rfl)
def b__law_tilted_0 : SF :=
    sAppend 4 (eCall gTupO (lCons (eL (eLc (lRange1 (lCons (eVar 1) lNil)) (.nm 6) [6] bYes c__law_tilted_0)) lNil))
theorem b__law_tilted_0_ap (S : Sls) : b__law_tilted_0 S = (sAppend 4 (eCall gTupO (lCons (eL (eLc (lRange1 (lCons (eVar 1) lNil)) (.nm 6) [6] bYes c__law_tilted_0)) lNil))) S := (rfl)
def g__law_tilted : SF :=
    sSeq (sSetD 3 (eCallL 0 F__law_rows (lCons (eVar 1) (lCons (eVar 1) (lCons (eVar 2) lNil)))))
    (sSeq (sSetF 4 (lLst lNil))
    (sSeq (sFor (lRange1 (lCons (eVar 1) lNil)) (.nm 5)
    (b__law_tilted_0))
    (sRet (eCall gTupO (lCons (eVar 4) lNil)))))
theorem g__law_tilted_ap (S : Sls) : g__law_tilted S = (sSeq (sSetD 3 (eCallL 0 F__law_rows (lCons (eVar 1) (lCons (eVar 1) (lCons (eVar 2) lNil)))))
    (sSeq (sSetF 4 (lLst lNil))
    (sSeq (sFor (lRange1 (lCons (eVar 1) lNil)) (.nm 5)
    (b__law_tilted_0))
    (sRet (eCall gTupO (lCons (eVar 4) lNil)))))) S := (rfl)
def F__law_tilted : FnD := runF 7 3 g__law_tilted
theorem F__law_tilted_ap (S : Sls) : F__law_tilted S = runF 7 3 g__law_tilted S := (rfl)
abbrev s__law_pairs_sum : Stmt := topS 45
abbrev N__law_pairs_sum : List Str := ["rows"]
theorem sc__law_pairs_sum : FnScope ["rows"] ["rows"] (defScope s__law_pairs_sum) := ⟨rfl, rfl, rfl, by decide +kernel, rfl, by decide +kernel, by decide +kernel⟩
def g__law_pairs_sum : SF :=
    sSeq (sIf (eTest (eBin gEq (eLenN 0) (eC (.int 2))))
    (sRet (eBin gIx (eIxN 0 (eC (.int 0))) (eC (.int 1))))
    (sNil))
    (sRet (eBin gAdd (eBin DL.gSub (eBin gMul (eBin gIx (eIxN 0 (eC (.int 0))) (eC (.int 1))) (eBin gIx (eIxN 0 (eC (.int 2))) (eC (.int 3)))) (eBin gMul (eBin gIx (eIxN 0 (eC (.int 0))) (eC (.int 2))) (eBin gIx (eIxN 0 (eC (.int 1))) (eC (.int 3))))) (eBin gMul (eBin gIx (eIxN 0 (eC (.int 0))) (eC (.int 3))) (eBin gIx (eIxN 0 (eC (.int 1))) (eC (.int 2))))))
theorem g__law_pairs_sum_ap (S : Sls) : g__law_pairs_sum S = (sSeq (sIf (eTest (eBin gEq (eLenN 0) (eC (.int 2))))
    (sRet (eBin gIx (eIxN 0 (eC (.int 0))) (eC (.int 1))))
    (sNil))
    (sRet (eBin gAdd (eBin DL.gSub (eBin gMul (eBin gIx (eIxN 0 (eC (.int 0))) (eC (.int 1))) (eBin gIx (eIxN 0 (eC (.int 2))) (eC (.int 3)))) (eBin gMul (eBin gIx (eIxN 0 (eC (.int 0))) (eC (.int 2))) (eBin gIx (eIxN 0 (eC (.int 1))) (eC (.int 3))))) (eBin gMul (eBin gIx (eIxN 0 (eC (.int 0))) (eC (.int 3))) (eBin gIx (eIxN 0 (eC (.int 1))) (eC (.int 2))))))) S := (rfl)
def F__law_pairs_sum : FnD := runF 1 1 g__law_pairs_sum
theorem F__law_pairs_sum_ap (S : Sls) : F__law_pairs_sum S = runF 1 1 g__law_pairs_sum S := (rfl)
abbrev s__law_product : Stmt := topS 43
abbrev N__law_product : List Str := ["one", "other", "columns", "b", "row", "column", "a"]
theorem sc__law_product : FnScope ["one", "other", "columns", "b", "row", "column", "a"] ["one", "other"] (defScope s__law_product) := ⟨rfl, rfl, rfl, by decide +kernel, rfl, by decide +kernel, by decide +kernel⟩
def c__law_product_0 : EE :=
    eIxN 4 (eVar 3)
theorem c__law_product_0_ap (S : Sls) : c__law_product_0 S = (eIxN 4 (eVar 3)) S := (rfl)
def c__law_product_1 : EE :=
    eL (eLc (eItems (eVar 1)) (.nm 4) [4] bYes c__law_product_0)
theorem c__law_product_1_ap (S : Sls) : c__law_product_1 S = (eL (eLc (eItems (eVar 1)) (.nm 4) [4] bYes c__law_product_0)) S := (rfl)
def c__law_product_2 : EE :=
    eBin gMul (eVar 6) (eVar 3)
theorem c__law_product_2_ap (S : Sls) : c__law_product_2 S = (eBin gMul (eVar 6) (eVar 3)) S := (rfl)
def c__law_product_3 : EE :=
    eCall gSum (lCons (eL (eLc (lZip (lCons (eVar 4) (lCons (eVar 5) lNil))) (.tp [.nm 6, .nm 3]) [6, 3] bYes c__law_product_2)) lNil)
theorem c__law_product_3_ap (S : Sls) : c__law_product_3 S = (eCall gSum (lCons (eL (eLc (lZip (lCons (eVar 4) (lCons (eVar 5) lNil))) (.tp [.nm 6, .nm 3]) [6, 3] bYes c__law_product_2)) lNil)) S := (rfl)
def c__law_product_4 : EE :=
    eCall gTupO (lCons (eL (eLc (eItems (eVar 2)) (.nm 5) [5] bYes c__law_product_3)) lNil)
theorem c__law_product_4_ap (S : Sls) : c__law_product_4 S = (eCall gTupO (lCons (eL (eLc (eItems (eVar 2)) (.nm 5) [5] bYes c__law_product_3)) lNil)) S := (rfl)
def g__law_product : SF :=
    sSeq (sSetF 2 (eLc (lRange1 (lCons (eCall gLen (lCons (eIxN 1 (eC (.int 0))) lNil)) lNil)) (.nm 3) [3] bYes c__law_product_1))
    (sRet (eCall gTupO (lCons (eL (eLc (eItems (eVar 0)) (.nm 4) [4] bYes c__law_product_4)) lNil)))
theorem g__law_product_ap (S : Sls) : g__law_product S = (sSeq (sSetF 2 (eLc (lRange1 (lCons (eCall gLen (lCons (eIxN 1 (eC (.int 0))) lNil)) lNil)) (.nm 3) [3] bYes c__law_product_1))
    (sRet (eCall gTupO (lCons (eL (eLc (eItems (eVar 0)) (.nm 4) [4] bYes c__law_product_4)) lNil)))) S := (rfl)
def F__law_product : FnD := runF 7 2 g__law_product
theorem F__law_product_ap (S : Sls) : F__law_product S = runF 7 2 g__law_product S := (rfl)
abbrev s_crossing_pairings : Stmt := topS 32
abbrev N_crossing_pairings : List Str := ["n", "pairing"]
theorem sc_crossing_pairings : FnScope ["n", "pairing"] ["n"] (defScope s_crossing_pairings) := ⟨rfl, rfl, rfl, by decide +kernel, rfl, by decide +kernel, by decide +kernel⟩
def c_crossing_pairings_0 : EE :=
    eTup (lCons (eVar 1) (lCons (eCallU F_sign_of (lCons (eVar 1) lNil)) lNil))
theorem c_crossing_pairings_0_ap (S : Sls) : c_crossing_pairings_0 S = (eTup (lCons (eVar 1) (lCons (eCallU F_sign_of (lCons (eVar 1) lNil)) lNil))) S := (rfl)
def g_crossing_pairings : SF :=
    sSeq (sIf (bOr (eTru (eUn (gIsi "bool") (eVar 0))) (bOr (bNot (eTru (eUn (gIsi "int") (eVar 0)))) (eTest (eBin (gIn true) (eVar 0) (eTup (lCons (eC (.int 2)) (lCons (eC (.int 4)) lNil)))))))
    (sNever)
    (sNil))
    (sRet (eCall gTupO (lCons (eL (eLc (eItems (eCallU (F_pairings_of 4) (lCons (eL (lRg1 (eVar 0))) lNil))) (.nm 1) [1] bYes c_crossing_pairings_0)) lNil)))
theorem g_crossing_pairings_ap (S : Sls) : g_crossing_pairings S = (sSeq (sIf (bOr (eTru (eUn (gIsi "bool") (eVar 0))) (bOr (bNot (eTru (eUn (gIsi "int") (eVar 0)))) (eTest (eBin (gIn true) (eVar 0) (eTup (lCons (eC (.int 2)) (lCons (eC (.int 4)) lNil)))))))
    (sNever)
    (sNil))
    (sRet (eCall gTupO (lCons (eL (eLc (eItems (eCallU (F_pairings_of 4) (lCons (eL (lRg1 (eVar 0))) lNil))) (.nm 1) [1] bYes c_crossing_pairings_0)) lNil)))) S := (rfl)
def F_crossing_pairings : FnD := runF 2 1 g_crossing_pairings
theorem F_crossing_pairings_ap (S : Sls) : F_crossing_pairings S = runF 2 1 g_crossing_pairings S := (rfl)
abbrev s__law_lots : Stmt := topS 41
abbrev N__law_lots : List Str := ["n", "size", "found", "lap", "longer", "lot", "at"]
theorem sc__law_lots : FnScope ["n", "size", "found", "lap", "longer", "lot", "at"] ["n", "size"] (defScope s__law_lots) := ⟨rfl, rfl, rfl, by decide +kernel, rfl, by decide +kernel, by decide +kernel⟩
def c__law_lots_0 : EE :=
    eBin gAdd (eVar 5) (eTup (lCons (eVar 6) lNil))
theorem c__law_lots_0_ap (S : Sls) : c__law_lots_0 S = (eBin gAdd (eVar 5) (eTup (lCons (eVar 6) lNil))) S := (rfl)
def b__law_lots_0 : SF :=
    sExtend 4 (eL (eLc (lRange2 (lCons (eIf (eTest (eBin gNe (eVar 5) (eTup lNil))) (eBin gAdd (eIxN 5 (eUn gNeg (eC (.int 1)))) (eC (.int 1))) (eC (.int 0))) (lCons (eVar 0) lNil))) (.nm 6) [6] bYes c__law_lots_0))
theorem b__law_lots_0_ap (S : Sls) : b__law_lots_0 S = (sExtend 4 (eL (eLc (lRange2 (lCons (eIf (eTest (eBin gNe (eVar 5) (eTup lNil))) (eBin gAdd (eIxN 5 (eUn gNeg (eC (.int 1)))) (eC (.int 1))) (eC (.int 0))) (lCons (eVar 0) lNil))) (.nm 6) [6] bYes c__law_lots_0))) S := (rfl)
def b__law_lots_1 : SF :=
    sSeq (sSetF 4 (lLst lNil))
    (sSeq (sFor (eItems (eVar 2)) (.nm 5)
    (b__law_lots_0))
    (sSetD 2 (eVar 4)))
theorem b__law_lots_1_ap (S : Sls) : b__law_lots_1 S = (sSeq (sSetF 4 (lLst lNil))
    (sSeq (sFor (eItems (eVar 2)) (.nm 5)
    (b__law_lots_0))
    (sSetD 2 (eVar 4)))) S := (rfl)
def g__law_lots : SF :=
    sSeq (sSetF 2 (lLst (lCons (eTup lNil) lNil)))
    (sSeq (sFor (lRange1 (lCons (eVar 1) lNil)) (.nm 3)
    (b__law_lots_1))
    (sRet (eVar 2)))
theorem g__law_lots_ap (S : Sls) : g__law_lots S = (sSeq (sSetF 2 (lLst (lCons (eTup lNil) lNil)))
    (sSeq (sFor (lRange1 (lCons (eVar 1) lNil)) (.nm 3)
    (b__law_lots_1))
    (sRet (eVar 2)))) S := (rfl)
def F__law_lots : FnD := runF 7 2 g__law_lots
theorem F__law_lots_ap (S : Sls) : F__law_lots S = runF 7 2 g__law_lots S := (rfl)
abbrev s__law_plain : Stmt := topS 46
abbrev N__law_plain : List Str := ["pairing", "pair"]
theorem sc__law_plain : FnScope ["pairing", "pair"] ["pairing"] (defScope s__law_plain) := ⟨rfl, rfl, rfl, by decide +kernel, rfl, by decide +kernel, by decide +kernel⟩
def c__law_plain_0 : EE :=
    eCall gTupO (lCons (eL (eCallF gSrtT (lCons (eVar 1) lNil))) lNil)
theorem c__law_plain_0_ap (S : Sls) : c__law_plain_0 S = (eCall gTupO (lCons (eL (eCallF gSrtT (lCons (eVar 1) lNil))) lNil)) S := (rfl)
def g__law_plain : SF :=
    sRet (eCall gTupO (lCons (eL (eCallF gSrt (lCons (eL (eLc (eItems (eVar 0)) (.nm 1) [1] bYes c__law_plain_0)) lNil))) lNil))
theorem g__law_plain_ap (S : Sls) : g__law_plain S = (sRet (eCall gTupO (lCons (eL (eCallF gSrt (lCons (eL (eLc (eItems (eVar 0)) (.nm 1) [1] bYes c__law_plain_0)) lNil))) lNil))) S := (rfl)
def F__law_plain : FnD := runF 2 1 g__law_plain
theorem F__law_plain_ap (S : Sls) : F__law_plain S = runF 2 1 g__law_plain S := (rfl)
abbrev s_det_of : Stmt := topS 27
abbrev N_det_of : List Str := ["rows", "found", "sign", "at", "one", "row"]
theorem sc_det_of : FnScope ["rows", "found", "sign", "at", "one", "row"] ["rows"] (defScope s_det_of) := ⟨rfl, rfl, rfl, by decide +kernel, rfl, by decide +kernel, by decide +kernel⟩
def c_det_of_0 (rec : FnD) : EE :=
    eBin gAdd (eSl (eVar 5) oNone (oSome (eVar 3))) (eSl (eVar 5) (oSome (eBin gAdd (eVar 3) (eC (.int 1)))) oNone)
theorem c_det_of_0_ap (rec : FnD) (S : Sls) : c_det_of_0 rec S = (eBin gAdd (eSl (eVar 5) oNone (oSome (eVar 3))) (eSl (eVar 5) (oSome (eBin gAdd (eVar 3) (eC (.int 1)))) oNone)) S := (rfl)
def b_det_of_0 (rec : FnD) : SF :=
    sSeq (sIf (eTest (eBin gNe (eVar 4) (eC (.int 0))))
    (sSetD 1 (eBin gAdd (eVar 1) (eBin gMul (eBin gMul (eVar 2) (eVar 4)) (eCallU rec (lCons (eL (eLc (eItems (eSl (eVar 0) (oSome (eC (.int 1))) oNone)) (.nm 5) [5] bYes (c_det_of_0 rec))) lNil)))))
    (sNil))
    (sSetD 2 (eUn gNeg (eVar 2)))
theorem b_det_of_0_ap (rec : FnD) (S : Sls) : b_det_of_0 rec S = (sSeq (sIf (eTest (eBin gNe (eVar 4) (eC (.int 0))))
    (sSetD 1 (eBin gAdd (eVar 1) (eBin gMul (eBin gMul (eVar 2) (eVar 4)) (eCallU rec (lCons (eL (eLc (eItems (eSl (eVar 0) (oSome (eC (.int 1))) oNone)) (.nm 5) [5] bYes (c_det_of_0 rec))) lNil)))))
    (sNil))
    (sSetD 2 (eUn gNeg (eVar 2)))) S := (rfl)
def g_det_of (rec : FnD) : SF :=
    sSeq (sIf (eTest (eBin gEq (eLenN 0) (eC (.int 0))))
    (sRet (eC (.int 1)))
    (sNil))
    (sSeq (sPar [1, 2] (mConsD (eC (.int 0)) (mConsD (eC (.int 1)) mNil)))
    (sSeq (sFor (lEnum (lCons (eIxN 0 (eC (.int 0))) lNil)) (.tp [.nm 3, .nm 4])
    (b_det_of_0 rec))
    (sRet (eVar 1))))
theorem g_det_of_ap (rec : FnD) (S : Sls) : g_det_of rec S = (sSeq (sIf (eTest (eBin gEq (eLenN 0) (eC (.int 0))))
    (sRet (eC (.int 1)))
    (sNil))
    (sSeq (sPar [1, 2] (mConsD (eC (.int 0)) (mConsD (eC (.int 1)) mNil)))
    (sSeq (sFor (lEnum (lCons (eIxN 0 (eC (.int 0))) lNil)) (.tp [.nm 3, .nm 4])
    (b_det_of_0 rec))
    (sRet (eVar 1))))) S := (rfl)
def F_det_of : Nat → FnD
  | 0 => fun _ => none
  | n + 1 => runF 6 1 (g_det_of (F_det_of n))
theorem F_det_of_ap (n : Nat) (S : Sls) : F_det_of (n + 1) S = runF 6 1 (g_det_of (F_det_of n)) S := (rfl)
abbrev s_determinant : Stmt := topS 28
abbrev N_determinant : List Str := ["rows"]
theorem sc_determinant : FnScope ["rows"] ["rows"] (defScope s_determinant) := ⟨rfl, rfl, rfl, by decide +kernel, rfl, by decide +kernel, by decide +kernel⟩
def g_determinant : SF :=
    sSeq (sExpr (eCallU F_check_square (lCons (eVar 0) lNil)))
    (sRet (eCallU (F_det_of 6) (lCons (eVar 0) lNil)))
theorem g_determinant_ap (S : Sls) : g_determinant S = (sSeq (sExpr (eCallU F_check_square (lCons (eVar 0) lNil)))
    (sRet (eCallU (F_det_of 6) (lCons (eVar 0) lNil)))) S := (rfl)
def F_determinant : FnD := runF 1 1 g_determinant
theorem F_determinant_ap (S : Sls) : F_determinant S = runF 1 1 g_determinant S := (rfl)
abbrev s__law_part : Stmt := topS 42
abbrev N__law_part : List Str := ["rows", "lot", "places", "a", "b"]
theorem sc__law_part : FnScope ["rows", "lot", "places", "a", "b"] ["rows", "lot", "places"] (defScope s__law_part) := ⟨rfl, rfl, rfl, by decide +kernel, rfl, by decide +kernel, by decide +kernel⟩
def c__law_part_0 : EE :=
    eBin gIx (eIxN 0 (eVar 3)) (eVar 4)
theorem c__law_part_0_ap (S : Sls) : c__law_part_0 S = (eBin gIx (eIxN 0 (eVar 3)) (eVar 4)) S := (rfl)
def c__law_part_1 : EE :=
    eCall gTupO (lCons (eL (eLc (eItems (eVar 2)) (.nm 4) [4] bYes c__law_part_0)) lNil)
theorem c__law_part_1_ap (S : Sls) : c__law_part_1 S = (eCall gTupO (lCons (eL (eLc (eItems (eVar 2)) (.nm 4) [4] bYes c__law_part_0)) lNil)) S := (rfl)
def g__law_part : SF :=
    sRet (eCall gTupO (lCons (eL (eLc (eItems (eVar 1)) (.nm 3) [3] bYes c__law_part_1)) lNil))
theorem g__law_part_ap (S : Sls) : g__law_part S = (sRet (eCall gTupO (lCons (eL (eLc (eItems (eVar 1)) (.nm 3) [3] bYes c__law_part_1)) lNil))) S := (rfl)
def F__law_part : FnD := runF 5 3 g__law_part
theorem F__law_part_ap (S : Sls) : F__law_part S = runF 5 3 g__law_part S := (rfl)
abbrev s__law_orders : Stmt := topS 39
abbrev N__law_orders : List Str := ["n", "found", "lap", "longer", "order", "sign", "at", "turns", "one"]
theorem sc__law_orders : FnScope ["n", "found", "lap", "longer", "order", "sign", "at", "turns", "one"] ["n"] (defScope s__law_orders) := ⟨rfl, rfl, rfl, by decide +kernel, rfl, by decide +kernel, by decide +kernel⟩
def p__law_orders_0 : EB :=
    eTest (eBin gGt (eVar 8) (eVar 6))
theorem p__law_orders_0_ap (S : Sls) : p__law_orders_0 S = (eTest (eBin gGt (eVar 8) (eVar 6))) S := (rfl)
def c__law_orders_0 : EE :=
    eC (.int 1)
theorem c__law_orders_0_ap (S : Sls) : c__law_orders_0 S = (eC (.int 1)) S := (rfl)
def b__law_orders_0 : SF :=
    sIf (eTest (eBin (gIn true) (eVar 6) (eVar 4)))
    (sSeq (sSetD 7 (eCall gLen (lCons (eL (eLc (eItems (eVar 4)) (.nm 8) [8] p__law_orders_0 c__law_orders_0)) lNil)))
    (sAppend 3 (eTup (lCons (eBin gAdd (eVar 4) (eTup (lCons (eVar 6) lNil))) (lCons (eIf (eTest (eBin gEq (eBin gMod (eCall gInt (lCons (eVar 7) lNil)) (eC (.int 2))) (eC (.int 0)))) (eVar 5) (eBin DL.gSub (eC (.int 0)) (eVar 5))) lNil)))))
    (sNil)
theorem b__law_orders_0_ap (S : Sls) : b__law_orders_0 S = (sIf (eTest (eBin (gIn true) (eVar 6) (eVar 4)))
    (sSeq (sSetD 7 (eCall gLen (lCons (eL (eLc (eItems (eVar 4)) (.nm 8) [8] p__law_orders_0 c__law_orders_0)) lNil)))
    (sAppend 3 (eTup (lCons (eBin gAdd (eVar 4) (eTup (lCons (eVar 6) lNil))) (lCons (eIf (eTest (eBin gEq (eBin gMod (eCall gInt (lCons (eVar 7) lNil)) (eC (.int 2))) (eC (.int 0)))) (eVar 5) (eBin DL.gSub (eC (.int 0)) (eVar 5))) lNil)))))
    (sNil)) S := (rfl)
def b__law_orders_1 : SF :=
    sFor (lRange1 (lCons (eVar 0) lNil)) (.nm 6)
    (b__law_orders_0)
theorem b__law_orders_1_ap (S : Sls) : b__law_orders_1 S = (sFor (lRange1 (lCons (eVar 0) lNil)) (.nm 6)
    (b__law_orders_0)) S := (rfl)
def b__law_orders_2 : SF :=
    sSeq (sSetF 3 (lLst lNil))
    (sSeq (sFor (eItems (eVar 1)) (.tp [.nm 4, .nm 5])
    (b__law_orders_1))
    (sSetD 1 (eVar 3)))
theorem b__law_orders_2_ap (S : Sls) : b__law_orders_2 S = (sSeq (sSetF 3 (lLst lNil))
    (sSeq (sFor (eItems (eVar 1)) (.tp [.nm 4, .nm 5])
    (b__law_orders_1))
    (sSetD 1 (eVar 3)))) S := (rfl)
def g__law_orders : SF :=
    sSeq (sSetF 1 (lLst (lCons (eTup (lCons (eTup lNil) (lCons (eC (.int 1)) lNil))) lNil)))
    (sSeq (sFor (lRange1 (lCons (eVar 0) lNil)) (.nm 2)
    (b__law_orders_2))
    (sRet (eVar 1)))
theorem g__law_orders_ap (S : Sls) : g__law_orders S = (sSeq (sSetF 1 (lLst (lCons (eTup (lCons (eTup lNil) (lCons (eC (.int 1)) lNil))) lNil)))
    (sSeq (sFor (lRange1 (lCons (eVar 0) lNil)) (.nm 2)
    (b__law_orders_2))
    (sRet (eVar 1)))) S := (rfl)
def F__law_orders : FnD := runF 9 1 g__law_orders
theorem F__law_orders_ap (S : Sls) : F__law_orders S = runF 9 1 g__law_orders S := (rfl)
abbrev s__law_determinant : Stmt := topS 40
abbrev N__law_determinant : List Str := ["rows", "total", "order", "sign", "one", "row", "at"]
theorem sc__law_determinant : FnScope ["rows", "total", "order", "sign", "one", "row", "at"] ["rows"] (defScope s__law_determinant) := ⟨rfl, rfl, rfl, by decide +kernel, rfl, by decide +kernel, by decide +kernel⟩
def b__law_determinant_0 : SF :=
    sSetD 4 (eBin gMul (eVar 4) (eIxN 5 (eVar 6)))
theorem b__law_determinant_0_ap (S : Sls) : b__law_determinant_0 S = (sSetD 4 (eBin gMul (eVar 4) (eIxN 5 (eVar 6)))) S := (rfl)
def b__law_determinant_1 : SF :=
    sSeq (sSetD 4 (eVar 3))
    (sSeq (sFor (lZip (lCons (eVar 0) (lCons (eVar 2) lNil))) (.tp [.nm 5, .nm 6])
    (b__law_determinant_0))
    (sSetD 1 (eBin gAdd (eVar 1) (eVar 4))))
theorem b__law_determinant_1_ap (S : Sls) : b__law_determinant_1 S = (sSeq (sSetD 4 (eVar 3))
    (sSeq (sFor (lZip (lCons (eVar 0) (lCons (eVar 2) lNil))) (.tp [.nm 5, .nm 6])
    (b__law_determinant_0))
    (sSetD 1 (eBin gAdd (eVar 1) (eVar 4))))) S := (rfl)
def g__law_determinant : SF :=
    sSeq (sSetD 1 (eC (.int 0)))
    (sSeq (sFor (eItems (eCallU F__law_orders (lCons (eLenN 0) lNil))) (.tp [.nm 2, .nm 3])
    (b__law_determinant_1))
    (sRet (eVar 1)))
theorem g__law_determinant_ap (S : Sls) : g__law_determinant S = (sSeq (sSetD 1 (eC (.int 0)))
    (sSeq (sFor (eItems (eCallU F__law_orders (lCons (eLenN 0) lNil))) (.tp [.nm 2, .nm 3])
    (b__law_determinant_1))
    (sRet (eVar 1)))) S := (rfl)
def F__law_determinant : FnD := runF 7 1 g__law_determinant
theorem F__law_determinant_ap (S : Sls) : F__law_determinant S = runF 7 1 g__law_determinant S := (rfl)
abbrev s_check_both : Stmt := topS 20
abbrev N_check_both : List Str := ["one", "other"]
theorem sc_check_both : FnScope ["one", "other"] ["one", "other"] (defScope s_check_both) := ⟨rfl, rfl, rfl, by decide +kernel, rfl, by decide +kernel, by decide +kernel⟩
def g_check_both : SF :=
    sSeq (sExpr (eCallU F_check_rows (lCons (eVar 0) lNil)))
    (sExpr (eCallU F_check_rows (lCons (eVar 1) lNil)))
theorem g_check_both_ap (S : Sls) : g_check_both S = (sSeq (sExpr (eCallU F_check_rows (lCons (eVar 0) lNil)))
    (sExpr (eCallU F_check_rows (lCons (eVar 1) lNil)))) S := (rfl)
def F_check_both : FnD := runF 2 2 g_check_both
theorem F_check_both_ap (S : Sls) : F_check_both S = runF 2 2 g_check_both S := (rfl)
abbrev s_check_room : Stmt := topS 24
abbrev N_check_room : List Str := ["high", "wide"]
theorem sc_check_room : FnScope ["high", "wide"] ["high", "wide"] (defScope s_check_room) := ⟨rfl, rfl, rfl, by decide +kernel, rfl, by decide +kernel, by decide +kernel⟩
def g_check_room : SF :=
    sIf (eTest (eBin gGt (eCall gMax (lCons (eVar 0) (lCons (eVar 1) lNil))) (eC (.int 5))))
    (sNever)
    (sNil)
theorem g_check_room_ap (S : Sls) : g_check_room S = (sIf (eTest (eBin gGt (eCall gMax (lCons (eVar 0) (lCons (eVar 1) lNil))) (eC (.int 5))))
    (sNever)
    (sNil)) S := (rfl)
def F_check_room : FnD := runF 2 2 g_check_room
theorem F_check_room_ap (S : Sls) : F_check_room S = runF 2 2 g_check_room S := (rfl)
abbrev s_blocks : Stmt := topS 25
abbrev N_blocks : List Str := ["one", "other", "wide", "more", "row"]
theorem sc_blocks : FnScope ["one", "other", "wide", "more", "row"] ["one", "other"] (defScope s_blocks) := ⟨rfl, rfl, rfl, by decide +kernel, rfl, by decide +kernel, by decide +kernel⟩
def c_blocks_0 : EE :=
    eBin gAdd (eVar 4) (eBin gMul (eTup (lCons (eC (.int 0)) lNil)) (eVar 3))
theorem c_blocks_0_ap (S : Sls) : c_blocks_0 S = (eBin gAdd (eVar 4) (eBin gMul (eTup (lCons (eC (.int 0)) lNil)) (eVar 3))) S := (rfl)
def c_blocks_1 : EE :=
    eBin gAdd (eBin gMul (eTup (lCons (eC (.int 0)) lNil)) (eVar 2)) (eVar 4)
theorem c_blocks_1_ap (S : Sls) : c_blocks_1 S = (eBin gAdd (eBin gMul (eTup (lCons (eC (.int 0)) lNil)) (eVar 2)) (eVar 4)) S := (rfl)
def g_blocks : SF :=
    sSeq (sExpr (eCallU F_check_both (lCons (eVar 0) (lCons (eVar 1) lNil))))
    (sSeq (sExpr (eCallU F_check_room (lCons (eBin gAdd (eLenN 0) (eLenN 1)) (lCons (eBin gAdd (eCall gLen (lCons (eIxN 0 (eC (.int 0))) lNil)) (eCall gLen (lCons (eIxN 1 (eC (.int 0))) lNil))) lNil))))
    (sSeq (sPar [2, 3] (mConsD (eCall gLen (lCons (eIxN 0 (eC (.int 0))) lNil)) (mConsD (eCall gLen (lCons (eIxN 1 (eC (.int 0))) lNil)) mNil)))
    (sRet (eCall gTupO (lCons (eBin gAdd (eL (eLc (eItems (eVar 0)) (.nm 4) [4] bYes c_blocks_0)) (eL (eLc (eItems (eVar 1)) (.nm 4) [4] bYes c_blocks_1))) lNil)))))
theorem g_blocks_ap (S : Sls) : g_blocks S = (sSeq (sExpr (eCallU F_check_both (lCons (eVar 0) (lCons (eVar 1) lNil))))
    (sSeq (sExpr (eCallU F_check_room (lCons (eBin gAdd (eLenN 0) (eLenN 1)) (lCons (eBin gAdd (eCall gLen (lCons (eIxN 0 (eC (.int 0))) lNil)) (eCall gLen (lCons (eIxN 1 (eC (.int 0))) lNil))) lNil))))
    (sSeq (sPar [2, 3] (mConsD (eCall gLen (lCons (eIxN 0 (eC (.int 0))) lNil)) (mConsD (eCall gLen (lCons (eIxN 1 (eC (.int 0))) lNil)) mNil)))
    (sRet (eCall gTupO (lCons (eBin gAdd (eL (eLc (eItems (eVar 0)) (.nm 4) [4] bYes c_blocks_0)) (eL (eLc (eItems (eVar 1)) (.nm 4) [4] bYes c_blocks_1))) lNil)))))) S := (rfl)
def F_blocks : FnD := runF 5 2 g_blocks
theorem F_blocks_ap (S : Sls) : F_blocks S = runF 5 2 g_blocks S := (rfl)
abbrev s_law : Stmt := topS 47
abbrev N_law : List Str := ["script", "hand", "told", "lap", "n", "rows", "due", "other", "led", "i", "j", "names", "small", "total", "pairing", "sign", "one", "a", "b", "row", "number", "at"]
theorem sc_law : FnScope ["script", "hand", "told", "lap", "n", "rows", "due", "other", "led", "i", "j", "names", "small", "total", "pairing", "sign", "one", "a", "b", "row", "number", "at"] ["script"] (defScope s_law) := ⟨rfl, rfl, rfl, by decide +kernel, rfl, by decide +kernel, by decide +kernel⟩
def i_law_0 : SF :=
    sIf (eTest (eBin gNe (eCallU F_pairs_sum (lCons (eTup (lCons (eTup (lCons (eC (.int 0)) (lCons (eC (.int 3)) lNil))) (lCons (eTup (lCons (eUn gNeg (eC (.int 3))) (lCons (eC (.int 0)) lNil))) lNil))) lNil)) (eC (.int 3))))
    (sRet (eC (.bool false)))
    (sNil)
theorem i_law_0_ap (S : Sls) : i_law_0 S = (sIf (eTest (eBin gNe (eCallU F_pairs_sum (lCons (eTup (lCons (eTup (lCons (eC (.int 0)) (lCons (eC (.int 3)) lNil))) (lCons (eTup (lCons (eUn gNeg (eC (.int 3))) (lCons (eC (.int 0)) lNil))) lNil))) lNil)) (eC (.int 3))))
    (sRet (eC (.bool false)))
    (sNil)) S := (rfl)
def c_law_0 : EE :=
    eTup (lCons (eCallU F__law_plain (lCons (eVar 14) lNil)) (lCons (eVar 15) lNil))
theorem c_law_0_ap (S : Sls) : c_law_0 S = (eTup (lCons (eCallU F__law_plain (lCons (eVar 14) lNil)) (lCons (eVar 15) lNil))) S := (rfl)
def i_law_1 : SF :=
    sIf (eTest (eBin gNe (eVar 2) (eL (lLst (lCons (eTup (lCons (eTup (lCons (eTup (lCons (eC (.int 0)) (lCons (eC (.int 1)) lNil))) (lCons (eTup (lCons (eC (.int 2)) (lCons (eC (.int 3)) lNil))) lNil))) (lCons (eC (.int 1)) lNil))) (lCons (eTup (lCons (eTup (lCons (eTup (lCons (eC (.int 0)) (lCons (eC (.int 2)) lNil))) (lCons (eTup (lCons (eC (.int 1)) (lCons (eC (.int 3)) lNil))) lNil))) (lCons (eUn gNeg (eC (.int 1))) lNil))) (lCons (eTup (lCons (eTup (lCons (eTup (lCons (eC (.int 0)) (lCons (eC (.int 3)) lNil))) (lCons (eTup (lCons (eC (.int 1)) (lCons (eC (.int 2)) lNil))) lNil))) (lCons (eC (.int 1)) lNil))) lNil)))))))
    (sRet (eC (.bool false)))
    (sNil)
theorem i_law_1_ap (S : Sls) : i_law_1 S = (sIf (eTest (eBin gNe (eVar 2) (eL (lLst (lCons (eTup (lCons (eTup (lCons (eTup (lCons (eC (.int 0)) (lCons (eC (.int 1)) lNil))) (lCons (eTup (lCons (eC (.int 2)) (lCons (eC (.int 3)) lNil))) lNil))) (lCons (eC (.int 1)) lNil))) (lCons (eTup (lCons (eTup (lCons (eTup (lCons (eC (.int 0)) (lCons (eC (.int 2)) lNil))) (lCons (eTup (lCons (eC (.int 1)) (lCons (eC (.int 3)) lNil))) lNil))) (lCons (eUn gNeg (eC (.int 1))) lNil))) (lCons (eTup (lCons (eTup (lCons (eTup (lCons (eC (.int 0)) (lCons (eC (.int 3)) lNil))) (lCons (eTup (lCons (eC (.int 1)) (lCons (eC (.int 2)) lNil))) lNil))) (lCons (eC (.int 1)) lNil))) lNil)))))))
    (sRet (eC (.bool false)))
    (sNil)) S := (rfl)
def c_law_1 : EE :=
    eTup (lCons (eCallU F__law_plain (lCons (eVar 14) lNil)) (lCons (eVar 15) lNil))
theorem c_law_1_ap (S : Sls) : c_law_1 S = (eTup (lCons (eCallU F__law_plain (lCons (eVar 14) lNil)) (lCons (eVar 15) lNil))) S := (rfl)
def i_law_2 : SF :=
    sIf (eTest (eBin gNe (eL (eLc (eItems (eCallU F_crossing_pairings (lCons (eC (.int 2)) lNil))) (.tp [.nm 14, .nm 15]) [14, 15] bYes c_law_1)) (eL (lLst (lCons (eTup (lCons (eTup (lCons (eTup (lCons (eC (.int 0)) (lCons (eC (.int 1)) lNil))) lNil)) (lCons (eC (.int 1)) lNil))) lNil)))))
    (sRet (eC (.bool false)))
    (sNil)
theorem i_law_2_ap (S : Sls) : i_law_2 S = (sIf (eTest (eBin gNe (eL (eLc (eItems (eCallU F_crossing_pairings (lCons (eC (.int 2)) lNil))) (.tp [.nm 14, .nm 15]) [14, 15] bYes c_law_1)) (eL (lLst (lCons (eTup (lCons (eTup (lCons (eTup (lCons (eC (.int 0)) (lCons (eC (.int 1)) lNil))) lNil)) (lCons (eC (.int 1)) lNil))) lNil)))))
    (sRet (eC (.bool false)))
    (sNil)) S := (rfl)
def i_law_3 : SF :=
    sIf (bOr (eTest (eBin gNe (eCallU F_pairs_sum (lCons (eVar 5) lNil)) (eVar 6))) (eTest (eBin gNe (eCallU F_determinant (lCons (eVar 5) lNil)) (eBin gMul (eVar 6) (eVar 6)))))
    (sRet (eC (.bool false)))
    (sNil)
theorem i_law_3_ap (S : Sls) : i_law_3 S = (sIf (bOr (eTest (eBin gNe (eCallU F_pairs_sum (lCons (eVar 5) lNil)) (eVar 6))) (eTest (eBin gNe (eCallU F_determinant (lCons (eVar 5) lNil)) (eBin gMul (eVar 6) (eVar 6)))))
    (sRet (eC (.bool false)))
    (sNil)) S := (rfl)
def c_law_2 : EE :=
    eIxN 19 (eVar 18)
theorem c_law_2_ap (S : Sls) : c_law_2 S = (eIxN 19 (eVar 18)) S := (rfl)
def c_law_3 : EE :=
    eCall gTupO (lCons (eL (eLc (eItems (eVar 7)) (.nm 19) [19] bYes c_law_2)) lNil)
theorem c_law_3_ap (S : Sls) : c_law_3 S = (eCall gTupO (lCons (eL (eLc (eItems (eVar 7)) (.nm 19) [19] bYes c_law_2)) lNil)) S := (rfl)
def c_law_4 : EE :=
    eCall gAbs (lCons (eVar 20) lNil)
theorem c_law_4_ap (S : Sls) : c_law_4 S = (eCall gAbs (lCons (eVar 20) lNil)) S := (rfl)
def c_law_5 : EE :=
    eCall gMaxL (lCons (eL (eLc (eItems (eVar 19)) (.nm 20) [20] bYes c_law_4)) lNil)
theorem c_law_5_ap (S : Sls) : c_law_5 S = (eCall gMaxL (lCons (eL (eLc (eItems (eVar 19)) (.nm 20) [20] bYes c_law_4)) lNil)) S := (rfl)
def i_law_4 : SF :=
    sIf (eTest (eBin gNe (eCallU F_pairs_sum (lCons (eVar 8) lNil)) (eBin gMul (eCallU F__law_determinant (lCons (eVar 7) lNil)) (eVar 6))))
    (sRet (eC (.bool false)))
    (sNil)
theorem i_law_4_ap (S : Sls) : i_law_4 S = (sIf (eTest (eBin gNe (eCallU F_pairs_sum (lCons (eVar 8) lNil)) (eBin gMul (eCallU F__law_determinant (lCons (eVar 7) lNil)) (eVar 6))))
    (sRet (eC (.bool false)))
    (sNil)) S := (rfl)
def i_law_5 : SF :=
    sIf (eTest (eBin gLt (eCall gMaxL (lCons (eL (eLc (eItems (eVar 8)) (.nm 19) [19] bYes c_law_5)) lNil)) (eC (.int 31))))
    (i_law_4)
    (sNil)
theorem i_law_5_ap (S : Sls) : i_law_5 S = (sIf (eTest (eBin gLt (eCall gMaxL (lCons (eL (eLc (eItems (eVar 8)) (.nm 19) [19] bYes c_law_5)) lNil)) (eC (.int 31))))
    (i_law_4)
    (sNil)) S := (rfl)
def c_law_6 : EE :=
    eIf (eTest (eBin gEq (eVar 21) (eVar 9))) (eVar 10) (eIf (eTest (eBin gEq (eVar 21) (eVar 10))) (eVar 9) (eVar 21))
theorem c_law_6_ap (S : Sls) : c_law_6 S = (eIf (eTest (eBin gEq (eVar 21) (eVar 9))) (eVar 10) (eIf (eTest (eBin gEq (eVar 21) (eVar 10))) (eVar 9) (eVar 21))) S := (rfl)
def i_law_6 : SF :=
    sIf (eTest (eBin gNe (eCallU F_pairs_sum (lCons (eCallU F__law_part (lCons (eVar 5) (lCons (eVar 11) (lCons (eVar 11) lNil)))) lNil)) (eBin DL.gSub (eC (.int 0)) (eVar 6))))
    (sRet (eC (.bool false)))
    (sNil)
theorem i_law_6_ap (S : Sls) : i_law_6 S = (sIf (eTest (eBin gNe (eCallU F_pairs_sum (lCons (eCallU F__law_part (lCons (eVar 5) (lCons (eVar 11) (lCons (eVar 11) lNil)))) lNil)) (eBin DL.gSub (eC (.int 0)) (eVar 6))))
    (sRet (eC (.bool false)))
    (sNil)) S := (rfl)
def i_law_7 : SF :=
    sIf (bAnd (eTest (eBin gEq (eVar 4) (eC (.int 2)))) (eTest (eBin gNe (eCallU F_pairs_sum (lCons (eCallU F_blocks (lCons (eVar 5) (lCons (eVar 12) lNil))) lNil)) (eBin gMul (eVar 6) (eBin gIx (eIxN 12 (eC (.int 0))) (eC (.int 1)))))))
    (sRet (eC (.bool false)))
    (sNil)
theorem i_law_7_ap (S : Sls) : i_law_7 S = (sIf (bAnd (eTest (eBin gEq (eVar 4) (eC (.int 2)))) (eTest (eBin gNe (eCallU F_pairs_sum (lCons (eCallU F_blocks (lCons (eVar 5) (lCons (eVar 12) lNil))) lNil)) (eBin gMul (eVar 6) (eBin gIx (eIxN 12 (eC (.int 0))) (eC (.int 1)))))))
    (sRet (eC (.bool false)))
    (sNil)) S := (rfl)
def b_law_0 : SF :=
    sSetD 16 (eBin gMul (eVar 16) (eBin gIx (eIxN 5 (eVar 17)) (eVar 18)))
theorem b_law_0_ap (S : Sls) : b_law_0 S = (sSetD 16 (eBin gMul (eVar 16) (eBin gIx (eIxN 5 (eVar 17)) (eVar 18)))) S := (rfl)
def b_law_1 : SF :=
    sSeq (sSetD 16 (eVar 15))
    (sSeq (sFor (eItems (eCallU F__law_plain (lCons (eVar 14) lNil))) (.tp [.nm 17, .nm 18])
    (b_law_0))
    (sSetD 13 (eBin gAdd (eVar 13) (eVar 16))))
theorem b_law_1_ap (S : Sls) : b_law_1 S = (sSeq (sSetD 16 (eVar 15))
    (sSeq (sFor (eItems (eCallU F__law_plain (lCons (eVar 14) lNil))) (.tp [.nm 17, .nm 18])
    (b_law_0))
    (sSetD 13 (eBin gAdd (eVar 13) (eVar 16))))) S := (rfl)
def i_law_8 : SF :=
    sIf (eTest (eBin gNe (eVar 13) (eVar 6)))
    (sRet (eC (.bool false)))
    (sNil)
theorem i_law_8_ap (S : Sls) : i_law_8 S = (sIf (eTest (eBin gNe (eVar 13) (eVar 6)))
    (sRet (eC (.bool false)))
    (sNil)) S := (rfl)
def b_law_2 : SF :=
    sSeq (sSetD 4 (eCallL 1 F__law_any (lCons (eL (lLst (lCons (eC (.int 2)) (lCons (eC (.int 4)) (lCons (eC (.int 4)) lNil))))) lNil)))
    (sSeq (sSetD 5 (eCallL 1 F__law_tilted (lCons (eVar 4) (lCons (eC (.int 4)) lNil))))
    (sSeq (sSetD 6 (eCallU F__law_pairs_sum (lCons (eVar 5) lNil)))
    (sSeq (i_law_3)
    (sSeq (sSetD 7 (eCallL 1 F__law_rows (lCons (eVar 4) (lCons (eVar 4) (lCons (eC (.int 1)) lNil)))))
    (sSeq (sSetD 8 (eCallU F__law_product (lCons (eCallU F__law_product (lCons (eVar 7) (lCons (eVar 5) lNil))) (lCons (eCall gTupO (lCons (eL (eLc (lRange1 (lCons (eVar 4) lNil)) (.nm 18) [18] bYes c_law_3)) lNil)) lNil))))
    (sSeq (i_law_5)
    (sSeq (sSetT (.tp [.nm 9, .nm 10]) (eCallL 1 F__law_any (lCons (eCallU F__law_lots (lCons (eVar 4) (lCons (eC (.int 2)) lNil))) lNil)))
    (sSeq (sSetF 11 (eLc (lRange1 (lCons (eVar 4) lNil)) (.nm 21) [21] bYes c_law_6))
    (sSeq (i_law_6)
    (sSeq (sSetD 12 (eCallL 1 F__law_tilted (lCons (eC (.int 2)) (lCons (eC (.int 4)) lNil))))
    (sSeq (i_law_7)
    (sSeq (sSetD 13 (eC (.int 0)))
    (sSeq (sFor (eItems (eCallU F_crossing_pairings (lCons (eVar 4) lNil))) (.tp [.nm 14, .nm 15])
    (b_law_1))
    (i_law_8))))))))))))))
theorem b_law_2_ap (S : Sls) : b_law_2 S = (sSeq (sSetD 4 (eCallL 1 F__law_any (lCons (eL (lLst (lCons (eC (.int 2)) (lCons (eC (.int 4)) (lCons (eC (.int 4)) lNil))))) lNil)))
    (sSeq (sSetD 5 (eCallL 1 F__law_tilted (lCons (eVar 4) (lCons (eC (.int 4)) lNil))))
    (sSeq (sSetD 6 (eCallU F__law_pairs_sum (lCons (eVar 5) lNil)))
    (sSeq (i_law_3)
    (sSeq (sSetD 7 (eCallL 1 F__law_rows (lCons (eVar 4) (lCons (eVar 4) (lCons (eC (.int 1)) lNil)))))
    (sSeq (sSetD 8 (eCallU F__law_product (lCons (eCallU F__law_product (lCons (eVar 7) (lCons (eVar 5) lNil))) (lCons (eCall gTupO (lCons (eL (eLc (lRange1 (lCons (eVar 4) lNil)) (.nm 18) [18] bYes c_law_3)) lNil)) lNil))))
    (sSeq (i_law_5)
    (sSeq (sSetT (.tp [.nm 9, .nm 10]) (eCallL 1 F__law_any (lCons (eCallU F__law_lots (lCons (eVar 4) (lCons (eC (.int 2)) lNil))) lNil)))
    (sSeq (sSetF 11 (eLc (lRange1 (lCons (eVar 4) lNil)) (.nm 21) [21] bYes c_law_6))
    (sSeq (i_law_6)
    (sSeq (sSetD 12 (eCallL 1 F__law_tilted (lCons (eC (.int 2)) (lCons (eC (.int 4)) lNil))))
    (sSeq (i_law_7)
    (sSeq (sSetD 13 (eC (.int 0)))
    (sSeq (sFor (eItems (eCallU F_crossing_pairings (lCons (eVar 4) lNil))) (.tp [.nm 14, .nm 15])
    (b_law_1))
    (i_law_8))))))))))))))) S := (rfl)
def g_law : SF :=
    sSeq (sSetF 1 (lCallS 0 F__law_hand))
    (sSeq (i_law_0)
    (sSeq (sSetF 2 (eCallF gSrt (lCons (eL (eLc (eItems (eCallU F_crossing_pairings (lCons (eC (.int 4)) lNil))) (.tp [.nm 14, .nm 15]) [14, 15] bYes c_law_0)) lNil)))
    (sSeq (i_law_1)
    (sSeq (i_law_2)
    (sSeq (sFor (lRange1 (lCons (eC (.int 5)) lNil)) (.nm 3)
    (b_law_2))
    (sRet (eC (.bool true))))))))
theorem g_law_ap (S : Sls) : g_law S = (sSeq (sSetF 1 (lCallS 0 F__law_hand))
    (sSeq (i_law_0)
    (sSeq (sSetF 2 (eCallF gSrt (lCons (eL (eLc (eItems (eCallU F_crossing_pairings (lCons (eC (.int 4)) lNil))) (.tp [.nm 14, .nm 15]) [14, 15] bYes c_law_0)) lNil)))
    (sSeq (i_law_1)
    (sSeq (i_law_2)
    (sSeq (sFor (lRange1 (lCons (eC (.int 5)) lNil)) (.nm 3)
    (b_law_2))
    (sRet (eC (.bool true))))))))) S := (rfl)
def F_law : FnD := runF 22 1 g_law
theorem F_law_ap (S : Sls) : F_law S = runF 22 1 g_law S := (rfl)
structure Tops (K : PySem.W.Frag) (mg : Str → Option Value) : Prop where
  b_abs : mg "abs" = none
  b_all : mg "all" = none
  b_bool : mg "bool" = none
  b_enumerate : mg "enumerate" = none
  b_int : mg "int" = none
  b_isinstance : mg "isinstance" = none
  b_len : mg "len" = none
  b_list : mg "list" = none
  b_max : mg "max" = none
  b_range : mg "range" = none
  b_sorted : mg "sorted" = none
  b_sum : mg "sum" = none
  b_tuple : mg "tuple" = none
  b_zip : mg "zip" = none
  c_GREATEST : ∃ t, mg "GREATEST" = some (.int 30 t)
  c_MOST_SIZE : ∃ t, mg "MOST_SIZE" = some (.int 5 t)
  f__law_hand : ∃ f fd, Fun K "_law_hand" "_law_hand" s__law_hand f fd ∧ mg "_law_hand" = some (.ref f) ∧ Binds K fd ["script"] []
  f_is_tuple : ∃ f fd, Fun K "is_tuple" "is_tuple" s_is_tuple f fd ∧ mg "is_tuple" = some (.ref f) ∧ Binds K fd ["thing", "least", "most"] []
  f_is_integer : ∃ f fd, Fun K "is_integer" "is_integer" s_is_integer f fd ∧ mg "is_integer" = some (.ref f) ∧ Binds K fd ["thing"] []
  f_is_within : ∃ f fd, Fun K "is_within" "is_within" s_is_within f fd ∧ mg "is_within" = some (.ref f) ∧ Binds K fd ["thing", "low", "high"] []
  f_is_entry : ∃ f fd, Fun K "is_entry" "is_entry" s_is_entry f fd ∧ mg "is_entry" = some (.ref f) ∧ Binds K fd ["thing"] []
  f_is_line : ∃ f fd, Fun K "is_line" "is_line" s_is_line f fd ∧ mg "is_line" = some (.ref f) ∧ Binds K fd ["thing", "many"] []
  f_are_rows : ∃ f fd, Fun K "are_rows" "are_rows" s_are_rows f fd ∧ mg "are_rows" = some (.ref f) ∧ Binds K fd ["thing"] []
  f_check_rows : ∃ f fd, Fun K "check_rows" "check_rows" s_check_rows f fd ∧ mg "check_rows" = some (.ref f) ∧ Binds K fd ["rows"] []
  f_check_square : ∃ f fd, Fun K "check_square" "check_square" s_check_square f fd ∧ mg "check_square" = some (.ref f) ∧ Binds K fd ["rows"] []
  f_pairings_of : ∃ f fd, Fun K "pairings_of" "pairings_of" s_pairings_of f fd ∧ mg "pairings_of" = some (.ref f) ∧ Binds K fd ["places"] []
  f_columns_of : ∃ f fd, Fun K "columns_of" "columns_of" s_columns_of f fd ∧ mg "columns_of" = some (.ref f) ∧ Binds K fd ["rows"] []
  f_turned_of : ∃ f fd, Fun K "turned_of" "turned_of" s_turned_of f fd ∧ mg "turned_of" = some (.ref f) ∧ Binds K fd ["rows"] []
  f_sign_of : ∃ f fd, Fun K "sign_of" "sign_of" s_sign_of f fd ∧ mg "sign_of" = some (.ref f) ∧ Binds K fd ["pairing"] []
  f_pairs_sum : ∃ f fd, Fun K "pairs_sum" "pairs_sum" s_pairs_sum f fd ∧ mg "pairs_sum" = some (.ref f) ∧ Binds K fd ["rows"] []
  f__law_draw : ∃ f fd, Fun K "_law_draw" "_law_draw" s__law_draw f fd ∧ mg "_law_draw" = some (.ref f) ∧ Binds K fd ["hand", "bound"] []
  f__law_any : ∃ f fd, Fun K "_law_any" "_law_any" s__law_any f fd ∧ mg "_law_any" = some (.ref f) ∧ Binds K fd ["hand", "things"] []
  f__law_rows : ∃ f fd, Fun K "_law_rows" "_law_rows" s__law_rows f fd ∧ mg "_law_rows" = some (.ref f) ∧ Binds K fd ["hand", "high", "wide", "most"] []
  f__law_tilted : ∃ f fd, Fun K "_law_tilted" "_law_tilted" s__law_tilted f fd ∧ mg "_law_tilted" = some (.ref f) ∧ Binds K fd ["hand", "n", "most"] []
  f__law_pairs_sum : ∃ f fd, Fun K "_law_pairs_sum" "_law_pairs_sum" s__law_pairs_sum f fd ∧ mg "_law_pairs_sum" = some (.ref f) ∧ Binds K fd ["rows"] []
  f__law_product : ∃ f fd, Fun K "_law_product" "_law_product" s__law_product f fd ∧ mg "_law_product" = some (.ref f) ∧ Binds K fd ["one", "other"] []
  f_crossing_pairings : ∃ f fd, Fun K "crossing_pairings" "crossing_pairings" s_crossing_pairings f fd ∧ mg "crossing_pairings" = some (.ref f) ∧ Binds K fd ["n"] []
  f__law_lots : ∃ f fd, Fun K "_law_lots" "_law_lots" s__law_lots f fd ∧ mg "_law_lots" = some (.ref f) ∧ Binds K fd ["n", "size"] []
  f__law_plain : ∃ f fd, Fun K "_law_plain" "_law_plain" s__law_plain f fd ∧ mg "_law_plain" = some (.ref f) ∧ Binds K fd ["pairing"] []
  f_det_of : ∃ f fd, Fun K "det_of" "det_of" s_det_of f fd ∧ mg "det_of" = some (.ref f) ∧ Binds K fd ["rows"] []
  f_determinant : ∃ f fd, Fun K "determinant" "determinant" s_determinant f fd ∧ mg "determinant" = some (.ref f) ∧ Binds K fd ["rows"] []
  f__law_part : ∃ f fd, Fun K "_law_part" "_law_part" s__law_part f fd ∧ mg "_law_part" = some (.ref f) ∧ Binds K fd ["rows", "lot", "places"] []
  f__law_orders : ∃ f fd, Fun K "_law_orders" "_law_orders" s__law_orders f fd ∧ mg "_law_orders" = some (.ref f) ∧ Binds K fd ["n"] []
  f__law_determinant : ∃ f fd, Fun K "_law_determinant" "_law_determinant" s__law_determinant f fd ∧ mg "_law_determinant" = some (.ref f) ∧ Binds K fd ["rows"] []
  f_check_both : ∃ f fd, Fun K "check_both" "check_both" s_check_both f fd ∧ mg "check_both" = some (.ref f) ∧ Binds K fd ["one", "other"] []
  f_check_room : ∃ f fd, Fun K "check_room" "check_room" s_check_room f fd ∧ mg "check_room" = some (.ref f) ∧ Binds K fd ["high", "wide"] []
  f_blocks : ∃ f fd, Fun K "blocks" "blocks" s_blocks f fd ∧ mg "blocks" = some (.ref f) ∧ Binds K fd ["one", "other"] []
  f_law : ∃ f fd, Fun K "law" "law" s_law f fd ∧ mg "law" = some (.ref f) ∧ Binds K fd ["script"] []
end K17

/-! K17: each def does what its function says, printed by gen.py. -/
namespace K17
open PySem PySem.Spec PyProof.Rows L2 DL
section
variable {P : Program} {w : World} {K : PySem.W.Frag} {mg : Str → Option Value} {base : Heap}
theorem d__law_hand (T : Tops K mg) : DefD P w K mg base 1 "_law_hand" 1 F__law_hand :=
  let ⟨f, fd, F, hm, b⟩ := T.f__law_hand; def_d F hm b sc__law_hand (by decide) fun cdv A outer s H E hr =>
    dss_cons (ds_setLc (own := [("cell", 2)]) sc__law_hand.nd (di_seq (d_ofF (df_scr 0 do_none (do_some d_int)))) (blkOk_by (N := N__law_hand) (by kernel_rfl)) (by decide) (fun _ _ _ _ _ => dg_nm sc__law_hand.nd) (fun _ _ _ _ _ => dts_nil) (fun _ _ _ _ _ => d_callB call_abs c_abs T.b_abs (da_cons (d_callTy call_int1 c_int T.b_int (da_cons (d_var 2) da_nil)) da_nil)) (sw_true rfl rfl rfl (by decide +kernel)))
    (dss_one (ds_retF (df_lst (da_cons (d_var 1) (da_cons d_int (da_cons d_int (da_cons (d_op op_addG b_add d_int (d_lenN 1 T.b_len)) (da_cons d_int da_nil))))))))
theorem d_is_tuple (T : Tops K mg) : DefD P w K mg base 1 "is_tuple" 3 F_is_tuple :=
  let ⟨f, fd, F, hm, b⟩ := T.f_is_tuple; def_d F hm b sc_is_tuple (by decide) fun cdv A outer s H E hr =>
    dss_one (ds_ret (d_and (d_isi "tuple" (d_var 0) T.b_isinstance T.b_tuple) (d_one (d_chain op_le b_cmp op_le b_cmp (d_var 1) (d_lenN 0 T.b_len) (d_var 2)))))
theorem d_is_integer (T : Tops K mg) : DefD P w K mg base 1 "is_integer" 1 F_is_integer :=
  let ⟨f, fd, F, hm, b⟩ := T.f_is_integer; def_d F hm b sc_is_integer (by decide) fun cdv A outer s H E hr =>
    dss_one (ds_ret (d_and (d_isi "int" (d_var 0) T.b_isinstance T.b_int) (d_one (d_not (d_isi "bool" (d_var 0) T.b_isinstance T.b_bool)))))
theorem d_is_within (T : Tops K mg) : DefD P w K mg base 2 "is_within" 3 F_is_within :=
  let ⟨f, fd, F, hm, b⟩ := T.f_is_within; def_d F hm b sc_is_within (by decide) fun cdv A outer s H E hr =>
    dss_one (ds_ret (d_and (d_call ((d_is_integer T).mono (by first | decide | omega | (simp only [Nat.add_eq]; omega))) hr (da_cons (d_var 0) da_nil)) (d_one (d_chain op_le b_cmp op_le b_cmp (d_var 1) (d_var 0) (d_var 2)))))
theorem d_is_entry (T : Tops K mg) : DefD P w K mg base 3 "is_entry" 1 F_is_entry :=
  let ⟨f, fd, F, hm, b⟩ := T.f_is_entry; def_d F hm b sc_is_entry (by decide) fun cdv A outer s H E hr =>
    dss_one (ds_ret (d_call ((d_is_within T).mono (by first | decide | omega | (simp only [Nat.add_eq]; omega))) hr (da_cons (d_var 0) (da_cons (d_neg (d_globI2 (by rfl) T.c_GREATEST)) (da_cons (d_globI2 (by rfl) T.c_GREATEST) da_nil)))))
theorem d_is_line (T : Tops K mg) : DefD P w K mg base 4 "is_line" 2 F_is_line :=
  let ⟨f, fd, F, hm, b⟩ := T.f_is_line; def_d F hm b sc_is_line (by decide) fun cdv A outer s H E hr =>
    dss_one (ds_ret (d_and (d_call ((d_is_tuple T).mono (by first | decide | omega | (simp only [Nat.add_eq]; omega))) hr (da_cons (d_var 0) (da_cons (d_var 1) (da_cons (d_var 1) da_nil)))) (d_one (d_callB (cr_all rfl) c_all T.b_all (da_cons (d_ofF (df_lc (own := [("one", 2)]) sc_is_line.nd (di_seq (d_var 0)) (blkOk_by (N := N_is_line) (by kernel_rfl)) (by decide) (fun _ _ _ _ _ => dg_nm sc_is_line.nd) (fun _ _ _ _ _ => dts_nil) (fun _ _ _ _ _ => d_call ((d_is_entry T).mono (by first | decide | omega | (simp only [Nat.add_eq]; omega))) hr (da_cons (d_var 2) da_nil)))) da_nil)))))
theorem d_are_rows (T : Tops K mg) : DefD P w K mg base 5 "are_rows" 1 F_are_rows :=
  let ⟨f, fd, F, hm, b⟩ := T.f_are_rows; def_d F hm b sc_are_rows (by decide) fun cdv A outer s H E hr =>
    dss_cons (ds_if (PW.pt (dw_or (dt_not (dt_tru (d_call ((d_is_tuple T).mono (by first | decide | omega | (simp only [Nat.add_eq]; omega))) hr (da_cons (d_var 0) (da_cons d_int (da_cons (d_globI2 (by rfl) T.c_MOST_SIZE) da_nil)))))) (dw_or1 (dt_not (dt_tru (d_call ((d_is_tuple T).mono (by first | decide | omega | (simp only [Nat.add_eq]; omega))) hr (da_cons (d_ixN 0 d_int) (da_cons d_int (da_cons (d_globI2 (by rfl) T.c_MOST_SIZE) da_nil)))))))))
    (dss_one (ds_ret d_bl))
    (dss_nil))
    (dss_one (ds_ret (d_callB (cr_all rfl) c_all T.b_all (da_cons (d_ofF (df_lc (own := [("row", 1)]) sc_are_rows.nd (di_seq (d_var 0)) (blkOk_by (N := N_are_rows) (by kernel_rfl)) (by decide) (fun _ _ _ _ _ => dg_nm sc_are_rows.nd) (fun _ _ _ _ _ => dts_nil) (fun _ _ _ _ _ => d_call ((d_is_line T).mono (by first | decide | omega | (simp only [Nat.add_eq]; omega))) hr (da_cons (d_var 1) (da_cons (d_callB call_len_seq c_len T.b_len (da_cons (d_ixN 0 d_int) da_nil)) da_nil))))) da_nil))))
theorem d_check_rows (T : Tops K mg) : DefD P w K mg base 6 "check_rows" 1 F_check_rows :=
  let ⟨f, fd, F, hm, b⟩ := T.f_check_rows; def_d F hm b sc_check_rows (by decide) fun cdv A outer s H E hr =>
    dss_one (ds_if (dt_not (dt_tru (d_call ((d_are_rows T).mono (by first | decide | omega | (simp only [Nat.add_eq]; omega))) hr (da_cons (d_var 0) da_nil))))
    (dss_one (ds_never))
    (dss_nil))
theorem d_check_square (T : Tops K mg) : DefD P w K mg base 7 "check_square" 1 F_check_square :=
  let ⟨f, fd, F, hm, b⟩ := T.f_check_square; def_d F hm b sc_check_square (by decide) fun cdv A outer s H E hr =>
    dss_cons (ds_expr (d_call ((d_check_rows T).mono (by first | decide | omega | (simp only [Nat.add_eq]; omega))) hr (da_cons (d_var 0) da_nil)))
    (dss_one (ds_if (dt_cmp (op_neD hr.units) b_ne (d_lenN 0 T.b_len) (d_callB call_len_seq c_len T.b_len (da_cons (d_ixN 0 d_int) da_nil)) (nomark _))
    (dss_one (ds_never))
    (dss_nil)))
theorem d_pairings_of (T : Tops K mg) : ∀ n : Nat, DefD P w K mg base (1 + n) "pairings_of" 1 (F_pairings_of n)
  | 0 => let ⟨f, fd, F, hm, b⟩ := T.f_pairings_of; ⟨⟨f, fd, _, never_fn F sc_pairings_of, hm, F.kp, b⟩, fun _ _ h => nomatch h⟩
  | n + 1 => let ⟨f, fd, F, hm, b⟩ := T.f_pairings_of; have R : DefD P w K mg base (1 + n) "pairings_of" 1 (F_pairings_of n) := d_pairings_of T n; def_d F hm b sc_pairings_of (by decide) fun cdv A outer s H E hr =>
    dss_cons (ds_if (dt_cmp (op_eqD hr.units) b_eq (d_lenN 0 T.b_len) d_int (nomark _))
    (dss_one (ds_ret (d_ofF (df_lst (da_cons (d_tup da_nil) da_nil)))))
    (dss_nil))
    (dss_cons (ds_setF (i := 1) sc_pairings_of.nd (df_lst da_nil))
    (dss_cons (ds_for (di_seq (d_sl (d_var 0) (do_some d_int) do_none)) (dg_nm sc_pairings_of.nd)
    (dss_cons (ds_setLc (own := [("one", 4)]) sc_pairings_of.nd (di_seq (d_sl (d_var 0) (do_some d_int) do_none)) (blkOk_by (N := N_pairings_of) (by kernel_rfl)) (by decide) (fun _ _ _ _ _ => dg_nm sc_pairings_of.nd) (fun _ _ _ _ _ => dts_one (dt_cmp (op_neD hr.units) b_ne (d_var 4) (d_var 2) (nomark _))) (fun _ _ _ _ _ => d_var 4) (sw_true rfl rfl rfl (by decide +kernel)))
    (dss_one (ds_extend 1 (d_ofF (df_lc (own := [("some", 5)]) sc_pairings_of.nd (di_seq (d_call R hr (da_cons (d_var 3) da_nil))) (blkOk_by (N := N_pairings_of) (by kernel_rfl)) (by decide) (fun _ _ _ _ _ => dg_nm sc_pairings_of.nd) (fun _ _ _ _ _ => dts_nil) (fun _ _ _ _ _ => d_op op_addG b_add (d_tup (da_cons (d_tup (da_cons (d_ixN 0 d_int) (da_cons (d_var 2) da_nil))) da_nil)) (d_var 5))))))))
    (dss_one (ds_ret (d_var 1)))))
theorem d_columns_of (T : Tops K mg) : DefD P w K mg base 1 "columns_of" 1 F_columns_of :=
  let ⟨f, fd, F, hm, b⟩ := T.f_columns_of; def_d F hm b sc_columns_of (by decide) fun cdv A outer s H E hr =>
    dss_one (ds_ret (d_callTy call_tuple_of c_tup T.b_tuple (da_cons (d_ofF (df_lc (own := [("at", 1)]) sc_columns_of.nd (di_range1 T.b_range (da_cons (d_callB call_len_seq c_len T.b_len (da_cons (d_ixN 0 d_int) da_nil)) da_nil)) (blkOk_by (N := N_columns_of) (by kernel_rfl)) (by decide) (fun _ _ _ _ _ => dg_nm sc_columns_of.nd) (fun _ _ _ _ _ => dts_nil) (fun _ _ _ _ _ => d_callTy call_tuple_of c_tup T.b_tuple (da_cons (d_ofF (df_lc (own := [("row", 2)]) sc_columns_of.nd (di_seq (d_var 0)) (blkOk_by (N := N_columns_of) (by kernel_rfl)) (by decide) (fun _ _ _ _ _ => dg_nm sc_columns_of.nd) (fun _ _ _ _ _ => dts_nil) (fun _ _ _ _ _ => d_ixN 2 (d_var 1)))) da_nil)))) da_nil)))
theorem d_turned_of (T : Tops K mg) : DefD P w K mg base 2 "turned_of" 1 F_turned_of :=
  let ⟨f, fd, F, hm, b⟩ := T.f_turned_of; def_d F hm b sc_turned_of (by decide) fun cdv A outer s H E hr =>
    dss_one (ds_ret (d_call ((d_columns_of T).mono (by first | decide | omega | (simp only [Nat.add_eq]; omega))) hr (da_cons (d_var 0) da_nil)))
theorem d_sign_of (T : Tops K mg) : DefD P w K mg base 1 "sign_of" 1 F_sign_of :=
  let ⟨f, fd, F, hm, b⟩ := T.f_sign_of; def_d F hm b sc_sign_of (by decide) fun cdv A outer s H E hr =>
    dss_cons (ds_set (i := 1) sc_sign_of.nd d_int)
    (dss_cons (ds_for (di_seq (d_var 0)) (dg_tp (dgs_cons (dg_nm sc_sign_of.nd) (dgs_cons (dg_nm sc_sign_of.nd) (dgs_nil))))
    (dss_one (ds_set (i := 1) sc_sign_of.nd (d_op op_addG b_add (d_var 1) (d_callB call_len_seq c_len T.b_len (da_cons (d_ofF (df_lc (own := [("c", 4), ("d", 5)]) sc_sign_of.nd (di_seq (d_var 0)) (blkOk_by (N := N_sign_of) (by kernel_rfl)) (by decide) (fun _ _ _ _ _ => dg_tp (dgs_cons (dg_nm sc_sign_of.nd) (dgs_cons (dg_nm sc_sign_of.nd) (dgs_nil)))) (fun _ _ _ _ _ => dts_one (dt_chain3 op_lt b_cmp op_lt b_cmp op_lt b_cmp (d_var 2) (d_var 4) (d_var 3) (d_var 5))) (fun _ _ _ _ _ => d_int))) da_nil))))))
    (dss_one (ds_ret (d_if (dt_cmp (op_eqD hr.units) b_eq (d_op op_mod b_mod (d_var 1) d_int) d_int (nomark _)) d_int (d_neg d_int)))))
theorem d_pairs_sum (T : Tops K mg) : DefD P w K mg base 8 "pairs_sum" 1 F_pairs_sum :=
  let ⟨f, fd, F, hm, b⟩ := T.f_pairs_sum; def_d F hm b sc_pairs_sum (by decide) fun cdv A outer s H E hr =>
    dss_cons (ds_expr (d_call ((d_check_square T).mono (by first | decide | omega | (simp only [Nat.add_eq]; omega))) hr (da_cons (d_var 0) da_nil)))
    (dss_cons (ds_if (dt_cmp (op_neD hr.units) b_ne (d_call ((d_turned_of T).mono (by first | decide | omega | (simp only [Nat.add_eq]; omega))) hr (da_cons (d_var 0) da_nil)) (d_callTy call_tuple_of c_tup T.b_tuple (da_cons (d_ofF (df_lc (own := [("row", 6)]) sc_pairs_sum.nd (di_seq (d_var 0)) (blkOk_by (N := N_pairs_sum) (by kernel_rfl)) (by decide) (fun _ _ _ _ _ => dg_nm sc_pairs_sum.nd) (fun _ _ _ _ _ => dts_nil) (fun _ _ _ _ _ => d_callTy call_tuple_of c_tup T.b_tuple (da_cons (d_ofF (df_lc (own := [("one", 7)]) sc_pairs_sum.nd (di_seq (d_var 6)) (blkOk_by (N := N_pairs_sum) (by kernel_rfl)) (by decide) (fun _ _ _ _ _ => dg_nm sc_pairs_sum.nd) (fun _ _ _ _ _ => dts_nil) (fun _ _ _ _ _ => d_neg (d_var 7)))) da_nil)))) da_nil)) (nomark _))
    (dss_one (ds_never))
    (dss_nil))
    (dss_cons (ds_if (dt_cmp (op_eqD hr.units) b_eq (d_op op_mod b_mod (d_lenN 0 T.b_len) d_int) d_int (nomark _))
    (dss_one (ds_never))
    (dss_nil))
    (dss_cons (ds_set (i := 1) sc_pairs_sum.nd d_int)
    (dss_cons (ds_for (di_seq (d_call ((d_pairings_of T 4).mono (by first | decide | omega | (simp only [Nat.add_eq]; omega))) hr (da_cons (d_ofF (df_listRg1 rfl T.b_list T.b_range (d_lenN 0 T.b_len))) da_nil))) (dg_nm sc_pairs_sum.nd)
    (dss_cons (ds_set (i := 3) sc_pairs_sum.nd (d_call ((d_sign_of T).mono (by first | decide | omega | (simp only [Nat.add_eq]; omega))) hr (da_cons (d_var 2) da_nil)))
    (dss_cons (ds_for (di_seq (d_var 2)) (dg_tp (dgs_cons (dg_nm sc_pairs_sum.nd) (dgs_cons (dg_nm sc_pairs_sum.nd) (dgs_nil))))
    (dss_one (ds_set (i := 3) sc_pairs_sum.nd (d_op op_mulG b_mul (d_var 3) (d_ix (d_ixN 0 (d_var 4)) (d_var 5))))))
    (dss_one (ds_set (i := 1) sc_pairs_sum.nd (d_op op_addG b_add (d_var 1) (d_var 3)))))))
    (dss_one (ds_ret (d_var 1)))))))
theorem d__law_draw (T : Tops K mg) : DefD P w K mg base 1 "_law_draw" 2 F__law_draw :=
  let ⟨f, fd, F, hm, b⟩ := T.f__law_draw; def_d F hm b sc__law_draw (by decide) fun cdv A outer s H E hr =>
    dss_cons (ds_if (PW.pt (dw_and (dt_cmp (op_eqD hr.units) b_eq (d_ixN 0 d_int) d_int (nomark _)) (dw_and1 (dt_cmp op_lt b_cmp (d_ixN 0 d_int) (d_callB call_len_seq c_len T.b_len (da_cons (d_ixN 0 d_int) da_nil)) (nomark _)))))
    (dss_cons (ds_set (i := 2) sc__law_draw.nd (d_ix (d_ixN 0 d_int) (d_ixN 0 d_int)))
    (dss_cons (ds_setIx 0 (d_op op_addG b_add (d_ixN 0 d_int) d_int) d_int)
    (dss_cons (ds_setIx 0 (d_op op_mod b_mod (d_callTy call_int1 c_int T.b_int (da_cons (d_op op_addG b_add (d_op op_addG b_add (d_op op_mulG b_mul (d_ixN 0 d_int) d_int) (d_var 2)) d_int) da_nil)) d_int) d_int)
    (dss_one (ds_if (dt_cmp op_ge b_cmp (d_var 2) (d_op op_pow b_pow d_int d_int) (nomark _))
    (dss_one (ds_setIx 0 (d_var 2) d_int))
    (dss_nil))))))
    (dss_nil))
    (dss_cons (ds_if (dt_cmp op_gt b_cmp (d_ixN 0 d_int) d_int (nomark _))
    (dss_cons (ds_set (i := 3) sc__law_draw.nd (d_op op_mod b_mod (d_callTy call_int1 c_int T.b_int (da_cons (d_ixN 0 d_int) da_nil)) (d_var 1)))
    (dss_cons (ds_setIx 0 (d_op op_fdivG b_fdiv (d_ixN 0 d_int) (d_var 1)) d_int)
    (dss_one (ds_ret (d_var 3)))))
    (dss_nil))
    (dss_cons (ds_setIx 0 (d_op op_addG b_add (d_ixN 0 d_int) d_int) d_int)
    (dss_cons (ds_set (i := 4) sc__law_draw.nd (d_op op_mod b_mod (d_callTy call_int1 c_int T.b_int (da_cons (d_op op_mulG b_mul (d_callTy call_int1 c_int T.b_int (da_cons (d_op op_addG b_add (d_ixN 0 d_int) (d_op op_mulG b_mul d_int (d_ixN 0 d_int))) da_nil)) d_int) da_nil)) d_int))
    (dss_cons (ds_set (i := 4) sc__law_draw.nd (d_op op_mod b_mod (d_callTy call_int1 c_int T.b_int (da_cons (d_op op_mulG b_mul (d_var 4) (d_op op_addG b_add (d_op op_fdivG b_fdiv (d_var 4) d_int) d_int)) da_nil)) d_int))
    (dss_cons (ds_set (i := 4) sc__law_draw.nd (d_op op_mod b_mod (d_callTy call_int1 c_int T.b_int (da_cons (d_op op_mulG b_mul (d_var 4) (d_op op_addG b_add (d_op op_fdivG b_fdiv (d_var 4) d_int) d_int)) da_nil)) d_int))
    (dss_one (ds_ret (d_op op_mod b_mod (d_callTy call_int1 c_int T.b_int (da_cons (d_op op_fdivG b_fdiv (d_var 4) d_int) da_nil)) (d_var 1)))))))))
theorem d__law_any (T : Tops K mg) : DefD P w K mg base 2 "_law_any" 2 F__law_any :=
  let ⟨f, fd, F, hm, b⟩ := T.f__law_any; def_d F hm b sc__law_any (by decide) fun cdv A outer s H E hr =>
    dss_one (ds_ret (d_ixN 1 (d_callL 0 ((d__law_draw T).mono (by first | decide | omega | (simp only [Nat.add_eq]; omega))) hr (da_cons (d_lenN 1 T.b_len) da_nil))))
theorem d__law_rows (T : Tops K mg) : DefD P w K mg base 2 "_law_rows" 4 F__law_rows :=
  let ⟨f, fd, F, hm, b⟩ := T.f__law_rows; def_d F hm b sc__law_rows (by decide) fun cdv A outer s H E hr =>
    dss_cons (ds_setF (i := 4) sc__law_rows.nd (df_lst da_nil))
    (dss_cons (ds_for (di_range1 T.b_range (da_cons (d_var 1) da_nil)) (dg_nm sc__law_rows.nd)
    (dss_one (ds_append 4 (d_callTy call_tuple_of c_tup T.b_tuple (da_cons (d_ofF (df_lc (own := [("b", 6)]) sc__law_rows.nd (di_range1 T.b_range (da_cons (d_var 2) da_nil)) (blkOk_by (N := N__law_rows) (by kernel_rfl)) (by decide) (fun _ _ _ _ _ => dg_nm sc__law_rows.nd) (fun _ _ _ _ _ => dts_nil) (fun _ _ _ _ _ => d_op op_sub b_sub (d_callL 0 ((d__law_draw T).mono (by first | decide | omega | (simp only [Nat.add_eq]; omega))) hr (da_cons (d_op op_addG b_add (d_op op_mulG b_mul d_int (d_var 3)) d_int) da_nil)) (d_var 3)))) da_nil)))))
    (dss_one (ds_ret (d_callTy call_tuple_of c_tup T.b_tuple (da_cons (d_var 4) da_nil)))))
theorem d__law_tilted (T : Tops K mg) : DefD P w K mg base 3 "_law_tilted" 3 F__law_tilted :=
  let ⟨f, fd, F, hm, b⟩ := T.f__law_tilted; def_d F hm b sc__law_tilted (by decide) fun cdv A outer s H E hr =>
    dss_cons (ds_set (i := 3) sc__law_tilted.nd (d_callL 0 ((d__law_rows T).mono (by first | decide | omega | (simp only [Nat.add_eq]; omega))) hr (da_cons (d_var 1) (da_cons (d_var 1) (da_cons (d_var 2) da_nil)))))
    (dss_cons (ds_setF (i := 4) sc__law_tilted.nd (df_lst da_nil))
    (dss_cons (ds_for (di_range1 T.b_range (da_cons (d_var 1) da_nil)) (dg_nm sc__law_tilted.nd)
    (dss_one (ds_append 4 (d_callTy call_tuple_of c_tup T.b_tuple (da_cons (d_ofF (df_lc (own := [("b", 6)]) sc__law_tilted.nd (di_range1 T.b_range (da_cons (d_var 1) da_nil)) (blkOk_by (N := N__law_tilted) (by kernel_rfl)) (by decide) (fun _ _ _ _ _ => dg_nm sc__law_tilted.nd) (fun _ _ _ _ _ => dts_nil) (fun _ _ _ _ _ => d_if (dt_cmp op_gt b_cmp (d_var 6) (d_var 5) (nomark _)) (d_ix (d_ixN 3 (d_var 5)) (d_var 6)) (d_if (dt_cmp op_lt b_cmp (d_var 6) (d_var 5) (nomark _)) (d_op op_sub b_sub d_int (d_ix (d_ixN 3 (d_var 6)) (d_var 5))) d_int)))) da_nil)))))
    (dss_one (ds_ret (d_callTy call_tuple_of c_tup T.b_tuple (da_cons (d_var 4) da_nil))))))
theorem d__law_pairs_sum (T : Tops K mg) : DefD P w K mg base 1 "_law_pairs_sum" 1 F__law_pairs_sum :=
  let ⟨f, fd, F, hm, b⟩ := T.f__law_pairs_sum; def_d F hm b sc__law_pairs_sum (by decide) fun cdv A outer s H E hr =>
    dss_cons (ds_if (dt_cmp (op_eqD hr.units) b_eq (d_lenN 0 T.b_len) d_int (nomark _))
    (dss_one (ds_ret (d_ix (d_ixN 0 d_int) d_int)))
    (dss_nil))
    (dss_one (ds_ret (d_op op_addG b_add (d_op op_sub b_sub (d_op op_mulG b_mul (d_ix (d_ixN 0 d_int) d_int) (d_ix (d_ixN 0 d_int) d_int)) (d_op op_mulG b_mul (d_ix (d_ixN 0 d_int) d_int) (d_ix (d_ixN 0 d_int) d_int))) (d_op op_mulG b_mul (d_ix (d_ixN 0 d_int) d_int) (d_ix (d_ixN 0 d_int) d_int)))))
theorem d__law_product (T : Tops K mg) : DefD P w K mg base 1 "_law_product" 2 F__law_product :=
  let ⟨f, fd, F, hm, b⟩ := T.f__law_product; def_d F hm b sc__law_product (by decide) fun cdv A outer s H E hr =>
    dss_cons (ds_setF sc__law_product.nd (df_lc (own := [("b", 3)]) sc__law_product.nd (di_range1 T.b_range (da_cons (d_callB call_len_seq c_len T.b_len (da_cons (d_ixN 1 d_int) da_nil)) da_nil)) (blkOk_by (N := N__law_product) (by kernel_rfl)) (by decide) (fun _ _ _ _ _ => dg_nm sc__law_product.nd) (fun _ _ _ _ _ => dts_nil) (fun _ _ _ _ _ => d_ofF (df_lc (own := [("row", 4)]) sc__law_product.nd (di_seq (d_var 1)) (blkOk_by (N := N__law_product) (by kernel_rfl)) (by decide) (fun _ _ _ _ _ => dg_nm sc__law_product.nd) (fun _ _ _ _ _ => dts_nil) (fun _ _ _ _ _ => d_ixN 4 (d_var 3))))) (hs := by rfl))
    (dss_one (ds_ret (d_callTy call_tuple_of c_tup T.b_tuple (da_cons (d_ofF (df_lc (own := [("row", 4)]) sc__law_product.nd (di_seq (d_var 0)) (blkOk_by (N := N__law_product) (by kernel_rfl)) (by decide) (fun _ _ _ _ _ => dg_nm sc__law_product.nd) (fun _ _ _ _ _ => dts_nil) (fun _ _ _ _ _ => d_callTy call_tuple_of c_tup T.b_tuple (da_cons (d_ofF (df_lc (own := [("column", 5)]) sc__law_product.nd (di_seq (d_var 2)) (blkOk_by (N := N__law_product) (by kernel_rfl)) (by decide) (fun _ _ _ _ _ => dg_nm sc__law_product.nd) (fun _ _ _ _ _ => dts_nil) (fun _ _ _ _ _ => d_callB (cr_sum rfl) c_sum T.b_sum (da_cons (d_ofF (df_lc (own := [("a", 6), ("b", 3)]) sc__law_product.nd (di_zip T.b_zip (da_cons (d_var 4) (da_cons (d_var 5) da_nil))) (blkOk_by (N := N__law_product) (by kernel_rfl)) (by decide) (fun _ _ _ _ _ => dg_tp (dgs_cons (dg_nm sc__law_product.nd) (dgs_cons (dg_nm sc__law_product.nd) (dgs_nil)))) (fun _ _ _ _ _ => dts_nil) (fun _ _ _ _ _ => d_op op_mulG b_mul (d_var 6) (d_var 3)))) da_nil)))) da_nil)))) da_nil))))
theorem d_crossing_pairings (T : Tops K mg) : DefD P w K mg base 6 "crossing_pairings" 1 F_crossing_pairings :=
  let ⟨f, fd, F, hm, b⟩ := T.f_crossing_pairings; def_d F hm b sc_crossing_pairings (by decide) fun cdv A outer s H E hr =>
    dss_cons (ds_if (PW.pt (dw_or (dt_tru (d_isi "bool" (d_var 0) T.b_isinstance T.b_bool)) (dw_or (dt_not (dt_tru (d_isi "int" (d_var 0) T.b_isinstance T.b_int))) (dw_or1 (dt_cmp op_notIn_seq (b_in true) (d_var 0) (d_tup (da_cons d_int (da_cons d_int da_nil))) (by rfl))))))
    (dss_one (ds_never))
    (dss_nil))
    (dss_one (ds_ret (d_callTy call_tuple_of c_tup T.b_tuple (da_cons (d_ofF (df_lc (own := [("pairing", 1)]) sc_crossing_pairings.nd (di_seq (d_call ((d_pairings_of T 4).mono (by first | decide | omega | (simp only [Nat.add_eq]; omega))) hr (da_cons (d_ofF (df_listRg1 rfl T.b_list T.b_range (d_var 0))) da_nil))) (blkOk_by (N := N_crossing_pairings) (by kernel_rfl)) (by decide) (fun _ _ _ _ _ => dg_nm sc_crossing_pairings.nd) (fun _ _ _ _ _ => dts_nil) (fun _ _ _ _ _ => d_tup (da_cons (d_var 1) (da_cons (d_call ((d_sign_of T).mono (by first | decide | omega | (simp only [Nat.add_eq]; omega))) hr (da_cons (d_var 1) da_nil)) da_nil))))) da_nil))))
theorem d__law_lots (T : Tops K mg) : DefD P w K mg base 1 "_law_lots" 2 F__law_lots :=
  let ⟨f, fd, F, hm, b⟩ := T.f__law_lots; def_d F hm b sc__law_lots (by decide) fun cdv A outer s H E hr =>
    dss_cons (ds_setF (i := 2) sc__law_lots.nd (df_lst (da_cons (d_tup da_nil) da_nil)))
    (dss_cons (ds_for (di_range1 T.b_range (da_cons (d_var 1) da_nil)) (dg_nm sc__law_lots.nd)
    (dss_cons (ds_setF (i := 4) sc__law_lots.nd (df_lst da_nil))
    (dss_cons (ds_for (di_seq (d_var 2)) (dg_nm sc__law_lots.nd)
    (dss_one (ds_extend 4 (d_ofF (df_lc (own := [("at", 6)]) sc__law_lots.nd (di_range2 T.b_range (da_cons (d_if (dt_cmp (op_neD hr.units) b_ne (d_var 5) (d_tup da_nil) (nomark _)) (d_op op_addG b_add (d_ixN 5 (d_neg d_int)) d_int) d_int) (da_cons (d_var 0) da_nil))) (blkOk_by (N := N__law_lots) (by kernel_rfl)) (by decide) (fun _ _ _ _ _ => dg_nm sc__law_lots.nd) (fun _ _ _ _ _ => dts_nil) (fun _ _ _ _ _ => d_op op_addG b_add (d_var 5) (d_tup (da_cons (d_var 6) da_nil))))))))
    (dss_one (ds_set (i := 2) sc__law_lots.nd (d_var 4))))))
    (dss_one (ds_ret (d_var 2))))
theorem d__law_plain (T : Tops K mg) : DefD P w K mg base 1 "_law_plain" 1 F__law_plain :=
  let ⟨f, fd, F, hm, b⟩ := T.f__law_plain; def_d F hm b sc__law_plain (by decide) fun cdv A outer s H E hr =>
    dss_one (ds_ret (d_callTy call_tuple_of c_tup T.b_tuple (da_cons (d_ofF (df_callB (cr_srt hr.units) c_srt T.b_sorted (da_cons (d_ofF (df_lc (own := [("pair", 1)]) sc__law_plain.nd (di_seq (d_var 0)) (blkOk_by (N := N__law_plain) (by kernel_rfl)) (by decide) (fun _ _ _ _ _ => dg_nm sc__law_plain.nd) (fun _ _ _ _ _ => dts_nil) (fun _ _ _ _ _ => d_callTy call_tuple_of c_tup T.b_tuple (da_cons (d_ofF (df_callB (cr_srtT hr.units) c_srtT T.b_sorted (da_cons (d_var 1) da_nil))) da_nil)))) da_nil))) da_nil)))
theorem d_det_of (T : Tops K mg) : ∀ n : Nat, DefD P w K mg base (1 + n) "det_of" 1 (F_det_of n)
  | 0 => let ⟨f, fd, F, hm, b⟩ := T.f_det_of; ⟨⟨f, fd, _, never_fn F sc_det_of, hm, F.kp, b⟩, fun _ _ h => nomatch h⟩
  | n + 1 => let ⟨f, fd, F, hm, b⟩ := T.f_det_of; have R : DefD P w K mg base (1 + n) "det_of" 1 (F_det_of n) := d_det_of T n; def_d F hm b sc_det_of (by decide) fun cdv A outer s H E hr =>
    dss_cons (ds_if (dt_cmp (op_eqD hr.units) b_eq (d_lenN 0 T.b_len) d_int (nomark _))
    (dss_one (ds_ret d_int))
    (dss_nil))
    (dss_cons (ds_parN [1, 2] (dm_consD d_int (dm_consD d_int dm_nil)) (dn_cons (i := 1) sc_det_of.nd (dn_cons (i := 2) sc_det_of.nd (dn_nil))))
    (dss_cons (ds_for (di_enum T.b_enumerate (da_cons (d_ixN 0 d_int) da_nil)) (dg_tp (dgs_cons (dg_nm sc_det_of.nd) (dgs_cons (dg_nm sc_det_of.nd) (dgs_nil))))
    (dss_cons (ds_if (dt_cmp (op_neD hr.units) b_ne (d_var 4) d_int (nomark _))
    (dss_one (ds_set (i := 1) sc_det_of.nd (d_op op_addG b_add (d_var 1) (d_op op_mulG b_mul (d_op op_mulG b_mul (d_var 2) (d_var 4)) (d_call R hr (da_cons (d_ofF (df_lc (own := [("row", 5)]) sc_det_of.nd (di_seq (d_sl (d_var 0) (do_some d_int) do_none)) (blkOk_by (N := N_det_of) (by kernel_rfl)) (by decide) (fun _ _ _ _ _ => dg_nm sc_det_of.nd) (fun _ _ _ _ _ => dts_nil) (fun _ _ _ _ _ => d_op op_addG b_add (d_sl (d_var 5) do_none (do_some (d_var 3))) (d_sl (d_var 5) (do_some (d_op op_addG b_add (d_var 3) d_int)) do_none)))) da_nil))))))
    (dss_nil))
    (dss_one (ds_set (i := 2) sc_det_of.nd (d_neg (d_var 2))))))
    (dss_one (ds_ret (d_var 1)))))
theorem d_determinant (T : Tops K mg) : DefD P w K mg base 8 "determinant" 1 F_determinant :=
  let ⟨f, fd, F, hm, b⟩ := T.f_determinant; def_d F hm b sc_determinant (by decide) fun cdv A outer s H E hr =>
    dss_cons (ds_expr (d_call ((d_check_square T).mono (by first | decide | omega | (simp only [Nat.add_eq]; omega))) hr (da_cons (d_var 0) da_nil)))
    (dss_one (ds_ret (d_call ((d_det_of T 6).mono (by first | decide | omega | (simp only [Nat.add_eq]; omega))) hr (da_cons (d_var 0) da_nil))))
theorem d__law_part (T : Tops K mg) : DefD P w K mg base 1 "_law_part" 3 F__law_part :=
  let ⟨f, fd, F, hm, b⟩ := T.f__law_part; def_d F hm b sc__law_part (by decide) fun cdv A outer s H E hr =>
    dss_one (ds_ret (d_callTy call_tuple_of c_tup T.b_tuple (da_cons (d_ofF (df_lc (own := [("a", 3)]) sc__law_part.nd (di_seq (d_var 1)) (blkOk_by (N := N__law_part) (by kernel_rfl)) (by decide) (fun _ _ _ _ _ => dg_nm sc__law_part.nd) (fun _ _ _ _ _ => dts_nil) (fun _ _ _ _ _ => d_callTy call_tuple_of c_tup T.b_tuple (da_cons (d_ofF (df_lc (own := [("b", 4)]) sc__law_part.nd (di_seq (d_var 2)) (blkOk_by (N := N__law_part) (by kernel_rfl)) (by decide) (fun _ _ _ _ _ => dg_nm sc__law_part.nd) (fun _ _ _ _ _ => dts_nil) (fun _ _ _ _ _ => d_ix (d_ixN 0 (d_var 3)) (d_var 4)))) da_nil)))) da_nil)))
theorem d__law_orders (T : Tops K mg) : DefD P w K mg base 1 "_law_orders" 1 F__law_orders :=
  let ⟨f, fd, F, hm, b⟩ := T.f__law_orders; def_d F hm b sc__law_orders (by decide) fun cdv A outer s H E hr =>
    dss_cons (ds_setF (i := 1) sc__law_orders.nd (df_lst (da_cons (d_tup (da_cons (d_tup da_nil) (da_cons d_int da_nil))) da_nil)))
    (dss_cons (ds_for (di_range1 T.b_range (da_cons (d_var 0) da_nil)) (dg_nm sc__law_orders.nd)
    (dss_cons (ds_setF (i := 3) sc__law_orders.nd (df_lst da_nil))
    (dss_cons (ds_for (di_seq (d_var 1)) (dg_tp (dgs_cons (dg_nm sc__law_orders.nd) (dgs_cons (dg_nm sc__law_orders.nd) (dgs_nil))))
    (dss_one (ds_for (di_range1 T.b_range (da_cons (d_var 0) da_nil)) (dg_nm sc__law_orders.nd)
    (dss_one (ds_if (dt_cmp op_notIn_seq (b_in true) (d_var 6) (d_var 4) (by rfl))
    (dss_cons (ds_set (i := 7) sc__law_orders.nd (d_callB call_len_seq c_len T.b_len (da_cons (d_ofF (df_lc (own := [("one", 8)]) sc__law_orders.nd (di_seq (d_var 4)) (blkOk_by (N := N__law_orders) (by kernel_rfl)) (by decide) (fun _ _ _ _ _ => dg_nm sc__law_orders.nd) (fun _ _ _ _ _ => dts_one (dt_cmp op_gt b_cmp (d_var 8) (d_var 6) (nomark _))) (fun _ _ _ _ _ => d_int))) da_nil)))
    (dss_one (ds_append 3 (d_tup (da_cons (d_op op_addG b_add (d_var 4) (d_tup (da_cons (d_var 6) da_nil))) (da_cons (d_if (dt_cmp (op_eqD hr.units) b_eq (d_op op_mod b_mod (d_callTy call_int1 c_int T.b_int (da_cons (d_var 7) da_nil)) d_int) d_int (nomark _)) (d_var 5) (d_op op_sub b_sub d_int (d_var 5))) da_nil))))))
    (dss_nil))))))
    (dss_one (ds_set (i := 1) sc__law_orders.nd (d_var 3))))))
    (dss_one (ds_ret (d_var 1))))
theorem d__law_determinant (T : Tops K mg) : DefD P w K mg base 2 "_law_determinant" 1 F__law_determinant :=
  let ⟨f, fd, F, hm, b⟩ := T.f__law_determinant; def_d F hm b sc__law_determinant (by decide) fun cdv A outer s H E hr =>
    dss_cons (ds_set (i := 1) sc__law_determinant.nd d_int)
    (dss_cons (ds_for (di_seq (d_call ((d__law_orders T).mono (by first | decide | omega | (simp only [Nat.add_eq]; omega))) hr (da_cons (d_lenN 0 T.b_len) da_nil))) (dg_tp (dgs_cons (dg_nm sc__law_determinant.nd) (dgs_cons (dg_nm sc__law_determinant.nd) (dgs_nil))))
    (dss_cons (ds_set (i := 4) sc__law_determinant.nd (d_var 3))
    (dss_cons (ds_for (di_zip T.b_zip (da_cons (d_var 0) (da_cons (d_var 2) da_nil))) (dg_tp (dgs_cons (dg_nm sc__law_determinant.nd) (dgs_cons (dg_nm sc__law_determinant.nd) (dgs_nil))))
    (dss_one (ds_set (i := 4) sc__law_determinant.nd (d_op op_mulG b_mul (d_var 4) (d_ixN 5 (d_var 6))))))
    (dss_one (ds_set (i := 1) sc__law_determinant.nd (d_op op_addG b_add (d_var 1) (d_var 4)))))))
    (dss_one (ds_ret (d_var 1))))
theorem d_check_both (T : Tops K mg) : DefD P w K mg base 7 "check_both" 2 F_check_both :=
  let ⟨f, fd, F, hm, b⟩ := T.f_check_both; def_d F hm b sc_check_both (by decide) fun cdv A outer s H E hr =>
    dss_cons (ds_expr (d_call ((d_check_rows T).mono (by first | decide | omega | (simp only [Nat.add_eq]; omega))) hr (da_cons (d_var 0) da_nil)))
    (dss_one (ds_expr (d_call ((d_check_rows T).mono (by first | decide | omega | (simp only [Nat.add_eq]; omega))) hr (da_cons (d_var 1) da_nil))))
theorem d_check_room (T : Tops K mg) : DefD P w K mg base 1 "check_room" 2 F_check_room :=
  let ⟨f, fd, F, hm, b⟩ := T.f_check_room; def_d F hm b sc_check_room (by decide) fun cdv A outer s H E hr =>
    dss_one (ds_if (dt_cmp op_gt b_cmp (d_callB (call_max2 rfl) c_max T.b_max (da_cons (d_var 0) (da_cons (d_var 1) da_nil))) (d_globI2 (by rfl) T.c_MOST_SIZE) (nomark _))
    (dss_one (ds_never))
    (dss_nil))
theorem d_blocks (T : Tops K mg) : DefD P w K mg base 8 "blocks" 2 F_blocks :=
  let ⟨f, fd, F, hm, b⟩ := T.f_blocks; def_d F hm b sc_blocks (by decide) fun cdv A outer s H E hr =>
    dss_cons (ds_expr (d_call ((d_check_both T).mono (by first | decide | omega | (simp only [Nat.add_eq]; omega))) hr (da_cons (d_var 0) (da_cons (d_var 1) da_nil))))
    (dss_cons (ds_expr (d_call ((d_check_room T).mono (by first | decide | omega | (simp only [Nat.add_eq]; omega))) hr (da_cons (d_op op_addG b_add (d_lenN 0 T.b_len) (d_lenN 1 T.b_len)) (da_cons (d_op op_addG b_add (d_callB call_len_seq c_len T.b_len (da_cons (d_ixN 0 d_int) da_nil)) (d_callB call_len_seq c_len T.b_len (da_cons (d_ixN 1 d_int) da_nil))) da_nil))))
    (dss_cons (ds_parN [2, 3] (dm_consD (d_callB call_len_seq c_len T.b_len (da_cons (d_ixN 0 d_int) da_nil)) (dm_consD (d_callB call_len_seq c_len T.b_len (da_cons (d_ixN 1 d_int) da_nil)) dm_nil)) (dn_cons (i := 2) sc_blocks.nd (dn_cons (i := 3) sc_blocks.nd (dn_nil))))
    (dss_one (ds_ret (d_callTy call_tuple_of c_tup T.b_tuple (da_cons (d_op op_addG b_add (d_ofF (df_lc (own := [("row", 4)]) sc_blocks.nd (di_seq (d_var 0)) (blkOk_by (N := N_blocks) (by kernel_rfl)) (by decide) (fun _ _ _ _ _ => dg_nm sc_blocks.nd) (fun _ _ _ _ _ => dts_nil) (fun _ _ _ _ _ => d_op op_addG b_add (d_var 4) (d_op op_mulG b_mul (d_tup (da_cons d_int da_nil)) (d_var 3))))) (d_ofF (df_lc (own := [("row", 4)]) sc_blocks.nd (di_seq (d_var 1)) (blkOk_by (N := N_blocks) (by kernel_rfl)) (by decide) (fun _ _ _ _ _ => dg_nm sc_blocks.nd) (fun _ _ _ _ _ => dts_nil) (fun _ _ _ _ _ => d_op op_addG b_add (d_op op_mulG b_mul (d_tup (da_cons d_int da_nil)) (d_var 2)) (d_var 4))))) da_nil))))))
end
end K17

namespace K17
open PySem PySem.Spec PyProof.Rows L2 DL
local macro_rules | `(tactic| walk_at "dl") => `(tactic| simp (disch := first | assumption | omega | (simp only [List.length_map, List.length_cons, List.length_nil, List.length_append, List.length_range]; omega)) only [vk_rg1, vk_rg11, vk_rg2, vk_rg21, vk_rg3, vk_rgok, vk_min, vk_max, vk_srt, vk_rev1, vk_rev2, k1_some, kP_some, kO_some, qUn_r, qIf_t, qIf_f, vq_var, vq_var_d, vq_var_o, vq_c, vq_bin, vq_bin1, vq_bin2, vq_test, vq_test1, vq_tru, vq_not, vq_not1, vq_ofb, vq_ofb1, vq_note, vq_note1, vq_and, vq_and_t, vq_and_f, vq_or, vq_or_t, vq_or_f, vq_ande, vq_ande_t, vq_ande_f, vq_ore, vq_ore_t, vq_ore_f, vq_if, vq_un, vq_call, vq_callF, vq_items, vq_nil, vq_cons, vq_cons1, vq_cons2, vq_tup, vq_tup1, vq_lst, vq_lst1, vq_l, vq_l1, vq_ixn, vq_ixn_d, vq_ixn_o, vq_ixn_l, vq_ix1, vq_ix2, vq_ix3, vq_onone, vq_osome, vq_osome1, vq_sl, vq_sl1, vq_sl2, vq_sl3, vq_sln, vq_sln0, vq_sln1, vq_sln2, vq_sln3, vq_scr, vq_scr0, vq_scr1, vq_scr2, vq_lenn, vq_lenn_s, vq_lenn_n, vq_lenn2, vq_r1, vq_r11, vq_r2, vq_r21, vq_enum, vq_enum1, vq_enum2, vq_zip, vq_zip1, vq_zip2, vq_zip3, vq_lc, vq_lc1, vq_lc2, vq_yes, vq_snil, vq_seq, vq_seq_nx, vq_seq_rt, vq_seq_rtF, vq_seq_bk, vq_seq_ct, vq_set, vq_set1, vq_setF, vq_setF1, vq_nx, vq_setT, vq_setT1, vq_sif, vq_ret, vq_ret1, vq_retF, vq_retF1, vq_retN, vq_bk, vq_ct, vq_expr, vq_expr1, vq_app, vq_app1, vq_app2, vq_app3, vq_ext, vq_ext1, vq_ext2, vq_ext3, vq_si, vq_si1, vq_si2, vq_si3, vq_si4, vq_si5, vq_for, vq_for1, vq_forl_nil, vq_forl, vq_f1, vq_f_nx, vq_f_ct, vq_f_bk, vq_f_rt, vq_f_rtF, vq_mnil, vq_md, vq_mf, vq_md1, vq_mf1, vq_m2, vq_par, vq_par1, vq_park, vq_park1, vq_asg_nil, vq_asg, vq_asg1, vq_ak_nm, vq_ak, vq_ak1, vq_ak2, vq_ak3, vq_ak4, vq_bind_nm, vq_bind_tp, vq_binds_nil, vq_binds, vq_binds1, vq_run, vq_run_rt, vq_run_rtF, vq_run_nx, vq_kR, vq_kRF, vq_cu, vq_cu1, vq_cuf, vq_cuf1, vq_kL, vq_callL, vq_cl0, vq_cl1, vq_cl2, vq_cle, vq_rv, vq_clf, vq_rvf1, vq_cs, vq_cs1, vq_ch, vq_ch1, vq_ch2, vq_ch3_t, vq_ch3_f, vq_ch4, vq_cat, vq_cat1, vq_cat2, vq_rep, vq_rep1, vq_rep2, vq_ss, vq_ss1, vq_ss2, vq_ss3, vq_okw_nil, vq_okw, vq_okS_d, vq_okS_u, vq_lcl_nil, vq_lcl, vq_c1, vq_c2_t, vq_c2_f, vq_c3, vq_c4, vq_sw, vq_w, vq_w_f, vq_w_t, vq_w_nx, vq_w_ct, vq_w_bk, vq_w_rt, vq_w_rtF, w_len_l, w_len_t, w_abs, w_int, w_intb, w_tup_l, w_tup_t, w_lst_l, w_lst_t, w_neg, w_sub, w_add, w_add_t, w_add_l, w_mul, w_mul_l, w_mul_r, w_mul_ls, w_atI_5, w_atI_6, w_ixN_5, w_mod, w_fdiv, w_pow, w_cmp, w_isn, w_notn, w_isb, w_notb, w_ix_l, w_ix_t, w_sl_l, w_sl_t, w_it_l, w_it_t, w_tru_n, w_tru_b, w_tru_i, w_tru_l, w_tru_t, w_isnone_n, w_isnone_b, w_isnone_i, w_isnone_l, w_isnone_t, w_all_nil, w_cont_own, w_cont_lent, w_cont_dat, w_cont_un, w_cont_scr, w_cont_nil, w_cut, w_cont_succ, w_put_own, w_put_lent, w_put_succ, w_sets_nil, w_sets_nil2, w_sets_cons, w_wipe_nil, w_wipe_cons, w_rest_nil, w_rest_cons, w_lent_lent, w_lent_dat, w_lent_own, w_lent_un, w_lent_scr, w_lent_nil, w_dats_nil, w_dats_cons, w_rvd, w_rvf, w_repl0, w_repl, w_rok, w_ite_le, w_ite_lt, w_rlen, w_dt, w_df, w_neS, if_true, if_false, Option.isSome_some, Option.isSome_none, forall_const, Bool.false_eq_true, false_implies, implies_true, reduceIte, decide_true, decide_false, Bool.not_true, Bool.not_false, Bool.true_and, Bool.and_true, Bool.false_and, Bool.and_false, Bool.or_true, Bool.or_false, Bool.true_or, Bool.false_or, and_self, true_and, and_true, eq_self, reduceCtorEq, gEq_int, gNe_int, gEq_line, gNe_line, gEq_rows, gNe_rows, gEq_bool, gNe_bool, atI_0, atI_1, atI_2, atI_3, atI_4, ixN_0, ixN_1, ixN_2, ixN_3, ixN_4, List.length_cons, List.length_nil, List.length_map, List.length_range, List.length_set, Int.toNat_natCast, List.map_cons, List.map_nil, List.getElem?_cons_zero, List.getElem?_cons_succ, List.set_cons_zero, List.set_cons_succ, List.getD_cons_zero, List.getD_cons_succ, List.append_nil, List.flatten_cons, List.flatten_nil, List.nil_append, List.cons_append, Nat.reduceAdd, Nat.reduceSub, Nat.reduceMul, Nat.reduceEqDiff, Nat.reduceLeDiff, Int.reduceNeg, Int.reduceAdd, Int.reduceSub, Int.reduceMul, Int.reduceLT, Int.reduceLE, Int.reduceEq, Int.reduceGT, Int.reduceGE, Int.reducePow, Int.reduceToNat, isi_int_none, isi_int_bool, isi_int_int, isi_int_str, isi_int_list, isi_int_tuple, isi_bool_none, isi_bool_bool, isi_bool_int, isi_bool_str, isi_bool_list, isi_bool_tuple, isi_tuple_none, isi_tuple_bool, isi_tuple_int, isi_tuple_str, isi_tuple_list, isi_tuple_tuple, isi_list_none, isi_list_bool, isi_list_int, isi_list_str, isi_list_list, isi_list_tuple, isi_str_none, isi_str_bool, isi_str_int, isi_str_str, isi_str_list, isi_str_tuple, *])
/-- a hand: its cells, the place, what is left of a cell, the mix, the count -/
def Hand (h : List PyData) : Prop := ∃ (cs : List Int) (i rest mix cnt : Int), h = [.list (cs.map PyData.int), .int i, .int rest, .int mix, .int cnt] ∧ (∀ c ∈ cs, 0 ≤ c) ∧ 0 ≤ i ∧ 0 ≤ rest
theorem f_draw {hd : List PyData} (H : Hand hd) {m : Int} (h0 : 0 < m) (h1 : m < 2 ^ 63) : ∃ r hd', F__law_draw [.lent hd, .dat (.int m)] = some (.d (.int r), some hd') ∧ 0 ≤ r ∧ r < m ∧ Hand hd' := by
  obtain ⟨cs, i, rest, mix, cnt, rfl, hc, hi, hr⟩ := H
  have q13 : ∀ x : Int, gMul (.int (x % 2147483647)) (.int (x % 2147483647 / 1009 + 69621)) = some (.int (x % 2147483647 * (x % 2147483647 / 1009 + 69621))) := fun x => w_mul_l (by omega) (by omega)
  have q14 : ∀ x : Int, gMul (.int (x % 2147483647)) (.int (x % 2147483647 / 2003 + 40692)) = some (.int (x % 2147483647 * (x % 2147483647 / 2003 + 40692))) := fun x => w_mul_l (by omega) (by omega)
  have u1 := F__law_draw_ap
  have u2 := g__law_draw_ap
  by_cases a1 : rest = 0
  · subst a1
    by_cases a2 : i < cs.length
    · have e1 : (cs.map PyData.int)[i.toNat]? = some (.int (cs[i.toNat]'(by omega))) := by
        rw [List.getElem?_map, List.getElem?_eq_getElem (by omega)]
        rfl
      have e2 := atI_of hi e1
      have hcc := hc (cs[i.toNat]'(by omega)) (List.getElem_mem _)
      clear e1
      generalize cs[i.toNat]'(by omega) = c at e2 hcc
      by_cases a3 : 1000000000000000000 ≤ c
      · have a4 : 0 < c := by omega
        walk_at "dl"
        exact ⟨_, _, rfl, Int.emod_nonneg _ (by omega), Int.emod_lt_of_pos _ h0, cs, _, _, _, _, rfl, hc, by omega, Int.ediv_nonneg hcc (by omega)⟩
      · walk_at "dl"
        exact ⟨_, _, rfl, Int.emod_nonneg _ (by omega), Int.emod_lt_of_pos _ h0, cs, _, _, _, _, rfl, hc, by omega, by omega⟩
    · walk_at "dl"
      exact ⟨_, _, rfl, Int.emod_nonneg _ (by omega), Int.emod_lt_of_pos _ h0, cs, _, _, _, _, rfl, hc, by omega, by omega⟩
  · walk_at "dl"
    exact ⟨_, _, rfl, Int.emod_nonneg _ (by omega), Int.emod_lt_of_pos _ h0, cs, _, _, _, _, rfl, hc, by omega, Int.ediv_nonneg hr (by omega)⟩
theorem f_any {hd : List PyData} (H : Hand hd) {xs : List PyData} (h0 : 0 < xs.length) (h1 : xs.length < 1000000) : ∃ x hd', F__law_any [.lent hd, .dat (.list xs)] = some (.d x, some hd') ∧ x ∈ xs ∧ Hand hd' := by
  obtain ⟨r, hd', e, r0, r1, H'⟩ := f_draw H (m := (xs.length : Int)) (by omega) (by omega)
  have u1 := F__law_any_ap
  have u2 := g__law_any_ap
  have e2 : L2.atI xs r = some (xs[r.toNat]'(by omega)) := atI_of r0 (List.getElem?_eq_getElem (by omega))
  refine ⟨xs[r.toNat]'(by omega), hd', ?_, List.getElem_mem _, H'⟩
  walk_at "dl"
theorem f_hand (ns : List Int) (h : ns.length ≤ 63) : ∃ hd, F__law_hand [.scr ns] = some (.f hd, none) ∧ Hand hd := by
  have u1 := F__law_hand_ap
  have u2 := g__law_hand_ap
  have u3 := c__law_hand_0_ap
  have h2 : cutZ ns none (some 63) = ns := (cutZ_to ns 63).trans (List.take_of_length_le h)
  have h3 := lcL_nm (v := 2) (te := c__law_hand_0) PyData.int (fun x => .int (if x < 0 then -x else x)) [.scr ns, .un, .un] ns rfl (fun x _ => by
    walk_at "dl")
  have h4 : (ns.map fun x => PyData.int (if x < 0 then -x else x)) = (ns.map fun x => if x < 0 then -x else x).map PyData.int := by rw [List.map_map]; rfl
  refine ⟨[.list ((ns.map fun x => if x < 0 then -x else x).map PyData.int), .int 0, .int 0, .int (1 + ns.length), .int 0], ?_, _, _, _, _, _, rfl, ?_, by omega, by omega⟩
  · rw [← h4]
    clear h4
    walk_at "dl"
  · intro c hc
    obtain ⟨x, _, rfl⟩ := List.mem_map.mp hc
    split <;> omega
/-! ### checks -/
theorem f_is_integer (i : Int) : F_is_integer [.dat (.int i)] = some (.d (.bool true), none) := by
  have u1 := F_is_integer_ap
  have u2 := g_is_integer_ap
  walk_at "dl"
theorem f_is_within {x a b : Int} (h1 : a ≤ x) (h2 : x ≤ b) : F_is_within [.dat (.int x), .dat (.int a), .dat (.int b)] = some (.d (.bool true), none) := by
  have u1 := F_is_within_ap
  have u2 := g_is_within_ap
  have h := f_is_integer x
  walk_at "dl"
theorem f_is_tuple {xs : List PyData} {a b : Int} (h1 : a ≤ xs.length) (h2 : xs.length ≤ b) : F_is_tuple [.dat (.tuple xs), .dat (.int a), .dat (.int b)] = some (.d (.bool true), none) := by
  have u1 := F_is_tuple_ap
  have u2 := g_is_tuple_ap
  walk_at "dl"
theorem f_is_entry {x : Int} (h1 : -30 ≤ x) (h2 : x ≤ 30) : F_is_entry [.dat (.int x)] = some (.d (.bool true), none) := by
  have u1 := F_is_entry_ap
  have u2 := g_is_entry_ap
  have h := f_is_within h1 h2
  walk_at "dl"
def OkL (w : Nat) (f : Nat → Int) : Prop := 1 ≤ w ∧ w ≤ 5 ∧ ∀ j, j < w → -30 ≤ f j ∧ f j ≤ 30
theorem f_is_line {w : Nat} {f : Nat → Int} (h : OkL w f) : F_is_line [.dat (rowD w f), .dat (.int (w : Nat))] = some (.d (.bool true), none) := by
  have u1 := F_is_line_ap
  have u2 := g_is_line_ap
  have u3 := c_is_line_0_ap
  obtain ⟨l1, l2, l3⟩ := h
  have h1 := f_is_tuple (xs := (List.range w).map fun j => PyData.int (f j)) (a := (w : Nat)) (b := (w : Nat)) (by rw [len_range]; omega) (by rw [len_range]; omega)
  have h2 := lcL_nm (v := 2) (te := c_is_line_0) (fun j => PyData.int (f j)) (fun _ => .bool true) [.dat (rowD w f), .dat (.int (w : Nat)), .un] (List.range w) rfl (fun j hj => by
    have hj := l3 j (List.mem_range.mp hj)
    have h := f_is_entry hj.1 hj.2
    walk_at "dl")
  have h4 := gAll_true w
  have h5 : ((List.range w).map fun j => PyData.int (f j)).length ≤ 1000000 := by rw [len_range]; omega
  walk_at "dl"
def Ok (h w : Nat) (f : Nat → Nat → Int) : Prop := (1 ≤ h ∧ h ≤ 5) ∧ (1 ≤ w ∧ w ≤ 5) ∧ ∀ i j, i < h → j < w → -30 ≤ f i j ∧ f i j ≤ 30
theorem Ok.row {h w : Nat} {f : Nat → Nat → Int} (o : Ok h w f) {i : Nat} (hi : i < h) : OkL w (f i) := ⟨o.2.1.1, o.2.1.2, fun j hj => o.2.2 i j hi hj⟩
theorem f_are_rows {h w : Nat} {f : Nat → Nat → Int} (o : Ok h w f) : F_are_rows [.dat (matD h w f)] = some (.d (.bool true), none) := by
  have u1 := F_are_rows_ap
  have u2 := g_are_rows_ap
  have u3 := c_are_rows_0_ap
  have a0 := atI_range0 (fun i => rowD w (f i)) (n := h) (by have := o.1.1; omega)
  have l1 : ((List.range h).map fun i => rowD w (f i)).length = h := len_range _
  have l2 : ((List.range w).map fun j => PyData.int (f 0 j)).length = w := len_range _
  have h1 := f_is_tuple (xs := (List.range h).map fun i => rowD w (f i)) (a := 1) (b := 5) (by rw [l1]; have := o.1.1; omega) (by rw [l1]; have := o.1.2; omega)
  have h2 := f_is_tuple (xs := (List.range w).map fun j => PyData.int (f 0 j)) (a := 1) (b := 5) (by rw [l2]; have := o.2.1.1; omega) (by rw [l2]; have := o.2.1.2; omega)
  have h3 := lcL_nm (v := 1) (te := c_are_rows_0) (fun i => rowD w (f i)) (fun _ => .bool true) [.dat (matD h w f), .un] (List.range h) rfl (fun i hi => by
    have h := f_is_line (o.row (List.mem_range.mp hi))
    walk_at "dl")
  have h4 := gAll_true h
  have l3 : ((List.range h).map fun i => rowD w (f i)).length ≤ 1000000 := by rw [l1]; have := o.1.2; omega
  walk_at "dl"
theorem f_check_rows {h w : Nat} {f : Nat → Nat → Int} (o : Ok h w f) : F_check_rows [.dat (matD h w f)] = some (.d .none, none) := by
  have u1 := F_check_rows_ap
  have u2 := g_check_rows_ap
  have h1 := f_are_rows o
  walk_at "dl"
theorem f_columns_of {h w : Nat} {f : Nat → Nat → Int} (h0 : 0 < h) (h1 : h ≤ 100) (w1 : w ≤ 100) : F_columns_of [.dat (matD h w f)] = some (.d (matD w h fun i j => f j i), none) := by
  have u1 := F_columns_of_ap
  have u2 := g_columns_of_ap
  have u3 := c_columns_of_0_ap
  have u4 := c_columns_of_1_ap
  have a0 := atI_range0 (fun i => rowD w (f i)) h0
  have l2 : ((List.range w).map fun j => PyData.int (f 0 j)).length = w := len_range _
  have r0 := w_range0 (n := w)
  have lr : ∀ {α : Type} (g : Nat → α) (n : Nat), n ≤ 100 → ((List.range n).map g).length ≤ 1000000 := fun g n hn => by rw [len_range]; omega
  have lr1 := lr (fun i => rowD w (f i)) h h1
  have lr2 := lr (fun (i : Nat) => PyData.int i) w w1
  have c0 : ∀ j, j < w → lcL (.nm 2) [2] bYes c_columns_of_0 ((List.range h).map fun i => rowD w (f i)) [.dat (matD h w f), .dat (.int (j : Nat)), .un] = some ((List.range h).map fun i => PyData.int (f i j), [.dat (matD h w f), .dat (.int (j : Nat)), .un]) := fun j hj =>
    lcL_nm (v := 2) (fun i => rowD w (f i)) (fun i => PyData.int (f i j)) _ (List.range h) rfl (fun i _ => by
      have a1 := atI_range (fun j => PyData.int (f i j)) hj
      walk_at "dl")
  have c1 := lcL_nm (v := 1) (te := c_columns_of_1) (fun (j : Nat) => PyData.int (j : Nat)) (fun j => rowD h fun i => f i j) [.dat (matD h w f), .un, .un] (List.range w) rfl (fun j hj => by
    have e := c0 j (List.mem_range.mp hj)
    walk_at "dl")
  clear c0 lr
  walk_at "dl"
theorem f_turned_of {h w : Nat} {f : Nat → Nat → Int} (h0 : 0 < h) (h1 : h ≤ 100) (w1 : w ≤ 100) : F_turned_of [.dat (matD h w f)] = some (.d (matD w h fun i j => f j i), none) := by
  have u1 := F_turned_of_ap
  have u2 := g_turned_of_ap
  have e := f_columns_of (f := f) h0 h1 w1
  walk_at "dl"
def Bd (n : Nat) (f : Nat → Int) : Prop := ∀ k, k < n → -9223372036854775808 ≤ f k ∧ f k ≤ 9223372036854775808
def mulF (m : Nat) (f g : Nat → Nat → Int) (i j : Nat) : Int := sumTo m fun k => f i k * g k j
theorem f_check_both {h w h2 w2 : Nat} {f g : Nat → Nat → Int} (o : Ok h w f) (p : Ok h2 w2 g) : F_check_both [.dat (matD h w f), .dat (matD h2 w2 g)] = some (.d .none, none) := by
  have u1 := F_check_both_ap
  have u2 := g_check_both_ap
  have e1 := f_check_rows o
  have e2 := f_check_rows p
  walk_at "dl"
theorem Ok.bd {h w : Nat} {f : Nat → Nat → Int} (o : Ok h w f) {i : Nat} (hi : i < h) : Bd w (f i) := fun k hk => by
  have := o.2.2 i k hi hk
  omega
theorem f_check_square {n : Nat} {f : Nat → Nat → Int} (o : Ok n n f) : F_check_square [.dat (matD n n f)] = some (.d .none, none) := by
  have u1 := F_check_square_ap
  have u2 := g_check_square_ap
  have e1 := f_check_rows o
  have a0 := atI_range0 (fun i => rowD n (f i)) (n := n) (by have := o.1.1; omega)
  walk_at "dl"
def unF (i j : Nat) : Int := if decide ((i : Int) = (j : Int)) = true then 1 else 0
/-! ### rows drawn one by one -/
theorem range_of {β : Type} (b0 : β) (enc : β → PyData) (P : β → Prop) : ∀ (n : Nat) (ds : List PyData), ds.length = n → (∀ d ∈ ds, ∃ b, d = enc b ∧ P b) → ∃ g : Nat → β, ds = (List.range n).map (fun j => enc (g j)) ∧ ∀ j, j < n → P (g j)
  | 0, ds, hl, _ => ⟨fun _ => b0, by rw [List.eq_nil_of_length_eq_zero hl]; rfl, fun j hj => by omega⟩
  | n + 1, [], hl, _ => by cases hl
  | n + 1, d :: ds, hl, h => by
    obtain ⟨b, rfl, hb⟩ := h d List.mem_cons_self
    obtain ⟨g, e, hg⟩ := range_of b0 enc P n ds (by simpa using hl) fun d hd => h d (List.mem_cons_of_mem _ hd)
    refine ⟨fun j => match j with | 0 => b | j + 1 => g j, ?_, fun j hj => ?_⟩
    · rw [List.range_succ_eq_map, List.map_cons, List.map_map, e]
      rfl
    · cases j with
      | zero => exact hb
      | succ j => exact hg j (by omega)
theorem c_rows0 {hd : List PyData} (H : Hand hd) {m : Int} (m0 : 0 ≤ m) (m1 : m ≤ 1000) (s1 s2 s4 s5 s6 : Sl) : ∃ i hd', c__law_rows_0 [.lent hd, s1, s2, .dat (.int m), s4, s5, s6] = some (.int i, [.lent hd', s1, s2, .dat (.int m), s4, s5, s6]) ∧ (-m ≤ i ∧ i ≤ m) ∧ Hand hd' := by
  obtain ⟨r, hd', e, r0, r1, H'⟩ := f_draw H (m := 2 * m + 1) (by omega) (by omega)
  have u := c__law_rows_0_ap
  refine ⟨r - m, hd', ?_, by omega, H'⟩
  clear H H'
  walk_at "dl"
theorem b_rows0 {hd : List PyData} (H : Hand hd) {m : Int} (m0 : 0 ≤ m) (m1 : m ≤ 1000) (w : Nat) (w1 : w ≤ 100) (s1 s5 : Sl) (xs : List PyData) (hx : xs.length ≤ 1000) : ∃ f hd', b__law_rows_0 [.lent hd, s1, .dat (.int (w : Nat)), .dat (.int m), .own xs, s5, .un] = some (.nx [.lent hd', s1, .dat (.int (w : Nat)), .dat (.int m), .own (xs ++ [rowD w f]), s5, .un]) ∧ (∀ j, j < w → -m ≤ f j ∧ f j ≤ m) ∧ Hand hd' := by
  obtain ⟨ds, S', e, ⟨hd', rfl, H'⟩, h1, h2⟩ := lcL_inv (tg := .nm 6) (vs := [6]) (tt := bYes) (te := c__law_rows_0) (fun d : PyData => d) (fun S => ∃ hd, S = [.lent hd, s1, .dat (.int (w : Nat)), .dat (.int m), .own xs, s5, .un] ∧ Hand hd) (fun _ d => ∃ i : Int, d = .int i ∧ -m ≤ i ∧ i ≤ m) (rangeD 0 (w : Nat)) _ ⟨hd, rfl, H⟩ (by
    rintro x S _ ⟨hd, rfl, H⟩
    obtain ⟨i, hd', e, a, H'⟩ := c_rows0 H m0 m1 s1 (.dat (.int (w : Nat))) (.own xs) s5 (.dat x)
    exact ⟨_, _, .int i, _, (by rw [bindT]; rfl), rfl, e, ⟨hd', rfl, H'⟩, i, rfl, a.1, a.2⟩)
  obtain ⟨f, e3, hf⟩ := range_of (0 : Int) PyData.int (fun i => -m ≤ i ∧ i ≤ m) w ds (by rw [h1, w_rlen, Int.toNat_natCast]) fun d hd => by
    obtain ⟨_, _, q⟩ := h2 d hd
    exact q
  subst e3
  rw [List.map_id'] at e
  have u := b__law_rows_0_ap
  refine ⟨f, hd', ?_, hf, H'⟩
  clear H H' h1 h2 hf
  walk_at "dl"
theorem l_rows0 {m : Int} (m0 : 0 ≤ m) (m1 : m ≤ 1000) (w : Nat) (w1 : w ≤ 100) (s1 : Sl) : ∀ (is : List PyData) (hd xs : List PyData) (s5 : Sl), Hand hd → xs.length + is.length ≤ 1000 →
    ∃ ys hd' s5', forL (.nm 5) b__law_rows_0 is [.lent hd, s1, .dat (.int (w : Nat)), .dat (.int m), .own xs, s5, .un] = some (.nx [.lent hd', s1, .dat (.int (w : Nat)), .dat (.int m), .own (xs ++ ys), s5', .un]) ∧ ys.length = is.length ∧ (∀ y ∈ ys, ∃ f : Nat → Int, y = rowD w f ∧ ∀ j, j < w → -m ≤ f j ∧ f j ≤ m) ∧ Hand hd'
  | [], hd, xs, s5, H, _ => ⟨[], hd, s5, by rw [List.append_nil]; rfl, rfl, (fun y h => absurd h List.not_mem_nil), H⟩
  | i :: is, hd, xs, s5, H, hx => by
    simp only [List.length_cons] at hx
    obtain ⟨f, hd1, e1, hf, H1⟩ := b_rows0 H m0 m1 w w1 s1 (.dat i) xs (by omega)
    obtain ⟨ys, hd2, s2, e2, hl, hy, H2⟩ := l_rows0 m0 m1 w w1 s1 is hd1 (xs ++ [rowD w f]) (.dat i) H1 (by rw [List.length_append, List.length_cons, List.length_nil]; omega)
    refine ⟨rowD w f :: ys, hd2, s2, ?_, by rw [List.length_cons, List.length_cons, hl], fun y h => ?_, H2⟩
    · rw [List.append_assoc, List.cons_append, List.nil_append] at e2
      clear H H1 H2 hf hy hl
      walk_at "dl"
    · rcases List.mem_cons.mp h with h | h
      · exact ⟨f, h, hf⟩
      · exact hy y h
theorem f_rows {hd : List PyData} (H : Hand hd) {m : Int} (m0 : 0 ≤ m) (m1 : m ≤ 1000) (h w : Nat) (h1 : h ≤ 100) (w1 : w ≤ 100) : ∃ f hd', F__law_rows [.lent hd, .dat (.int (h : Nat)), .dat (.int (w : Nat)), .dat (.int m)] = some (.d (matD h w f), some hd') ∧ (∀ i j, i < h → j < w → -m ≤ f i j ∧ f i j ≤ m) ∧ Hand hd' := by
  obtain ⟨ys, hd', s5, e, hl, hy, H'⟩ := l_rows0 m0 m1 w w1 (.dat (.int (h : Nat))) (rangeD 0 (h : Nat)) hd [] .un H (by rw [w_rlen, List.length_nil]; omega)
  obtain ⟨f, e3, hf⟩ := range_of (fun _ : Nat => (0 : Int)) (fun g => rowD w g) (fun g => ∀ j, j < w → -m ≤ g j ∧ g j ≤ m) h ys (by rw [hl, w_rlen, Int.toNat_natCast]) hy
  subst e3
  have u1 := F__law_rows_ap
  have u2 := g__law_rows_ap
  refine ⟨f, hd', ?_, fun i j hi hj => hf i hi j hj, H'⟩
  rw [List.nil_append] at e
  clear H H' hl hy hf
  walk_at "dl"

end K17

namespace K17
open PySem PySem.Spec PyProof.Rows L2 DL
local macro_rules | `(tactic| walk_at "dl") => `(tactic| simp (disch := first | assumption | omega | (simp only [List.length_map, List.length_cons, List.length_nil, List.length_append, List.length_range]; omega)) only [vk_rg1, vk_rg11, vk_rg2, vk_rg21, vk_rg3, vk_rgok, vk_min, vk_max, vk_srt, vk_rev1, vk_rev2, vk_mul1, k1_some, kP_some, kO_some, qUn_r, qIf_t, qIf_f, vq_var, vq_var_d, vq_var_o, vq_c, vq_bin, vq_bin1, vq_bin2, vq_test, vq_test1, vq_tru, vq_not, vq_not1, vq_ofb, vq_ofb1, vq_note, vq_note1, vq_and, vq_and_t, vq_and_f, vq_or, vq_or_t, vq_or_f, vq_ande, vq_ande_t, vq_ande_f, vq_ore, vq_ore_t, vq_ore_f, vq_if, vq_un, vq_call, vq_callF, vq_items, vq_nil, vq_cons, vq_cons1, vq_cons2, vq_tup, vq_tup1, vq_lst, vq_lst1, vq_l, vq_l1, vq_ixn, vq_ixn_d, vq_ixn_o, vq_ixn_l, vq_ix1, vq_ix2, vq_ix3, vq_onone, vq_osome, vq_osome1, vq_sl, vq_sl1, vq_sl2, vq_sl3, vq_sln, vq_sln0, vq_sln1, vq_sln2, vq_sln3, vq_scr, vq_scr0, vq_scr1, vq_scr2, vq_lenn, vq_lenn_s, vq_lenn_n, vq_lenn2, vq_r1, vq_r11, vq_r2, vq_r21, vq_enum, vq_enum1, vq_enum2, vq_zip, vq_zip1, vq_zip2, vq_zip3, vq_lc, vq_lc1, vq_lc2, vq_yes, vq_snil, vq_seq, vq_seq_nx, vq_seq_rt, vq_seq_rtF, vq_seq_bk, vq_seq_ct, vq_set, vq_set1, vq_setF, vq_setF1, vq_nx, vq_setT, vq_setT1, vq_sif, vq_ret, vq_ret1, vq_retF, vq_retF1, vq_retN, vq_bk, vq_ct, vq_expr, vq_expr1, vq_app, vq_app1, vq_app2, vq_app3, vq_ext, vq_ext1, vq_ext2, vq_ext3, vq_si, vq_si1, vq_si2, vq_si3, vq_si4, vq_si5, vq_for, vq_for1, vq_forl_nil, vq_forl, vq_f1, vq_f_nx, vq_f_ct, vq_f_bk, vq_f_rt, vq_f_rtF, vq_mnil, vq_md, vq_mf, vq_md1, vq_mf1, vq_m2, vq_par, vq_par1, vq_park, vq_park1, vq_asg_nil, vq_asg, vq_asg1, vq_ak_nm, vq_ak, vq_ak1, vq_ak2, vq_ak3, vq_ak4, vq_bind_nm, vq_bind_tp, vq_binds_nil, vq_binds, vq_binds1, vq_run, vq_run_rt, vq_run_rtF, vq_run_nx, vq_kR, vq_kRF, vq_cu, vq_cu1, vq_cuf, vq_cuf1, vq_kL, vq_callL, vq_cl0, vq_cl1, vq_cl2, vq_cle, vq_rv, vq_clf, vq_rvf1, vq_cs, vq_cs1, vq_ch, vq_ch1, vq_ch2, vq_ch3_t, vq_ch3_f, vq_ch4, vq_cat, vq_cat1, vq_cat2, vq_rep, vq_rep1, vq_rep2, vq_ss, vq_ss1, vq_ss2, vq_ss3, vq_okw_nil, vq_okw, vq_okS_d, vq_okS_u, vq_lcl_nil, vq_lcl, vq_c1, vq_c2_t, vq_c2_f, vq_c3, vq_c4, vq_sw, vq_w, vq_w_f, vq_w_t, vq_w_nx, vq_w_ct, vq_w_bk, vq_w_rt, vq_w_rtF, w_len_l, w_len_t, w_abs, w_int, w_intb, w_tup_l, w_tup_t, w_lst_l, w_lst_t, w_neg, w_sub, w_add, w_add_t, w_add_l, w_mul, w_mul_l, w_mul_r, w_mul_ls, w_atI_5, w_atI_6, w_ixN_5, w_mod, w_fdiv, w_pow, w_cmp, w_isn, w_notn, w_isb, w_notb, w_ix_l, w_ix_t, w_sl_l, w_sl_t, w_it_l, w_it_t, w_tru_n, w_tru_b, w_tru_i, w_tru_l, w_tru_t, w_isnone_n, w_isnone_b, w_isnone_i, w_isnone_l, w_isnone_t, w_all_nil, w_cont_own, w_cont_lent, w_cont_dat, w_cont_un, w_cont_scr, w_cont_nil, w_cut, w_cont_succ, w_put_own, w_put_lent, w_put_succ, w_sets_nil, w_sets_nil2, w_sets_cons, w_wipe_nil, w_wipe_cons, w_rest_nil, w_rest_cons, w_lent_lent, w_lent_dat, w_lent_own, w_lent_un, w_lent_scr, w_lent_nil, w_dats_nil, w_dats_cons, w_rvd, w_rvf, w_repl0, w_repl, w_rok, w_ite_le, w_ite_lt, w_rlen, w_dt, w_df, w_neS, if_true, if_false, Option.isSome_some, Option.isSome_none, forall_const, Bool.false_eq_true, false_implies, implies_true, reduceIte, decide_true, decide_false, Bool.not_true, Bool.not_false, Bool.true_and, Bool.and_true, Bool.false_and, Bool.and_false, Bool.or_true, Bool.or_false, Bool.true_or, Bool.false_or, and_self, true_and, and_true, eq_self, reduceCtorEq, gEq_int, gNe_int, gEq_line, gNe_line, gEq_rows, gNe_rows, gEq_bool, gNe_bool, atI_0, atI_1, atI_2, atI_3, atI_4, ixN_0, ixN_1, ixN_2, ixN_3, ixN_4, List.length_cons, List.length_nil, List.length_map, List.length_range, List.length_set, Int.toNat_natCast, List.map_cons, List.map_nil, List.getElem?_cons_zero, List.getElem?_cons_succ, List.set_cons_zero, List.set_cons_succ, List.getD_cons_zero, List.getD_cons_succ, List.append_nil, List.flatten_cons, List.flatten_nil, List.nil_append, List.cons_append, Nat.reduceAdd, Nat.reduceSub, Nat.reduceMul, Nat.reduceEqDiff, Nat.reduceLeDiff, Int.reduceNeg, Int.reduceAdd, Int.reduceSub, Int.reduceMul, Int.reduceLT, Int.reduceLE, Int.reduceEq, Int.reduceGT, Int.reduceGE, Int.reducePow, Int.reduceToNat, isi_int_none, isi_int_bool, isi_int_int, isi_int_str, isi_int_list, isi_int_tuple, isi_bool_none, isi_bool_bool, isi_bool_int, isi_bool_str, isi_bool_list, isi_bool_tuple, isi_tuple_none, isi_tuple_bool, isi_tuple_int, isi_tuple_str, isi_tuple_list, isi_tuple_tuple, isi_list_none, isi_list_bool, isi_list_int, isi_list_str, isi_list_list, isi_list_tuple, isi_str_none, isi_str_bool, isi_str_int, isi_str_str, isi_str_list, isi_str_tuple, *])
/-! ### determinants by the first row -/
theorem sgF_b (k : Nat) : -1 ≤ sgF k ∧ sgF k ≤ 1 := by
  unfold sgF
  split <;> omega
theorem sgF_mul (k : Nat) {x : Int} (h : -1000000000 ≤ x ∧ x ≤ 1000000000) : -1000000000 ≤ sgF k * x ∧ sgF k * x ≤ 1000000000 := by
  unfold sgF
  split <;> omega
def termF (n : Nat) (f : Nat → Nat → Int) (k : Nat) : Int := sgF k * f 0 k * detF n (minF k f)
theorem det_step {n m : Nat} (n1 : n < 100) {f : Nat → Nat → Int} (hf : ∀ i j, -1000000000 ≤ f i j ∧ f i j ≤ 1000000000)
    (ih : ∀ g : Nat → Nat → Int, (∀ i j, -1000000000 ≤ g i j ∧ g i j ≤ 1000000000) → F_det_of (m + 1) [.dat (.list ((List.range n).map fun i => rowD n (g i)))] = some (.d (.int (detF n g)), none))
    {X X' : PyData} (x1 : gLen [X] = some (.int ((n + 1 : Nat) : Int))) (x2 : gIx X (.int 0) = some (rowD (n + 1) (f 0))) (x3 : gSl X (some 1) none = some X') (x4 : itemsD X' = some ((List.range n).map fun i => rowD (n + 1) (f (i + 1)))) :
    F_det_of (m + 2) [.dat X] = some (.d (.int (detF (n + 1) f)), none) := by
  have u1 := F_det_of_ap (m + 1)
  have u2 := g_det_of_ap (F_det_of (m + 1))
  have u3 := b_det_of_0_ap (F_det_of (m + 1))
  have u4 := c_det_of_0_ap (F_det_of (m + 1))
  have lc : ∀ (k : Nat) (s1 s2 s4 : Sl), k < n + 1 → lcL (.nm 5) [5] bYes (c_det_of_0 (F_det_of (m + 1))) ((List.range n).map fun i => rowD (n + 1) (f (i + 1))) [.dat X, s1, s2, .dat (.int (k : Nat)), s4, .un] =
      some ((List.range n).map fun i => rowD n (minF k f i), [.dat X, s1, s2, .dat (.int (k : Nat)), s4, .un]) := fun k s1 s2 s4 hk =>
    lcL_nm (v := 5) (fun i => rowD (n + 1) (f (i + 1))) (fun i => rowD n (minF k f i)) _ (List.range n) rfl (fun i _ => by
      have c1 := cut_to (n := n + 1) (fun j => PyData.int (f (i + 1) j)) (k := k) (by omega)
      have c2 : cutD ((List.range (n + 1)).map fun j => PyData.int (f (i + 1) j)) (some ((k : Int) + 1)) none = (List.range (n + 1 - (k + 1))).map fun j => PyData.int (f (i + 1) (k + 1 + j)) := cut_from (n := n + 1) (fun j => PyData.int (f (i + 1) j)) (k + 1)
      have c3 := cut_skip (n := n) (k := k) (fun j => PyData.int (f (i + 1) j)) hk
      clear hf ih
      walk_at "dl"
      rfl)
  have lp : ∀ (d k : Nat) (acc : Int) (s3 s4 : Sl), k + d = n + 1 → ∃ j3 j4, forL (.tp [.nm 3, .nm 4]) (b_det_of_0 (F_det_of (m + 1))) ((List.range' k d).map fun j => PyData.tuple [.int (j : Nat), .int (f 0 j)]) [.dat X, .dat (.int acc), .dat (.int (sgF k)), s3, s4, .un] =
      some (.nx [.dat X, .dat (.int (acc + (sumTo (k + d) (termF n f) - sumTo k (termF n f)))), .dat (.int (sgF (k + d))), j3, j4, .un]) := by
    intro d
    induction d with
    | zero =>
      intro k acc s3 s4 _
      refine ⟨s3, s4, ?_⟩
      have e0 : acc + (sumTo (k + 0) (termF n f) - sumTo k (termF n f)) = acc := by
        rw [Nat.add_zero]
        omega
      rw [e0]
      rfl
    | succ d ihd =>
      intro k acc s3 s4 hk
      have hs := (sgF_succ k).symm
      have e1 : sumTo (k + 1) (termF n f) = sumTo k (termF n f) + sgF k * f 0 k * detF n (minF k f) := sumTo_succ k (termF n f)
      obtain ⟨j3, j4, e⟩ := ihd (k + 1) (acc + sgF k * f 0 k * detF n (minF k f)) (.dat (.int (k : Nat))) (.dat (.int (f 0 k))) (by omega)
      refine ⟨j3, j4, ?_⟩
      have e2 : acc + sgF k * f 0 k * detF n (minF k f) + (sumTo (k + 1 + d) (termF n f) - sumTo (k + 1) (termF n f)) = acc + (sumTo (k + (d + 1)) (termF n f) - sumTo k (termF n f)) := by
        rw [e1, show k + 1 + d = k + (d + 1) by omega]
        omega
      rw [e2, show k + 1 + d = k + (d + 1) by omega] at e
      have r : List.range' k (d + 1) = k :: List.range' (k + 1) d := rfl
      rw [r]
      have l := lc k (.dat (.int acc)) (.dat (.int (sgF k))) (.dat (.int (f 0 k))) (by omega)
      have dt := ih (minF k f) fun i j => hf _ _
      have b1 := sgF_b k
      have b2 := sgF_mul k (hf 0 k)
      have l2 : ((List.range n).map fun i => rowD (n + 1) (f (i + 1))).length ≤ 1000000 := by rw [len_range]; omega
      clear lc ihd ih hf e1 e2 r hk
      by_cases c : f 0 k = 0
      · rw [c, Int.mul_zero, Int.zero_mul, Int.add_zero] at e
        clear l dt b2
        walk_at "dl"
      · obtain ⟨q1, q2⟩ := b1
        obtain ⟨q3, q4⟩ := b2
        walk_at "dl"
  obtain ⟨j3, j4, e⟩ := lp (n + 1) 0 0 .un .un (by omega)
  rw [Nat.zero_add, sumTo_zero, Int.sub_zero, Int.zero_add, show sgF 0 = 1 from rfl] at e
  rw [show sumTo (n + 1) (termF n f) = detF (n + 1) f from rfl, ← List.range_eq_range'] at e
  have z := enumD_range (n := n + 1) fun j => PyData.int (f 0 j)
  have n0 : ¬ ((n + 1 : Nat) : Int) = 0 := by omega
  clear lp lc hf ih x3 x4
  walk_at "dl"
theorem f_det_list : ∀ (n m : Nat) (f : Nat → Nat → Int), n ≤ m → n < 100 → (∀ i j, -1000000000 ≤ f i j ∧ f i j ≤ 1000000000) → F_det_of (m + 1) [.dat (.list ((List.range n).map fun i => rowD n (f i)))] = some (.d (.int (detF n f)), none)
  | 0, m, f, _, _, _ => by
    have u1 := F_det_of_ap m
    have u2 := g_det_of_ap (F_det_of m)
    show F_det_of (m + 1) [.dat (.list [])] = some (.d (.int 1), none)
    walk_at "dl"
  | n + 1, 0, f, h, _, _ => by omega
  | n + 1, m + 1, f, h, h1, hf => by
    refine det_step (by omega) hf (fun g hg => f_det_list n m g (by omega) (by omega) hg) (X' := .list ((List.range n).map fun i => rowD (n + 1) (f (i + 1)))) ?_ ?_ ?_ rfl
    · rw [w_len_l, len_range]
    · exact atI_range0 (fun i => rowD (n + 1) (f i)) (by omega)
    · have c := cut_from (n := n + 1) (fun i => rowD (n + 1) (f i)) 1
      rw [w_sl_l]
      have c' : cutD ((List.range (n + 1)).map fun i => rowD (n + 1) (f i)) (some 1) none = (List.range n).map fun i => rowD (n + 1) (f (i + 1)) := by
        refine c.trans ?_
        apply List.map_congr_left
        intro i _
        rw [Nat.add_comm 1 i]
      rw [c']
theorem f_det_tup {n m : Nat} {f : Nat → Nat → Int} (h : n + 1 ≤ m) (h1 : n + 1 < 100) (hf : ∀ i j, -1000000000 ≤ f i j ∧ f i j ≤ 1000000000) : F_det_of (m + 1) [.dat (matD (n + 1) (n + 1) f)] = some (.d (.int (detF (n + 1) f)), none) := by
  obtain ⟨m, rfl⟩ : ∃ m', m = m' + 1 := ⟨m - 1, by omega⟩
  refine det_step (by omega) hf (fun g hg => f_det_list n m g (by omega) (by omega) hg) (X' := .tuple ((List.range n).map fun i => rowD (n + 1) (f (i + 1)))) ?_ ?_ ?_ rfl
  · rw [w_len_t, len_range]
  · exact atI_range0 (fun i => rowD (n + 1) (f i)) (by omega)
  · have c := cut_from (n := n + 1) (fun i => rowD (n + 1) (f i)) 1
    rw [w_sl_t]
    have c' : cutD ((List.range (n + 1)).map fun i => rowD (n + 1) (f i)) (some 1) none = (List.range n).map fun i => rowD (n + 1) (f (i + 1)) := by
      refine c.trans ?_
      apply List.map_congr_left
      intro i _
      rw [Nat.add_comm 1 i]
    rw [c']
theorem skip_lt {k j n : Nat} (h : j < n) : skip k j < n + 1 := by
  unfold skip
  split <;> omega
theorem detF_congr : ∀ (n : Nat) (f g : Nat → Nat → Int), (∀ i j, i < n → j < n → f i j = g i j) → detF n f = detF n g
  | 0, _, _, _ => rfl
  | n + 1, f, g, h => sumTo_congr fun k hk => by
    rw [h 0 k (by omega) hk, detF_congr n (minF k f) (minF k g) fun i j hi hj => h _ _ (by omega) (skip_lt hj)]
theorem f_det {n : Nat} {f : Nat → Nat → Int} (o : Ok n n f) : F_determinant [.dat (matD n n f)] = some (.d (.int (detF n f)), none) := by
  obtain ⟨n, rfl⟩ : ∃ n', n = n' + 1 := ⟨n - 1, by have := o.1.1; omega⟩
  have u1 := F_determinant_ap
  have u2 := g_determinant_ap
  have e1 := f_check_square o
  let f' : Nat → Nat → Int := fun i j => if i < n + 1 ∧ j < n + 1 then f i j else 0
  have hf' : ∀ i j, i < n + 1 → j < n + 1 → f' i j = f i j := fun i j hi hj => if_pos ⟨hi, hj⟩
  have b : ∀ i j, -1000000000 ≤ f' i j ∧ f' i j ≤ 1000000000 := fun i j => by
    show -1000000000 ≤ (if i < n + 1 ∧ j < n + 1 then f i j else 0) ∧ (if i < n + 1 ∧ j < n + 1 then f i j else 0) ≤ 1000000000
    split
    · next c =>
      have := o.2.2 i j c.1 c.2
      omega
    · omega
  have e2 := f_det_tup (n := n) (m := 5) (f := f') (by have := o.1.2; omega) (by have := o.1.2; omega) b
  rw [matD_congr hf', detF_congr (n + 1) f' f hf'] at e2
  clear b hf' o
  clear f'
  walk_at "dl"
/-! ### parts -/
abbrev lotD (k : Nat) (l : Nat → Nat) : List PyData := (List.range k).map fun t => PyData.int ((l t : Nat) : Int)
/-! ### the law's determinants, by all orders -/
theorem f_orders : ∀ n, n ≤ 4 → F__law_orders [.dat (.int (n : Nat))] = some (.d (.list ((ordL n).map ordE)), none) := by
  intro n hn
  rcases n with _ | _ | _ | _ | _ | n
  all_goals first | (exfalso; omega) | kernel_rfl
theorem ld0 {n : Nat} {f : Nat → Nat → Int} (hb : ∀ i j, i < n → j < n → -1000000000 ≤ f i j ∧ f i j ≤ 1000000000) {l : List Nat} (hl : ∀ i, i < n → l.getD i 0 < n) (s0 s1 s2 s3 : Sl) : ∀ (is : List Nat) (acc : Int) (s5 s6 : Sl), (∀ i ∈ is, i < n) →
    ∃ s5' s6', forL (.tp [.nm 5, .nm 6]) b__law_determinant_0 (is.map fun i => .tuple [rowD n (f i), .int ((l.getD i 0 : Nat) : Int)]) [s0, s1, s2, s3, .dat (.int acc), s5, s6] = some (.nx [s0, s1, s2, s3, .dat (.int (is.foldl (fun a i => a * f i (l.getD i 0)) acc)), s5', s6'])
  | [], acc, s5, s6, _ => ⟨s5, s6, rfl⟩
  | i :: is, acc, s5, s6, hi => by
    have i0 := hi i List.mem_cons_self
    obtain ⟨s5', s6', e⟩ := ld0 hb hl s0 s1 s2 s3 is (acc * f i (l.getD i 0)) (.dat (rowD n (f i))) (.dat (.int ((l.getD i 0 : Nat) : Int))) fun j hj => hi j (List.mem_cons_of_mem _ hj)
    have u := b__law_determinant_0_ap
    obtain ⟨b1, b2⟩ := hb i (l.getD i 0) i0 (hl i i0)
    have a1 := atI_range (fun j => PyData.int (f i j)) (hl i i0)
    refine ⟨s5', s6', ?_⟩
    rw [List.foldl_cons]
    clear hb hl hi
    walk_at "dl"
theorem ld1 {n : Nat} {f : Nat → Nat → Int} (hb : ∀ i j, i < n → j < n → -1000000000 ≤ f i j ∧ f i j ≤ 1000000000) : ∀ (ps : List (List Nat × Int)) (acc : Int) (s2 s3 s4 s5 s6 : Sl), (∀ p ∈ ps, p.1.length = n ∧ ∀ x ∈ p.1, x < n) →
    ∃ s2' s3' s4' s5' s6', forL (.tp [.nm 2, .nm 3]) b__law_determinant_1 (ps.map ordE) [.dat (matD n n f), .dat (.int acc), s2, s3, s4, s5, s6] = some (.nx [.dat (matD n n f), .dat (.int (acc + (ps.map (prodO n f)).sum)), s2', s3', s4', s5', s6'])
  | [], acc, s2, s3, s4, s5, s6, _ => ⟨s2, s3, s4, s5, s6, by
    show some _ = some _
    rw [List.map_nil, List.sum_nil, Int.add_zero]⟩
  | p :: ps, acc, s2, s3, s4, s5, s6, hp => by
    obtain ⟨p1, p2⟩ := hp p List.mem_cons_self
    obtain ⟨t5, t6, e1⟩ := ld0 hb (l := p.1) (fun i hi => lot_lt p1 p2 hi) (.dat (matD n n f)) (.dat (.int acc)) (.dat (lotE p.1)) (.dat (.int p.2)) (List.range n) p.2 s5 s6 fun i hi => List.mem_range.mp hi
    obtain ⟨s2', s3', s4', s5', s6', e⟩ := ld1 hb ps (acc + prodO n f p) (.dat (lotE p.1)) (.dat (.int p.2)) (.dat (.int (prodO n f p))) t5 t6 fun q hq => hp q (List.mem_cons_of_mem _ hq)
    have u := b__law_determinant_1_ap
    have z := zipD_range (n := n) (fun i => rowD n (f i)) (fun i => PyData.int ((p.1.getD i 0 : Nat) : Int))
    rw [← lotE_range p1] at z
    rw [show (List.range n).foldl (fun a i => a * f i (p.1.getD i 0)) p.2 = prodO n f p from rfl] at e1
    refine ⟨s2', s3', s4', s5', s6', ?_⟩
    rw [List.map_cons, List.map_cons, List.sum_cons, ← Int.add_assoc]
    clear hp p1 p2 hb
    walk_at "dl"
theorem ord_ok : ∀ n, n ≤ 4 → ∀ p ∈ ordL n, p.1.length = n ∧ ∀ x ∈ p.1, x < n := by decide +kernel
theorem f_ldet {n : Nat} (n4 : n ≤ 4) {f : Nat → Nat → Int} (hb : ∀ i j, i < n → j < n → -1000000000 ≤ f i j ∧ f i j ≤ 1000000000) : F__law_determinant [.dat (matD n n f)] = some (.d (.int (detO n f)), none) := by
  have u1 := F__law_determinant_ap
  have u2 := g__law_determinant_ap
  have e0 := f_orders n n4
  obtain ⟨s2, s3, s4, s5, s6, e1⟩ := ld1 hb (ordL n) 0 .un .un .un .un .un (ord_ok n n4)
  rw [Int.zero_add, show ((ordL n).map (prodO n f)).sum = detO n f from rfl] at e1
  clear hb
  walk_at "dl"
/-! ### by all orders and by the first row -/
theorem do1 (f : Nat → Nat → Int) : detO 1 f = detF 1 f := by
  have e0 : detO 1 f = (1 * f 0 0 + 0) := by kernel_rfl
  have e1 : detF 1 f = (1 * f 0 0 * 1 + 0) := by kernel_rfl
  rw [e0, e1]
  clear e0 e1
  generalize f 0 0 = f00
  grind
theorem do2 (f : Nat → Nat → Int) : detO 2 f = detF 2 f := by
  have e0 : detO 2 f = (1 * f 0 0 * f 1 1 + ((-1) * f 0 1 * f 1 0 + 0)) := by kernel_rfl
  have e1 : detF 2 f = (1 * f 0 0 * (1 * f 1 1 * 1 + 0) + ((-1) * f 0 1 * (1 * f 1 0 * 1 + 0) + 0)) := by kernel_rfl
  rw [e0, e1]
  clear e0 e1
  generalize f 0 0 = f00
  generalize f 0 1 = f01
  generalize f 1 0 = f10
  generalize f 1 1 = f11
  grind
theorem do3 (f : Nat → Nat → Int) : detO 3 f = detF 3 f := by
  have e0 : detO 3 f = (1 * f 0 0 * f 1 1 * f 2 2 + ((-1) * f 0 0 * f 1 2 * f 2 1 + ((-1) * f 0 1 * f 1 0 * f 2 2 + (1 * f 0 1 * f 1 2 * f 2 0 + (1 * f 0 2 * f 1 0 * f 2 1 + ((-1) * f 0 2 * f 1 1 * f 2 0 + 0)))))) := by kernel_rfl
  have e1 : detF 3 f = (1 * f 0 0 * (1 * f 1 1 * (1 * f 2 2 * 1 + 0) + ((-1) * f 1 2 * (1 * f 2 1 * 1 + 0) + 0)) + ((-1) * f 0 1 * (1 * f 1 0 * (1 * f 2 2 * 1 + 0) + ((-1) * f 1 2 * (1 * f 2 0 * 1 + 0) + 0)) + (1 * f 0 2 * (1 * f 1 0 * (1 * f 2 1 * 1 + 0) + ((-1) * f 1 1 * (1 * f 2 0 * 1 + 0) + 0)) + 0))) := by kernel_rfl
  rw [e0, e1]
  clear e0 e1
  generalize f 0 0 = f00
  generalize f 0 1 = f01
  generalize f 0 2 = f02
  generalize f 1 0 = f10
  generalize f 1 1 = f11
  generalize f 1 2 = f12
  generalize f 2 0 = f20
  generalize f 2 1 = f21
  generalize f 2 2 = f22
  grind
theorem do4 (f : Nat → Nat → Int) : detO 4 f = detF 4 f := by
  have e0 : detO 4 f = (1 * f 0 0 * f 1 1 * f 2 2 * f 3 3 + ((-1) * f 0 0 * f 1 1 * f 2 3 * f 3 2 + ((-1) * f 0 0 * f 1 2 * f 2 1 * f 3 3 + (1 * f 0 0 * f 1 2 * f 2 3 * f 3 1 + (1 * f 0 0 * f 1 3 * f 2 1 * f 3 2 + ((-1) * f 0 0 * f 1 3 * f 2 2 * f 3 1 + ((-1) * f 0 1 * f 1 0 * f 2 2 * f 3 3 + (1 * f 0 1 * f 1 0 * f 2 3 * f 3 2 + (1 * f 0 1 * f 1 2 * f 2 0 * f 3 3 + ((-1) * f 0 1 * f 1 2 * f 2 3 * f 3 0 + ((-1) * f 0 1 * f 1 3 * f 2 0 * f 3 2 + (1 * f 0 1 * f 1 3 * f 2 2 * f 3 0 + (1 * f 0 2 * f 1 0 * f 2 1 * f 3 3 + ((-1) * f 0 2 * f 1 0 * f 2 3 * f 3 1 + ((-1) * f 0 2 * f 1 1 * f 2 0 * f 3 3 + (1 * f 0 2 * f 1 1 * f 2 3 * f 3 0 + (1 * f 0 2 * f 1 3 * f 2 0 * f 3 1 + ((-1) * f 0 2 * f 1 3 * f 2 1 * f 3 0 + ((-1) * f 0 3 * f 1 0 * f 2 1 * f 3 2 + (1 * f 0 3 * f 1 0 * f 2 2 * f 3 1 + (1 * f 0 3 * f 1 1 * f 2 0 * f 3 2 + ((-1) * f 0 3 * f 1 1 * f 2 2 * f 3 0 + ((-1) * f 0 3 * f 1 2 * f 2 0 * f 3 1 + (1 * f 0 3 * f 1 2 * f 2 1 * f 3 0 + 0)))))))))))))))))))))))) := by kernel_rfl
  have e1 : detF 4 f = (1 * f 0 0 * (1 * f 1 1 * (1 * f 2 2 * (1 * f 3 3 * 1 + 0) + ((-1) * f 2 3 * (1 * f 3 2 * 1 + 0) + 0)) + ((-1) * f 1 2 * (1 * f 2 1 * (1 * f 3 3 * 1 + 0) + ((-1) * f 2 3 * (1 * f 3 1 * 1 + 0) + 0)) + (1 * f 1 3 * (1 * f 2 1 * (1 * f 3 2 * 1 + 0) + ((-1) * f 2 2 * (1 * f 3 1 * 1 + 0) + 0)) + 0))) + ((-1) * f 0 1 * (1 * f 1 0 * (1 * f 2 2 * (1 * f 3 3 * 1 + 0) + ((-1) * f 2 3 * (1 * f 3 2 * 1 + 0) + 0)) + ((-1) * f 1 2 * (1 * f 2 0 * (1 * f 3 3 * 1 + 0) + ((-1) * f 2 3 * (1 * f 3 0 * 1 + 0) + 0)) + (1 * f 1 3 * (1 * f 2 0 * (1 * f 3 2 * 1 + 0) + ((-1) * f 2 2 * (1 * f 3 0 * 1 + 0) + 0)) + 0))) + (1 * f 0 2 * (1 * f 1 0 * (1 * f 2 1 * (1 * f 3 3 * 1 + 0) + ((-1) * f 2 3 * (1 * f 3 1 * 1 + 0) + 0)) + ((-1) * f 1 1 * (1 * f 2 0 * (1 * f 3 3 * 1 + 0) + ((-1) * f 2 3 * (1 * f 3 0 * 1 + 0) + 0)) + (1 * f 1 3 * (1 * f 2 0 * (1 * f 3 1 * 1 + 0) + ((-1) * f 2 1 * (1 * f 3 0 * 1 + 0) + 0)) + 0))) + ((-1) * f 0 3 * (1 * f 1 0 * (1 * f 2 1 * (1 * f 3 2 * 1 + 0) + ((-1) * f 2 2 * (1 * f 3 1 * 1 + 0) + 0)) + ((-1) * f 1 1 * (1 * f 2 0 * (1 * f 3 2 * 1 + 0) + ((-1) * f 2 2 * (1 * f 3 0 * 1 + 0) + 0)) + (1 * f 1 2 * (1 * f 2 0 * (1 * f 3 1 * 1 + 0) + ((-1) * f 2 1 * (1 * f 3 0 * 1 + 0) + 0)) + 0))) + 0)))) := by kernel_rfl
  rw [e0, e1]
  clear e0 e1
  generalize f 0 0 = f00
  generalize f 0 1 = f01
  generalize f 0 2 = f02
  generalize f 0 3 = f03
  generalize f 1 0 = f10
  generalize f 1 1 = f11
  generalize f 1 2 = f12
  generalize f 1 3 = f13
  generalize f 2 0 = f20
  generalize f 2 1 = f21
  generalize f 2 2 = f22
  generalize f 2 3 = f23
  generalize f 3 0 = f30
  generalize f 3 1 = f31
  generalize f 3 2 = f32
  generalize f 3 3 = f33
  grind
theorem detO_eq {n : Nat} (h0 : 1 ≤ n) (h4 : n ≤ 4) (f : Nat → Nat → Int) : detO n f = detF n f := by
  rcases n with _ | _ | _ | _ | _ | n
  · exfalso; omega
  · exact do1 f
  · exact do2 f
  · exact do3 f
  · exact do4 f
  · exfalso; omega
theorem f__law_part {h w k m : Nat} {f : Nat → Nat → Int} {l p : Nat → Nat} (k1 : k ≤ 100) (m1 : m ≤ 100) (hl : ∀ t, t < k → l t < h) (hp : ∀ t, t < m → p t < w) {X Y : PyData} (hX : itemsD X = some (lotD k l)) (hY : itemsD Y = some (lotD m p)) :
    F__law_part [.dat (matD h w f), .dat X, .dat Y] = some (.d (matD k m fun s t => f (l s) (p t)), none) := by
  have u1 := F__law_part_ap
  have u2 := g__law_part_ap
  have u3 := c__law_part_0_ap
  have u4 := c__law_part_1_ap
  have c0 : ∀ s, s < k → lcL (.nm 4) [4] bYes c__law_part_0 (lotD m p) [.dat (matD h w f), .dat X, .dat Y, .dat (.int ((l s : Nat) : Int)), .un] =
      some ((List.range m).map fun t => PyData.int (f (l s) (p t)), [.dat (matD h w f), .dat X, .dat Y, .dat (.int ((l s : Nat) : Int)), .un]) := fun s hs =>
    lcL_nm (v := 4) (fun t => PyData.int ((p t : Nat) : Int)) (fun t => PyData.int (f (l s) (p t))) _ (List.range m) rfl (fun t ht => by
      have a1 := atI_range (fun i => rowD w (f i)) (hl s hs)
      have a2 := atI_range (fun j => PyData.int (f (l s) j)) (hp t (List.mem_range.mp ht))
      clear hl hp
      walk_at "dl")
  have c1 := lcL_nm (v := 3) (te := c__law_part_1) (fun s => PyData.int ((l s : Nat) : Int)) (fun s => rowD m fun t => f (l s) (p t)) [.dat (matD h w f), .dat X, .dat Y, .un, .un] (List.range k) rfl (fun s hs => by
    have e := c0 s (List.mem_range.mp hs)
    clear c0 hl hp
    walk_at "dl")
  clear c0 hl hp
  walk_at "dl"
/-! ### the law's lots -/
theorem f_llots : ∀ n k : Nat, n ≤ 4 → k ≤ 4 → F__law_lots [.dat (.int (n : Nat)), .dat (.int (k : Nat))] = some (.d (.list ((lotsF n k).map lotE)), none) := by
  intro n k hn hk
  rcases n with _ | _ | _ | _ | _ | n
  all_goals first | (exfalso; omega) | skip
  all_goals rcases k with _ | _ | _ | _ | _ | k
  all_goals first | (exfalso; omega) | kernel_rfl
def Bdd (h w : Nat) (f : Nat → Nat → Int) : Prop := ∀ i j, i < h → j < w → -9223372036854775808 ≤ f i j ∧ f i j ≤ 9223372036854775808
theorem f_lproduct {h m w : Nat} {f g : Nat → Nat → Int} (h0 : 0 < h) (h1 : h ≤ 100) (m0 : 0 < m) (m1 : m ≤ 100) (w1 : w ≤ 100) (b : Bdd h m f) : F__law_product [.dat (matD h m f), .dat (matD m w g)] = some (.d (matD h w (mulF m f g)), none) := by
  have u1 := F__law_product_ap
  have u2 := g__law_product_ap
  have u3 := c__law_product_0_ap
  have u4 := c__law_product_1_ap
  have u5 := c__law_product_2_ap
  have u6 := c__law_product_3_ap
  have u7 := c__law_product_4_ap
  have a0 := atI_range0 (fun i => rowD w (g i)) m0
  have r0 := w_range0 (n := w)
  let col : Nat → PyData := fun j => .list ((List.range m).map fun k => PyData.int (g k j))
  have k1 := fun (j : Nat) (hj : j < w) => lcL_nm (v := 4) (te := c__law_product_0) (fun k => rowD w (g k)) (fun k => PyData.int (g k j)) [.dat (matD h m f), .dat (matD m w g), .un, .dat (.int (j : Nat)), .un, .un, .un] (List.range m) rfl (fun k _ => by
    have a1 := atI_range (fun j => PyData.int (g k j)) hj
    clear b
    walk_at "dl")
  have k2 := lcL_nm (v := 3) (te := c__law_product_1) (fun (j : Nat) => PyData.int (j : Nat)) col [.dat (matD h m f), .dat (matD m w g), .un, .un, .un, .un, .un] (List.range w) rfl (fun j hj => by
    have e := k1 j (List.mem_range.mp hj)
    show c__law_product_1 _ = some (.list ((List.range m).map fun k => PyData.int (g k j)), _)
    clear k1 b
    walk_at "dl")
  have z := fun i j => zipD_range (n := m) (fun k => PyData.int (f i k)) (fun k => PyData.int (g k j))
  have sm := fun i j => gSum_range (n := m) fun k => f i k * g k j
  have k3 := fun (s2 : Sl) (i j : Nat) (hi : i < h) => lcL_at (tg := .tp [.nm 6, .nm 3]) (vs := [6, 3]) (tt := bYes) (te := c__law_product_2) (fun k => PyData.tuple [.int (f i k), .int (g k j)]) (fun k => PyData.int (f i k * g k j)) [.dat (matD h m f), .dat (matD m w g), s2, .un, .dat (rowD m (f i)), .dat (col j), .un]
    (fun k => [.dat (matD h m f), .dat (matD m w g), s2, .dat (.int (g k j)), .dat (rowD m (f i)), .dat (col j), .dat (.int (f i k))]) (List.range m) (fun k _ => by clear b; walk_at "dl") (fun k _ => rfl) (fun k hk => by
      obtain ⟨b1, b2⟩ := b i k hi (List.mem_range.mp hk)
      clear b
      walk_at "dl") (fun k _ => rfl)
  have k4 := fun (s2 : Sl) (i : Nat) (hi : i < h) => lcL_nm (v := 5) (te := c__law_product_3) col (fun j => PyData.int (mulF m f g i j)) [.dat (matD h m f), .dat (matD m w g), s2, .un, .dat (rowD m (f i)), .un, .un] (List.range w) rfl (fun j _ => by
    have e := k3 s2 i j hi
    have zz := z i j
    have s := sm i j
    rw [show (sumTo m fun k => f i k * g k j) = mulF m f g i j from rfl] at s
    show c__law_product_3 [.dat (matD h m f), .dat (matD m w g), s2, .un, .dat (rowD m (f i)), .dat (.list ((List.range m).map fun k => PyData.int (g k j))), .un] = some (_, [.dat (matD h m f), .dat (matD m w g), s2, .un, .dat (rowD m (f i)), .dat (.list ((List.range m).map fun k => PyData.int (g k j))), .un])
    have e : lcL (.tp [.nm 6, .nm 3]) [6, 3] bYes c__law_product_2 ((List.range m).map fun k => PyData.tuple [.int (f i k), .int (g k j)]) [.dat (matD h m f), .dat (matD m w g), s2, .un, .dat (rowD m (f i)), .dat (.list ((List.range m).map fun k => PyData.int (g k j))), .un] = some ((List.range m).map fun k => PyData.int (f i k * g k j), [.dat (matD h m f), .dat (matD m w g), s2, .un, .dat (rowD m (f i)), .dat (.list ((List.range m).map fun k => PyData.int (g k j))), .un]) := e
    clear k1 k2 k3 z sm b
    walk_at "dl")
  generalize hc : (List.range w).map col = C at k2 k4
  have hC : C.length ≤ 1000000 := by rw [← hc, List.length_map, List.length_range]; omega
  obtain ⟨h, rfl⟩ : ∃ n, h = n + 1 := ⟨h - 1, by omega⟩
  have k5 := lcL_nm (v := 4) (te := c__law_product_4) (fun i => rowD m (f (i + 1))) (fun i => rowD w (mulF m f g (i + 1))) [.dat (matD (h + 1) m f), .dat (matD m w g), .dat (.list C), .un, .un, .un, .un] (List.range h) rfl (fun i hi => by
    have e := k4 (.dat (.list C)) (i + 1) (by have := List.mem_range.mp hi; omega)
    clear k1 k2 k3 k4 z sm b
    walk_at "dl")
  have k6 := k4 (.dat (.list C)) 0 (by omega)
  have r3 : ((List.range (h + 1)).map fun i => rowD m (f i)) = rowD m (f 0) :: (List.range h).map fun i => rowD m (f (i + 1)) := by
    rw [List.range_succ_eq_map, List.map_cons, List.map_map]
    rfl
  have r4 : matD (h + 1) w (mulF m f g) = .tuple (rowD w (mulF m f g 0) :: (List.range h).map fun i => rowD w (mulF m f g (i + 1))) := by
    show PyData.tuple _ = _
    rw [List.range_succ_eq_map, List.map_cons, List.map_map]
    rfl
  have it : itemsD (matD (h + 1) m f) = some (rowD m (f 0) :: (List.range h).map fun i => rowD m (f (i + 1))) := congrArg some r3
  rw [r4]
  clear k1 k3 k4 z sm b r3 r4 hc
  generalize matD (h + 1) m f = MF at *
  walk_at "dl"
/-! ### blocks -/
def blkF (h w : Nat) (f g : Nat → Nat → Int) (i j : Nat) : Int := if i < h then (if j < w then f i j else 0) else if j < w then 0 else g (i - h) (j - w)
theorem f_check_room {a b : Nat} (ha : a ≤ 5) (hb : b ≤ 5) : F_check_room [.dat (.int (a : Nat)), .dat (.int (b : Nat))] = some (.d .none, none) := by
  have u1 := F_check_room_ap
  have u2 := g_check_room_ap
  by_cases c : (b : Int) > (a : Int) <;> walk_at "dl"
theorem rep_row (n : Nat) (x : PyData) : List.replicate n x = (List.range n).map fun _ => x := by
  apply List.ext_getElem
  · simp
  · intro i h1 h2
    simp
theorem row_app (a b : Nat) (f g : Nat → Int) : ((List.range a).map fun j => PyData.int (f j)) ++ ((List.range b).map fun j => PyData.int (g j)) = (List.range (a + b)).map fun j => PyData.int (if j < a then f j else g (j - a)) := by
  apply List.ext_getElem
  · simp
  · intro i h1 h2
    rw [List.getElem_append]
    by_cases c : i < a
    · simp [c]
    · simp [c]
theorem f_blocks {h w h2 w2 : Nat} {f g : Nat → Nat → Int} (o : Ok h w f) (p : Ok h2 w2 g) (hh : h + h2 ≤ 5) (hw : w + w2 ≤ 5) : F_blocks [.dat (matD h w f), .dat (matD h2 w2 g)] = some (.d (matD (h + h2) (w + w2) (blkF h w f g)), none) := by
  have u1 := F_blocks_ap
  have u2 := g_blocks_ap
  have u3 := c_blocks_0_ap
  have u4 := c_blocks_1_ap
  have e0 := f_check_both o p
  have e1 := f_check_room (a := h + h2) (b := w + w2) hh hw
  rw [show ((h + h2 : Nat) : Int) = (h : Int) + (h2 : Int) by omega, show ((w + w2 : Nat) : Int) = (w : Int) + (w2 : Int) by omega] at e1
  have a0 := atI_range0 (fun i => rowD w (f i)) (show 0 < h from o.1.1)
  have a1 := atI_range0 (fun i => rowD w2 (g i)) (show 0 < h2 from p.1.1)
  have w0 := o.2.1.1
  have w20 := p.2.1.1
  have r1 := rep_row w2 (.int 0)
  have r2 := rep_row w (.int 0)
  have c1 := lcL_nm (v := 4) (te := c_blocks_0) (fun i => rowD w (f i)) (fun i => rowD (w + w2) fun j => if j < w then f i j else 0) [.dat (matD h w f), .dat (matD h2 w2 g), .dat (.int (w : Nat)), .dat (.int (w2 : Nat)), .un] (List.range h) rfl (fun i _ => by
    have r3 := row_app w w2 (f i) fun _ => 0
    clear o p
    walk_at "dl")
  have c2 := lcL_nm (v := 4) (te := c_blocks_1) (fun i => rowD w2 (g i)) (fun i => rowD (w + w2) fun j => if j < w then 0 else g i (j - w)) [.dat (matD h w f), .dat (matD h2 w2 g), .dat (.int (w : Nat)), .dat (.int (w2 : Nat)), .un] (List.range h2) rfl (fun i _ => by
    have r3 := row_app w w2 (fun _ => 0) (g i)
    clear o p
    walk_at "dl")
  have m : PyData.tuple (((List.range h).map fun i => rowD (w + w2) fun j => if j < w then f i j else 0) ++ ((List.range h2).map fun i => rowD (w + w2) fun j => if j < w then 0 else g i (j - w))) = matD (h + h2) (w + w2) (blkF h w f g) := by
    show PyData.tuple _ = PyData.tuple _
    congr 1
    apply List.ext_getElem
    · simp
    · intro i h1 h2'
      rw [List.getElem_append]
      by_cases c : i < h
      · simp [c, blkF]
      · simp [c, blkF]
  clear o p
  walk_at "dl"

end K17

namespace K17
open PySem PySem.Spec PyProof.Rows L2 DL
local macro_rules | `(tactic| walk_at "dl") => `(tactic| simp (disch := first | assumption | omega | (simp only [List.length_map, List.length_cons, List.length_nil, List.length_append, List.length_range]; omega)) only [vd_ch, vd_ch1, vd_ch2, vd_ch3t, vd_ch3f, vd_ch4, vd_ch5t, vd_ch5f, vd_ch6, vd_rn, vd_rn1, vd_pop, vd_popAt, vd_pop0, vd_pop1, vd_pop2, vd_srtT, vk_rg1, vk_rg11, vk_rg2, vk_rg21, vk_rg3, vk_rgok, vk_min, vk_max, vk_srt, vk_rev1, vk_rev2, vk_mul1, k1_some, kP_some, kO_some, qUn_r, qIf_t, qIf_f, vq_var, vq_var_d, vq_var_o, vq_c, vq_bin, vq_bin1, vq_bin2, vq_test, vq_test1, vq_tru, vq_not, vq_not1, vq_ofb, vq_ofb1, vq_note, vq_note1, vq_and, vq_and_t, vq_and_f, vq_or, vq_or_t, vq_or_f, vq_ande, vq_ande_t, vq_ande_f, vq_ore, vq_ore_t, vq_ore_f, vq_if, vq_un, vq_call, vq_callF, vq_items, vq_nil, vq_cons, vq_cons1, vq_cons2, vq_tup, vq_tup1, vq_lst, vq_lst1, vq_l, vq_l1, vq_ixn, vq_ixn_d, vq_ixn_o, vq_ixn_l, vq_ix1, vq_ix2, vq_ix3, vq_onone, vq_osome, vq_osome1, vq_sl, vq_sl1, vq_sl2, vq_sl3, vq_sln, vq_sln0, vq_sln1, vq_sln2, vq_sln3, vq_scr, vq_scr0, vq_scr1, vq_scr2, vq_lenn, vq_lenn_s, vq_lenn_n, vq_lenn2, vq_r1, vq_r11, vq_r2, vq_r21, vq_enum, vq_enum1, vq_enum2, vq_zip, vq_zip1, vq_zip2, vq_zip3, vq_lc, vq_lc1, vq_lc2, vq_yes, vq_snil, vq_seq, vq_seq_nx, vq_seq_rt, vq_seq_rtF, vq_seq_bk, vq_seq_ct, vq_set, vq_set1, vq_setF, vq_setF1, vq_nx, vq_setT, vq_setT1, vq_sif, vq_ret, vq_ret1, vq_retF, vq_retF1, vq_retN, vq_bk, vq_ct, vq_expr, vq_expr1, vq_app, vq_app1, vq_app2, vq_app3, vq_ext, vq_ext1, vq_ext2, vq_ext3, vq_si, vq_si1, vq_si2, vq_si3, vq_si4, vq_si5, vq_for, vq_for1, vq_forl_nil, vq_forl, vq_f1, vq_f_nx, vq_f_ct, vq_f_bk, vq_f_rt, vq_f_rtF, vq_mnil, vq_md, vq_mf, vq_md1, vq_mf1, vq_m2, vq_par, vq_par1, vq_park, vq_park1, vq_asg_nil, vq_asg, vq_asg1, vq_ak_nm, vq_ak, vq_ak1, vq_ak2, vq_ak3, vq_ak4, vq_bind_nm, vq_bind_tp, vq_binds_nil, vq_binds, vq_binds1, vq_run, vq_run_rt, vq_run_rtF, vq_run_nx, vq_kR, vq_kRF, vq_cu, vq_cu1, vq_cuf, vq_cuf1, vq_kL, vq_callL, vq_cl0, vq_cl1, vq_cl2, vq_cle, vq_rv, vq_clf, vq_rvf1, vq_cs, vq_cs1, vq_ch, vq_ch1, vq_ch2, vq_ch3_t, vq_ch3_f, vq_ch4, vq_cat, vq_cat1, vq_cat2, vq_rep, vq_rep1, vq_rep2, vq_ss, vq_ss1, vq_ss2, vq_ss3, vq_okw_nil, vq_okw, vq_okS_d, vq_okS_u, vq_lcl_nil, vq_lcl, vq_c1, vq_c2_t, vq_c2_f, vq_c3, vq_c4, vq_sw, vq_w, vq_w_f, vq_w_t, vq_w_nx, vq_w_ct, vq_w_bk, vq_w_rt, vq_w_rtF, w_len_l, w_len_t, w_abs, w_int, w_intb, w_tup_l, w_tup_t, w_lst_l, w_lst_t, w_neg, w_sub, w_add, w_add_t, w_add_l, w_mul, w_mul_l, w_mul_r, w_mul_ls, w_atI_5, w_atI_6, w_ixN_5, w_mod, w_fdiv, w_pow, w_cmp, w_isn, w_notn, w_isb, w_notb, w_ix_l, w_ix_t, w_sl_l, w_sl_t, w_it_l, w_it_t, w_tru_n, w_tru_b, w_tru_i, w_tru_l, w_tru_t, w_isnone_n, w_isnone_b, w_isnone_i, w_isnone_l, w_isnone_t, w_all_nil, w_cont_own, w_cont_lent, w_cont_dat, w_cont_un, w_cont_scr, w_cont_nil, w_cut, w_cont_succ, w_put_own, w_put_lent, w_put_succ, w_sets_nil, w_sets_nil2, w_sets_cons, w_wipe_nil, w_wipe_cons, w_rest_nil, w_rest_cons, w_lent_lent, w_lent_dat, w_lent_own, w_lent_un, w_lent_scr, w_lent_nil, w_dats_nil, w_dats_cons, w_rvd, w_rvf, w_repl0, w_repl, w_rok, w_ite_le, w_ite_lt, w_rlen, w_dt, w_df, w_neS, if_true, if_false, Option.isSome_some, Option.isSome_none, forall_const, Bool.false_eq_true, false_implies, implies_true, reduceIte, decide_true, decide_false, Bool.not_true, Bool.not_false, Bool.true_and, Bool.and_true, Bool.false_and, Bool.and_false, Bool.or_true, Bool.or_false, Bool.true_or, Bool.false_or, and_self, true_and, and_true, eq_self, reduceCtorEq, gEq_int, gNe_int, gEq_line, gNe_line, gEq_rows, gNe_rows, gEq_bool, gNe_bool, atI_0, atI_1, atI_2, atI_3, atI_4, ixN_0, ixN_1, ixN_2, ixN_3, ixN_4, List.length_cons, List.length_nil, List.length_map, List.length_range, List.length_set, Int.toNat_natCast, List.map_cons, List.map_nil, List.getElem?_cons_zero, List.getElem?_cons_succ, List.set_cons_zero, List.set_cons_succ, List.getD_cons_zero, List.getD_cons_succ, List.append_nil, List.flatten_cons, List.flatten_nil, List.nil_append, List.cons_append, Nat.reduceAdd, Nat.reduceSub, Nat.reduceMul, Nat.reduceEqDiff, Nat.reduceLeDiff, Int.reduceNeg, Int.reduceAdd, Int.reduceSub, Int.reduceMul, Int.reduceLT, Int.reduceLE, Int.reduceEq, Int.reduceGT, Int.reduceGE, Int.reducePow, Int.reduceToNat, isi_int_none, isi_int_bool, isi_int_int, isi_int_str, isi_int_list, isi_int_tuple, isi_bool_none, isi_bool_bool, isi_bool_int, isi_bool_str, isi_bool_list, isi_bool_tuple, isi_tuple_none, isi_tuple_bool, isi_tuple_int, isi_tuple_str, isi_tuple_list, isi_tuple_tuple, isi_list_none, isi_list_bool, isi_list_int, isi_list_str, isi_list_list, isi_list_tuple, isi_str_none, isi_str_bool, isi_str_int, isi_str_str, isi_str_list, isi_str_tuple, *])
/-! ### pairings -/
abbrev P2 : List PyData := [.tuple [.tuple [.int 0, .int 1]]]
abbrev P4a : PyData := .tuple [.tuple [.int 0, .int 1], .tuple [.int 2, .int 3]]
abbrev P4b : PyData := .tuple [.tuple [.int 0, .int 2], .tuple [.int 1, .int 3]]
abbrev P4c : PyData := .tuple [.tuple [.int 0, .int 3], .tuple [.int 1, .int 2]]
theorem pairings2 : F_pairings_of 4 [.dat (.list [.int 0, .int 1])] = some (.d (.list P2), none) := by kernel_rfl
theorem pairings4 : F_pairings_of 4 [.dat (.list [.int 0, .int 1, .int 2, .int 3])] = some (.d (.list [P4a, P4b, P4c]), none) := by kernel_rfl
theorem sign2 : F_sign_of [.dat (.tuple [.tuple [.int 0, .int 1]])] = some (.d (.int 1), none) := by kernel_rfl
theorem sign4a : F_sign_of [.dat P4a] = some (.d (.int 1), none) := by kernel_rfl
theorem sign4b : F_sign_of [.dat P4b] = some (.d (.int (-1)), none) := by kernel_rfl
theorem sign4c : F_sign_of [.dat P4c] = some (.d (.int 1), none) := by kernel_rfl
theorem cross2 : F_crossing_pairings [.dat (.int 2)] = some (.d (.tuple [.tuple [.tuple [.tuple [.int 0, .int 1]], .int 1]]), none) := by kernel_rfl
theorem cross4 : F_crossing_pairings [.dat (.int 4)] = some (.d (.tuple [.tuple [P4a, .int 1], .tuple [P4b, .int (-1)], .tuple [P4c, .int 1]]), none) := by kernel_rfl
theorem srt2 {a b : Int} (h : ltAll [.int a, .int b] = true) : srtD [.int a, .int b] = [.int a, .int b] := srt_of (List.Perm.refl _) h
theorem plain2 : F__law_plain [.dat (.tuple [.tuple [.int 0, .int 1]])] = some (.d (.tuple [.tuple [.int 0, .int 1]]), none) := by
  have u1 := F__law_plain_ap
  have u2 := g__law_plain_ap
  have u3 := c__law_plain_0_ap
  have e1 := srt2 (a := 0) (b := 1) (by decide +kernel)
  have e2 : srtD [.tuple [.int 0, .int 1]] = [.tuple [.int 0, .int 1]] := srt_of (List.Perm.refl _) (by decide +kernel)
  have h1 : (List.all [PyData.int 0, .int 1] intTupD || List.all [PyData.int 0, .int 1] tripD || srtOk [PyData.int 0, .int 1]) = true := by decide +kernel
  have h2 : (List.all [PyData.tuple [.int 0, .int 1]] intTupD || List.all [PyData.tuple [.int 0, .int 1]] tripD || srtOk [PyData.tuple [.int 0, .int 1]]) = true := by decide +kernel
  walk_at "dl"
theorem plain4 {a b c d : Int} (h1 : ltAll [.int a, .int b] = true) (h2 : ltAll [.int c, .int d] = true) (h3 : ltAll [.tuple [.int a, .int b], .tuple [.int c, .int d]] = true)
    (k1 : (List.all [PyData.int a, .int b] intTupD || List.all [PyData.int a, .int b] tripD || srtOk [PyData.int a, .int b]) = true) (k2 : (List.all [PyData.int c, .int d] intTupD || List.all [PyData.int c, .int d] tripD || srtOk [PyData.int c, .int d]) = true)
    (k3 : (List.all [PyData.tuple [.int a, .int b], .tuple [.int c, .int d]] intTupD || List.all [PyData.tuple [.int a, .int b], .tuple [.int c, .int d]] tripD || srtOk [PyData.tuple [.int a, .int b], .tuple [.int c, .int d]]) = true) : F__law_plain [.dat (.tuple [.tuple [.int a, .int b], .tuple [.int c, .int d]])] = some (.d (.tuple [.tuple [.int a, .int b], .tuple [.int c, .int d]]), none) := by
  have u1 := F__law_plain_ap
  have u2 := g__law_plain_ap
  have u3 := c__law_plain_0_ap
  have e1 := srt2 h1
  have e2 := srt2 h2
  have e3 : srtD [.tuple [.int a, .int b], .tuple [.int c, .int d]] = [.tuple [.int a, .int b], .tuple [.int c, .int d]] := srt_of (List.Perm.refl _) h3
  clear h1 h2 h3
  walk_at "dl"
theorem plain4a : F__law_plain [.dat P4a] = some (.d P4a, none) := plain4 (by decide +kernel) (by decide +kernel) (by decide +kernel) (by decide +kernel) (by decide +kernel) (by decide +kernel)
theorem plain4b : F__law_plain [.dat P4b] = some (.d P4b, none) := plain4 (by decide +kernel) (by decide +kernel) (by decide +kernel) (by decide +kernel) (by decide +kernel) (by decide +kernel)
theorem plain4c : F__law_plain [.dat P4c] = some (.d P4c, none) := plain4 (by decide +kernel) (by decide +kernel) (by decide +kernel) (by decide +kernel) (by decide +kernel) (by decide +kernel)
/-! ### tilted squares -/
def Til (n : Nat) (f : Nat → Nat → Int) : Prop := ∀ i j, i < n → j < n → f j i = -f i j
def pf : Nat → (Nat → Nat → Int) → Int
  | 2, f => f 0 1
  | _, f => f 0 1 * f 2 3 - f 0 2 * f 1 3 + f 0 3 * f 1 2
theorem f_pairs_sum {n : Nat} (hn : n = 2 ∨ n = 4) {f : Nat → Nat → Int} (o : Ok n n f) (t : Til n f) : F_pairs_sum [.dat (matD n n f)] = some (.d (.int (pf n f)), none) := by
  have u1 := F_pairs_sum_ap
  have u2 := g_pairs_sum_ap
  have u3 := c_pairs_sum_0_ap
  have u4 := c_pairs_sum_1_ap
  have u5 := b_pairs_sum_0_ap
  have u6 := b_pairs_sum_1_ap
  have e0 := f_check_square o
  have e1 := f_turned_of (f := f) (h := n) (w := n) (by omega) (by omega) (by omega)
  have c0 : ∀ i, i < n → lcL (.nm 7) [7] bYes c_pairs_sum_0 ((List.range n).map fun j => PyData.int (f i j)) [.dat (matD n n f), .un, .un, .un, .un, .un, .dat (rowD n (f i)), .un] = some ((List.range n).map fun j => PyData.int (f j i), [.dat (matD n n f), .un, .un, .un, .un, .un, .dat (rowD n (f i)), .un]) := fun i hi =>
    lcL_nm (v := 7) (te := c_pairs_sum_0) (fun j => PyData.int (f i j)) (fun j => PyData.int (f j i)) _ (List.range n) rfl (fun j hj => by
      rw [t i j hi (List.mem_range.mp hj)]
      clear e0 e1 o t
      walk_at "dl")
  have c1 := lcL_nm (v := 6) (te := c_pairs_sum_1) (fun i => rowD n (f i)) (fun i => rowD n fun j => f j i) [.dat (matD n n f), .un, .un, .un, .un, .un, .un, .un] (List.range n) rfl (fun i hi => by
    have k := c0 i (List.mem_range.mp hi)
    clear e0 e1 o t c0
    walk_at "dl")
  have m := ne_mat n n fun i j => f j i
  have s1 := sign2
  have s2 := sign4a
  have s3 := sign4b
  have s4 := sign4c
  have p2 : F_pairings_of 4 [.dat (.list (rangeD 0 ((2 : Nat) : Int)))] = some (.d (.list P2), none) := pairings2
  have p4 : F_pairings_of 4 [.dat (.list (rangeD 0 ((4 : Nat) : Int)))] = some (.d (.list [P4a, P4b, P4c]), none) := pairings4
  have b := fun i j (hi : i < n) (hj : j < n) => o.2.2 i j hi hj
  clear o t c0
  rcases hn with rfl | rfl
  · have b01 := b 0 1 (by decide) (by decide)
    have r : (1 : Int) * f 0 1 = f 0 1 := by omega
    have z : (0 : Int) + f 0 1 = f 0 1 := by omega
    have r0 : ∀ g : Nat → PyData, L2.atI ((List.range 2).map g) 0 = some (g 0) := fun g => atI_range g (j := 0) (by decide)
    have r1 : ∀ g : Nat → PyData, L2.atI ((List.range 2).map g) 1 = some (g 1) := fun g => atI_range g (j := 1) (by decide)
    have q : pf 2 f = f 0 1 := rfl
    rw [q]
    clear b
    walk_at "dl"
  · have b01 := b 0 1 (by decide) (by decide)
    have b02 := b 0 2 (by decide) (by decide)
    have b03 := b 0 3 (by decide) (by decide)
    have b12 := b 1 2 (by decide) (by decide)
    have b13 := b 1 3 (by decide) (by decide)
    have b23 := b 2 3 (by decide) (by decide)
    have r0 : ∀ g : Nat → PyData, L2.atI ((List.range 4).map g) 0 = some (g 0) := fun g => atI_range g (j := 0) (by decide)
    have r1 : ∀ g : Nat → PyData, L2.atI ((List.range 4).map g) 1 = some (g 1) := fun g => atI_range g (j := 1) (by decide)
    have r2 : ∀ g : Nat → PyData, L2.atI ((List.range 4).map g) 2 = some (g 2) := fun g => atI_range g (j := 2) (by decide)
    have r3 : ∀ g : Nat → PyData, L2.atI ((List.range 4).map g) 3 = some (g 3) := fun g => atI_range g (j := 3) (by decide)
    have q : pf 4 f = 0 + 1 * f 0 1 * f 2 3 + -1 * f 0 2 * f 1 3 + 1 * f 0 3 * f 1 2 := by
      show f 0 1 * f 2 3 - f 0 2 * f 1 3 + f 0 3 * f 1 2 = _
      grind
    rw [q]
    clear b
    walk_at "dl"

end K17

namespace K17
open PySem PySem.Spec PyProof.Rows L2 DL
local macro_rules | `(tactic| walk_at "dl") => `(tactic| simp (disch := first | assumption | omega | (simp only [List.length_map, List.length_cons, List.length_nil, List.length_append, List.length_range]; omega)) only [vd_ch, vd_ch1, vd_ch2, vd_ch3t, vd_ch3f, vd_ch4, vd_ch5t, vd_ch5f, vd_ch6, vd_rn, vd_rn1, vd_pop, vd_popAt, vd_pop0, vd_pop1, vd_pop2, vd_srtT, vk_rg1, vk_rg11, vk_rg2, vk_rg21, vk_rg3, vk_rgok, vk_min, vk_max, vk_srt, vk_rev1, vk_rev2, vk_mul1, k1_some, kP_some, kO_some, qUn_r, qIf_t, qIf_f, vq_var, vq_var_d, vq_var_o, vq_c, vq_bin, vq_bin1, vq_bin2, vq_test, vq_test1, vq_tru, vq_not, vq_not1, vq_ofb, vq_ofb1, vq_note, vq_note1, vq_and, vq_and_t, vq_and_f, vq_or, vq_or_t, vq_or_f, vq_ande, vq_ande_t, vq_ande_f, vq_ore, vq_ore_t, vq_ore_f, vq_if, vq_un, vq_call, vq_callF, vq_items, vq_nil, vq_cons, vq_cons1, vq_cons2, vq_tup, vq_tup1, vq_lst, vq_lst1, vq_l, vq_l1, vq_ixn, vq_ixn_d, vq_ixn_o, vq_ixn_l, vq_ix1, vq_ix2, vq_ix3, vq_onone, vq_osome, vq_osome1, vq_sl, vq_sl1, vq_sl2, vq_sl3, vq_sln, vq_sln0, vq_sln1, vq_sln2, vq_sln3, vq_scr, vq_scr0, vq_scr1, vq_scr2, vq_lenn, vq_lenn_s, vq_lenn_n, vq_lenn2, vq_r1, vq_r11, vq_r2, vq_r21, vq_enum, vq_enum1, vq_enum2, vq_zip, vq_zip1, vq_zip2, vq_zip3, vq_lc, vq_lc1, vq_lc2, vq_yes, vq_snil, vq_seq, vq_seq_nx, vq_seq_rt, vq_seq_rtF, vq_seq_bk, vq_seq_ct, vq_set, vq_set1, vq_setF, vq_setF1, vq_nx, vq_setT, vq_setT1, vq_sif, vq_ret, vq_ret1, vq_retF, vq_retF1, vq_retN, vq_bk, vq_ct, vq_expr, vq_expr1, vq_app, vq_app1, vq_app2, vq_app3, vq_ext, vq_ext1, vq_ext2, vq_ext3, vq_si, vq_si1, vq_si2, vq_si3, vq_si4, vq_si5, vq_for, vq_for1, vq_forl_nil, vq_forl, vq_f1, vq_f_nx, vq_f_ct, vq_f_bk, vq_f_rt, vq_f_rtF, vq_mnil, vq_md, vq_mf, vq_md1, vq_mf1, vq_m2, vq_par, vq_par1, vq_park, vq_park1, vq_asg_nil, vq_asg, vq_asg1, vq_ak_nm, vq_ak, vq_ak1, vq_ak2, vq_ak3, vq_ak4, vq_bind_nm, vq_bind_tp, vq_binds_nil, vq_binds, vq_binds1, vq_run, vq_run_rt, vq_run_rtF, vq_run_nx, vq_kR, vq_kRF, vq_cu, vq_cu1, vq_cuf, vq_cuf1, vq_kL, vq_callL, vq_cl0, vq_cl1, vq_cl2, vq_cle, vq_rv, vq_clf, vq_rvf1, vq_cs, vq_cs1, vq_ch, vq_ch1, vq_ch2, vq_ch3_t, vq_ch3_f, vq_ch4, vq_cat, vq_cat1, vq_cat2, vq_rep, vq_rep1, vq_rep2, vq_ss, vq_ss1, vq_ss2, vq_ss3, vq_okw_nil, vq_okw, vq_okS_d, vq_okS_u, vq_lcl_nil, vq_lcl, vq_c1, vq_c2_t, vq_c2_f, vq_c3, vq_c4, vq_sw, vq_w, vq_w_f, vq_w_t, vq_w_nx, vq_w_ct, vq_w_bk, vq_w_rt, vq_w_rtF, w_len_l, w_len_t, w_abs, w_int, w_intb, w_tup_l, w_tup_t, w_lst_l, w_lst_t, w_neg, w_sub, w_add, w_add_t, w_add_l, w_mul, w_mul_l, w_mul_r, w_mul_ls, w_atI_5, w_atI_6, w_ixN_5, w_mod, w_fdiv, w_pow, w_cmp, w_isn, w_notn, w_isb, w_notb, w_ix_l, w_ix_t, w_sl_l, w_sl_t, w_it_l, w_it_t, w_tru_n, w_tru_b, w_tru_i, w_tru_l, w_tru_t, w_isnone_n, w_isnone_b, w_isnone_i, w_isnone_l, w_isnone_t, w_all_nil, w_cont_own, w_cont_lent, w_cont_dat, w_cont_un, w_cont_scr, w_cont_nil, w_cut, w_cont_succ, w_put_own, w_put_lent, w_put_succ, w_sets_nil, w_sets_nil2, w_sets_cons, w_wipe_nil, w_wipe_cons, w_rest_nil, w_rest_cons, w_lent_lent, w_lent_dat, w_lent_own, w_lent_un, w_lent_scr, w_lent_nil, w_dats_nil, w_dats_cons, w_rvd, w_rvf, w_repl0, w_repl, w_rok, w_ite_le, w_ite_lt, w_rlen, w_dt, w_df, w_neS, if_true, if_false, Option.isSome_some, Option.isSome_none, forall_const, Bool.false_eq_true, false_implies, implies_true, reduceIte, decide_true, decide_false, Bool.not_true, Bool.not_false, Bool.true_and, Bool.and_true, Bool.false_and, Bool.and_false, Bool.or_true, Bool.or_false, Bool.true_or, Bool.false_or, and_self, true_and, and_true, eq_self, reduceCtorEq, gEq_int, gNe_int, gEq_line, gNe_line, gEq_rows, gNe_rows, gEq_bool, gNe_bool, atI_0, atI_1, atI_2, atI_3, atI_4, ixN_0, ixN_1, ixN_2, ixN_3, ixN_4, List.length_cons, List.length_nil, List.length_map, List.length_range, List.length_set, Int.toNat_natCast, List.map_cons, List.map_nil, List.getElem?_cons_zero, List.getElem?_cons_succ, List.set_cons_zero, List.set_cons_succ, List.getD_cons_zero, List.getD_cons_succ, List.append_nil, List.flatten_cons, List.flatten_nil, List.nil_append, List.cons_append, Nat.reduceAdd, Nat.reduceSub, Nat.reduceMul, Nat.reduceEqDiff, Nat.reduceLeDiff, Int.reduceNeg, Int.reduceAdd, Int.reduceSub, Int.reduceMul, Int.reduceLT, Int.reduceLE, Int.reduceEq, Int.reduceGT, Int.reduceGE, Int.reducePow, Int.reduceToNat, isi_int_none, isi_int_bool, isi_int_int, isi_int_str, isi_int_list, isi_int_tuple, isi_bool_none, isi_bool_bool, isi_bool_int, isi_bool_str, isi_bool_list, isi_bool_tuple, isi_tuple_none, isi_tuple_bool, isi_tuple_int, isi_tuple_str, isi_tuple_list, isi_tuple_tuple, isi_list_none, isi_list_bool, isi_list_int, isi_list_str, isi_list_list, isi_list_tuple, isi_str_none, isi_str_bool, isi_str_int, isi_str_str, isi_str_list, isi_str_tuple, *])
/-! ### the square of the pairs' sum -/
theorem pf_det2 {f : Nat → Nat → Int} (t : Til 2 f) : detF 2 f = pf 2 f * pf 2 f := by
  have e : detF 2 f = (1 * f 0 0 * (1 * f 1 1 * 1 + 0) + ((-1) * f 0 1 * (1 * f 1 0 * 1 + 0) + 0)) := by kernel_rfl
  have q : pf 2 f = f 0 1 := rfl
  rw [e, q]
  clear e q
  have z0 : f 0 0 = 0 := by have := t 0 0 (by decide) (by decide); omega
  have z1 : f 1 1 = 0 := by have := t 1 1 (by decide) (by decide); omega
  have z01 := t 0 1 (by decide) (by decide)
  clear t
  rw [z0]
  rw [z1]
  rw [z01]
  grind
theorem pf_det4 {f : Nat → Nat → Int} (t : Til 4 f) : detF 4 f = pf 4 f * pf 4 f := by
  have e : detF 4 f = (1 * f 0 0 * (1 * f 1 1 * (1 * f 2 2 * (1 * f 3 3 * 1 + 0) + ((-1) * f 2 3 * (1 * f 3 2 * 1 + 0) + 0)) + ((-1) * f 1 2 * (1 * f 2 1 * (1 * f 3 3 * 1 + 0) + ((-1) * f 2 3 * (1 * f 3 1 * 1 + 0) + 0)) + (1 * f 1 3 * (1 * f 2 1 * (1 * f 3 2 * 1 + 0) + ((-1) * f 2 2 * (1 * f 3 1 * 1 + 0) + 0)) + 0))) + ((-1) * f 0 1 * (1 * f 1 0 * (1 * f 2 2 * (1 * f 3 3 * 1 + 0) + ((-1) * f 2 3 * (1 * f 3 2 * 1 + 0) + 0)) + ((-1) * f 1 2 * (1 * f 2 0 * (1 * f 3 3 * 1 + 0) + ((-1) * f 2 3 * (1 * f 3 0 * 1 + 0) + 0)) + (1 * f 1 3 * (1 * f 2 0 * (1 * f 3 2 * 1 + 0) + ((-1) * f 2 2 * (1 * f 3 0 * 1 + 0) + 0)) + 0))) + (1 * f 0 2 * (1 * f 1 0 * (1 * f 2 1 * (1 * f 3 3 * 1 + 0) + ((-1) * f 2 3 * (1 * f 3 1 * 1 + 0) + 0)) + ((-1) * f 1 1 * (1 * f 2 0 * (1 * f 3 3 * 1 + 0) + ((-1) * f 2 3 * (1 * f 3 0 * 1 + 0) + 0)) + (1 * f 1 3 * (1 * f 2 0 * (1 * f 3 1 * 1 + 0) + ((-1) * f 2 1 * (1 * f 3 0 * 1 + 0) + 0)) + 0))) + ((-1) * f 0 3 * (1 * f 1 0 * (1 * f 2 1 * (1 * f 3 2 * 1 + 0) + ((-1) * f 2 2 * (1 * f 3 1 * 1 + 0) + 0)) + ((-1) * f 1 1 * (1 * f 2 0 * (1 * f 3 2 * 1 + 0) + ((-1) * f 2 2 * (1 * f 3 0 * 1 + 0) + 0)) + (1 * f 1 2 * (1 * f 2 0 * (1 * f 3 1 * 1 + 0) + ((-1) * f 2 1 * (1 * f 3 0 * 1 + 0) + 0)) + 0))) + 0)))) := by kernel_rfl
  have q : pf 4 f = f 0 1 * f 2 3 - f 0 2 * f 1 3 + f 0 3 * f 1 2 := rfl
  rw [e, q]
  clear e q
  have z0 : f 0 0 = 0 := by have := t 0 0 (by decide) (by decide); omega
  have z1 : f 1 1 = 0 := by have := t 1 1 (by decide) (by decide); omega
  have z01 := t 0 1 (by decide) (by decide)
  have z2 : f 2 2 = 0 := by have := t 2 2 (by decide) (by decide); omega
  have z02 := t 0 2 (by decide) (by decide)
  have z12 := t 1 2 (by decide) (by decide)
  have z3 : f 3 3 = 0 := by have := t 3 3 (by decide) (by decide); omega
  have z03 := t 0 3 (by decide) (by decide)
  have z13 := t 1 3 (by decide) (by decide)
  have z23 := t 2 3 (by decide) (by decide)
  clear t
  rw [z0]
  rw [z1]
  rw [z01]
  rw [z2]
  rw [z02]
  rw [z12]
  rw [z3]
  rw [z03]
  rw [z13]
  rw [z23]
  grind
/-! ### led about -/
def ledF2 (g f : Nat → Nat → Int) (i j : Nat) : Int := f 0 1 * (g i 0 * g j 1 - g i 1 * g j 0)
theorem led_is2 {g f : Nat → Nat → Int} (t : Til 2 f) (i j : Nat) : mulF 2 (mulF 2 g f) (fun a b => g b a) i j = ledF2 g f i j := by
  have e : mulF 2 (mulF 2 g f) (fun a b => g b a) i j = (g i 0 * f 0 0 + g i 1 * f 1 0) * g j 0 + (g i 0 * f 0 1 + g i 1 * f 1 1) * g j 1 := by
    unfold mulF
    have s : ∀ h : Nat → Int, DL.sumTo 2 h = h 0 + (h 1 + 0) := fun h => rfl
    simp only [s, Int.add_zero, ← Int.add_assoc]
  rw [e]
  unfold ledF2
  clear e
  have z0 : f 0 0 = 0 := by have := t 0 0 (by decide) (by decide); omega
  have z1 : f 1 1 = 0 := by have := t 1 1 (by decide) (by decide); omega
  have z01 := t 0 1 (by decide) (by decide)
  clear t
  rw [z0]
  rw [z1]
  rw [z01]
  grind
theorem pf_led2 (g f : Nat → Nat → Int) : pf 2 (ledF2 g f) = detF 2 g * pf 2 f := by
  have e : detF 2 g = (1 * g 0 0 * (1 * g 1 1 * 1 + 0) + ((-1) * g 0 1 * (1 * g 1 0 * 1 + 0) + 0)) := by kernel_rfl
  have q : ∀ h : Nat → Nat → Int, pf 2 h = h 0 1 := fun h => rfl
  rw [e, q, q]
  unfold ledF2
  clear e q
  generalize g 0 0 = g00 at *
  generalize g 0 1 = g01 at *
  generalize g 1 0 = g10 at *
  generalize g 1 1 = g11 at *
  generalize f 0 1 = f01 at *
  grind
def ledF4 (g f : Nat → Nat → Int) (i j : Nat) : Int := f 0 1 * (g i 0 * g j 1 - g i 1 * g j 0) + f 0 2 * (g i 0 * g j 2 - g i 2 * g j 0) + f 0 3 * (g i 0 * g j 3 - g i 3 * g j 0) + f 1 2 * (g i 1 * g j 2 - g i 2 * g j 1) + f 1 3 * (g i 1 * g j 3 - g i 3 * g j 1) + f 2 3 * (g i 2 * g j 3 - g i 3 * g j 2)
theorem led_is4 {g f : Nat → Nat → Int} (t : Til 4 f) (i j : Nat) : mulF 4 (mulF 4 g f) (fun a b => g b a) i j = ledF4 g f i j := by
  have e : mulF 4 (mulF 4 g f) (fun a b => g b a) i j = (g i 0 * f 0 0 + g i 1 * f 1 0 + g i 2 * f 2 0 + g i 3 * f 3 0) * g j 0 + (g i 0 * f 0 1 + g i 1 * f 1 1 + g i 2 * f 2 1 + g i 3 * f 3 1) * g j 1 + (g i 0 * f 0 2 + g i 1 * f 1 2 + g i 2 * f 2 2 + g i 3 * f 3 2) * g j 2 + (g i 0 * f 0 3 + g i 1 * f 1 3 + g i 2 * f 2 3 + g i 3 * f 3 3) * g j 3 := by
    unfold mulF
    have s : ∀ h : Nat → Int, DL.sumTo 4 h = h 0 + (h 1 + (h 2 + (h 3 + 0))) := fun h => rfl
    simp only [s, Int.add_zero, ← Int.add_assoc]
  rw [e]
  unfold ledF4
  clear e
  have z0 : f 0 0 = 0 := by have := t 0 0 (by decide) (by decide); omega
  have z1 : f 1 1 = 0 := by have := t 1 1 (by decide) (by decide); omega
  have z01 := t 0 1 (by decide) (by decide)
  have z2 : f 2 2 = 0 := by have := t 2 2 (by decide) (by decide); omega
  have z02 := t 0 2 (by decide) (by decide)
  have z12 := t 1 2 (by decide) (by decide)
  have z3 : f 3 3 = 0 := by have := t 3 3 (by decide) (by decide); omega
  have z03 := t 0 3 (by decide) (by decide)
  have z13 := t 1 3 (by decide) (by decide)
  have z23 := t 2 3 (by decide) (by decide)
  clear t
  rw [z0]
  rw [z1]
  rw [z01]
  rw [z2]
  rw [z02]
  rw [z12]
  rw [z3]
  rw [z03]
  rw [z13]
  rw [z23]
  grind
theorem pf_led4 (g f : Nat → Nat → Int) : pf 4 (ledF4 g f) = detF 4 g * pf 4 f := by
  have e : detF 4 g = (1 * g 0 0 * (1 * g 1 1 * (1 * g 2 2 * (1 * g 3 3 * 1 + 0) + ((-1) * g 2 3 * (1 * g 3 2 * 1 + 0) + 0)) + ((-1) * g 1 2 * (1 * g 2 1 * (1 * g 3 3 * 1 + 0) + ((-1) * g 2 3 * (1 * g 3 1 * 1 + 0) + 0)) + (1 * g 1 3 * (1 * g 2 1 * (1 * g 3 2 * 1 + 0) + ((-1) * g 2 2 * (1 * g 3 1 * 1 + 0) + 0)) + 0))) + ((-1) * g 0 1 * (1 * g 1 0 * (1 * g 2 2 * (1 * g 3 3 * 1 + 0) + ((-1) * g 2 3 * (1 * g 3 2 * 1 + 0) + 0)) + ((-1) * g 1 2 * (1 * g 2 0 * (1 * g 3 3 * 1 + 0) + ((-1) * g 2 3 * (1 * g 3 0 * 1 + 0) + 0)) + (1 * g 1 3 * (1 * g 2 0 * (1 * g 3 2 * 1 + 0) + ((-1) * g 2 2 * (1 * g 3 0 * 1 + 0) + 0)) + 0))) + (1 * g 0 2 * (1 * g 1 0 * (1 * g 2 1 * (1 * g 3 3 * 1 + 0) + ((-1) * g 2 3 * (1 * g 3 1 * 1 + 0) + 0)) + ((-1) * g 1 1 * (1 * g 2 0 * (1 * g 3 3 * 1 + 0) + ((-1) * g 2 3 * (1 * g 3 0 * 1 + 0) + 0)) + (1 * g 1 3 * (1 * g 2 0 * (1 * g 3 1 * 1 + 0) + ((-1) * g 2 1 * (1 * g 3 0 * 1 + 0) + 0)) + 0))) + ((-1) * g 0 3 * (1 * g 1 0 * (1 * g 2 1 * (1 * g 3 2 * 1 + 0) + ((-1) * g 2 2 * (1 * g 3 1 * 1 + 0) + 0)) + ((-1) * g 1 1 * (1 * g 2 0 * (1 * g 3 2 * 1 + 0) + ((-1) * g 2 2 * (1 * g 3 0 * 1 + 0) + 0)) + (1 * g 1 2 * (1 * g 2 0 * (1 * g 3 1 * 1 + 0) + ((-1) * g 2 1 * (1 * g 3 0 * 1 + 0) + 0)) + 0))) + 0)))) := by kernel_rfl
  have q : ∀ h : Nat → Nat → Int, pf 4 h = h 0 1 * h 2 3 - h 0 2 * h 1 3 + h 0 3 * h 1 2 := fun h => rfl
  rw [e, q, q]
  unfold ledF4
  clear e q
  generalize g 0 0 = g00 at *
  generalize g 0 1 = g01 at *
  generalize g 0 2 = g02 at *
  generalize g 0 3 = g03 at *
  generalize g 1 0 = g10 at *
  generalize g 1 1 = g11 at *
  generalize g 1 2 = g12 at *
  generalize g 1 3 = g13 at *
  generalize g 2 0 = g20 at *
  generalize g 2 1 = g21 at *
  generalize g 2 2 = g22 at *
  generalize g 2 3 = g23 at *
  generalize g 3 0 = g30 at *
  generalize g 3 1 = g31 at *
  generalize g 3 2 = g32 at *
  generalize g 3 3 = g33 at *
  generalize f 0 1 = f01 at *
  generalize f 0 2 = f02 at *
  generalize f 0 3 = f03 at *
  generalize f 1 2 = f12 at *
  generalize f 1 3 = f13 at *
  generalize f 2 3 = f23 at *
  grind
theorem led_til {n : Nat} (hn : n = 2 ∨ n = 4) (g f : Nat → Nat → Int) (t : Til n f) : Til n (mulF n (mulF n g f) fun a b => g b a) := by
  intro i j hi hj
  rcases hn with rfl | rfl
  · rw [led_is2 t, led_is2 t]
    unfold ledF2
    grind
  · rw [led_is4 t, led_is4 t]
    unfold ledF4
    grind
theorem pf_congr {n : Nat} (hn : n = 2 ∨ n = 4) {f g : Nat → Nat → Int} (h : ∀ i j, i < n → j < n → f i j = g i j) : pf n f = pf n g := by
  rcases hn with rfl | rfl
  · exact h 0 1 (by decide) (by decide)
  · show f 0 1 * f 2 3 - f 0 2 * f 1 3 + f 0 3 * f 1 2 = g 0 1 * g 2 3 - g 0 2 * g 1 3 + g 0 3 * g 1 2
    rw [h 0 1 (by decide) (by decide), h 2 3 (by decide) (by decide), h 0 2 (by decide) (by decide), h 1 3 (by decide) (by decide), h 0 3 (by decide) (by decide), h 1 2 (by decide) (by decide)]
theorem pf_led {n : Nat} (hn : n = 2 ∨ n = 4) (g f : Nat → Nat → Int) (t : Til n f) : pf n (mulF n (mulF n g f) fun a b => g b a) = detF n g * pf n f := by
  rcases hn with rfl | rfl
  · exact (pf_congr (.inl rfl) fun i j _ _ => led_is2 t i j).trans (pf_led2 g f)
  · exact (pf_congr (.inr rfl) fun i j _ _ => led_is4 t i j).trans (pf_led4 g f)
theorem pf_det {n : Nat} (hn : n = 2 ∨ n = 4) {f : Nat → Nat → Int} (t : Til n f) : detF n f = pf n f * pf n f := by
  rcases hn with rfl | rfl
  · exact pf_det2 t
  · exact pf_det4 t

end K17

namespace K17
open PySem PySem.Spec PyProof.Rows L2 DL
local macro_rules | `(tactic| walk_at "dl") => `(tactic| simp (disch := first | assumption | omega | (simp only [List.length_map, List.length_cons, List.length_nil, List.length_append, List.length_range]; omega)) only [vd_ch, vd_ch1, vd_ch2, vd_ch3t, vd_ch3f, vd_ch4, vd_ch5t, vd_ch5f, vd_ch6, vd_rn, vd_rn1, vd_pop, vd_popAt, vd_pop0, vd_pop1, vd_pop2, vd_srtT, vk_rg1, vk_rg11, vk_rg2, vk_rg21, vk_rg3, vk_rgok, vk_min, vk_max, vk_srt, vk_rev1, vk_rev2, vk_mul1, k1_some, kP_some, kO_some, qUn_r, qIf_t, qIf_f, vq_var, vq_var_d, vq_var_o, vq_c, vq_bin, vq_bin1, vq_bin2, vq_test, vq_test1, vq_tru, vq_not, vq_not1, vq_ofb, vq_ofb1, vq_note, vq_note1, vq_and, vq_and_t, vq_and_f, vq_or, vq_or_t, vq_or_f, vq_ande, vq_ande_t, vq_ande_f, vq_ore, vq_ore_t, vq_ore_f, vq_if, vq_un, vq_call, vq_callF, vq_items, vq_nil, vq_cons, vq_cons1, vq_cons2, vq_tup, vq_tup1, vq_lst, vq_lst1, vq_l, vq_l1, vq_ixn, vq_ixn_d, vq_ixn_o, vq_ixn_l, vq_ix1, vq_ix2, vq_ix3, vq_onone, vq_osome, vq_osome1, vq_sl, vq_sl1, vq_sl2, vq_sl3, vq_sln, vq_sln0, vq_sln1, vq_sln2, vq_sln3, vq_scr, vq_scr0, vq_scr1, vq_scr2, vq_lenn, vq_lenn_s, vq_lenn_n, vq_lenn2, vq_r1, vq_r11, vq_r2, vq_r21, vq_enum, vq_enum1, vq_enum2, vq_zip, vq_zip1, vq_zip2, vq_zip3, vq_lc, vq_lc1, vq_lc2, vq_yes, vq_snil, vq_seq, vq_seq_nx, vq_seq_rt, vq_seq_rtF, vq_seq_bk, vq_seq_ct, vq_set, vq_set1, vq_setF, vq_setF1, vq_nx, vq_setT, vq_setT1, vq_sif, vq_ret, vq_ret1, vq_retF, vq_retF1, vq_retN, vq_bk, vq_ct, vq_expr, vq_expr1, vq_app, vq_app1, vq_app2, vq_app3, vq_ext, vq_ext1, vq_ext2, vq_ext3, vq_si, vq_si1, vq_si2, vq_si3, vq_si4, vq_si5, vq_for, vq_for1, vq_forl_nil, vq_forl, vq_f1, vq_f_nx, vq_f_ct, vq_f_bk, vq_f_rt, vq_f_rtF, vq_mnil, vq_md, vq_mf, vq_md1, vq_mf1, vq_m2, vq_par, vq_par1, vq_park, vq_park1, vq_asg_nil, vq_asg, vq_asg1, vq_ak_nm, vq_ak, vq_ak1, vq_ak2, vq_ak3, vq_ak4, vq_bind_nm, vq_bind_tp, vq_binds_nil, vq_binds, vq_binds1, vq_run, vq_run_rt, vq_run_rtF, vq_run_nx, vq_kR, vq_kRF, vq_cu, vq_cu1, vq_cuf, vq_cuf1, vq_kL, vq_callL, vq_cl0, vq_cl1, vq_cl2, vq_cle, vq_rv, vq_clf, vq_rvf1, vq_cs, vq_cs1, vq_ch, vq_ch1, vq_ch2, vq_ch3_t, vq_ch3_f, vq_ch4, vq_cat, vq_cat1, vq_cat2, vq_rep, vq_rep1, vq_rep2, vq_ss, vq_ss1, vq_ss2, vq_ss3, vq_okw_nil, vq_okw, vq_okS_d, vq_okS_u, vq_lcl_nil, vq_lcl, vq_c1, vq_c2_t, vq_c2_f, vq_c3, vq_c4, vq_sw, vq_w, vq_w_f, vq_w_t, vq_w_nx, vq_w_ct, vq_w_bk, vq_w_rt, vq_w_rtF, w_len_l, w_len_t, w_abs, w_int, w_intb, w_tup_l, w_tup_t, w_lst_l, w_lst_t, w_neg, w_sub, w_add, w_add_t, w_add_l, w_mul, w_mul_l, w_mul_r, w_mul_ls, w_atI_5, w_atI_6, w_ixN_5, w_mod, w_fdiv, w_pow, w_cmp, w_isn, w_notn, w_isb, w_notb, w_ix_l, w_ix_t, w_sl_l, w_sl_t, w_it_l, w_it_t, w_tru_n, w_tru_b, w_tru_i, w_tru_l, w_tru_t, w_isnone_n, w_isnone_b, w_isnone_i, w_isnone_l, w_isnone_t, w_all_nil, w_cont_own, w_cont_lent, w_cont_dat, w_cont_un, w_cont_scr, w_cont_nil, w_cut, w_cont_succ, w_put_own, w_put_lent, w_put_succ, w_sets_nil, w_sets_nil2, w_sets_cons, w_wipe_nil, w_wipe_cons, w_rest_nil, w_rest_cons, w_lent_lent, w_lent_dat, w_lent_own, w_lent_un, w_lent_scr, w_lent_nil, w_dats_nil, w_dats_cons, w_rvd, w_rvf, w_repl0, w_repl, w_rok, w_ite_le, w_ite_lt, w_rlen, w_dt, w_df, w_neS, if_true, if_false, Option.isSome_some, Option.isSome_none, forall_const, Bool.false_eq_true, false_implies, implies_true, reduceIte, decide_true, decide_false, Bool.not_true, Bool.not_false, Bool.true_and, Bool.and_true, Bool.false_and, Bool.and_false, Bool.or_true, Bool.or_false, Bool.true_or, Bool.false_or, and_self, true_and, and_true, eq_self, reduceCtorEq, gEq_int, gNe_int, gEq_line, gNe_line, gEq_rows, gNe_rows, gEq_bool, gNe_bool, atI_0, atI_1, atI_2, atI_3, atI_4, ixN_0, ixN_1, ixN_2, ixN_3, ixN_4, List.length_cons, List.length_nil, List.length_map, List.length_range, List.length_set, Int.toNat_natCast, List.map_cons, List.map_nil, List.getElem?_cons_zero, List.getElem?_cons_succ, List.set_cons_zero, List.set_cons_succ, List.getD_cons_zero, List.getD_cons_succ, List.append_nil, List.flatten_cons, List.flatten_nil, List.nil_append, List.cons_append, Nat.reduceAdd, Nat.reduceSub, Nat.reduceMul, Nat.reduceEqDiff, Nat.reduceLeDiff, Int.reduceNeg, Int.reduceAdd, Int.reduceSub, Int.reduceMul, Int.reduceLT, Int.reduceLE, Int.reduceEq, Int.reduceGT, Int.reduceGE, Int.reducePow, Int.reduceToNat, isi_int_none, isi_int_bool, isi_int_int, isi_int_str, isi_int_list, isi_int_tuple, isi_bool_none, isi_bool_bool, isi_bool_int, isi_bool_str, isi_bool_list, isi_bool_tuple, isi_tuple_none, isi_tuple_bool, isi_tuple_int, isi_tuple_str, isi_tuple_list, isi_tuple_tuple, isi_list_none, isi_list_bool, isi_list_int, isi_list_str, isi_list_list, isi_list_tuple, isi_str_none, isi_str_bool, isi_str_int, isi_str_str, isi_str_list, isi_str_tuple, *])
/-! ### the greatest number of rows -/
def absI (x : Int) : Int := if x < 0 then -x else x
def mx (h w : Nat) (g : Nat → Nat → Int) : Int := maxL ((List.range h).map fun i => maxL ((List.range w).map fun j => absI (g i j)))
theorem mx_iff {h w : Nat} (h0 : 0 < h) (w0 : 0 < w) (g : Nat → Nat → Int) (B : Int) : mx h w g < B ↔ ∀ i j, i < h → j < w → absI (g i j) < B := by
  have ne : ∀ {n : Nat}, 0 < n → ∀ F : Nat → Int, (List.range n).map F ≠ [] := fun hn F e => by
    have := congrArg List.length e
    rw [len_range, List.length_nil] at this
    omega
  constructor
  · intro q i j hi hj
    have h1 := (maxL_lt (ne h0 _)).mp q _ (List.mem_map.mpr ⟨i, List.mem_range.mpr hi, rfl⟩)
    exact (maxL_lt (ne w0 _)).mp h1 _ (List.mem_map.mpr ⟨j, List.mem_range.mpr hj, rfl⟩)
  · intro q
    refine (maxL_lt (ne h0 _)).mpr fun x hx => ?_
    obtain ⟨i, hi, rfl⟩ := List.mem_map.mp hx
    refine (maxL_lt (ne w0 _)).mpr fun y hy => ?_
    obtain ⟨j, hj, rfl⟩ := List.mem_map.mp hy
    exact q i j (List.mem_range.mp hi) (List.mem_range.mp hj)
theorem abs_lt {x B : Int} : absI x < B ↔ -B < x ∧ x < B := by
  unfold absI
  split <;> omega
/-! ### drawn tilted squares -/
def tilF (g : Nat → Nat → Int) (i j : Nat) : Int := if j > i then g i j else if j < i then 0 - g j i else 0
theorem til_til (n : Nat) (g : Nat → Nat → Int) : Til n (tilF g) := fun i j _ _ => by
  unfold tilF
  by_cases h1 : i < j
  · rw [if_neg (show ¬ i > j by omega), if_pos (show i < j by omega), if_pos (show j > i by omega)]
    omega
  · by_cases h2 : j < i
    · rw [if_pos (show i > j by omega), if_neg (show ¬ j > i by omega), if_pos (show j < i by omega)]
      omega
    · rw [if_neg (show ¬ i > j by omega), if_neg (show ¬ i < j by omega), if_neg (show ¬ j > i by omega), if_neg (show ¬ j < i by omega)]
      rfl
theorem tl_0 {n : Nat} (n1 : n ≤ 100) (g : Nat → Nat → Int) (hd : List PyData) (m : Sl) : ∀ (d c : Nat) (xs : List PyData) (s5 : Sl), c + d = n → xs.length + d ≤ 1000 → ∃ t5, forL (.nm 5) b__law_tilted_0 ((List.range' c d).map fun (j : Nat) => PyData.int (j : Nat)) [.lent hd, .dat (.int (n : Nat)), m, .dat (matD n n g), .own xs, s5, .un] = some (.nx [.lent hd, .dat (.int (n : Nat)), m, .dat (matD n n g), .own (xs ++ (List.range' c d).map fun i => rowD n (tilF g i)), t5, .un])
  | 0, c, xs, s5, hc, hx => ⟨s5, by
    rw [show List.range' c 0 = [] from rfl, List.map_nil, List.map_nil, List.append_nil]
    rfl⟩
  | d + 1, c, xs, s5, hc, hx => by
    obtain ⟨t5, e⟩ := tl_0 n1 g hd m d (c + 1) (xs ++ [rowD n (tilF g c)]) (.dat (.int (c : Nat))) (by omega) (by rw [List.length_append, List.length_cons, List.length_nil]; omega)
    rw [List.append_assoc] at e
    have u := b__law_tilted_0_ap
    have u2 := c__law_tilted_0_ap
    have c0 := lcL_nm (v := 6) (te := c__law_tilted_0) (fun (j : Nat) => PyData.int (j : Nat)) (fun j => PyData.int (tilF g c j)) [.lent hd, .dat (.int (n : Nat)), m, .dat (matD n n g), .own xs, .dat (.int (c : Nat)), .un] (List.range n) rfl (fun j hj => by
      have hj := List.mem_range.mp hj
      have a1 := atI_range (fun i => rowD n (g i)) (show c < n by omega)
      have a2 := atI_range (fun i => rowD n (g i)) hj
      have a3 := atI_range (fun j => PyData.int (g c j)) hj
      have a4 := atI_range (fun i => PyData.int (g j i)) (show c < n by omega)
      unfold tilF
      clear e
      by_cases h1 : c < j
      · have h1' : (j : Int) > (c : Int) := by omega
        rw [if_pos (show j > c by omega)]
        walk_at "dl"
      · have h1' : ¬ (j : Int) > (c : Int) := by omega
        rw [if_neg (show ¬ j > c by omega)]
        by_cases h2 : j < c
        · have h2' : (j : Int) < (c : Int) := by omega
          rw [if_pos h2]
          walk_at "dl"
        · have h2' : ¬ (j : Int) < (c : Int) := by omega
          rw [if_neg h2]
          walk_at "dl")
    rw [← w_range0] at c0
    refine ⟨t5, ?_⟩
    rw [show List.range' c (d + 1) = c :: List.range' (c + 1) d from rfl, List.map_cons, List.map_cons]
    generalize ((List.range' (c + 1) d).map fun i => rowD n (tilF g i)) = Y at *
    walk_at "dl"
theorem f_tilted {hd : List PyData} (H : Hand hd) {n : Nat} (n1 : n ≤ 100) {m : Int} (m0 : 0 ≤ m) (m1 : m ≤ 1000) : ∃ f hd', F__law_tilted [.lent hd, .dat (.int (n : Nat)), .dat (.int m)] = some (.d (matD n n f), some hd') ∧ Til n f ∧ (∀ i j, i < n → j < n → -m ≤ f i j ∧ f i j ≤ m) ∧ Hand hd' := by
  obtain ⟨g, hd', e1, hb, H'⟩ := f_rows H m0 m1 n n n1 n1
  refine ⟨tilF g, hd', ?_, til_til n g, fun i j hi hj => ?_, H'⟩
  · have u := F__law_tilted_ap
    have u2 := g__law_tilted_ap
    obtain ⟨t5, e⟩ := tl_0 n1 g hd' (.dat (.int m)) n 0 [] .un (by omega) (by rw [List.length_nil]; omega)
    rw [← List.range_eq_range', List.nil_append, ← w_range0] at e
    clear H H' hb
    walk_at "dl"
  · have b1 := hb i j hi hj
    have b2 := hb j i hj hi
    unfold tilF
    split
    · exact b1
    · split <;> omega
theorem f_lpairs {n : Nat} (hn : n = 2 ∨ n = 4) {f : Nat → Nat → Int} (b : ∀ i j, i < n → j < n → -30 ≤ f i j ∧ f i j ≤ 30) : F__law_pairs_sum [.dat (matD n n f)] = some (.d (.int (pf n f)), none) := by
  have u1 := F__law_pairs_sum_ap
  have u2 := g__law_pairs_sum_ap
  rcases hn with rfl | rfl
  · have r0 : ∀ g : Nat → PyData, L2.atI ((List.range 2).map g) 0 = some (g 0) := fun g => atI_range g (j := 0) (by decide)
    have r1 : ∀ g : Nat → PyData, L2.atI ((List.range 2).map g) 1 = some (g 1) := fun g => atI_range g (j := 1) (by decide)
    have q : pf 2 f = f 0 1 := rfl
    rw [q]
    clear b
    walk_at "dl"
  · have b01 := b 0 1 (by decide) (by decide)
    have b02 := b 0 2 (by decide) (by decide)
    have b03 := b 0 3 (by decide) (by decide)
    have r0 : ∀ g : Nat → PyData, L2.atI ((List.range 4).map g) 0 = some (g 0) := fun g => atI_range g (j := 0) (by decide)
    have r1 : ∀ g : Nat → PyData, L2.atI ((List.range 4).map g) 1 = some (g 1) := fun g => atI_range g (j := 1) (by decide)
    have r2 : ∀ g : Nat → PyData, L2.atI ((List.range 4).map g) 2 = some (g 2) := fun g => atI_range g (j := 2) (by decide)
    have r3 : ∀ g : Nat → PyData, L2.atI ((List.range 4).map g) 3 = some (g 3) := fun g => atI_range g (j := 3) (by decide)
    have q : pf 4 f = f 0 1 * f 2 3 - f 0 2 * f 1 3 + f 0 3 * f 1 2 := rfl
    rw [q]
    clear b
    walk_at "dl"

/-! ### two places exchanged -/
def swp (i j t : Nat) : Nat := if t = i then j else if t = j then i else t
theorem swp_lt {n i j t : Nat} (hi : i < n) (hj : j < n) (ht : t < n) : swp i j t < n := by
  unfold swp
  split
  · exact hj
  · split
    · exact hi
    · exact ht
theorem pf_sw2_01 {f : Nat → Nat → Int} (t : Til 2 f) : pf 2 (fun a b => f (swp 0 1 a) (swp 0 1 b)) = 0 - pf 2 f := by
  show f 1 0 = 0 - f 0 1
  have z01 := t 0 1 (by decide) (by decide)
  clear t
  grind
theorem pf_sw4_01 {f : Nat → Nat → Int} (t : Til 4 f) : pf 4 (fun a b => f (swp 0 1 a) (swp 0 1 b)) = 0 - pf 4 f := by
  show f 1 0 * f 2 3 - f 1 2 * f 0 3 + f 1 3 * f 0 2 = 0 - (f 0 1 * f 2 3 - f 0 2 * f 1 3 + f 0 3 * f 1 2)
  have z01 := t 0 1 (by decide) (by decide)
  have z02 := t 0 2 (by decide) (by decide)
  have z03 := t 0 3 (by decide) (by decide)
  have z12 := t 1 2 (by decide) (by decide)
  have z13 := t 1 3 (by decide) (by decide)
  have z23 := t 2 3 (by decide) (by decide)
  clear t
  grind
theorem pf_sw4_02 {f : Nat → Nat → Int} (t : Til 4 f) : pf 4 (fun a b => f (swp 0 2 a) (swp 0 2 b)) = 0 - pf 4 f := by
  show f 2 1 * f 0 3 - f 2 0 * f 1 3 + f 2 3 * f 1 0 = 0 - (f 0 1 * f 2 3 - f 0 2 * f 1 3 + f 0 3 * f 1 2)
  have z01 := t 0 1 (by decide) (by decide)
  have z02 := t 0 2 (by decide) (by decide)
  have z03 := t 0 3 (by decide) (by decide)
  have z12 := t 1 2 (by decide) (by decide)
  have z13 := t 1 3 (by decide) (by decide)
  have z23 := t 2 3 (by decide) (by decide)
  clear t
  grind
theorem pf_sw4_03 {f : Nat → Nat → Int} (t : Til 4 f) : pf 4 (fun a b => f (swp 0 3 a) (swp 0 3 b)) = 0 - pf 4 f := by
  show f 3 1 * f 2 0 - f 3 2 * f 1 0 + f 3 0 * f 1 2 = 0 - (f 0 1 * f 2 3 - f 0 2 * f 1 3 + f 0 3 * f 1 2)
  have z01 := t 0 1 (by decide) (by decide)
  have z02 := t 0 2 (by decide) (by decide)
  have z03 := t 0 3 (by decide) (by decide)
  have z12 := t 1 2 (by decide) (by decide)
  have z13 := t 1 3 (by decide) (by decide)
  have z23 := t 2 3 (by decide) (by decide)
  clear t
  grind
theorem pf_sw4_12 {f : Nat → Nat → Int} (t : Til 4 f) : pf 4 (fun a b => f (swp 1 2 a) (swp 1 2 b)) = 0 - pf 4 f := by
  show f 0 2 * f 1 3 - f 0 1 * f 2 3 + f 0 3 * f 2 1 = 0 - (f 0 1 * f 2 3 - f 0 2 * f 1 3 + f 0 3 * f 1 2)
  have z01 := t 0 1 (by decide) (by decide)
  have z02 := t 0 2 (by decide) (by decide)
  have z03 := t 0 3 (by decide) (by decide)
  have z12 := t 1 2 (by decide) (by decide)
  have z13 := t 1 3 (by decide) (by decide)
  have z23 := t 2 3 (by decide) (by decide)
  clear t
  grind
theorem pf_sw4_13 {f : Nat → Nat → Int} (t : Til 4 f) : pf 4 (fun a b => f (swp 1 3 a) (swp 1 3 b)) = 0 - pf 4 f := by
  show f 0 3 * f 2 1 - f 0 2 * f 3 1 + f 0 1 * f 3 2 = 0 - (f 0 1 * f 2 3 - f 0 2 * f 1 3 + f 0 3 * f 1 2)
  have z01 := t 0 1 (by decide) (by decide)
  have z02 := t 0 2 (by decide) (by decide)
  have z03 := t 0 3 (by decide) (by decide)
  have z12 := t 1 2 (by decide) (by decide)
  have z13 := t 1 3 (by decide) (by decide)
  have z23 := t 2 3 (by decide) (by decide)
  clear t
  grind
theorem pf_sw4_23 {f : Nat → Nat → Int} (t : Til 4 f) : pf 4 (fun a b => f (swp 2 3 a) (swp 2 3 b)) = 0 - pf 4 f := by
  show f 0 1 * f 3 2 - f 0 3 * f 1 2 + f 0 2 * f 1 3 = 0 - (f 0 1 * f 2 3 - f 0 2 * f 1 3 + f 0 3 * f 1 2)
  have z01 := t 0 1 (by decide) (by decide)
  have z02 := t 0 2 (by decide) (by decide)
  have z03 := t 0 3 (by decide) (by decide)
  have z12 := t 1 2 (by decide) (by decide)
  have z13 := t 1 3 (by decide) (by decide)
  have z23 := t 2 3 (by decide) (by decide)
  clear t
  grind
theorem pf_sw {n : Nat} (hn : n = 2 ∨ n = 4) {f : Nat → Nat → Int} (t : Til n f) {i j : Nat} (hij : i < j) (hj : j < n) : pf n (fun a b => f (swp i j a) (swp i j b)) = 0 - pf n f := by
  rcases hn with rfl | rfl
  · obtain ⟨rfl, rfl⟩ : i = 0 ∧ j = 1 := by omega
    exact pf_sw2_01 t
  · rcases (show (i = 0 ∧ j = 1) ∨ (i = 0 ∧ j = 2) ∨ (i = 0 ∧ j = 3) ∨ (i = 1 ∧ j = 2) ∨ (i = 1 ∧ j = 3) ∨ (i = 2 ∧ j = 3) by omega) with ⟨rfl, rfl⟩ | ⟨rfl, rfl⟩ | ⟨rfl, rfl⟩ | ⟨rfl, rfl⟩ | ⟨rfl, rfl⟩ | ⟨rfl, rfl⟩
    · exact pf_sw4_01 t
    · exact pf_sw4_02 t
    · exact pf_sw4_03 t
    · exact pf_sw4_12 t
    · exact pf_sw4_13 t
    · exact pf_sw4_23 t
theorem pf_b {n : Nat} (hn : n = 2 ∨ n = 4) {f : Nat → Nat → Int} (b : ∀ i j, i < n → j < n → -30 ≤ f i j ∧ f i j ≤ 30) : -3000 ≤ pf n f ∧ pf n f ≤ 3000 := by
  rcases hn with rfl | rfl
  · have := b 0 1 (by decide) (by decide)
    show -3000 ≤ f 0 1 ∧ f 0 1 ≤ 3000
    omega
  · show -3000 ≤ f 0 1 * f 2 3 - f 0 2 * f 1 3 + f 0 3 * f 1 2 ∧ f 0 1 * f 2 3 - f 0 2 * f 1 3 + f 0 3 * f 1 2 ≤ 3000
    have pb : ∀ {x y : Int}, -30 ≤ x ∧ x ≤ 30 → -30 ≤ y ∧ y ≤ 30 → -900 ≤ x * y ∧ x * y ≤ 900 := fun {x y} hx hy => by
      have h : (x * y).natAbs ≤ 30 * 30 := by
        rw [Int.natAbs_mul]
        exact Nat.mul_le_mul (by omega) (by omega)
      omega
    have h1 := pb (b 0 1 (by decide) (by decide)) (b 2 3 (by decide) (by decide))
    have h2 := pb (b 0 2 (by decide) (by decide)) (b 1 3 (by decide) (by decide))
    have h3 := pb (b 0 3 (by decide) (by decide)) (b 1 2 (by decide) (by decide))
    omega
theorem i3 {n : Nat} (hn : n = 2 ∨ n = 4) {f : Nat → Nat → Int} (o : Ok n n f) (t : Til n f) (s0 s1 s2 s3 s4 s7 s8 s9 s10 s11 s12 s13 s14 s15 s16 s17 s18 s19 s20 s21 : Sl) : i_law_3 [s0, s1, s2, s3, s4, .dat (matD n n f), .dat (.int (pf n f)), s7, s8, s9, s10, s11, s12, s13, s14, s15, s16, s17, s18, s19, s20, s21] = some (.nx [s0, s1, s2, s3, s4, .dat (matD n n f), .dat (.int (pf n f)), s7, s8, s9, s10, s11, s12, s13, s14, s15, s16, s17, s18, s19, s20, s21]) := by
  have u := i_law_3_ap
  have e1 := f_pairs_sum hn o t
  have e2 := f_det o
  rw [pf_det hn t] at e2
  have b := pf_b hn o.2.2
  clear o t hn
  generalize pf n f = x at *
  walk_at "dl"
theorem i4 {n : Nat} (hn : n = 2 ∨ n = 4) {f : Nat → Nat → Int} (o : Ok n n f) (t : Til n f) {g : Nat → Nat → Int} (hg : ∀ i j, i < n → j < n → -1 ≤ g i j ∧ g i j ≤ 1) (ol : Ok n n (mulF n (mulF n g f) fun a b => g b a)) (s0 s1 s2 s3 s4 s5 s9 s10 s11 s12 s13 s14 s15 s16 s17 s18 s19 s20 s21 : Sl) : i_law_4 [s0, s1, s2, s3, s4, s5, .dat (.int (pf n f)), .dat (matD n n g), .dat (matD n n (mulF n (mulF n g f) fun a b => g b a)), s9, s10, s11, s12, s13, s14, s15, s16, s17, s18, s19, s20, s21] = some (.nx [s0, s1, s2, s3, s4, s5, .dat (.int (pf n f)), .dat (matD n n g), .dat (matD n n (mulF n (mulF n g f) fun a b => g b a)), s9, s10, s11, s12, s13, s14, s15, s16, s17, s18, s19, s20, s21]) := by
  have u := i_law_4_ap
  have e1 := f_pairs_sum hn ol (led_til hn g f t)
  rw [pf_led hn g f t] at e1
  have e2 := f_ldet (n := n) (f := g) (by omega) (fun i j hi hj => by have := hg i j hi hj; omega)
  rw [detO_eq (by omega) (by omega)] at e2
  have b := pf_b hn o.2.2
  clear o t hn ol hg
  generalize pf n f = x at *
  generalize detF n g = y at *
  generalize matD n n (mulF n (mulF n g f) fun a b => g b a) = z at *
  walk_at "dl"
theorem i5 {n : Nat} (hn : n = 2 ∨ n = 4) {f : Nat → Nat → Int} (o : Ok n n f) (t : Til n f) {g : Nat → Nat → Int} (hg : ∀ i j, i < n → j < n → -1 ≤ g i j ∧ g i j ≤ 1) (s0 s1 s2 s3 s4 s5 s9 s10 s11 s12 s13 s14 s15 s16 s17 s18 : Sl) : i_law_5 [s0, s1, s2, s3, s4, s5, .dat (.int (pf n f)), .dat (matD n n g), .dat (matD n n (mulF n (mulF n g f) fun a b => g b a)), s9, s10, s11, s12, s13, s14, s15, s16, s17, s18, .un, .un, .un] = some (.nx [s0, s1, s2, s3, s4, s5, .dat (.int (pf n f)), .dat (matD n n g), .dat (matD n n (mulF n (mulF n g f) fun a b => g b a)), s9, s10, s11, s12, s13, s14, s15, s16, s17, s18, .un, .un, .un]) := by
  have u := i_law_5_ap
  have u1 := c_law_4_ap
  have u2 := c_law_5_ap
  have n0 : 0 < n := by omega
  have n4 : n ≤ 4 := by omega
  have k4 := fun ol => i4 hn o t hg ol s0 s1 s2 s3 s4 s5 s9 s10 s11 s12 s13 s14 s15 s16 s17 s18 .un .un .un
  generalize hl : (mulF n (mulF n g f) fun a b => g b a) = l at *
  have c0 := fun i => lcL_nm (v := 20) (te := c_law_4) (fun j => PyData.int (l i j)) (fun j => PyData.int (absI (l i j))) [s0, s1, s2, s3, s4, s5, .dat (.int (pf n f)), .dat (matD n n g), .dat (matD n n l), s9, s10, s11, s12, s13, s14, s15, s16, s17, s18, .dat (rowD n (l i)), .un, .un] (List.range n) rfl (fun j _ => by
    unfold absI
    clear k4
    walk_at "dl")
  have m0 := fun i => gMaxL_map (fun j => absI (l i j)) (List.range n) (by rw [List.length_range]; exact n0)
  have c1 := lcL_nm (v := 19) (te := c_law_5) (fun i => rowD n (l i)) (fun i => PyData.int (maxL ((List.range n).map fun j => absI (l i j)))) [s0, s1, s2, s3, s4, s5, .dat (.int (pf n f)), .dat (matD n n g), .dat (matD n n l), s9, s10, s11, s12, s13, s14, s15, s16, s17, s18, .un, .un, .un] (List.range n) rfl (fun i _ => by
    have e := c0 i
    have m := m0 i
    clear c0 m0 k4
    walk_at "dl")
  have m1 := gMaxL_map (fun i => maxL ((List.range n).map fun j => absI (l i j))) (List.range n) (by rw [List.length_range]; exact n0)
  rw [show maxL ((List.range n).map fun i => maxL ((List.range n).map fun j => absI (l i j))) = mx n n l from rfl] at m1
  have q := mx_iff n0 n0 l 31
  clear c0 m0
  by_cases z : mx n n l < 31
  · have k := k4 ⟨by omega, by omega, fun i j hi hj => by
      have := abs_lt.mp (q.mp z i j hi hj)
      omega⟩
    clear o t hn hg q k4
    walk_at "dl"
  · clear o t hn hg q k4
    walk_at "dl"
theorem i6 {n : Nat} (hn : n = 2 ∨ n = 4) {f : Nat → Nat → Int} (o : Ok n n f) (t : Til n f) {i j : Nat} (hij : i < j) (hj : j < n) (s0 s1 s2 s3 s4 s7 s8 s9 s10 s12 s13 s14 s15 s16 s17 s18 s19 s20 s21 : Sl) : i_law_6 [s0, s1, s2, s3, s4, .dat (matD n n f), .dat (.int (pf n f)), s7, s8, s9, s10, .own ((List.range n).map fun t => PyData.int ((swp i j t : Nat) : Int)), s12, s13, s14, s15, s16, s17, s18, s19, s20, s21] = some (.nx [s0, s1, s2, s3, s4, .dat (matD n n f), .dat (.int (pf n f)), s7, s8, s9, s10, .dat (.list ((List.range n).map fun t => PyData.int ((swp i j t : Nat) : Int))), s12, s13, s14, s15, s16, s17, s18, s19, s20, s21]) := by
  have u := i_law_6_ap
  have b := fun a (ha : a < n) => swp_lt (t := a) (show i < n by omega) hj ha
  have e1 := f__law_part (h := n) (w := n) (k := n) (m := n) (f := f) (l := swp i j) (p := swp i j) (by omega) (by omega) b b (X := .list ((List.range n).map fun t => PyData.int ((swp i j t : Nat) : Int))) (Y := .list ((List.range n).map fun t => PyData.int ((swp i j t : Nat) : Int))) rfl rfl
  have e2 := f_pairs_sum hn (f := fun s t => f (swp i j s) (swp i j t)) ⟨o.1, o.1, fun x y hx hy => o.2.2 _ _ (b x hx) (b y hy)⟩ (fun x y hx hy => t _ _ (b x hx) (b y hy))
  rw [pf_sw hn t hij hj] at e2
  clear o t hn b
  generalize pf n f = x at *
  generalize ((List.range n).map fun t => PyData.int ((swp i j t : Nat) : Int)) = z at *
  walk_at "dl"
theorem i7 {n : Nat} (hn : n = 2 ∨ n = 4) {f : Nat → Nat → Int} (o : Ok n n f) (t : Til n f) {g : Nat → Nat → Int} (p : Ok 2 2 g) (tg : Til 2 g) (s0 s1 s2 s3 s7 s8 s9 s10 s11 s13 s14 s15 s16 s17 s18 s19 s20 s21 : Sl) : i_law_7 [s0, s1, s2, s3, .dat (.int (n : Nat)), .dat (matD n n f), .dat (.int (pf n f)), s7, s8, s9, s10, s11, .dat (matD 2 2 g), s13, s14, s15, s16, s17, s18, s19, s20, s21] = some (.nx [s0, s1, s2, s3, .dat (.int (n : Nat)), .dat (matD n n f), .dat (.int (pf n f)), s7, s8, s9, s10, s11, .dat (matD 2 2 g), s13, s14, s15, s16, s17, s18, s19, s20, s21]) := by
  have u := i_law_7_ap
  rcases hn with rfl | rfl
  · have e1 := f_blocks o p (by decide) (by decide)
    have b2 : ∀ i j, i < 2 + 2 → j < 2 + 2 → -30 ≤ blkF 2 2 f g i j ∧ blkF 2 2 f g i j ≤ 30 := fun i j hi hj => by
      unfold blkF
      by_cases h1 : i < 2
      · rw [if_pos h1]
        by_cases h2 : j < 2
        · rw [if_pos h2]
          exact o.2.2 i j h1 h2
        · rw [if_neg h2]
          decide
      · rw [if_neg h1]
        by_cases h2 : j < 2
        · rw [if_pos h2]
          decide
        · rw [if_neg h2]
          exact p.2.2 (i - 2) (j - 2) (by omega) (by omega)
    have t2 : Til 4 (blkF 2 2 f g) := fun i j hi hj => by
      unfold blkF
      by_cases h1 : i < 2
      · by_cases h2 : j < 2
        · simp only [h1, h2, if_true]
          exact t i j h1 h2
        · simp only [h1, h2, if_true, if_false]
          rfl
      · by_cases h2 : j < 2
        · simp only [h1, h2, if_true, if_false]
          rfl
        · simp only [h1, h2, if_false]
          exact tg (i - 2) (j - 2) (by omega) (by omega)
    have e2 := f_pairs_sum (n := 4) (.inr rfl) (f := blkF 2 2 f g) ⟨by decide, by decide, b2⟩ t2
    have q : pf 4 (blkF 2 2 f g) = pf 2 f * g 0 1 := by
      show f 0 1 * g 0 1 - 0 * 0 + 0 * 0 = f 0 1 * g 0 1
      grind
    rw [q] at e2
    have bb := pf_b (.inl rfl) o.2.2
    have r0 : ∀ g : Nat → PyData, L2.atI ((List.range 2).map g) 0 = some (g 0) := fun g => atI_range g (j := 0) (by decide)
    have r1 : ∀ g : Nat → PyData, L2.atI ((List.range 2).map g) 1 = some (g 1) := fun g => atI_range g (j := 1) (by decide)
    clear o t p tg b2 t2 q
    generalize pf 2 f = x at *
    walk_at "dl"
  · clear o t p tg
    walk_at "dl"
theorem c6 {n : Nat} {i j : Nat} (s0 s1 s2 s3 s4 s5 s6 s7 s8 s11 s12 s13 s14 s15 s16 s17 s18 s19 s20 : Sl) : lcL (.nm 21) [21] bYes c_law_6 (rangeD 0 (n : Nat)) [s0, s1, s2, s3, s4, s5, s6, s7, s8, .dat (.int (i : Nat)), .dat (.int (j : Nat)), s11, s12, s13, s14, s15, s16, s17, s18, s19, s20, .un] = some ((List.range n).map fun t => PyData.int ((swp i j t : Nat) : Int), [s0, s1, s2, s3, s4, s5, s6, s7, s8, .dat (.int (i : Nat)), .dat (.int (j : Nat)), s11, s12, s13, s14, s15, s16, s17, s18, s19, s20, .un]) := by
  have u := c_law_6_ap
  have c := lcL_nm (v := 21) (te := c_law_6) (fun (t : Nat) => PyData.int (t : Nat)) (fun t => PyData.int ((swp i j t : Nat) : Int)) [s0, s1, s2, s3, s4, s5, s6, s7, s8, .dat (.int (i : Nat)), .dat (.int (j : Nat)), s11, s12, s13, s14, s15, s16, s17, s18, s19, s20, .un] (List.range n) rfl (fun t _ => by
    unfold swp
    by_cases h1 : t = i
    · have h1' : (t : Int) = (i : Int) := by omega
      rw [if_pos h1]
      clear h1
      walk_at "dl"
    · have h1' : ¬ (t : Int) = (i : Int) := by omega
      rw [if_neg h1]
      by_cases h2 : t = j
      · have h2' : (t : Int) = (j : Int) := by omega
        rw [if_pos h2]
        clear h1 h2
        walk_at "dl"
      · have h2' : ¬ (t : Int) = (j : Int) := by omega
        rw [if_neg h2]
        clear h1 h2
        walk_at "dl")
  rw [← w_range0] at c
  exact c

end K17

namespace K17
open PySem PySem.Spec PyProof.Rows L2 DL
local macro_rules | `(tactic| walk_at "dl") => `(tactic| simp (disch := first | assumption | omega | (simp only [List.length_map, List.length_cons, List.length_nil, List.length_append, List.length_range]; omega)) only [vd_ch, vd_ch1, vd_ch2, vd_ch3t, vd_ch3f, vd_ch4, vd_ch5t, vd_ch5f, vd_ch6, vd_rn, vd_rn1, vd_pop, vd_popAt, vd_pop0, vd_pop1, vd_pop2, vd_srtT, vk_rg1, vk_rg11, vk_rg2, vk_rg21, vk_rg3, vk_rgok, vk_min, vk_max, vk_srt, vk_rev1, vk_rev2, vk_mul1, k1_some, kP_some, kO_some, qUn_r, qIf_t, qIf_f, vq_var, vq_var_d, vq_var_o, vq_c, vq_bin, vq_bin1, vq_bin2, vq_test, vq_test1, vq_tru, vq_not, vq_not1, vq_ofb, vq_ofb1, vq_note, vq_note1, vq_and, vq_and_t, vq_and_f, vq_or, vq_or_t, vq_or_f, vq_ande, vq_ande_t, vq_ande_f, vq_ore, vq_ore_t, vq_ore_f, vq_if, vq_un, vq_call, vq_callF, vq_items, vq_nil, vq_cons, vq_cons1, vq_cons2, vq_tup, vq_tup1, vq_lst, vq_lst1, vq_l, vq_l1, vq_ixn, vq_ixn_d, vq_ixn_o, vq_ixn_l, vq_ix1, vq_ix2, vq_ix3, vq_onone, vq_osome, vq_osome1, vq_sl, vq_sl1, vq_sl2, vq_sl3, vq_sln, vq_sln0, vq_sln1, vq_sln2, vq_sln3, vq_scr, vq_scr0, vq_scr1, vq_scr2, vq_lenn, vq_lenn_s, vq_lenn_n, vq_lenn2, vq_r1, vq_r11, vq_r2, vq_r21, vq_enum, vq_enum1, vq_enum2, vq_zip, vq_zip1, vq_zip2, vq_zip3, vq_lc, vq_lc1, vq_lc2, vq_yes, vq_snil, vq_seq, vq_seq_nx, vq_seq_rt, vq_seq_rtF, vq_seq_bk, vq_seq_ct, vq_set, vq_set1, vq_setF, vq_setF1, vq_nx, vq_setT, vq_setT1, vq_sif, vq_ret, vq_ret1, vq_retF, vq_retF1, vq_retN, vq_bk, vq_ct, vq_expr, vq_expr1, vq_app, vq_app1, vq_app2, vq_app3, vq_ext, vq_ext1, vq_ext2, vq_ext3, vq_si, vq_si1, vq_si2, vq_si3, vq_si4, vq_si5, vq_for, vq_for1, vq_forl_nil, vq_forl, vq_f1, vq_f_nx, vq_f_ct, vq_f_bk, vq_f_rt, vq_f_rtF, vq_mnil, vq_md, vq_mf, vq_md1, vq_mf1, vq_m2, vq_par, vq_par1, vq_park, vq_park1, vq_asg_nil, vq_asg, vq_asg1, vq_ak_nm, vq_ak, vq_ak1, vq_ak2, vq_ak3, vq_ak4, vq_bind_nm, vq_bind_tp, vq_binds_nil, vq_binds, vq_binds1, vq_run, vq_run_rt, vq_run_rtF, vq_run_nx, vq_kR, vq_kRF, vq_cu, vq_cu1, vq_cuf, vq_cuf1, vq_kL, vq_callL, vq_cl0, vq_cl1, vq_cl2, vq_cle, vq_rv, vq_clf, vq_rvf1, vq_cs, vq_cs1, vq_ch, vq_ch1, vq_ch2, vq_ch3_t, vq_ch3_f, vq_ch4, vq_cat, vq_cat1, vq_cat2, vq_rep, vq_rep1, vq_rep2, vq_ss, vq_ss1, vq_ss2, vq_ss3, vq_okw_nil, vq_okw, vq_okS_d, vq_okS_u, vq_lcl_nil, vq_lcl, vq_c1, vq_c2_t, vq_c2_f, vq_c3, vq_c4, vq_sw, vq_w, vq_w_f, vq_w_t, vq_w_nx, vq_w_ct, vq_w_bk, vq_w_rt, vq_w_rtF, w_len_l, w_len_t, w_abs, w_int, w_intb, w_tup_l, w_tup_t, w_lst_l, w_lst_t, w_neg, w_sub, w_add, w_add_t, w_add_l, w_mul, w_mul_l, w_mul_r, w_mul_ls, w_atI_5, w_atI_6, w_ixN_5, w_mod, w_fdiv, w_pow, w_cmp, w_isn, w_notn, w_isb, w_notb, w_ix_l, w_ix_t, w_sl_l, w_sl_t, w_it_l, w_it_t, w_tru_n, w_tru_b, w_tru_i, w_tru_l, w_tru_t, w_isnone_n, w_isnone_b, w_isnone_i, w_isnone_l, w_isnone_t, w_all_nil, w_cont_own, w_cont_lent, w_cont_dat, w_cont_un, w_cont_scr, w_cont_nil, w_cut, w_cont_succ, w_put_own, w_put_lent, w_put_succ, w_sets_nil, w_sets_nil2, w_sets_cons, w_wipe_nil, w_wipe_cons, w_rest_nil, w_rest_cons, w_lent_lent, w_lent_dat, w_lent_own, w_lent_un, w_lent_scr, w_lent_nil, w_dats_nil, w_dats_cons, w_rvd, w_rvf, w_repl0, w_repl, w_rok, w_ite_le, w_ite_lt, w_rlen, w_dt, w_df, w_neS, if_true, if_false, Option.isSome_some, Option.isSome_none, forall_const, Bool.false_eq_true, false_implies, implies_true, reduceIte, decide_true, decide_false, Bool.not_true, Bool.not_false, Bool.true_and, Bool.and_true, Bool.false_and, Bool.and_false, Bool.or_true, Bool.or_false, Bool.true_or, Bool.false_or, and_self, true_and, and_true, eq_self, reduceCtorEq, gEq_int, gNe_int, gEq_line, gNe_line, gEq_rows, gNe_rows, gEq_bool, gNe_bool, atI_0, atI_1, atI_2, atI_3, atI_4, ixN_0, ixN_1, ixN_2, ixN_3, ixN_4, List.length_cons, List.length_nil, List.length_map, List.length_range, List.length_set, Int.toNat_natCast, List.map_cons, List.map_nil, List.getElem?_cons_zero, List.getElem?_cons_succ, List.set_cons_zero, List.set_cons_succ, List.getD_cons_zero, List.getD_cons_succ, List.append_nil, List.flatten_cons, List.flatten_nil, List.nil_append, List.cons_append, Nat.reduceAdd, Nat.reduceSub, Nat.reduceMul, Nat.reduceEqDiff, Nat.reduceLeDiff, Int.reduceNeg, Int.reduceAdd, Int.reduceSub, Int.reduceMul, Int.reduceLT, Int.reduceLE, Int.reduceEq, Int.reduceGT, Int.reduceGE, Int.reducePow, Int.reduceToNat, isi_int_none, isi_int_bool, isi_int_int, isi_int_str, isi_int_list, isi_int_tuple, isi_bool_none, isi_bool_bool, isi_bool_int, isi_bool_str, isi_bool_list, isi_bool_tuple, isi_tuple_none, isi_tuple_bool, isi_tuple_int, isi_tuple_str, isi_tuple_list, isi_tuple_tuple, isi_list_none, isi_list_bool, isi_list_int, isi_list_str, isi_list_list, isi_list_tuple, isi_str_none, isi_str_bool, isi_str_int, isi_str_str, isi_str_list, isi_str_tuple, *])
def NoO : Sl → Prop
  | .un => True
  | .dat _ => True
  | _ => False
theorem noO_is {s : Sl} (h : NoO s) : s = .un ∨ ∃ d, s = .dat d := by
  cases s with
  | un => exact .inl rfl
  | dat d => exact .inr ⟨d, rfl⟩
  | own xs => exact h.elim
  | lent xs => exact h.elim
  | scr ns => exact h.elim
theorem c3 {n : Nat} (nn : n ≤ 100) {g : Nat → Nat → Int} (s0 s1 s2 s3 s4 s5 s6 s8 s9 s10 s11 s12 s13 s14 s15 s16 s17 : Sl) : lcL (.nm 18) [18] bYes c_law_3 (rangeD 0 (n : Nat)) [s0, s1, s2, s3, s4, s5, s6, .dat (matD n n g), s8, s9, s10, s11, s12, s13, s14, s15, s16, s17, .un, .un, .un, .un] = some ((List.range n).map fun b => rowD n fun a => g a b, [s0, s1, s2, s3, s4, s5, s6, .dat (matD n n g), s8, s9, s10, s11, s12, s13, s14, s15, s16, s17, .un, .un, .un, .un]) := by
  have u1 := c_law_2_ap
  have u2 := c_law_3_ap
  have c0 : ∀ b, b < n → lcL (.nm 19) [19] bYes c_law_2 ((List.range n).map fun i => rowD n (g i)) [s0, s1, s2, s3, s4, s5, s6, .dat (matD n n g), s8, s9, s10, s11, s12, s13, s14, s15, s16, s17, .dat (.int (b : Nat)), .un, .un, .un] = some ((List.range n).map fun a => PyData.int (g a b), [s0, s1, s2, s3, s4, s5, s6, .dat (matD n n g), s8, s9, s10, s11, s12, s13, s14, s15, s16, s17, .dat (.int (b : Nat)), .un, .un, .un]) := fun b hb =>
    lcL_nm (v := 19) (te := c_law_2) (fun i => rowD n (g i)) (fun a => PyData.int (g a b)) [s0, s1, s2, s3, s4, s5, s6, .dat (matD n n g), s8, s9, s10, s11, s12, s13, s14, s15, s16, s17, .dat (.int (b : Nat)), .un, .un, .un] (List.range n) rfl (fun a _ => by
      have a1 := atI_range (fun j => PyData.int (g a j)) hb
      walk_at "dl")
  have c := lcL_nm (v := 18) (te := c_law_3) (fun (b : Nat) => PyData.int (b : Nat)) (fun b => rowD n fun a => g a b) [s0, s1, s2, s3, s4, s5, s6, .dat (matD n n g), s8, s9, s10, s11, s12, s13, s14, s15, s16, s17, .un, .un, .un, .un] (List.range n) rfl (fun b hb => by
    have e := c0 b (List.mem_range.mp hb)
    clear c0
    walk_at "dl")
  rw [← w_range0] at c
  exact c
theorem lp2 {f : Nat → Nat → Int} (o : Ok 2 2 f) (s0 s1 s2 s3 s4 s6 s7 s8 s9 s10 s11 s12 s14 s15 s16 s17 s18 s19 s20 s21 : Sl) : ∃ t14 t15 t16 t17 t18, forL (.tp [.nm 14, .nm 15]) b_law_1 [.tuple [.tuple [.tuple [.int 0, .int 1]], .int 1]] [s0, s1, s2, s3, s4, .dat (matD 2 2 f), s6, s7, s8, s9, s10, s11, s12, .dat (.int 0), s14, s15, s16, s17, s18, s19, s20, s21] = some (.nx [s0, s1, s2, s3, s4, .dat (matD 2 2 f), s6, s7, s8, s9, s10, s11, s12, .dat (.int (pf 2 f)), t14, t15, t16, t17, t18, s19, s20, s21]) ∧ NoO t18 := by
  have u1 := b_law_0_ap
  have u2 := b_law_1_ap
  have e1 := plain2
  have b := fun i j (hi : i < 2) (hj : j < 2) => o.2.2 i j hi hj
  have b01 := b 0 1 (by decide) (by decide)
  have r0 : ∀ g : Nat → PyData, L2.atI ((List.range 2).map g) 0 = some (g 0) := fun g => atI_range g (j := 0) (by decide)
  have r1 : ∀ g : Nat → PyData, L2.atI ((List.range 2).map g) 1 = some (g 1) := fun g => atI_range g (j := 1) (by decide)
  have q : pf 2 f = 0 + 1 * f 0 1 := by
    show f 0 1 = _
    omega
  rw [q]
  clear q b o
  refine ⟨.dat (.tuple [.tuple [.int 0, .int 1]]), .dat (.int 1), .dat (.int (1 * f 0 1)), .dat (.int 0), .dat (.int 1), ?_, trivial⟩
  walk_at "dl"
theorem lp4 {f : Nat → Nat → Int} (o : Ok 4 4 f) (s0 s1 s2 s3 s4 s6 s7 s8 s9 s10 s11 s12 s14 s15 s16 s17 s18 s19 s20 s21 : Sl) : ∃ t14 t15 t16 t17 t18, forL (.tp [.nm 14, .nm 15]) b_law_1 [.tuple [P4a, .int 1], .tuple [P4b, .int (-1)], .tuple [P4c, .int 1]] [s0, s1, s2, s3, s4, .dat (matD 4 4 f), s6, s7, s8, s9, s10, s11, s12, .dat (.int 0), s14, s15, s16, s17, s18, s19, s20, s21] = some (.nx [s0, s1, s2, s3, s4, .dat (matD 4 4 f), s6, s7, s8, s9, s10, s11, s12, .dat (.int (pf 4 f)), t14, t15, t16, t17, t18, s19, s20, s21]) ∧ NoO t18 := by
  have u1 := b_law_0_ap
  have u2 := b_law_1_ap
  have e1 := plain4a
  have e2 := plain4b
  have e3 := plain4c
  have b := fun i j (hi : i < 4) (hj : j < 4) => o.2.2 i j hi hj
  have b01 := b 0 1 (by decide) (by decide)
  have b02 := b 0 2 (by decide) (by decide)
  have b03 := b 0 3 (by decide) (by decide)
  have b12 := b 1 2 (by decide) (by decide)
  have b13 := b 1 3 (by decide) (by decide)
  have b23 := b 2 3 (by decide) (by decide)
  have r0 : ∀ g : Nat → PyData, L2.atI ((List.range 4).map g) 0 = some (g 0) := fun g => atI_range g (j := 0) (by decide)
  have r1 : ∀ g : Nat → PyData, L2.atI ((List.range 4).map g) 1 = some (g 1) := fun g => atI_range g (j := 1) (by decide)
  have r2 : ∀ g : Nat → PyData, L2.atI ((List.range 4).map g) 2 = some (g 2) := fun g => atI_range g (j := 2) (by decide)
  have r3 : ∀ g : Nat → PyData, L2.atI ((List.range 4).map g) 3 = some (g 3) := fun g => atI_range g (j := 3) (by decide)
  have q : pf 4 f = 0 + 1 * f 0 1 * f 2 3 + -1 * f 0 2 * f 1 3 + 1 * f 0 3 * f 1 2 := by
    show f 0 1 * f 2 3 - f 0 2 * f 1 3 + f 0 3 * f 1 2 = _
    grind
  rw [q]
  clear q b o
  refine ⟨.dat (P4c), .dat (.int 1), .dat (.int (1 * f 0 3 * f 1 2)), .dat (.int 1), .dat (.int 2), ?_, trivial⟩
  walk_at "dl"
theorem lots2 : ∀ n, n ≤ 4 → ∀ l ∈ lotsF n 2, l.length = 2 ∧ l.getD 0 0 < l.getD 1 0 ∧ l.getD 1 0 < n := by decide +kernel
theorem lot_ij {n : Nat} (n4 : n ≤ 4) {l : List Nat} (h : l ∈ lotsF n 2) : ∃ i j, i < j ∧ j < n ∧ lotE l = .tuple [.int (i : Nat), .int (j : Nat)] := by
  obtain ⟨h1, h2, h3⟩ := lots2 n n4 l h
  match l, h1 with
  | [i, j], _ => exact ⟨i, j, h2, h3, rfl⟩
def Inv (ns : List Int) (S : Sls) : Prop := ∃ hd s2 s3 s4 s5 s6 s7 s8 s9 s10 s11 s12 s13 s14 s15 s16 s17 s18, S = [.scr ns, .own hd, s2, s3, s4, s5, s6, s7, s8, s9, s10, s11, s12, s13, s14, s15, s16, s17, s18, .un, .un, .un] ∧ Hand hd ∧ NoO s18
theorem body_law {ns : List Int} {S : Sls} (inv : Inv ns S) : ∃ S', b_law_2 S = some (.nx S') ∧ Inv ns S' := by
  obtain ⟨hd, s2, s3, s4, s5, s6, s7, s8, s9, s10, s11, s12, s13, s14, s15, s16, s17, s18, rfl, H, no⟩ := inv
  obtain ⟨x, hd1, d1, hx, H1⟩ := f_any H (xs := [.int 2, .int 4, .int 4]) (by decide) (by decide)
  obtain ⟨n, rfl, hn⟩ : ∃ n : Nat, x = .int (n : Nat) ∧ (n = 2 ∨ n = 4) := by
    simp only [List.mem_cons, List.not_mem_nil, or_false] at hx
    rcases hx with rfl | rfl | rfl
    · exact ⟨2, rfl, .inl rfl⟩
    · exact ⟨4, rfl, .inr rfl⟩
    · exact ⟨4, rfl, .inr rfl⟩
  obtain ⟨f, hd2, d2, t, b, H2⟩ := f_tilted H1 (n := n) (m := 4) (by omega) (by decide) (by decide)
  obtain ⟨g, hd3, d3, hg, H3⟩ := f_rows H2 (m := 1) (by decide) (by decide) n n (by omega) (by omega)
  have el : F__law_lots [.dat (.int (n : Nat)), .dat (.int 2)] = some (.d (.list ((lotsF n 2).map lotE)), none) := f_llots n 2 (by omega) (by decide)
  have ll : ((lotsF n 2).map lotE).length = 1 ∨ ((lotsF n 2).map lotE).length = 6 := by
    rw [List.length_map]
    rcases hn with rfl | rfl
    · exact .inl (by decide +kernel)
    · exact .inr (by decide +kernel)
  obtain ⟨y, hd4, d4, hy, H4⟩ := f_any H3 (xs := (lotsF n 2).map lotE) (by omega) (by omega)
  obtain ⟨i, j, hij, hj, rfl⟩ : ∃ i j : Nat, i < j ∧ j < n ∧ y = .tuple [.int (i : Nat), .int (j : Nat)] := by
    obtain ⟨l, hl, rfl⟩ := List.mem_map.mp hy
    obtain ⟨i, j, h1, h2, h3⟩ := lot_ij (by omega) hl
    exact ⟨i, j, h1, h2, h3⟩
  obtain ⟨s, hd5, d5, ts, bs, H5⟩ := f_tilted H4 (n := 2) (m := 4) (by decide) (by decide) (by decide)
  replace d5 : F__law_tilted [.lent hd4, .dat (.int 2), .dat (.int 4)] = some (.d (matD 2 2 s), some hd5) := d5
  have o : Ok n n f := ⟨by omega, by omega, fun i j hi hj => by have := b i j hi hj; omega⟩
  have p : Ok 2 2 s := ⟨by decide, by decide, fun i j hi hj => by have := bs i j hi hj; omega⟩
  have k1 := f_lpairs hn o.2.2
  have k3 := i3 hn o t (.scr ns) (.own hd2) (s2) (s3) (.dat (.int (n : Nat))) (s7) (s8) (s9) (s10) (s11) (s12) (s13) (s14) (s15) (s16) (s17) (s18) (.un) (.un) (.un)
  have c3' := c3 (n := n) (by omega) (g := g) (.scr ns) (.own hd3) (s2) (s3) (.dat (.int (n : Nat))) (.dat (matD n n f)) (.dat (.int (pf n f))) (s8) (s9) (s10) (s11) (s12) (s13) (s14) (s15) (s16) (s17)
  have ow : okWipe [.scr ns, .own hd3, s2, s3, .dat (.int (n : Nat)), .dat (matD n n f), .dat (.int (pf n f)), .dat (matD n n g), s8, s9, s10, s11, s12, s13, s14, s15, s16, s17, s18, .un, .un, .un] [18] = true := by
    rcases noO_is no with rfl | ⟨d, rfl⟩ <;> rfl
  have hB : Bdd n n g := fun i j hi hj => by have := hg i j hi hj; omega
  have m1 := f_lproduct (h := n) (m := n) (w := n) (f := g) (g := f) (by omega) (by omega) (by omega) (by omega) (by omega) hB
  have hB2 : Bdd n n (mulF n g f) := fun i j hi hj => by
    have q : ∀ k, k < n → (g i k * f k j).natAbs ≤ 4 := fun k hk => by
      have h1 := hg i k hi hk
      have h2 := b k j hk hj
      rw [Int.natAbs_mul]
      exact Nat.le_trans (Nat.mul_le_mul (show (g i k).natAbs ≤ 1 by omega) (show (f k j).natAbs ≤ 4 by omega)) (by decide)
    have q2 : (mulF n g f i j).natAbs ≤ 16 := by
      rcases hn with rfl | rfl
      · have z : mulF 2 g f i j = g i 0 * f 0 j + (g i 1 * f 1 j + 0) := rfl
        have := q 0 (by decide)
        have := q 1 (by decide)
        rw [z]
        omega
      · have z : mulF 4 g f i j = g i 0 * f 0 j + (g i 1 * f 1 j + (g i 2 * f 2 j + (g i 3 * f 3 j + 0))) := rfl
        have := q 0 (by decide)
        have := q 1 (by decide)
        have := q 2 (by decide)
        have := q 3 (by decide)
        rw [z]
        omega
    omega
  have m2 := f_lproduct (h := n) (m := n) (w := n) (f := mulF n g f) (g := fun a b => g b a) (by omega) (by omega) (by omega) (by omega) (by omega) hB2
  have k5 := i5 hn o t hg (.scr ns) (.own hd3) (s2) (s3) (.dat (.int (n : Nat))) (.dat (matD n n f)) (s9) (s10) (s11) (s12) (s13) (s14) (s15) (s16) (s17) (s18)
  have k6 := c6 (n := n) (i := i) (j := j) (.scr ns) (.own hd4) (s2) (s3) (.dat (.int (n : Nat))) (.dat (matD n n f)) (.dat (.int (pf n f))) (.dat (matD n n g)) (.dat (matD n n (mulF n (mulF n g f) fun a b => g b a))) (s11) (s12) (s13) (s14) (s15) (s16) (s17) (s18) (.un) (.un)
  have k6' := i6 hn o t hij hj (.scr ns) (.own hd4) (s2) (s3) (.dat (.int (n : Nat))) (.dat (matD n n g)) (.dat (matD n n (mulF n (mulF n g f) fun a b => g b a))) (.dat (.int (i : Nat))) (.dat (.int (j : Nat))) (s12) (s13) (s14) (s15) (s16) (s17) (s18) (.un) (.un) (.un)
  have k7 := i7 hn o t p ts (.scr ns) (.own hd5) (s2) (s3) (.dat (matD n n g)) (.dat (matD n n (mulF n (mulF n g f) fun a b => g b a))) (.dat (.int (i : Nat))) (.dat (.int (j : Nat))) (.dat (.list ((List.range n).map fun t => PyData.int ((swp i j t : Nat) : Int)))) (s13) (s14) (s15) (s16) (s17) (s18) (.un) (.un) (.un)
  have u := b_law_2_ap
  have u8 := i_law_8_ap
  have lp : ∃ items, F_crossing_pairings [.dat (.int (n : Nat))] = some (.d (.tuple items), none) ∧ ∃ t14 t15 t16 t17 t18, forL (.tp [.nm 14, .nm 15]) b_law_1 items [.scr ns, .own hd5, s2, s3, .dat (.int (n : Nat)), .dat (matD n n f), .dat (.int (pf n f)), .dat (matD n n g), .dat (matD n n (mulF n (mulF n g f) fun a b => g b a)), .dat (.int (i : Nat)), .dat (.int (j : Nat)), .dat (.list ((List.range n).map fun t => PyData.int ((swp i j t : Nat) : Int))), .dat (matD 2 2 s), .dat (.int 0), s14, s15, s16, s17, s18, .un, .un, .un] = some (.nx [.scr ns, .own hd5, s2, s3, .dat (.int (n : Nat)), .dat (matD n n f), .dat (.int (pf n f)), .dat (matD n n g), .dat (matD n n (mulF n (mulF n g f) fun a b => g b a)), .dat (.int (i : Nat)), .dat (.int (j : Nat)), .dat (.list ((List.range n).map fun t => PyData.int ((swp i j t : Nat) : Int))), .dat (matD 2 2 s), .dat (.int (pf n f)), t14, t15, t16, t17, t18, .un, .un, .un]) ∧ NoO t18 := by
    rcases hn with rfl | rfl
    · exact ⟨_, cross2, lp2 o _ _ _ _ _ _ _ _ _ _ _ _ _ _ _ _ _ _ _ _⟩
    · exact ⟨_, cross4, lp4 o _ _ _ _ _ _ _ _ _ _ _ _ _ _ _ _ _ _ _ _⟩
  obtain ⟨items, ec, t14, t15, t16, t17, t18, l1, no'⟩ := lp
  have e2 : matD n n (fun a b => g b a) = .tuple ((List.range n).map fun b => rowD n fun a => g a b) := rfl
  rw [e2] at m2
  have nn : n ≤ 4 := by omega
  clear H H1 H2 H3 H4 hx b bs o p ts t hB hB2 hy hg hn hij hj ll no
  generalize (lotsF n 2).map lotE = LO at *
  walk_at "dl"
  exact ⟨_, rfl, hd5, _, _, _, _, _, _, _, _, _, _, _, _, _, _, _, _, _, rfl, H5, no'⟩
def ltm (n : Nat) (xs : List (List Int)) (i j : Nat) : Int := (xs.getD i []).getD j 0
theorem i0 (ns : List Int) (hd : List PyData) : i_law_0 [.scr ns, .own hd, .un, .un, .un, .un, .un, .un, .un, .un, .un, .un, .un, .un, .un, .un, .un, .un, .un, .un, .un, .un] = some (.nx [.scr ns, .own hd, .un, .un, .un, .un, .un, .un, .un, .un, .un, .un, .un, .un, .un, .un, .un, .un, .un, .un, .un, .un]) := by
  have u := i_law_0_ap
  have t : Til 2 (ltm 2 [[0, 3], [-3, 0]]) := by
    intro i j hi hj
    rcases (show i = 0 ∨ i = 1 by omega) with rfl | rfl <;> rcases (show j = 0 ∨ j = 1 by omega) with rfl | rfl <;> rfl
  have b : ∀ i, i < 2 → ∀ j, j < 2 → -30 ≤ ltm 2 [[0, 3], [-3, 0]] i j ∧ ltm 2 [[0, 3], [-3, 0]] i j ≤ 30 := by decide
  have e : F_pairs_sum [.dat (.tuple [.tuple [.int 0, .int 3], .tuple [.int (-3), .int 0]])] = some (.d (.int 3), none) := f_pairs_sum (.inl rfl) (f := ltm 2 [[0, 3], [-3, 0]]) ⟨by decide, by decide, fun i j hi hj => b i hi j hj⟩ t
  clear t b
  walk_at "dl"
theorem i1 (ns : List Int) (hd : List PyData) : i_law_1 [.scr ns, .own hd, .own [.tuple [P4a, .int 1], .tuple [P4b, .int (-1)], .tuple [P4c, .int 1]], .un, .un, .un, .un, .un, .un, .un, .un, .un, .un, .un, .un, .un, .un, .un, .un, .un, .un, .un] = some (.nx [.scr ns, .own hd, .dat (.list [.tuple [P4a, .int 1], .tuple [P4b, .int (-1)], .tuple [P4c, .int 1]]), .un, .un, .un, .un, .un, .un, .un, .un, .un, .un, .un, .un, .un, .un, .un, .un, .un, .un, .un]) := by
  have u := i_law_1_ap
  have e : gNe (.list [.tuple [P4a, .int 1], .tuple [P4b, .int (-1)], .tuple [P4c, .int 1]]) (.list [.tuple [P4a, .int 1], .tuple [P4b, .int (-1)], .tuple [P4c, .int 1]]) = some (.bool false) := by kernel_rfl
  walk_at "dl"
theorem i2 (ns : List Int) (hd : List PyData) : i_law_2 [.scr ns, .own hd, .dat (.list [.tuple [P4a, .int 1], .tuple [P4b, .int (-1)], .tuple [P4c, .int 1]]), .un, .un, .un, .un, .un, .un, .un, .un, .un, .un, .un, .un, .un, .un, .un, .un, .un, .un, .un] = some (.nx [.scr ns, .own hd, .dat (.list [.tuple [P4a, .int 1], .tuple [P4b, .int (-1)], .tuple [P4c, .int 1]]), .un, .un, .un, .un, .un, .un, .un, .un, .un, .un, .un, .un, .un, .un, .un, .un, .un, .un, .un]) := by
  have u := i_law_2_ap
  have u2 := c_law_1_ap
  have e1 := cross2
  have e2 := plain2
  have e : gNe (.list [.tuple [.tuple [.tuple [.int 0, .int 1]], .int 1]]) (.list [.tuple [.tuple [.tuple [.int 0, .int 1]], .int 1]]) = some (.bool false) := by kernel_rfl
  walk_at "dl"
theorem law_ok : ∀ ns : List Int, ns.length ≤ 63 → ∃ fin, F_law [.scr ns] = some (.d (.bool true), fin) := by
  intro ns hns
  have u1 := F_law_ap
  have u2 := g_law_ap
  have u3 := c_law_0_ap
  obtain ⟨hd, e1, H⟩ := f_hand ns hns
  have k0 := i0 ns hd
  have k1 := i1 ns hd
  have k2 := i2 ns hd
  have x1 := cross4
  have x2 := plain4a
  have x3 := plain4b
  have x4 := plain4c
  have s1 : srtD [.tuple [P4a, .int 1], .tuple [P4b, .int (-1)], .tuple [P4c, .int 1]] = [.tuple [P4a, .int 1], .tuple [P4b, .int (-1)], .tuple [P4c, .int 1]] := srt_of (List.Perm.refl _) (by decide +kernel)
  have s2 : (List.all [PyData.tuple [P4a, .int 1], .tuple [P4b, .int (-1)], .tuple [P4c, .int 1]] intTupD || List.all [PyData.tuple [P4a, .int 1], .tuple [P4b, .int (-1)], .tuple [P4c, .int 1]] tripD || srtOk [PyData.tuple [P4a, .int 1], .tuple [P4b, .int (-1)], .tuple [P4c, .int 1]]) = true := by decide +kernel
  obtain ⟨S', l1, hd', s2, s3, s4, s5, s6, s7, s8, s9, s10, s11, s12, s13, s14, s15, s16, s17, s18, hS, _⟩ := forL_inv (tg := .nm 3) (g := b_law_2) (fun d : PyData => d) (fun _ S => Inv ns S) (rangeD 0 5) [] [.scr ns, .own hd, .dat (.list [.tuple [P4a, .int 1], .tuple [P4b, .int (-1)], .tuple [P4c, .int 1]]), .un, .un, .un, .un, .un, .un, .un, .un, .un, .un, .un, .un, .un, .un, .un, .un, .un, .un, .un] ⟨hd, _, _, _, _, _, _, _, _, _, _, _, _, _, _, _, _, _, rfl, H, trivial⟩ (by
    rintro _ x S _ ⟨hd, s2, s3, s4, s5, s6, s7, s8, s9, s10, s11, s12, s13, s14, s15, s16, s17, s18, rfl, H, no⟩
    obtain ⟨S', e, hS⟩ := body_law (ns := ns) (S := [.scr ns, .own hd, s2, .dat x, s4, s5, s6, s7, s8, s9, s10, s11, s12, s13, s14, s15, s16, s17, s18, .un, .un, .un]) ⟨hd, _, _, _, _, _, _, _, _, _, _, _, _, _, _, _, _, _, rfl, H, no⟩
    exact ⟨_, S', (by rw [bindT]; rfl), .inl e, hS⟩)
  subst hS
  rw [List.map_id'] at l1
  clear H
  walk_at "dl"
  exact ⟨_, rfl⟩

end K17

/-! K17: what the top has written, and the law, printed by gen.py. -/
namespace K17
open PySem PySem.Spec PyProof.Rows L2 DL
section
variable {P : Program} {w : World} {K : PySem.W.Frag} {mg : Str → Option Value} {base : Heap}
theorem law_fn (T : Tops K mg) {f : Addr} {fd : FuncData} (F : Fun K "law" "law" s_law f fd) : AtA P w K mg base callerA 9 f fd ["script"] (spG K 1 F_law) :=
  at_d F sc_law (by decide) fun cdv outer s H E hr =>
    dss_cons (ds_setF (i := 1) sc_law.nd (df_callS 0 ((d__law_hand T).mono (by first | decide | omega | (simp only [Nat.add_eq]; omega))) hr))
    (dss_cons (ds_if (dt_cmp (op_neD hr.units) b_ne (d_call ((d_pairs_sum T).mono (by first | decide | omega | (simp only [Nat.add_eq]; omega))) hr (da_cons (d_tup (da_cons (d_tup (da_cons d_int (da_cons d_int da_nil))) (da_cons (d_tup (da_cons (d_neg d_int) (da_cons d_int da_nil))) da_nil))) da_nil)) d_int (nomark _))
    (dss_one (ds_ret d_bl))
    (dss_nil))
    (dss_cons (ds_setF (i := 2) sc_law.nd (df_callB (cr_srt hr.units) c_srt T.b_sorted (da_cons (d_ofF (df_lc (own := [("pairing", 14), ("sign", 15)]) sc_law.nd (di_seq (d_call ((d_crossing_pairings T).mono (by first | decide | omega | (simp only [Nat.add_eq]; omega))) hr (da_cons d_int da_nil))) (blkOk_by (N := N_law) (by kernel_rfl)) (by decide) (fun _ _ _ _ _ => dg_tp (dgs_cons (dg_nm sc_law.nd) (dgs_cons (dg_nm sc_law.nd) (dgs_nil)))) (fun _ _ _ _ _ => dts_nil) (fun _ _ _ _ _ => d_tup (da_cons (d_call ((d__law_plain T).mono (by first | decide | omega | (simp only [Nat.add_eq]; omega))) hr (da_cons (d_var 14) da_nil)) (da_cons (d_var 15) da_nil))))) da_nil)))
    (dss_cons (ds_if (dt_cmp (op_neD hr.units) b_ne (d_var 2) (d_ofF (df_lst (da_cons (d_tup (da_cons (d_tup (da_cons (d_tup (da_cons d_int (da_cons d_int da_nil))) (da_cons (d_tup (da_cons d_int (da_cons d_int da_nil))) da_nil))) (da_cons d_int da_nil))) (da_cons (d_tup (da_cons (d_tup (da_cons (d_tup (da_cons d_int (da_cons d_int da_nil))) (da_cons (d_tup (da_cons d_int (da_cons d_int da_nil))) da_nil))) (da_cons (d_neg d_int) da_nil))) (da_cons (d_tup (da_cons (d_tup (da_cons (d_tup (da_cons d_int (da_cons d_int da_nil))) (da_cons (d_tup (da_cons d_int (da_cons d_int da_nil))) da_nil))) (da_cons d_int da_nil))) da_nil))))) (nomark _))
    (dss_one (ds_ret d_bl))
    (dss_nil))
    (dss_cons (ds_if (dt_cmp (op_neD hr.units) b_ne (d_ofF (df_lc (own := [("pairing", 14), ("sign", 15)]) sc_law.nd (di_seq (d_call ((d_crossing_pairings T).mono (by first | decide | omega | (simp only [Nat.add_eq]; omega))) hr (da_cons d_int da_nil))) (blkOk_by (N := N_law) (by kernel_rfl)) (by decide) (fun _ _ _ _ _ => dg_tp (dgs_cons (dg_nm sc_law.nd) (dgs_cons (dg_nm sc_law.nd) (dgs_nil)))) (fun _ _ _ _ _ => dts_nil) (fun _ _ _ _ _ => d_tup (da_cons (d_call ((d__law_plain T).mono (by first | decide | omega | (simp only [Nat.add_eq]; omega))) hr (da_cons (d_var 14) da_nil)) (da_cons (d_var 15) da_nil))))) (d_ofF (df_lst (da_cons (d_tup (da_cons (d_tup (da_cons (d_tup (da_cons d_int (da_cons d_int da_nil))) da_nil)) (da_cons d_int da_nil))) da_nil))) (nomark _))
    (dss_one (ds_ret d_bl))
    (dss_nil))
    (dss_cons (ds_for (di_range1 T.b_range (da_cons d_int da_nil)) (dg_nm sc_law.nd)
    (dss_cons (ds_set (i := 4) sc_law.nd (d_callL 1 ((d__law_any T).mono (by first | decide | omega | (simp only [Nat.add_eq]; omega))) hr (da_cons (d_ofF (df_lst (da_cons d_int (da_cons d_int (da_cons d_int da_nil))))) da_nil)))
    (dss_cons (ds_set (i := 5) sc_law.nd (d_callL 1 ((d__law_tilted T).mono (by first | decide | omega | (simp only [Nat.add_eq]; omega))) hr (da_cons (d_var 4) (da_cons d_int da_nil))))
    (dss_cons (ds_set (i := 6) sc_law.nd (d_call ((d__law_pairs_sum T).mono (by first | decide | omega | (simp only [Nat.add_eq]; omega))) hr (da_cons (d_var 5) da_nil)))
    (dss_cons (ds_if (PW.pt (dw_or (dt_cmp (op_neD hr.units) b_ne (d_call ((d_pairs_sum T).mono (by first | decide | omega | (simp only [Nat.add_eq]; omega))) hr (da_cons (d_var 5) da_nil)) (d_var 6) (nomark _)) (dw_or1 (dt_cmp (op_neD hr.units) b_ne (d_call ((d_determinant T).mono (by first | decide | omega | (simp only [Nat.add_eq]; omega))) hr (da_cons (d_var 5) da_nil)) (d_op op_mulG b_mul (d_var 6) (d_var 6)) (nomark _)))))
    (dss_one (ds_ret d_bl))
    (dss_nil))
    (dss_cons (ds_set (i := 7) sc_law.nd (d_callL 1 ((d__law_rows T).mono (by first | decide | omega | (simp only [Nat.add_eq]; omega))) hr (da_cons (d_var 4) (da_cons (d_var 4) (da_cons d_int da_nil)))))
    (dss_cons (ds_set (i := 8) sc_law.nd (d_call ((d__law_product T).mono (by first | decide | omega | (simp only [Nat.add_eq]; omega))) hr (da_cons (d_call ((d__law_product T).mono (by first | decide | omega | (simp only [Nat.add_eq]; omega))) hr (da_cons (d_var 7) (da_cons (d_var 5) da_nil))) (da_cons (d_callTy call_tuple_of c_tup T.b_tuple (da_cons (d_ofF (df_lc (own := [("b", 18)]) sc_law.nd (di_range1 T.b_range (da_cons (d_var 4) da_nil)) (blkOk_by (N := N_law) (by kernel_rfl)) (by decide) (fun _ _ _ _ _ => dg_nm sc_law.nd) (fun _ _ _ _ _ => dts_nil) (fun _ _ _ _ _ => d_callTy call_tuple_of c_tup T.b_tuple (da_cons (d_ofF (df_lc (own := [("row", 19)]) sc_law.nd (di_seq (d_var 7)) (blkOk_by (N := N_law) (by kernel_rfl)) (by decide) (fun _ _ _ _ _ => dg_nm sc_law.nd) (fun _ _ _ _ _ => dts_nil) (fun _ _ _ _ _ => d_ixN 19 (d_var 18)))) da_nil)))) da_nil)) da_nil))))
    (dss_cons (ds_if (dt_cmp op_lt b_cmp (d_callB (cr_max rfl) c_maxL T.b_max (da_cons (d_ofF (df_lc (own := [("row", 19)]) sc_law.nd (di_seq (d_var 8)) (blkOk_by (N := N_law) (by kernel_rfl)) (by decide) (fun _ _ _ _ _ => dg_nm sc_law.nd) (fun _ _ _ _ _ => dts_nil) (fun _ _ _ _ _ => d_callB (cr_max rfl) c_maxL T.b_max (da_cons (d_ofF (df_lc (own := [("number", 20)]) sc_law.nd (di_seq (d_var 19)) (blkOk_by (N := N_law) (by kernel_rfl)) (by decide) (fun _ _ _ _ _ => dg_nm sc_law.nd) (fun _ _ _ _ _ => dts_nil) (fun _ _ _ _ _ => d_callB call_abs c_abs T.b_abs (da_cons (d_var 20) da_nil)))) da_nil)))) da_nil)) d_int (nomark _))
    (dss_one (ds_if (dt_cmp (op_neD hr.units) b_ne (d_call ((d_pairs_sum T).mono (by first | decide | omega | (simp only [Nat.add_eq]; omega))) hr (da_cons (d_var 8) da_nil)) (d_op op_mulG b_mul (d_call ((d__law_determinant T).mono (by first | decide | omega | (simp only [Nat.add_eq]; omega))) hr (da_cons (d_var 7) da_nil)) (d_var 6)) (nomark _))
    (dss_one (ds_ret d_bl))
    (dss_nil)))
    (dss_nil))
    (dss_cons (ds_setT (d_callL 1 ((d__law_any T).mono (by first | decide | omega | (simp only [Nat.add_eq]; omega))) hr (da_cons (d_call ((d__law_lots T).mono (by first | decide | omega | (simp only [Nat.add_eq]; omega))) hr (da_cons (d_var 4) (da_cons d_int da_nil))) da_nil)) (dg_tp (dgs_cons (dg_nm sc_law.nd) (dgs_cons (dg_nm sc_law.nd) (dgs_nil)))))
    (dss_cons (ds_setLc (own := [("at", 21)]) sc_law.nd (di_range1 T.b_range (da_cons (d_var 4) da_nil)) (blkOk_by (N := N_law) (by kernel_rfl)) (by decide) (fun _ _ _ _ _ => dg_nm sc_law.nd) (fun _ _ _ _ _ => dts_nil) (fun _ _ _ _ _ => d_if (dt_cmp (op_eqD hr.units) b_eq (d_var 21) (d_var 9) (nomark _)) (d_var 10) (d_if (dt_cmp (op_eqD hr.units) b_eq (d_var 21) (d_var 10) (nomark _)) (d_var 9) (d_var 21))) (sw_true rfl rfl rfl (by decide +kernel)))
    (dss_cons (ds_if (dt_cmp (op_neD hr.units) b_ne (d_call ((d_pairs_sum T).mono (by first | decide | omega | (simp only [Nat.add_eq]; omega))) hr (da_cons (d_call ((d__law_part T).mono (by first | decide | omega | (simp only [Nat.add_eq]; omega))) hr (da_cons (d_var 5) (da_cons (d_var 11) (da_cons (d_var 11) da_nil)))) da_nil)) (d_op op_sub b_sub d_int (d_var 6)) (nomark _))
    (dss_one (ds_ret d_bl))
    (dss_nil))
    (dss_cons (ds_set (i := 12) sc_law.nd (d_callL 1 ((d__law_tilted T).mono (by first | decide | omega | (simp only [Nat.add_eq]; omega))) hr (da_cons d_int (da_cons d_int da_nil))))
    (dss_cons (ds_if (PW.pt (dw_and (dt_cmp (op_eqD hr.units) b_eq (d_var 4) d_int (nomark _)) (dw_and1 (dt_cmp (op_neD hr.units) b_ne (d_call ((d_pairs_sum T).mono (by first | decide | omega | (simp only [Nat.add_eq]; omega))) hr (da_cons (d_call ((d_blocks T).mono (by first | decide | omega | (simp only [Nat.add_eq]; omega))) hr (da_cons (d_var 5) (da_cons (d_var 12) da_nil))) da_nil)) (d_op op_mulG b_mul (d_var 6) (d_ix (d_ixN 12 d_int) d_int)) (nomark _)))))
    (dss_one (ds_ret d_bl))
    (dss_nil))
    (dss_cons (ds_set (i := 13) sc_law.nd d_int)
    (dss_cons (ds_for (di_seq (d_call ((d_crossing_pairings T).mono (by first | decide | omega | (simp only [Nat.add_eq]; omega))) hr (da_cons (d_var 4) da_nil))) (dg_tp (dgs_cons (dg_nm sc_law.nd) (dgs_cons (dg_nm sc_law.nd) (dgs_nil))))
    (dss_cons (ds_set (i := 16) sc_law.nd (d_var 15))
    (dss_cons (ds_for (di_seq (d_call ((d__law_plain T).mono (by first | decide | omega | (simp only [Nat.add_eq]; omega))) hr (da_cons (d_var 14) da_nil))) (dg_tp (dgs_cons (dg_nm sc_law.nd) (dgs_cons (dg_nm sc_law.nd) (dgs_nil))))
    (dss_one (ds_set (i := 16) sc_law.nd (d_op op_mulG b_mul (d_var 16) (d_ix (d_ixN 5 (d_var 17)) (d_var 18))))))
    (dss_one (ds_set (i := 13) sc_law.nd (d_op op_addG b_add (d_var 13) (d_var 16)))))))
    (dss_one (ds_if (dt_cmp (op_neD hr.units) b_ne (d_var 13) (d_var 6) (nomark _))
    (dss_one (ds_ret d_bl))
    (dss_nil))))))))))))))))))
    (dss_one (ds_ret d_bl)))))))
end
/-- what is asked of the law's own function -/
def LawOk : Prop := ∀ ns : List Int, ns.length ≤ 63 → ∃ fin, F_law [.scr ns] = some (.d (.bool true), fin)
theorem all_mk {l : PySem.W.OpenLaw} {w : World} {K : PySem.W.Frag} {h : Heap} {mg : Str → Option Value} {fa : Addr} (X : K.In h) (G : h.Ns mainGlobals mg) (hfa : mg "law" = some (.ref fa))
    {f0 f1 f2 f3 f4 f5 f6 f7 f8 f9 f10 f11 f12 f13 f14 f15 f16 f17 f18 f19 f20 f21 f22 f23 f24 f25 f26 f27 f28 f29 f30 f31 : Addr} {od0 an0 od1 an1 od2 an2 od3 an3 od4 an4 od5 an5 od6 an6 od7 an7 od8 an8 od9 an9 od10 an10 od11 an11 od12 an12 od13 an13 od14 an14 od15 an15 od16 an16 od17 an17 od18 an18 od19 an19 od20 an20 od21 an21 od22 an22 od23 an23 od24 an24 od25 an25 od26 an26 od27 an27 od28 an28 od29 an29 od30 an30 od31 an31 : Option Addr} {sl0 sl1 sl2 sl3 sl4 sl5 sl6 sl7 sl8 sl9 sl10 sl11 sl12 sl13 sl14 sl15 sl16 sl17 sl18 sl19 sl20 sl21 sl22 sl23 sl24 sl25 sl26 sl27 sl28 sl29 sl30 sl31 : Array (Option Value)} {oc0 kV0 dc0 pm0 cd0 ct0 oc1 kV1 dc1 pm1 cd1 ct1 oc2 kV2 dc2 pm2 cd2 ct2 oc3 kV3 dc3 pm3 cd3 ct3 oc4 kV4 dc4 pm4 cd4 ct4 oc5 kV5 dc5 pm5 cd5 ct5 oc6 kV6 dc6 pm6 cd6 ct6 oc7 kV7 dc7 pm7 cd7 ct7 oc8 kV8 dc8 pm8 cd8 ct8 oc9 kV9 dc9 pm9 cd9 ct9 oc10 kV10 dc10 pm10 cd10 ct10 oc11 kV11 dc11 pm11 cd11 ct11 oc12 kV12 dc12 pm12 cd12 ct12 oc13 kV13 dc13 pm13 cd13 ct13 oc14 kV14 dc14 pm14 cd14 ct14 oc15 kV15 dc15 pm15 cd15 ct15 oc16 kV16 dc16 pm16 cd16 ct16 oc17 kV17 dc17 pm17 cd17 ct17 oc18 kV18 dc18 pm18 cd18 ct18 oc19 kV19 dc19 pm19 cd19 ct19 oc20 kV20 dc20 pm20 cd20 ct20 oc21 kV21 dc21 pm21 cd21 ct21 oc22 kV22 dc22 pm22 cd22 ct22 oc23 kV23 dc23 pm23 cd23 ct23 oc24 kV24 dc24 pm24 cd24 ct24 oc25 kV25 dc25 pm25 cd25 ct25 oc26 kV26 dc26 pm26 cd26 ct26 oc27 kV27 dc27 pm27 cd27 ct27 oc28 kV28 dc28 pm28 cd28 ct28 oc29 kV29 dc29 pm29 cd29 ct29 oc30 kV30 dc30 pm30 cd30 ct30 oc31 kV31 dc31 pm31 cd31 ct31 : Value}
    (a0 : PySem.W.nsIn K mainGlobals "_law_hand" = some (some (.ref f0))) (l0 : K.lookup f0 = some ⟨oc0, od0, .func (PySem.W.fnOf "_law_hand" "_law_hand" (defArgs s__law_hand) (defBody s__law_hand) (defScope s__law_hand) .none kV0 dc0 pm0 an0 cd0 ct0), sl0⟩) (c0 : PySem.W.codeIn K cd0 "_law_hand" = true) (k0 : PySem.W.keepIn K (.ref f0) = true)
    (a1 : PySem.W.nsIn K mainGlobals "is_tuple" = some (some (.ref f1))) (l1 : K.lookup f1 = some ⟨oc1, od1, .func (PySem.W.fnOf "is_tuple" "is_tuple" (defArgs s_is_tuple) (defBody s_is_tuple) (defScope s_is_tuple) .none kV1 dc1 pm1 an1 cd1 ct1), sl1⟩) (c1 : PySem.W.codeIn K cd1 "is_tuple" = true) (k1 : PySem.W.keepIn K (.ref f1) = true)
    (a2 : PySem.W.nsIn K mainGlobals "is_integer" = some (some (.ref f2))) (l2 : K.lookup f2 = some ⟨oc2, od2, .func (PySem.W.fnOf "is_integer" "is_integer" (defArgs s_is_integer) (defBody s_is_integer) (defScope s_is_integer) .none kV2 dc2 pm2 an2 cd2 ct2), sl2⟩) (c2 : PySem.W.codeIn K cd2 "is_integer" = true) (k2 : PySem.W.keepIn K (.ref f2) = true)
    (a3 : PySem.W.nsIn K mainGlobals "is_within" = some (some (.ref f3))) (l3 : K.lookup f3 = some ⟨oc3, od3, .func (PySem.W.fnOf "is_within" "is_within" (defArgs s_is_within) (defBody s_is_within) (defScope s_is_within) .none kV3 dc3 pm3 an3 cd3 ct3), sl3⟩) (c3 : PySem.W.codeIn K cd3 "is_within" = true) (k3 : PySem.W.keepIn K (.ref f3) = true)
    (a4 : PySem.W.nsIn K mainGlobals "is_entry" = some (some (.ref f4))) (l4 : K.lookup f4 = some ⟨oc4, od4, .func (PySem.W.fnOf "is_entry" "is_entry" (defArgs s_is_entry) (defBody s_is_entry) (defScope s_is_entry) .none kV4 dc4 pm4 an4 cd4 ct4), sl4⟩) (c4 : PySem.W.codeIn K cd4 "is_entry" = true) (k4 : PySem.W.keepIn K (.ref f4) = true)
    (a5 : PySem.W.nsIn K mainGlobals "is_line" = some (some (.ref f5))) (l5 : K.lookup f5 = some ⟨oc5, od5, .func (PySem.W.fnOf "is_line" "is_line" (defArgs s_is_line) (defBody s_is_line) (defScope s_is_line) .none kV5 dc5 pm5 an5 cd5 ct5), sl5⟩) (c5 : PySem.W.codeIn K cd5 "is_line" = true) (k5 : PySem.W.keepIn K (.ref f5) = true)
    (a6 : PySem.W.nsIn K mainGlobals "are_rows" = some (some (.ref f6))) (l6 : K.lookup f6 = some ⟨oc6, od6, .func (PySem.W.fnOf "are_rows" "are_rows" (defArgs s_are_rows) (defBody s_are_rows) (defScope s_are_rows) .none kV6 dc6 pm6 an6 cd6 ct6), sl6⟩) (c6 : PySem.W.codeIn K cd6 "are_rows" = true) (k6 : PySem.W.keepIn K (.ref f6) = true)
    (a7 : PySem.W.nsIn K mainGlobals "check_rows" = some (some (.ref f7))) (l7 : K.lookup f7 = some ⟨oc7, od7, .func (PySem.W.fnOf "check_rows" "check_rows" (defArgs s_check_rows) (defBody s_check_rows) (defScope s_check_rows) .none kV7 dc7 pm7 an7 cd7 ct7), sl7⟩) (c7 : PySem.W.codeIn K cd7 "check_rows" = true) (k7 : PySem.W.keepIn K (.ref f7) = true)
    (a8 : PySem.W.nsIn K mainGlobals "check_square" = some (some (.ref f8))) (l8 : K.lookup f8 = some ⟨oc8, od8, .func (PySem.W.fnOf "check_square" "check_square" (defArgs s_check_square) (defBody s_check_square) (defScope s_check_square) .none kV8 dc8 pm8 an8 cd8 ct8), sl8⟩) (c8 : PySem.W.codeIn K cd8 "check_square" = true) (k8 : PySem.W.keepIn K (.ref f8) = true)
    (a9 : PySem.W.nsIn K mainGlobals "pairings_of" = some (some (.ref f9))) (l9 : K.lookup f9 = some ⟨oc9, od9, .func (PySem.W.fnOf "pairings_of" "pairings_of" (defArgs s_pairings_of) (defBody s_pairings_of) (defScope s_pairings_of) .none kV9 dc9 pm9 an9 cd9 ct9), sl9⟩) (c9 : PySem.W.codeIn K cd9 "pairings_of" = true) (k9 : PySem.W.keepIn K (.ref f9) = true)
    (a10 : PySem.W.nsIn K mainGlobals "columns_of" = some (some (.ref f10))) (l10 : K.lookup f10 = some ⟨oc10, od10, .func (PySem.W.fnOf "columns_of" "columns_of" (defArgs s_columns_of) (defBody s_columns_of) (defScope s_columns_of) .none kV10 dc10 pm10 an10 cd10 ct10), sl10⟩) (c10 : PySem.W.codeIn K cd10 "columns_of" = true) (k10 : PySem.W.keepIn K (.ref f10) = true)
    (a11 : PySem.W.nsIn K mainGlobals "turned_of" = some (some (.ref f11))) (l11 : K.lookup f11 = some ⟨oc11, od11, .func (PySem.W.fnOf "turned_of" "turned_of" (defArgs s_turned_of) (defBody s_turned_of) (defScope s_turned_of) .none kV11 dc11 pm11 an11 cd11 ct11), sl11⟩) (c11 : PySem.W.codeIn K cd11 "turned_of" = true) (k11 : PySem.W.keepIn K (.ref f11) = true)
    (a12 : PySem.W.nsIn K mainGlobals "sign_of" = some (some (.ref f12))) (l12 : K.lookup f12 = some ⟨oc12, od12, .func (PySem.W.fnOf "sign_of" "sign_of" (defArgs s_sign_of) (defBody s_sign_of) (defScope s_sign_of) .none kV12 dc12 pm12 an12 cd12 ct12), sl12⟩) (c12 : PySem.W.codeIn K cd12 "sign_of" = true) (k12 : PySem.W.keepIn K (.ref f12) = true)
    (a13 : PySem.W.nsIn K mainGlobals "pairs_sum" = some (some (.ref f13))) (l13 : K.lookup f13 = some ⟨oc13, od13, .func (PySem.W.fnOf "pairs_sum" "pairs_sum" (defArgs s_pairs_sum) (defBody s_pairs_sum) (defScope s_pairs_sum) .none kV13 dc13 pm13 an13 cd13 ct13), sl13⟩) (c13 : PySem.W.codeIn K cd13 "pairs_sum" = true) (k13 : PySem.W.keepIn K (.ref f13) = true)
    (a14 : PySem.W.nsIn K mainGlobals "_law_draw" = some (some (.ref f14))) (l14 : K.lookup f14 = some ⟨oc14, od14, .func (PySem.W.fnOf "_law_draw" "_law_draw" (defArgs s__law_draw) (defBody s__law_draw) (defScope s__law_draw) .none kV14 dc14 pm14 an14 cd14 ct14), sl14⟩) (c14 : PySem.W.codeIn K cd14 "_law_draw" = true) (k14 : PySem.W.keepIn K (.ref f14) = true)
    (a15 : PySem.W.nsIn K mainGlobals "_law_any" = some (some (.ref f15))) (l15 : K.lookup f15 = some ⟨oc15, od15, .func (PySem.W.fnOf "_law_any" "_law_any" (defArgs s__law_any) (defBody s__law_any) (defScope s__law_any) .none kV15 dc15 pm15 an15 cd15 ct15), sl15⟩) (c15 : PySem.W.codeIn K cd15 "_law_any" = true) (k15 : PySem.W.keepIn K (.ref f15) = true)
    (a16 : PySem.W.nsIn K mainGlobals "_law_rows" = some (some (.ref f16))) (l16 : K.lookup f16 = some ⟨oc16, od16, .func (PySem.W.fnOf "_law_rows" "_law_rows" (defArgs s__law_rows) (defBody s__law_rows) (defScope s__law_rows) .none kV16 dc16 pm16 an16 cd16 ct16), sl16⟩) (c16 : PySem.W.codeIn K cd16 "_law_rows" = true) (k16 : PySem.W.keepIn K (.ref f16) = true)
    (a17 : PySem.W.nsIn K mainGlobals "_law_tilted" = some (some (.ref f17))) (l17 : K.lookup f17 = some ⟨oc17, od17, .func (PySem.W.fnOf "_law_tilted" "_law_tilted" (defArgs s__law_tilted) (defBody s__law_tilted) (defScope s__law_tilted) .none kV17 dc17 pm17 an17 cd17 ct17), sl17⟩) (c17 : PySem.W.codeIn K cd17 "_law_tilted" = true) (k17 : PySem.W.keepIn K (.ref f17) = true)
    (a18 : PySem.W.nsIn K mainGlobals "_law_pairs_sum" = some (some (.ref f18))) (l18 : K.lookup f18 = some ⟨oc18, od18, .func (PySem.W.fnOf "_law_pairs_sum" "_law_pairs_sum" (defArgs s__law_pairs_sum) (defBody s__law_pairs_sum) (defScope s__law_pairs_sum) .none kV18 dc18 pm18 an18 cd18 ct18), sl18⟩) (c18 : PySem.W.codeIn K cd18 "_law_pairs_sum" = true) (k18 : PySem.W.keepIn K (.ref f18) = true)
    (a19 : PySem.W.nsIn K mainGlobals "_law_product" = some (some (.ref f19))) (l19 : K.lookup f19 = some ⟨oc19, od19, .func (PySem.W.fnOf "_law_product" "_law_product" (defArgs s__law_product) (defBody s__law_product) (defScope s__law_product) .none kV19 dc19 pm19 an19 cd19 ct19), sl19⟩) (c19 : PySem.W.codeIn K cd19 "_law_product" = true) (k19 : PySem.W.keepIn K (.ref f19) = true)
    (a20 : PySem.W.nsIn K mainGlobals "crossing_pairings" = some (some (.ref f20))) (l20 : K.lookup f20 = some ⟨oc20, od20, .func (PySem.W.fnOf "crossing_pairings" "crossing_pairings" (defArgs s_crossing_pairings) (defBody s_crossing_pairings) (defScope s_crossing_pairings) .none kV20 dc20 pm20 an20 cd20 ct20), sl20⟩) (c20 : PySem.W.codeIn K cd20 "crossing_pairings" = true) (k20 : PySem.W.keepIn K (.ref f20) = true)
    (a21 : PySem.W.nsIn K mainGlobals "_law_lots" = some (some (.ref f21))) (l21 : K.lookup f21 = some ⟨oc21, od21, .func (PySem.W.fnOf "_law_lots" "_law_lots" (defArgs s__law_lots) (defBody s__law_lots) (defScope s__law_lots) .none kV21 dc21 pm21 an21 cd21 ct21), sl21⟩) (c21 : PySem.W.codeIn K cd21 "_law_lots" = true) (k21 : PySem.W.keepIn K (.ref f21) = true)
    (a22 : PySem.W.nsIn K mainGlobals "_law_plain" = some (some (.ref f22))) (l22 : K.lookup f22 = some ⟨oc22, od22, .func (PySem.W.fnOf "_law_plain" "_law_plain" (defArgs s__law_plain) (defBody s__law_plain) (defScope s__law_plain) .none kV22 dc22 pm22 an22 cd22 ct22), sl22⟩) (c22 : PySem.W.codeIn K cd22 "_law_plain" = true) (k22 : PySem.W.keepIn K (.ref f22) = true)
    (a23 : PySem.W.nsIn K mainGlobals "det_of" = some (some (.ref f23))) (l23 : K.lookup f23 = some ⟨oc23, od23, .func (PySem.W.fnOf "det_of" "det_of" (defArgs s_det_of) (defBody s_det_of) (defScope s_det_of) .none kV23 dc23 pm23 an23 cd23 ct23), sl23⟩) (c23 : PySem.W.codeIn K cd23 "det_of" = true) (k23 : PySem.W.keepIn K (.ref f23) = true)
    (a24 : PySem.W.nsIn K mainGlobals "determinant" = some (some (.ref f24))) (l24 : K.lookup f24 = some ⟨oc24, od24, .func (PySem.W.fnOf "determinant" "determinant" (defArgs s_determinant) (defBody s_determinant) (defScope s_determinant) .none kV24 dc24 pm24 an24 cd24 ct24), sl24⟩) (c24 : PySem.W.codeIn K cd24 "determinant" = true) (k24 : PySem.W.keepIn K (.ref f24) = true)
    (a25 : PySem.W.nsIn K mainGlobals "_law_part" = some (some (.ref f25))) (l25 : K.lookup f25 = some ⟨oc25, od25, .func (PySem.W.fnOf "_law_part" "_law_part" (defArgs s__law_part) (defBody s__law_part) (defScope s__law_part) .none kV25 dc25 pm25 an25 cd25 ct25), sl25⟩) (c25 : PySem.W.codeIn K cd25 "_law_part" = true) (k25 : PySem.W.keepIn K (.ref f25) = true)
    (a26 : PySem.W.nsIn K mainGlobals "_law_orders" = some (some (.ref f26))) (l26 : K.lookup f26 = some ⟨oc26, od26, .func (PySem.W.fnOf "_law_orders" "_law_orders" (defArgs s__law_orders) (defBody s__law_orders) (defScope s__law_orders) .none kV26 dc26 pm26 an26 cd26 ct26), sl26⟩) (c26 : PySem.W.codeIn K cd26 "_law_orders" = true) (k26 : PySem.W.keepIn K (.ref f26) = true)
    (a27 : PySem.W.nsIn K mainGlobals "_law_determinant" = some (some (.ref f27))) (l27 : K.lookup f27 = some ⟨oc27, od27, .func (PySem.W.fnOf "_law_determinant" "_law_determinant" (defArgs s__law_determinant) (defBody s__law_determinant) (defScope s__law_determinant) .none kV27 dc27 pm27 an27 cd27 ct27), sl27⟩) (c27 : PySem.W.codeIn K cd27 "_law_determinant" = true) (k27 : PySem.W.keepIn K (.ref f27) = true)
    (a28 : PySem.W.nsIn K mainGlobals "check_both" = some (some (.ref f28))) (l28 : K.lookup f28 = some ⟨oc28, od28, .func (PySem.W.fnOf "check_both" "check_both" (defArgs s_check_both) (defBody s_check_both) (defScope s_check_both) .none kV28 dc28 pm28 an28 cd28 ct28), sl28⟩) (c28 : PySem.W.codeIn K cd28 "check_both" = true) (k28 : PySem.W.keepIn K (.ref f28) = true)
    (a29 : PySem.W.nsIn K mainGlobals "check_room" = some (some (.ref f29))) (l29 : K.lookup f29 = some ⟨oc29, od29, .func (PySem.W.fnOf "check_room" "check_room" (defArgs s_check_room) (defBody s_check_room) (defScope s_check_room) .none kV29 dc29 pm29 an29 cd29 ct29), sl29⟩) (c29 : PySem.W.codeIn K cd29 "check_room" = true) (k29 : PySem.W.keepIn K (.ref f29) = true)
    (a30 : PySem.W.nsIn K mainGlobals "blocks" = some (some (.ref f30))) (l30 : K.lookup f30 = some ⟨oc30, od30, .func (PySem.W.fnOf "blocks" "blocks" (defArgs s_blocks) (defBody s_blocks) (defScope s_blocks) .none kV30 dc30 pm30 an30 cd30 ct30), sl30⟩) (c30 : PySem.W.codeIn K cd30 "blocks" = true) (k30 : PySem.W.keepIn K (.ref f30) = true)
    (a31 : PySem.W.nsIn K mainGlobals "law" = some (some (.ref f31))) (l31 : K.lookup f31 = some ⟨oc31, od31, .func (PySem.W.fnOf "law" "law" (defArgs s_law) (defBody s_law) (defScope s_law) .none kV31 dc31 pm31 an31 cd31 ct31), sl31⟩) (c31 : PySem.W.codeIn K cd31 "law" = true) (k31 : PySem.W.keepIn K (.ref f31) = true)
    (z0 : PySem.W.nsIn K mainGlobals "abs" = some none)
    (z1 : PySem.W.nsIn K mainGlobals "all" = some none)
    (z2 : PySem.W.nsIn K mainGlobals "bool" = some none)
    (z3 : PySem.W.nsIn K mainGlobals "enumerate" = some none)
    (z4 : PySem.W.nsIn K mainGlobals "int" = some none)
    (z5 : PySem.W.nsIn K mainGlobals "isinstance" = some none)
    (z6 : PySem.W.nsIn K mainGlobals "len" = some none)
    (z7 : PySem.W.nsIn K mainGlobals "list" = some none)
    (z8 : PySem.W.nsIn K mainGlobals "max" = some none)
    (z9 : PySem.W.nsIn K mainGlobals "range" = some none)
    (z10 : PySem.W.nsIn K mainGlobals "sorted" = some none)
    (z11 : PySem.W.nsIn K mainGlobals "sum" = some none)
    (z12 : PySem.W.nsIn K mainGlobals "tuple" = some none)
    (z13 : PySem.W.nsIn K mainGlobals "zip" = some none)
    {t0 t1 : Tok}
    (y0 : PySem.W.nsIn K mainGlobals "GREATEST" = some (some (.int 30 t0)))
    (y1 : PySem.W.nsIn K mainGlobals "MOST_SIZE" = some (some (.int 5 t1)))
    : ∃ fd : FuncData, (∀ (s : Shared) (v : Value), BindsTo s fd ⟨[v], []⟩ [("script", v)]) ∧ ∀ base : Heap, K.In base → base.Ns mainGlobals mg → AtA l.prog w K mg base callerA 9 fa fd ["script"] (spG K 1 F_law) := by
  have e := hfa.symm.trans (PySem.W.mg_of X G a31)
  cases e
  have T : Tops K mg := {
    b_abs := PySem.W.mg_none_of X G z0
    b_all := PySem.W.mg_none_of X G z1
    b_bool := PySem.W.mg_none_of X G z2
    b_enumerate := PySem.W.mg_none_of X G z3
    b_int := PySem.W.mg_none_of X G z4
    b_isinstance := PySem.W.mg_none_of X G z5
    b_len := PySem.W.mg_none_of X G z6
    b_list := PySem.W.mg_none_of X G z7
    b_max := PySem.W.mg_none_of X G z8
    b_range := PySem.W.mg_none_of X G z9
    b_sorted := PySem.W.mg_none_of X G z10
    b_sum := PySem.W.mg_none_of X G z11
    b_tuple := PySem.W.mg_none_of X G z12
    b_zip := PySem.W.mg_none_of X G z13
    c_GREATEST := ⟨_, PySem.W.mg_of X G y0⟩
    c_MOST_SIZE := ⟨_, PySem.W.mg_of X G y1⟩
    f__law_hand := ⟨_, _, fun_mk (st := s__law_hand) l0 c0 k0, PySem.W.mg_of X G a0, (fun_mk (st := s__law_hand) l0 c0 k0).binds fun _ _ _ _ _ _ us hl => match us, hl with | [_], _ => rfl⟩
    f_is_tuple := ⟨_, _, fun_mk (st := s_is_tuple) l1 c1 k1, PySem.W.mg_of X G a1, (fun_mk (st := s_is_tuple) l1 c1 k1).binds fun _ _ _ _ _ _ us hl => match us, hl with | [_, _, _], _ => rfl⟩
    f_is_integer := ⟨_, _, fun_mk (st := s_is_integer) l2 c2 k2, PySem.W.mg_of X G a2, (fun_mk (st := s_is_integer) l2 c2 k2).binds fun _ _ _ _ _ _ us hl => match us, hl with | [_], _ => rfl⟩
    f_is_within := ⟨_, _, fun_mk (st := s_is_within) l3 c3 k3, PySem.W.mg_of X G a3, (fun_mk (st := s_is_within) l3 c3 k3).binds fun _ _ _ _ _ _ us hl => match us, hl with | [_, _, _], _ => rfl⟩
    f_is_entry := ⟨_, _, fun_mk (st := s_is_entry) l4 c4 k4, PySem.W.mg_of X G a4, (fun_mk (st := s_is_entry) l4 c4 k4).binds fun _ _ _ _ _ _ us hl => match us, hl with | [_], _ => rfl⟩
    f_is_line := ⟨_, _, fun_mk (st := s_is_line) l5 c5 k5, PySem.W.mg_of X G a5, (fun_mk (st := s_is_line) l5 c5 k5).binds fun _ _ _ _ _ _ us hl => match us, hl with | [_, _], _ => rfl⟩
    f_are_rows := ⟨_, _, fun_mk (st := s_are_rows) l6 c6 k6, PySem.W.mg_of X G a6, (fun_mk (st := s_are_rows) l6 c6 k6).binds fun _ _ _ _ _ _ us hl => match us, hl with | [_], _ => rfl⟩
    f_check_rows := ⟨_, _, fun_mk (st := s_check_rows) l7 c7 k7, PySem.W.mg_of X G a7, (fun_mk (st := s_check_rows) l7 c7 k7).binds fun _ _ _ _ _ _ us hl => match us, hl with | [_], _ => rfl⟩
    f_check_square := ⟨_, _, fun_mk (st := s_check_square) l8 c8 k8, PySem.W.mg_of X G a8, (fun_mk (st := s_check_square) l8 c8 k8).binds fun _ _ _ _ _ _ us hl => match us, hl with | [_], _ => rfl⟩
    f_pairings_of := ⟨_, _, fun_mk (st := s_pairings_of) l9 c9 k9, PySem.W.mg_of X G a9, (fun_mk (st := s_pairings_of) l9 c9 k9).binds fun _ _ _ _ _ _ us hl => match us, hl with | [_], _ => rfl⟩
    f_columns_of := ⟨_, _, fun_mk (st := s_columns_of) l10 c10 k10, PySem.W.mg_of X G a10, (fun_mk (st := s_columns_of) l10 c10 k10).binds fun _ _ _ _ _ _ us hl => match us, hl with | [_], _ => rfl⟩
    f_turned_of := ⟨_, _, fun_mk (st := s_turned_of) l11 c11 k11, PySem.W.mg_of X G a11, (fun_mk (st := s_turned_of) l11 c11 k11).binds fun _ _ _ _ _ _ us hl => match us, hl with | [_], _ => rfl⟩
    f_sign_of := ⟨_, _, fun_mk (st := s_sign_of) l12 c12 k12, PySem.W.mg_of X G a12, (fun_mk (st := s_sign_of) l12 c12 k12).binds fun _ _ _ _ _ _ us hl => match us, hl with | [_], _ => rfl⟩
    f_pairs_sum := ⟨_, _, fun_mk (st := s_pairs_sum) l13 c13 k13, PySem.W.mg_of X G a13, (fun_mk (st := s_pairs_sum) l13 c13 k13).binds fun _ _ _ _ _ _ us hl => match us, hl with | [_], _ => rfl⟩
    f__law_draw := ⟨_, _, fun_mk (st := s__law_draw) l14 c14 k14, PySem.W.mg_of X G a14, (fun_mk (st := s__law_draw) l14 c14 k14).binds fun _ _ _ _ _ _ us hl => match us, hl with | [_, _], _ => rfl⟩
    f__law_any := ⟨_, _, fun_mk (st := s__law_any) l15 c15 k15, PySem.W.mg_of X G a15, (fun_mk (st := s__law_any) l15 c15 k15).binds fun _ _ _ _ _ _ us hl => match us, hl with | [_, _], _ => rfl⟩
    f__law_rows := ⟨_, _, fun_mk (st := s__law_rows) l16 c16 k16, PySem.W.mg_of X G a16, (fun_mk (st := s__law_rows) l16 c16 k16).binds fun _ _ _ _ _ _ us hl => match us, hl with | [_, _, _, _], _ => rfl⟩
    f__law_tilted := ⟨_, _, fun_mk (st := s__law_tilted) l17 c17 k17, PySem.W.mg_of X G a17, (fun_mk (st := s__law_tilted) l17 c17 k17).binds fun _ _ _ _ _ _ us hl => match us, hl with | [_, _, _], _ => rfl⟩
    f__law_pairs_sum := ⟨_, _, fun_mk (st := s__law_pairs_sum) l18 c18 k18, PySem.W.mg_of X G a18, (fun_mk (st := s__law_pairs_sum) l18 c18 k18).binds fun _ _ _ _ _ _ us hl => match us, hl with | [_], _ => rfl⟩
    f__law_product := ⟨_, _, fun_mk (st := s__law_product) l19 c19 k19, PySem.W.mg_of X G a19, (fun_mk (st := s__law_product) l19 c19 k19).binds fun _ _ _ _ _ _ us hl => match us, hl with | [_, _], _ => rfl⟩
    f_crossing_pairings := ⟨_, _, fun_mk (st := s_crossing_pairings) l20 c20 k20, PySem.W.mg_of X G a20, (fun_mk (st := s_crossing_pairings) l20 c20 k20).binds fun _ _ _ _ _ _ us hl => match us, hl with | [_], _ => rfl⟩
    f__law_lots := ⟨_, _, fun_mk (st := s__law_lots) l21 c21 k21, PySem.W.mg_of X G a21, (fun_mk (st := s__law_lots) l21 c21 k21).binds fun _ _ _ _ _ _ us hl => match us, hl with | [_, _], _ => rfl⟩
    f__law_plain := ⟨_, _, fun_mk (st := s__law_plain) l22 c22 k22, PySem.W.mg_of X G a22, (fun_mk (st := s__law_plain) l22 c22 k22).binds fun _ _ _ _ _ _ us hl => match us, hl with | [_], _ => rfl⟩
    f_det_of := ⟨_, _, fun_mk (st := s_det_of) l23 c23 k23, PySem.W.mg_of X G a23, (fun_mk (st := s_det_of) l23 c23 k23).binds fun _ _ _ _ _ _ us hl => match us, hl with | [_], _ => rfl⟩
    f_determinant := ⟨_, _, fun_mk (st := s_determinant) l24 c24 k24, PySem.W.mg_of X G a24, (fun_mk (st := s_determinant) l24 c24 k24).binds fun _ _ _ _ _ _ us hl => match us, hl with | [_], _ => rfl⟩
    f__law_part := ⟨_, _, fun_mk (st := s__law_part) l25 c25 k25, PySem.W.mg_of X G a25, (fun_mk (st := s__law_part) l25 c25 k25).binds fun _ _ _ _ _ _ us hl => match us, hl with | [_, _, _], _ => rfl⟩
    f__law_orders := ⟨_, _, fun_mk (st := s__law_orders) l26 c26 k26, PySem.W.mg_of X G a26, (fun_mk (st := s__law_orders) l26 c26 k26).binds fun _ _ _ _ _ _ us hl => match us, hl with | [_], _ => rfl⟩
    f__law_determinant := ⟨_, _, fun_mk (st := s__law_determinant) l27 c27 k27, PySem.W.mg_of X G a27, (fun_mk (st := s__law_determinant) l27 c27 k27).binds fun _ _ _ _ _ _ us hl => match us, hl with | [_], _ => rfl⟩
    f_check_both := ⟨_, _, fun_mk (st := s_check_both) l28 c28 k28, PySem.W.mg_of X G a28, (fun_mk (st := s_check_both) l28 c28 k28).binds fun _ _ _ _ _ _ us hl => match us, hl with | [_, _], _ => rfl⟩
    f_check_room := ⟨_, _, fun_mk (st := s_check_room) l29 c29 k29, PySem.W.mg_of X G a29, (fun_mk (st := s_check_room) l29 c29 k29).binds fun _ _ _ _ _ _ us hl => match us, hl with | [_, _], _ => rfl⟩
    f_blocks := ⟨_, _, fun_mk (st := s_blocks) l30 c30 k30, PySem.W.mg_of X G a30, (fun_mk (st := s_blocks) l30 c30 k30).binds fun _ _ _ _ _ _ us hl => match us, hl with | [_, _], _ => rfl⟩
    f_law := ⟨_, _, fun_mk (st := s_law) l31 c31 k31, PySem.W.mg_of X G a31, (fun_mk (st := s_law) l31 c31 k31).binds fun _ _ _ _ _ _ us hl => match us, hl with | [_], _ => rfl⟩ }
  refine ⟨PySem.W.fnOf "law" "law" (defArgs s_law) (defBody s_law) (defScope s_law) .none kV31 dc31 pm31 an31 cd31 ct31, fun s v => .of_eq rfl, fun base _ _ => ?_⟩
  have F := fun_mk (st := s_law) l31 c31 k31
  exact law_fn T F
end K17

open PySem PySem.W PyProof.Rows
set_option maxRecDepth 100000 in
set_option maxHeartbeats 0 in
theorem PySem.Challenge.cw_fewrows_k17_whole_pairings_of_tilted_squ_holds : PySem.Challenge.rw_fewrows_k17_whole_pairings_of_tilted_squ.Holds := by
  w_on; o_law; k_head; (case hw => w_witness2)
  k_fill
  refine DL.walk_at_caller (l := PySem.Challenge.rw_fewrows_k17_whole_pairings_of_tilted_squ) (k := 9) (x := "script") (F := K17.F_law) rfl rfl ⟨rfl, by decide, by decide⟩ (fun w h Y => PySem.W.kIn_of Y) ?F K17.law_ok
  case F =>
    intro w mg fa h KX G hmg
    refine' K17.all_mk KX G hmg ?a0 ?l0 ?c0 ?k0 ?a1 ?l1 ?c1 ?k1 ?a2 ?l2 ?c2 ?k2 ?a3 ?l3 ?c3 ?k3 ?a4 ?l4 ?c4 ?k4 ?a5 ?l5 ?c5 ?k5 ?a6 ?l6 ?c6 ?k6 ?a7 ?l7 ?c7 ?k7 ?a8 ?l8 ?c8 ?k8 ?a9 ?l9 ?c9 ?k9 ?a10 ?l10 ?c10 ?k10 ?a11 ?l11 ?c11 ?k11 ?a12 ?l12 ?c12 ?k12 ?a13 ?l13 ?c13 ?k13 ?a14 ?l14 ?c14 ?k14 ?a15 ?l15 ?c15 ?k15 ?a16 ?l16 ?c16 ?k16 ?a17 ?l17 ?c17 ?k17 ?a18 ?l18 ?c18 ?k18 ?a19 ?l19 ?c19 ?k19 ?a20 ?l20 ?c20 ?k20 ?a21 ?l21 ?c21 ?k21 ?a22 ?l22 ?c22 ?k22 ?a23 ?l23 ?c23 ?k23 ?a24 ?l24 ?c24 ?k24 ?a25 ?l25 ?c25 ?k25 ?a26 ?l26 ?c26 ?k26 ?a27 ?l27 ?c27 ?k27 ?a28 ?l28 ?c28 ?k28 ?a29 ?l29 ?c29 ?k29 ?a30 ?l30 ?c30 ?k30 ?a31 ?l31 ?c31 ?k31 ?z0 ?z1 ?z2 ?z3 ?z4 ?z5 ?z6 ?z7 ?z8 ?z9 ?z10 ?z11 ?z12 ?z13 ?y0 ?y1
    (case a0 => k_is); (case l0 => k_is); (case c0 => k_is); (case k0 => k_is); (case a1 => k_is); (case l1 => k_is); (case c1 => k_is); (case k1 => k_is); (case a2 => k_is); (case l2 => k_is); (case c2 => k_is); (case k2 => k_is); (case a3 => k_is); (case l3 => k_is); (case c3 => k_is); (case k3 => k_is); (case a4 => k_is); (case l4 => k_is); (case c4 => k_is); (case k4 => k_is); (case a5 => k_is); (case l5 => k_is); (case c5 => k_is); (case k5 => k_is); (case a6 => k_is); (case l6 => k_is); (case c6 => k_is); (case k6 => k_is); (case a7 => k_is); (case l7 => k_is); (case c7 => k_is); (case k7 => k_is); (case a8 => k_is); (case l8 => k_is); (case c8 => k_is); (case k8 => k_is); (case a9 => k_is); (case l9 => k_is); (case c9 => k_is); (case k9 => k_is); (case a10 => k_is); (case l10 => k_is); (case c10 => k_is); (case k10 => k_is); (case a11 => k_is); (case l11 => k_is); (case c11 => k_is); (case k11 => k_is); (case a12 => k_is); (case l12 => k_is); (case c12 => k_is); (case k12 => k_is); (case a13 => k_is); (case l13 => k_is); (case c13 => k_is); (case k13 => k_is); (case a14 => k_is); (case l14 => k_is); (case c14 => k_is); (case k14 => k_is); (case a15 => k_is); (case l15 => k_is); (case c15 => k_is); (case k15 => k_is); (case a16 => k_is); (case l16 => k_is); (case c16 => k_is); (case k16 => k_is); (case a17 => k_is); (case l17 => k_is); (case c17 => k_is); (case k17 => k_is); (case a18 => k_is); (case l18 => k_is); (case c18 => k_is); (case k18 => k_is); (case a19 => k_is); (case l19 => k_is); (case c19 => k_is); (case k19 => k_is); (case a20 => k_is); (case l20 => k_is); (case c20 => k_is); (case k20 => k_is); (case a21 => k_is); (case l21 => k_is); (case c21 => k_is); (case k21 => k_is); (case a22 => k_is); (case l22 => k_is); (case c22 => k_is); (case k22 => k_is); (case a23 => k_is); (case l23 => k_is); (case c23 => k_is); (case k23 => k_is); (case a24 => k_is); (case l24 => k_is); (case c24 => k_is); (case k24 => k_is); (case a25 => k_is); (case l25 => k_is); (case c25 => k_is); (case k25 => k_is); (case a26 => k_is); (case l26 => k_is); (case c26 => k_is); (case k26 => k_is); (case a27 => k_is); (case l27 => k_is); (case c27 => k_is); (case k27 => k_is); (case a28 => k_is); (case l28 => k_is); (case c28 => k_is); (case k28 => k_is); (case a29 => k_is); (case l29 => k_is); (case c29 => k_is); (case k29 => k_is); (case a30 => k_is); (case l30 => k_is); (case c30 => k_is); (case k30 => k_is); (case a31 => k_is); (case l31 => k_is); (case c31 => k_is); (case k31 => k_is); (case z0 => k_is); (case z1 => k_is); (case z2 => k_is); (case z3 => k_is); (case z4 => k_is); (case z5 => k_is); (case z6 => k_is); (case z7 => k_is); (case z8 => k_is); (case z9 => k_is); (case z10 => k_is); (case z11 => k_is); (case z12 => k_is); (case z13 => k_is); (case y0 => k_is); (case y1 => k_is)

