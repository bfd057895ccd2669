import PyProof.Rows.All
import Wide.All
import OpenK.AllK
import Wide.FinOn
import HandS.ForMost
import HandS.ForExc
import HandS.Wide
import HandS.Gcd
import HandS.Walk
import HandS.Zip
import HandS.TupAny
import HandS.TupMul
import HandS.Flow
import HandS.Conv
import HandS.IsInst
import HandS.TryMany
import KE.GoesEnum
import HandS.Text
import HandS.Strs
import HandS.ExcOwn
import KE.KExcInit
import HandS.ExcIs
import HandS.ExcField
import HandS.ReCall
import PySem.Challenge.RW_glidenames_k41_whole_from_when_to_when_a
set_option Elab.async false
set_option linter.all false
set_option maxRecDepth 100000
set_option maxHeartbeats 4000000
/-! G0: data that is never changed again (frozen), lists that one name alone holds (own), and what a step may do to them. -/
namespace GN
open PySem PySem.Spec PyProof.Rows L2
abbrev D := PyData
abbrev St := L2.St

mutual
inductive Rp (S : Hp) : V → D → Prop
  | non : Rp S .non .none
  | bl (b : Bool) : Rp S (.bl b) (.bool b)
  | int (i : Int) : Rp S (.int i) (.int i)
  | str (x : Str) : Rp S (.str x) (.str x)
  | lst {a : Addr} {xs : List V} {ds : List D} : S a = some (.lst xs) → RpAll S xs ds → Rp S (.ref a) (.list ds)
  | tup {a : Addr} {xs : List V} {ds : List D} : S a = some (.tup xs) → RpAll S xs ds → Rp S (.ref a) (.tuple ds)
inductive RpAll (S : Hp) : List V → List D → Prop
  | nil : RpAll S [] []
  | cons {v : V} {vs : List V} {d : D} {ds : List D} : Rp S v d → RpAll S vs ds → RpAll S (v :: vs) (d :: ds)
end
mutual
theorem Rp.mono {S S' : Hp} (h : Same S S') : ∀ (d : D) (v : V), Rp S v d → Rp S' v d
  | .none, _, r => by cases r; exact .non
  | .bool b, _, r => by cases r; exact .bl b
  | .int i, _, r => by cases r; exact .int i
  | .str x, _, r => by cases r; exact .str x
  | .list ds, _, r => by
    cases r with
    | lst e q => exact .lst (h _ _ e) (RpAll.mono h ds _ q)
  | .tuple ds, _, r => by
    cases r with
    | tup e q => exact .tup (h _ _ e) (RpAll.mono h ds _ q)
  | .dict _, _, r => by cases r
theorem RpAll.mono {S S' : Hp} (h : Same S S') : ∀ (ds : List D) (vs : List V), RpAll S vs ds → RpAll S' vs ds
  | [], _, r => by cases r; exact .nil
  | d :: ds, _, r => by
    cases r with
    | cons a b => exact .cons (Rp.mono h d _ a) (RpAll.mono h ds _ b)
end
theorem Rp.up {S S' : Hp} {v : V} {d : D} (r : Rp S v d) (h : Same S S') : Rp S' v d := Rp.mono h d v r
theorem RpAll.up {S S' : Hp} {vs : List V} {ds : List D} (r : RpAll S vs ds) (h : Same S S') : RpAll S' vs ds := RpAll.mono h ds vs r
theorem RpAll.length {S : Hp} : ∀ {vs : List V} {ds : List D}, RpAll S vs ds → vs.length = ds.length
  | _, _, .nil => rfl
  | _, _, .cons _ q => congrArg (· + 1) (RpAll.length q)
theorem RpAll.get {S : Hp} : ∀ {vs : List V} {ds : List D}, RpAll S vs ds → ∀ {i : Nat} {d : D}, ds[i]? = some d → ∃ v, vs[i]? = some v ∧ Rp S v d
  | _, _, .nil, i, d, e => by simp at e
  | _, _, .cons a b, 0, d, e => by
    simp at e; subst e
    exact ⟨_, rfl, a⟩
  | _, _, .cons a b, i + 1, d, e => by
    obtain ⟨v, h1, h2⟩ := RpAll.get b (i := i) (d := d) (by simpa using e)
    exact ⟨v, by simpa using h1, h2⟩
theorem RpAll.getV {S : Hp} : ∀ {vs : List V} {ds : List D}, RpAll S vs ds → ∀ {i : Nat} {v : V}, vs[i]? = some v → ∃ d, ds[i]? = some d ∧ Rp S v d
  | _, _, .nil, i, v, e => by simp at e
  | _, _, .cons a b, 0, v, e => by
    simp at e; subst e
    exact ⟨_, rfl, a⟩
  | _, _, .cons a b, i + 1, v, e => by
    obtain ⟨d, h1, h2⟩ := RpAll.getV b (i := i) (v := v) (by simpa using e)
    exact ⟨d, by simpa using h1, h2⟩
theorem RpAll.append {S : Hp} : ∀ {xs ys : List V} {ds es : List D}, RpAll S xs ds → RpAll S ys es → RpAll S (xs ++ ys) (ds ++ es)
  | _, _, _, _, .nil, q => q
  | _, _, _, _, .cons a b, q => .cons a (RpAll.append b q)
theorem RpAll.set {S : Hp} {v : V} {d : D} (r : Rp S v d) : ∀ {xs : List V} {ds : List D} (i : Nat), RpAll S xs ds → RpAll S (xs.set i v) (ds.set i d)
  | _, _, _, .nil => .nil
  | _, _, 0, .cons _ b => .cons r b
  | _, _, i + 1, .cons a b => .cons a (RpAll.set r i b)
theorem RpAll.take {S : Hp} : ∀ {xs : List V} {ds : List D} (n : Nat), RpAll S xs ds → RpAll S (xs.take n) (ds.take n)
  | _, _, 0, _ => .nil
  | _, _, _ + 1, .nil => .nil
  | _, _, n + 1, .cons a b => .cons a (RpAll.take n b)
theorem RpAll.drop {S : Hp} : ∀ {xs : List V} {ds : List D} (n : Nat), RpAll S xs ds → RpAll S (xs.drop n) (ds.drop n)
  | _, _, 0, r => r
  | _, _, _ + 1, .nil => .nil
  | _, _, n + 1, .cons a b => RpAll.drop n b
theorem RpAll.erase {S : Hp} : ∀ {xs : List V} {ds : List D} (n : Nat), RpAll S xs ds → RpAll S (xs.eraseIdx n) (ds.eraseIdx n)
  | _, _, _, .nil => .nil
  | _, _, 0, .cons _ b => b
  | _, _, n + 1, .cons a b => .cons a (RpAll.erase n b)
theorem RpAll.dropLast {S : Hp} : ∀ {xs : List V} {ds : List D}, RpAll S xs ds → RpAll S xs.dropLast ds.dropLast
  | _, _, .nil => .nil
  | _, _, .cons _ .nil => .nil
  | _, _, .cons a (.cons b c) => .cons a (RpAll.dropLast (.cons b c))
theorem RpAll.flat {S : Hp} {xs : List V} {ds : List D} (r : RpAll S xs ds) : ∀ n : Nat, RpAll S (List.replicate n xs).flatten (List.replicate n ds).flatten
  | 0 => .nil
  | n + 1 => by
    rw [List.replicate_succ, List.replicate_succ, List.flatten_cons, List.flatten_cons]
    exact r.append (RpAll.flat r n)
theorem RpAll.intsOf {S : Hp} : ∀ {vs : List V} {ns : List Int}, RpAll S vs (ns.map PyData.int) → vs = ns.map V.int
  | _, [], r => by cases r; rfl
  | _, n :: ns, r => by
    cases r with
    | cons a b =>
      cases a
      rw [List.map_cons, RpAll.intsOf b]
theorem RpAll.ofInts {S : Hp} : ∀ (ns : List Int), RpAll S (ns.map V.int) (ns.map PyData.int)
  | [] => .nil
  | n :: ns => .cons (.int n) (RpAll.ofInts ns)
theorem RpAll.blsOf {S : Hp} : ∀ {vs : List V} {ns : List Bool}, RpAll S vs (ns.map PyData.bool) → vs = ns.map V.bl
  | _, [], r => by cases r; rfl
  | _, n :: ns, r => by
    cases r with
    | cons a b =>
      cases a
      rw [List.map_cons, RpAll.blsOf b]

/-! ### a step: M may change, all else of H stands; what is frozen stays; what is newly frozen was not there, or may change -/
structure Adv (M : Addr → Prop) (S H S' H' : Hp) : Prop where
  ss : Same S S'
  sh : Same S' H'
  kp : ∀ a o, H a = some o → ¬ M a → H' a = some o
  nw : ∀ a o, S' a = some o → S a = some o ∨ H a = none ∨ M a
  dm : ∀ a, H' a = none → H a = none
abbrev NoM : Addr → Prop := fun _ => False
theorem Adv.refl {M : Addr → Prop} {S H : Hp} (h : Same S H) : Adv M S H S H := ⟨Same.refl S, h, fun _ _ e _ => e, fun _ _ e => .inl e, fun _ e => e⟩
theorem Adv.trans {M M' : Addr → Prop} {S H S1 H1 S2 H2 : Hp} (a : Adv M S H S1 H1) (b : Adv M' S1 H1 S2 H2) (hm : ∀ p, M' p → M p ∨ H p = none) : Adv M S H S2 H2 where
  ss := a.ss.trans b.ss
  sh := b.sh
  kp := fun p o e n => b.kp p o (a.kp p o e n) fun m => (hm p m).elim n fun z => by rw [z] at e; cases e
  nw := fun p o e => by
    rcases b.nw p o e with h | h | h
    · exact a.nw p o h
    · exact .inr (.inl (a.dm p h))
    · rcases hm p h with h | h
      · exact .inr (.inr h)
      · exact .inr (.inl h)
  dm := fun p e => a.dm p (b.dm p e)
theorem Adv.mono {M M' : Addr → Prop} {S H S1 H1 : Hp} (a : Adv M S H S1 H1) (h : ∀ p, M p → M' p) : Adv M' S H S1 H1 :=
  ⟨a.ss, a.sh, fun p o e n => a.kp p o e fun m => n (h p m), fun p o e => (a.nw p o e).elim .inl fun z => .inr (z.elim .inl fun m => .inr (h p m)), a.dm⟩
theorem Adv.any {M : Addr → Prop} {S H S1 H1 : Hp} (a : Adv NoM S H S1 H1) : Adv M S H S1 H1 := a.mono fun _ z => z.elim
/-- a new object, frozen -/
theorem Adv.new {S H : Hp} {p : Addr} {o : HO} (h : Same S H) (hp : H p = none) : Adv NoM S H (upd S p o) (upd H p o) where
  ss := fun a u e => by
    rw [upd_ne (ne_of_none (h a u e) hp)]; exact e
  sh := fun a u e => by
    by_cases q : a = p
    · subst q; rw [upd_same] at e ⊢; exact e
    · rw [upd_ne q] at e ⊢; exact h a u e
  kp := fun a u e _ => by rw [upd_ne (ne_of_none e hp)]; exact e
  nw := fun a u e => by
    by_cases q : a = p
    · subst q; exact .inr (.inl hp)
    · rw [upd_ne q] at e; exact .inl e
  dm := fun a e => by
    by_cases q : a = p
    · subst q; exact hp
    · rw [upd_ne q] at e; exact e
/-- a new object, not frozen -/
theorem Adv.lay {S H : Hp} {p : Addr} {o : HO} (h : Same S H) (hp : H p = none) : Adv NoM S H S (upd H p o) where
  ss := Same.refl S
  sh := fun a u e => by rw [upd_ne (ne_of_none (h a u e) hp)]; exact h a u e
  kp := fun a u e _ => by rw [upd_ne (ne_of_none e hp)]; exact e
  nw := fun a u e => .inl e
  dm := fun a e => by
    by_cases q : a = p
    · subst q; exact hp
    · rw [upd_ne q] at e; exact e

/-! ### the slots -/
inductive Sl where
  | no
  | val (d : D)
  | own (ds : List D)
abbrev En := List Sl
/-- the address of an own list -/
def Ow (σ : St) (ρ : En) (p : Addr) : Prop := ∃ (i : Nat) (ds : List D), ρ[i]? = some (Sl.own ds) ∧ σ[i]? = some (some (V.ref p))
structure Lk (S H : Hp) (σ : St) (ρ : En) : Prop where
  len : ρ.length = σ.length
  sub : Same S H
  vals : ∀ (i : Nat) (d : D), ρ[i]? = some (Sl.val d) → ∃ v, σ[i]? = some (some v) ∧ Rp S v d
  owns : ∀ (i : Nat) (ds : List D), ρ[i]? = some (Sl.own ds) → ∃ p us, σ[i]? = some (some (V.ref p)) ∧ H p = some (.lst us) ∧ RpAll S us ds ∧ S p = none
  dist : ∀ (i j : Nat) (ds es : List D) (p : Addr), ρ[i]? = some (Sl.own ds) → ρ[j]? = some (Sl.own es) → σ[i]? = some (some (V.ref p)) → σ[j]? = some (some (V.ref p)) → i = j
theorem Lk.ow {S H : Hp} {σ : St} {ρ : En} (L : Lk S H σ ρ) {p : Addr} (h : Ow σ ρ p) : (∃ us, H p = some (.lst us)) ∧ S p = none := by
  obtain ⟨i, ds, e1, e2⟩ := h
  obtain ⟨q, us, f1, f2, f3, f4⟩ := L.owns i ds e1
  rw [e2] at f1; cases f1
  exact ⟨⟨us, f2⟩, f4⟩
/-- nothing of ours is changed -/
theorem Lk.adv {S H S' H' : Hp} {σ : St} {ρ : En} {M : Addr → Prop} (L : Lk S H σ ρ) (a : Adv M S H S' H') (hm : ∀ p, M p → ¬ Ow σ ρ p) : Lk S' H' σ ρ where
  len := L.len
  sub := a.sh
  vals := fun i d e => by
    obtain ⟨v, h1, h2⟩ := L.vals i d e
    exact ⟨v, h1, h2.up a.ss⟩
  owns := fun i ds e => by
    obtain ⟨p, us, h1, h2, h3, h4⟩ := L.owns i ds e
    have hn : ¬ M p := fun m => hm p m ⟨i, ds, e, h1⟩
    refine ⟨p, us, h1, a.kp p _ h2 hn, h3.up a.ss, ?_⟩
    cases q : S' p with
    | none => rfl
    | some o =>
      rcases a.nw p o q with z | z | z
      · rw [h4] at z; cases z
      · rw [h2] at z; cases z
      · exact (hn z).elim
  dist := L.dist
theorem Lk.adv0 {S H S' H' : Hp} {σ : St} {ρ : En} (L : Lk S H σ ρ) (a : Adv NoM S H S' H') : Lk S' H' σ ρ := L.adv a fun _ z => z.elim
/-- from a state to a state -/
structure Go (S H : Hp) (σ : St) (ρ : En) (S' H' : Hp) (σ' : St) (ρ' : En) : Prop where
  ln : σ'.length = σ.length
  adv : Adv (Ow σ ρ) S H S' H'
  lk : Lk S' H' σ' ρ'
  ow : ∀ p, Ow σ' ρ' p → Ow σ ρ p ∨ H p = none
  z0 : ∀ ds : List D, ρ'[0]? = some (Sl.own ds) → (∃ es : List D, ρ[0]? = some (Sl.own es)) ∧ σ'[0]? = σ[0]?
theorem Go.refl {S H : Hp} {σ : St} {ρ : En} (L : Lk S H σ ρ) : Go S H σ ρ S H σ ρ := ⟨rfl, .refl L.sub, L, fun _ h => .inl h, fun ds h => ⟨⟨ds, h⟩, rfl⟩⟩
theorem Go.trans {S H S1 H1 S2 H2 : Hp} {σ σ1 σ2 : St} {ρ ρ1 ρ2 : En} (a : Go S H σ ρ S1 H1 σ1 ρ1) (b : Go S1 H1 σ1 ρ1 S2 H2 σ2 ρ2) : Go S H σ ρ S2 H2 σ2 ρ2 :=
  ⟨b.ln.trans a.ln, a.adv.trans b.adv a.ow, b.lk, fun p h => (b.ow p h).elim (a.ow p) fun z => .inr (a.adv.dm p z), fun ds h => by
    obtain ⟨⟨es, h1⟩, h2⟩ := b.z0 ds h
    obtain ⟨h3, h4⟩ := a.z0 es h1
    exact ⟨h3, h2.trans h4⟩⟩
theorem Go.of0 {S H S' H' : Hp} {σ : St} {ρ : En} (L : Lk S H σ ρ) (a : Adv NoM S H S' H') : Go S H σ ρ S' H' σ ρ := ⟨rfl, a.any, L.adv0 a, fun _ h => .inl h, fun ds h => ⟨⟨ds, h⟩, rfl⟩⟩

/-! ### slots set, forgotten, frozen, changed -/
theorem Lk.lt {S H : Hp} {σ : St} {ρ : En} (L : Lk S H σ ρ) {i : Nat} {s : Sl} (e : ρ[i]? = some s) : i < σ.length := by
  rw [← L.len]; exact (List.getElem?_eq_some_iff.mp e).1
theorem get_set {α : Type} {l : List α} {i j : Nat} {x y : α} (h : (l.set i x)[j]? = some y) : (j = i ∧ y = x ∧ i < l.length) ∨ (j ≠ i ∧ l[j]? = some y) := by
  by_cases e : i = j
  · subst e
    by_cases hl : i < l.length
    · rw [List.getElem?_set_self hl] at h; exact .inl ⟨rfl, (Option.some.inj h).symm, hl⟩
    · rw [List.getElem?_eq_none (by simpa using hl)] at h; cases h
  · rw [List.getElem?_set_ne e] at h; exact .inr ⟨fun z => e z.symm, h⟩
theorem set_get {α : Type} {l : List α} {i : Nat} {x : α} (h : i < l.length) : (l.set i x)[i]? = some x := List.getElem?_set_self h
/-- a slot is stored: a frozen value -/
theorem Lk.setV {S H : Hp} {σ : St} {ρ : En} {i : Nat} {v : V} {d : D} (L : Lk S H σ ρ) (r : Rp S v d) : Lk S H (σ.set i (some v)) (ρ.set i (.val d)) where
  len := by rw [List.length_set, List.length_set]; exact L.len
  sub := L.sub
  vals := fun j e h => by
    rcases get_set h with ⟨rfl, e1, hl⟩ | ⟨hj, h⟩
    · cases e1
      exact ⟨v, set_get (by rw [← L.len]; exact hl), r⟩
    · obtain ⟨u, h1, h2⟩ := L.vals j e h
      exact ⟨u, by rw [List.getElem?_set_ne (Ne.symm hj)]; exact h1, h2⟩
  owns := fun j ds h => by
    rcases get_set h with ⟨rfl, e1, hl⟩ | ⟨hj, h⟩
    · cases e1
    · obtain ⟨p, us, h1, h2⟩ := L.owns j ds h
      exact ⟨p, us, by rw [List.getElem?_set_ne (Ne.symm hj)]; exact h1, h2⟩
  dist := fun j k ds es p h1 h2 h3 h4 => by
    rcases get_set h1 with ⟨rfl, e1, hl⟩ | ⟨hj, h1⟩
    · cases e1
    · rcases get_set h2 with ⟨rfl, e1, hl⟩ | ⟨hk, h2⟩
      · cases e1
      · rw [List.getElem?_set_ne (Ne.symm hj)] at h3
        rw [List.getElem?_set_ne (Ne.symm hk)] at h4
        exact L.dist j k ds es p h1 h2 h3 h4
/-- .. a list that is held by nothing else -/
theorem Lk.setO {S H : Hp} {σ : St} {ρ : En} {i : Nat} {p : Addr} {us : List V} {ds : List D} (L : Lk S H σ ρ) (hp : H p = some (.lst us)) (r : RpAll S us ds) (hs : S p = none) (hn : ¬ Ow σ ρ p) : Lk S H (σ.set i (some (.ref p))) (ρ.set i (.own ds)) where
  len := by rw [List.length_set, List.length_set]; exact L.len
  sub := L.sub
  vals := fun j e h => by
    rcases get_set h with ⟨rfl, e1, hl⟩ | ⟨hj, h⟩
    · cases e1
    · obtain ⟨u, h1, h2⟩ := L.vals j e h
      exact ⟨u, by rw [List.getElem?_set_ne (Ne.symm hj)]; exact h1, h2⟩
  owns := fun j es h => by
    rcases get_set h with ⟨rfl, e1, hl⟩ | ⟨hj, h⟩
    · cases e1
      exact ⟨p, us, set_get (by rw [← L.len]; exact hl), hp, r, hs⟩
    · obtain ⟨q, ws, h1, h2⟩ := L.owns j es h
      exact ⟨q, ws, by rw [List.getElem?_set_ne (Ne.symm hj)]; exact h1, h2⟩
  dist := fun j k es fs q h1 h2 h3 h4 => by
    rcases get_set h1 with ⟨rfl, e1, hl⟩ | ⟨hj, h1⟩
    · rcases get_set h2 with ⟨rfl, e2, hl2⟩ | ⟨hk, h2⟩
      · rfl
      · rw [set_get (by rw [← L.len]; exact hl)] at h3
        cases h3
        rw [List.getElem?_set_ne (Ne.symm hk)] at h4
        exact (hn ⟨k, fs, h2, h4⟩).elim
    · rcases get_set h2 with ⟨rfl, e1, hl⟩ | ⟨hk, h2⟩
      · rw [List.getElem?_set_ne (Ne.symm hj)] at h3
        have h5 : Ow σ ρ q := ⟨j, es, by assumption, h3⟩
        rw [set_get (by rw [← L.len]; exact hl)] at h4
        cases h4
        exact (hn h5).elim
      · rw [List.getElem?_set_ne (Ne.symm hj)] at h3
        rw [List.getElem?_set_ne (Ne.symm hk)] at h4
        exact L.dist j k es fs q h1 h2 h3 h4
theorem Ow.set_val {σ : St} {ρ : En} {i : Nat} {v : V} {d : D} {p : Addr} (h : Ow (σ.set i (some v)) (ρ.set i (.val d)) p) : Ow σ ρ p := by
  obtain ⟨j, ds, h1, h2⟩ := h
  rcases get_set h1 with ⟨rfl, e1, hl⟩ | ⟨hj, h1⟩
  · cases e1
  · rw [List.getElem?_set_ne (Ne.symm hj)] at h2
    exact ⟨j, ds, h1, h2⟩
theorem Ow.set_own {σ : St} {ρ : En} {i : Nat} {q : Addr} {ds : List D} {p : Addr} (h : Ow (σ.set i (some (.ref q))) (ρ.set i (.own ds)) p) : Ow σ ρ p ∨ p = q := by
  obtain ⟨j, es, h1, h2⟩ := h
  rcases get_set h1 with ⟨rfl, e1, hl⟩ | ⟨hj, h1⟩
  · rcases get_set h2 with ⟨_, e2, _⟩ | ⟨hj, _⟩
    · cases e2; exact .inr rfl
    · exact (hj rfl).elim
  · rw [List.getElem?_set_ne (Ne.symm hj)] at h2
    exact .inl ⟨j, es, h1, h2⟩
theorem Go.setV {S H S1 H1 : Hp} {σ σ1 : St} {ρ ρ1 : En} {i : Nat} {v : V} {d : D} (g : Go S H σ ρ S1 H1 σ1 ρ1) (r : Rp S1 v d) : Go S H σ ρ S1 H1 (σ1.set i (some v)) (ρ1.set i (.val d)) :=
  ⟨by rw [List.length_set]; exact g.ln, g.adv, g.lk.setV r, fun p h => g.ow p h.set_val, fun es h => by
    rcases get_set h with ⟨_, e, _⟩ | ⟨hi, h⟩
    · cases e
    · rw [List.getElem?_set_ne (Ne.symm hi)]
      exact g.z0 es h⟩
theorem Go.setO {S H S1 H1 : Hp} {σ σ1 : St} {ρ ρ1 : En} {i : Nat} {p : Addr} {us : List V} {ds : List D} (g : Go S H σ ρ S1 H1 σ1 ρ1) (hp : H1 p = some (.lst us)) (r : RpAll S1 us ds) (hs : S1 p = none) (hn : ¬ Ow σ1 ρ1 p) (h0 : H p = none) (hi0 : i ≠ 0) : Go S H σ ρ S1 H1 (σ1.set i (some (.ref p))) (ρ1.set i (.own ds)) :=
  ⟨by rw [List.length_set]; exact g.ln, g.adv, g.lk.setO hp r hs hn, fun q h => h.set_own.elim (g.ow q) fun e => .inr (e ▸ h0), fun es h => by
    rcases get_set h with ⟨e, _, _⟩ | ⟨hi, h⟩
    · exact (hi0 e.symm).elim
    · rw [List.getElem?_set_ne (Ne.symm hi)]
      exact g.z0 es h⟩
/-- an own list is frozen -/
theorem Go.freeze {S H : Hp} {σ : St} {ρ : En} {i : Nat} {ds : List D} (L : Lk S H σ ρ) (e : ρ[i]? = some (Sl.own ds)) :
    ∃ p us, σ[i]? = some (some (V.ref p)) ∧ Go S H σ ρ (upd S p (.lst us)) H σ (ρ.set i (.val (.list ds))) ∧ Rp (upd S p (.lst us)) (.ref p) (.list ds) := by
  obtain ⟨p, us, h1, h2, h3, h4⟩ := L.owns i ds e
  have ss : Same S (upd S p (.lst us)) := fun a o q => by rw [upd_ne (ne_of_none q h4)]; exact q
  have sh : Same (upd S p (.lst us)) H := fun a o q => by
    by_cases z : a = p
    · subst z; rw [upd_same] at q; rw [h2]; exact q
    · rw [upd_ne z] at q; exact L.sub a o q
  have rp : Rp (upd S p (.lst us)) (.ref p) (.list ds) := .lst upd_same (h3.up ss)
  have hset : σ.set i (some (.ref p)) = σ := by
    refine List.ext_getElem? fun j => ?_
    by_cases z : i = j
    · subst z; rw [set_get (L.lt e), h1]
    · rw [List.getElem?_set_ne z]
  have sub : ∀ q, Ow σ (ρ.set i (.val (.list ds))) q → Ow σ ρ q ∧ q ≠ p := fun q h => by
    obtain ⟨j, es, f1, f2⟩ := h
    rcases get_set f1 with ⟨rfl, e1, hl⟩ | ⟨hj, f1⟩
    · cases e1
    · exact ⟨⟨j, es, f1, f2⟩, fun z => hj (by subst z; exact L.dist j i es ds q f1 e f2 h1)⟩
  refine ⟨p, us, h1, ⟨rfl, ⟨ss, sh, fun a o q _ => q, fun a o q => ?_, fun a q => q⟩, ?_, fun q h => .inl (sub q h).1, fun es h => by
    rcases get_set h with ⟨_, e, _⟩ | ⟨_, h⟩
    · cases e
    · exact ⟨⟨es, h⟩, rfl⟩⟩, rp⟩
  · by_cases z : a = p
    · subst z; exact .inr (.inr ⟨i, ds, e, h1⟩)
    · rw [upd_ne z] at q; exact .inl q
  · refine ⟨by rw [List.length_set]; exact L.len, sh, fun j d h => ?_, fun j es h => ?_, fun j k es fs q f1 f2 f3 f4 => ?_⟩
    · rcases get_set h with ⟨rfl, e1, hl⟩ | ⟨hj, h⟩
      · cases e1; exact ⟨_, h1, rp⟩
      · obtain ⟨u, g1, g2⟩ := L.vals j d h
        exact ⟨u, g1, g2.up ss⟩
    · rcases get_set h with ⟨rfl, e1, hl⟩ | ⟨hj, h⟩
      · cases e1
      · obtain ⟨q, ws, g1, g2, g3, g4⟩ := L.owns j es h
        have hq : q ≠ p := fun z => hj (by subst z; exact L.dist j i es ds q h e g1 h1)
        exact ⟨q, ws, g1, g2, g3.up ss, by rw [upd_ne hq]; exact g4⟩
    · rcases get_set f1 with ⟨rfl, e1, hl⟩ | ⟨hj, f1⟩
      · cases e1
      · rcases get_set f2 with ⟨rfl, e1, hl⟩ | ⟨hk, f2⟩
        · cases e1
        · exact L.dist j k es fs q f1 f2 f3 f4
/-- an own list is changed -/
theorem Go.change {S H S' H' : Hp} {σ : St} {ρ : En} {i : Nat} {ds es : List D} {p : Addr} {us : List V} (L : Lk S H σ ρ) (e : ρ[i]? = some (Sl.own ds)) (h1 : σ[i]? = some (some (V.ref p))) (a : Adv (fun q => q = p) S H S' H')
    (hp : H' p = some (.lst us)) (r : RpAll S' us es) (hs : S' p = none) : Go S H σ ρ S' H' σ (ρ.set i (.own es)) := by
  have own : Ow σ ρ p := ⟨i, ds, e, h1⟩
  have hset : σ.set i (some (.ref p)) = σ := by
    refine List.ext_getElem? fun j => ?_
    by_cases z : i = j
    · subst z; rw [set_get (L.lt e), h1]
    · rw [List.getElem?_set_ne z]
  refine ⟨rfl, a.mono fun q z => by rw [z]; exact own, ⟨by rw [List.length_set]; exact L.len, a.sh, fun j d h => ?_, fun j fs h => ?_, fun j k fs gs q f1 f2 f3 f4 => ?_⟩, fun q h => ?_, fun fs h => by
    rcases get_set h with ⟨e0, _, _⟩ | ⟨_, h⟩
    · exact ⟨⟨ds, by rw [e0]; exact e⟩, rfl⟩
    · exact ⟨⟨fs, h⟩, rfl⟩⟩
  · rcases get_set h with ⟨rfl, e1, hl⟩ | ⟨hj, h⟩
    · cases e1
    · obtain ⟨u, g1, g2⟩ := L.vals j d h
      exact ⟨u, g1, g2.up a.ss⟩
  · rcases get_set h with ⟨rfl, e1, hl⟩ | ⟨hj, h⟩
    · cases e1; exact ⟨p, us, h1, hp, r, hs⟩
    · obtain ⟨q, ws, g1, g2, g3, g4⟩ := L.owns j fs h
      have hq : q ≠ p := fun z => hj (by subst z; exact L.dist j i fs ds q h e g1 h1)
      refine ⟨q, ws, g1, a.kp q _ g2 hq, g3.up a.ss, ?_⟩
      cases z : S' q with
      | none => rfl
      | some o =>
        rcases a.nw q o z with y | y | y
        · rw [g4] at y; cases y
        · rw [g2] at y; cases y
        · exact (hq y).elim
  · have pre : ∀ (m : Nat) (xs : List D), (ρ.set i (.own es))[m]? = some (Sl.own xs) → ∃ ys, ρ[m]? = some (Sl.own ys) := fun m xs h => by
      rcases get_set h with ⟨rfl, e1, hl⟩ | ⟨hj, h⟩
      · exact ⟨ds, e⟩
      · exact ⟨xs, h⟩
    obtain ⟨ys, y1⟩ := pre j fs f1
    obtain ⟨zs, z1⟩ := pre k gs f2
    exact L.dist j k ys zs q y1 z1 f3 f4
  · obtain ⟨j, fs, f1, f2⟩ := h
    rcases get_set f1 with ⟨rfl, e1, hl⟩ | ⟨hj, f1⟩
    · exact .inl ⟨j, ds, e, f2⟩
    · exact .inl ⟨j, fs, f1, f2⟩
/-- the own list at p is written -/
theorem Adv.write {S H : Hp} {p : Addr} {o : HO} (h : Same S H) (hs : S p = none) : Adv (fun q => q = p) S H S (upd H p o) where
  ss := Same.refl S
  sh := fun a u e => by rw [upd_ne (ne_of_none e hs)]; exact h a u e
  kp := fun a u e n => by rw [upd_ne n]; exact e
  nw := fun a u e => .inl e
  dm := fun a e => by
    by_cases q : a = p
    · subst q; rw [upd_same] at e; cases e
    · rw [upd_ne q] at e; exact e
end GN

set_option Elab.async false
set_option linter.all false
set_option maxRecDepth 100000
set_option maxHeartbeats 4000000
/-! G1: what an expression is worth over the slots, and the rules of expressions. -/
namespace GN
open PySem PySem.Spec PyProof.Rows L2
/-- the two errors that leave a def of the program -/
inductive Xc where
  | np (i : Int)
  | tm
inductive Res (α : Type) where
  | ok (a : α)
  | exc (x : Xc)
  | bad
def Res.bind {α β : Type} : Res α → (α → Res β) → Res β
  | .ok a, f => f a
  | .exc x, _ => .exc x
  | .bad, _ => .bad
/-- where the classes of the two errors stand -/
structure XC where
  cn : Addr
  ct : Addr
def XOk (C : XC) : Xc → Value → Option Addr → Hp → Prop
  | .np i, cls, d, H => cls = .ref C.cn ∧ ∃ a, d = some a ∧ H a = some (.xd [(("place" : Str), V.int i)])
  | .tm, cls, d, _ => cls = .ref C.ct ∧ d = none
def Post {α : Type} (C : XC) (W : WX) (S H : Hp) (σ : St) (ρ : En) (r : Res (α × En)) (K : α → En → Prop) : Prop :=
  match r with
  | .ok (a, ρ') => K a ρ'
  | .exc x => ∀ (cls : Value) (dd : Option Addr) (S' H' : Hp) (σ' : St), σ'.length = σ.length → Adv (Ow σ ρ) S H S' H' → XOk C x cls dd H' → W cls dd σ' H'
  | .bad => False
abbrev EF := En → Res (D × En)
abbrev LF := En → Res (List D × En)
abbrev TF := En → Res (Bool × En)
section
variable {α β : Type} {C : XC} {W : WX} {S H S1 H1 : Hp} {σ σ1 : St} {ρ ρ1 : En}
theorem Post.seq {r : Res (α × En)} {k : α × En → Res (β × En)} {KB : β → En → Prop} {KA : α → En → Prop} (h : Post C W S H σ ρ (r.bind k) KB)
    (f : ∀ a ρ1, r = .ok (a, ρ1) → Post C W S H σ ρ (k (a, ρ1)) KB → KA a ρ1) : Post C W S H σ ρ r KA := by
  cases r with
  | ok a => exact f a.1 a.2 rfl h
  | exc x => exact h
  | bad => exact h
theorem Post.shift {r : Res (α × En)} {K K' : α → En → Prop} (g : Go S H σ ρ S1 H1 σ1 ρ1) (h : Post C W S H σ ρ r K) (f : ∀ a ρ', K a ρ' → K' a ρ') : Post C W S1 H1 σ1 ρ1 r K' := by
  cases r with
  | ok a => exact f _ _ h
  | exc x => exact fun cls dd S' H' σ' hl a e => h cls dd S' H' σ' (hl.trans g.ln) (g.adv.trans a g.ow) e
  | bad => exact h
end
/-! ### the readings -/
def KD (S H : Hp) (σ : St) (ρ : En) (Q : VK) : D → En → Prop := fun d ρ' => ∀ (v : V) (S' H' : Hp), Go S H σ ρ S' H' σ ρ' → Rp S' v d → Q v H'
def KT (S H : Hp) (σ : St) (ρ : En) (Q : Bool → Hp → Prop) : Bool → En → Prop := fun b ρ' => ∀ (S' H' : Hp), Go S H σ ρ S' H' σ ρ' → Q b H'
def KA (S H : Hp) (σ : St) (ρ : En) (Q : List V → Hp → Prop) : List D → En → Prop := fun ds ρ' => ∀ (vs : List V) (S' H' : Hp), Go S H σ ρ S' H' σ ρ' → RpAll S' vs ds → Q vs H'
def KO (S H : Hp) (σ : St) (ρ : En) (Q : VK) : List D → En → Prop := fun ds ρ' => ∀ (p : Addr) (us : List V) (S' H' : Hp), Go S H σ ρ S' H' σ ρ' → H' p = some (.lst us) → RpAll S' us ds → S' p = none → H p = none → ¬ Ow σ ρ' p → Q (.ref p) H'
def tD (C : XC) (W : WX) (f : EF) : TE := fun σ H Q => ∃ S ρ, Lk S H σ ρ ∧ Post C W S H σ ρ (f ρ) (KD S H σ ρ Q)
def tT (C : XC) (W : WX) (f : TF) : TT := fun σ H Q => ∃ S ρ, Lk S H σ ρ ∧ Post C W S H σ ρ (f ρ) (KT S H σ ρ Q)
def tA (C : XC) (W : WX) (f : LF) : TA := fun σ H Q => ∃ S ρ, Lk S H σ ρ ∧ Post C W S H σ ρ (f ρ) (KA S H σ ρ Q)
def tO (C : XC) (W : WX) (f : LF) : TE := fun σ H Q => ∃ S ρ, Lk S H σ ρ ∧ Post C W S H σ ρ (f ρ) (KO S H σ ρ Q)
abbrev PD (X : Cx) (C : XC) (W : WX) (e : Expr) (f : EF) : Prop := PE X e (tD C W f)
abbrev PTD (X : Cx) (C : XC) (W : WX) (e : Expr) (f : TF) : Prop := PT X e (tT C W f)
abbrev PWD (X : Cx) (C : XC) (W : WX) (e : Expr) (f : TF) : Prop := PW X e (tT C W f)
abbrev PAD (X : Cx) (C : XC) (W : WX) (es : List Expr) (f : LF) : Prop := PA X es (tA C W f)
abbrev POD (X : Cx) (C : XC) (W : WX) (e : Expr) (f : LF) : Prop := PE X e (tO C W f)
theorem PE.imp {X : Cx} {e : Expr} {t t' : TE} (h : PE X e t) (i : ∀ σ H Q, t' σ H Q → t σ H Q) : PE X e t' := ⟨fun pins s σ H Q I hw => h.run pins s σ H Q I (i _ _ _ hw)⟩
theorem PT.imp {X : Cx} {e : Expr} {t t' : TT} (h : PT X e t) (i : ∀ σ H Q, t' σ H Q → t σ H Q) : PT X e t' := ⟨fun pins s σ H Q I hw => h.run pins s σ H Q I (i _ _ _ hw)⟩
theorem PW.imp {X : Cx} {e : Expr} {t t' : TT} (h : PW X e t) (i : ∀ σ H Q, t' σ H Q → t σ H Q) : PW X e t' := ⟨fun wh pins s σ H Q I hw => h.run wh pins s σ H Q I (i _ _ _ hw)⟩
theorem PA.imp {X : Cx} {es : List Expr} {t t' : TA} (h : PA X es t) (i : ∀ σ H Q, t' σ H Q → t σ H Q) : PA X es t' := ⟨fun pos pins s σ H Q I hw => h.run pos pins s σ H Q I (i _ _ _ hw)⟩
section
variable {C : XC} {W : WX} {S H S1 H1 : Hp} {σ : St} {ρ ρ1 : En}
theorem Post.d {r : Res (D × En)} {Q : VK} (g : Go S H σ ρ S1 H1 σ ρ1) (h : Post C W S H σ ρ r (KD S H σ ρ Q)) : Post C W S1 H1 σ ρ1 r (KD S1 H1 σ ρ1 Q) :=
  h.shift g fun _ _ k v S' H' g' => k v S' H' (g.trans g')
theorem Post.t {r : Res (Bool × En)} {Q : Bool → Hp → Prop} (g : Go S H σ ρ S1 H1 σ ρ1) (h : Post C W S H σ ρ r (KT S H σ ρ Q)) : Post C W S1 H1 σ ρ1 r (KT S1 H1 σ ρ1 Q) :=
  h.shift g fun _ _ k S' H' g' => k S' H' (g.trans g')
theorem Post.a {r : Res (List D × En)} {Q : List V → Hp → Prop} (g : Go S H σ ρ S1 H1 σ ρ1) (h : Post C W S H σ ρ r (KA S H σ ρ Q)) : Post C W S1 H1 σ ρ1 r (KA S1 H1 σ ρ1 Q) :=
  h.shift g fun _ _ k v S' H' g' => k v S' H' (g.trans g')
theorem Post.o {r : Res (List D × En)} {Q : VK} (g : Go S H σ ρ S1 H1 σ ρ1) (h : Post C W S H σ ρ r (KO S H σ ρ Q)) : Post C W S1 H1 σ ρ1 r (KO S1 H1 σ ρ1 Q) :=
  h.shift g fun _ _ k p us S' H' g' e1 e2 e3 e4 e5 => k p us S' H' (g.trans g') e1 e2 e3 (g.adv.dm p e4) e5
end
/-! ### names, constants -/
def eVar (i : Nat) : EF := fun ρ => match ρ[i]? with
  | some (.val d) => .ok (d, ρ)
  | some (.own ds) => .ok (.list ds, ρ.set i (.val (.list ds)))
  | _ => .bad
def eC (d : D) : EF := fun ρ => .ok (d, ρ)
section
variable {X : Cx} {C : XC} {W : WX} {pos : Pos}
theorem pd_of {e : Expr} {t : TE} {f : EF} (h : PE X e t) (i : ∀ S H σ ρ Q, Lk S H σ ρ → Post C W S H σ ρ (f ρ) (KD S H σ ρ Q) → t σ H Q) : PD X C W e f :=
  PE.imp h fun σ H Q ⟨S, ρ, L, p⟩ => i S H σ ρ Q L p
theorem pd_v (i : Nat) {x : Str} {pos : Pos} (hN : X.N[i]? = some x := by rfl) (hv : Vis X.env.scope x := by first | exact Or.inl rfl | exact Or.inr (Or.inl rfl) | exact Or.inr (Or.inr rfl)) (hd : (x == ("__debug__" : Str)) = false := by decide)
    (hcd : (x == ("__classdict__" : Str)) = false := by decide) : PD X C W (.Name x pos) (eVar i) := by
  refine pd_of (pe_var hN hv hd hcd) fun S H σ ρ Q L p => ?_
  unfold eVar at p
  cases e : ρ[i]? with
  | none => rw [e] at p; exact p.elim
  | some s =>
    rw [e] at p
    cases s with
    | no => exact p.elim
    | val d =>
      obtain ⟨v, h1, h2⟩ := L.vals i d e
      exact ⟨v, h1, p v S H (.refl L) h2⟩
    | own ds =>
      obtain ⟨q, us, h1, g, r⟩ := Go.freeze L e
      exact ⟨_, h1, p _ _ _ g r⟩
theorem pd_int {i : Int} {j : Nat} : PD X C W (.Constant (.int i) j pos) (eC (.int i)) := pd_of pe_int fun S H σ ρ Q L p => p _ _ _ (.refl L) (.int i)
theorem pd_bl {b : Bool} {j : Nat} : PD X C W (.Constant (.bool b) j pos) (eC (.bool b)) := pd_of pe_bl fun S H σ ρ Q L p => p _ _ _ (.refl L) (.bl b)
theorem pd_non {j : Nat} : PD X C W (.Constant .none j pos) (eC .none) := pd_of pe_non fun S H σ ρ Q L p => p _ _ _ (.refl L) .non
theorem pd_str {x : Str} {j : Nat} : PD X C W (.Constant (.str x) j pos) (eC (.str x)) := pd_of pe_str fun S H σ ρ Q L p => p _ _ _ (.refl L) (.str x)
/-- a constant of the module -/
theorem pd_gI {x : Str} {i : Int} {t : Tok} (hm : X.mg x = some (.int i t)) (hg : Gl X x := by rfl) (hd : (x == ("__debug__" : Str)) = false := by decide) : PD X C W (.Name x pos) (eC (.int i)) := pd_of (pe_glob (v := .int i) hg hm ⟨t, rfl⟩ hd) fun S H σ ρ Q L p => p _ _ _ (.refl L) (.int i)
theorem pd_gS {x : Str} {i : Str} {t : Tok} (hm : X.mg x = some (.str i t)) (hg : Gl X x := by rfl) (hd : (x == ("__debug__" : Str)) = false := by decide) : PD X C W (.Name x pos) (eC (.str i)) := pd_of (pe_glob (v := .str i) hg hm ⟨t, rfl⟩ hd) fun S H σ ρ Q L p => p _ _ _ (.refl L) (.str i)

/-! ### operations of values -/
/-- g is what r does -/
def Op2 (r : R2) (g : D → D → Res D) : Prop := ∀ (S H : Hp) (x y : V) (a b d : D) (Q : VK), Same S H → Rp S x a → Rp S y b → g a b = .ok d → (∀ v S' H', Adv NoM S H S' H' → Rp S' v d → Q v H') → r x y H Q
/-- a function of two values that raises nothing -/
def NoX {α : Type} (r : Res α) : Prop := ∀ x, r ≠ .exc x
def eOp (g : D → D → Res D) (fa fb : EF) : EF := fun ρ => (fa ρ).bind fun a => (fb a.2).bind fun b => match g a.1 b.1 with
  | .ok d => .ok (d, b.2)
  | _ => .bad
variable {a b e : Expr} {fa fb : EF}
theorem two_of {r : R2} {g : D → D → Res D} (ho : Op2 r g) {S H : Hp} {σ : St} {ρ : En} {Q : VK} (L : Lk S H σ ρ) (p : Post C W S H σ ρ (eOp g fa fb ρ) (KD S H σ ρ Q)) : tOp r (tD C W fa) (tD C W fb) σ H Q := by
  refine ⟨S, ρ, L, p.seq fun a ρ1 _ p1 => fun v S1 H1 g1 r1 => ⟨S1, ρ1, g1.lk, (p1.d g1).seq fun b ρ2 _ p2 => fun u S2 H2 g2 r2 => ?_⟩⟩
  have p3 := p2.d g2
  cases z : g a b with
  | ok d =>
    rw [z] at p3
    exact ho S2 H2 v u a b d Q g2.lk.sub (r1.up g2.adv.ss) r2 z fun w S3 H3 ad r3 => p3 w S3 H3 (.of0 g2.lk ad) r3
  | exc x => rw [z] at p3; exact p3.elim
  | bad => rw [z] at p3; exact p3.elim
theorem pd_op {op : Operator} {r : R2} {g : D → D → Res D} (ho : OpR X (binaryOp op) r) (hg : Op2 r g) (ha : PD X C W a fa) (hb : PD X C W b fb) : PD X C W (.BinOp a op b pos) (eOp g fa fb) :=
  pd_of (pe_op ho ha hb) fun S H σ ρ Q L p => two_of hg L p
theorem pd_cmp {op : CmpOp} {r : R2} {g : D → D → Res D} (ho : OpR X (compareOp op) r) (hg : Op2 r g) (ha : PD X C W a fa) (hb : PD X C W b fb) (hm : behindInMarks op b = false := by first | exact nomark _ | rfl) : PD X C W (.Compare a [op] [b] pos) (eOp g fa fb) :=
  pd_of (pe_cmpR ho ha hb hm) fun S H σ ρ Q L p => two_of hg L p
theorem Op2.or {r r' : R2} {g g' : D → D → Res D} (h : Op2 r g) (h' : Op2 r' g') : Op2 (fun x y H Q => r x y H Q ∨ r' x y H Q) fun a b => match g a b with | .ok d => .ok d | _ => g' a b := by
  intro S H x y a b d Q ss ra rb e k
  dsimp only at e
  cases z : g a b with
  | ok d' =>
    rw [z] at e; cases e
    exact .inl (h S H x y a b _ Q ss ra rb z k)
  | exc x => rw [z] at e; exact .inr (h' S H _ y a b d Q ss ra rb e k)
  | bad => rw [z] at e; exact .inr (h' S H x y a b d Q ss ra rb e k)
/-! sizes -/
def lim : Nat := 2 ^ 4000
def sml (i : Int) : Bool := decide (i.natAbs < lim)
def addI : D → D → Res D
  | .int i, .int j => .ok (.int (i + j))
  | _, _ => .bad
def subI : D → D → Res D
  | .int i, .int j => .ok (.int (i - j))
  | _, _ => .bad
def mulI : D → D → Res D
  | .int i, .int j => if (sml i && sml j) || decide (j.natAbs < 2 ^ 63) then .ok (.int (i * j)) else .bad
  | _, _ => .bad
def fdivI : D → D → Res D
  | .int i, .int j => if decide (j ≠ 0) && sml j then .ok (.int (i.fdiv j)) else .bad
  | _, _ => .bad
def modI : D → D → Res D
  | .int i, .int j => if 0 < j then .ok (.int (i % j)) else .bad
  | _, _ => .bad
def powI : D → D → Res D
  | .int i, .int j => if 0 ≤ j ∧ j ≤ 1000 ∧ i.natAbs < 2 ^ 63 then .ok (.int (i ^ j.toNat)) else .bad
  | _, _ => .bad
theorem lim_log {i : Int} (h : sml i = true) : i.natAbs.log2 < 4000 := PySem.Flt.log2_lt_of (by decide) (of_decide_eq_true h)
theorem op2_int {r : R2} {g : D → D → Res D} {Cc : Int → Int → Prop} {k : Int → Int → V} {k' : Int → Int → D} (hr : r = rI Cc k) (hg : ∀ a b d, g a b = .ok d → ∃ i j, a = .int i ∧ b = .int j ∧ Cc i j ∧ d = k' i j) (hk : ∀ S i j, Rp S (k i j) (k' i j)) : Op2 r g := by
  intro S H x y a b d Q ss ra rb e q
  obtain ⟨i, j, rfl, rfl, c, rfl⟩ := hg a b d e
  subst hr
  cases ra
  cases rb
  exact ⟨i, j, rfl, rfl, c, q _ S H (.refl ss) (hk S i j)⟩
theorem op2_int0 {r : R2} {g : D → D → Res D} {k : Int → Int → V} {k' : Int → Int → D} (hr : r = rI0 k) (hg : ∀ a b d, g a b = .ok d → ∃ i j, a = .int i ∧ b = .int j ∧ d = k' i j) (hk : ∀ S i j, Rp S (k i j) (k' i j)) : Op2 r g := by
  intro S H x y a b d Q ss ra rb e q
  obtain ⟨i, j, rfl, rfl, rfl⟩ := hg a b d e
  subst hr
  cases ra
  cases rb
  exact ⟨i, j, rfl, rfl, q _ S H (.refl ss) (hk S i j)⟩
theorem o_addI : Op2 (rI0 fun i j => .int (i + j)) addI := op2_int0 (k' := fun i j => .int (i + j)) rfl (fun a b d e => by
  cases a <;> cases b <;> simp only [addI] at e <;> first | (cases e; exact ⟨_, _, rfl, rfl, rfl⟩) | cases e) fun S i j => .int _
theorem o_subI : Op2 (rI0 fun i j => .int (i - j)) subI := op2_int0 (k' := fun i j => .int (i - j)) rfl (fun a b d e => by
  cases a <;> cases b <;> simp only [subI] at e <;> first | (cases e; exact ⟨_, _, rfl, rfl, rfl⟩) | cases e) fun S i j => .int _
/-- * of great numbers, or by a small one -/
def CMulG (i j : Int) : Prop := CMulW i j ∨ CMul i j
theorem op_mulG : OpR X (binaryOp .Mult) (rI CMulG fun i j => .int (i * j)) := opI fun _ _ _ _ _ _ _ hc q => mul_int q (hc.elim CMulW.ok CMul.ok)
theorem o_mulI : Op2 (rI CMulG fun i j => .int (i * j)) mulI := op2_int (k' := fun i j => .int (i * j)) rfl (fun a b d e => by
  cases a <;> cases b <;> simp only [mulI] at e <;> first | cases e | skip
  rename_i i j
  split at e
  · rename_i h
    cases e
    refine ⟨i, j, rfl, rfl, ?_, rfl⟩
    rcases Bool.or_eq_true_iff.mp h with h | h
    · obtain ⟨h1, h2⟩ := Bool.and_eq_true_iff.mp h
      have a1 := lim_log h1
      have a2 := lim_log h2
      exact .inl (show _ < 1000000 by omega)
    · have h' := of_decide_eq_true h
      exact .inr (.inr ⟨by omega, by omega⟩)
  · cases e) fun S i j => .int _
def CDivG (_ j : Int) : Prop := j ≠ 0 ∧ j.natAbs.log2 < 9000
theorem op_fdivG : OpR X (binaryOp .FloorDiv) (rI CDivG fun i j => .int (i.fdiv j)) := opI fun _ _ _ _ _ _ _ hc q => floordiv_int hc.1 q (.inl (PyProof.noPylong_of_log2 hc.2))
theorem o_fdivI : Op2 (rI CDivG fun i j => .int (i.fdiv j)) fdivI := op2_int (k' := fun i j => .int (i.fdiv j)) rfl (fun a b d e => by
  cases a <;> cases b <;> simp only [fdivI] at e <;> first | cases e | skip
  rename_i i j
  split at e
  · rename_i h
    cases e
    obtain ⟨h1, h2⟩ := Bool.and_eq_true_iff.mp h
    have a2 := lim_log h2
    exact ⟨i, j, rfl, rfl, ⟨of_decide_eq_true h1, by omega⟩, rfl⟩
  · cases e) fun S i j => .int _
theorem o_modI : Op2 (rI (fun _ j => 0 < j) fun i j => .int (i % j)) modI := op2_int (k' := fun i j => .int (i % j)) rfl (fun a b d e => by
  cases a <;> cases b <;> simp only [modI] at e <;> first | cases e | skip
  rename_i i j
  split at e
  · rename_i h
    cases e
    exact ⟨i, j, rfl, rfl, h, rfl⟩
  · cases e) fun S i j => .int _
theorem o_powI : Op2 (rI CPow fun i j => .int (i ^ j.toNat)) powI := op2_int (k' := fun i j => .int (i ^ j.toNat)) rfl (fun a b d e => by
  cases a <;> cases b <;> simp only [powI] at e <;> first | cases e | skip
  rename_i i j
  split at e
  · rename_i h
    cases e
    exact ⟨i, j, rfl, rfl, ⟨h.1, by omega, by omega⟩, rfl⟩
  · cases e) fun S i j => .int _
end
end GN

set_option Elab.async false
set_option linter.all false
set_option maxRecDepth 100000
set_option maxHeartbeats 4000000
/-! G2: comparisons, tests, displays, subscripts, built-ins. -/
namespace GN
open PySem PySem.Spec PyProof.Rows L2
/-! ### comparisons -/
def cmpI (p : Int → Int → Bool) : D → D → Res D
  | .int i, .int j => .ok (.bool (p i j))
  | _, _ => .bad
theorem o_cmpI {r : R2} {p : Int → Int → Bool} (hr : r = rI0 fun i j => .bl (p i j)) : Op2 r (cmpI p) := op2_int0 (k := fun i j => .bl (p i j)) (k' := fun i j => .bool (p i j)) hr (fun a b d e => by
  cases a <;> cases b <;> simp only [cmpI] at e <;> first | (cases e; exact ⟨_, _, rfl, rfl, rfl⟩) | cases e) fun S i j => .bl _
def ltI : D → D → Res D := cmpI fun i j => decide (i < j)
def leI : D → D → Res D := cmpI fun i j => decide (i ≤ j)
def gtI : D → D → Res D := cmpI fun i j => decide (j < i)
def geI : D → D → Res D := cmpI fun i j => decide (j ≤ i)
theorem o_ltI : Op2 (rI0 fun i j => .bl (decide (i < j))) ltI := o_cmpI rfl
theorem o_leI : Op2 (rI0 fun i j => .bl (decide (i ≤ j))) leI := o_cmpI rfl
theorem o_gtI : Op2 (rI0 fun i j => .bl (decide (j < i))) gtI := o_cmpI rfl
theorem o_geI : Op2 (rI0 fun i j => .bl (decide (j ≤ i))) geI := o_cmpI rfl
mutual
theorem Rp.dp {K : PySem.W.Frag} {S H : Hp} (h : Same S H) : ∀ (d : D) (v : V), Rp S v d → Dp K H v d
  | .none, _, r => by cases r; exact .non
  | .bool b, _, r => by cases r; exact .bl b
  | .int i, _, r => by cases r; exact .int i
  | .str x, _, r => by cases r; exact .str x
  | .list ds, _, r => by
    cases r with
    | lst e q => exact .lst (.of (h _ _ e)) (RpAll.dp h ds _ q)
  | .tuple ds, _, r => by
    cases r with
    | tup e q => exact .tup (.of (h _ _ e)) (RpAll.dp h ds _ q)
  | .dict _, _, r => by cases r
theorem RpAll.dp {K : PySem.W.Frag} {S H : Hp} (h : Same S H) : ∀ (ds : List D) (vs : List V), RpAll S vs ds → DpAll K H vs ds
  | [], _, r => by cases r; exact .nil
  | d :: ds, _, r => by
    cases r with
    | cons a b => exact .cons (Rp.dp h d _ a) (RpAll.dp h ds _ b)
end
def eqF (a b : D) : Res D := if SeqAt.shaped a && SeqAt.shaped b then .ok (.bool (PyData.eqv a b)) else .bad
def neF (a b : D) : Res D := if SeqAt.shaped a && SeqAt.shaped b then .ok (.bool (!PyData.eqv a b)) else .bad
theorem o_eqF {K : PySem.W.Frag} : Op2 (rEqD K) eqF := by
  intro S H x y a b d Q ss ra rb e q
  unfold eqF at e
  split at e
  · rename_i h
    cases e
    obtain ⟨h1, h2⟩ := Bool.and_eq_true_iff.mp h
    exact ⟨a, b, Rp.dp ss a x ra, Rp.dp ss b y rb, h1, h2, q _ S H (.refl ss) (.bl _)⟩
  · cases e
theorem o_neF {K : PySem.W.Frag} : Op2 (rNeD K) neF := by
  intro S H x y a b d Q ss ra rb e q
  unfold neF at e
  split at e
  · rename_i h
    cases e
    obtain ⟨h1, h2⟩ := Bool.and_eq_true_iff.mp h
    exact ⟨a, b, Rp.dp ss a x ra, Rp.dp ss b y rb, h1, h2, q _ S H (.refl ss) (.bl _)⟩
  · cases e
def isNone : D → Bool
  | .none => true
  | _ => false
theorem Rp.isNone {S : Hp} {v : V} : ∀ {d : D}, Rp S v d → decide (v = .non) = GN.isNone d
  | .none, r => by cases r; rfl
  | .bool _, r => by cases r; rfl
  | .int _, r => by cases r; rfl
  | .str _, r => by cases r; rfl
  | .list _, r => by cases r; rfl
  | .tuple _, r => by cases r; rfl
  | .dict _, r => by cases r
def isF (a b : D) : Res D := match b with
  | .none => .ok (.bool (isNone a))
  | _ => .bad
def isnF (a b : D) : Res D := match b with
  | .none => .ok (.bool (!isNone a))
  | _ => .bad
theorem o_isF : Op2 (fun x y H Q => y = .non ∧ Q (.bl (decide (x = .non))) H) isF := by
  intro S H x y a b d Q ss ra rb e q
  cases b <;> simp only [isF] at e <;> first | cases e | skip
  cases rb
  refine ⟨rfl, ?_⟩
  rw [ra.isNone]
  exact q _ S H (.refl ss) (.bl _)
theorem o_isnF : Op2 (fun x y H Q => y = .non ∧ Q (.bl (!decide (x = .non))) H) isnF := by
  intro S H x y a b d Q ss ra rb e q
  cases b <;> simp only [isnF] at e <;> first | cases e | skip
  cases rb
  refine ⟨rfl, ?_⟩
  rw [ra.isNone]
  exact q _ S H (.refl ss) (.bl _)
/-- the ints of a list of data -/
def intsOf : List D → Option (List Int)
  | [] => some []
  | .int i :: r => (intsOf r).map (i :: ·)
  | _ :: _ => none
theorem intsOf_eq : ∀ {ds : List D} {ns : List Int}, intsOf ds = some ns → ds = ns.map PyData.int
  | [], ns, e => by cases e; rfl
  | .int i :: r, ns, e => by
    unfold intsOf at e
    cases z : intsOf r with
    | none => rw [z] at e; cases e
    | some l =>
      rw [z] at e
      cases e
      rw [intsOf_eq z] <;> rfl
  | .none :: _, _, e => by cases e
  | .bool _ :: _, _, e => by cases e
  | .str _ :: _, _, e => by cases e
  | .list _ :: _, _, e => by cases e
  | .tuple _ :: _, _, e => by cases e
  | .dict _ :: _, _, e => by cases e
def seqOf : D → Option (List D)
  | .list ds => some ds
  | .tuple ds => some ds
  | _ => none
def inF (neg : Bool) (a b : D) : Res D := match a, (seqOf b).bind intsOf with
  | .int i, some ns => .ok (.bool (if neg then !decide (i ∈ ns) else decide (i ∈ ns)))
  | _, _ => .bad
theorem flat_ints : ∀ ns : List Int, (ns.map V.int).all flatV = true
  | [] => rfl
  | n :: r => by
    rw [List.map_cons, List.all_cons, flat_ints r]
    rfl
theorem inV_ints (i : Int) : ∀ ns : List Int, inV (.int i) (ns.map V.int) = decide (i ∈ ns)
  | [] => by simp [inV]
  | n :: r => by
    have ih := inV_ints i r
    unfold inV at ih ⊢
    rw [List.map_cons, List.any_cons, ih]
    have e1 : eqV (.int n) (.int i) = decide (n = i) := by
      show (n == i) = _
      exact Bool.beq_eq_decide_eq n i
    rw [e1]
    by_cases h : n = i
    · subst h; simp
    · have h2 : ¬ i = n := fun z => h z.symm
      simp [h, h2]
theorem o_inF {K : PySem.W.Frag} (neg : Bool) : Op2 (rIn K neg) (inF neg) := by
  intro S H x y a b d Q ss ra rb e q
  unfold inF at e
  split at e
  · rename_i i ns h
    cases e
    cases ra
    have key : ∀ p xs, (SqL K H p xs ∨ SqT K H p xs) → xs = ns.map V.int → y = .ref p → rIn K neg (.int i) y H Q := fun p xs hq hx hy => by
      subst hx
      refine ⟨p, _, hy, hq, rfl, flat_ints ns, ?_⟩
      rw [inV_ints]
      exact q _ S H (.refl ss) (.bl _)
    cases b with
    | list ds =>
      cases rb with
      | lst e1 r =>
        have e2 := intsOf_eq h
        subst e2
        exact key _ _ (.inl (.of (ss _ _ e1))) r.intsOf rfl
    | tuple ds =>
      cases rb with
      | tup e1 r =>
        have e2 := intsOf_eq h
        subst e2
        exact key _ _ (.inr (.of (ss _ _ e1))) r.intsOf rfl
    | none => cases h
    | bool _ => cases h
    | int _ => cases h
    | str _ => cases h
    | dict _ => cases h
  · cases e
/-! ### tests -/
section
variable {X : Cx} {C : XC} {W : WX} {pos : Pos} {a b e : Expr} {rest : List Expr} {fa fb : EF} {ta tb : TF}
def tB1 (f : EF) : TF := fun ρ => (f ρ).bind fun a => match a.1 with
  | .bool b => .ok (b, a.2)
  | _ => .bad
theorem val_of {t : TE} {f : EF} {S H : Hp} {σ : St} {ρ : En} {Q : Bool → Hp → Prop} (L : Lk S H σ ρ) (p : Post C W S H σ ρ (tB1 f ρ) (KT S H σ ρ Q)) : tD C W f σ H fun x H1 => ∃ c, x = .bl c ∧ Q c H1 := by
  refine ⟨S, ρ, L, p.seq fun a ρ1 _ p1 => fun v S1 H1 g1 r1 => ?_⟩
  cases a with
  | bool b =>
    cases r1
    exact ⟨b, rfl, p1 S1 H1 g1⟩
  | none => exact p1.elim
  | int _ => exact p1.elim
  | str _ => exact p1.elim
  | list _ => exact p1.elim
  | tuple _ => exact p1.elim
  | dict _ => exact p1.elim
theorem pt_v (h : PD X C W e fa) (he : ∀ whole, isTrue e X.env whole = (do let v ← whole; standAt e.pos; holding [v] (truthy v)) := by intro _; rfl) : PTD X C W e (tB1 fa) :=
  PT.imp (pt_val h he) fun σ H Q ⟨S, ρ, L, p⟩ => val_of (t := tD C W fa) L p
theorem pt_c {op : CmpOp} {r : R2} {g : D → D → Res D} (ho : OpR X (compareOp op) r) (hg : Op2 r g) (ha : PD X C W a fa) (hb : PD X C W b fb) (hm : behindInMarks op b = false := by first | exact nomark _ | rfl) : PTD X C W (.Compare a [op] [b] pos) (tB1 (eOp g fa fb)) :=
  PT.imp (pt_cmpR ho ha hb hm) fun σ H Q ⟨S, ρ, L, p⟩ => by
    obtain ⟨S1, ρ1, L1, q⟩ := val_of (t := tD C W (eOp g fa fb)) L p
    exact two_of hg L1 q
/-- a < b < c -/
def tChain2 (g g' : D → D → Res D) (fa fb fc : EF) : TF := fun ρ => (fa ρ).bind fun a => (fb a.2).bind fun b => match g a.1 b.1 with
  | .ok (.bool true) => (fc b.2).bind fun c => match g' b.1 c.1 with
    | .ok (.bool k) => .ok (k, c.2)
    | _ => .bad
  | .ok (.bool false) => .ok (false, b.2)
  | _ => .bad
/-- a bool's operation -/
theorem Op2.bl {r : R2} {g : D → D → Res D} (ho : Op2 r g) {S H : Hp} {x y : V} {a b : D} {k : Bool} {Q : VK} (ss : Same S H) (ra : Rp S x a) (rb : Rp S y b) (e : g a b = .ok (.bool k)) (q : ∀ S' H', Adv NoM S H S' H' → Q (.bl k) H') : r x y H Q :=
  ho S H x y a b _ Q ss ra rb e fun v S' H' ad rv => by cases rv; exact q S' H' ad
theorem pt_ch {op op' : CmpOp} {r r' : R2} {g g' : D → D → Res D} {c : Expr} {fc : EF} (ho : OpR X (compareOp op) r) (ho' : OpR X (compareOp op') r') (hg : Op2 r g) (hg' : Op2 r' g') (ha : PD X C W a fa) (hb : PD X C W b fb) (hc : PD X C W c fc)
    (h : ∀ {ta tb tc : TE}, PE X a ta → PE X b tb → PE X c tc → PT X (.Compare a [op, op'] [b, c] pos) (tB (tChain r r' ta tb tc))) : PTD X C W (.Compare a [op, op'] [b, c] pos) (tChain2 g g' fa fb fc) :=
  PT.imp (h ha hb hc) fun σ H Q ⟨S, ρ, L, p⟩ => by
    refine ⟨S, ρ, L, p.seq fun a ρ1 _ p1 => fun v S1 H1 g1 r1 => ⟨S1, ρ1, g1.lk, (p1.t g1).seq fun b ρ2 _ p2 => fun u S2 H2 g2 r2 => ?_⟩⟩
    have p3 := p2.t g2
    cases z : g a b with
    | exc x => rw [z] at p3; exact p3.elim
    | bad => rw [z] at p3; exact p3.elim
    | ok d =>
      rw [z] at p3
      cases d with
      | bool k =>
        refine hg.bl g2.lk.sub (r1.up g2.adv.ss) r2 z fun S3 H3 ad => ⟨k, rfl, ?_⟩
        have g3 : Go S2 H2 σ ρ2 S3 H3 σ ρ2 := .of0 g2.lk ad
        cases k with
        | true =>
          refine ite2 (fun _ => ?_) (fun z => (z rfl).elim)
          refine ⟨S3, ρ2, g3.lk, (Post.t g3 p3).seq fun c ρ4 _ p4 => fun w S4 H4 g4 r4 => ?_⟩
          have p5 := p4.t g4
          cases z2 : g' b c with
          | exc x => rw [z2] at p5; exact p5.elim
          | bad => rw [z2] at p5; exact p5.elim
          | ok d =>
            rw [z2] at p5
            cases d with
            | bool k => exact hg'.bl g4.lk.sub ((r2.up ad.ss).up g4.adv.ss) r4 z2 fun S5 H5 ad5 => ⟨k, rfl, p5 S5 H5 (.of0 g4.lk ad5)⟩
            | none => exact p5.elim
            | int _ => exact p5.elim
            | str _ => exact p5.elim
            | list _ => exact p5.elim
            | tuple _ => exact p5.elim
            | dict _ => exact p5.elim
        | false =>
          refine ite2 (fun z => Bool.noConfusion z) (fun _ => ⟨false, rfl, p3 S3 H3 g3⟩)
      | none => exact p3.elim
      | int _ => exact p3.elim
      | str _ => exact p3.elim
      | list _ => exact p3.elim
      | tuple _ => exact p3.elim
      | dict _ => exact p3.elim
def tAnd2 (fa fb : TF) : TF := fun ρ => (fa ρ).bind fun a => if a.1 then fb a.2 else .ok (false, a.2)
def tOr2 (fa fb : TF) : TF := fun ρ => (fa ρ).bind fun a => if a.1 then .ok (true, a.2) else fb a.2
def tNot1 (fa : TF) : TF := fun ρ => (fa ρ).bind fun a => .ok (!a.1, a.2)
theorem pw_a1 (ha : PTD X C W a ta) : PWD X C W (.BoolOp .And [a] pos) ta := pw_and1 ha
theorem pw_o1 (ha : PTD X C W a ta) : PWD X C W (.BoolOp .Or [a] pos) ta := pw_or1 ha
theorem pw_a (ha : PTD X C W a ta) (hb : PWD X C W (.BoolOp .And (b :: rest) pos) tb) : PWD X C W (.BoolOp .And (a :: b :: rest) pos) (tAnd2 ta tb) :=
  PW.imp (pw_and ha hb) fun σ H Q ⟨S, ρ, L, p⟩ => ⟨S, ρ, L, p.seq fun k ρ1 _ p1 => fun S1 H1 g1 => by
    cases k with
    | true => exact ⟨S1, ρ1, g1.lk, Post.t g1 p1⟩
    | false => exact p1 S1 H1 g1⟩
theorem pw_o (ha : PTD X C W a ta) (hb : PWD X C W (.BoolOp .Or (b :: rest) pos) tb) : PWD X C W (.BoolOp .Or (a :: b :: rest) pos) (tOr2 ta tb) :=
  PW.imp (pw_or ha hb) fun σ H Q ⟨S, ρ, L, p⟩ => ⟨S, ρ, L, p.seq fun k ρ1 _ p1 => fun S1 H1 g1 => by
    cases k with
    | true => exact p1 S1 H1 g1
    | false => exact ⟨S1, ρ1, g1.lk, Post.t g1 p1⟩⟩
theorem pt_n (ha : PTD X C W a ta) : PTD X C W (.UnaryOp .Not a pos) (tNot1 ta) :=
  PT.imp (pt_not ha) fun σ H Q ⟨S, ρ, L, p⟩ => ⟨S, ρ, L, p.seq fun k ρ1 _ p1 => fun S1 H1 g1 => p1 S1 H1 g1⟩
/-! as values -/
def eAnd2 (fa fb : EF) : EF := fun ρ => (fa ρ).bind fun a => match a.1 with
  | .bool true => fb a.2
  | .bool false => .ok (.bool false, a.2)
  | _ => .bad
def eOr2 (fa fb : EF) : EF := fun ρ => (fa ρ).bind fun a => match a.1 with
  | .bool true => .ok (.bool true, a.2)
  | .bool false => fb a.2
  | _ => .bad
def eNot1 (fa : EF) : EF := fun ρ => (fa ρ).bind fun a => match a.1 with
  | .bool k => .ok (.bool (!k), a.2)
  | _ => .bad
theorem pd_one {op : BoolOp} (h : PD X C W a fa) : PD X C W (.BoolOp op [a] pos) fa := pe_one h
theorem pd_and (ha : PD X C W a fa) (hb : PD X C W (.BoolOp .And (b :: rest) pos) fb) : PD X C W (.BoolOp .And (a :: b :: rest) pos) (eAnd2 fa fb) :=
  pd_of (pe_and ha hb) fun S H σ ρ Q L p => ⟨S, ρ, L, p.seq fun d ρ1 _ p1 => fun v S1 H1 g1 r1 => by
    cases d with
    | bool k =>
      cases r1
      cases k with
      | true => exact ⟨true, rfl, iteT ⟨S1, ρ1, g1.lk, Post.d g1 p1⟩⟩
      | false => exact ⟨false, rfl, iteF (p1 _ S1 H1 g1 (.bl _))⟩
    | none => exact p1.elim
    | int _ => exact p1.elim
    | str _ => exact p1.elim
    | list _ => exact p1.elim
    | tuple _ => exact p1.elim
    | dict _ => exact p1.elim⟩
theorem pd_or (ha : PD X C W a fa) (hb : PD X C W (.BoolOp .Or (b :: rest) pos) fb) : PD X C W (.BoolOp .Or (a :: b :: rest) pos) (eOr2 fa fb) :=
  pd_of (pe_or ha hb) fun S H σ ρ Q L p => ⟨S, ρ, L, p.seq fun d ρ1 _ p1 => fun v S1 H1 g1 r1 => by
    cases d with
    | bool k =>
      cases r1
      cases k with
      | true => exact ⟨true, rfl, iteT (p1 _ S1 H1 g1 (.bl _))⟩
      | false => exact ⟨false, rfl, iteF ⟨S1, ρ1, g1.lk, Post.d g1 p1⟩⟩
    | none => exact p1.elim
    | int _ => exact p1.elim
    | str _ => exact p1.elim
    | list _ => exact p1.elim
    | tuple _ => exact p1.elim
    | dict _ => exact p1.elim⟩
theorem pd_not (ha : PD X C W a fa) : PD X C W (.UnaryOp .Not a pos) (eNot1 fa) :=
  pd_of (pe_not ha) fun S H σ ρ Q L p => ⟨S, ρ, L, p.seq fun d ρ1 _ p1 => fun v S1 H1 g1 r1 => by
    cases d with
    | bool k =>
      cases r1
      exact ⟨k, rfl, p1 _ S1 H1 g1 (.bl _)⟩
    | none => exact p1.elim
    | int _ => exact p1.elim
    | str _ => exact p1.elim
    | list _ => exact p1.elim
    | tuple _ => exact p1.elim
    | dict _ => exact p1.elim⟩
/-! ### a if t else b; -a -/
def eIf (t : TF) (fa fb : EF) : EF := fun ρ => (t ρ).bind fun k => if k.1 then fa k.2 else fb k.2
theorem pd_if {c : Expr} {t : TF} (hc : PTD X C W c t) (ha : PD X C W a fa) (hb : PD X C W b fb) : PD X C W (.IfExp c a b pos) (eIf t fa fb) :=
  pd_of (pe_ifExp hc ha hb) fun S H σ ρ Q L p => ⟨S, ρ, L, p.seq fun k ρ1 _ p1 => fun S1 H1 g1 => by
    cases k with
    | true => exact iteT ⟨S1, ρ1, g1.lk, Post.d g1 p1⟩
    | false => exact iteF ⟨S1, ρ1, g1.lk, Post.d g1 p1⟩⟩
def eNeg (fa : EF) : EF := fun ρ => (fa ρ).bind fun a => match a.1 with
  | .int i => .ok (.int (-i), a.2)
  | _ => .bad
theorem pd_neg (ha : PD X C W a fa) : PD X C W (.UnaryOp .USub a pos) (eNeg fa) :=
  pd_of (pe_un un_neg ha) fun S H σ ρ Q L p => ⟨S, ρ, L, p.seq fun d ρ1 _ p1 => fun v S1 H1 g1 r1 => by
    cases d with
    | int i =>
      cases r1
      exact ⟨i, rfl, p1 _ S1 H1 g1 (.int _)⟩
    | none => exact p1.elim
    | bool _ => exact p1.elim
    | str _ => exact p1.elim
    | list _ => exact p1.elim
    | tuple _ => exact p1.elim
    | dict _ => exact p1.elim⟩
/-! ### arguments, displays -/
def aNil : LF := fun ρ => .ok ([], ρ)
def aCons (fa : EF) (fs : LF) : LF := fun ρ => (fa ρ).bind fun a => (fs a.2).bind fun r => .ok (a.1 :: r.1, r.2)
theorem pad_nil : PAD X C W [] aNil := PA.imp pa_nil fun σ H Q ⟨S, ρ, L, p⟩ => p [] S H (.refl L) .nil
theorem pad_cons {es : List Expr} {fs : LF} (ha : PD X C W e fa) (hr : PAD X C W es fs) (hs : starEach (e :: es) X.env = (false, eval e X.env) :: starEach es X.env := by rfl) : PAD X C W (e :: es) (aCons fa fs) :=
  PA.imp (pa_cons ha hr hs) fun σ H Q ⟨S, ρ, L, p⟩ => ⟨S, ρ, L, p.seq fun d ρ1 _ p1 => fun v S1 H1 g1 r1 => ⟨S1, ρ1, g1.lk, (Post.a g1 p1).seq fun ds ρ2 _ p2 => fun vs S2 H2 g2 r2 => p2 (v :: vs) S2 H2 g2 (.cons (r1.up g2.adv.ss) r2)⟩⟩
def few (n : Nat) : Bool := decide (n ≤ 100000)
theorem few_line {n : Nat} (h : few n = true) : n < sizeLine := by
  have := of_decide_eq_true h
  rw [sizeLine_eq]
  omega
def eTup (fs : LF) : EF := fun ρ => (fs ρ).bind fun r => if few r.1.length then .ok (.tuple r.1, r.2) else .bad
def eLst (fs : LF) : EF := fun ρ => (fs ρ).bind fun r => if few r.1.length then .ok (.list r.1, r.2) else .bad
def oLst (fs : LF) : LF := fun ρ => (fs ρ).bind fun r => if few r.1.length then .ok (r.1, r.2) else .bad
theorem pd_tup {es : List Expr} {k : Nat} {fs : LF} (h : PAD X C W es fs) : PD X C W (.Tuple es k pos) (eTup fs) :=
  pd_of (pe_tup h) fun S H σ ρ Q L p => ⟨S, ρ, L, p.seq fun ds ρ1 _ p1 => fun vs S1 H1 g1 r1 => by
    cases z : few ds.length with
    | true =>
      simp only [z, if_true] at p1
      refine ⟨Nat.le_of_lt (few_line (by rw [r1.length]; exact z)), fun q hq => ?_⟩
      have ad := Adv.new (o := .tup vs) g1.lk.sub hq
      exact p1 _ _ _ (g1.trans (.of0 g1.lk ad)) (.tup upd_same (r1.up ad.ss))
    | false =>
      simp only [z] at p1
      exact p1.elim⟩
theorem pd_lst {es : List Expr} {fs : LF} (h : PAD X C W es fs) : PD X C W (.List es pos) (eLst fs) :=
  pd_of (pe_lst h) fun S H σ ρ Q L p => ⟨S, ρ, L, p.seq fun ds ρ1 _ p1 => fun vs S1 H1 g1 r1 => by
    cases z : few ds.length with
    | true =>
      simp only [z, if_true] at p1
      refine ⟨Nat.le_of_lt (few_line (by rw [r1.length]; exact z)), fun q hq => ?_⟩
      have ad := Adv.new (o := .lst vs) g1.lk.sub hq
      exact p1 _ _ _ (g1.trans (.of0 g1.lk ad)) (.lst upd_same (r1.up ad.ss))
    | false =>
      simp only [z] at p1
      exact p1.elim⟩
/-- an own list just made -/
theorem KO.lay {S H S1 H1 : Hp} {σ : St} {ρ ρ1 : En} {Q : VK} {ds : List D} {us : List V} (k : KO S H σ ρ Q ds ρ1) (g1 : Go S H σ ρ S1 H1 σ ρ1) (r : RpAll S1 us ds) {q : Addr} (hq : H1 q = none) : Q (.ref q) (upd H1 q (.lst us)) := by
  have ad := Adv.lay (o := .lst us) g1.lk.sub hq
  have hs : S1 q = none := by
    cases z : S1 q with
    | none => rfl
    | some o => rw [g1.lk.sub _ _ z] at hq; cases hq
  refine k q us S1 _ (g1.trans (.of0 g1.lk ad)) upd_same r hs (g1.adv.dm q hq) fun ow => ?_
  obtain ⟨⟨ws, e⟩, _⟩ := g1.lk.ow ow
  rw [hq] at e; cases e
theorem pod_lst {es : List Expr} {fs : LF} (h : PAD X C W es fs) : POD X C W (.List es pos) (oLst fs) :=
  PE.imp (pe_lst h) fun σ H Q ⟨S, ρ, L, p⟩ => ⟨S, ρ, L, p.seq fun ds ρ1 _ p1 => fun vs S1 H1 g1 r1 => by
    cases z : few ds.length with
    | true =>
      simp only [z, if_true] at p1
      exact ⟨Nat.le_of_lt (few_line (by rw [r1.length]; exact z)), fun q hq => KO.lay p1 g1 r1 hq⟩
    | false =>
      simp only [z] at p1
      exact p1.elim⟩
/-- an own list, frozen at once -/
def eFz (f : LF) : EF := fun ρ => (f ρ).bind fun r => .ok (.list r.1, r.2)
theorem pd_fz {f : LF} (h : POD X C W e f) : PD X C W e (eFz f) :=
  pd_of h fun S H σ ρ Q L p => ⟨S, ρ, L, p.seq fun ds ρ1 _ p1 => fun q us S1 H1 g1 h1 r1 hs h0 hn => by
    have ss : Same S1 (upd S1 q (.lst us)) := fun a o z => by rw [upd_ne (ne_of_none z hs)]; exact z
    have sh : Same (upd S1 q (.lst us)) H1 := fun a o z => by
      by_cases w : a = q
      · subst w; rw [upd_same] at z; rw [h1]; exact z
      · rw [upd_ne w] at z; exact g1.lk.sub a o z
    refine p1 _ (upd S1 q (.lst us)) H1 ⟨g1.ln, ⟨g1.adv.ss.trans ss, sh, g1.adv.kp, fun a o z => ?_, g1.adv.dm⟩, ⟨g1.lk.len, sh, fun i d e => ?_, fun i es e => ?_, g1.lk.dist⟩, g1.ow, g1.z0⟩ (.lst upd_same (r1.up ss))
    · by_cases w : a = q
      · subst w; exact .inr (.inl h0)
      · rw [upd_ne w] at z; exact g1.adv.nw a o z
    · obtain ⟨v, y1, y2⟩ := g1.lk.vals i d e
      exact ⟨v, y1, y2.up ss⟩
    · obtain ⟨p, ws, y1, y2, y3, y4⟩ := g1.lk.owns i es e
      have w : p ≠ q := fun z => hn ⟨i, es, e, by rw [← z]; exact y1⟩
      exact ⟨p, ws, y1, y2, y3.up ss, by rw [upd_ne w]; exact y4⟩⟩
end
end GN

set_option Elab.async false
set_option linter.all false
set_option maxRecDepth 100000
set_option maxHeartbeats 4000000
/-! G3: subscripts, slices, built-ins, own lists read and changed within an expression. -/
namespace GN
open PySem PySem.Spec PyProof.Rows L2
def idxF (a b : D) : Res D := match b with
  | .int i => match a with
    | .list ds | .tuple ds => match atI ds i with
      | some d => .ok d
      | none => .bad
    | .str z => if few z.length then (match atI z.cps.toList i with
      | some c => .ok (.str ⟨#[c]⟩)
      | none => .bad) else .bad
    | _ => .bad
  | _ => .bad
theorem atI_rp {S : Hp} {vs : List V} {ds : List D} (r : RpAll S vs ds) {i : Int} {d : D} (e : atI ds i = some d) : ∃ v, atI vs i = some v ∧ Rp S v d := by
  unfold atI at e ⊢
  rw [r.length]
  cases z : ixN ds.length i with
  | none => rw [z] at e; cases e
  | some j =>
    rw [z] at e
    exact r.get e
theorem o_idxF {K : PySem.W.Frag} : Op2 (rIx K) idxF := by
  intro S H x y a b d Q ss ra rb e q
  cases b with
  | int i => ?_
  | none => cases e
  | bool _ => cases e
  | str _ => cases e
  | list _ => cases e
  | tuple _ => cases e
  | dict _ => cases e
  unfold idxF at e
  cases rb
  cases a with
  | list ds =>
    dsimp only at e
    cases ra with
    | lst h r =>
      cases z : atI ds i with
      | none => rw [z] at e; cases e
      | some d' =>
        rw [z] at e; cases e
        obtain ⟨v, h1, h2⟩ := atI_rp r z
        exact .inl ⟨_, _, i, v, rfl, rfl, .of (ss _ _ h), h1, q v S H (.refl ss) h2⟩
  | tuple ds =>
    dsimp only at e
    cases ra with
    | tup h r =>
      cases z : atI ds i with
      | none => rw [z] at e; cases e
      | some d' =>
        rw [z] at e; cases e
        obtain ⟨v, h1, h2⟩ := atI_rp r z
        exact .inr (.inl ⟨_, _, i, v, rfl, rfl, .of (ss _ _ h), h1, q v S H (.refl ss) h2⟩)
  | str z =>
    cases ra
    dsimp only at e
    split at e
    · rename_i hf
      cases w : atI z.cps.toList i with
      | none => rw [w] at e; cases e
      | some c =>
        rw [w] at e; cases e
        exact .inr (.inr ⟨z, i, c, rfl, rfl, Nat.le_of_lt (few_line hf), w, q _ S H (.refl ss) (.str _)⟩)
    · cases e
  | none => cases e
  | bool _ => cases e
  | int _ => cases e
  | dict _ => cases e
section
variable {X : Cx} {C : XC} {W : WX} {pos : Pos} {a b e : Expr} {es : List Expr} {fa fb : EF} {fs : LF}
theorem pd_ix (ha : PD X C W a fa) (hb : PD X C W b fb) (hs : PlainIx b := by exact fun _ _ => rfl) : PD X C W (.Subscript a b pos) (eOp idxF fa fb) :=
  pd_of (pe_ix ix_seq ha hb hs) fun S H σ ρ Q L p => two_of o_idxF L p
/-- x[..], x an own list -/
def eIxO (i : Nat) (fb : EF) : EF := fun ρ => match ρ[i]? with
  | some (.own _) => (fb ρ).bind fun b => match b.2[i]? with
    | some (.own ds) => (match idxF (.list ds) b.1 with
      | .ok d => .ok (d, b.2)
      | _ => .bad)
    | _ => .bad
  | _ => .bad
theorem pd_ixO (i : Nat) {x : Str} {px : Pos} (hb : PD X C W b fb) (hs : PlainIx b := by exact fun _ _ => rfl) (hN : X.N[i]? = some x := by rfl) (hv : Vis X.env.scope x := by first | exact Or.inl rfl | exact Or.inr (Or.inl rfl) | exact Or.inr (Or.inr rfl)) (hd : (x == ("__debug__" : Str)) = false := by decide)
    (hcd : (x == ("__classdict__" : Str)) = false := by decide) : PD X C W (.Subscript (.Name x px) b pos) (eIxO i fb) :=
  pd_of (pe_ix ix_list (pe_var hN hv hd hcd) hb hs) fun S H σ ρ Q L p => by
    unfold eIxO at p
    cases e : ρ[i]? with
    | none => rw [e] at p; exact p.elim
    | some s =>
      rw [e] at p
      cases s with
      | no => exact p.elim
      | val d => exact p.elim
      | own ds0 =>
        obtain ⟨q, us0, h1, _⟩ := L.owns i ds0 e
        refine ⟨_, h1, S, ρ, L, p.seq fun b ρ1 _ p1 => fun v S1 H1 g1 r1 => ?_⟩
        dsimp only at p1
        cases e1 : ρ1[i]? with
        | none => rw [e1] at p1; exact p1.elim
        | some s =>
          rw [e1] at p1
          cases s with
          | no => exact p1.elim
          | val d => exact p1.elim
          | own ds =>
            obtain ⟨q', us, f1, f2, f3, f4⟩ := g1.lk.owns i ds e1
            rw [h1] at f1; cases f1
            dsimp only at p1
            cases b with
            | int k => ?_
            | none => exact p1.elim
            | bool _ => exact p1.elim
            | str _ => exact p1.elim
            | list _ => exact p1.elim
            | tuple _ => exact p1.elim
            | dict _ => exact p1.elim
            unfold idxF at p1
            dsimp only at p1
            cases r1
            cases z : atI ds k with
            | none => rw [z] at p1; exact p1.elim
            | some d =>
              rw [z] at p1
              obtain ⟨w, y1, y2⟩ := atI_rp f3 z
              exact ⟨_, us, k, w, rfl, rfl, .of f2, y1, p1 w S1 H1 g1 y2⟩
/-! ### slices by written parts -/
def cutD (ds : List D) (lo hi : Option Int) : List D := (ds.drop (HT.sIx ds.length 0 lo)).take (HT.sIx ds.length ds.length hi - HT.sIx ds.length 0 lo)
def sliF (lo hi : Option Int) (a : D) : Res D := match a with
  | .list ds => .ok (.list (cutD ds lo hi))
  | .tuple ds => .ok (.tuple (cutD ds lo hi))
  | _ => .bad
def eSl (lo hi : Option Int) (fa : EF) : EF := fun ρ => (fa ρ).bind fun a => match sliF lo hi a.1 with
  | .ok d => .ok (d, a.2)
  | _ => .bad
theorem cut_rp {S : Hp} {vs : List V} {ds : List D} (r : RpAll S vs ds) (lo hi : Option Int) : RpAll S (cutV vs lo hi) (cutD ds lo hi) := by
  unfold cutV cutD
  rw [r.length]
  exact (r.drop _).take _
theorem cut_all {ds : List D} {lo hi : Option Int} (h1 : HT.sIx ds.length 0 lo = 0) (h2 : HT.sIx ds.length ds.length hi = ds.length) : cutD ds lo hi = ds := by
  unfold cutD
  rw [h1, h2]
  simp
/-- a written part -/
structure Part (X : Cx) (e : Option Expr) (o : Option Int) : Prop where
  po : ∃ t, L2.PO X e t ∧ ∀ σ H Q, Q o H → t σ H Q
theorem part_no : Part X none none := ⟨_, po_none, fun _ _ _ q => q⟩
theorem part_int {i : Int} {j : Nat} {p : Pos} : Part X (some (.Constant (.int i) j p)) (some i) := ⟨_, po_some pe_int, fun _ _ _ q => ⟨i, rfl, q⟩⟩
theorem pd_sl {lo hi : Option Expr} {l h : Option Int} {p2 : Pos} (ha : PD X C W a fa) (hl : Part X lo l) (hh : Part X hi h) : PD X C W (.Subscript a (.Slice lo hi none p2) pos) (eSl l h fa) := by
  obtain ⟨tl, p1, q1⟩ := hl.po
  obtain ⟨th, p2', q2⟩ := hh.po
  refine pd_of (pe_slice (sl_list.or sl_tupA) ha p1 p2') fun S H σ ρ Q L p => ⟨S, ρ, L, p.seq fun d ρ1 _ p1 => fun v S1 H1 g1 r1 => q1 _ _ _ (q2 _ _ _ ?_)⟩
  cases d with
  | list ds =>
    cases r1 with
    | lst e r =>
      refine .inl ⟨_, _, rfl, .of (g1.lk.sub _ _ e), fun q hq => ?_⟩
      exact p1 _ _ _ (g1.trans (.of0 g1.lk (Adv.new g1.lk.sub hq))) (.lst upd_same ((cut_rp r l h).up (Adv.new g1.lk.sub hq).ss))
  | tuple ds =>
    cases r1 with
    | tup e r =>
      refine .inr ⟨_, _, rfl, .of (g1.lk.sub _ _ e), fun z => ?_, fun _ q hq => ?_⟩
      · have z' := z
        rw [r.length] at z'
        have w := cut_all (lo := l) (hi := h) z'.1 z'.2
        have p3 : KD S H σ ρ Q (.tuple (cutD ds l h)) ρ1 := p1
        rw [w] at p3
        exact p3 _ _ _ g1 (.tup e r)
      · exact p1 _ _ _ (g1.trans (.of0 g1.lk (Adv.new g1.lk.sub hq))) (.tup upd_same ((cut_rp r l h).up (Adv.new g1.lk.sub hq).ss))
  | none => exact p1.elim
  | bool _ => exact p1.elim
  | int _ => exact p1.elim
  | str _ => exact p1.elim
  | dict _ => exact p1.elim
/-! ### concatenation, repetition -/
def catT (a b : D) : Res D := match a, b with
  | .tuple xs, .tuple ys => if few (xs.length + ys.length) then .ok (.tuple (xs ++ ys)) else .bad
  | _, _ => .bad
theorem o_catT {K : PySem.W.Frag} : Op2 (rCatA K) catT := by
  intro S H x y a b d Q ss ra rb e q
  cases a <;> cases b <;> simp only [catT] at e <;> first | cases e | skip
  rename_i xs ys
  split at e
  · rename_i hf
    cases e
    cases ra with
    | tup ea r1 =>
      cases rb with
      | tup eb r2 =>
        refine ⟨_, _, _, _, rfl, rfl, .of (ss _ _ ea), .of (ss _ _ eb), by rw [r1.length, r2.length]; exact Nat.le_of_lt (few_line hf), fun z => ?_, fun _ z => ?_, fun _ _ p hp => ?_⟩
        · subst z
          cases r1
          exact q _ S H (.refl ss) (.tup eb r2)
        · subst z
          cases r2
          rw [List.append_nil] at q
          exact q _ S H (.refl ss) (.tup ea r1)
        · exact q _ _ _ (Adv.new ss hp) (.tup upd_same ((r1.append r2).up (Adv.new ss hp).ss))
  · cases e
def catL (a b : D) : Res D := match a, b with
  | .list xs, .list ys => if few (xs.length + ys.length) then .ok (.list (xs ++ ys)) else .bad
  | _, _ => .bad
theorem o_catL : Op2 rCat catL := by
  intro S H x y a b d Q ss ra rb e q
  cases a <;> cases b <;> simp only [catL] at e <;> first | cases e | skip
  rename_i xs ys
  split at e
  · rename_i hf
    cases e
    cases ra with
    | lst ea r1 =>
      cases rb with
      | lst eb r2 =>
        refine ⟨_, _, _, _, rfl, rfl, ss _ _ ea, ss _ _ eb, by rw [r1.length, r2.length]; exact Nat.le_of_lt (few_line hf), fun p hp => ?_⟩
        exact q _ _ _ (Adv.new ss hp) (.lst upd_same ((r1.append r2).up (Adv.new ss hp).ss))
  · cases e
def addF (a b : D) : Res D := match addI a b with
  | .ok d => .ok d
  | _ => match catT a b with
    | .ok d => .ok d
    | _ => catL a b
theorem pd_add (ha : PD X C W a fa) (hb : PD X C W b fb) : PD X C W (.BinOp a .Add b pos) (eOp addF fa fb) :=
  pd_op (op_add.or (op_catA.or op_cat)) (o_addI.or (o_catT.or o_catL)) ha hb
theorem pd_sub (ha : PD X C W a fa) (hb : PD X C W b fb) : PD X C W (.BinOp a .Sub b pos) (eOp subI fa fb) := pd_op op_sub o_subI ha hb
theorem pd_fdiv (ha : PD X C W a fa) (hb : PD X C W b fb) : PD X C W (.BinOp a .FloorDiv b pos) (eOp fdivI fa fb) := pd_op op_fdivG o_fdivI ha hb
theorem pd_mod (ha : PD X C W a fa) (hb : PD X C W b fb) : PD X C W (.BinOp a .Mod b pos) (eOp modI fa fb) := pd_op op_mod o_modI ha hb
theorem pd_pow (ha : PD X C W a fa) (hb : PD X C W b fb) : PD X C W (.BinOp a .Pow b pos) (eOp powI fa fb) := pd_op op_pow o_powI ha hb
/-- a list + a list, the new one own -/
def oCat (fa fb : EF) : LF := fun ρ => (fa ρ).bind fun a => (fb a.2).bind fun b => match catL a.1 b.1 with
  | .ok (.list zs) => .ok (zs, b.2)
  | _ => .bad
theorem pod_cat (ha : PD X C W a fa) (hb : PD X C W b fb) : POD X C W (.BinOp a .Add b pos) (oCat fa fb) :=
  PE.imp (pe_op op_cat ha hb) fun σ H Q ⟨S, ρ, L, p⟩ => ⟨S, ρ, L, p.seq fun d ρ1 _ p1 => fun v S1 H1 g1 r1 => ⟨S1, ρ1, g1.lk, (Post.o g1 p1).seq fun d2 ρ2 _ p2 => fun u S2 H2 g2 r2 => by
    dsimp only at p2
    obtain ⟨xs, ys, rfl, rfl⟩ : ∃ xs ys, d = .list xs ∧ d2 = .list ys := by
      cases d with
      | list xs =>
        cases d2 with
        | list ys => exact ⟨xs, ys, rfl, rfl⟩
        | _ => exact p2.elim
      | _ => exact p2.elim
    simp only [catL] at p2
    cases hf : few (xs.length + ys.length) with
    | false => simp only [hf] at p2; exact p2.elim
    | true =>
      simp only [hf, if_true] at p2
      cases r1 with
      | lst ea q1 =>
        cases r2 with
        | lst eb q2 =>
          exact ⟨_, _, _, _, rfl, rfl, g2.adv.sh _ _ (g2.adv.ss _ _ ea), g2.lk.sub _ _ eb, by rw [q1.length, q2.length]; exact Nat.le_of_lt (few_line hf), fun p hp => KO.lay p2 g2 ((q1.up g2.adv.ss).append q2) hp⟩⟩⟩
def repL (a b : D) : Res D := match a, b with
  | .list xs, .int k => if few (xs.length * k.toNat) && decide (0 ≤ k ∧ k ≤ 100000) then .ok (.list (List.replicate k.toNat xs).flatten) else .bad
  | _, _ => .bad
theorem o_repL : Op2 rRep repL := by
  intro S H x y a b d Q ss ra rb e q
  cases a <;> cases b <;> simp only [repL] at e <;> first | cases e | skip
  rename_i xs k
  split at e
  · rename_i hf
    cases e
    obtain ⟨h1, h2⟩ := Bool.and_eq_true_iff.mp hf
    have h3 := of_decide_eq_true h2
    cases rb
    cases ra with
    | lst ea r1 =>
      refine ⟨_, k, _, rfl, rfl, ss _ _ ea, by omega, by omega, by rw [r1.length]; exact Nat.le_of_lt (few_line h1), fun p hp => ?_⟩
      exact q _ _ _ (Adv.new ss hp) (.lst upd_same ((r1.flat _).up (Adv.new ss hp).ss))
  · cases e
def repT (a b : D) : Res D := match a, b with
  | .tuple xs, .int k => if decide (xs ≠ [] ∧ xs.length ≤ 1000) && decide (2 ≤ k ∧ k ≤ 1000) then .ok (.tuple (List.replicate k.toNat xs).flatten) else .bad
  | _, _ => .bad
end
end GN

set_option Elab.async false
set_option linter.all false
set_option maxRecDepth 100000
set_option maxHeartbeats 4000000
/-! G4: built-ins called, isinstance, own lists asked. -/
namespace GN
open PySem PySem.Spec PyProof.Rows L2
def OpN (r : List V → Hp → VK → Prop) (g : List D → Res D) : Prop := ∀ (S H : Hp) (xs : List V) (ds : List D) (d : D) (Q : VK), Same S H → RpAll S xs ds → g ds = .ok d → (∀ v S' H', Adv NoM S H S' H' → Rp S' v d → Q v H') → r xs H Q
def eCall (g : List D → Res D) (fs : LF) : EF := fun ρ => (fs ρ).bind fun a => match g a.1 with
  | .ok d => .ok (d, a.2)
  | _ => .bad
section
variable {X : Cx} {C : XC} {W : WX} {pos p : Pos} {a b e : Expr} {es : List Expr} {fa fb : EF} {fs : LF} {x : Str} {bid : String}
theorem call_of {r : List V → Hp → VK → Prop} {g : List D → Res D} (hg : OpN r g) {S H : Hp} {σ : St} {ρ : En} {Q : VK} (L : Lk S H σ ρ) (p : Post C W S H σ ρ (eCall g fs ρ) (KD S H σ ρ Q)) : tCB r (tA C W fs) σ H Q :=
  ⟨S, ρ, L, p.seq fun ds ρ1 _ p1 => fun vs S1 H1 g1 r1 => by
    dsimp only at p1
    cases z : g ds with
    | ok d =>
      rw [z] at p1
      exact hg S1 H1 vs ds d Q g1.lk.sub r1 z fun v S2 H2 ad r2 => p1 v S2 H2 (g1.trans (.of0 g1.lk ad)) r2
    | exc y => rw [z] at p1; exact p1.elim
    | bad => rw [z] at p1; exact p1.elim⟩
theorem pd_cb {r : List V → Hp → VK → Prop} {g : List D → Res D} (hc : CallR X (.builtin bid) r) (hg : OpN r g) (hm : X.mg x = none) (hv : bootBuiltins x = some (.builtin bid)) (ha : PAD X C W (e :: es) fs) (hgl : Gl X x := by rfl) (hn : x ≠ "__name__" := by decide) (hdb : (x == ("__debug__" : Str)) = false := by decide)
    (he : starEach (e :: es) X.env = (false, eval e X.env) :: starEach es X.env := by rfl) (hpl : (backTo pos (starEach es X.env)).any (·.1) = false := by rfl) : PD X C W (.Call (.Name x p) (e :: es) [] pos) (eCall g fs) :=
  pd_of (pe_callB hc hgl hm hv ha hn hdb he hpl) fun S H σ ρ Q L p => call_of hg L p
theorem pd_ct {T : String} {r : List V → Hp → VK → Prop} {g : List D → Res D} (hc : CallR X (.type T) r) (hg : OpN r g) (hm : X.mg x = none) (hv : bootBuiltins x = some (.type T)) (ha : PAD X C W (e :: es) fs) (hgl : Gl X x := by rfl) (hn : x ≠ "__name__" := by decide) (hdb : (x == ("__debug__" : Str)) = false := by decide)
    (he : starEach (e :: es) X.env = (false, eval e X.env) :: starEach es X.env := by rfl) (hpl : (backTo pos (starEach es X.env)).any (·.1) = false := by rfl) : PD X C W (.Call (.Name x p) (e :: es) [] pos) (eCall g fs) :=
  pd_of (pe_callTy hc hgl hm hv ha hn hdb he hpl) fun S H σ ρ Q L p => call_of hg L p
/-! ### the functions -/
def lenF : List D → Res D
  | [.list ds] | [.tuple ds] => .ok (.int ds.length)
  | [.str z] => if few z.length then .ok (.int z.length) else .bad
  | _ => .bad
theorem o_lenF {K : PySem.W.Frag} : OpN (fun xs H Q => ∃ x n, xs = [x] ∧ LenV K x H n ∧ Q (.int n) H) lenF := by
  intro S H xs ds d Q ss r e q
  match ds, r, e with
  | [.list l], .cons (.lst ea r1) .nil, e =>
    cases e
    refine ⟨_, _, rfl, .inl ⟨_, .of (ss _ _ ea), rfl⟩, ?_⟩
    rw [r1.length]
    exact q _ S H (.refl ss) (.int _)
  | [.tuple l], .cons (.tup ea r1) .nil, e =>
    cases e
    refine ⟨_, _, rfl, .inr ⟨_, .of (ss _ _ ea), rfl⟩, ?_⟩
    rw [r1.length]
    exact q _ S H (.refl ss) (.int _)
  | [.str z], .cons (.str _) .nil, e =>
    unfold lenF at e
    dsimp only at e
    split at e
    · rename_i hf
      cases e
      exact ⟨_, _, rfl, ⟨Nat.le_of_lt (few_line hf), rfl⟩, q _ S H (.refl ss) (.int _)⟩
    · cases e
def absF : List D → Res D
  | [.int i] => .ok (.int (if i < 0 then -i else i))
  | _ => .bad
theorem o_absF : OpN (fun xs H Q => ∃ i, xs = [.int i] ∧ Q (.int (if i < 0 then -i else i)) H) absF := by
  intro S H xs ds d Q ss r e q
  match ds, r, e with
  | [.int i], .cons (.int _) .nil, e =>
    cases e
    exact ⟨i, rfl, q _ S H (.refl ss) (.int _)⟩
def max2F : List D → Res D
  | [.int i, .int j] => .ok (.int (if j > i then j else i))
  | _ => .bad
theorem o_max2F : OpN (fun xs H Q => ∃ i j, xs = [.int i, .int j] ∧ Q (.int (if j > i then j else i)) H) max2F := by
  intro S H xs ds d Q ss r e q
  match ds, r, e with
  | [.int i, .int j], .cons (.int _) (.cons (.int _) .nil), e =>
    cases e
    exact ⟨i, j, rfl, q _ S H (.refl ss) (.int _)⟩
def min2F : List D → Res D
  | [.int i, .int j] => .ok (.int (if j < i then j else i))
  | _ => .bad
theorem o_min2F : OpN (fun xs H Q => ∃ i j, xs = [.int i, .int j] ∧ Q (.int (if j < i then j else i)) H) min2F := by
  intro S H xs ds d Q ss r e q
  match ds, r, e with
  | [.int i, .int j], .cons (.int _) (.cons (.int _) .nil), e =>
    cases e
    exact ⟨i, j, rfl, q _ S H (.refl ss) (.int _)⟩
def intF : List D → Res D
  | [.int i] => .ok (.int i)
  | [.bool k] => .ok (.int (if k then 1 else 0))
  | _ => .bad
theorem o_intF : OpN (fun xs H Q => (∃ i, xs = [.int i] ∧ Q (.int i) H) ∨ ∃ k, xs = [.bl k] ∧ Q (.int (if k then 1 else 0)) H) intF := by
  intro S H xs ds d Q ss r e q
  match ds, r, e with
  | [.int i], .cons (.int _) .nil, e =>
    cases e
    exact .inl ⟨i, rfl, q _ S H (.refl ss) (.int _)⟩
  | [.bool k], .cons (.bl _) .nil, e =>
    cases e
    exact .inr ⟨k, rfl, q _ S H (.refl ss) (.int _)⟩
def gcdF : List D → Res D
  | [.int i, .int j] => .ok (.int ((Nat.gcd i.natAbs j.natAbs : Nat) : Int))
  | _ => .bad
theorem o_gcdF : OpN rGcd gcdF := by
  intro S H xs ds d Q ss r e q
  match ds, r, e with
  | [.int i, .int j], .cons (.int _) (.cons (.int _) .nil), e =>
    cases e
    exact ⟨i, j, rfl, q _ S H (.refl ss) (.int _)⟩
theorem pd_gcd (hm : X.mg "gcd" = some (.builtin "math.gcd")) (ha : PAD X C W (e :: es) fs) (hgl : Gl X "gcd" := by rfl)
    (he : starEach (e :: es) X.env = (false, eval e X.env) :: starEach es X.env := by rfl) (hpl : (backTo pos (starEach es X.env)).any (·.1) = false := by rfl) : PD X C W (.Call (.Name "gcd" p) (e :: es) [] pos) (eCall gcdF fs) :=
  pd_of (pe_callBfun cr_gcd hgl hm ha (by decide) he hpl) fun S H σ ρ Q L p => call_of o_gcdF L p
def tupleF : List D → Res D
  | [.list ds] | [.tuple ds] => .ok (.tuple ds)
  | _ => .bad
theorem o_tupleF {K : PySem.W.Frag} : OpN (fun xs H Q => ∃ p ys, xs = [.ref p] ∧ ((SqL K H p ys ∧ ∀ l, H l = none → Q (.ref l) (upd H l (.tup ys))) ∨ (SqT K H p ys ∧ Q (.ref p) H))) tupleF := by
  intro S H xs ds d Q ss r e q
  match ds, r, e with
  | [.list l], .cons (.lst ea r1) .nil, e =>
    cases e
    exact ⟨_, _, rfl, .inl ⟨.of (ss _ _ ea), fun p hp => q _ _ _ (Adv.new ss hp) (.tup upd_same (r1.up (Adv.new ss hp).ss))⟩⟩
  | [.tuple l], .cons (.tup ea r1) .nil, e =>
    cases e
    exact ⟨_, _, rfl, .inr ⟨.of (ss _ _ ea), q _ S H (.refl ss) (.tup ea r1)⟩⟩
/-- list(..): a new list, own -/
def oList (fs : LF) : LF := fun ρ => (fs ρ).bind fun a => match a.1 with
  | [.list ds] | [.tuple ds] => .ok (ds, a.2)
  | _ => .bad
theorem pod_list (hm : X.mg "list" = none) (ha : PAD X C W [e] fs) (hgl : Gl X "list" := by rfl)
    (he : starEach [e] X.env = (false, eval e X.env) :: starEach [] X.env := by rfl) (hpl : (backTo pos (starEach [] X.env)).any (·.1) = false := by rfl) : POD X C W (.Call (.Name "list" p) [e] [] pos) (oList fs) :=
  PE.imp (pe_callTy call_list_of hgl hm boot_list ha (by decide) (by decide) he hpl) fun σ H Q ⟨S, ρ, L, p⟩ => ⟨S, ρ, L, p.seq fun ds ρ1 _ p1 => fun vs S1 H1 g1 r1 => by
    dsimp only at p1
    match ds, r1, p1 with
    | [.list l], .cons (.lst ea r) .nil, p1 => exact ⟨_, _, rfl, .inl (.of (g1.lk.sub _ _ ea)), fun q hq => KO.lay p1 g1 r hq⟩
    | [.tuple l], .cons (.tup ea r) .nil, p1 => exact ⟨_, _, rfl, .inr (.of (g1.lk.sub _ _ ea)), fun q hq => KO.lay p1 g1 r hq⟩⟩
/-! sorted of ints -/
def insI (i : Int) : List Int → List Int
  | [] => [i]
  | j :: r => if i ≤ j then i :: j :: r else j :: insI i r
def sortI : List Int → List Int
  | [] => []
  | i :: r => insI i (sortI r)
theorem insI_perm (i : Int) : ∀ l, (insI i l).Perm (i :: l)
  | [] => .refl _
  | j :: r => by
    unfold insI
    split
    · exact .refl _
    · exact ((insI_perm i r).cons j).trans (.swap i j r)
theorem sortI_perm : ∀ l, (sortI l).Perm l
  | [] => .refl _
  | i :: r => (insI_perm i _).trans ((sortI_perm r).cons i)
theorem insI_pw (i : Int) : ∀ l : List Int, l.Pairwise (· ≤ ·) → (insI i l).Pairwise (· ≤ ·)
  | [], _ => List.pairwise_singleton _ _
  | j :: r, h => by
    obtain ⟨h1, h2⟩ := List.pairwise_cons.mp h
    unfold insI
    split
    · rename_i c
      refine List.pairwise_cons.mpr ⟨fun z hz => ?_, h⟩
      rcases List.mem_cons.mp hz with rfl | hz
      · exact c
      · exact Int.le_trans c (h1 z hz)
    · rename_i c
      refine List.pairwise_cons.mpr ⟨fun z hz => ?_, insI_pw i r h2⟩
      rcases List.mem_cons.mp ((insI_perm i r).mem_iff.mp hz) with rfl | hz
      · omega
      · exact h1 z hz
theorem sortI_pw : ∀ l : List Int, (sortI l).Pairwise (· ≤ ·)
  | [] => .nil
  | i :: r => insI_pw i _ (sortI_pw r)
def sortedF : List D → Res D
  | [.list ds] => (match intsOf ds with
    | some ns => if ns.length < 64 then .ok (.list ((sortI ns).map PyData.int)) else .bad
    | none => .bad)
  | _ => .bad
theorem o_sortedF {K : PySem.W.Frag} : OpN (rSorted K) sortedF := by
  intro S H xs ds d Q ss r e q
  match ds, r, e with
  | [.list l], .cons (.lst ea r1) .nil, e =>
    unfold sortedF at e
    dsimp only at e
    cases z : intsOf l with
    | none => rw [z] at e; cases e
    | some ns =>
      rw [z] at e
      dsimp only at e
      have e2 := intsOf_eq z
      subst e2
      have e3 := r1.intsOf
      subst e3
      split at e
      · rename_i hl
        cases e
        refine ⟨_, ns, rfl, .of (ss _ _ ea), hl, fun ns' p h1 h2 hp => ?_⟩
        have e4 : ns' = sortI ns := PySem.W.ksm_same (h1.trans (sortI_perm ns).symm) h2 (sortI_pw ns)
        subst e4
        exact q _ _ _ (Adv.new ss hp) (.lst upd_same ((RpAll.ofInts _).up (Adv.new ss hp).ss))
      · cases e
def minI : List Int → Option Int
  | [] => none
  | i :: r => some (r.foldl (fun m j => if j < m then j else m) i)
theorem minI_fold : ∀ (r : List Int) (i : Int), let m := r.foldl (fun m j => if j < m then j else m) i; (m = i ∨ m ∈ r) ∧ m ≤ i ∧ ∀ y ∈ r, m ≤ y
  | [], i => ⟨.inl rfl, Int.le_refl _, fun _ h => by cases h⟩
  | j :: r, i => by
    have ih := minI_fold r (if j < i then j else i)
    dsimp only at ih ⊢
    rw [List.foldl_cons]
    obtain ⟨h1, h2, h3⟩ := ih
    by_cases c : j < i
    · rw [if_pos c] at h1 h2 h3 ⊢
      refine ⟨?_, by omega, fun y hy => ?_⟩
      · rcases h1 with h1 | h1
        · rw [h1]; exact .inr List.mem_cons_self
        · exact .inr (List.mem_cons_of_mem _ h1)
      · rcases List.mem_cons.mp hy with rfl | hy
        · exact h2
        · exact h3 y hy
    · rw [if_neg c] at h1 h2 h3 ⊢
      refine ⟨?_, h2, fun y hy => ?_⟩
      · rcases h1 with h1 | h1
        · exact .inl h1
        · exact .inr (List.mem_cons_of_mem _ h1)
      · rcases List.mem_cons.mp hy with rfl | hy
        · omega
        · exact h3 y hy
def minF : List D → Res D
  | [.list ds] => (match (intsOf ds).bind minI with
    | some m => .ok (.int m)
    | none => .bad)
  | _ => .bad
theorem o_minF {K : PySem.W.Frag} : OpN (rMin K) minF := by
  intro S H xs ds d Q ss r e q
  match ds, r, e with
  | [.list l], .cons (.lst ea r1) .nil, e =>
    unfold minF at e
    dsimp only at e
    cases z : intsOf l with
    | none => rw [z] at e; cases e
    | some ns =>
      rw [z] at e
      have e2 := intsOf_eq z
      subst e2
      have e3 := r1.intsOf
      subst e3
      cases ns with
      | nil => cases e
      | cons i r =>
        cases e
        have k := minI_fold r i
        dsimp only at k
        obtain ⟨k1, k2, k3⟩ := k
        refine ⟨_, i :: r, rfl, .of (ss _ _ ea), Nat.succ_pos _, fun m hm hy => ?_⟩
        have hi : i ∈ i :: r := List.mem_cons_self
        have e5 : m = r.foldl (fun m j => if j < m then j else m) i := by
          have a1 : m ≤ r.foldl (fun m j => if j < m then j else m) i := by
            rcases k1 with k1 | k1
            · rw [k1]; exact hy i hi
            · exact hy _ (List.mem_cons_of_mem _ k1)
          have a2 : r.foldl (fun m j => if j < m then j else m) i ≤ m := by
            rcases List.mem_cons.mp hm with rfl | hm
            · exact k2
            · exact k3 m hm
          omega
        rw [e5]
        exact q _ S H (.refl ss) (.int _)
def blsOf : List D → Option (List Bool)
  | [] => some []
  | .bool i :: r => (blsOf r).map (i :: ·)
  | _ :: _ => none
theorem blsOf_eq : ∀ {ds : List D} {ns : List Bool}, blsOf ds = some ns → ds = ns.map PyData.bool
  | [], ns, e => by cases e; rfl
  | .bool i :: r, ns, e => by
    unfold blsOf at e
    cases z : blsOf r with
    | none => rw [z] at e; cases e
    | some l =>
      rw [z] at e
      cases e
      rw [blsOf_eq z] <;> rfl
  | .none :: _, _, e => by cases e
  | .int _ :: _, _, e => by cases e
  | .str _ :: _, _, e => by cases e
  | .list _ :: _, _, e => by cases e
  | .tuple _ :: _, _, e => by cases e
  | .dict _ :: _, _, e => by cases e
def allF : List D → Res D
  | [.list ds] => (match blsOf ds with
    | some bs => .ok (.bool (bs.all id))
    | none => .bad)
  | _ => .bad
theorem o_allF {K : PySem.W.Frag} : OpN (rAll K) allF := by
  intro S H xs ds d Q ss r e q
  match ds, r, e with
  | [.list l], .cons (.lst ea r1) .nil, e =>
    unfold allF at e
    dsimp only at e
    cases z : blsOf l with
    | none => rw [z] at e; cases e
    | some bs =>
      rw [z] at e
      cases e
      have e2 := blsOf_eq z
      subst e2
      have e3 := r1.blsOf
      subst e3
      exact ⟨_, bs, rfl, .of (ss _ _ ea), q _ S H (.refl ss) (.bl _)⟩
/-! ### isinstance -/
def tyN : D → String
  | .none => "NoneType"
  | .bool _ => "bool"
  | .int _ => "int"
  | .str _ => "str"
  | .list _ => "list"
  | .tuple _ => "tuple"
  | .dict _ => "dict"
def isT (T : String) : D → Bool
  | .none => false
  | .bool _ => T == "bool" || T == "int"
  | .int _ => T == "int"
  | .str _ => T == "str"
  | .list _ => T == "list"
  | .tuple _ => T == "tuple"
  | .dict _ => false
def knownT (T : String) : Bool := T == "bool" || T == "int" || T == "str" || T == "list" || T == "tuple"
theorem kit_all {T : String} (h : knownT T = true) {K : PySem.W.Frag} : ∀ d : D, (∀ l, d ≠ .dict l) → PySem.W.kitOne K (.type (tyN d)) (.type T) = some (isT T d) := by
  have hT : T = "bool" ∨ T = "int" ∨ T = "str" ∨ T = "list" ∨ T = "tuple" := by
    simp only [knownT, Bool.or_eq_true, beq_iff_eq] at h
    rcases h with (((h | h) | h) | h) | h
    · exact .inl h
    · exact .inr (.inl h)
    · exact .inr (.inr (.inl h))
    · exact .inr (.inr (.inr (.inl h)))
    · exact .inr (.inr (.inr (.inr h)))
  intro d hd
  have k : ∀ {s : String} {r : Bool}, kitB s T = some r → PySem.W.kitOne K (.type s) (.type T) = some r := kit_ty
  rcases hT with rfl | rfl | rfl | rfl | rfl <;> cases d <;> first
    | (refine k ?_; show kitB _ _ = some (_ : Bool); simp only [isT, tyN]; decide +kernel)
    | exact (hd _ rfl).elim
theorem Rp.ty {K : PySem.W.Frag} {S H : Hp} {v : V} (ss : Same S H) : ∀ {d : D}, Rp S v d → TyX K H v (.type (tyN d))
  | .none, r => by cases r; exact .base .non
  | .bool _, r => by cases r; exact .base (.bl _)
  | .int _, r => by cases r; exact .base (.int _)
  | .str _, r => by cases r; exact .base (.str _)
  | .list _, r => by
    cases r with
    | lst e _ => exact .base (.lst (ss _ _ e))
  | .tuple _, r => by
    cases r with
    | tup e _ => exact .base (.tup (ss _ _ e))
  | .dict _, r => by cases r
theorem Rp.nodict {S : Hp} {v : V} {d : D} (r : Rp S v d) (l : List (D × D)) : d ≠ .dict l := by
  intro z; subst z; cases r
def eIs (T : String) (fa : EF) : EF := fun ρ => (fa ρ).bind fun a => .ok (.bool (isT T a.1), a.2)
def eIs2 (T T' : String) (fa : EF) : EF := fun ρ => (fa ρ).bind fun a => .ok (.bool (isT T a.1 || isT T' a.1), a.2)
theorem pd_is (T : String) {y : Str} {p2 : Pos} (ha : PD X C W a fa) (hm : X.mg "isinstance" = none) (hmT : X.mg y = none) (hv : bootBuiltins y = some (.type T)) (hT : knownT T = true := by decide +kernel)
    (hgl : Gl X "isinstance" := by rfl) (hgT : Gl X y := by rfl) (hn : y ≠ "__name__" := by decide) (hdb : (y == ("__debug__" : Str)) = false := by decide)
    (he : starEach [a, .Name y p2] X.env = (false, eval a X.env) :: starEach [.Name y p2] X.env := by rfl) (he2 : starEach [.Name y p2] X.env = (false, eval (.Name y p2) X.env) :: starEach [] X.env := by rfl)
    (hpl : (backTo pos (starEach [.Name y p2] X.env)).any (·.1) = false := by rfl) : PD X C W (.Call (.Name "isinstance" p) [a, .Name y p2] [] pos) (eIs T fa) :=
  pd_of (pe_callB call_isi hgl hm boot_isinstance (pa_cons ha (pa_cons (pe_bltn (v := .ty T) hgT hmT hv rfl hn hdb) pa_nil he2) he) (by decide) (by decide) he hpl) fun S H σ ρ Q L p =>
    ⟨S, ρ, L, p.seq fun d ρ1 _ p1 => fun v S1 H1 g1 r1 => ⟨v, .ty T, _, _, _, rfl, .ty T, r1.ty g1.lk.sub, kit_all hT d r1.nodict, p1 _ S1 H1 g1 (.bl _)⟩⟩
theorem pd_is2 (T T' : String) {y y' : Str} {k : Nat} {p2 p3 p4 : Pos} (ha : PD X C W a fa) (hm : X.mg "isinstance" = none) (hmT : X.mg y = none) (hv : bootBuiltins y = some (.type T)) (hmT' : X.mg y' = none) (hv' : bootBuiltins y' = some (.type T')) (hT : knownT T = true := by decide +kernel) (hT' : knownT T' = true := by decide +kernel)
    (hgl : Gl X "isinstance" := by rfl) (hgT : Gl X y := by rfl) (hn : y ≠ "__name__" := by decide) (hdb : (y == ("__debug__" : Str)) = false := by decide) (hgT' : Gl X y' := by rfl) (hn' : y' ≠ "__name__" := by decide) (hdb' : (y' == ("__debug__" : Str)) = false := by decide)
    (he : starEach [a, .Tuple [.Name y p2, .Name y' p3] k p4] X.env = (false, eval a X.env) :: starEach [.Tuple [.Name y p2, .Name y' p3] k p4] X.env := by rfl) (he2 : starEach [.Tuple [.Name y p2, .Name y' p3] k p4] X.env = (false, eval (.Tuple [.Name y p2, .Name y' p3] k p4) X.env) :: starEach [] X.env := by rfl)
    (he3 : starEach [.Name y p2, .Name y' p3] X.env = (false, eval (.Name y p2) X.env) :: starEach [.Name y' p3] X.env := by rfl) (he4 : starEach [.Name y' p3] X.env = (false, eval (.Name y' p3) X.env) :: starEach [] X.env := by rfl)
    (hpl : (backTo pos (starEach [.Tuple [.Name y p2, .Name y' p3] k p4] X.env)).any (·.1) = false := by rfl) : PD X C W (.Call (.Name "isinstance" p) [a, .Tuple [.Name y p2, .Name y' p3] k p4] [] pos) (eIs2 T T' fa) :=
  pd_of (pe_callB call_isiT hgl hm boot_isinstance (pa_cons ha (pa_cons (pe_tup (pa_cons (pe_bltn (v := .ty T) hgT hmT hv rfl hn hdb) (pa_cons (pe_bltn (v := .ty T') hgT' hmT' hv' rfl hn' hdb') pa_nil he4) he3)) pa_nil he2) he) (by decide) (by decide) he hpl) fun S H σ ρ Q L p =>
    ⟨S, ρ, L, p.seq fun d ρ1 _ p1 => fun v S1 H1 g1 r1 => ⟨by show 2 ≤ sizeLine; decide, fun q hq => by
      have ad := Adv.lay (o := .tup [V.ty T, V.ty T']) g1.lk.sub hq
      have r2 := r1.up ad.ss
      have k1 := kit_all (K := X.K) hT d r1.nodict
      have k2 := kit_all (K := X.K) hT' d r1.nodict
      refine ⟨v, q, _, _, [.type T, .type T'], isT T d || isT T' d, rfl, upd_same, .cons (.ty T) (.cons (.ty T') .nil), r2.ty ad.sh, ?_, p1 _ S1 _ (g1.trans (.of0 g1.lk ad)) (.bl _)⟩
      refine kitAny_cons k1 (fun z => ?_) (fun z => by rw [z]; rfl)
      rw [z, Bool.false_or]
      exact kitAny_cons k2 (fun w => by rw [w]; exact kitAny_nil) (fun w => w)⟩⟩
end
end GN

set_option Elab.async false
set_option linter.all false
set_option maxRecDepth 100000
set_option maxHeartbeats 4000000
/-! G5: statements, targets, own lists stored and changed. -/
namespace GN
open PySem PySem.Spec PyProof.Rows L2
inductive Fl where
  | nx
  | bk
  | ct
  | rt (d : D)
  | ro (ds : List D)
abbrev SF := En → Res (Fl × En)
def KS (S H : Hp) (σ : St) (ρ : En) (Dn : Ends) : Fl → En → Prop := fun f ρ' => match f with
  | .nx => ∀ (S' H' : Hp) (σ' : St), Go S H σ ρ S' H' σ' ρ' → Dn.nx σ' H'
  | .bk => ∀ (S' H' : Hp) (σ' : St), Go S H σ ρ S' H' σ' ρ' → Dn.bk σ' H'
  | .ct => ∀ (S' H' : Hp) (σ' : St), Go S H σ ρ S' H' σ' ρ' → Dn.ct σ' H'
  | .rt d => ∀ (v : V) (S' H' : Hp) (σ' : St), Go S H σ ρ S' H' σ' ρ' → Rp S' v d → Dn.rt v H'
  | .ro ds => ∀ (p : Addr) (us : List V) (S' H' : Hp) (σ' : St), Go S H σ ρ S' H' σ' ρ' → H' p = some (.lst us) → RpAll S' us ds → S' p = none → (H p = none ∨ Ow σ ρ p) → Dn.rt (.ref p) H'
def tS (C : XC) (W : WX) (f : SF) : TS := fun Dn σ H => ∃ S ρ, Lk S H σ ρ ∧ Post C W S H σ ρ (f ρ) (KS S H σ ρ Dn)
abbrev PSD (X : Cx) (C : XC) (W : WX) (st : Stmt) (f : SF) : Prop := PS X st (tS C W f)
abbrev PSSD (X : Cx) (C : XC) (W : WX) (st : List Stmt) (f : SF) : Prop := PSs X st (tS C W f)
theorem PS.imp {X : Cx} {st : Stmt} {t t' : TS} (h : PS X st t) (i : ∀ D σ H, t' D σ H → t D σ H) : PS X st t' := ⟨fun pins s σ H D I hw => h.run pins s σ H D I (i _ _ _ hw)⟩
theorem PSs.imp {X : Cx} {st : List Stmt} {t t' : TS} (h : PSs X st t) (i : ∀ D σ H, t' D σ H → t D σ H) : PSs X st t' := ⟨fun pins s σ H D I hw => h.run pins s σ H D I (i _ _ _ hw)⟩
section
variable {C : XC} {W : WX} {S H S1 H1 : Hp} {σ σ1 : St} {ρ ρ1 : En}
theorem KS.shift {Dn : Ends} (g : Go S H σ ρ S1 H1 σ1 ρ1) {f : Fl} {ρ' : En} (k : KS S H σ ρ Dn f ρ') : KS S1 H1 σ1 ρ1 Dn f ρ' := by
  cases f with
  | nx => exact fun S' H' σ' g' => k S' H' σ' (g.trans g')
  | bk => exact fun S' H' σ' g' => k S' H' σ' (g.trans g')
  | ct => exact fun S' H' σ' g' => k S' H' σ' (g.trans g')
  | rt d => exact fun v S' H' σ' g' r => k v S' H' σ' (g.trans g') r
  | ro ds => exact fun p us S' H' σ' g' e1 e2 e3 e4 => k p us S' H' σ' (g.trans g') e1 e2 e3 (e4.elim (fun z => .inl (g.adv.dm p z)) fun z => (g.ow p z).elim .inr .inl)
theorem Post.s {r : Res (Fl × En)} {Dn : Ends} (g : Go S H σ ρ S1 H1 σ1 ρ1) (h : Post C W S H σ ρ r (KS S H σ ρ Dn)) : Post C W S1 H1 σ1 ρ1 r (KS S1 H1 σ1 ρ1 Dn) :=
  h.shift g fun _ _ k => k.shift g
end
def sSkip : SF := fun ρ => .ok (.nx, ρ)
def sBad : SF := fun _ => .bad
def sSeq (f g : SF) : SF := fun ρ => (f ρ).bind fun a => match a.1 with
  | .nx => g a.2
  | .bk => .ok (.bk, a.2)
  | .ct => .ok (.ct, a.2)
  | .rt d => .ok (.rt d, a.2)
  | .ro ds => .ok (.ro ds, a.2)
def sCt : SF := fun ρ => .ok (.ct, ρ)
def sSet (i : Nat) (f : EF) : SF := fun ρ => (f ρ).bind fun a => .ok (.nx, a.2.set i (.val a.1))
def sSetO (i : Nat) (f : LF) : SF := fun ρ => (f ρ).bind fun a => .ok (.nx, a.2.set i (.own a.1))
def sRet (f : EF) : SF := fun ρ => (f ρ).bind fun a => .ok (.rt a.1, a.2)
def sRetO (f : LF) : SF := fun ρ => (f ρ).bind fun a => .ok (.ro a.1, a.2)
def sRetV (i : Nat) : SF := fun ρ => match ρ[i]? with
  | some (.own ds) => .ok (.ro ds, ρ)
  | _ => .bad
def sIf (t : TF) (f g : SF) : SF := fun ρ => (t ρ).bind fun k => if k.1 then f k.2 else g k.2
def sDrop (f : EF) : SF := fun ρ => (f ρ).bind fun a => .ok (.nx, a.2)
/-- x.append(e), x an own list -/
def sApp (i : Nat) (f : EF) : SF := fun ρ => match ρ[i]? with
  | some (.own _) => (f ρ).bind fun a => match a.2[i]? with
    | some (.own ds) => if few ds.length then .ok (.nx, a.2.set i (.own (ds ++ [a.1]))) else .bad
    | _ => .bad
  | _ => .bad
/-- x[j] = e, x an own list -/
def sPut (i : Nat) (fj fe : EF) : SF := fun ρ => (fe ρ).bind fun a => match a.2[i]? with
  | some (.own _) => (fj a.2).bind fun j => match j.1 with
    | .int k => (match j.2[i]? with
      | some (.own ds) => (match ixN ds.length k with
        | some n => .ok (.nx, j.2.set i (.own (ds.set n a.1)))
        | none => .bad)
      | _ => .bad)
    | _ => .bad
  | _ => .bad
section
variable {X : Cx} {C : XC} {W : WX} {pos : Pos} {st : Stmt} {rest : List Stmt} {f g : SF} {e : Expr} {fe : EF} {fo : LF}
theorem pss_n : PSSD X C W [] sSkip := PSs.imp pss_nil fun Dn σ H ⟨S, ρ, L, p⟩ => p S H σ (.refl L)
theorem ends_seq {S H : Hp} {σ : St} {ρ : En} {Dn : Ends} (p : Post C W S H σ ρ (sSeq f g ρ) (KS S H σ ρ Dn)) : Post C W S H σ ρ (f ρ) (KS S H σ ρ { Dn with nx := tS C W g Dn }) :=
  p.seq fun a ρ1 _ p1 => by
    cases a with
    | nx => exact fun S1 H1 σ1 g1 => ⟨S1, ρ1, g1.lk, Post.s g1 p1⟩
    | bk => exact p1
    | ct => exact p1
    | rt d => exact p1
    | ro ds => exact p1
theorem pss_c (h1 : PSD X C W st f) (h2 : PSSD X C W rest g) : PSSD X C W (st :: rest) (sSeq f g) :=
  PSs.imp (pss_cons h1 h2) fun Dn σ H ⟨S, ρ, L, p⟩ => ⟨S, ρ, L, ends_seq p⟩
theorem pss_1 (h1 : PSD X C W st f) : PSSD X C W [st] f := pss_one h1
/-- what is never come to -/
theorem ps_bad : PSD X C W st sBad := PS.imp ps_never fun Dn σ H ⟨S, ρ, L, p⟩ => p.elim
theorem pss_bad {sts : List Stmt} : PSSD X C W sts sBad := PSs.imp pss_never fun Dn σ H ⟨S, ρ, L, p⟩ => p.elim
theorem ps_ct : PSD X C W (.Continue pos) sCt := PS.imp ps_continue fun Dn σ H ⟨S, ρ, L, p⟩ => p S H σ (.refl L)
theorem ps_s (i : Nat) {x : Str} {px : Pos} (he : PD X C W e fe) (hN : X.N.Nodup) (hi : X.N[i]? = some x := by rfl) (hx : Loc X.env.scope x := by first | exact Or.inl rfl | exact Or.inr rfl) (hs : swapsWith e (some (.Name x px)) pos.line X.env = pure false := by rfl)
    (hf : X.fn x = true ∨ X.env.scope.names.lookup x = some .local := by first | exact .inl rfl | exact .inr rfl) : PSD X C W (.Assign [.Name x px] e pos) (sSet i fe) :=
  PS.imp (ps_set hN hi hx he hs hf) fun Dn σ H ⟨S, ρ, L, p⟩ => ⟨S, ρ, L, p.seq fun d ρ1 _ p1 => fun v S1 H1 g1 r1 => p1 S1 H1 _ (g1.setV r1)⟩
theorem ps_o (i : Nat) {x : Str} {px : Pos} (he : POD X C W e fo) (hN : X.N.Nodup) (hi0 : i ≠ 0 := by decide) (hi : X.N[i]? = some x := by rfl) (hx : Loc X.env.scope x := by first | exact Or.inl rfl | exact Or.inr rfl) (hs : swapsWith e (some (.Name x px)) pos.line X.env = pure false := by rfl)
    (hf : X.fn x = true ∨ X.env.scope.names.lookup x = some .local := by first | exact .inl rfl | exact .inr rfl) : PSD X C W (.Assign [.Name x px] e pos) (sSetO i fo) :=
  PS.imp (ps_set hN hi hx he hs hf) fun Dn σ H ⟨S, ρ, L, p⟩ => ⟨S, ρ, L, p.seq fun ds ρ1 _ p1 => fun q us S1 H1 g1 h1 r1 hs h0 hn => p1 S1 H1 _ (g1.setO h1 r1 hs hn h0 hi0)⟩
theorem ps_r (he : PD X C W e fe) : PSD X C W (.Return (some e) pos) (sRet fe) :=
  PS.imp (ps_ret he) fun Dn σ H ⟨S, ρ, L, p⟩ => ⟨S, ρ, L, p.seq fun d ρ1 _ p1 => fun v S1 H1 g1 r1 => p1 v S1 H1 σ g1 r1⟩
theorem ps_ro (he : POD X C W e fo) : PSD X C W (.Return (some e) pos) (sRetO fo) :=
  PS.imp (ps_ret he) fun Dn σ H ⟨S, ρ, L, p⟩ => ⟨S, ρ, L, p.seq fun ds ρ1 _ p1 => fun q us S1 H1 g1 h1 r1 hs h0 hn => p1 q us S1 H1 σ g1 h1 r1 hs (.inl h0)⟩
theorem ps_rv (i : Nat) {x : Str} {px : Pos} (hN : X.N[i]? = some x := by rfl) (hv : Vis X.env.scope x := by first | exact Or.inl rfl | exact Or.inr (Or.inl rfl) | exact Or.inr (Or.inr rfl)) (hd : (x == ("__debug__" : Str)) = false := by decide)
    (hcd : (x == ("__classdict__" : Str)) = false := by decide) : PSD X C W (.Return (some (.Name x px)) pos) (sRetV i) :=
  PS.imp (ps_ret (pe_var hN hv hd hcd)) fun Dn σ H ⟨S, ρ, L, p⟩ => by
    unfold sRetV at p
    cases z : ρ[i]? with
    | none => rw [z] at p; exact p.elim
    | some s =>
      rw [z] at p
      cases s with
      | no => exact p.elim
      | val d => exact p.elim
      | own ds =>
        obtain ⟨q, us, h1, h2, h3, h4⟩ := L.owns i ds z
        exact ⟨_, h1, p q us S H σ (.refl L) h2 h3 h4 (.inr ⟨i, ds, z, h1⟩)⟩
theorem ps_i {c : Expr} {a b : List Stmt} {t : TF} (hc : PTD X C W c t) (ha : PSSD X C W a f) (hb : PSSD X C W b g) : PSD X C W (.If c a b pos) (sIf t f g) :=
  PS.imp (ps_if hc ha hb) fun Dn σ H ⟨S, ρ, L, p⟩ => ⟨S, ρ, L, p.seq fun k ρ1 _ p1 => fun S1 H1 g1 => by
    cases k with
    | true => exact iteT ⟨S1, ρ1, g1.lk, Post.s g1 p1⟩
    | false => exact iteF ⟨S1, ρ1, g1.lk, Post.s g1 p1⟩⟩
theorem ps_x (he : PD X C W e fe) (hs : swapsWith e none pos.line X.env = pure false := by rfl) : PSD X C W (.Expr e pos) (sDrop fe) :=
  PS.imp (ps_expr he hs) fun Dn σ H ⟨S, ρ, L, p⟩ => ⟨S, ρ, L, p.seq fun d ρ1 _ p1 => fun v S1 H1 g1 r1 => p1 S1 H1 σ g1⟩
/-! ### own lists -/
theorem ps_app (i : Nat) {x : Str} {px apos cpos : Pos} (he : PD X C W e fe) (hN : X.N[i]? = some x := by rfl) (hv : Vis X.env.scope x := by first | exact Or.inl rfl | exact Or.inr (Or.inl rfl) | exact Or.inr (Or.inr rfl)) (hd : (x == ("__debug__" : Str)) = false := by decide)
    (hcd : (x == ("__classdict__" : Str)) = false := by decide) (hbase : attributeBase (.Name x px) "append" X.env (eval (.Name x px) X.env) = eval (.Name x px) X.env := by rfl)
    (hfew : ((backTo cpos (starEach [e] X.env)).all (fun x => !x.1) && (backToKw cpos (keywordEach [] X.env)).all (fun x => x.1.isSome)
      && decide ([e].length + ([] : List Keyword).length + (if ([] : List Keyword).isEmpty then 0 else 1) < 30)) = true := by rfl)
    (hline : (apos.endLine == cpos.line) = true := by rfl) (hs : starEach [e] X.env = (false, eval e X.env) :: starEach [] X.env := by rfl) (hplain : (backTo cpos (starEach [] X.env)).any (·.1) = false := by rfl)
    (hsw : swapsWith (.Call (.Attribute (.Name x px) "append" apos) [e] [] cpos) none pos.line X.env = pure false := by rfl) :
    PSD X C W (.Expr (.Call (.Attribute (.Name x px) "append" apos) [e] [] cpos) pos) (sApp i fe) :=
  PS.imp (ps_expr (pe_bm PySem.F.plainAttrs_list PySem.F.slot_list_append PySem.F.type_list_append mt_append (pe_var hN hv hd hcd) (pa_cons he pa_nil hs) hbase hfew hline hs hplain) hsw) fun Dn σ H ⟨S, ρ, L, p⟩ => by
    unfold sApp at p
    cases z : ρ[i]? with
    | none => rw [z] at p; exact p.elim
    | some s =>
      rw [z] at p
      cases s with
      | no => exact p.elim
      | val d => exact p.elim
      | own ds0 =>
        obtain ⟨q, us0, h1, h2, _⟩ := L.owns i ds0 z
        refine ⟨_, h1, .inl ⟨rfl, us0, .of h2⟩, S, ρ, L, p.seq fun d ρ1 _ p1 => fun v S1 H1 g1 r1 => ?_⟩
        dsimp only at p1
        cases z1 : ρ1[i]? with
        | none => rw [z1] at p1; exact p1.elim
        | some s =>
          rw [z1] at p1
          cases s with
          | no => exact p1.elim
          | val d => exact p1.elim
          | own ds =>
            obtain ⟨q', us, f1, f2, f3, f4⟩ := g1.lk.owns i ds z1
            rw [h1] at f1; cases f1
            dsimp only at p1
            cases hf : few ds.length with
            | false => rw [hf] at p1; exact p1.elim
            | true =>
              rw [hf] at p1
              refine ⟨_, us, v, rfl, rfl, f2, few_line (by rw [f3.length]; exact hf), ?_⟩
              exact p1 S1 _ σ (g1.trans (Go.change g1.lk z1 h1 (Adv.write g1.lk.sub f4) upd_same (f3.append (.cons r1 .nil)) f4))
theorem ps_put (i : Nat) {x : Str} {px tpos : Pos} {j : Expr} {fj : EF} (hj : PD X C W j fj) (he : PD X C W e fe) (hN : X.N[i]? = some x := by rfl) (hv : Vis X.env.scope x := by first | exact Or.inl rfl | exact Or.inr (Or.inl rfl) | exact Or.inr (Or.inr rfl)) (hd : (x == ("__debug__" : Str)) = false := by decide)
    (hcd : (x == ("__classdict__" : Str)) = false := by decide)
    (ha : ∀ v, assign (.Subscript (.Name x px) j tpos) X.env v = (do
      let ov ← holding [v] (eval (.Name x px) X.env)
      let iv ← holding [v, ov] (eval j X.env)
      standAt tpos
      holding [v, ov, iv] (setItem ov iv v)
      release [v, ov, iv] []) := by intro _; rfl)
    (hs : swapsWithSole [.Subscript (.Name x px) j tpos] e pos.line X.env = pure false := by rfl) (hw : swappedStores [.Subscript (.Name x px) j tpos] e X.env = pure none := by rfl)
    (h1 : (assignEach [.Subscript (.Name x px) j tpos] X.env).map (·.2) = [assign (.Subscript (.Name x px) j tpos) X.env] := by rfl) : PSD X C W (.Assign [.Subscript (.Name x px) j tpos] e pos) (sPut i fj fe) :=
  PS.imp (ps_asg he (pg_sub (pe_var hN hv hd hcd) hj set_list ha) hs hw h1) fun Dn σ H ⟨S, ρ, L, p⟩ => ⟨S, ρ, L, p.seq fun d ρ1 _ p1 => fun v S1 H1 g1 r1 => by
    dsimp only at p1
    cases z : ρ1[i]? with
    | none => rw [z] at p1; exact p1.elim
    | some s =>
      rw [z] at p1
      cases s with
      | no => exact p1.elim
      | val d => exact p1.elim
      | own ds0 =>
        obtain ⟨q, us0, f1, _⟩ := g1.lk.owns i ds0 z
        refine ⟨_, f1, S1, ρ1, g1.lk, (Post.s g1 p1).seq fun jd ρ2 _ p2 => fun u S2 H2 g2 r2 => ?_⟩
        have p3 := Post.s g2 p2
        dsimp only at p3
        cases jd with
        | int k =>
          cases r2
          dsimp only at p3
          cases z2 : ρ2[i]? with
          | none => rw [z2] at p3; exact p3.elim
          | some s =>
            rw [z2] at p3
            cases s with
            | no => exact p3.elim
            | val d => exact p3.elim
            | own ds =>
              obtain ⟨q', us, y1, y2, y3, y4⟩ := g2.lk.owns i ds z2
              rw [f1] at y1; cases y1
              dsimp only at p3
              cases hk : ixN ds.length k with
              | none => rw [hk] at p3; exact p3.elim
              | some n =>
                rw [hk] at p3
                refine ⟨_, us, k, n, rfl, rfl, y2, by rw [y3.length]; exact hk, ?_⟩
                exact p3 S2 _ σ (Go.change g2.lk z2 f1 (Adv.write g2.lk.sub y4) upd_same (RpAll.set (r1.up g2.adv.ss) n y3) y4)
        | none => exact p3.elim
        | bool _ => exact p3.elim
        | str _ => exact p3.elim
        | list _ => exact p3.elim
        | tuple _ => exact p3.elim
        | dict _ => exact p3.elim⟩
/-! asked within an expression -/
def eLenO (i : Nat) : EF := fun ρ => match ρ[i]? with
  | some (.own ds) => .ok (.int ds.length, ρ)
  | _ => .bad
theorem pd_lenO (i : Nat) {x : Str} {p px : Pos} (hm : X.mg "len" = none) (hgl : Gl X "len" := by rfl) (hN : X.N[i]? = some x := by rfl) (hv : Vis X.env.scope x := by first | exact Or.inl rfl | exact Or.inr (Or.inl rfl) | exact Or.inr (Or.inr rfl)) (hd : (x == ("__debug__" : Str)) = false := by decide)
    (hcd : (x == ("__classdict__" : Str)) = false := by decide)
    (he : starEach [.Name x px] X.env = (false, eval (.Name x px) X.env) :: starEach [] X.env := by rfl) (hpl : (backTo pos (starEach [] X.env)).any (·.1) = false := by rfl) : PD X C W (.Call (.Name "len" p) [.Name x px] [] pos) (eLenO i) :=
  pd_of (pe_callB call_len hgl hm PySem.boot_len (pa_cons (pe_var hN hv hd hcd) pa_nil he) (by decide) (by decide) he hpl) fun S H σ ρ Q L p => by
    unfold eLenO at p
    cases z : ρ[i]? with
    | none => rw [z] at p; exact p.elim
    | some s =>
      rw [z] at p
      cases s with
      | no => exact p.elim
      | val d => exact p.elim
      | own ds =>
        obtain ⟨q, us, h1, h2, h3, h4⟩ := L.owns i ds z
        refine ⟨_, h1, _, _, rfl, .inl ⟨us, .of h2, rfl⟩, ?_⟩
        rw [h3.length]
        exact p _ S H (.refl L) (.int _)
/-- x != .., x == .., x an own list -/
def eEqO (neg : Bool) (i : Nat) (fb : EF) : EF := fun ρ => match ρ[i]? with
  | some (.own _) => (fb ρ).bind fun b => match b.2[i]? with
    | some (.own ds) => if SeqAt.shaped (.list ds) && SeqAt.shaped b.1 then .ok (.bool (if neg then !PyData.eqv (.list ds) b.1 else PyData.eqv (.list ds) b.1), b.2) else .bad
    | _ => .bad
  | _ => .bad
theorem eqO_of {r : R2} {neg : Bool} {fb : EF} {i : Nat} (hr : ∀ (x y : V) (H : Hp) (Q : VK) (d e : D), Dp X.K H x d → Dp X.K H y e → SeqAt.shaped d = true → SeqAt.shaped e = true → Q (.bl (if neg then !PyData.eqv d e else PyData.eqv d e)) H → r x y H Q)
    {S H : Hp} {σ : St} {ρ : En} {Q : VK} (L : Lk S H σ ρ) (p : Post C W S H σ ρ (eEqO neg i fb ρ) (KD S H σ ρ Q)) : tOp r (tVar i) (tD C W fb) σ H Q := by
  unfold eEqO at p
  cases z : ρ[i]? with
  | none => rw [z] at p; exact p.elim
  | some s =>
    rw [z] at p
    cases s with
    | no => exact p.elim
    | val d => exact p.elim
    | own ds0 =>
      obtain ⟨q, us0, h1, _⟩ := L.owns i ds0 z
      refine ⟨_, h1, S, ρ, L, p.seq fun b ρ1 _ p1 => fun v S1 H1 g1 r1 => ?_⟩
      dsimp only at p1
      cases z1 : ρ1[i]? with
      | none => rw [z1] at p1; exact p1.elim
      | some s =>
        rw [z1] at p1
        cases s with
        | no => exact p1.elim
        | val d => exact p1.elim
        | own ds =>
          obtain ⟨q', us, f1, f2, f3, f4⟩ := g1.lk.owns i ds z1
          rw [h1] at f1; cases f1
          dsimp only at p1
          cases hs : (SeqAt.shaped (.list ds) && SeqAt.shaped b) with
          | false => rw [hs] at p1; exact p1.elim
          | true =>
            rw [hs] at p1
            obtain ⟨s1, s2⟩ := Bool.and_eq_true_iff.mp hs
            exact hr _ _ _ _ _ _ (.lst (.of f2) (RpAll.dp g1.lk.sub ds us f3)) (Rp.dp g1.lk.sub b v r1) s1 s2 (p1 _ S1 H1 g1 (.bl _))
theorem pd_neO (i : Nat) {x : Str} {px : Pos} {b : Expr} {fb : EF} (hu : X.A.units + 64 < cLine) (hb : PD X C W b fb) (hN : X.N[i]? = some x := by rfl) (hv : Vis X.env.scope x := by first | exact Or.inl rfl | exact Or.inr (Or.inl rfl) | exact Or.inr (Or.inr rfl)) (hd : (x == ("__debug__" : Str)) = false := by decide)
    (hcd : (x == ("__classdict__" : Str)) = false := by decide) (hm : behindInMarks .NotEq b = false := by first | exact nomark _ | rfl) : PD X C W (.Compare (.Name x px) [.NotEq] [b] pos) (eEqO true i fb) :=
  pd_of (pe_cmpR (op_neD hu) (pe_var hN hv hd hcd) hb hm) fun S H σ ρ Q L p => eqO_of (X := X) (neg := true) (fun x y H Q d e h1 h2 h3 h4 q => ⟨d, e, h1, h2, h3, h4, q⟩) L p
theorem pt_neO (i : Nat) {x : Str} {px : Pos} {b : Expr} {fb : EF} (hu : X.A.units + 64 < cLine) (hb : PD X C W b fb) (hN : X.N[i]? = some x := by rfl) (hv : Vis X.env.scope x := by first | exact Or.inl rfl | exact Or.inr (Or.inl rfl) | exact Or.inr (Or.inr rfl)) (hd : (x == ("__debug__" : Str)) = false := by decide)
    (hcd : (x == ("__classdict__" : Str)) = false := by decide) (hm : behindInMarks .NotEq b = false := by first | exact nomark _ | rfl) : PTD X C W (.Compare (.Name x px) [.NotEq] [b] pos) (tB1 (eEqO true i fb)) :=
  PT.imp (pt_cmpR (op_neD hu) (pe_var hN hv hd hcd) hb hm) fun σ H Q ⟨S, ρ, L, p⟩ => by
    obtain ⟨S1, ρ1, L1, q⟩ := val_of (t := tD C W (eEqO true i fb)) L p
    exact eqO_of (X := X) (neg := true) (fun x y H Q d e h1 h2 h3 h4 q => ⟨d, e, h1, h2, h3, h4, q⟩) L1 q
/-- x.pop(), x an own list -/
def ePop (i : Nat) : EF := fun ρ => match ρ[i]? with
  | some (.own ds) => (match ds[ds.length - 1]? with
    | some d => .ok (d, ρ.set i (.own ds.dropLast))
    | none => .bad)
  | _ => .bad
theorem pd_pop (i : Nat) {x : Str} {px apos cpos : Pos} (hN : X.N[i]? = some x := by rfl) (hv : Vis X.env.scope x := by first | exact Or.inl rfl | exact Or.inr (Or.inl rfl) | exact Or.inr (Or.inr rfl)) (hd : (x == ("__debug__" : Str)) = false := by decide)
    (hcd : (x == ("__classdict__" : Str)) = false := by decide) (hbase : attributeBase (.Name x px) "pop" X.env (eval (.Name x px) X.env) = eval (.Name x px) X.env := by rfl) (hline : (apos.endLine == cpos.line) = true := by rfl) :
    PD X C W (.Call (.Attribute (.Name x px) "pop" apos) [] [] cpos) (ePop i) :=
  pd_of (pe_bm0 PySem.F.plainAttrs_list PySem.F.slot_list_pop PySem.F.type_list_pop mt_pop (pe_var hN hv hd hcd) hbase hline) fun S H σ ρ Q L p => by
    unfold ePop at p
    cases z : ρ[i]? with
    | none => rw [z] at p; exact p.elim
    | some s =>
      rw [z] at p
      cases s with
      | no => exact p.elim
      | val d => exact p.elim
      | own ds =>
        obtain ⟨q, us, h1, h2, h3, h4⟩ := L.owns i ds z
        dsimp only at p
        cases hl : ds[ds.length - 1]? with
        | none => rw [hl] at p; exact p.elim
        | some d =>
          rw [hl] at p
          obtain ⟨v, y1, y2⟩ := h3.get hl
          refine ⟨_, h1, .inl ⟨rfl, us, .of h2⟩, _, us, v, rfl, rfl, h2, by rw [h3.length]; exact y1, ?_⟩
          exact p v S _ (Go.change L z h1 (Adv.write L.sub h4) upd_same h3.dropLast h4) y2
/-- x.pop(j), x an own list -/
def ePopA (i : Nat) (fj : EF) : EF := fun ρ => match ρ[i]? with
  | some (.own _) => (fj ρ).bind fun j => match j.1 with
    | .int k => (match j.2[i]? with
      | some (.own ds) => if 0 ≤ k ∧ k < 100000 then (match ds[k.toNat]? with
        | some d => .ok (d, j.2.set i (.own (ds.eraseIdx k.toNat)))
        | none => .bad) else .bad
      | _ => .bad)
    | _ => .bad
  | _ => .bad
theorem pd_popA (i : Nat) {x : Str} {px apos cpos : Pos} {j : Expr} {fj : EF} (hj : PD X C W j fj) (hN : X.N[i]? = some x := by rfl) (hv : Vis X.env.scope x := by first | exact Or.inl rfl | exact Or.inr (Or.inl rfl) | exact Or.inr (Or.inr rfl)) (hd : (x == ("__debug__" : Str)) = false := by decide)
    (hcd : (x == ("__classdict__" : Str)) = false := by decide) (hbase : attributeBase (.Name x px) "pop" X.env (eval (.Name x px) X.env) = eval (.Name x px) X.env := by rfl)
    (hfew : ((backTo cpos (starEach [j] X.env)).all (fun x => !x.1) && (backToKw cpos (keywordEach [] X.env)).all (fun x => x.1.isSome)
      && decide ([j].length + ([] : List Keyword).length + (if ([] : List Keyword).isEmpty then 0 else 1) < 30)) = true := by rfl)
    (hline : (apos.endLine == cpos.line) = true := by rfl) (hs : starEach [j] X.env = (false, eval j X.env) :: starEach [] X.env := by rfl) (hplain : (backTo cpos (starEach [] X.env)).any (·.1) = false := by rfl) :
    PD X C W (.Call (.Attribute (.Name x px) "pop" apos) [j] [] cpos) (ePopA i fj) :=
  pd_of (pe_bm PySem.F.plainAttrs_list PySem.F.slot_list_pop PySem.F.type_list_pop mt_popAt (pe_var hN hv hd hcd) (pa_cons hj pa_nil hs) hbase hfew hline hs hplain) fun S H σ ρ Q L p => by
    unfold ePopA at p
    cases z : ρ[i]? with
    | none => rw [z] at p; exact p.elim
    | some s =>
      rw [z] at p
      cases s with
      | no => exact p.elim
      | val d => exact p.elim
      | own ds0 =>
        obtain ⟨q, us0, h1, h2, _⟩ := L.owns i ds0 z
        refine ⟨_, h1, .inl ⟨rfl, us0, .of h2⟩, S, ρ, L, p.seq fun d ρ1 _ p1 => fun v S1 H1 g1 r1 => ?_⟩
        dsimp only at p1
        cases d with
        | int k =>
          cases r1
          dsimp only at p1
          cases z1 : ρ1[i]? with
          | none => rw [z1] at p1; exact p1.elim
          | some s =>
            rw [z1] at p1
            cases s with
            | no => exact p1.elim
            | val d => exact p1.elim
            | own ds =>
              obtain ⟨q', us, f1, f2, f3, f4⟩ := g1.lk.owns i ds z1
              rw [h1] at f1; cases f1
              dsimp only at p1
              by_cases hk : 0 ≤ k ∧ k < 100000
              · rw [if_pos hk] at p1
                cases hl : ds[k.toNat]? with
                | none => rw [hl] at p1; exact p1.elim
                | some d =>
                  rw [hl] at p1
                  obtain ⟨v, y1, y2⟩ := f3.get hl
                  have hlt : k.toNat < us.length := (List.getElem?_eq_some_iff.mp y1).1
                  have hix : ixN us.length k = some k.toNat := by
                    unfold ixN
                    rw [if_pos hk.1, if_pos (by omega)]
                  refine ⟨_, us, k, k.toNat, v, rfl, rfl, f2, by omega, by omega, (ixN_seq hix).1, y1, ?_⟩
                  exact p1 v S1 _ (g1.trans (Go.change g1.lk z1 h1 (Adv.write g1.lk.sub f4) upd_same (f3.erase _) f4)) y2
              · rw [if_neg hk] at p1; exact p1.elim
        | none => exact p1.elim
        | bool _ => exact p1.elim
        | str _ => exact p1.elim
        | list _ => exact p1.elim
        | tuple _ => exact p1.elim
        | dict _ => exact p1.elim
end
end GN

set_option Elab.async false
set_option linter.all false
set_option maxRecDepth 100000
set_option maxHeartbeats 4000000
/-! G6: targets, what is walked, for, list comprehensions. -/
namespace GN
open PySem PySem.Spec PyProof.Rows L2
/-! ### targets -/
abbrev GF := D → En → Option En
abbrev GsF := List D → En → Option En
def gN (i : Nat) : GF := fun d ρ => some (ρ.set i (.val d))
def gsN : GsF := fun ds ρ => match ds with
  | [] => some ρ
  | _ => none
def gsC (g : GF) (gs : GsF) : GsF := fun ds ρ => match ds with
  | d :: r => (g d ρ).bind (gs r)
  | [] => none
def gT (n : Nat) (gs : GsF) : GF := fun d ρ => match d with
  | .tuple ds => if ds.length = n then gs ds ρ else none
  | _ => none
theorem wipe_set {σ : St} {v : Option V} {i : Nat} : ∀ {vs : List Nat}, i ∈ vs → wipe (σ.set i v) vs = wipe σ vs
  | j :: vs, h => by
    unfold wipe
    by_cases hm : i ∈ vs
    · rw [wipe_set hm]
    · have e : i = j := by
        rcases List.mem_cons.mp h with e | e
        · exact e
        · exact (hm e).elim
      subst e
      refine List.ext_getElem? fun k => ?_
      by_cases hk : i = k
      · subst hk
        by_cases hl : i < σ.length
        · rw [set_get (by rw [wipe_length, List.length_set]; exact hl), set_get (by rw [wipe_length]; exact hl)]
        · rw [List.getElem?_eq_none (by rw [List.length_set, wipe_length, List.length_set]; omega), List.getElem?_eq_none (by rw [List.length_set, wipe_length]; omega)]
      · rw [List.getElem?_set_ne hk, List.getElem?_set_ne hk]
        by_cases hkv : k ∈ vs
        · -- both wiped
          have go : ∀ {ws : List Nat} {τ υ : St}, k ∈ ws → τ.length = υ.length → (wipe τ ws)[k]? = (wipe υ ws)[k]? := by
            intro ws
            induction ws with
            | nil => intro τ υ h _; cases h
            | cons w ws ih =>
              intro τ υ h hl
              unfold wipe
              by_cases e : w = k
              · subst e
                by_cases hl2 : w < τ.length
                · rw [set_get (by rw [wipe_length]; exact hl2), set_get (by rw [wipe_length]; omega)]
                · rw [List.getElem?_eq_none (by rw [List.length_set, wipe_length]; omega), List.getElem?_eq_none (by rw [List.length_set, wipe_length]; omega)]
              · rw [List.getElem?_set_ne e, List.getElem?_set_ne e]
                rcases List.mem_cons.mp h with z | z
                · exact (e z.symm).elim
                · exact ih z hl
          exact go hkv (by rw [List.length_set])
        · rw [wipe_out hkv, wipe_out hkv, List.getElem?_set_ne hk]
def tG (g : GF) (vs : List Nat) : TG := fun v σ H Q => ∃ S ρ d, Lk S H σ ρ ∧ Rp S v d ∧ ∃ ρ', g d ρ = some ρ' ∧ ∀ σ', Go S H σ ρ S H σ' ρ' → wipe σ' vs = wipe σ vs → Q σ' H
def tGs (gs : GsF) (vs : List Nat) : TGs := fun us σ H Q => ∃ S ρ ds, Lk S H σ ρ ∧ RpAll S us ds ∧ ∃ ρ', gs ds ρ = some ρ' ∧ ∀ σ', Go S H σ ρ S H σ' ρ' → wipe σ' vs = wipe σ vs → Q σ' H
abbrev PGD (X : Cx) (e : Expr) (g : GF) (vs : List Nat) : Prop := PG X e (tG g vs)
abbrev PGsD (X : Cx) (es : List Expr) (g : GsF) (vs : List Nat) : Prop := PGs X es (tGs g vs)
theorem PG.imp {X : Cx} {e : Expr} {t t' : TG} (h : PG X e t) (i : ∀ v σ H Q, t' v σ H Q → t v σ H Q) : PG X e t' := ⟨fun pins s σ H v u Q I r hw => h.run pins s σ H v u Q I r (i _ _ _ _ hw)⟩
theorem PGs.imp {X : Cx} {e : List Expr} {t t' : TGs} (h : PGs X e t) (i : ∀ v σ H Q, t' v σ H Q → t v σ H Q) : PGs X e t' := ⟨fun pins s σ H v u Q I r hw => h.run pins s σ H v u Q I r (i _ _ _ _ hw)⟩
section
variable {X : Cx} {C : XC} {W : WX} {pos : Pos} {vs : List Nat}
theorem pg_n (i : Nat) {x : Str} (hN : X.N.Nodup) (hi : X.N[i]? = some x := by rfl) (hx : Loc X.env.scope x := by first | exact Or.inl rfl | exact Or.inr rfl) (hf : X.fn x = true ∨ X.env.scope.names.lookup x = some .local := by first | exact .inl rfl | exact .inr rfl) (hv : i ∈ vs := by decide) :
    PGD X (.Name x pos) (gN i) vs :=
  PG.imp (pg_name hN hi hx hf) fun v σ H Q ⟨S, ρ, d, L, r, ρ', e, k⟩ => by
    cases e
    exact k _ ((Go.refl L).setV r) (wipe_set hv)
theorem pgs_n : PGsD X [] gsN vs := PGs.imp pgs_nil fun us σ H Q ⟨S, ρ, ds, L, r, ρ', e, k⟩ => by
  cases r with
  | nil => cases e; exact ⟨rfl, k _ (.refl L) rfl⟩
  | cons a b => cases e
theorem pgs_c {e : Expr} {es : List Expr} {g : GF} {gs : GsF} (h1 : PGD X e g vs) (h2 : PGsD X es gs vs) (hs : (assignEach (e :: es) X.env).map (·.2) = assign e X.env :: (assignEach es X.env).map (·.2) := by rfl) : PGsD X (e :: es) (gsC g gs) vs :=
  PGs.imp (pgs_cons h1 h2 hs) fun us σ H Q ⟨S, ρ, ds, L, r, ρ', e, k⟩ => by
    cases r with
    | nil => cases e
    | @cons v vs' d ds' a b =>
      unfold gsC at e
      dsimp only at e
      cases z : g d ρ with
      | none => rw [z] at e; cases e
      | some ρ1 =>
        rw [z] at e
        exact ⟨v, _, rfl, S, ρ, d, L, a, ρ1, z, fun σ1 g1 w1 => ⟨S, ρ1, ds', g1.lk, b, ρ', e, fun σ2 g2 w2 => k σ2 (g1.trans g2) (w2.trans w1)⟩⟩
theorem pg_t {es : List Expr} {k n : Nat} {gs : GsF} (h : PGsD X es gs vs) (hc : X.calm = true := by rfl) (hn : (assignEach es X.env).length = n := by rfl) (hst : (assignEach es X.env).findIdx? (·.1) = none := by rfl) : PGD X (.Tuple es k pos) (gT n gs) vs :=
  PG.imp (pg_tup hc h hn hst) fun v σ H Q ⟨S, ρ, d, L, r, ρ', e, k⟩ => by
    cases d with
    | tuple ds =>
      unfold gT at e
      dsimp only at e
      split at e
      · rename_i hl
        cases r with
        | tup ea r =>
          exact ⟨_, _, rfl, .of (L.sub _ _ ea), by rw [r.length]; exact hl, S, ρ, ds, L, r, ρ', e, k⟩
      · cases e
    | _ => cases e
/-- target = value -/
def sAsg (g : GF) (f : EF) : SF := fun ρ => (f ρ).bind fun a => match g a.1 a.2 with
  | some ρ' => .ok (.nx, ρ')
  | none => .bad
theorem ps_a {tg e : Expr} {f : EF} {g : GF} (he : PD X C W e f) (hg : PGD X tg g vs) (hs : swapsWithSole [tg] e pos.line X.env = pure false := by rfl) (hw : swappedStores [tg] e X.env = pure none := by rfl)
    (h1 : (assignEach [tg] X.env).map (·.2) = [assign tg X.env] := by rfl) : PSD X C W (.Assign [tg] e pos) (sAsg g f) :=
  PS.imp (ps_asg he hg hs hw h1) fun Dn σ H ⟨S, ρ, L, p⟩ => ⟨S, ρ, L, p.seq fun d ρ1 _ p1 => fun v S1 H1 g1 r1 => by
    dsimp only at p1
    cases z : g d ρ1 with
    | none => rw [z] at p1; exact p1.elim
    | some ρ' =>
      rw [z] at p1
      exact ⟨S1, ρ1, d, g1.lk, r1, ρ', z, fun σ' g2 _ => p1 S1 H1 σ' (g1.trans g2)⟩⟩
/-! ### what is walked -/
def IterOk (J : It) (ds : List D) (S0 : Hp) : Prop := Walk J ds.length (fun H => Same S0 H) (fun i H x H' => ∀ S, Same S0 S → Same S H → ∃ S', Adv NoM S H S' H' ∧ ∃ d, ds[i]? = some d ∧ Rp S' x d)
def KI (S H : Hp) (σ : St) (ρ : En) (R : It → Hp → Prop) : List D → En → Prop := fun ds ρ' => ∀ (J : It) (S' H' : Hp), Go S H σ ρ S' H' σ ρ' → IterOk J ds S' → R J H'
def tI (C : XC) (W : WX) (f : LF) : TI := fun σ H R => ∃ S ρ, Lk S H σ ρ ∧ Post C W S H σ ρ (f ρ) (KI S H σ ρ R)
abbrev PID (X : Cx) (C : XC) (W : WX) (tg e : Expr) (f : LF) : Prop := PI X tg e (tI C W f)
theorem PI.imp {X : Cx} {tg e : Expr} {t t' : TI} (h : PI X tg e t) (i : ∀ σ H R, t' σ H R → t σ H R) : PI X tg e t' := ⟨fun pins s σ H R I hw => h.run pins s σ H R I (i _ _ _ hw)⟩
theorem iter_list {K : PySem.W.Frag} {a : Addr} {us : List V} {ds : List D} {S0 : Hp} (h : S0 a = some (.lst us)) (r : RpAll S0 us ds) : IterOk (Itl K a) ds S0 := by
  unfold IterOk
  rw [← r.length]
  refine walk_list.mono (fun H ss => .of (ss _ _ h)) fun i H x H' hi ss y S s1 s2 => ?_
  obtain ⟨rfl, e⟩ := y
  obtain ⟨d, e1, r1⟩ := r.getV e
  exact ⟨S, .refl s2, d, e1, r1.up s1⟩
theorem iter_tup {K : PySem.W.Frag} {a : Addr} {us : List V} {ds : List D} {S0 : Hp} (h : S0 a = some (.tup us)) (r : RpAll S0 us ds) : IterOk (Itt K a) ds S0 := by
  unfold IterOk
  rw [← r.length]
  refine walk_tup.mono (fun H ss => .of (ss _ _ h)) fun i H x H' hi ss y S s1 s2 => ?_
  obtain ⟨rfl, e⟩ := y
  obtain ⟨d, e1, r1⟩ := r.getV e
  exact ⟨S, .refl s2, d, e1, r1.up s1⟩
def iSeq (f : EF) : LF := fun ρ => (f ρ).bind fun a => match a.1 with
  | .list ds | .tuple ds => .ok (ds, a.2)
  | _ => .bad
/-- a list or a tuple -/
theorem pi_s {tg e : Expr} {f : EF} (h : PD X C W e f) : PID X C W tg e (iSeq f) := by
  refine ⟨fun pins s σ H R I ⟨S, ρ, L, p⟩ => ?_⟩
  cases z : f ρ with
  | ok a =>
    obtain ⟨d, ρ1⟩ := a
    unfold iSeq at p
    rw [z] at p
    cases d with
    | list ds =>
      refine (pi_list h).run pins s σ H R I ⟨S, ρ, L, ?_⟩
      rw [z]
      exact fun v S1 H1 g1 r1 => by
        cases r1 with
        | lst ea r =>
          exact ⟨_, rfl, ⟨_, .of (g1.lk.sub _ _ ea)⟩, p _ S1 H1 g1 (iter_list ea r)⟩
    | tuple ds =>
      refine (pi_tup h).run pins s σ H R I ⟨S, ρ, L, ?_⟩
      rw [z]
      exact fun v S1 H1 g1 r1 => by
        cases r1 with
        | tup ea r =>
          exact ⟨_, rfl, ⟨_, .of (g1.lk.sub _ _ ea)⟩, p _ S1 H1 g1 (iter_tup ea r)⟩
    | _ => exact p.elim
  | exc x =>
    unfold iSeq at p
    rw [z] at p
    refine (pi_list h).run pins s σ H R I ⟨S, ρ, L, ?_⟩
    rw [z]
    exact p
  | bad =>
    unfold iSeq at p
    rw [z] at p
    exact p.elim
def rngL (lo : Int) (n : Nat) : List D := (List.range n).map fun k => PyData.int (lo + (k : Nat))
theorem rngL_get {lo : Int} {n i : Nat} (h : i < n) : (rngL lo n)[i]? = some (PyData.int (lo + (i : Nat))) := by
  unfold rngL
  rw [List.getElem?_map, List.getElem?_range h]
  rfl
theorem iter_range {lo : Int} {n : Nat} {S0 : Hp} : IterOk (Itr lo n) (rngL lo n) S0 := by
  have hl : (rngL lo n).length = n := by unfold rngL; rw [List.length_map, List.length_range]
  unfold IterOk
  rw [hl]
  refine walk_range.mono (fun H _ => trivial) fun i H x H' hi ss y S s1 s2 => ?_
  obtain ⟨rfl, rfl⟩ := y
  exact ⟨S, .refl s2, _, rngL_get hi, .int _⟩
def iRange1 (fs : LF) : LF := fun ρ => (fs ρ).bind fun a => match a.1 with
  | [.int j] => if decide (-100000 ≤ j ∧ j ≤ 100000) then .ok (rngL 0 j.toNat, a.2) else .bad
  | _ => .bad
def iRange2 (fs : LF) : LF := fun ρ => (fs ρ).bind fun a => match a.1 with
  | [.int i, .int j] => if decide (-(2 ^ 60) ≤ i ∧ i < 2 ^ 60 ∧ -(2 ^ 60) ≤ j ∧ j < 2 ^ 60 ∧ j - i ≤ 100000) then .ok (rngL i (j - i).toNat, a.2) else .bad
  | _ => .bad
theorem pi_r1 {tg a : Expr} {fs : LF} {p : Pos} (hm : X.mg "range" = none) (ha : PAD X C W [a] fs) (hg : Gl X "range" := by rfl) (hs : starEach [a] X.env = [(false, eval a X.env)] := by rfl) : PID X C W tg (.Call (.Name "range" p) [a] [] pos) (iRange1 fs) :=
  PI.imp (pi_range1 hg hm ha hs) fun σ H R ⟨S, ρ, L, p⟩ => ⟨S, ρ, L, p.seq fun ds ρ1 _ p1 => fun vs S1 H1 g1 r1 => by
    dsimp only at p1
    match ds, r1, p1 with
    | [.int j], .cons (.int _) .nil, p1 =>
      by_cases hj : -100000 ≤ j ∧ j ≤ 100000
      · simp only [hj, and_self, decide_true, if_true] at p1
        exact ⟨j, rfl, by omega, by omega, p1 _ S1 H1 g1 iter_range⟩
      · simp only [hj, decide_false] at p1
        exact p1.elim⟩
theorem pi_r2 {tg a b : Expr} {fs : LF} {p : Pos} (hm : X.mg "range" = none) (ha : PAD X C W [a, b] fs) (hg : Gl X "range" := by rfl) (hs : starEach [a, b] X.env = [(false, eval a X.env), (false, eval b X.env)] := by rfl) (hs2 : starEach [b] X.env = [(false, eval b X.env)] := by rfl) : PID X C W tg (.Call (.Name "range" p) [a, b] [] pos) (iRange2 fs) :=
  PI.imp (pi_range2 hg hm ha hs hs2) fun σ H R ⟨S, ρ, L, p⟩ => ⟨S, ρ, L, p.seq fun ds ρ1 _ p1 => fun vs S1 H1 g1 r1 => by
    dsimp only at p1
    match ds, r1, p1 with
    | [.int i, .int j], .cons (.int _) (.cons (.int _) .nil), p1 =>
      dsimp only at p1
      by_cases hj : -(2 ^ 60) ≤ i ∧ i < 2 ^ 60 ∧ -(2 ^ 60) ≤ j ∧ j < 2 ^ 60 ∧ j - i ≤ 100000
      · rw [if_pos (decide_eq_true hj)] at p1
        exact ⟨i, j, rfl, by omega, p1 _ S1 H1 g1 iter_range⟩
      · rw [if_neg (by rw [decide_eq_false hj]; exact Bool.false_ne_true)] at p1
        exact p1.elim⟩
def zipD : List D → List D → List D
  | x :: xs, y :: ys => .tuple [x, y] :: zipD xs ys
  | _, _ => []
theorem zipD_len : ∀ xs ys : List D, (zipD xs ys).length = min xs.length ys.length
  | [], _ => by simp [zipD]
  | _ :: _, [] => by simp [zipD]
  | x :: xs, y :: ys => by
    unfold zipD
    rw [List.length_cons, zipD_len xs ys, List.length_cons, List.length_cons]
    omega
theorem zipD_get : ∀ {xs ys : List D} {i : Nat} {x y : D}, xs[i]? = some x → ys[i]? = some y → (zipD xs ys)[i]? = some (.tuple [x, y])
  | [], _, _, _, _, h, _ => by simp at h
  | _ :: _, [], _, _, _, _, h => by simp at h
  | a :: xs, b :: ys, 0, x, y, h1, h2 => by
    simp at h1 h2
    subst h1 h2
    rfl
  | a :: xs, b :: ys, i + 1, x, y, h1, h2 => by
    unfold zipD
    rw [List.getElem?_cons_succ]
    exact zipD_get (by simpa using h1) (by simpa using h2)
/-- a pair just made -/
theorem pair_adv {S H : Hp} {T : Addr} {x y : V} {d e : D} (ss : Same S H) (hT : H T = none) (r1 : Rp S x d) (r2 : Rp S y e) : ∃ S', Adv NoM S H S' (upd H T (.tup [x, y])) ∧ Rp S' (.ref T) (.tuple [d, e]) :=
  ⟨_, Adv.new ss hT, .tup upd_same (.cons (r1.up (Adv.new (o := .tup [x, y]) ss hT).ss) (.cons (r2.up (Adv.new (o := .tup [x, y]) ss hT).ss) .nil))⟩
theorem iter_zipL {K : PySem.W.Frag} {a b : Addr} {us ws : List V} {ds es : List D} {S0 : Hp} (h1 : S0 a = some (.lst us)) (h2 : S0 b = some (.lst ws)) (r1 : RpAll S0 us ds) (r2 : RpAll S0 ws es) : IterOk (Itz K a b) (zipD ds es) S0 := by
  unfold IterOk
  refine (walk_zip (xs := us) (ys := ws) (by rw [zipD_len, r1.length, r2.length])).mono (fun H ss => ⟨.of (ss _ _ h1), .of (ss _ _ h2)⟩) fun i H v H' hi ss y S s1 s2 => ?_
  obtain ⟨T, x, z, rfl, hT, rfl, e1, e2⟩ := y
  obtain ⟨d, f1, q1⟩ := r1.getV e1
  obtain ⟨e, f2, q2⟩ := r2.getV e2
  obtain ⟨S', ad, r⟩ := pair_adv s2 hT (q1.up s1) (q2.up s1)
  exact ⟨S', ad, _, zipD_get f1 f2, r⟩
theorem iter_zipT {K : PySem.W.Frag} {a b : Addr} {us ws : List V} {ds es : List D} {S0 : Hp} (h1 : S0 a = some (.tup us)) (h2 : S0 b = some (.tup ws)) (r1 : RpAll S0 us ds) (r2 : RpAll S0 ws es) : IterOk (RZ.ItzT K a b) (zipD ds es) S0 := by
  unfold IterOk
  have hl : (zipD ds es).length = min us.length ws.length := by rw [zipD_len, r1.length, r2.length]
  refine ⟨fun i H hi ss => ?_, fun H ss => ⟨us, ws, .of (ss _ _ h1), .of (ss _ _ h2), by omega⟩, fun i H v H' hi ss y S s1 s2 => ?_⟩
  · have k1 : i < us.length := by omega
    have k2 : i < ws.length := by omega
    exact ⟨us, ws, us[i], ws[i], .of (ss _ _ h1), .of (ss _ _ h2), by simp [k1], by simp [k2]⟩
  · obtain ⟨T, x, z, rfl, hT, rfl, e1, e2⟩ := y
    obtain ⟨d, f1, q1⟩ := r1.getV (e1 us (.of (ss _ _ h1)))
    obtain ⟨e, f2, q2⟩ := r2.getV (e2 ws (.of (ss _ _ h2)))
    obtain ⟨S', ad, r⟩ := pair_adv s2 hT (q1.up s1) (q2.up s1)
    exact ⟨S', ad, _, zipD_get f1 f2, r⟩
def iZipF (fs : LF) : LF := fun ρ => (fs ρ).bind fun a => match a.1 with
  | [.list ds, .list es] => .ok (zipD ds es, a.2)
  | [.tuple ds, .tuple es] => .ok (zipD ds es, a.2)
  | _ => .bad
theorem pi_z {a b : Expr} {fs : LF} {p tpos : Pos} {elts : List Expr} {kk : Nat} (hm : X.mg "zip" = none) (ha : PAD X C W [a, b] fs) (hg : Gl X "zip" := by rfl)
    (hs : starEach [a, b] X.env = (false, eval a X.env) :: starEach [b] X.env := by rfl) (hpl : (backTo pos (starEach [b] X.env)).any (·.1) = false := by rfl) : PID X C W (.Tuple elts kk tpos) (.Call (.Name "zip" p) [a, b] [] pos) (iZipF fs) :=
  PI.imp (RZ.pi_zipA hg hm ha hs hpl) fun σ H R ⟨S, ρ, L, p⟩ => ⟨S, ρ, L, p.seq fun ds ρ1 _ p1 => fun vs S1 H1 g1 r1 => by
    dsimp only at p1
    match ds, r1, p1 with
    | [.list ds, .list es], .cons (.lst ea qa) (.cons (.lst eb qb) .nil), p1 => exact ⟨_, _, _, _, rfl, .inl ⟨.of (g1.lk.sub _ _ ea), .of (g1.lk.sub _ _ eb), p1 _ S1 H1 g1 (iter_zipL ea eb qa qb)⟩⟩
    | [.tuple ds, .tuple es], .cons (.tup ea qa) (.cons (.tup eb qb) .nil), p1 => exact ⟨_, _, _, _, rfl, .inr ⟨.of (g1.lk.sub _ _ ea), .of (g1.lk.sub _ _ eb), p1 _ S1 H1 g1 (iter_zipT ea eb qa qb)⟩⟩⟩
def enumD : Nat → List D → List D
  | _, [] => []
  | n, x :: xs => .tuple [.int (n : Nat), x] :: enumD (n + 1) xs
theorem enumD_len : ∀ (n : Nat) (xs : List D), (enumD n xs).length = xs.length
  | _, [] => rfl
  | n, x :: xs => by
    unfold enumD
    rw [List.length_cons, enumD_len (n + 1) xs, List.length_cons]
theorem enumD_get : ∀ {n : Nat} {xs : List D} {i : Nat} {x : D}, xs[i]? = some x → (enumD n xs)[i]? = some (.tuple [.int ((n + i : Nat) : Int), x])
  | _, [], _, _, h => by simp at h
  | n, a :: xs, 0, x, h => by
    simp at h
    subst h
    rfl
  | n, a :: xs, i + 1, x, h => by
    unfold enumD
    rw [List.getElem?_cons_succ, enumD_get (n := n + 1) (by simpa using h)]
    rw [show n + 1 + i = n + (i + 1) by omega]
theorem iter_enumL {K : PySem.W.Frag} {a : Addr} {us : List V} {ds : List D} {S0 : Hp} (h1 : S0 a = some (.lst us)) (r1 : RpAll S0 us ds) : IterOk (Ite K a) (enumD 0 ds) S0 := by
  unfold IterOk
  rw [enumD_len, ← r1.length]
  refine walk_enum.mono (fun H ss => .of (ss _ _ h1)) fun i H v H' hi ss y S s1 s2 => ?_
  obtain ⟨T, x, z, rfl, hT, rfl, e1, e2⟩ := y
  cases e1
  obtain ⟨d, f1, q1⟩ := r1.getV e2
  obtain ⟨S', ad, r⟩ := pair_adv s2 hT (Rp.int (i : Nat)) (q1.up s1)
  have e3 := enumD_get (n := 0) f1
  rw [Nat.zero_add] at e3
  exact ⟨S', ad, _, e3, r⟩
/-! ### for -/
def forL (g : GF) (body : SF) : List D → En → Res (Fl × En)
  | [], ρ => .ok (.nx, ρ)
  | d :: ds, ρ => match g d ρ with
    | none => .bad
    | some ρ1 => (body ρ1).bind fun a => match a.1 with
      | .nx => forL g body ds a.2
      | .ct => forL g body ds a.2
      | .bk => .ok (.nx, a.2)
      | .rt d => .ok (.rt d, a.2)
      | .ro es => .ok (.ro es, a.2)
def sFor (it : LF) (g : GF) (body : SF) : SF := fun ρ => (it ρ).bind fun a => forL g body a.1 a.2
theorem ps_f {tg iter : Expr} {body : List Stmt} {it : LF} {g : GF} {fb : SF} (hi : PID X C W tg iter it) (hg : PGD X tg g vs) (hb : PSSD X C W body fb) (hp : PassesOwn (model X.prog X.w) X.A X.env X.xe) (hc : X.calm = true := by rfl)
    (hs : ∀ x, foldedSetIterable iter X.env x = pure x := by intro _; rfl) : PSD X C W (.For tg iter body [] pos) (sFor it g fb) :=
  PS.imp (ps_for hp hc hi hg hb hs) fun Dn σ H ⟨S, ρ, L, p⟩ => ⟨S, ρ, L, p.seq fun ds ρ1 _ p1 => fun J S1 H1 g1 ok => by
    refine for_it ok (fun i σ2 H2 => ∃ S2 ρ2, Go S1 H1 σ ρ1 S2 H2 σ2 ρ2 ∧ Post C W S2 H2 σ2 ρ2 (forL g fb (ds.drop i) ρ2) (KS S2 H2 σ2 ρ2 Dn)) ⟨S1, ρ1, .refl g1.lk, p1.s g1⟩ (fun i σ2 H2 _ ⟨S2, ρ2, g2, _⟩ => g2.adv.ss.trans g2.lk.sub) ?_ ?_
    · rintro i x σ2 H2 H3 hi ⟨S2, ρ2, g2, p2⟩ hy
      obtain ⟨S3, ad, d, e, r⟩ := hy S2 g2.adv.ss g2.lk.sub
      have g3 : Go S2 H2 σ2 ρ2 S3 H3 σ2 ρ2 := .of0 g2.lk ad
      have e1 : ds.drop i = d :: ds.drop (i + 1) := by
        obtain ⟨hlt, e'⟩ := List.getElem?_eq_some_iff.mp e
        rw [List.drop_eq_getElem_cons hlt, e']
      rw [e1] at p2
      unfold forL at p2
      cases z : g d ρ2 with
      | none => rw [z] at p2; exact p2.elim
      | some ρ4 =>
        rw [z] at p2
        refine ⟨S3, ρ2, d, g3.lk, r, ρ4, z, fun σ4 g4 _ => ⟨S3, ρ4, g4.lk, ?_⟩⟩
        have g34 := g3.trans g4
        refine (Post.s g34 p2).seq fun a ρ5 _ p5 => ?_
        cases a with
        | nx => exact fun S5 H5 σ5 g5 => ⟨S5, ρ5, g2.trans (g34.trans g5), Post.s g5 p5⟩
        | ct => exact fun S5 H5 σ5 g5 => ⟨S5, ρ5, g2.trans (g34.trans g5), Post.s g5 p5⟩
        | bk => exact fun S5 H5 σ5 g5 => p5 S5 H5 σ5 g5
        | rt d => exact p5
        | ro es => exact p5
    · rintro σ2 H2 ⟨S2, ρ2, g2, p2⟩
      rw [List.drop_length] at p2
      exact p2 S2 H2 σ2 (.refl g2.lk)⟩
/-! ### list comprehensions -/
def wipeR (ρ : En) : List Nat → En
  | [] => ρ
  | v :: vs => (wipeR ρ vs).set v .no
def keepV : Option Sl → Sl
  | some (.val d) => .val d
  | _ => .no
def restR (ρ1 ρ : En) : List Nat → En
  | [] => ρ
  | v :: vs => (restR ρ1 ρ vs).set v (keepV ρ1[v]?)
theorem wipeR_len (ρ : En) : ∀ vs, (wipeR ρ vs).length = ρ.length
  | [] => rfl
  | v :: vs => by unfold wipeR; rw [List.length_set, wipeR_len ρ vs]
theorem restR_len (ρ1 ρ : En) : ∀ vs, (restR ρ1 ρ vs).length = ρ.length
  | [] => rfl
  | v :: vs => by unfold restR; rw [List.length_set, restR_len ρ1 ρ vs]
theorem wipeR_get {ρ : En} {i : Nat} {s : Sl} : ∀ {vs : List Nat}, (wipeR ρ vs)[i]? = some s → s = .no ∨ (i ∉ vs ∧ ρ[i]? = some s)
  | [], h => .inr ⟨by simp, h⟩
  | v :: vs, h => by
    unfold wipeR at h
    rcases get_set h with ⟨rfl, e, _⟩ | ⟨hi, h⟩
    · exact .inl e
    · rcases wipeR_get h with e | ⟨h1, h2⟩
      · exact .inl e
      · exact .inr ⟨by simp only [List.mem_cons, not_or]; exact ⟨hi, h1⟩, h2⟩
theorem restR_get {ρ1 ρ : En} {i : Nat} {s : Sl} : ∀ {vs : List Nat}, (restR ρ1 ρ vs)[i]? = some s → (s = keepV ρ1[i]? ∧ i ∈ vs) ∨ (i ∉ vs ∧ ρ[i]? = some s)
  | [], h => .inr ⟨by simp, h⟩
  | v :: vs, h => by
    unfold restR at h
    rcases get_set h with ⟨rfl, e, _⟩ | ⟨hi, h⟩
    · exact .inl ⟨e, List.mem_cons_self⟩
    · rcases restR_get h with ⟨e, h1⟩ | ⟨h1, h2⟩
      · exact .inl ⟨e, List.mem_cons_of_mem _ h1⟩
      · exact .inr ⟨by simp only [List.mem_cons, not_or]; exact ⟨hi, h1⟩, h2⟩
theorem ow_wipe {σ : St} {ρ : En} {p : Addr} (h : Ow (wipe σ vs) (wipeR ρ vs) p) : Ow σ ρ p := by
  obtain ⟨i, ds, h1, h2⟩ := h
  rcases wipeR_get h1 with e | ⟨h3, h4⟩
  · cases e
  · exact ⟨i, ds, h4, (wipe_some h2).1⟩
theorem Lk.wipe {S H : Hp} {σ : St} {ρ : En} (L : Lk S H σ ρ) : Lk S H (L2.wipe σ vs) (wipeR ρ vs) where
  len := by rw [wipeR_len, wipe_length]; exact L.len
  sub := L.sub
  vals := fun i d e => by
    rcases wipeR_get e with e | ⟨h3, h4⟩
    · cases e
    · obtain ⟨v, h1, h2⟩ := L.vals i d h4
      exact ⟨v, by rw [wipe_out h3]; exact h1, h2⟩
  owns := fun i ds e => by
    rcases wipeR_get e with e | ⟨h3, h4⟩
    · cases e
    · obtain ⟨p, us, h1, h2⟩ := L.owns i ds h4
      exact ⟨p, us, by rw [wipe_out h3]; exact h1, h2⟩
  dist := fun i j ds es p h1 h2 h3 h4 => by
    rcases wipeR_get h1 with e | ⟨a1, a2⟩
    · cases e
    · rcases wipeR_get h2 with e | ⟨b1, b2⟩
      · cases e
      · exact L.dist i j ds es p a2 b2 (wipe_some h3).1 (wipe_some h4).1
/-- the slots of the block are given back -/
theorem Go.rest {S1 H1 S H : Hp} {σ : St} {ρ1 ρ : En} (L1 : Lk S1 H1 σ ρ1) (g : Go S1 H1 (L2.wipe σ vs) (wipeR ρ1 vs) S H (L2.wipe σ vs) ρ) : Go S1 H1 σ ρ1 S H σ (restR ρ1 ρ vs) := by
  have own : ∀ p, Ow σ (restR ρ1 ρ vs) p → Ow (L2.wipe σ vs) ρ p := fun p h => by
    obtain ⟨i, ds, h1, h2⟩ := h
    rcases restR_get h1 with ⟨e, hm⟩ | ⟨h3, h4⟩
    · cases z : ρ1[i]? with
      | none => rw [z] at e; cases e
      | some s =>
        rw [z] at e
        cases s <;> cases e
    · exact ⟨i, ds, h4, by rw [wipe_out h3]; exact h2⟩
  have pre : ∀ (i : Nat) (ds : List D), (restR ρ1 ρ vs)[i]? = some (Sl.own ds) → i ∉ vs ∧ ρ[i]? = some (Sl.own ds) := fun i ds e => by
    rcases restR_get e with ⟨e, hm⟩ | h
    · cases z : ρ1[i]? with
      | none => rw [z] at e; cases e
      | some s =>
        rw [z] at e
        cases s <;> cases e
    · exact h
  refine ⟨rfl, g.adv.mono fun p h => ow_wipe h, ⟨?_, g.lk.sub, fun i d e => ?_, fun i ds e => ?_, fun i j ds es p h1 h2 h3 h4 => ?_⟩, fun p h => (g.ow p (own p h)).imp ow_wipe id, fun ds h => ?_⟩
  · rw [restR_len, g.lk.len, wipe_length]
  · rcases restR_get e with ⟨e, hm⟩ | ⟨h3, h4⟩
    · cases z : ρ1[i]? with
      | none => rw [z] at e; cases e
      | some s =>
        rw [z] at e
        cases s with
        | val d' =>
          cases e
          obtain ⟨v, h1, h2⟩ := L1.vals i d z
          exact ⟨v, h1, h2.up g.adv.ss⟩
        | no => cases e
        | own _ => cases e
    · obtain ⟨v, h1, h2⟩ := g.lk.vals i d h4
      exact ⟨v, by rw [wipe_out h3] at h1; exact h1, h2⟩
  · obtain ⟨h3, h4⟩ := pre i ds e
    obtain ⟨p, us, h1, h2⟩ := g.lk.owns i ds h4
    exact ⟨p, us, by rw [wipe_out h3] at h1; exact h1, h2⟩
  · obtain ⟨a1, a2⟩ := pre i ds h1
    obtain ⟨b1, b2⟩ := pre j es h2
    exact g.lk.dist i j ds es p a2 b2 (by rw [wipe_out a1]; exact h3) (by rw [wipe_out b1]; exact h4)
  · obtain ⟨h3, h4⟩ := pre 0 ds h
    obtain ⟨⟨es, y1⟩, y2⟩ := g.z0 ds h4
    rcases wipeR_get y1 with e | ⟨_, y3⟩
    · cases e
    · exact ⟨⟨es, y3⟩, rfl⟩
def Res.bindN {α β : Type} : Res α → (α → Res β) → Res β
  | .ok a, f => f a
  | _, _ => .bad
def lcL (g : GF) (t : TF) (f : EF) (vs : List Nat) : List D → En → Res (List D × En)
  | [], ρ => .ok ([], ρ)
  | d :: ds, ρ => match g d ρ with
    | none => .bad
    | some ρ1 => (t ρ1).bindN fun k => if k.1 then (f k.2).bindN fun a => (lcL g t f vs ds (wipeR a.2 vs)).bindN fun r => .ok (a.1 :: r.1, r.2) else lcL g t f vs ds (wipeR k.2 vs)
def oLc (it : LF) (g : GF) (t : TF) (f : EF) (vs : List Nat) : LF := fun ρ => (it ρ).bind fun a => if few a.1.length then (lcL g t f vs a.1 (wipeR a.2 vs)).bindN fun r => .ok (r.1, restR a.2 r.2 vs) else .bad
/-- no exception leaves a block -/
abbrev W0 : WX := fun _ _ _ _ => False
theorem Post.n {α : Type} {W : WX} {S H : Hp} {σ : St} {ρ : En} {r : Res (α × En)} {β : Type} {k : α × En → Res (β × En)} {KB : β → En → Prop} {KA : α → En → Prop} (h : Post C W S H σ ρ (r.bindN k) KB) (f : ∀ a ρ1, r = .ok (a, ρ1) → Post C W S H σ ρ (k (a, ρ1)) KB → KA a ρ1) : Post C W0 S H σ ρ r KA := by
  cases r with
  | ok a => exact f a.1 a.2 rfl h
  | exc x => exact h.elim
  | bad => exact h
def tYesF : TF := fun ρ => .ok (true, ρ)
abbrev PTsD (X : Cx) (C : XC) (W : WX) (es : List Expr) (f : TF) : Prop := PTs X es (tT C W f)
theorem PTs.imp {X : Cx} {es : List Expr} {t t' : TT} (h : PTs X es t) (i : ∀ σ H Q, t' σ H Q → t σ H Q) : PTs X es t' := ⟨fun pins s σ H Q I hw => h.run pins s σ H Q I (i _ _ _ hw)⟩
theorem pts_0 : PTsD X C W [] tYesF := PTs.imp pts_nil fun σ H Q ⟨S, ρ, L, p⟩ => p S H (.refl L)
theorem pts_1 {c : Expr} {t : TF} (h : PTD X C W c t) : PTsD X C W [c] t := pts_one h
theorem lc_ofJ {J : It} {ds : List D} {S1 H1 : Hp} {ρ1 : En} {g : GF} {t : TF} {f : EF} {σ : St} {H : Hp} {Q : VK} {S : Hp} {ρ : En} (g1 : Go S H σ ρ S1 H1 σ ρ1) (ok : IterOk J ds S1)
    (p1 : Post C W S H σ ρ (if few ds.length then (lcL g t f vs ds (wipeR ρ1 vs)).bindN fun r => .ok (r.1, restR ρ1 r.2 vs) else .bad) (KO S H σ ρ Q)) : tLc (fun _ _ R => R J H1) (tG g vs) (tT C W0 t) (tD C W0 f) vs σ H1 Q := by
  intro D' hD
  cases hf : few ds.length with
  | false => rw [hf] at p1; exact p1.elim
  | true =>
    rw [hf] at p1
    have p1' : Post C W S H σ ρ ((lcL g t f vs ds (wipeR ρ1 vs)).bindN fun r => .ok (r.1, restR ρ1 r.2 vs)) (KO S H σ ρ Q) := p1
    have hS1 : S1 D' = none := by
      cases z : S1 D' with
      | none => rfl
      | some o => rw [g1.lk.sub _ _ z] at hD; cases hD
    have Lw := g1.lk.wipe (vs := vs)
    -- what is to come
    let Rest (i : Nat) (acc : List D) (ρ2 : En) : Prop := ∃ r ρ3, lcL g t f vs (ds.drop i) ρ2 = .ok (r, ρ3) ∧ lcL g t f vs ds (wipeR ρ1 vs) = .ok (acc ++ r, ρ3)
    have run : ∃ r ρ3, lcL g t f vs ds (wipeR ρ1 vs) = .ok (r, ρ3) := by
      cases z : lcL g t f vs ds (wipeR ρ1 vs) with
      | ok a => exact ⟨a.1, a.2, rfl⟩
      | exc x => rw [z] at p1'; exact p1'.elim
      | bad => rw [z] at p1'; exact p1'.elim
    refine lc_it ok (fun i H2 => ∃ S2 ρ2 acc us, Go S1 H1 (L2.wipe σ vs) (wipeR ρ1 vs) S2 H2 (L2.wipe σ vs) ρ2 ∧ H2 D' = some (.lst us) ∧ RpAll S2 us acc ∧ S2 D' = none ∧ ¬ Ow (L2.wipe σ vs) ρ2 D' ∧ acc.length ≤ i ∧ Rest i acc ρ2) ?_ (fun i H2 _ ⟨S2, ρ2, acc, us, g2, _⟩ => g2.adv.ss.trans g2.lk.sub) ?_ ?_
    · obtain ⟨r, ρ3, e⟩ := run
      refine ⟨S1, wipeR ρ1 vs, [], [], .of0 Lw (Adv.lay Lw.sub hD), upd_same, .nil, hS1, fun ow => ?_, Nat.le_refl _, r, ρ3, by rw [List.drop_zero]; exact e, e⟩
      obtain ⟨⟨ws, z⟩, _⟩ := Lw.ow ow
      rw [hD] at z; cases z
    · rintro i x H2 H3 hi ⟨S2, ρ2, acc, us, g2, hD2, ra, hS2, hO2, hl, r, ρ3, e1, e2⟩ hy
      obtain ⟨S3, ad, d, e, rx⟩ := hy S2 g2.adv.ss g2.lk.sub
      have g3 : Go S2 H2 (L2.wipe σ vs) ρ2 S3 H3 (L2.wipe σ vs) ρ2 := .of0 g2.lk ad
      have e3 : ds.drop i = d :: ds.drop (i + 1) := by
        obtain ⟨hlt, e'⟩ := List.getElem?_eq_some_iff.mp e
        rw [List.drop_eq_getElem_cons hlt, e']
      rw [e3] at e1
      unfold lcL at e1
      cases z : g d ρ2 with
      | none => rw [z] at e1; cases e1
      | some ρ4 =>
        rw [z] at e1
        dsimp only at e1
        refine ⟨S3, ρ2, d, g3.lk, rx, ρ4, z, fun σ4 g4 w4 => ?_⟩
        have ww : L2.wipe (L2.wipe σ vs) vs = L2.wipe σ vs := by
          refine List.ext_getElem? fun k => ?_
          by_cases hk : k ∈ vs
          · have h1 : ∀ τ : St, ∀ y, (L2.wipe τ vs)[k]? ≠ some (some y) := fun τ y q => (wipe_some q).2 hk
            have h2 : ∀ τ : St, τ.length = σ.length → (L2.wipe τ vs)[k]? = if k < σ.length then some none else none := fun τ ht => by
              by_cases hl : k < σ.length
              · rw [if_pos hl]
                cases q : (L2.wipe τ vs)[k]? with
                | none =>
                  have := List.getElem?_eq_none_iff.mp q
                  rw [wipe_length, ht] at this
                  omega
                | some o =>
                  cases o with
                  | none => rfl
                  | some y => exact (h1 τ y q).elim
              · rw [if_neg hl]
                exact List.getElem?_eq_none (by rw [wipe_length, ht]; omega)
            rw [h2 _ (wipe_length σ vs), h2 σ rfl]
          · rw [wipe_out hk]
        refine ⟨w4.trans ww, S3, ρ4, g4.lk, ?_⟩
        have w4' : L2.wipe σ4 vs = L2.wipe σ vs := w4.trans ww
        have gA := g3.trans g4
        -- the list being made stays, whatever is done
        have keepD : ∀ {S5 H5 : Hp} {σ5 : St} {ρ5 : En}, Go S2 H2 (L2.wipe σ vs) ρ2 S5 H5 σ5 ρ5 → H5 D' = some (.lst us) ∧ S5 D' = none ∧ ¬ Ow σ5 ρ5 D' := fun {S5 H5 σ5 ρ5} g5 => by
          refine ⟨g5.adv.kp D' _ hD2 hO2, ?_, fun ow => ?_⟩
          · cases q : S5 D' with
            | none => rfl
            | some o =>
              rcases g5.adv.nw D' o q with y | y | y
              · rw [hS2] at y; cases y
              · rw [hD2] at y; cases y
              · exact (hO2 y).elim
          · rcases g5.ow D' ow with y | y
            · exact hO2 y
            · rw [hD2] at y; cases y
        have wipeG : ∀ {S5 H5 : Hp} {ρ5 : En}, Go S2 H2 (L2.wipe σ vs) ρ2 S5 H5 σ4 ρ5 → Go S2 H2 (L2.wipe σ vs) ρ2 S5 H5 (L2.wipe σ vs) (wipeR ρ5 vs) := fun {S5 H5 ρ5} g5 => by
          rw [← w4']
          refine ⟨rfl, by rw [w4']; exact g5.adv, g5.lk.wipe, fun p ow => by rw [w4']; exact g5.ow p (ow_wipe ow), fun es h => ?_⟩
          rcases wipeR_get h with e | ⟨h1, h2⟩
          · cases e
          · obtain ⟨y1, y2⟩ := g5.z0 es h2
            refine ⟨y1, ?_⟩
            rw [w4', ← y2, ← wipe_out h1, w4']
        cases zt : t ρ4 with
        | exc x => rw [zt] at e1; cases e1
        | bad => rw [zt] at e1; cases e1
        | ok k =>
          obtain ⟨k, ρ5⟩ := k
          rw [zt] at e1
          refine fun S5 H5 g5 => ?_
          have gB := gA.trans g5
          cases k with
          | true =>
            refine iteT ⟨S5, ρ5, g5.lk, ?_⟩
            have e1' : ((f ρ5).bindN fun a => (lcL g t f vs (ds.drop (i + 1)) (wipeR a.2 vs)).bindN fun r => .ok (a.1 :: r.1, r.2)) = .ok (r, ρ3) := e1
            cases zf : f ρ5 with
            | exc x => rw [zf] at e1'; cases e1'
            | bad => rw [zf] at e1'; cases e1'
            | ok a =>
              obtain ⟨a, ρ6⟩ := a
              rw [zf] at e1'
              refine fun v S6 H6 g6 r6 => ?_
              have gC := gB.trans g6
              obtain ⟨k1, k2, k3⟩ := keepD gC
              have hlen : us.length < sizeLine := few_line (by
                rw [ra.length]
                have := of_decide_eq_true hf
                exact decide_eq_true (by omega))
              refine ⟨us, k1, hlen, ?_⟩
              have gW := wipeG gC
              obtain ⟨m1, m2, m3⟩ := keepD gW
              have ad7 : Adv (fun q => q = D') S6 H6 S6 (upd H6 D' (.lst (us ++ [v]))) := Adv.write g6.lk.sub k2
              have L7 : Lk S6 (upd H6 D' (.lst (us ++ [v]))) (L2.wipe σ vs) (wipeR ρ6 vs) := gW.lk.adv ad7 fun p hp ow => by rw [hp] at ow; exact m3 ow
              have g12 := g2.trans gW
              have g7 : Go S1 H1 (L2.wipe σ vs) (wipeR ρ1 vs) S6 (upd H6 D' (.lst (us ++ [v]))) (L2.wipe σ vs) (wipeR ρ6 vs) := ⟨rfl, g12.adv.trans ad7 fun p hp => by rw [hp]; exact .inr hD, L7, g12.ow, g12.z0⟩
              have e1'' : ((lcL g t f vs (ds.drop (i + 1)) (wipeR ρ6 vs)).bindN fun r => Res.ok (a :: r.1, r.2)) = .ok (r, ρ3) := e1'
              cases zr : lcL g t f vs (ds.drop (i + 1)) (wipeR ρ6 vs) with
              | exc x => rw [zr] at e1''; cases e1''
              | bad => rw [zr] at e1''; cases e1''
              | ok y =>
                obtain ⟨y, ρ8⟩ := y
                rw [zr] at e1''
                cases e1''
                refine ⟨S6, wipeR ρ6 vs, acc ++ [a], us ++ [v], g7, upd_same, (ra.up gC.adv.ss).append (.cons r6 .nil), k2, m3, by rw [List.length_append]; simp; omega, y, _, zr, ?_⟩
                rw [List.append_assoc]
                exact e2
          | false =>
            refine iteF ?_
            have gW := wipeG gB
            obtain ⟨m1, m2, m3⟩ := keepD gW
            have e1' : lcL g t f vs (ds.drop (i + 1)) (wipeR ρ5 vs) = .ok (r, ρ3) := e1
            exact ⟨S5, wipeR ρ5 vs, acc, us, g2.trans gW, m1, ra.up gB.adv.ss, m2, m3, by omega, r, ρ3, e1', e2⟩
    · rintro H2 ⟨S2, ρ2, acc, us, g2, hD2, ra, hS2, hO2, hl, r, ρ3, e1, e2⟩
      rw [List.drop_length] at e1
      cases e1
      rw [List.append_nil] at e2
      rw [e2] at p1'
      have gR := Go.rest g1.lk g2
      refine p1' D' us S2 H2 (g1.trans gR) hD2 ra hS2 (g1.adv.dm _ hD) fun ow => ?_
      obtain ⟨i, es, h1, h2⟩ := ow
      rcases restR_get h1 with ⟨e, hm⟩ | ⟨h3, h4⟩
      · cases z : ρ1[i]? with
        | none => rw [z] at e; cases e
        | some s =>
          rw [z] at e
          cases s <;> cases e
      · exact hO2 ⟨i, es, h4, by rw [wipe_out h3]; exact h2⟩
theorem lc_of {it : LF} {g : GF} {t : TF} {f : EF} {σ : St} {H : Hp} {Q : VK} {S : Hp} {ρ : En} (L : Lk S H σ ρ) (p : Post C W S H σ ρ (oLc it g t f vs ρ) (KO S H σ ρ Q)) : tLc (tI C W it) (tG g vs) (tT C W0 t) (tD C W0 f) vs σ H Q :=
  ⟨S, ρ, L, p.seq fun ds ρ1 _ p1 => fun J S1 H1 g1 ok => lc_ofJ g1 ok p1⟩
theorem pod_lc {elt tg iter : Expr} {ifs : List Expr} {scope : Scope} {own : List (Str × Nat)} {it : LF} {g : GF} {t : TF} {f : EF} (hN : X.N.Nodup) (hi : PID X C W tg iter it) (ok : BlkOk X.N X.env.scope scope own)
    (hg : ∀ (s : Shared) (H : Hp) (C : Addr) (cl : List (Str × Addr)) (fp : List Addr), PGD (X.blk s H scope (compEnvC scope cl C X.env) fp) tg g (own.map (·.2))) (ht : ∀ (s : Shared) (H : Hp) (A : Addr) (cl : List (Str × Addr)) (fp : List Addr), PTsD (X.blk s H scope (compEnvC scope cl A X.env) fp) C W0 ifs t)
    (he : ∀ (s : Shared) (H : Hp) (A : Addr) (cl : List (Str × Addr)) (fp : List Addr), PD (X.blk s H scope (compEnvC scope cl A X.env) fp) C W0 elt f) (hc : X.calm = true := by rfl) (hs : ∀ x, foldedSetIterable iter X.env x = pure x := by intro _; rfl) :
    POD X C W (.ListComp elt [⟨tg, iter, ifs, 0⟩] scope pos) (oLc it g t f (own.map (·.2))) :=
  PE.imp (pe_lc hc hN hi ok hg ht he hs) fun σ H Q ⟨S, ρ, L, p⟩ => lc_of L p
theorem ps_slc (i : Nat) {y : Str} {py : Pos} {elt tg iter : Expr} {ifs : List Expr} {scope : Scope} {own : List (Str × Nat)} {lpos : Pos} {it : LF} {g : GF} {t : TF} {f : EF} (hN : X.N.Nodup) (hi : PID X C W tg iter it) (ok : BlkOk X.N X.env.scope scope own)
    (hg : ∀ (s : Shared) (H : Hp) (C : Addr) (cl : List (Str × Addr)) (fp : List Addr), PGD (X.blk s H scope (compEnvC scope cl C X.env) fp) tg g (own.map (·.2))) (ht : ∀ (s : Shared) (H : Hp) (A : Addr) (cl : List (Str × Addr)) (fp : List Addr), PTsD (X.blk s H scope (compEnvC scope cl A X.env) fp) C W0 ifs t)
    (he : ∀ (s : Shared) (H : Hp) (A : Addr) (cl : List (Str × Addr)) (fp : List Addr), PD (X.blk s H scope (compEnvC scope cl A X.env) fp) C W0 elt f)
    (hsw : swapsWith (.ListComp elt [⟨tg, iter, ifs, 0⟩] scope lpos) (some (.Name y py)) pos.line X.env = pure true) (hi0 : i ≠ 0 := by decide) (hy : X.N[i]? = some y := by rfl) (hyl : X.env.scope.names.lookup y = some .local := by rfl) (hc : X.calm = true := by rfl) (hs : ∀ x, foldedSetIterable iter X.env x = pure x := by intro _; rfl) :
    PSD X C W (.Assign [.Name y py] (.ListComp elt [⟨tg, iter, ifs, 0⟩] scope lpos) pos) (sSetO i (oLc it g t f (own.map (·.2)))) :=
  PS.imp (ps_setLc (i := i) hc hN hy hyl hsw hi ok hg ht he hs) fun Dn σ H ⟨S, ρ, L, p⟩ => lc_of (Q := fun x H1 => gName i x σ H1 Dn.nx) L (p.seq fun ds ρ1 _ p1 => fun q us S1 H1 g1 h1 r1 hs h0 hn => p1 S1 H1 _ (g1.setO h1 r1 hs hn h0 hi0))
end
end GN

set_option Elab.async false
set_option linter.all false
set_option maxRecDepth 100000
set_option maxHeartbeats 4000000
/-! G7: several targets at once, own lists among the values. -/
namespace GN
open PySem PySem.Spec PyProof.Rows L2
/-- a value by its kind -/
abbrev CF := En → Res (Sl × En)
def KC (S H : Hp) (σ : St) (ρ : En) (Q : VK) : Sl → En → Prop := fun s ρ' => match s with
  | .val d => KD S H σ ρ Q d ρ'
  | .own ds => KO S H σ ρ Q ds ρ'
  | .no => ∀ (v : V) (S' H' : Hp), Go S H σ ρ S' H' σ ρ' → Q v H'
def tC2 (C : XC) (W : WX) (f : CF) : TE := fun σ H Q => ∃ S ρ, Lk S H σ ρ ∧ Post C W S H σ ρ (f ρ) (KC S H σ ρ Q)
abbrev PCD (X : Cx) (C : XC) (W : WX) (e : Expr) (f : CF) : Prop := PE X e (tC2 C W f)
def cV (f : EF) : CF := fun ρ => (f ρ).bind fun a => .ok (.val a.1, a.2)
def cO (f : LF) : CF := fun ρ => (f ρ).bind fun a => .ok (.own a.1, a.2)
def cN : CF := fun ρ => .ok (.no, ρ)
abbrev CsF := En → Res (List Sl × En)
def csN : CsF := fun ρ => .ok ([], ρ)
def csC (f : CF) (fs : CsF) : CsF := fun ρ => (f ρ).bind fun a => (fs a.2).bind fun r => .ok (a.1 :: r.1, r.2)
/-- values as told: the own lists (at as) are there, held by nothing else -/
inductive RpS (H0 S H : Hp) (σ : St) (ρ : En) : List Addr → List V → List Sl → Prop
  | nil : RpS H0 S H σ ρ [] [] []
  | val {as : List Addr} {v : V} {d : D} {vs : List V} {ss : List Sl} : Rp S v d → RpS H0 S H σ ρ as vs ss → RpS H0 S H σ ρ as (v :: vs) (.val d :: ss)
  | no {as : List Addr} {v : V} {vs : List V} {ss : List Sl} : RpS H0 S H σ ρ as vs ss → RpS H0 S H σ ρ as (v :: vs) (.no :: ss)
  | own {as : List Addr} {p : Addr} {us : List V} {ds : List D} {vs : List V} {ss : List Sl} : H p = some (.lst us) → RpAll S us ds → S p = none → H0 p = none → ¬ Ow σ ρ p → p ∉ as → RpS H0 S H σ ρ as vs ss → RpS H0 S H σ ρ (p :: as) (.ref p :: vs) (.own ds :: ss)
theorem RpS.fresh {H0 S H : Hp} {σ : St} {ρ : En} {as : List Addr} {vs : List V} {ss : List Sl} (r : RpS H0 S H σ ρ as vs ss) : ∀ p ∈ as, H0 p = none := by
  induction r with
  | nil => intro p h; cases h
  | val _ _ ih => exact ih
  | no _ ih => exact ih
  | own _ _ _ h0 _ _ _ ih =>
    intro p h
    rcases List.mem_cons.mp h with rfl | h
    · exact h0
    · exact ih p h
theorem RpS.older {H0 H1 S H : Hp} {σ : St} {ρ : En} {as : List Addr} {vs : List V} {ss : List Sl} (r : RpS H1 S H σ ρ as vs ss) (h : ∀ p, H1 p = none → H0 p = none) : RpS H0 S H σ ρ as vs ss := by
  induction r with
  | nil => exact .nil
  | val a _ ih => exact .val a ih
  | no _ ih => exact .no ih
  | own a b c d e f _ ih => exact .own a b c (h _ d) e f ih
theorem RpS.length {H0 S H : Hp} {σ : St} {ρ : En} {as : List Addr} {vs : List V} {ss : List Sl} (r : RpS H0 S H σ ρ as vs ss) : vs.length = ss.length := by
  induction r with
  | nil => rfl
  | val _ _ ih => exact congrArg (· + 1) ih
  | no _ ih => exact congrArg (· + 1) ih
  | own _ _ _ _ _ _ _ ih => exact congrArg (· + 1) ih
/-- other slots, which hold none of these -/
theorem RpS.slots {H0 S H : Hp} {σ σ' : St} {ρ ρ' : En} {as : List Addr} {vs : List V} {ss : List Sl} (r : RpS H0 S H σ ρ as vs ss) (h : ∀ p ∈ as, Ow σ' ρ' p → Ow σ ρ p) : RpS H0 S H σ' ρ' as vs ss := by
  induction r with
  | nil => exact .nil
  | val a _ ih => exact .val a (ih h)
  | no _ ih => exact .no (ih h)
  | own a b c d e f _ ih => exact .own a b c d (fun z => e (h _ List.mem_cons_self z)) f (ih fun p hp => h p (List.mem_cons_of_mem _ hp))
def KCs (S H : Hp) (σ : St) (ρ : En) (Q : List V → Hp → Prop) : List Sl → En → Prop := fun ss ρ' => ∀ (vs : List V) (S' H' : Hp) (as : List Addr), Go S H σ ρ S' H' σ ρ' → RpS H S' H' σ ρ' as vs ss → Q vs H'
def tCs (C : XC) (W : WX) (f : CsF) : TA := fun σ H Q => ∃ S ρ, Lk S H σ ρ ∧ Post C W S H σ ρ (f ρ) (KCs S H σ ρ Q)
abbrev PCsD (X : Cx) (C : XC) (W : WX) (es : List Expr) (f : CsF) : Prop := PA X es (tCs C W f)
theorem Lk.setN {S H : Hp} {σ : St} {ρ : En} {i : Nat} {x : Option V} (L : Lk S H σ ρ) : Lk S H (σ.set i x) (ρ.set i .no) where
  len := by rw [List.length_set, List.length_set]; exact L.len
  sub := L.sub
  vals := fun j e h => by
    rcases get_set h with ⟨rfl, e1, hl⟩ | ⟨hj, h⟩
    · cases e1
    · obtain ⟨u, h1, h2⟩ := L.vals j e h
      exact ⟨u, by rw [List.getElem?_set_ne (Ne.symm hj)]; exact h1, h2⟩
  owns := fun j ds h => by
    rcases get_set h with ⟨rfl, e1, hl⟩ | ⟨hj, h⟩
    · cases e1
    · obtain ⟨p, us, h1, h2⟩ := L.owns j ds h
      exact ⟨p, us, by rw [List.getElem?_set_ne (Ne.symm hj)]; exact h1, h2⟩
  dist := fun j k ds es p h1 h2 h3 h4 => by
    rcases get_set h1 with ⟨rfl, e1, hl⟩ | ⟨hj, h1⟩
    · cases e1
    · rcases get_set h2 with ⟨rfl, e1, hl⟩ | ⟨hk, h2⟩
      · cases e1
      · rw [List.getElem?_set_ne (Ne.symm hj)] at h3
        rw [List.getElem?_set_ne (Ne.symm hk)] at h4
        exact L.dist j k ds es p h1 h2 h3 h4
theorem Ow.set_no {σ : St} {ρ : En} {i : Nat} {x : Option V} {p : Addr} (h : Ow (σ.set i x) (ρ.set i .no) p) : Ow σ ρ p := by
  obtain ⟨j, ds, h1, h2⟩ := h
  rcases get_set h1 with ⟨rfl, e1, hl⟩ | ⟨hj, h1⟩
  · cases e1
  · rw [List.getElem?_set_ne (Ne.symm hj)] at h2
    exact ⟨j, ds, h1, h2⟩
def setVs : List Nat → List V → St → St
  | i :: is, v :: vs, σ => setVs is vs (σ.set i (some v))
  | _, _, σ => σ
def setSs : List Nat → List Sl → En → En
  | i :: is, s :: ss, ρ => setSs is ss (ρ.set i s)
  | _, _, ρ => ρ
theorem Go.setS {S H S1 H1 : Hp} {σ : St} {ρ : En} : ∀ {is : List Nat} {as : List Addr} {vs : List V} {ss : List Sl} {σ1 : St} {ρ1 : En}, 0 ∉ is → Go S H σ ρ S1 H1 σ1 ρ1 → RpS H S1 H1 σ1 ρ1 as vs ss → Go S H σ ρ S1 H1 (setVs is vs σ1) (setSs is ss ρ1)
  | [], _, _, _, _, _, h0, g, _ => by
    unfold setVs setSs
    exact g
  | i :: is, _, _, _, _, _, h0, g, .nil => by
    unfold setVs setSs
    exact g
  | i :: is, _, _, _, _, _, h0, g, .val r q => by
    unfold setVs setSs
    exact Go.setS (fun z => h0 (List.mem_cons_of_mem _ z)) (g.setV r) (q.slots fun p _ h => h.set_val)
  | i :: is, _, _, _, σ1, ρ1, h0, g, .no q => by
    unfold setVs setSs
    exact Go.setS (fun z => h0 (List.mem_cons_of_mem _ z)) ⟨by rw [List.length_set]; exact g.ln, g.adv, g.lk.setN, fun p h => g.ow p h.set_no, fun es h => by
      rcases get_set h with ⟨_, e, _⟩ | ⟨hi, h⟩
      · cases e
      · rw [List.getElem?_set_ne (Ne.symm hi)]
        exact g.z0 es h⟩ (q.slots fun p _ h => h.set_no)
  | i :: is, _, _, _, _, _, h0, g, .own a b c d e f q => by
    unfold setVs setSs
    exact Go.setS (fun z => h0 (List.mem_cons_of_mem _ z)) (g.setO a b c e d fun z => h0 (by rw [z]; exact List.mem_cons_self)) (q.slots fun p hp h => h.set_own.elim id fun z => by rw [z] at hp; exact (f hp).elim)
section
variable {X : Cx} {C : XC} {W : WX} {pos : Pos} {e : Expr} {es : List Expr}
theorem pc_v {f : EF} (h : PD X C W e f) : PCD X C W e (cV f) := PE.imp h fun σ H Q ⟨S, ρ, L, p⟩ => ⟨S, ρ, L, p.seq fun d ρ1 _ p1 => p1⟩
theorem pc_o {f : LF} (h : POD X C W e f) : PCD X C W e (cO f) := PE.imp h fun σ H Q ⟨S, ρ, L, p⟩ => ⟨S, ρ, L, p.seq fun d ρ1 _ p1 => p1⟩
/-- {}: told by nothing -/
theorem pc_d0 : PCD X C W (.Dict [] [] pos) cN := PE.imp pe_dnewK fun σ H Q ⟨S, ρ, L, p⟩ => fun d hd => p (.ref d) S _ (.of0 L (Adv.lay L.sub hd))
theorem pcs_n : PCsD X C W [] csN := PA.imp pa_nil fun σ H Q ⟨S, ρ, L, p⟩ => p [] S H [] (.refl L) .nil
theorem pcs_c {f : CF} {fs : CsF} (ha : PCD X C W e f) (hr : PCsD X C W es fs) (hs : starEach (e :: es) X.env = (false, eval e X.env) :: starEach es X.env := by rfl) : PCsD X C W (e :: es) (csC f fs) :=
  PA.imp (pa_cons ha hr hs) fun σ H Q ⟨S, ρ, L, p⟩ => ⟨S, ρ, L, p.seq fun s ρ1 _ p1 => by
    have next : ∀ {S1 H1 : Hp} {v : V}, Go S H σ ρ S1 H1 σ ρ1 → (∀ {S2 H2 : Hp} {ρ2 : En} {as : List Addr} {vs : List V} {ss : List Sl}, Go S1 H1 σ ρ1 S2 H2 σ ρ2 → RpS H1 S2 H2 σ ρ2 as vs ss → ∃ as', RpS H S2 H2 σ ρ2 as' (v :: vs) (s :: ss)) →
        tCs C W fs σ H1 fun xs H2 => Q (v :: xs) H2 := fun {S1 H1 v} g1 k => ⟨S1, ρ1, g1.lk, by
      have p2 : Post C W S1 H1 σ ρ1 ((fs ρ1).bind fun r => .ok (s :: r.1, r.2)) (KCs S H σ ρ Q) := Post.shift g1 p1 fun _ _ z => z
      refine p2.seq fun ss ρ2 _ p3 => fun vs S2 H2 as g2 r2 => ?_
      obtain ⟨as', r3⟩ := k g2 r2
      exact p3 (v :: vs) S2 H2 as' (g1.trans g2) r3⟩
    cases s with
    | val d => exact fun v S1 H1 g1 r1 => next g1 fun g2 r2 => ⟨_, .val (r1.up g2.adv.ss) (r2.older g1.adv.dm)⟩
    | no => exact fun v S1 H1 g1 => next g1 fun g2 r2 => ⟨_, .no (r2.older g1.adv.dm)⟩
    | own ds =>
      intro q us S1 H1 g1 h1 r1 hs0 h0 hn
      refine next g1 fun {S2 H2 ρ2 as vs ss} g2 r2 => ⟨q :: as, .own (g2.adv.kp q _ h1 hn) (r1.up g2.adv.ss) ?_ h0 (fun ow => ?_) (fun hm => ?_) (r2.older g1.adv.dm)⟩
      · cases z : S2 q with
        | none => rfl
        | some o =>
          rcases g2.adv.nw q o z with y | y | y
          · rw [hs0] at y; cases y
          · rw [h1] at y; cases y
          · exact (hn y).elim
      · rcases g2.ow q ow with y | y
        · exact hn y
        · rw [h1] at y; cases y
      · have := r2.fresh q hm
        rw [h1] at this; cases this⟩
/-- a, b = x, y, by kinds -/
def sTup (is : List Nat) (f : CsF) : SF := fun ρ => (f ρ).bind fun a => if a.1.length = is.length then .ok (.nx, setSs is a.1 a.2) else .bad
theorem tup_of {is : List Nat} {f : CsF} {Dn : Ends} {S H : Hp} {σ : St} {ρ : En} (h0 : 0 ∉ is) (L : Lk S H σ ρ) (p : Post C W S H σ ρ (sTup is f ρ) (KS S H σ ρ Dn)) : tCs C W f σ H fun vs H1 => vs.length = is.length ∧ ∀ H2, (H2 = H1 ∨ ∃ T, H1 T = none ∧ H2 = upd H1 T (.tup vs)) → Dn.nx (setVs is vs σ) H2 :=
  ⟨S, ρ, L, p.seq fun ss ρ1 _ p1 => fun vs S1 H1 as g1 r1 => by
    dsimp only at p1
    by_cases hl : ss.length = is.length
    · rw [if_pos hl] at p1
      refine ⟨by rw [r1.length]; exact hl, fun H2 h2 => ?_⟩
      rcases h2 with rfl | ⟨T, hT, rfl⟩
      · exact p1 S1 _ _ (Go.setS h0 g1 r1)
      · have ad := Adv.lay (o := .tup vs) g1.lk.sub hT
        have g2 := g1.trans (.of0 g1.lk ad)
        refine p1 S1 _ _ (Go.setS (as := as) h0 g2 ?_)
        have key : ∀ {as : List Addr} {ws : List V} {ss : List Sl}, RpS H S1 H1 σ ρ1 as ws ss → RpS H S1 (upd H1 T (.tup vs)) σ ρ1 as ws ss := by
          intro as ws ss r
          induction r with
          | nil => exact .nil
          | val a _ ih => exact .val a ih
          | no _ ih => exact .no ih
          | own a b c d e f _ ih => exact .own (by rw [upd_ne (ne_of_none a hT)]; exact a) b c d e f ih
        exact key r1
    · rw [if_neg hl] at p1; exact p1.elim⟩
theorem ps_t2 (i j : Nat) {x y : Str} {a b : Expr} {f : CsF} {px py pt : Pos} {kt k2 : Nat} {pt2 : Pos} (ha : PCsD X C W [a, b] f) (hN : X.N.Nodup)
    (hw : swappedStores [.Tuple [.Name x px, .Name y py] kt pt] (.Tuple [a, b] k2 pt2) X.env = pure (some [x, y])) (hi : X.N[i]? = some x := by rfl) (hj : X.N[j]? = some y := by rfl) (hij : i ≠ j := by decide) (h0 : 0 ∉ [i, j] := by decide)
    (hx : X.env.scope.names.lookup x = some .local := by rfl) (hy : X.env.scope.names.lookup y = some .local := by rfl) (hc : X.calm = true := by rfl)
    (hs : swapsWithSole [.Tuple [.Name x px, .Name y py] kt pt] (.Tuple [a, b] k2 pt2) pos.line X.env = pure false := by rfl) :
    PSD X C W (.Assign [.Tuple [.Name x px, .Name y py] kt pt] (.Tuple [a, b] k2 pt2) pos) (sTup [i, j] f) :=
  PS.imp (ps_par hc hN hi hj hij hx hy ha hw hs) fun Dn σ H ⟨S, ρ, L, p⟩ => by
    obtain ⟨S1, ρ1, L1, p1⟩ := tup_of h0 L p
    exact ⟨S1, ρ1, L1, Post.shift (.refl L1) p1 fun ss ρ' k vs S' H' as g r => by
      obtain ⟨hl, q⟩ := k vs S' H' as g r
      match vs, hl, q with
      | [v, w], _, q => exact ⟨v, w, rfl, q H' (.inl rfl)⟩⟩
/-- three plain local names: stored from the right -/
def tPar3 (i j k : Nat) (ta : TA) : TS := fun D σ H => ta σ H fun vs H1 => ∃ u v w, vs = [u, v, w] ∧ D.nx (((σ.set i (some u)).set j (some v)).set k (some w)) H1
theorem ps_par3 {i j k : Nat} {x y z : Str} {a b c : Expr} {ta : TA} {px py pz pt : Pos} {kt k2 : Nat} {pt2 : Pos} (hc : X.calm = true) (hN : X.N.Nodup) (hi : X.N[i]? = some x) (hj : X.N[j]? = some y) (hk : X.N[k]? = some z) (hij : i ≠ j) (hik : i ≠ k) (hjk : j ≠ k)
    (hx : X.env.scope.names.lookup x = some .local) (hy : X.env.scope.names.lookup y = some .local) (hz : X.env.scope.names.lookup z = some .local) (ha : PA X [a, b, c] ta)
    (hw : swappedStores [.Tuple [.Name x px, .Name y py, .Name z pz] kt pt] (.Tuple [a, b, c] k2 pt2) X.env = pure (some [x, y, z]))
    (hs : swapsWithSole [.Tuple [.Name x px, .Name y py, .Name z pz] kt pt] (.Tuple [a, b, c] k2 pt2) pos.line X.env = pure false := by rfl) :
    PS X (.Assign [.Tuple [.Name x px, .Name y py, .Name z pz] kt pt] (.Tuple [a, b, c] k2 pt2) pos) (tPar3 i j k ta) := by
  refine ⟨fun pins s σ H D I h => ?_⟩
  rw [exec_Assign_arm]
  refine wpAny_bind (wpAny_standAt ?_)
  rw [hs]
  refine wpAny_bind (wpAny_pure ?_)
  rw [if_neg (by decide)]
  refine wpAny_bind (Tuple_ (thn (ha.run _ pins s σ H _ I h) fun us s1 ⟨vs, H1, I1, r1, q1⟩ => ?_))
  obtain ⟨v, w, t, e1, q1⟩ := q1
  subst e1
  obtain ⟨u1, u2, u3, rfl, rv, rw', rt⟩ : ∃ u1 u2 u3, us = [u1, u2, u3] ∧ RelV v u1 ∧ RelV w u2 ∧ RelV t u3 := by
    cases r1 with
    | cons p q =>
      cases q with
      | cons p' q' =>
        cases q' with
        | cons p'' q'' =>
          cases q''
          exact ⟨_, _, _, rfl, p, p', p''⟩
  refine wpAny_newObj_type ?_ (by show 3 ≤ sizeLine; decide)
  have I2 : Inv X pins σ H1 { s1 with heap := s1.heap.push { cls := .type "tuple", data := .seq [u1, u2, u3].toArray } } := I1.kept (t' := s1.toks) fun b o e => Heap.get?_push_of_some _ e
  rw [hw]
  refine wpAny_bind (wpAny_pure ?_)
  show wpAny (model X.prog X.w) X.A (do rule "assign.swapped-stores"; let items ← unpackItems (.ref s1.heap.objs.size) 3 none; assignInOrder [fun v => bindName X.env z v, fun v => bindName X.env y v, fun v => bindName X.env x v] items.reverse; pure Flow.next) _ _ _
  refine wpAny_bind (wpAny_rule (wpAny_bind (unpackItems_tuple (items := #[u1, u2, u3]) (I.ok.hd hc) (IsTup.new s1.heap _) fun h' hx' => ?_)))
  have I3 := I2.kept (h' := h') (t' := s1.toks) fun b o e => hx' b o (Nat.ne_of_lt (Heap.lt_size e)) e
  show wpAny _ _ (assignInOrder [fun v => bindName X.env z v, fun v => bindName X.env y v, fun v => bindName X.env x v] [u3, u2, u1] >>= fun _ => pure Flow.next) _ _ _
  refine wpAny_bind (assignInOrder_cons (wpAny_bindName (store_ok I3 hN hk (.inl hz) rt (fun s2 I4 => ?_) (.inr hz))))
  refine assignInOrder_cons (wpAny_bindName (store_ok I4 hN hj (.inl hy) rw' (fun s3 I5 => ?_) (.inr hy)))
  refine assignInOrder_cons (wpAny_bindName (store_ok I5 hN hi (.inl hx) rv (fun s4 I6 => assignInOrder_nil (wpAny_pure ?_)) (.inr hx)))
  have e : ((σ.set k (some t)).set j (some w)).set i (some v) = ((σ.set i (some v)).set j (some w)).set k (some t) := by
    rw [List.set_comm _ _ (Ne.symm hjk), List.set_comm _ _ (Ne.symm hik), List.set_comm _ _ (Ne.symm hij)]
  rw [e] at I6
  exact ⟨_, H1, I6, q1⟩
theorem ps_t3 (i j k : Nat) {x y z : Str} {a b c : Expr} {f : CsF} {px py pz pt : Pos} {kt k2 : Nat} {pt2 : Pos} (ha : PCsD X C W [a, b, c] f) (hN : X.N.Nodup)
    (hw : swappedStores [.Tuple [.Name x px, .Name y py, .Name z pz] kt pt] (.Tuple [a, b, c] k2 pt2) X.env = pure (some [x, y, z])) (hi : X.N[i]? = some x := by rfl) (hj : X.N[j]? = some y := by rfl) (hk : X.N[k]? = some z := by rfl) (hij : i ≠ j := by decide) (hik : i ≠ k := by decide) (hjk : j ≠ k := by decide) (h0 : 0 ∉ [i, j, k] := by decide)
    (hx : X.env.scope.names.lookup x = some .local := by rfl) (hy : X.env.scope.names.lookup y = some .local := by rfl) (hz : X.env.scope.names.lookup z = some .local := by rfl) (hc : X.calm = true := by rfl)
    (hs : swapsWithSole [.Tuple [.Name x px, .Name y py, .Name z pz] kt pt] (.Tuple [a, b, c] k2 pt2) pos.line X.env = pure false := by rfl) :
    PSD X C W (.Assign [.Tuple [.Name x px, .Name y py, .Name z pz] kt pt] (.Tuple [a, b, c] k2 pt2) pos) (sTup [i, j, k] f) :=
  PS.imp (ps_par3 hc hN hi hj hk hij hik hjk hx hy hz ha hw hs) fun Dn σ H ⟨S, ρ, L, p⟩ => by
    obtain ⟨S1, ρ1, L1, p1⟩ := tup_of h0 L p
    exact ⟨S1, ρ1, L1, Post.shift (.refl L1) p1 fun ss ρ' k vs S' H' as g r => by
      obtain ⟨hl, q⟩ := k vs S' H' as g r
      match vs, hl, q with
      | [u, v, w], _, q => exact ⟨u, v, w, rfl, q H' (.inl rfl)⟩⟩
/-- .. where a tuple is made and taken apart: names alone -/
def gNames : List Nat → TGs
  | [] => gNil
  | i :: is => gCons (gName i) (gNames is)
theorem gNames_run : ∀ (is : List Nat) {vs : List V} {σ : St} {H : Hp} {Q : St → Hp → Prop}, vs.length = is.length → Q (setVs is vs σ) H → gNames is vs σ H Q
  | [], [], σ, H, Q, _, q => ⟨rfl, q⟩
  | i :: is, v :: vs, σ, H, Q, hl, q => ⟨v, vs, rfl, gNames_run is (by simpa using hl) q⟩
  | [], _ :: _, _, _, _, hl, _ => by simp at hl
  | _ :: _, [], _, _, _, hl, _ => by simp at hl
theorem ps_tg (is : List Nat) {ts vs : List Expr} {f : CsF} {pt : Pos} {kt k2 : Nat} {pt2 : Pos} (ha : PCsD X C W vs f) (hg : PGs X ts (gNames is)) (hl : is.length ≤ 1000 := by decide) (h0 : 0 ∉ is := by decide)
    (hs : swapsWithSole [.Tuple ts kt pt] (.Tuple vs k2 pt2) pos.line X.env = pure false := by rfl) (hw : swappedStores [.Tuple ts kt pt] (.Tuple vs k2 pt2) X.env = pure none := by rfl)
    (h1 : (assignEach [.Tuple ts kt pt] X.env).map (·.2) = [assign (.Tuple ts kt pt) X.env] := by rfl)
    (hc : X.calm = true := by rfl) (hn : (assignEach ts X.env).length = is.length := by rfl) (hst : (assignEach ts X.env).findIdx? (·.1) = none := by rfl) :
    PSD X C W (.Assign [.Tuple ts kt pt] (.Tuple vs k2 pt2) pos) (sTup is f) :=
  PS.imp (ps_asg (pe_tup ha) (pg_tup hc hg hn hst) hs hw h1) fun Dn σ H ⟨S, ρ, L, p⟩ => by
    obtain ⟨S1, ρ1, L1, p1⟩ := tup_of h0 L p
    exact ⟨S1, ρ1, L1, Post.shift (.refl L1) p1 fun ss ρ' k us S' H' as g r => by
      obtain ⟨hlen, q⟩ := k us S' H' as g r
      have hz : us.length ≤ sizeLine := by rw [hlen]; exact Nat.le_of_lt (small1000 hl)
      exact ⟨hz, fun T hT => ⟨T, us, rfl, .of upd_same, hlen, gNames_run is hlen (q _ (.inr ⟨T, hT, rfl⟩))⟩⟩⟩
theorem pgn_n : PGs X [] (gNames []) := pgs_nil
theorem pgn_c (i : Nat) {is : List Nat} {x : Str} {px : Pos} {ts : List Expr} (hr : PGs X ts (gNames is)) (hN : X.N.Nodup) (hi : X.N[i]? = some x := by rfl) (hx : Loc X.env.scope x := by first | exact Or.inl rfl | exact Or.inr rfl) (hf : X.fn x = true ∨ X.env.scope.names.lookup x = some .local := by first | exact .inl rfl | exact .inr rfl)
    (hs : (assignEach (.Name x px :: ts) X.env).map (·.2) = assign (.Name x px) X.env :: (assignEach ts X.env).map (·.2) := by rfl) : PGs X (.Name x px :: ts) (gNames (i :: is)) := pgs_cons (pg_name hN hi hx hf) hr hs
end
end GN

set_option Elab.async false
set_option linter.all false
set_option maxRecDepth 100000
set_option maxHeartbeats 4000000
/-! G8: what a def promises, its body, calls. -/
namespace GN
open PySem PySem.Spec PyProof.Rows L2
/-! ### promises -/
def XRet (C : XC) (M : Addr → Prop) (S H : Hp) (E : XK) (x : Xc) : Prop := ∀ (cls : Value) (dd : Option Addr) (S' H' : Hp), Adv M S H S' H' → XOk C x cls dd H' → E cls dd H'
/-- it hands back a frozen value -/
def spD (C : XC) (n : Nat) (F : List D → Res D) : Sp := fun vs H Q E => ∃ S ds, Same S H ∧ RpAll S vs ds ∧ ds.length = n ∧ match F ds with
  | .ok d => ∀ (v : V) (S' H' : Hp), Adv NoM S H S' H' → Rp S' v d → Q v H'
  | .exc x => XRet C NoM S H E x
  | .bad => False
/-- it hands back a new list -/
def spO (C : XC) (n : Nat) (F : List D → Res (List D)) : Sp := fun vs H Q E => ∃ S ds, Same S H ∧ RpAll S vs ds ∧ ds.length = n ∧ match F ds with
  | .ok es => ∀ (p : Addr) (us : List V) (S' H' : Hp), Adv NoM S H S' H' → H' p = some (.lst us) → RpAll S' us es → S' p = none → H p = none → Q (.ref p) H'
  | .exc x => XRet C NoM S H E x
  | .bad => False
/-- its first argument is an own list, which it changes -/
def spM (C : XC) (n : Nat) (F : List D → List D → Res (D × List D)) : Sp := fun vs H Q E => ∃ S p us ms vs' ds, vs = .ref p :: vs' ∧ Same S H ∧ H p = some (.lst us) ∧ RpAll S us ms ∧ S p = none ∧ RpAll S vs' ds ∧ ds.length = n ∧ match F ms ds with
  | .ok (d, ms') => ∀ (v : V) (S' H' : Hp) (us' : List V), Adv (fun q => q = p) S H S' H' → H' p = some (.lst us') → RpAll S' us' ms' → S' p = none → Rp S' v d → Q v H'
  | .exc x => XRet C (fun q => q = p) S H E x
  | .bad => False
/-- a body's function, run -/
def ini (N : Nat) (ds : List D) : En := ds.map Sl.val ++ List.replicate (N - ds.length) Sl.no
def runD (N : Nat) (f : SF) : List D → Res D := fun ds => match f (ini N ds) with
  | .ok (.rt d, _) => .ok d
  | .ok (.ro es, _) => .ok (.list es)
  | .ok (.nx, _) => .ok .none
  | .exc x => .exc x
  | _ => .bad
def runO (N : Nat) (f : SF) : List D → Res (List D) := fun ds => match f (ini N ds) with
  | .ok (.ro es, _) => .ok es
  | .exc x => .exc x
  | _ => .bad
def iniM (N : Nat) (ms ds : List D) : En := Sl.own ms :: (ds.map Sl.val ++ List.replicate (N - (ds.length + 1)) Sl.no)
def runM (N : Nat) (f : SF) : List D → List D → Res (D × List D) := fun ms ds => match f (iniM N ms ds) with
  | .ok (.rt d, ρ) => (match ρ[0]? with
    | some (Sl.own ms') => .ok (d, ms')
    | _ => .bad)
  | .exc x => .exc x
  | _ => .bad
theorem ini_get {N : Nat} {ds : List D} {i : Nat} {s : Sl} (h : (ini N ds)[i]? = some s) : (∃ d, ds[i]? = some d ∧ s = .val d) ∨ s = .no := by
  unfold ini at h
  by_cases hi : i < ds.length
  · rw [List.getElem?_append_left (by simpa using hi), List.getElem?_map] at h
    cases z : ds[i]? with
    | none => rw [z] at h; cases h
    | some d =>
      rw [z] at h
      exact .inl ⟨d, rfl, (Option.some.inj h).symm⟩
  · rw [List.getElem?_append_right (by simpa using hi)] at h
    exact .inr (List.eq_of_mem_replicate (List.mem_of_getElem? h))
theorem lk_ini {S H : Hp} {Ns : List Str} {vs : List V} {ds : List D} (ss : Same S H) (r : RpAll S vs ds) (hl : vs.length ≤ Ns.length) : Lk S H (L2.start Ns vs) (ini Ns.length ds) where
  len := by
    unfold ini L2.start
    rw [List.length_append, List.length_append, List.length_map, List.length_map, List.length_replicate, List.length_replicate, r.length]
  sub := ss
  vals := fun i d e => by
    rcases ini_get e with ⟨d', h1, h2⟩ | h
    · cases h2
      obtain ⟨v, h3, h4⟩ := r.get h1
      refine ⟨v, ?_, h4⟩
      unfold L2.start
      rw [List.getElem?_append_left (by rw [List.length_map]; exact (List.getElem?_eq_some_iff.mp h3).1), List.getElem?_map, h3]
      rfl
    · cases h
  owns := fun i ds e => by
    rcases ini_get e with ⟨d', h1, h2⟩ | h
    · cases h2
    · cases h
  dist := fun i j ds es p h1 h2 h3 h4 => by
    rcases ini_get h1 with ⟨d', _, h⟩ | h
    · cases h
    · cases h
theorem ow_ini {N : Nat} {σ : St} {ds : List D} {p : Addr} (h : Ow σ (ini N ds) p) : False := by
  obtain ⟨i, es, h1, h2⟩ := h
  rcases ini_get h1 with ⟨d', _, h⟩ | h
  · cases h
  · cases h
theorem iniM_get {N : Nat} {ms ds : List D} {i : Nat} {s : Sl} (h : (iniM N ms ds)[i + 1]? = some s) : (∃ d, ds[i]? = some d ∧ s = .val d) ∨ s = .no := by
  unfold iniM at h
  rw [List.getElem?_cons_succ] at h
  by_cases hi : i < ds.length
  · rw [List.getElem?_append_left (by simpa using hi), List.getElem?_map] at h
    cases z : ds[i]? with
    | none => rw [z] at h; cases h
    | some d =>
      rw [z] at h
      exact .inl ⟨d, rfl, (Option.some.inj h).symm⟩
  · rw [List.getElem?_append_right (by simpa using hi)] at h
    exact .inr (List.eq_of_mem_replicate (List.mem_of_getElem? h))
theorem lk_iniM {S H : Hp} {Ns : List Str} {p : Addr} {us : List V} {vs : List V} {ms ds : List D} (ss : Same S H) (hp : H p = some (.lst us)) (rm : RpAll S us ms) (hs : S p = none) (r : RpAll S vs ds) (hl : vs.length + 1 ≤ Ns.length) : Lk S H (L2.start Ns (.ref p :: vs)) (iniM Ns.length ms ds) where
  len := by
    unfold iniM L2.start
    simp only [List.length_append, List.length_map, List.length_replicate, r.length, List.length_cons, List.map_cons]
    omega
  sub := ss
  vals := fun i d e => by
    cases i with
    | zero => cases e
    | succ i =>
      rcases iniM_get e with ⟨d', h1, h2⟩ | h
      · cases h2
        obtain ⟨v, h3, h4⟩ := r.get h1
        refine ⟨v, ?_, h4⟩
        unfold L2.start
        rw [List.map_cons, List.cons_append, List.getElem?_cons_succ, List.getElem?_append_left (by rw [List.length_map]; exact (List.getElem?_eq_some_iff.mp h3).1), List.getElem?_map, h3]
        rfl
      · cases h
  owns := fun i es e => by
    cases i with
    | zero =>
      cases e
      exact ⟨p, us, rfl, hp, rm, hs⟩
    | succ i =>
      rcases iniM_get e with ⟨d', h1, h2⟩ | h
      · cases h2
      · cases h
  dist := fun i j es fs q h1 h2 h3 h4 => by
    have z : ∀ (k : Nat) (es : List D), (iniM Ns.length ms ds)[k]? = some (Sl.own es) → k = 0 := fun k es e => by
      cases k with
      | zero => rfl
      | succ k =>
        rcases iniM_get e with ⟨d', h1, h2⟩ | h
        · cases h2
        · cases h
    rw [z i es h1, z j fs h2]
theorem ow_iniM {Ns : List Str} {p q : Addr} {vs : List V} {ms ds : List D} (h : Ow (L2.start Ns (.ref p :: vs)) (iniM Ns.length ms ds) q) : q = p := by
  obtain ⟨i, es, h1, h2⟩ := h
  cases i with
  | zero =>
    cases h2
    rfl
  | succ i =>
    rcases iniM_get h1 with ⟨d', h1, h2⟩ | h
    · cases h2
    · cases h
/-! ### a def by its body -/
section
variable {P : Program} {w : World} {K : PySem.W.Frag} {mg : Str → Option Value} {base : Heap} {C : XC}
/-- a body that is what f tells, wherever the def is called -/
def BodyOk (P : Program) (w : World) (K : PySem.W.Frag) (mg : Str → Option Value) (base : Heap) (C : XC) (k : Nat) (qual : Str) (st : Stmt) (Ns : List Str) (f : Addr) (fb : SF) : Prop :=
  ∀ (cdv : Value) (A : Around) (outer : List Env) (s : Shared) (H : Hp) (E : XK), Room k (A.deeper (envOfC qual (defScope st) s.heap.objs.size f cdv)) →
    PSSD (cxOf (L2.CX P w) P w K mg base Ns qual (defScope st) f cdv A outer s H E) C (fun cls d _ H => E cls d H) (defBody st) fb
theorem fn_D {x qual : Str} {st : Stmt} {f : Addr} {fd : FuncData} {Ns ps : List Str} {k : Nat} {fb : SF} (F : Fun K x qual st f fd) (Sc : FnScope Ns ps (defScope st)) (hl : ps.length ≤ Ns.length) (hb : BodyOk P w K mg base C k qual st Ns f fb) : FnOk P w K mg base (L2.CX P w) (k + 1) f fd ps (spD C ps.length (runD Ns.length fb)) := by
  refine F.okX Sc (fun vs H Q E h => ?_) (fun cdv A outer s H vs Q E hr h => ⟨_, hb cdv A outer s H E hr, ?_⟩)
  · obtain ⟨S, ds, _, r, e, _⟩ := h
    rw [r.length, e]
  · obtain ⟨S, ds, ss, r, e, q⟩ := h
    refine ⟨S, ini Ns.length ds, lk_ini ss r (by rw [r.length, e]; exact hl), ?_⟩
    unfold runD at q
    cases z : fb (ini Ns.length ds) with
    | bad => rw [z] at q; exact q.elim
    | exc x =>
      rw [z] at q
      exact fun cls dd S' H' σ' _ ad xo => q cls dd S' H' (ad.mono fun p h => (ow_ini h).elim) xo
    | ok a =>
      obtain ⟨fl, ρ'⟩ := a
      rw [z] at q
      cases fl with
      | nx => exact fun S' H' σ' g => q .non S' H' (g.adv.mono fun p h => (ow_ini h).elim) .non
      | bk => exact q.elim
      | ct => exact q.elim
      | rt d => exact fun v S' H' σ' g rv => q v S' H' (g.adv.mono fun p h => (ow_ini h).elim) rv
      | ro es =>
        intro p us S' H' σ' g h1 h2 h3 h4
        have h0 : H p = none := h4.elim id fun ow => (ow_ini ow).elim
        have ad := g.adv.mono (M' := NoM) fun p h => (ow_ini h).elim
        have s2 : Same S' (upd S' p (.lst us)) := fun a o z => by rw [upd_ne (ne_of_none z h3)]; exact z
        refine q _ (upd S' p (.lst us)) H' ⟨ad.ss.trans s2, fun a o z => ?_, ad.kp, fun a o z => ?_, ad.dm⟩ (.lst upd_same (h2.up s2))
        · by_cases y : a = p
          · subst y; rw [upd_same] at z; rw [h1]; exact z
          · rw [upd_ne y] at z; exact ad.sh a o z
        · by_cases y : a = p
          · subst y; exact .inr (.inl h0)
          · rw [upd_ne y] at z; exact ad.nw a o z
theorem fn_O {x qual : Str} {st : Stmt} {f : Addr} {fd : FuncData} {Ns ps : List Str} {k : Nat} {fb : SF} (F : Fun K x qual st f fd) (Sc : FnScope Ns ps (defScope st)) (hl : ps.length ≤ Ns.length) (hb : BodyOk P w K mg base C k qual st Ns f fb) : FnOk P w K mg base (L2.CX P w) (k + 1) f fd ps (spO C ps.length (runO Ns.length fb)) := by
  refine F.okX Sc (fun vs H Q E h => ?_) (fun cdv A outer s H vs Q E hr h => ⟨_, hb cdv A outer s H E hr, ?_⟩)
  · obtain ⟨S, ds, _, r, e, _⟩ := h
    rw [r.length, e]
  · obtain ⟨S, ds, ss, r, e, q⟩ := h
    refine ⟨S, ini Ns.length ds, lk_ini ss r (by rw [r.length, e]; exact hl), ?_⟩
    unfold runO at q
    cases z : fb (ini Ns.length ds) with
    | bad => rw [z] at q; exact q.elim
    | exc x =>
      rw [z] at q
      exact fun cls dd S' H' σ' _ ad xo => q cls dd S' H' (ad.mono fun p h => (ow_ini h).elim) xo
    | ok a =>
      obtain ⟨fl, ρ'⟩ := a
      rw [z] at q
      cases fl with
      | ro es =>
        intro p us S' H' σ' g h1 h2 h3 h4
        exact q p us S' H' (g.adv.mono fun p h => (ow_ini h).elim) h1 h2 h3 (h4.elim id fun ow => (ow_ini ow).elim)
      | nx => exact q.elim
      | bk => exact q.elim
      | ct => exact q.elim
      | rt _ => exact q.elim
theorem fn_M {x qual : Str} {st : Stmt} {f : Addr} {fd : FuncData} {Ns ps : List Str} {k n : Nat} {fb : SF} (F : Fun K x qual st f fd) (Sc : FnScope Ns ps (defScope st)) (hn : ps.length = n + 1) (hl : ps.length ≤ Ns.length) (hb : BodyOk P w K mg base C k qual st Ns f fb) : FnOk P w K mg base (L2.CX P w) (k + 1) f fd ps (spM C n (runM Ns.length fb)) := by
  refine F.okX Sc (fun vs H Q E h => ?_) (fun cdv A outer s H vs Q E hr h => ⟨_, hb cdv A outer s H E hr, ?_⟩)
  · obtain ⟨S, p, us, ms, vs', ds, rfl, _, _, _, _, r, e, _⟩ := h
    rw [List.length_cons, r.length, e, hn]
  · obtain ⟨S, p, us, ms, vs', ds, rfl, ss, hp, rm, hs, r, e, q⟩ := h
    refine ⟨S, iniM Ns.length ms ds, lk_iniM ss hp rm hs r (by rw [r.length, e, ← hn]; exact hl), ?_⟩
    unfold runM at q
    cases z : fb (iniM Ns.length ms ds) with
    | bad => rw [z] at q; exact q.elim
    | exc x =>
      rw [z] at q
      exact fun cls dd S' H' σ' _ ad xo => q cls dd S' H' (ad.mono fun p h => ow_iniM h) xo
    | ok a =>
      obtain ⟨fl, ρ'⟩ := a
      rw [z] at q
      cases fl with
      | rt d =>
        intro v S' H' σ' g rv
        dsimp only at q
        cases y : ρ'[0]? with
        | none => rw [y] at q; exact q.elim
        | some s =>
          rw [y] at q
          cases s with
          | no => exact q.elim
          | val _ => exact q.elim
          | own ms' =>
            obtain ⟨p', us', f1, f2, f3, f4⟩ := g.lk.owns 0 ms' y
            have e2 := (g.z0 ms' y).2
            rw [f1] at e2
            have e3 : p' = p := by cases e2; rfl
            subst e3
            exact q v S' H' us' (g.adv.mono fun p h => ow_iniM h) f2 f3 f4 rv
      | nx => exact q.elim
      | bk => exact q.elim
      | ct => exact q.elim
      | ro _ => exact q.elim
end
end GN

set_option Elab.async false
set_option linter.all false
set_option maxRecDepth 100000
set_option maxHeartbeats 4000000
/-! G9: calls of defs. -/
namespace GN
open PySem PySem.Spec PyProof.Rows L2
/-- a def that may be called by its name -/
structure Cal (P : Program) (w : World) (K : PySem.W.Frag) (mg : Str → Option Value) (base : Heap) (k : Nat) (x : Str) (ps : List Str) (sp : Sp) : Prop where
  ex : ∃ (f : Addr) (fd : FuncData), FnOk P w K mg base (L2.CX P w) k f fd ps sp ∧ mg x = some (.ref f) ∧ PySem.W.keepIn K (.ref f) = true ∧ Binds K fd ps []
theorem Cal.imp {P : Program} {w : World} {K : PySem.W.Frag} {mg : Str → Option Value} {base : Heap} {k : Nat} {x : Str} {ps : List Str} {sp sp' : Sp} (c : Cal P w K mg base k x ps sp) (h : ∀ vs H Q E, sp' vs H Q E → sp vs H Q E) : Cal P w K mg base k x ps sp' := by
  obtain ⟨f, fd, F, a⟩ := c.ex
  exact ⟨f, fd, F.imp h, a⟩
def fzF (F : List D → Res (List D)) : List D → Res D := fun ds => match F ds with
  | .ok es => .ok (.list es)
  | .exc x => .exc x
  | .bad => .bad
/-- a new list, frozen at once -/
theorem spO_D {C : XC} {n : Nat} {F : List D → Res (List D)} {vs : List V} {H : Hp} {Q : VK} {E : XK} (h : spD C n (fzF F) vs H Q E) : spO C n F vs H Q E := by
  obtain ⟨S, ds, ss, r, e, q⟩ := h
  refine ⟨S, ds, ss, r, e, ?_⟩
  unfold fzF at q
  cases z : F ds with
  | bad => rw [z] at q; exact q
  | exc x => rw [z] at q; exact q
  | ok es =>
    rw [z] at q
    intro p us S' H' ad h1 h2 h3 h0
    have s2 : Same S' (upd S' p (.lst us)) := fun a o z => by rw [upd_ne (ne_of_none z h3)]; exact z
    refine q _ (upd S' p (.lst us)) H' ⟨ad.ss.trans s2, fun a o z => ?_, ad.kp, fun a o z => ?_, ad.dm⟩ (.lst upd_same (h2.up s2))
    · by_cases y : a = p
      · subst y; rw [upd_same] at z; rw [h1]; exact z
      · rw [upd_ne y] at z; exact ad.sh a o z
    · by_cases y : a = p
      · subst y; exact .inr (.inl h0)
      · rw [upd_ne y] at z; exact ad.nw a o z
theorem Cal.fz {P : Program} {w : World} {K : PySem.W.Frag} {mg : Str → Option Value} {base : Heap} {k : Nat} {x : Str} {ps : List Str} {C : XC} {n : Nat} {F : List D → Res (List D)} (c : Cal P w K mg base k x ps (spO C n F)) : Cal P w K mg base k x ps (spD C n (fzF F)) := c.imp fun _ _ _ _ => spO_D
def eFn (n : Nat) (F : List D → Res D) (fs : LF) : EF := fun ρ => (fs ρ).bind fun a => if a.1.length = n then (F a.1).bind fun d => .ok (d, a.2) else .bad
def oFn (n : Nat) (F : List D → Res (List D)) (fs : LF) : LF := fun ρ => (fs ρ).bind fun a => if a.1.length = n then (F a.1).bind fun d => .ok (d, a.2) else .bad
def eFnM (i : Nat) (n : Nat) (F : List D → List D → Res (D × List D)) (fs : LF) : EF := fun ρ => match ρ[i]? with
  | some (Sl.own _) => (fs ρ).bind fun a => if a.1.length = n then (match a.2[i]? with
    | some (Sl.own ms) => (F ms a.1).bind fun d => .ok (d.1, a.2.set i (.own d.2))
    | _ => .bad) else .bad
  | _ => .bad
section
variable {X : Cx} {C : XC} {W : WX} {pos p : Pos} {e : Expr} {es : List Expr} {fs : LF} {x : Str} {k j n : Nat} {ps : List Str}
theorem fn_of_d {F : List D → Res D} {S H : Hp} {σ : St} {ρ : En} {Q : VK} (L : Lk S H σ ρ) (p : Post C W S H σ ρ (eFn n F fs ρ) (KD S H σ ρ Q)) : tCallS (spD C n F) (WE W) (tA C W fs) σ H Q :=
  ⟨S, ρ, L, p.seq fun ds ρ1 _ p1 => fun vs S1 H1 g1 r1 => by
    dsimp only at p1
    by_cases hn : ds.length = n
    · rw [if_pos hn] at p1
      refine ⟨S1, ds, g1.lk.sub, r1, hn, ?_⟩
      cases z : F ds with
      | ok d =>
        rw [z] at p1
        exact fun v S2 H2 ad r2 => p1 v S2 H2 (g1.trans (.of0 g1.lk ad)) r2
      | exc y =>
        rw [z] at p1
        exact fun cls dd S2 H2 ad xo => p1 cls dd S2 H2 σ rfl (g1.adv.trans ad.any g1.ow) xo
      | bad => rw [z] at p1; exact p1.elim
    · rw [if_neg hn] at p1; exact p1.elim⟩
theorem pd_fn {F : List D → Res D} (c : Cal X.prog X.w X.K X.mg X.base k x ps (spD C n F)) (hr : Room j X.A) (tk : Takes X W) (ha : PAD X C W (e :: es) fs) (hk : k ≤ j := by decide) (hg : Gl X x := by rfl)
    (hdb : (x == ("__debug__" : Str)) = false := by decide) (he : starEach (e :: es) X.env = (false, eval e X.env) :: starEach es X.env := by rfl) (hpl : (backTo pos (starEach es X.env)).any (·.1) = false := by rfl) : PD X C W (.Call (.Name x p) (e :: es) [] pos) (eFn n F fs) := by
  obtain ⟨f, fd, FO, hm, kp, b⟩ := c.ex
  exact pd_of (pe_callS FO (hr.mono hk) hg hm kp b (fun σ => passAt tk σ) ha hdb he hpl) fun S H σ ρ Q L p => fn_of_d L p
theorem pod_fn {F : List D → Res (List D)} (c : Cal X.prog X.w X.K X.mg X.base k x ps (spO C n F)) (hr : Room j X.A) (tk : Takes X W) (ha : PAD X C W (e :: es) fs) (hk : k ≤ j := by decide) (hg : Gl X x := by rfl)
    (hdb : (x == ("__debug__" : Str)) = false := by decide) (he : starEach (e :: es) X.env = (false, eval e X.env) :: starEach es X.env := by rfl) (hpl : (backTo pos (starEach es X.env)).any (·.1) = false := by rfl) : POD X C W (.Call (.Name x p) (e :: es) [] pos) (oFn n F fs) := by
  obtain ⟨f, fd, FO, hm, kp, b⟩ := c.ex
  refine PE.imp (pe_callS FO (hr.mono hk) hg hm kp b (fun σ => passAt tk σ) ha hdb he hpl) fun σ H Q ⟨S, ρ, L, p⟩ => ⟨S, ρ, L, p.seq fun ds ρ1 _ p1 => fun vs S1 H1 g1 r1 => ?_⟩
  dsimp only at p1
  by_cases hn : ds.length = n
  · rw [if_pos hn] at p1
    refine ⟨S1, ds, g1.lk.sub, r1, hn, ?_⟩
    cases z : F ds with
    | ok d =>
      rw [z] at p1
      intro q us S2 H2 ad h1 h2 h3 h0
      have g2 := g1.trans (.of0 g1.lk ad)
      refine p1 q us S2 H2 g2 h1 h2 h3 (g1.adv.dm q h0) fun ow => ?_
      obtain ⟨⟨ws, y⟩, _⟩ := g1.lk.ow ow
      rw [h0] at y; cases y
    | exc y =>
      rw [z] at p1
      exact fun cls dd S2 H2 ad xo => p1 cls dd S2 H2 σ rfl (g1.adv.trans ad.any g1.ow) xo
    | bad => rw [z] at p1; exact p1.elim
  · rw [if_neg hn] at p1; exact p1.elim
/-- f(x, ..), x an own list that f changes -/
theorem pd_fnM (i : Nat) {F : List D → List D → Res (D × List D)} {y : Str} {py : Pos} (c : Cal X.prog X.w X.K X.mg X.base k x ps (spM C n F)) (hr : Room j X.A) (tk : Takes X W) (ha : PAD X C W es fs) (hk : k ≤ j := by decide) (hg : Gl X x := by rfl)
    (hN : X.N[i]? = some y := by rfl) (hv : Vis X.env.scope y := by first | exact Or.inl rfl | exact Or.inr (Or.inl rfl) | exact Or.inr (Or.inr rfl)) (hd : (y == ("__debug__" : Str)) = false := by decide) (hcd : (y == ("__classdict__" : Str)) = false := by decide)
    (hdb : (x == ("__debug__" : Str)) = false := by decide) (he : starEach (.Name y py :: es) X.env = (false, eval (.Name y py) X.env) :: starEach es X.env := by rfl) (hpl : (backTo pos (starEach es X.env)).any (·.1) = false := by rfl) : PD X C W (.Call (.Name x p) (.Name y py :: es) [] pos) (eFnM i n F fs) := by
  obtain ⟨f, fd, FO, hm, kp, b⟩ := c.ex
  refine pd_of (pe_callS FO (hr.mono hk) hg hm kp b (fun σ => passAt tk σ) (pa_cons (pe_var hN hv hd hcd) ha he) hdb he hpl) fun S H σ ρ Q L p => ?_
  unfold eFnM at p
  cases z : ρ[i]? with
  | none => rw [z] at p; exact p.elim
  | some s =>
    rw [z] at p
    cases s with
    | no => exact p.elim
    | val d => exact p.elim
    | own ms0 =>
      obtain ⟨q, us0, h1, h2, _⟩ := L.owns i ms0 z
      refine ⟨_, h1, S, ρ, L, p.seq fun ds ρ1 _ p1 => fun vs S1 H1 g1 r1 => ?_⟩
      dsimp only at p1
      by_cases hn : ds.length = n
      · rw [if_pos hn] at p1
        cases z1 : ρ1[i]? with
        | none => rw [z1] at p1; exact p1.elim
        | some s =>
          rw [z1] at p1
          cases s with
          | no => exact p1.elim
          | val d => exact p1.elim
          | own ms =>
            obtain ⟨q', us, f1, f2, f3, f4⟩ := g1.lk.owns i ms z1
            rw [h1] at f1; cases f1
            have ow1 : Ow σ ρ1 q := ⟨i, ms, z1, h1⟩
            refine ⟨S1, q, us, ms, vs, ds, rfl, g1.lk.sub, f2, f3, f4, r1, hn, ?_⟩
            dsimp only at p1
            cases zF : F ms ds with
            | ok d =>
              rw [zF] at p1
              intro v S2 H2 us2 ad y1 y2 y3 rv
              exact p1 v S2 H2 (g1.trans (Go.change g1.lk z1 h1 ad y1 y2 y3)) rv
            | exc y =>
              rw [zF] at p1
              exact fun cls dd S2 H2 ad xo => p1 cls dd S2 H2 σ rfl (g1.adv.trans ad fun a ha => by
                rw [ha]
                exact g1.ow q ow1) xo
            | bad => rw [zF] at p1; exact p1.elim
      · rw [if_neg hn] at p1; exact p1.elim
/-- f() -/
theorem pd_fn0 {F : List D → Res D} (c : Cal X.prog X.w X.K X.mg X.base k x ps (spD C 0 F)) (hr : Room j X.A) (hx : NoX (F [])) (hk : k ≤ j := by decide) (hg : Gl X x := by rfl)
    (hdb : (x == ("__debug__" : Str)) = false := by decide) : PD X C W (.Call (.Name x p) [] [] pos) (eFn 0 F aNil) := by
  obtain ⟨f, fd, FO, hm, kp, b⟩ := c.ex
  have hp : Passes (L2.CX X.prog X.w) X L2.E0 := passL
  refine pd_of (pe_call0 FO (hr.mono hk) hg hm kp b .nil hp hdb) fun S H σ ρ Q L p => ?_
  show spD C 0 F ([] ++ []) H Q L2.E0
  refine ⟨S, [], L.sub, .nil, rfl, ?_⟩
  have p1 : Post C W S H σ ρ ((F []).bind fun d => Res.ok (d, ρ)) (KD S H σ ρ Q) := p
  cases z : F [] with
  | ok d =>
    rw [z] at p1
    exact fun v S2 H2 ad r2 => p1 v S2 H2 (.of0 L ad) r2
  | exc y => exact (hx y z).elim
  | bad => rw [z] at p1; exact p1.elim
/-! keywords alone -/
def kNil : LF := aNil
abbrev PKD (X : Cx) (C : XC) (W : WX) (kws : List Keyword) (f : LF) : Prop := PK X kws (tA C W f)
theorem PK.imp {kws : List Keyword} {t t' : TA} (h : PK X kws t) (i : ∀ σ H Q, t' σ H Q → t σ H Q) : PK X kws t' := ⟨fun pos pins s σ H Q I hw => h.run pos pins s σ H Q I (i _ _ _ hw)⟩
theorem pkd_nil : PKD X C W [] aNil := PK.imp pk_nil fun σ H Q ⟨S, ρ, L, p⟩ => p [] S H (.refl L) .nil
theorem pkd_cons {nm : Option Str} {kpos : Pos} {kws : List Keyword} {fa : EF} (ha : PD X C W e fa) (hr : PKD X C W kws fs) : PKD X C W (⟨nm, e, kpos⟩ :: kws) (aCons fa fs) :=
  PK.imp (pk_cons ha hr) fun σ H Q ⟨S, ρ, L, p⟩ => ⟨S, ρ, L, p.seq fun d ρ1 _ p1 => fun v S1 H1 g1 r1 => ⟨S1, ρ1, g1.lk, (Post.a g1 p1).seq fun ds ρ2 _ p2 => fun vs S2 H2 g2 r2 => p2 (v :: vs) S2 H2 g2 (.cons (r1.up g2.adv.ss) r2)⟩⟩
/-- the keywords' values in the parameters' order: place i takes the is[i]-th -/
def permL {α : Type} (is : List Nat) (xs : List α) : List α := is.filterMap fun i => xs[i]?
theorem permL_rp {S : Hp} {vs : List V} {ds : List D} (r : RpAll S vs ds) : ∀ is : List Nat, RpAll S (permL is vs) (permL is ds)
  | [] => .nil
  | i :: is => by
    have ih := permL_rp r is
    unfold permL at ih ⊢
    rw [List.filterMap_cons, List.filterMap_cons]
    cases z : ds[i]? with
    | none =>
      have : vs[i]? = none := by
        rw [List.getElem?_eq_none_iff] at z ⊢
        rw [r.length]; exact z
      rw [this]
      exact ih
    | some d =>
      obtain ⟨v, h1, h2⟩ := r.get z
      rw [h1]
      exact .cons h2 ih
theorem permL_vals {vs : List V} {us : List Value} (r : Vals vs us) : ∀ is : List Nat, Vals (permL is vs) (permL is us)
  | [] => .nil
  | i :: is => by
    have ih := permL_vals r is
    unfold permL at ih ⊢
    rw [List.filterMap_cons, List.filterMap_cons]
    cases z : vs[i]? with
    | none =>
      have : us[i]? = none := r.none_of z
      rw [this]
      exact ih
    | some d =>
      obtain ⟨v, h1, h2⟩ := r.get z
      rw [h1]
      exact .cons h2 ih
/-- a def that may be called by keywords alone, in the order ks -/
structure CalK (P : Program) (w : World) (K : PySem.W.Frag) (mg : Str → Option Value) (base : Heap) (k : Nat) (x : Str) (ks : List Str) (is : List Nat) (sp : Sp) : Prop where
  ex : ∃ (f : Addr) (fd : FuncData) (ps : List Str), FnOk P w K mg base (L2.CX P w) k f fd ps sp ∧ mg x = some (.ref f) ∧ PySem.W.keepIn K (.ref f) = true ∧
    ∀ (s : Shared) (ws : List Value), K.In s.heap → (permL is ws).length = ps.length → BindsTo s fd ⟨[], ks.zip ws⟩ (ps.zip (permL is ws))
def eFnK (n : Nat) (is : List Nat) (F : List D → Res D) (fs : LF) : EF := fun ρ => (fs ρ).bind fun a => if (permL is a.1).length = n then (F (permL is a.1)).bind fun d => .ok (d, a.2) else .bad
theorem pd_fnK {ks : List Str} {is : List Nat} {kws : List Keyword} {F : List D → Res D} (c : CalK X.prog X.w X.K X.mg X.base k x ks is (spD C n F)) (hr : Room j X.A) (tk : Takes X W) (ha : PKD X C W kws fs) (hk : k ≤ j := by decide) (hg : Gl X x := by rfl)
    (hall : (backToKw pos (keywordEach kws X.env)).all (·.1.isSome) = true := by rfl) (hks : (backToKw pos (keywordEach kws X.env)).filterMap (·.1) = ks := by rfl)
    (hdb : (x == ("__debug__" : Str)) = false := by decide) (hpl : ((backTo pos (starEach [] X.env)).any (·.1) || (backToKw pos (keywordEach kws X.env)).any (·.1.isNone)) = false := by rfl) : PD X C W (.Call (.Name x p) [] kws pos) (eFnK n is F fs) := by
  obtain ⟨f, fd, ps, FO, hm, kp, b⟩ := c.ex
  refine ⟨fun pins s σ H Q I ⟨S, ρ, L, p⟩ => ?_⟩
  refine wpAny_Call_Name_kw (ld_glob I hg hm ?_ hdb)
  refine PySem.W.callWith_KW0 (h₀ := X.base) I.ok.mod.kin kp hall ?_ hpl
  refine thn (ha.run pos pins s σ H (fun zs H1 => spD C n F (permL is zs) H1 Q (WE W σ)) I ⟨S, ρ, L, p.seq fun ds ρ1 _ p1 => fun vs S1 H1 g1 r1 => ?_⟩) fun ws s2 ⟨zs, H2, I2, rz, q2⟩ => ⟨I2.kIn, ?_⟩
  · dsimp only at p1
    by_cases hn : (permL is ds).length = n
    · rw [if_pos hn] at p1
      refine ⟨S1, _, g1.lk.sub, permL_rp r1 is, hn, ?_⟩
      cases z : F (permL is ds) with
      | ok d =>
        rw [z] at p1
        exact fun v S2 H2 ad r2 => p1 v S2 H2 (g1.trans (.of0 g1.lk ad)) r2
      | exc y =>
        rw [z] at p1
        exact fun cls dd S2 H2 ad xo => p1 cls dd S2 H2 σ rfl (g1.adv.trans ad.any g1.ow) xo
      | bad => rw [z] at p1; exact p1.elim
    · rw [if_neg hn] at p1; exact p1.elim
  · rw [hks]
    have hl : (permL is ws).length = ps.length := by
      rw [← (permL_vals rz is).length]
      exact FO.len _ _ _ _ q2
    refine wpAny_call (codeAny_mono (FO.run X.A X.stack s2 H2 ⟨[], ks.zip ws⟩ (permL is ws) (permL is zs) Q (WE W σ) (hr.mono hk) I2.env0 (b s2 ws I2.kIn hl) (permL_vals rz is) q2) fun r s' hq => ?_)
    cases r with
    | error e => exact passAt tk σ pins H2 s2 e s' I2 hq
    | ok fl =>
      cases fl with
      | ret u => exact I2.after hq
      | next => exact False.elim hq
      | brk => exact False.elim hq
      | cont => exact False.elim hq
end
end GN

set_option Elab.async false
set_option linter.all false
set_option maxRecDepth 100000
set_option maxHeartbeats 4000000
/-! G10: products, index, list(range(..)), enumerate of a list or a tuple. -/
namespace GN
open PySem PySem.Spec PyProof.Rows L2
section
variable {X : Cx} {C : XC} {W : WX} {pos p : Pos} {a b e : Expr} {es : List Expr} {fa fb : EF} {fs : LF}
theorem o_repT {K : PySem.W.Frag} : Op2 (rRepT K) repT := by
  intro S H x y a b d Q ss ra rb e q
  cases a <;> cases b <;> simp only [repT] at e <;> first | cases e | skip
  rename_i xs k
  split at e
  · rename_i hf
    cases e
    obtain ⟨h1, h2⟩ := Bool.and_eq_true_iff.mp hf
    have h3 := of_decide_eq_true h1
    have h4 := of_decide_eq_true h2
    cases rb
    cases ra with
    | tup ea r1 =>
      refine ⟨_, k, _, rfl, rfl, .of (ss _ _ ea), fun z => ?_, h4.1, h4.2, by rw [r1.length]; exact h3.2, fun p hp => q _ _ _ (Adv.new ss hp) (.tup upd_same ((r1.flat _).up (Adv.new ss hp).ss))⟩
      subst z
      cases r1
      exact h3.1 rfl
  · cases e
def mulF (a b : D) : Res D := match mulI a b with
  | .ok d => .ok d
  | _ => match repL a b with
    | .ok d => .ok d
    | _ => repT a b
theorem pd_mul (ha : PD X C W a fa) (hb : PD X C W b fb) : PD X C W (.BinOp a .Mult b pos) (eOp mulF fa fb) :=
  pd_op (op_mulG.or (op_rep.or op_repT)) (o_mulI.or (o_repL.or o_repT)) ha hb
/-- the first place of an int in a list of ints -/
def idxI (i : Int) : List Int → Option Nat
  | [] => none
  | j :: r => if j = i then some 0 else (idxI i r).map (· + 1)
theorem idxI_at {i : Int} : ∀ {ns : List Int} {j : Nat}, idxI i ns = some j → ns[j]? = some i ∧ ∀ m, m < j → ns[m]? ≠ some i
  | [], _, e => by cases e
  | n :: r, j, e => by
    unfold idxI at e
    split at e
    · rename_i h
      cases e
      exact ⟨by rw [h]; rfl, fun m hm => by omega⟩
    · rename_i h
      cases z : idxI i r with
      | none => rw [z] at e; cases e
      | some k =>
        rw [z] at e
        cases e
        obtain ⟨h1, h2⟩ := idxI_at z
        refine ⟨by simpa using h1, fun m hm => ?_⟩
        cases m with
        | zero => intro q; exact h (Option.some.inj q)
        | succ m =>
          have h3 : m + 1 < k + 1 := hm
          simpa using h2 m (by omega)
def eIndex (fa fb : EF) : EF := fun ρ => (fa ρ).bind fun a => match a.1 with
  | .list ds => (fb a.2).bind fun b => (match b.1, intsOf ds with
    | .int i, some ns => (match idxI i ns with
      | some j => .ok (.int (j : Nat), b.2)
      | none => .bad)
    | _, _ => .bad)
  | _ => .bad
theorem pd_index {apos cpos : Pos} (ha : PD X C W a fa) (hb : PD X C W b fb)
    (hbase : attributeBase a "index" X.env (eval a X.env) = eval a X.env := by rfl)
    (hfew : ((backTo cpos (starEach [b] X.env)).all (fun x => !x.1) && (backToKw cpos (keywordEach [] X.env)).all (fun x => x.1.isSome)
      && decide ([b].length + ([] : List Keyword).length + (if ([] : List Keyword).isEmpty then 0 else 1) < 30)) = true := by rfl)
    (hline : (apos.endLine == cpos.line) = true := by rfl) (hs : starEach [b] X.env = (false, eval b X.env) :: starEach [] X.env := by rfl) (hplain : (backTo cpos (starEach [] X.env)).any (·.1) = false := by rfl) :
    PD X C W (.Call (.Attribute a "index" apos) [b] [] cpos) (eIndex fa fb) :=
  pd_of (pe_bm PySem.F.plainAttrs_list PySem.F.slot_list_index PySem.F.type_list_index mt_index ha (pa_cons hb pa_nil hs) hbase hfew hline hs hplain) fun S H σ ρ Q L p => by
    refine ⟨S, ρ, L, p.seq fun d ρ1 e1 p1 => fun v S1 H1 g1 r1 => ?_⟩
    obtain ⟨ds, rfl⟩ : ∃ ds, d = .list ds := by
      cases d with
      | list ds => exact ⟨ds, rfl⟩
      | _ => exact p1.elim
    cases r1 with
    | lst ea r =>
      refine ⟨.inl ⟨rfl, _, .of (g1.lk.sub _ _ ea)⟩, S1, ρ1, g1.lk, (p1.d g1).seq fun d2 ρ2 _ p2 => fun u S2 H2 g2 r2 => ?_⟩
      have p3 := p2.d g2
      dsimp only at p3
      cases d2 with
      | int i =>
        cases r2
        cases z : intsOf ds with
        | none =>
          rw [z] at p3
          exact p3.elim
        | some ns =>
          rw [z] at p3
          dsimp only at p3
          cases y : idxI i ns with
          | none => rw [y] at p3; exact p3.elim
          | some j =>
            rw [y] at p3
            have e2 := intsOf_eq z
            subst e2
            have e3 := r.intsOf
            subst e3
            obtain ⟨h1, h2⟩ := idxI_at y
            refine ⟨_, _, .int i, j, .int i, rfl, rfl, .of (g2.lk.sub _ _ (g2.adv.ss _ _ ea)), rfl, flat_ints ns, by rw [List.getElem?_map, h1]; rfl, ?_, fun m z' hm hz => ?_, p3 _ S2 H2 (.refl g2.lk) (.int _)⟩
            · show (i == i) = true
              simp
            · rw [List.getElem?_map] at hz
              cases w : ns[m]? with
              | none => rw [w] at hz; cases hz
              | some n =>
                rw [w] at hz
                cases hz
                have : n ≠ i := fun q => h2 m hm (by rw [w, q])
                show (n == i) = false
                simp [this]
      | none => exact p3.elim
      | bool _ => exact p3.elim
      | str _ => exact p3.elim
      | list _ => exact p3.elim
      | tuple _ => exact p3.elim
      | dict _ => exact p3.elim
/-- list(range(a, b)): a new list -/
def oLrg2 (fa fb : EF) : LF := fun ρ => (fa ρ).bind fun a => (fb a.2).bind fun b => match a.1, b.1 with
  | .int i, .int j => if decide (-(2 ^ 60) ≤ i ∧ i < 2 ^ 60 ∧ -(2 ^ 60) ≤ j ∧ j < 2 ^ 60 ∧ j - i ≤ 100000) then .ok (rngL i (j - i).toNat, b.2) else .bad
  | _, _ => .bad
theorem rgV_rp {S : Hp} (i j : Int) : RpAll S (rgV i j) (rngL i (j - i).toNat) := by
  unfold rgV rngL
  generalize (j - i).toNat = n
  have key : ∀ l : List Nat, RpAll S (l.map fun k => V.int (i + (k : Nat))) (l.map fun k => PyData.int (i + (k : Nat))) := by
    intro l
    induction l with
    | nil => exact .nil
    | cons k r ih => exact .cons (.int _) ih
  exact key _
theorem pod_lrg2 {p2 p3 : Pos} (hm : X.mg "list" = none) (hm2 : X.mg "range" = none) (ha : PD X C W a fa) (hb : PD X C W b fb) (hgl : Gl X "list" := by rfl) (hgr : Gl X "range" := by rfl) (hc : X.calm = true := by rfl)
    (na : starEach [a, b] X.env = (false, eval a X.env) :: starEach [b] X.env := by rfl) (nb : starEach [b] X.env = (false, eval b X.env) :: starEach [] X.env := by rfl) (hp : (backTo p3 (starEach [b] X.env)).any (·.1) = false := by rfl)
    (ne : starEach [.Call (.Name "range" p2) [a, b] [] p3] X.env = (false, eval (.Call (.Name "range" p2) [a, b] [] p3) X.env) :: starEach [] X.env := by rfl) :
    POD X C W (.Call (.Name "list" p) [.Call (.Name "range" p2) [a, b] [] p3] [] pos) (oLrg2 fa fb) :=
  PE.imp (pe_listRg hc hgl hm (prg_2 hgr hm2 ha hb na nb hp) ne) fun σ H Q ⟨S, ρ, L, p⟩ => ⟨S, ρ, L, p.seq fun d ρ1 _ p1 => fun v S1 H1 g1 r1 => ⟨S1, ρ1, g1.lk, (Post.o g1 p1).seq fun d2 ρ2 _ p2 => fun u S2 H2 g2 r2 => by
    have p3 := Post.o g2 p2
    match d, d2, r1, r2, p3 with
    | .int i, .int j, .int _, .int _, p3 =>
      dsimp only at p3
      by_cases hj : -(2 ^ 60) ≤ i ∧ i < 2 ^ 60 ∧ -(2 ^ 60) ≤ j ∧ j < 2 ^ 60 ∧ j - i ≤ 100000
      · rw [if_pos (decide_eq_true hj)] at p3
        exact ⟨i, j, rfl, rfl, ⟨by omega, by omega, by omega, by omega, by omega⟩, fun q hq => KO.lay p3 (.refl g2.lk) (rgV_rp i j) hq⟩
      · rw [if_neg (by rw [decide_eq_false hj]; exact Bool.false_ne_true)] at p3
        exact p3.elim⟩⟩
/-! enumerate of a tuple -/
def IteT (K : PySem.W.Frag) (a : Addr) : It :=
  ⟨fun i H => ∃ (xs : List V) (x : V), SqT K H a xs ∧ xs[i]? = some x, fun i H v H' => ∃ T x, v = .ref T ∧ H T = none ∧ H' = upd H T (.tup [.int (i : Nat), x]) ∧ ∀ xs, SqT K H a xs → xs[i]? = some x, fun i H => ∃ xs : List V, SqT K H a xs ∧ xs.length = i⟩
theorem enum_ne_tup {h : Heap} {e a it : Addr} {c : Int} {old : Value} {its : Array Value} (he : IsEnum h e it c old) (ht : h.IsTuple a its) : e ≠ a := by
  intro z
  subst z
  obtain ⟨o, h1, h2, _⟩ := ht
  have h3 : h.get? e = some _ := he
  rw [h3] at h1
  cases h1
  exact absurd (Value.type.inj h2) (by decide)
theorem turn_enumT {P : Program} {w : World} {K : PySem.W.Frag} {elts : List Expr} {kk : Nat} {tpos : Pos} (a e it : Addr) :
    Turn P w K (.Tuple elts kk tpos) (IteT K a) [e, it] e (fun i h => (∃ old, IsEnum h e it ((i : Nat) : Int) old) ∧ h.IsTupleIter it a i ∧ e ≠ it) where
  mem := by simp
  obj := fun i h st b hb => by
    obtain ⟨⟨old, he⟩, ⟨o, ho, hc, hd⟩, _⟩ := st
    rcases (show b = e ∨ b = it by simpa using hb) with z | z
    · rw [z]; exact ⟨_, he, fun v q => nomatch q⟩
    · rw [z]; exact ⟨o, ho, fun v q => by rw [hd] at q; cases q⟩
  keep := fun i h h' st k => ⟨st.1.imp fun old he => k e (by simp) _ he, st.2.1.at fun o q => k it (by simp) o q, st.2.2⟩
  item := by
    intro X hP hw hK hc i pins s σ H E I hf st hg
    subst hP hw hK
    obtain ⟨⟨old, he⟩, hit, hne⟩ := st
    obtain ⟨xs, x, hq, hx⟩ := hg
    obtain ⟨its, rv, ht, hz⟩ := I.tuple hq
    have ht' : s.heap.IsTuple a its.toArray := ht
    obtain ⟨u, hu, ru⟩ := rv.get hx
    have lte : e < s.heap.objs.size := Heap.lt_size he
    have lti : it < s.heap.objs.size := by obtain ⟨_, q, _⟩ := hit; exact Heap.lt_size q
    have nit : a ≠ it := by
      intro z
      subst z
      obtain ⟨o, h1, h2, _⟩ := ht'
      obtain ⟨o', h3, h4, _⟩ := hit
      rw [h1] at h3
      cases h3
      rw [h2] at h4
      exact absurd (Value.type.inj h4) (by decide)
    have nea := enum_ne_tup he ht'
    have Dr := Draws.tuple (prog := X.prog) (w := X.w) (A := X.A.in1) (I.ok.hd hc) it a nit its.toArray
    have hsz : i < its.toArray.size := by
      have := (List.getElem?_eq_some_iff.mp hu).1
      simpa using this
    refine wpAny_pyNext_enum_itemC Dr he ⟨hit, ht'⟩ hsz hne (by simp [hne, nea]) fun y h' tk hy ho st' hT hsz' hk => ?_
    have ey : y = u := by
      have h1 : its.toArray[i]? = some y := hy
      have h2 : its.toArray[i]? = some u := by simpa using hu
      rw [h1] at h2
      exact Option.some.inj h2
    subst ey
    refine ⟨_, rfl, wpAny_letOwnedTupleGo_enum (s := { s with heap := h', toks := tk + 1 }) ho fun h'' he' sb => ?_⟩
    have hT2 : h''.get? s.heap.objs.size = some { cls := .type "tuple", data := .seq #[.int i tk, y] } := (sb.2 _ (Nat.ne_of_gt lte)).trans hT
    have new : ObjOk X.prog X.w (upd H s.heap.objs.size (.tup [.int (i : Nat), x])) h'' s.heap.objs.size (.tup [.int (i : Nat), x]) :=
      ⟨by show 2 ≤ sizeLine; decide, [.int i tk, y], .cons ⟨_, rfl⟩ (.cons ru .nil), ⟨_, hT2, rfl, _, rfl⟩⟩
    have J : Inv X pins σ (upd H s.heap.objs.size (.tup [.int (i : Nat), x])) { s with heap := h'', toks := tk + 1 } :=
      I.turnedNew (ch := [e, it]) (fun b ob hb q => (sb.2 b (fun z => hb (by simp [z]))).trans (hk b ob (fun z => hb (by simp [z])) (fun z => hb (by simp [z])) q)) hf (Nat.le_refl _) new
    refine ⟨.ref s.heap.objs.size, _, J, rfl, ⟨_, x, rfl, I.hok.fresh (Nat.le_refl _), rfl, fun ys hy => by rw [I.tuple_inj hy hq]; exact hx⟩, ⟨⟨y, ?_⟩, st'.1.at fun o q => (sb.2 it (Ne.symm hne)).trans q, hne⟩, fun b hb => ?_⟩
    · rw [show ((i + 1 : Nat) : Int) = (i : Int) + 1 by omega]
      exact he'
    · have hb' : b < s.heap.objs.size := by
        rcases (show b = e ∨ b = it by simpa using hb) with z | z
        · rw [z]; exact lte
        · rw [z]; exact lti
      rw [upd_ne (Nat.ne_of_lt hb')]
      exact (hf b hb).1
  done := by
    intro X hP hw hK hc i pins s σ H E I hf st hg
    subst hP hw hK
    obtain ⟨⟨old, he⟩, hit, hne⟩ := st
    obtain ⟨xs, hq, hx⟩ := hg
    obtain ⟨its, rv, ht, hz⟩ := I.tuple hq
    have ht' : s.heap.IsTuple a its.toArray := ht
    have nit : a ≠ it := by
      intro z
      subst z
      obtain ⟨o, h1, h2, _⟩ := ht'
      obtain ⟨o', h3, h4, _⟩ := hit
      rw [h1] at h3
      cases h3
      rw [h2] at h4
      exact absurd (Value.type.inj h4) (by decide)
    have hl := rv.length
    obtain ⟨f0, f1, f2, f3, f4, f5⟩ := hf it (by simp)
    have Dr := Draws.tuple (prog := X.prog) (w := X.w) (A := X.A.in1) (I.ok.hd hc) it a nit its.toArray
    have hsz : i = its.toArray.size := by rw [List.size_toArray]; omega
    subst hsz
    exact wpAny_pyNext_enum_endD Dr he ⟨hit, ht'⟩ fun h' eb => ⟨rfl, I.turned (t' := s.toks) (fun b o hb q => eb b o hb q) f0 f1 f3 f4 f5⟩
  self := fun A i s Q E st h => let ⟨⟨_, he⟩, _⟩ := st; wpAny_pyIter_enum he h
theorem meets_enumT {v : Value} {o : Obj} {HH : Heap → Prop} (B : Begins v o HH) :
    Meets (Builtin.«enumerate.__new__» ⟨[.type "enumerate", v], []⟩) (fun _ R s => HH s.heap ∧
      R (.ok (.ret (.ref (s.heap.push o).objs.size))) { s with heap := (s.heap.push o).push { cls := .type "enumerate", data := .fields #[.none, .bool false, .ref s.heap.objs.size, rawInt 0, .none, .none] } }) :=
  .of_wp fun prog w A R s h => by
    obtain ⟨hp, g, d, tk, os⟩ := s
    obtain ⟨hl, h⟩ := h
    have hsub := sub_enumerate
    have it : ∀ {A : Around} {E : Value → Shared → Prop} {Q : Value → Shared → Prop}, Q (.ref hp.objs.size) ⟨hp.push o, g, d, tk, os⟩ → wpAny (model prog w) A (pyIter v) Q E ⟨hp, g, d, tk, os⟩ := fun {A E Q} q => B.iter prog w A E ⟨hp, g, d, tk, os⟩ Q hl q
    wp_walk using it
    refine wpAny_stack_any fun st => wpAny_pure ?_
    split
    · rename_i c _ _ _ _ _
      cases (c == Value.type "enumerate")
      · wp_walk using it
        exact ⟨_, rfl, h⟩
      · wp_walk using it
        exact ⟨_, rfl, h⟩
    · wp_walk using it
      exact ⟨_, rfl, h⟩
end
end GN

set_option Elab.async false
set_option linter.all false
set_option maxRecDepth 100000
set_option maxHeartbeats 4000000
/-! G11: enumerate over a list or a tuple. -/
namespace GN
open PySem PySem.Spec PyProof.Rows L2
section
variable {prog : Program} {w : World} {A : Around} {E : Value → Shared → Prop} {s : Shared}
/-- enumerate(v): two new cells -/
theorem call_enumB {v : Value} {o : Obj} {HH : Heap → Prop} {Q : Value → Shared → Prop} (B : Begins v o HH) (h1 : HH s.heap)
    (h : ∀ g, IsEnum g (s.heap.objs.size + 1) s.heap.objs.size 0 .none → g.get? s.heap.objs.size = some o → (∀ b u, s.heap.get? b = some u → g.get? b = some u) → Q (.ref (s.heap.objs.size + 1)) { s with heap := g }) :
    wpAny (model prog w) A (call (.type "enumerate") [v]) Q E s := by
  refine callType_new F.called_enumerate (by decide) (F.typeCall_enumerate_1 v) (F.newCall_enumerate_1 v) (fun ob => F.args_object_init_2 ob v) F.entry_enumerate_new (meets_enumT B) ⟨h1, ?_⟩
  have hz : (s.heap.push o).objs.size = s.heap.objs.size + 1 := by rw [Heap.size_push]
  have he : IsEnum ((s.heap.push o).push { cls := .type "enumerate", data := .fields #[.none, .bool false, .ref s.heap.objs.size, rawInt 0, .none, .none] }) (s.heap.objs.size + 1) s.heap.objs.size 0 .none := by
    have q := Heap.get?_push_size (s.heap.push o) (o := { cls := .type "enumerate", data := .fields #[.none, .bool false, .ref s.heap.objs.size, rawInt 0, .none, .none] }) rfl
    rw [hz] at q
    exact q
  show _ ∧ _
  rw [hz]
  exact ⟨⟨_, he, rfl⟩, h _ he (Heap.get?_push_of_some _ (Heap.get?_push_size _ B.free)) fun b u q => Heap.get?_push_of_some _ (Heap.get?_push_of_some _ q)⟩
end
section
variable {X : Cx} {C : XC} {W : WX} {pos p tpos : Pos} {e : Expr} {f : EF} {elts : List Expr} {kk : Nat}
def iEnT (K : PySem.W.Frag) (ta : TA) : TI := fun σ H R => ta σ H fun vs H1 => ∃ a xs, vs = [.ref a] ∧ SqT K H1 a xs ∧ R (IteT K a) H1
theorem pi_enT {ta : TA} (hg : Gl X "enumerate") (hm : X.mg "enumerate" = none) (ha : PA X [e] ta) (hs : starEach [e] X.env = [(false, eval e X.env)] := by rfl) :
    PI X (.Tuple elts kk tpos) (.Call (.Name "enumerate" p) [e] [] pos) (iEnT X.K ta) := by
  refine ⟨fun pins s σ H R I h => ?_⟩
  refine Call_ (ld_blt I hg hm boot_enumerate (PyProof.Rows.callWith_type1 (thn (ha.run pos pins s σ H _ I h) fun us t ⟨vs, H1, J, r1, a, xs, ex, hq, q⟩ => ?_) hs rfl))
  subst ex
  cases r1 with
  | cons r rr =>
    cases rr
    cases r
    obtain ⟨its, rv, ht, hz⟩ := J.tuple hq
    refine call_enumB (begins_tuple a its.toArray) ht fun g he hit hk => wpAny_pyIter_enum he ?_
    have J2 : Inv X pins σ H1 { t with heap := g } := J.kept (t' := t.toks) hk
    refine ⟨t.heap.objs.size + 1, [t.heap.objs.size + 1, t.heap.objs.size], _, _, H1, rfl, J2, turn_enumT a (t.heap.objs.size + 1) t.heap.objs.size, ⟨⟨.none, he⟩, ⟨_, hit, rfl, rfl⟩, Nat.succ_ne_self _⟩, fun b hb => ?_, q⟩
    have hle : t.heap.objs.size ≤ b := by
      rcases (show b = t.heap.objs.size + 1 ∨ b = t.heap.objs.size by simpa using hb) with z | z
      · rw [z]; exact Nat.le_succ _
      · rw [z]; exact Nat.le_refl _
    exact J.fpOk hle (J.hok.fresh hle)
theorem iter_enumT {K : PySem.W.Frag} {a : Addr} {us : List V} {ds : List D} {S0 : Hp} (h1 : S0 a = some (.tup us)) (r1 : RpAll S0 us ds) : IterOk (IteT K a) (enumD 0 ds) S0 := by
  unfold IterOk
  rw [enumD_len, ← r1.length]
  refine ⟨fun i H hi ss => ⟨us, us[i], .of (ss _ _ h1), by simp [hi]⟩, fun H ss => ⟨us, .of (ss _ _ h1), rfl⟩, fun i H v H' hi ss y S s1 s2 => ?_⟩
  obtain ⟨T, x, rfl, hT, rfl, e1⟩ := y
  obtain ⟨d, f1, q1⟩ := r1.getV (e1 us (.of (ss _ _ h1)))
  obtain ⟨S', ad, r⟩ := pair_adv s2 hT (Rp.int (i : Nat)) (q1.up s1)
  have e3 := enumD_get (n := 0) f1
  rw [Nat.zero_add] at e3
  exact ⟨S', ad, _, e3, r⟩
def iEnumF (f : EF) : LF := fun ρ => (f ρ).bind fun a => match a.1 with
  | .list ds | .tuple ds => .ok (enumD 0 ds, a.2)
  | _ => .bad
theorem pi_en (hm : X.mg "enumerate" = none) (h : PD X C W e f) (hg : Gl X "enumerate" := by rfl) (hs : starEach [e] X.env = [(false, eval e X.env)] := by rfl) (hs2 : starEach [e] X.env = (false, eval e X.env) :: starEach [] X.env := by rfl) : PID X C W (.Tuple elts kk tpos) (.Call (.Name "enumerate" p) [e] [] pos) (iEnumF f) := by
  refine ⟨fun pins s σ H R I ⟨S, ρ, L, p⟩ => ?_⟩
  unfold iEnumF at p
  cases z : f ρ with
  | ok a =>
    obtain ⟨d, ρ1⟩ := a
    rw [z] at p
    cases d with
    | list ds =>
      refine (pi_enum hg hm (pa_cons h pa_nil hs2) hs).run pins s σ H R I ⟨S, ρ, L, ?_⟩
      rw [z]
      exact fun v S1 H1 g1 r1 => by
        cases r1 with
        | lst ea r => exact ⟨_, _, rfl, .of (g1.lk.sub _ _ ea), p _ S1 H1 g1 (iter_enumL ea r)⟩
    | tuple ds =>
      refine (pi_enT hg hm (pa_cons h pa_nil hs2) hs).run pins s σ H R I ⟨S, ρ, L, ?_⟩
      rw [z]
      exact fun v S1 H1 g1 r1 => by
        cases r1 with
        | tup ea r => exact ⟨_, _, rfl, .of (g1.lk.sub _ _ ea), p _ S1 H1 g1 (iter_enumT ea r)⟩
    | _ => exact p.elim
  | exc x =>
    rw [z] at p
    refine (pi_enum hg hm (pa_cons h pa_nil hs2) hs).run pins s σ H R I ⟨S, ρ, L, ?_⟩
    rw [z]
    exact p
  | bad =>
    rw [z] at p
    exact p.elim
end
/-! ### the program's text, what the top has left -/
def top (i : Nat) : Stmt := PySem.Challenge.pw_glidenames_k41_whole_from_when_to_when_a.main.body.getD i (.Pass ⟨0, 0, 0, 0⟩)
end GN

set_option Elab.async false
set_option linter.all false
set_option maxRecDepth 100000
set_option maxHeartbeats 4000000
/-! G12: while, the place in a tuple, texts joined, an own error without a field. -/
namespace GN
open PySem PySem.Spec PyProof.Rows L2
/-! ### while, with fuel -/
def whL (t : TF) (b : SF) : Nat → SF
  | 0 => sBad
  | n + 1 => fun ρ => (t ρ).bind fun k => if k.1 then (b k.2).bind fun a => (match a.1 with
      | .nx => whL t b n a.2
      | .ct => whL t b n a.2
      | .bk => .ok (.nx, a.2)
      | .rt d => .ok (.rt d, a.2)
      | .ro es => .ok (.ro es, a.2)) else .ok (.nx, k.2)
def sWh (fu : En → Nat) (t : TF) (b : SF) : SF := fun ρ => whL t b (fu ρ) ρ
def fuelI (i : Nat) : En → Nat := fun ρ => match ρ[i]? with
  | some (.val (.int n)) => n.natAbs + 2
  | _ => 0
section
variable {X : Cx} {C : XC} {W : WX} {pos : Pos}
theorem ps_w (fu : En → Nat) {c : Expr} {body : List Stmt} {t : TF} {b : SF} (hc : PTD X C W c t) (hb : PSSD X C W body b) (hp : PassesOwn (model X.prog X.w) X.A X.env X.xe) : PSD X C W (.While c body [] pos) (sWh fu t b) :=
  PS.imp (ps_while hp hc hb) fun Dn σ H ⟨S, ρ, L, p⟩ => by
    refine ⟨fun m σ2 H2 => ∃ S2 ρ2, Lk S2 H2 σ2 ρ2 ∧ Go S H σ ρ S2 H2 σ2 ρ2 ∧ Post C W S2 H2 σ2 ρ2 (whL t b m ρ2) (KS S2 H2 σ2 ρ2 Dn), ⟨fu ρ, S, ρ, L, .refl L, p⟩, ?_⟩
    rintro m σ2 H2 ⟨S2, ρ2, L2, g2, p2⟩
    cases m with
    | zero => exact p2.elim
    | succ m =>
      unfold whL at p2
      refine ⟨S2, ρ2, L2, p2.seq fun k ρ3 _ p3 => fun S3 H3 g3 => ?_⟩
      cases k with
      | true =>
        rw [if_pos rfl]
        refine ⟨fun σ' H' => ∃ S' ρ', Lk S' H' σ' ρ' ∧ Go S H σ ρ S' H' σ' ρ' ∧ Post C W S' H' σ' ρ' (whL t b m ρ') (KS S' H' σ' ρ' Dn), fun σ' H' h => ⟨m, Nat.lt_succ_self m, h⟩, S3, ρ3, g3.lk, ?_⟩
        have p4 : Post C W S2 H2 σ2 ρ2 ((b ρ3).bind fun a => (match a.1 with
          | .nx => whL t b m a.2
          | .ct => whL t b m a.2
          | .bk => .ok (.nx, a.2)
          | .rt d => .ok (.rt d, a.2)
          | .ro es => .ok (.ro es, a.2))) (KS S2 H2 σ2 ρ2 Dn) := p3
        refine (Post.s g3 p4).seq fun a ρ4 _ p5 => ?_
        cases a with
        | nx => exact fun S4 H4 σ4 g4 => ⟨S4, ρ4, g4.lk, g2.trans (g3.trans g4), Post.s g4 p5⟩
        | ct => exact fun S4 H4 σ4 g4 => ⟨S4, ρ4, g4.lk, g2.trans (g3.trans g4), Post.s g4 p5⟩
        | bk => exact fun S4 H4 σ4 g4 => p5 S4 H4 σ4 g4
        | rt d => exact p5
        | ro es => exact p5
      | false =>
        rw [if_neg Bool.false_ne_true]
        have p4 : ∀ (S' H' : Hp) (σ' : St), Go S2 H2 σ2 ρ2 S' H' σ' ρ3 → Dn.nx σ' H' := p3
        exact p4 S3 H3 σ2 g3
/-! ### the place in a tuple -/
def rIndexT (K : PySem.W.Frag) : V → List V → Hp → VK → Prop := fun x xs H Q => ∃ (a : Addr) (ys : List V) (y : V) (j : Nat) (z : V), x = V.ref a ∧ xs = [y] ∧ SqT K H a ys ∧ flatV y = true ∧ ys.all flatV = true ∧ ys[j]? = some z ∧ eqV z y = true ∧
  (∀ (m : Nat) (z' : V), m < j → ys[m]? = some z' → eqV z' y = false) ∧ Q (.int (j : Nat)) H
theorem mt_tindex : MtR X "tuple.index" (rIndexT X.K) := by
  intro pins s σ H x xs v us Q I rx rs h
  obtain ⟨p, ys, y, j, z, rfl, rfl, hq, fy, fys, hz, hzj, hno, q⟩ := h
  cases rx
  cases rs with
  | cons ry rt =>
    rename_i uy ut
    cases rt
    obtain ⟨its, r, pl, hl0⟩ := I.tuple hq
    obtain ⟨⟨cls, dd, dt, sl⟩, ho, hc, n, hd⟩ := pl
    simp only at hc hd
    subst hc
    subst hd
    have hl : its.toArray.size = ys.length := by rw [List.size_toArray, ← r.length]
    have hj : j < its.toArray.size := by rw [hl]; exact (List.getElem?_eq_some_iff.mp hz).1
    have at' : ∀ (m : Nat) (hm : m < its.toArray.size) (z' : V), ys[m]? = some z' → eqU y its.toArray[m] = eqV z' y := fun m hm z' hz' => by
      obtain ⟨u2, hu2, ru2⟩ := r.get hz'
      obtain ⟨_, hme⟩ := List.getElem?_eq_some_iff.mp hu2
      have e1 : its.toArray[m] = u2 := by simpa using hme
      rw [e1]
      exact eqU_of ru2 (flat_at fys hz')
    refine call_meets PySem.F.slot_tuple_index ⟨_, ho, rfl⟩ PySem.F.entry_tuple_index (PySem.F.args_tuple_index_2 _ _) (TI.tuple_indexAt p its.toArray n dd sl uy (eqU y) j hj ?_ ?_)
      ⟨ho, fun w hw => mem_eqAt ry fy r fys w (by simpa using hw), ⟨.int (j : Nat), H, I.tok _, ⟨_, rfl⟩, q⟩⟩
    · rw [at' j hj z hz]; exact hzj
    · intro m hm hmj
      have hml : m < ys.length := by omega
      rw [at' m hm ys[m] (List.getElem?_eq_getElem hml)]
      exact hno m _ hmj (List.getElem?_eq_getElem hml)
/-! ### texts joined -/
def strsOf : List D → Option (List Str)
  | [] => some []
  | .str x :: r => (strsOf r).map (x :: ·)
  | _ :: _ => none
theorem strsOf_eq : ∀ {ds : List D} {ys : List Str}, strsOf ds = some ys → ds = ys.map PyData.str
  | [], ys, h => by
    unfold strsOf at h
    cases h
    rfl
  | d :: r, ys, h => by
    unfold strsOf at h
    cases d with
    | str x =>
      dsimp only at h
      cases z : strsOf r with
      | none => rw [z] at h; cases h
      | some zs =>
        rw [z] at h
        cases h
        rw [List.map_cons, ← strsOf_eq z]
    | _ => cases h
theorem RpAll.strs {S : Hp} : ∀ {vs : List V} {ns : List Str}, RpAll S vs (ns.map PyData.str) → vs = ns.map V.str
  | _, [], r => by cases r; rfl
  | _, n :: ns, r => by
    cases r with
    | cons a b =>
      cases a
      rw [List.map_cons, RpAll.strs b]
def joinF (a : Str) (ds : List D) : Res D := match strsOf ds with
  | some ys => if decide ((ys.map (·.length)).sum + ys.length * a.length ≤ 16777216) then .ok (.str (Txt.join a ys)) else .bad
  | none => .bad
def eJoin (a : Str) (fb : EF) : EF := fun ρ => (fb ρ).bind fun b => match b.1 with
  | .list ds | .tuple ds => (joinF a ds).bind fun d => .ok (d, b.2)
  | _ => .bad
theorem joinF_ok {a : Str} {ds : List D} {d : D} (h : joinF a ds = .ok d) : ∃ ys, ds = ys.map PyData.str ∧ (ys.map (·.length)).sum + ys.length * a.length ≤ 16777216 ∧ d = .str (Txt.join a ys) := by
  unfold joinF at h
  cases z : strsOf ds with
  | none => rw [z] at h; cases h
  | some ys =>
    rw [z] at h
    dsimp only at h
    by_cases c : (ys.map (·.length)).sum + ys.length * a.length ≤ 16777216
    · rw [if_pos (decide_eq_true c)] at h
      cases h
      exact ⟨ys, strsOf_eq z, c, rfl⟩
    · rw [if_neg (by simpa using c)] at h
      cases h
/-! ### TooMuch() -/
/-- what the top says of an own error class without __init__ -/
structure OwnC (K : PySem.W.Frag) (mg : Str → Option Value) (x : Str) (C : Addr) : Prop where
  g : mg x = some (.ref C)
  q : PySem.W.excIn K C [.type "ValueError", .type "Exception", .type "BaseException", .type "object"] "ValueError.__new__" = true
  k : PySem.W.keepIn K (.ref C) = true
  e : PySem.W.subIn K (.ref C) (.type "BaseException") = some true
  t : PySem.W.typeIn K (.ref C) = some (.type "type")
theorem pmk_own0 {c : Addr} {x : Str} {p pos : Pos} (T : OwnC X.K X.mg x c) (hg : Gl X x) (hdb : (x == ("__debug__" : Str)) = false := by decide) : PMk X (.Call (.Name x p) [] [] pos) (fun _ H Q => Q (.ref c) none H) := by
  intro pins s σ H Q I h
  refine wpAny_Call_Name_kw (ld_glob I hg T.g ?_ hdb)
  refine PySem.W.callWith_K0 I.kIn T.k ?_
  show wpAny _ _ (call (.ref c) []) _ _ _
  obtain ⟨bm, N, nm, qn, bs, hdct, sn, sub, ab, col, dd, k0, k1, k2, k3, k5, mN, hC, hN, hni, T'⟩ := exc_obj I.kIn T.q
  refine wpAny_call_exc_subT F.excBase_ValueError T' hC hN hni (fun h' e hm => ?_) (by show 0 ≤ sizeLine; exact Nat.zero_le _)
  exact mk_of I hm (raises_own T.e T.t) h (I.hok.gone hm.new)
def sTm : SF := fun _ => .exc .tm
theorem ps_tm {p pos pos2 : Pos} (T : OwnC X.K X.mg "TooMuch" C.ct) (tk : Takes X W) (hc : X.calm = true := by rfl) (hg : Gl X "TooMuch" := by rfl) : PSD X C W (.Raise (some (.Call (.Name "TooMuch" p) [] [] pos)) none pos2) sTm :=
  PS.imp (ps_raise hc tk (pmk_own0 T hg)) fun Dn σ H ⟨S, ρ, L, p⟩ => p (.ref C.ct) none S H σ rfl (.refl L.sub) ⟨rfl, rfl⟩
end
section
variable {X : Cx} {C : XC} {W : WX} {pos : Pos}
theorem pd_join {a : Str} {j : Nat} {p0 apos cpos : Pos} {b : Expr} {fb : EF} (hb : PD X C W b fb)
    (hbase : attributeBase (.Constant (.str a) j p0) "join" X.env (eval (.Constant (.str a) j p0) X.env) = eval (.Constant (.str a) j p0) X.env := by rfl)
    (hfew : ((backTo cpos (starEach [b] X.env)).all (fun x => !x.1) && (backToKw cpos (keywordEach [] X.env)).all (fun x => x.1.isSome)
      && decide ([b].length + ([] : List Keyword).length + (if ([] : List Keyword).isEmpty then 0 else 1) < 30)) = true := by rfl)
    (hline : (apos.endLine == cpos.line) = true := by rfl) (hs : starEach [b] X.env = (false, eval b X.env) :: starEach [] X.env := by rfl) (hplain : (backTo cpos (starEach [] X.env)).any (·.1) = false := by rfl) :
    PD X C W (.Call (.Attribute (.Constant (.str a) j p0) "join" apos) [b] [] cpos) (eJoin a fb) :=
  pd_of (pe_bm PySem.F.plainAttrs_str PySem.F.slot_str_join PySem.F.type_str_join mt_join (pe_str (x := a)) (pa_cons hb pa_nil hs) hbase hfew hline hs hplain) fun S H σ ρ Q L p => by
    refine ⟨rfl, S, ρ, L, p.seq fun d ρ1 e1 p1 => fun v S1 H1 g1 r1 => ?_⟩
    have key : ∀ (ds : List D) (q : Addr) (us : List V), RpAll S1 us ds → Post C W S H σ ρ ((joinF a ds).bind fun d => Res.ok (d, ρ1)) (KD S H σ ρ Q) → (SqL X.K H1 q us ∨ SqT X.K H1 q us) →
        ∃ a' p', ∃ ys : List Str, V.str a = .str a' ∧ [V.ref q] = [.ref p'] ∧ (SqL X.K H1 p' (ys.map V.str) ∨ SqT X.K H1 p' (ys.map V.str)) ∧ (ys.map (·.length)).sum + ys.length * a'.length ≤ 16777216 ∧ Q (.str (Txt.join a' ys)) H1 := fun ds q us r p2 hq => by
      cases z : joinF a ds with
      | ok d =>
        rw [z] at p2
        obtain ⟨ys, rfl, h2, rfl⟩ := joinF_ok z
        have e := r.strs
        subst e
        exact ⟨a, q, ys, rfl, rfl, hq, h2, p2 _ S1 H1 g1 (.str _)⟩
      | exc x =>
        unfold joinF at z
        split at z
        · split at z <;> cases z
        · cases z
      | bad => rw [z] at p2; exact p2.elim
    cases r1 with
    | lst ea r => exact key _ _ _ r p1 (.inl (.of (g1.lk.sub _ _ ea)))
    | tup ea r => exact key _ _ _ r p1 (.inr (.of (g1.lk.sub _ _ ea)))
    | _ => exact p1.elim
end
end GN

set_option Elab.async false
set_option linter.all false
set_option maxRecDepth 100000
set_option maxHeartbeats 4000000
/-! G13: NoPlace(name): an own error over LookupError whose __init__ stores a field. -/
namespace GN
open PySem PySem.Spec PyProof.Rows L2
section
open PySem.W PySem.Calls PySem.HandSPX Builtin Builtin.ObjectAttr
abbrev lkTail : List Value := [.type "LookupError", .type "Exception", .type "BaseException", .type "object"]
def npA : Arguments := { posonlyargs := [], args := [{ arg := "self", annotation := none, pos := ⟨5, 17, 5, 21⟩ }, { arg := "place", annotation := none, pos := ⟨5, 23, 5, 28⟩ }], vararg := none, kwonlyargs := [], kw_defaults := [], kwarg := none, defaults := [] }
def npB (q1 q2 q3 q4 : Pos) : List Stmt := [.Assign [.Attribute (.Name "self" q1) "place" q2] (.Name "place" q3) q4]
def npS : Scope := { kind := .function, names := [(PySem.Str.ofString "self", .local), (PySem.Str.ofString "place", .local)], isGenerator := false, isCoroutine := false, more := [] }
/-- what the top says of NoPlace, at c, and of its __init__, at f -/
structure NoC (K : Frag) (mg : Str → Option Value) (c f : Addr) : Prop where
  g : mg "NoPlace" = some (.ref c)
  q : excInitIn K c lkTail "LookupError.__new__" = true
  ov : excOver K c lkTail = true
  hd : hasDictIn K c = true
  sa : findIn K (.ref c) "__setattr__" = some (some (.builtin "object.__setattr__"))
  no : findIn K (.ref c) "place" = some none
  i : findIn K (.ref c) "__init__" = some (some (.ref f))
  t : typeIn K (.ref f) = some (.type "function")
  k : keepIn K (.ref c) = true
  e : subIn K (.ref c) (.type "BaseException") = some true
  ty : typeIn K (.ref c) = some (.type "type")
  fn : ∃ (oc : Value) (od : Option Addr) (doc pm : Value) (an : Option Addr) (cdv ct : Value) (osl : Array (Option Value)) (q1 q2 q3 q4 : Pos),
    K.lookup f = some ⟨oc, od, .func (fnOf "__init__" "NoPlace.__init__" npA (npB q1 q2 q3 q4) npS .none .none doc pm an cdv ct), osl⟩ ∧ codeIn K cdv "NoPlace.__init__" = true
theorem npLd {M : Model} {s : Shared} {name : Str} {scope : Scope} {L a : Addr} {cd : Value} {m : Str → Option Value} {x : Str} {pos : Pos} {v : Value} {Q : Value → Shared → Prop} {A : Around} {E : Value → Shared → Prop} (hn : s.heap.Ns L m) (hv : m x = some v) (h : Q v s)
    (hk : scope.kind = .function := by rfl) (hl : (envOfC name scope L a cd).kindOf x = some .local := by rfl) (hd : (x == ("__debug__" : Str)) = false := by decide) :
    wpAny M A (eval (.Name x pos) (envOfC name scope L a cd)) Q E s := wpAny_Name (wpAny_loadName_local hk hl hn hv h) hd
/-- a made one -/
structure NpMade (h h' : Heap) (e c d : Addr) (v : Value) : Prop where
  keep : ∀ b o, h.get? b = some o → h'.get? b = some o
  new : h.objs.size ≤ e
  obj : ∃ oe vs, h'.get? e = some oe ∧ oe.cls = .ref c ∧ oe.dict = some d ∧ oe.data = .fields vs ∧ vs[1]? = some .none
  dbig : h.objs.size ≤ d
  dne : d ≠ e
  ns : h'.Ns1 d (fun y => if y = "place" then some v else none)
variable {prog : Program} {w : World} {A : Around} {E : Value → Shared → Prop} {R : Result → Shared → Prop} {K : Frag} {mg : Str → Option Value} {c f : Addr}
/-- self.place = v on the new exception at x -/
theorem np_store {hp : Heap} {g : Array GenState} {dr : Drawn} {t : Nat} {os : OsState} {x t0 : Addr} {v : Value} {tk : Tok} (T : NoC K mg c f) (X : K.In hp) (hx : hp.get? x = some (excO c t0))
    (hq : ∀ h' tk' dx, (∀ b o, b ≠ x → hp.get? b = some o → h'.get? b = some o) → hp.objs.size ≤ dx → dx ≠ x → h'.get? x = some { cls := .ref c, dict := some dx, data := .fields #[.ref t0, .none, .none, .none, .bool false, .none] } →
      h'.Ns1 dx (fun y => if y = "place" then some v else none) → R (.ok (.ret .none)) ⟨h', g, dr, tk', os⟩) :
    codeAny (model prog w) A (.call (.builtin "object.__setattr__") ⟨[.ref x, .str "place" tk, v], []⟩) R ⟨hp, g, dr, t, os⟩ := by
  have hxs : x ≠ hp.objs.size := Nat.ne_of_lt (Heap.lt_size hx)
  have ht : takerIn K c "place" = some none := by unfold takerIn; rw [T.no]; rfl
  refine osa_openX (od := none) PySem.F.store_LookupError X ⟨hx, rfl, rfl, trivial⟩ T.ov ht fun b => ?_
  obtain ⟨cd, hc, hd'⟩ := any_some T.hd
  refine wpAny_bind (wpAny_pure (wpAny_bind (instanceDict_exc hx (looks_clsIn X hc) hd' ?_)))
  show wpAny _ _ (storeInDict hp.objs.size (.str "place" tk) "place" v) _ _ _
  refine store_in_new ?_ ?_
  · exact ⟨_, #[], _, (Heap.get?_update_ne _ _ _ _ hxs.symm).trans (Heap.get?_push_at rfl rfl), rfl, fun e he => absurd he (by simp), fun _ => rfl⟩
  · intro h' tk' hn' hs
    have hx₁ : (hp.push (dictOf [] 0)).get? x = some (excO c t0) := Heap.get?_push_of_some _ hx
    refine hq h' tk' hp.objs.size (fun b o hb ho => ?_) (Nat.le_refl _) hxs.symm ?_ hn'
    · exact (hs.2 b (Nat.ne_of_lt (Heap.lt_size ho))).trans ((Heap.get?_update_ne _ _ _ _ hb).trans (Heap.get?_push_of_some _ ho))
    · exact (hs.2 x hxs).trans (Heap.get?_update_self _ hx₁ rfl)
theorem np_init {s : Shared} (T : NoC K mg c f) {x t0 : Addr} {v : Value} (X : K.In s.heap) (hlim : s.heap.NoLimit) (hx : s.heap.get? x = some (excO c t0)) (hroom : A.depth < recursionLimit)
    (hq : ∀ h' tk dx, (∀ b o, b ≠ x → s.heap.get? b = some o → h'.get? b = some o) → s.heap.objs.size ≤ dx → dx ≠ x → h'.get? x = some { cls := .ref c, dict := some dx, data := .fields #[.ref t0, .none, .none, .none, .bool false, .none] } →
      h'.Ns1 dx (fun y => if y = "place" then some v else none) → R (.ok (.ret .none)) { s with heap := h', toks := tk }) :
    codeAny (model prog w) A (.call (.ref f) ⟨[.ref x, v], []⟩) R s := by
  obtain ⟨oc, od, doc, pm, an, cdv, ct, osl, q1, q2, q3, q4, ho, hcd⟩ := T.fn
  refine Att.call_fn (binds := [("self", .ref x), ("place", v)]) X hlim ho hcd hroom (BindsTo.of_eq (by first | rfl | with_unfolding_all rfl)) (by first | rfl | decide | with_unfolding_all rfl) (fun s₁ IC => ?_) rfl rfl rfl
  obtain ⟨h₁, tk₁, rfl⟩ := IC.toInCall.same
  have k : ∀ b o, s.heap.get? b = some o → h₁.get? b = some o := IC.toInCall.keep
  have hn := IC.toInCall.ns
  have X₁ : K.In h₁ := X.keeps k
  have hx₁ := k _ _ hx
  show wpAny _ _ (execs _ _) _ _ _
  refine wpAny_execs_cons (plainObj_wpAny_Assign_Attribute ?_)
  refine npLd (v := v) hn (by first | rfl | with_unfolding_all rfl | kernel_rfl) (npLd (v := .ref x) hn (by first | rfl | with_unfolding_all rfl | kernel_rfl) ?_)
  refine set_plain X₁ (ox := excO c t0) (od := none) ⟨hx₁, rfl, rfl, trivial⟩ T.sa ?_
  refine np_store T X₁ hx₁ fun h₃ tk₃ dx k₃ dn dne hx₃ hn₃ => ?_
  show wpAny _ _ (execs _ _) _ _ _
  have z : s.heap.objs.size < h₁.objs.size := hn.lt
  exact wpAny_execs_nil (hq h₃ tk₃ dx (fun b o hb e => k₃ b o hb (k b o e)) (Nat.le_of_lt (Nat.lt_of_lt_of_le z dn)) dne hx₃ hn₃)
theorem np_made {s : Shared} (T : NoC K mg c f) {v : Value} (X : K.In s.heap) (hlim : s.heap.NoLimit) (hroom : A.depth + 1 < recursionLimit)
    (hq : ∀ h' tk e d, NpMade s.heap h' e c d v → R (.ok (.ret (.ref e))) { s with heap := h', toks := tk }) :
    codeAny (model prog w) A (.call (.ref c) ⟨[v], []⟩) R s := by
  obtain ⟨nm, N, qn, bs, bm, hdct, sn, sub, ab, col, dd, k0, k1, k2, k3, k5, hC, hT⟩ := excInit_of X T.q
  obtain ⟨hp, g, dr, tk, os⟩ := s
  have k : ∀ b o, hp.get? b = some o → ((hp.push (kdv_tup [v])).push (excO c hp.objs.size)).get? b = some o := fun b o e => Heap.get?_push_of_some _ (Heap.get?_push_of_some _ e)
  have hget : ((hp.push (kdv_tup [v])).push (excO c hp.objs.size)).get? (hp.objs.size + 1) = some (excO c hp.objs.size) := by heap_get
  refine call_own PySem.F.excBase_LookupError hT hC (looks_findIn X T.i) (fun self => bind_fn X self T.t) (by rw [sizeLine_eq]; exact (by decide : 1 ≤ 16777216)) ?_
  refine np_init (s := ⟨(hp.push (kdv_tup [v])).push (excO c hp.objs.size), g, dr, tk, os⟩) T (X.keeps k) (hlim.keeps k) hget ?_ fun h' tk' dx k' dn dne hx hns => ?_
  · show A.depth + 1 < recursionLimit
    exact hroom
  · have old : ∀ b o, hp.get? b = some o → h'.get? b = some o := fun b o e => k' b o (Nat.ne_of_lt (Nat.lt_succ_of_lt (Heap.lt_size e))) (k b o e)
    have z : hp.objs.size + 1 + 1 ≤ dx := by
      first
        | (simpa only [Heap.size_push] using dn)
        | exact dn
        | (have q := dn; rw [Heap.size_push, Heap.size_push] at q; exact q)
    exact ⟨rfl, hq h' tk' (hp.objs.size + 1) dx ⟨old, Nat.le_succ _, ⟨_, _, hx, rfl, rfl, rfl, rfl⟩, Nat.le_trans (Nat.le_trans (Nat.le_succ _) (Nat.le_succ _)) z, dne, hns⟩⟩
end
theorem relO_np {v : V} {v' : Value} (r : RelV v v') (f : Str) : RelO (List.lookup f [(("place" : Str), v)]) (if f = "place" then some v' else none) := by
  by_cases hw : f = "place"
  · subst hw
    rw [if_pos rfl]
    have q : List.lookup ("place" : Str) [(("place" : Str), v)] = some v := by simp [List.lookup]
    rw [q]
    exact r
  · rw [if_neg hw]
    have qw : (f == ("place" : Str)) = false := by simpa using hw
    have q2 : List.lookup f [(("place" : Str), v)] = none := by simp [List.lookup, qw]
    rw [q2]
    trivial
section
variable {X : Cx} {c f : Addr}
/-- NoPlace(e) -/
def tMkNp (c : Addr) (ta : TA) : St → Hp → XK → Prop := fun σ H Q => ta σ H fun vs H1 => ∃ v, vs = [v] ∧ ∀ d, H1 d = none → Q (.ref c) (some d) (upd H1 d (.xd [(("place" : Str), v)]))
theorem pmk_np {a : Expr} {ta : TA} {p pos : Pos} {k : Nat} (T : NoC X.K X.mg c f) (hr : Room k X.A) (ha : PA X [a] ta) (hg : Gl X "NoPlace" := by rfl)
    (he : starEach (a :: []) X.env = (false, eval a X.env) :: starEach [] X.env := by rfl) (hpl : (backTo pos (starEach [] X.env)).any (·.1) = false := by rfl) :
    PMk X (.Call (.Name "NoPlace" p) [a] [] pos) (tMkNp c ta) := by
  intro pins s σ H Q I h
  refine wpAny_Call_Name_kw (ld_glob I hg T.g ?_)
  refine PySem.W.callWith_K (h₀ := X.base) I.ok.mod.kin T.k (thn (ha.run pos pins s σ H _ I h) fun us s1 hh => ?_) he hpl
  obtain ⟨vs, H1, I1, r1, v, ev, q1⟩ := hh
  subst ev
  refine ⟨I1.kIn, ?_⟩
  cases r1 with
  | cons rv rn =>
    rename_i v' us'
    cases rn
    show wpAny _ _ (call (.ref c) [v']) _ _ _
    have hlim := I1.nolimit
    obtain ⟨hp, g, dr, tk, os⟩ := s1
    refine wpAny_call (np_made T I1.kIn hlim (by have := hr.dp; omega) fun h' tk' e d M => ?_)
    show MkP X pins σ Q (.ref e) ⟨h', g, dr, tk', os⟩
    obtain ⟨oe, fv, hoe, hc, hd, hdat, h1⟩ := M.obj
    have hns := M.ns
    obtain ⟨G', g1, g2⟩ := restrict h' fun b => decide (b ≠ e)
    have gk : ∀ b, b ≠ e → G'.get? b = h'.get? b := fun b hb => g1 b (decide_eq_true hb)
    have ge : G'.get? e = none := g2 e (by simp)
    have old : ∀ b o, hp.get? b = some o → G'.get? b = some o := fun b o q => (gk b (Nat.ne_of_lt (Nat.lt_of_lt_of_le (Heap.lt_size q) M.new))).trans (M.keep b o q)
    have ob : ObjOk X.prog X.w (upd H1 d (.xd [(("place" : Str), v)])) G' d (.xd [(("place" : Str), v)]) :=
      ⟨_, hns.at (fun o q => (gk d M.dne).trans q), fun f => relO_np rv f⟩
    have J : Inv X pins σ (upd H1 d (.xd [(("place" : Str), v)])) ⟨G', g, dr, tk', os⟩ := I1.laid (t' := tk') old M.dbig ob
    refine ⟨e, oe, fv, ⟨G', g, dr, tk', os⟩, _, .ref c, some d, rfl, J, fun b o q => ?_, ge, hoe, ⟨hc, hd⟩, hdat, h1, ?_, rfl, I1.bare, raises_own T.e T.ty, q1 d (I1.hok.fresh M.dbig)⟩
    · by_cases hb : b = e
      · have q' : G'.get? b = some o := q
        rw [hb, ge] at q'; cases q'
      · exact (gk b hb).symm.trans q
    · rw [upd_ne (Ne.symm M.dne)]
      exact I1.hok.fresh M.new
end
/-- raise NoPlace(e), e an int -/
def sNp (fe : EF) : SF := fun ρ => (fe ρ).bind fun a => match a.1 with
  | .int i => .exc (.np i)
  | _ => .bad
theorem ps_np {X : Cx} {C : XC} {W : WX} {f : Addr} {a : Expr} {fa : EF} {p pos pos2 : Pos} {k : Nat} (T : NoC X.K X.mg C.cn f) (hr : Room k X.A) (tk : Takes X W) (ha : PD X C W a fa) (hc : X.calm = true := by rfl) (hg : Gl X "NoPlace" := by rfl)
    (he : starEach (a :: []) X.env = (false, eval a X.env) :: starEach [] X.env := by rfl) (hpl : (backTo pos (starEach [] X.env)).any (·.1) = false := by rfl) :
    PSD X C W (.Raise (some (.Call (.Name "NoPlace" p) [a] [] pos)) none pos2) (sNp fa) :=
  PS.imp (ps_raise hc tk (pmk_np T hr (pa_cons ha pa_nil he) hg he hpl)) fun Dn σ H ⟨S, ρ, L, q⟩ => ⟨S, ρ, L, q.seq fun d ρ1 _ q1 => fun v S1 H1 g1 r1 => ⟨v, rfl, fun dd hdd => by
    cases d with
    | int i =>
      cases r1
      have q2 : ∀ (cls : Value) (dd : Option Addr) (S' H' : Hp) (σ' : St), σ'.length = σ.length → Adv (Ow σ ρ) S H S' H' → XOk C (.np i) cls dd H' → W cls dd σ' H' := q1
      have ad : Adv NoM S1 H1 S1 (upd H1 dd (.xd [(("place" : Str), V.int i)])) := Adv.lay g1.lk.sub hdd
      exact q2 (.ref C.cn) (some dd) S1 _ σ rfl (g1.adv.trans ad fun _ z => z.elim) ⟨rfl, dd, rfl, upd_same⟩
    | _ => exact q1.elim⟩⟩
end GN

set_option Elab.async false
set_option linter.all false
set_option maxRecDepth 100000
set_option maxHeartbeats 4000000
/-! G14: try with several named clauses; what a suite asks of its error. -/
namespace GN
open PySem PySem.Spec PyProof.Rows L2
/-- what named clauses wish, one after the other: slot i is the name's -/
def wNamed (K : PySem.W.Frag) (Wout : WX) (D : Ends) : List (Value × Nat × (Addr → Value → Option Addr → TS)) → WX
  | [] => Wout
  | (c, i, ts) :: r => fun cls d σ H => ∃ b, PySem.W.exmOne K cls c = some b ∧
      (b = true → ∀ a, H a = none → ts a cls d { nx := fun σ' H' => D.nx (σ'.set i none) H', rt := D.rt, bk := fun σ' H' => D.bk (σ'.set i none) H', ct := fun σ' H' => D.ct (σ'.set i none) H' } (σ.set i (some (.ref a))) H) ∧
      (b = false → wNamed K Wout D r cls d σ H)
inductive HdN (X : Cx) : List ExceptHandler → List (Value × Nat × (Addr → Value → Option Addr → TS)) → Prop
  | nil : HdN X [] []
  | cons {x n : Str} {c : Value} {i : Nat} {ts : Addr → Value → Option Addr → TS} {b₀ : Stmt} {suite : List Stmt} {np pos' : Pos} {hds : List ExceptHandler} {l : List (Value × Nat × (Addr → Value → Option Addr → TS))} (hc : Names X x c) (hi : X.N[i]? = some n) (hln : X.env.kindOf n = some .local)
      (hsu : ∀ (a : Addr) (oe : Obj) (cls : Value) (d : Option Addr) (pn : List (Addr × Obj)), Zc cls d oe → (∃ vs, oe.data = .fields vs) → PSs (X.suite a ((a, oe) :: pn)) (b₀ :: suite) (ts a cls d)) (r : HdN X hds l) :
      HdN X (.ExceptHandler (some (.Name x np)) (some n) (b₀ :: suite) pos' :: hds) ((c, i, ts) :: l)
section
variable {X : Cx} {body : List Stmt} {h₀ : ExceptHandler} {hds : List ExceptHandler} {l : List (Value × Nat × (Addr → Value → Option Addr → TS))} {pos : Pos} {tb : WX → TS} {Wout : WX}
theorem ps_tryN (hs : X.stack = X.env :: X.outer) (hf : X.env.frame = some X.env.locals) (hN : X.N.Nodup) (tk : Takes X Wout)
    (hb : ∀ (W : WX) (pn : List (Addr × Obj)) (xe : Value → Shared → Prop), Takes (X.tr pn xe) W → PassesOwn (model X.prog X.w) X.A X.env xe → PSs (X.tr pn xe) body (tb W))
    (hh : HdN X (h₀ :: hds) l) : PS X (.Try body (h₀ :: hds) [] [] pos) (fun D σ H => tb (wNamed X.K Wout D l) D σ H) := by
  refine ⟨fun pins s σ H D I h => ?_⟩
  have ok := I.ok
  have hfr : X.A.frames = some (X.env :: X.outer) := by rw [ok.frames, hs]
  refine wpAny_Try_except ?_
  refine wpAny_mono ((hb (wNamed X.K Wout D l) (X.pn ++ pins) (fun e s₁ => wpAny (model X.prog X.w) X.A (noteFrame e X.env) (fun _ s₂ => wpAny (model X.prog X.w) X.A (setFlight e none) (fun _ s₃ =>
    wpAny (model X.prog X.w) X.A (handleBy e X.env (h₀ :: hds)) (SP X pins D) X.xe s₃) X.xe s₂) X.xe s₁) (fun u s' xx => ?_) PassesOwn.looking).run [] s σ H D (I.toTry _) h) (fun f s1 hsp => ?_) (fun e s1 he => he)
  · obtain ⟨a, B, sI, pins', σ', H', cls, d, rfl, J', nb, up, sky, na, os, ag, w⟩ := xx
    have J : Inv X pins σ' H' sI := J'.ofTry ok
    have sky' : Sky B (X.env :: X.outer) a (Zc cls d) X.env.locals s'.heap := by rw [← hs]; exact sky
    show wpAny (model X.prog X.w) X.A (noteFrame (.ref a) X.env) _ _ _
    refine Sky.land Zc.steady hfr hf sky' fun h3 fl3 up3 => ?_
    have J3 : Inv X pins σ' H' { s' with heap := h3 } := J.landed nb fl3.1 (up.trans up3) os ag
    obtain ⟨oe3, vs3, he3, hz3, hd3⟩ := fl3.there
    have notFr : ∀ {h : Heap} {o : Obj} {vs : Array Value}, h.FunFrames B (X.env :: X.outer) → h.get? a = some o → o.data = .fields vs → a ∉ frs (X.env :: X.outer) := fun {h o vs} ff e dd hm => by
      obtain ⟨_, o', e', hnf⟩ := ff.mem hm
      rw [e] at e'; cases e'
      exact hnf _ dd
    have nfr := notFr fl3.2.2.1 he3 hd3
    have nL : a ≠ X.env.locals := fun z => nfr (List.mem_filterMap.mpr ⟨X.env, List.mem_cons_self, by rw [hf, z]⟩)
    have nF : a ∉ X.fs := fun hm => by
      obtain ⟨e, he, q⟩ := List.mem_filterMap.mp hm
      exact nfr (List.mem_filterMap.mpr ⟨e, List.mem_cons_of_mem _ he, q⟩)
    have S3 := J3.suite he3 hd3 na nL nF
    have go : ∀ {hds' : List ExceptHandler} {l' : List (Value × Nat × (Addr → Value → Option Addr → TS))}, HdN X hds' l' → wNamed X.K Wout D l' cls d σ' H' →
        wpAny (model X.prog X.w) X.A (handleBy (.ref a) X.env hds') (SP X pins D) X.xe { s' with heap := h3 } := by
      intro hds' l' hk
      induction hk with
      | nil =>
        intro w
        refine wpAny_handleBy_nil ?_
        obtain ⟨k1, k2, k3, oe, vs, T, oT, ts', he, hz, hd, h1, hr⟩ := id fl3
        unfold PySem.passOn
        refine wpAny_bind (wpAny_field he hd h1 ?_)
        rw [if_neg (show ¬ ((Value.ref T == Value.none) = true) from by simp)]
        have fin : wpAny (model X.prog X.w) X.A (setFlight (.ref a) X.env.frame) (fun _ s4 => wpAny (model X.prog X.w) X.A (throw (.ref a) : Sem Flow) (SP X pins D) X.xe s4) X.xe { s' with heap := h3 } := by
          rw [hf]
          refine HandSPX.setFlight_upZ fl3 fun h4 hh4 up4 => wpAny_throw (tk _ _ ?_)
          exact ⟨a, B, sI, pins, σ', H', cls, d, rfl, J, nb, (up.trans up3).trans up4, .inr (.inr (by rw [hs]; exact hh4)), na, os, ag, w⟩
        first
          | exact wpAny_bind (wpAny_pure (wpAny_bind fin))
          | exact wpAny_bind fin
      | @cons x n c i ts b₀ suite np pos' hds2 l2 hc hi hln hsu r ih =>
        intro w
        obtain ⟨b, hb1, hyes, hno⟩ := w
        have hloc : Loc X.env.scope n := .inl hln
        refine wpAny_handleBy_cons (codeAny_handlers_test ?_) (by intro q; cases q)
        have LT : PySem.W.Looks (model X.prog X.w) h3 (typeOf (.ref a)) cls := fun A Q E s k q => wpAny_typeOf_ref (k _ _ he3) (by rw [hz3.1]; exact q)
        have LM := PySem.W.exm_one (M := model X.prog X.w) (J3.kIn) LT hb1
        have test : ∀ {Q : Value → Shared → Prop} {E : Value → Shared → Prop}, Q c { s' with heap := h3 } → wpAny (model X.prog X.w) (X.A.mark (some (.ref a))) (eval (.Name x np) X.env) Q E { s' with heap := h3 } := fun {Q E} q => by
          obtain ⟨hg, hdbg, hm | ⟨hm, hv, hnn⟩⟩ := hc
          · exact ld_glob (X := X.suite a ((a, oe3) :: (X.pn ++ pins))) S3 hg hm q hdbg
          · exact ld_blt (X := X.suite a ((a, oe3) :: (X.pn ++ pins))) S3 hg hm hv q hnn hdbg
        refine test (LM.here ?_)
        cases b with
        | true =>
          refine codeAny_handlers_suite_as ?_
          refine HandSPX.lands_againZ fl3 fun h4 fl4 up4 => ?_
          have J4 : Inv X pins σ' H' { s' with heap := h4 } := J.landed nb fl4.1 ((up.trans up3).trans up4) os ag
          obtain ⟨oe4, vs4, he4, hz4, hd4⟩ := fl4.there
          have S4 := J4.suite he4 hd4 na nL nF
          refine store_ok (X := X.suite a ((a, oe4) :: (X.pn ++ pins))) (v := .ref a) S4 hN hi hloc rfl (fun s5 S5 => ?_) (.inr hln)
          refine wpAny_mono ((hsu a oe4 cls d (X.pn ++ pins) hz4 ⟨_, hd4⟩).run [] s5 _ H' _ S5 (hyes rfl a na)) (fun f s6 hsp => ?_) (fun _ _ z => False.elim z)
          have end_ : ∀ {σ6 : St} {H6 : Hp} {Q : Shared → Prop}, Inv (X.suite a ((a, oe4) :: (X.pn ++ pins))) [] σ6 H6 s6 → (∀ s7, Inv X pins (σ6.set i none) H6 s7 → Q s7) →
              wpAny (model X.prog X.w) X.A (do bindName X.env n .none; unbindBehindTheSuite X.env n pos') (fun _ s7 => Q s7) X.xe s6 := fun {σ6 H6 Q} S6 hq => gone_ok (S6.unsuite ok) hN hi hln hq
          cases f with
          | next =>
            obtain ⟨σ6, H6, S6, q6⟩ := hsp
            exact end_ S6 fun s7 J7 => ⟨_, _, J7, q6⟩
          | brk =>
            obtain ⟨σ6, H6, S6, q6⟩ := hsp
            exact end_ S6 fun s7 J7 => ⟨_, _, J7, q6⟩
          | cont =>
            obtain ⟨σ6, H6, S6, q6⟩ := hsp
            exact end_ S6 fun s7 J7 => ⟨_, _, J7, q6⟩
          | ret u =>
            obtain ⟨v6, σ6, H6, S6, r6, q6⟩ := hsp
            exact end_ S6 fun s7 J7 => ⟨_, _, _, J7, r6, q6⟩
        | false =>
          show wpAny _ X.A (handleBy (.ref a) X.env hds2) _ _ _
          exact ih (hno rfl)
    exact go hh w
  · cases f with
    | next =>
      obtain ⟨σ', H', J', q⟩ := hsp
      exact wpAny_execs_nil ⟨σ', H', J'.ofTry ok, q⟩
    | brk =>
      obtain ⟨σ', H', J', q⟩ := hsp
      exact ⟨σ', H', J'.ofTry ok, q⟩
    | cont =>
      obtain ⟨σ', H', J', q⟩ := hsp
      exact ⟨σ', H', J'.ofTry ok, q⟩
    | ret u =>
      obtain ⟨v, σ', H', J', r, q⟩ := hsp
      exact ⟨v, σ', H', J'.ofTry ok, r, q⟩
end
end GN
/-! isinstance of an error that has a dict -/
namespace GN
open PySem PySem.Spec PyProof.Rows L2
section
open PySem.W PySem.Calls
variable {prog : Program} {w : World} {A : Around} {E : Value → Shared → Prop} {s : Shared} {K : Frag} {x D : Addr} {ox : Obj} {od : Option Obj}
theorem findObj_dat {C : Addr} {name : Str} {a g : Value} (hc : (clsIn K C).isSome = true) (ha : findIn K (.ref C) name = some (some a)) (hg : specialIn K a "__get__" = some (some g)) (ht : takesIn K a = some true) : findObj K C od name = some (.bind g a) := by
  obtain ⟨cd, hc⟩ := Option.isSome_iff_exists.mp hc
  unfold findObj
  rw [hc, Option.bind_some, ha, Option.bind_some]
  simp [hg, ht]
theorem kin_classD {Q : Option Value → Shared → Prop} (C : ExcC K D)
    (X : K.In s.heap) (I : InstAt s.heap x ox D od) (h : Q (some (.ref D)) { s with toks := s.toks + 1 }) : wpAny (model prog w) A (getAttr? (.ref x) "__class__") Q E s := by
  have hf : findObj K D od "__class__" = some (.bind (.builtin "getset_descriptor.__get__") (.builtin "object.__class__")) := findObj_dat (by obtain ⟨cd, hc, _⟩ := any_some C.hd; rw [hc]; rfl) C.ha C.hn C.ht
  obtain ⟨hp, g, d, t, os⟩ := s
  have L0 := I.type (M := model prog w)
  have L1 := looks_findIn (M := model prog w) X C.hg
  have L2 := looks_findIn (M := model prog w) X C.hk
  have L3 := looks_find (M := model prog w) X I hf
  have sub : Looks (model prog w) hp (isInstance (.ref x) (.type "BaseException")) true := L0.andThen (looks_subIn X C.hs)
  have hx0 : (false && onTheHeap (Value.builtin "BaseException.__getattribute__")) = false := rfl
  have hx2 : (Value.builtin "BaseException.__getattribute__" == Value.builtin "object.__getattribute__") = false := by decide +kernel
  have hx1 : (onTheHeap (Value.ref D) && Value.builtin "BaseException.__getattribute__" == Value.builtin "object.__getattribute__") = false := by rw [hx2]; rfl
  unfold getAttr? getAttrBy? getAttrBy
  refine wpAny_bind (wpAny_mkText (wpAny_bind (wpAny_attempt (wpAny_holding (wpAny_bind (L0.at (wpAny_bind (L1.at ?_))))))))
  show wpAny _ _ (if (onTheHeap (Value.ref D) && Value.builtin "BaseException.__getattribute__" == Value.builtin "object.__getattribute__") = true then _ else _) _ _ _
  rw [hx1, if_neg Bool.false_ne_true]
  unfold getAttrByItsOwn hookBefore
  refine wpAny_bind ?_
  rw [if_pos (show onTheHeap (Value.ref D) = true from rfl)]
  refine L2.at ?_
  refine wpAny_bind (wpAny_attempt (wpAny_holding ?_))
  unfold callGetattribute
  rw [hx0, if_neg Bool.false_ne_true]
  unfold boundAndCalled
  rw [PySem.F.excAttr_ValueError.ga.bind (.ref x)]
  refine wpAny_bind (wpAny_pure ?_)
  show wpAny _ _ (call (.builtin "BaseException.__getattribute__") [.ref x, .str "__class__" t]) _ _ _
  refine wpAny_call (codeAny_call_builtin PySem.F.excAttr_ValueError.ga.plain PySem.F.entry_bexc_ga ?_)
  refine @check_slot (model prog w) _ _ ⟨hp, g, d, t + 1, os⟩ "BaseException.__getattribute__" "BaseException" "__getattribute__" (.ref x) [.str "__class__" t] [] _ (by decide +kernel) (by decide +kernel) sub (PySem.F.args_bexc_ga (.ref x) (.str "__class__" t)) ?_
  unfold Builtin.«object.__getattribute__»
  refine wpAny_bind (wpAny_of_eq (a := ((Value.ref x : Value), [Value.str "__class__" t])) (by first | rfl | (simp only [slotArgs]; rfl)) ?_)
  refine wpAny_bind (wpAny_pure (wpAny_bind (L0.at (wpAny_bind (L3.at ?_)))))
  show wpAny _ _ (holding [Value.builtin "object.__class__"] (call (.builtin "getset_descriptor.__get__") [.builtin "object.__class__", .ref x, .ref D]) >>= ret) _ _ _
  refine wpAny_bind (wpAny_holding (wpAny_call (class_get (s := ⟨hp, g, d, t + 1, os⟩) (ox := ox) (od := od) X I C.hm ?_)))
  refine wpAny_pure ?_
  show wpAny _ _ (handedOut (.ref D)) _ _ _
  rw [handedOut_of (v := .ref D) rfl]
  first
    | exact wpAny_pure (wpAny_pure h)
    | exact wpAny_pure h
    | exact wpAny_pure (wpAny_bind (wpAny_pure (wpAny_pure h)))
theorem kitx_excD (C : ExcC K D) : KitX K (.ref x) (.ref D) (fun h => InstAt h x ox D od) where
  ty := fun _ _ _ I => I.type
  it := fun _ _ X _ => by
    obtain ⟨cdD, hcD, _⟩ := any_some C.hd
    unfold clsIn at hcD
    split at hcD
    · rename_i c' d' cd' sl' ho
      intro A' Q' E' s' k q
      unfold isType loadHead
      exact wpAny_bind (wpAny_loadPart (k _ _ (X _ _ ho)) (wpAny_pure q))
    · cases hcD
  ne := fun h tp dd its n sl X htp => by
    obtain ⟨cdD, hcD, _⟩ := any_some C.hd
    refine Bool.eq_false_iff.mpr fun q => ?_
    have e : D = tp := Value.ref.inj (beq_iff_eq.mp q)
    subst e
    unfold clsIn at hcD
    split at hcD
    · rename_i c' d' cd' sl' ho
      have z := (X _ _ ho).symm.trans htp
      cases z
    · cases hcD
  ca := fun X I k => kin_classD C X I k
end
/-- isinstance(e, c), e the exception that the suite holds, with a dict or without -/
def rIsD (K : PySem.W.Frag) (D a : Addr) (d : Option Addr) : List V → Hp → VK → Prop := fun xs H Q => ∃ (c : V) (cv : Value) (b : Bool), xs = [.ref a, c] ∧ (∀ u, RelV c u → u = cv) ∧ PySem.W.kitOne K (.ref D) cv = some b ∧ (∀ dd, d = some dd → ∃ fs, H dd = some (.xd fs)) ∧ Q (.bl b) H
theorem call_isD {X : Cx} {a D : Addr} {oe : Obj} {d : Option Addr} {pn : List (Addr × Obj)} (C : ExcC X.K D) (hz : Zc (.ref D) d oe) (hf : ∃ vs, oe.data = .fields vs) : CallR (X.suite a ((a, oe) :: pn)) (.builtin "isinstance") (rIsD X.K D a d) := by
  intro pins s σ H xs us Q I r h
  obtain ⟨c, cv, b, rfl, hcv, e, hdd, q⟩ := h
  cases r with
  | cons rx rr =>
    cases rr with
    | cons rt rr =>
      cases rr
      cases rx
      have ec := hcv _ rt
      subst ec
      obtain ⟨hget, _⟩ := I.pin (a, oe) (List.mem_append.mpr (.inl List.mem_cons_self))
      obtain ⟨vs, hv⟩ := hf
      have J : ∃ od, PySem.W.InstAt s.heap a oe D od := by
        cases d with
        | none =>
          refine ⟨none, hget, hz.1, ?_, ?_⟩
          · unfold PySem.W.notCls; rw [hv] <;> rfl
          · rw [hz.2]; trivial
        | some dd =>
          obtain ⟨fs, ea⟩ := hdd dd rfl
          have hx : ObjOk X.prog X.w H s.heap dd (.xd fs) := I.hok dd _ ea
          obtain ⟨mA, hns, hr⟩ := hx
          obtain ⟨od, ho, hl⟩ := lookIn_ns hns
          refine ⟨some od, hget, hz.1, ?_, ?_⟩
          · unfold PySem.W.notCls; rw [hv] <;> rfl
          · rw [hz.2]; exact ho
      obtain ⟨od, J⟩ := J
      exact PySem.W.kia_one (kitx_excD C) I.kIn J e (fun z => nomatch z) fun tk => ⟨.bl b, H, I.kept (t' := tk) fun _ _ z => z, rfl, q⟩
end GN

set_option Elab.async false
set_option linter.all false
set_option maxRecDepth 100000
set_option maxHeartbeats 4000000
/-! G15: a list comprehension of two clauses. -/
namespace GN
open PySem PySem.Spec PyProof.Rows L2
theorem wipe_get (σ : St) (vs : List Nat) (k : Nat) : (L2.wipe σ vs)[k]? = if k ∈ vs then (if k < σ.length then some none else none) else σ[k]? := by
  by_cases hk : k ∈ vs
  · rw [if_pos hk]
    by_cases hl : k < σ.length
    · rw [if_pos hl]
      cases q : (L2.wipe σ vs)[k]? with
      | none =>
        have := List.getElem?_eq_none_iff.mp q
        rw [wipe_length] at this
        omega
      | some o =>
        cases o with
        | none => rfl
        | some y => exact ((wipe_some q).2 hk).elim
    · rw [if_neg hl]
      exact List.getElem?_eq_none (by rw [wipe_length]; omega)
  · rw [if_neg hk, wipe_out hk]
theorem wipe_sub {σ : St} {vs vs1 : List Nat} (h : ∀ i ∈ vs1, i ∈ vs) : L2.wipe (L2.wipe σ vs1) vs = L2.wipe σ vs := by
  refine List.ext_getElem? fun k => ?_
  rw [wipe_get, wipe_get, wipe_length, wipe_get]
  by_cases hk : k ∈ vs
  · rw [if_pos hk, if_pos hk]
  · rw [if_neg hk, if_neg hk, if_neg fun z => hk (h k z)]
section
variable {S H S1 H1 S2 H2 : Hp} {σ σ1 σ2 : St} {ρ ρ1 ρ2 : En} {vs vs1 : List Nat}
theorem Go.wipe (g : Go S H σ ρ S1 H1 σ1 ρ1) : Go S H σ ρ S1 H1 (L2.wipe σ1 vs) (wipeR ρ1 vs) :=
  ⟨by rw [wipe_length]; exact g.ln, g.adv, g.lk.wipe, fun p h => g.ow p (ow_wipe h), fun es h => by
    rcases wipeR_get h with e | ⟨h1, h2⟩
    · cases e
    · rw [wipe_out h1]
      exact g.z0 es h2⟩
theorem Go.held (g : Go S H σ ρ S1 H1 σ1 ρ1) {D : Addr} {o : HO} (h : H D = some o) (hs : S D = none) (hn : ¬ Ow σ ρ D) : H1 D = some o ∧ S1 D = none ∧ ¬ Ow σ1 ρ1 D := by
  refine ⟨g.adv.kp D _ h hn, ?_, fun ow => ?_⟩
  · cases q : S1 D with
    | none => rfl
    | some o =>
      rcases g.adv.nw D o q with y | y | y
      · rw [hs] at y; cases y
      · rw [h] at y; cases y
      · exact (hn y).elim
  · rcases g.ow D ow with y | y
    · exact hn y
    · rw [h] at y; cases y
theorem Go.put (g : Go S H σ ρ S1 H1 σ1 ρ1) {D : Addr} {o : HO} (h0 : H D = none) (hs : S1 D = none) (hn : ¬ Ow σ1 ρ1 D) : Go S H σ ρ S1 (upd H1 D o) σ1 ρ1 := by
  have ad : Adv (fun q => q = D) S1 H1 S1 (upd H1 D o) := Adv.write g.lk.sub hs
  exact ⟨g.ln, g.adv.trans ad fun p hp => by rw [hp]; exact .inr h0, g.lk.adv ad fun p hp ow => by rw [hp] at ow; exact hn ow, g.ow, g.z0⟩
end
theorem w_it {J : It} {n : Nat} {G : Hp → Prop} {Y : Nat → Hp → V → Hp → Prop} (w : Walk J n G Y) (Pv : Nat → Hp → Prop) {Qd : Hp → Prop} {T : V → Hp → (Hp → Prop) → Prop} {H1 : Hp} (h0 : Pv 0 H1) (hG : ∀ i H, i ≤ n → Pv i H → G H)
    (hs : ∀ i x H H', i < n → Pv i H → Y i H x H' → T x H' (Pv (i + 1))) (hd : ∀ H, Pv n H → Qd H) :
    ∃ W : Nat → Nat → Hp → Prop, (∃ m, W 0 m H1) ∧ ∀ i m H, W i m H → (J.stop i H ∧ Qd H) ∨ (J.go i H ∧ ∃ Nx : Hp → Prop, (∀ H', Nx H' → ∃ m', m' < m ∧ W (i + 1) m' H') ∧ ∀ x H', J.yld i H x H' → T x H' Nx) := by
  refine ⟨fun i m H => m = n - i ∧ i ≤ n ∧ Pv i H, ⟨n, by simp, Nat.zero_le _, h0⟩, ?_⟩
  rintro i m H ⟨rfl, hi, p⟩
  have q := hG i H hi p
  by_cases hlt : i < n
  · exact .inr ⟨w.goes i H hlt q, Pv (i + 1), fun H' p' => ⟨n - (i + 1), by omega, rfl, hlt, p'⟩, fun x H' y => hs i x H H' hlt p (w.yields i H x H' hlt q y)⟩
  · have e : i = n := by omega
    subst e
    exact .inl ⟨w.stops H q, hd H p⟩
/-- the second clause's turns -/
def lcI (g1 : GF) (f : EF) (vs1 : List Nat) : List D → En → Res (List D × En)
  | [], ρ => .ok ([], ρ)
  | d :: ds, ρ => match g1 d ρ with
    | none => .bad
    | some ρ1 => (f ρ1).bindN fun a => (lcI g1 f vs1 ds (wipeR a.2 vs1)).bindN fun r => .ok (a.1 :: r.1, r.2)
def lc2L (g : GF) (it1 : LF) (g1 : GF) (f : EF) (vs vs1 : List Nat) : List D → En → Res (List D × En)
  | [], ρ => .ok ([], ρ)
  | d :: ds, ρ => match g d ρ with
    | none => .bad
    | some ρ1 => (it1 ρ1).bindN fun a => (lcI g1 f vs1 a.1 (wipeR a.2 vs1)).bindN fun r => (lc2L g it1 g1 f vs vs1 ds (wipeR r.2 vs)).bindN fun q => .ok (r.1 ++ q.1, q.2)
def oLc2 (it : LF) (g : GF) (it1 : LF) (g1 : GF) (f : EF) (vs vs1 : List Nat) : LF := fun ρ => (it ρ).bind fun a => (lc2L g it1 g1 f vs vs1 a.1 (wipeR a.2 vs)).bindN fun r => if few r.1.length then .ok (r.1, restR a.2 r.2 vs) else .bad
theorem bindN_ok {α β : Type} {r : Res α} {f : α → Res β} {b : β} (h : r.bindN f = .ok b) : ∃ a, r = .ok a ∧ f a = .ok b := by
  cases r with
  | ok a => exact ⟨a, rfl, h⟩
  | exc x => cases h
  | bad => cases h
section
variable {X : Cx} {C : XC} {W : WX} {pos : Pos} {vs vs1 : List Nat}
theorem lc2_of {it it1 : LF} {g g1 : GF} {f : EF} {σ : St} {H : Hp} {Q : VK} {S : Hp} {ρ : En} (hv : ∀ i ∈ vs1, i ∈ vs) (L : Lk S H σ ρ) (p : Post C W S H σ ρ (oLc2 it g it1 g1 f vs vs1 ρ) (KO S H σ ρ Q)) :
    tLc2 (tI C W it) (tG g vs) (tT C W0 tYesF) (tI C W0 it1) (tG g1 vs1) (tT C W0 tYesF) (tD C W0 f) vs vs1 σ H Q := by
  refine ⟨S, ρ, L, p.seq fun ds ρ1 _ p1 => fun J S1 H1 ga ok D' hD => ?_⟩
  have p1' : Post C W S H σ ρ ((lc2L g it1 g1 f vs vs1 ds (wipeR ρ1 vs)).bindN fun r => if few r.1.length then .ok (r.1, restR ρ1 r.2 vs) else .bad) (KO S H σ ρ Q) := p1
  have hS1 : S1 D' = none := by
    cases z : S1 D' with
    | none => rfl
    | some o => rw [ga.lk.sub _ _ z] at hD; cases hD
  obtain ⟨all, ρe, hrun, hfew⟩ : ∃ r ρ3, lc2L g it1 g1 f vs vs1 ds (wipeR ρ1 vs) = .ok (r, ρ3) ∧ few r.length = true := by
    cases z : lc2L g it1 g1 f vs vs1 ds (wipeR ρ1 vs) with
    | ok a =>
      rw [z] at p1'
      have p2 : Post C W S H σ ρ (if few a.1.length then .ok (a.1, restR ρ1 a.2 vs) else .bad) (KO S H σ ρ Q) := p1'
      cases hf : few a.1.length with
      | true => exact ⟨a.1, a.2, rfl, hf⟩
      | false => rw [hf] at p2; exact p2.elim
    | exc x => rw [z] at p1'; exact p1'.elim
    | bad => rw [z] at p1'; exact p1'.elim
  have p2 : KO S H σ ρ Q all (restR ρ1 ρe vs) := by
    rw [hrun] at p1'
    have p3 : Post C W S H σ ρ (if few all.length then .ok (all, restR ρ1 ρe vs) else .bad) (KO S H σ ρ Q) := p1'
    rw [hfew] at p3
    exact p3
  have Lw := ga.lk.wipe (vs := vs)
  have g0 : Go S1 H1 (L2.wipe σ vs) (wipeR ρ1 vs) S1 (upd H1 D' (.lst [])) (L2.wipe σ vs) (wipeR ρ1 vs) := .of0 Lw (Adv.lay Lw.sub hD)
  have hfl : all.length < sizeLine := few_line hfew
  -- the outer turns
  refine w_it ok (fun i H2 => ∃ S2 ρ2 acc us, Go S1 H1 (L2.wipe σ vs) (wipeR ρ1 vs) S2 H2 (L2.wipe σ vs) ρ2 ∧ H2 D' = some (.lst us) ∧ RpAll S2 us acc ∧ S2 D' = none ∧ ¬ Ow (L2.wipe σ vs) ρ2 D' ∧ ∃ r, lc2L g it1 g1 f vs vs1 (ds.drop i) ρ2 = .ok (r, ρe) ∧ all = acc ++ r) ?_ (fun i H2 _ ⟨S2, ρ2, acc, us, g2, _⟩ => g2.adv.ss.trans g2.lk.sub) ?_ ?_
  · exact ⟨S1, wipeR ρ1 vs, [], [], g0, upd_same, .nil, hS1, (fun ow => by
      obtain ⟨⟨ws, z⟩, _⟩ := Lw.ow ow
      rw [hD] at z; cases z), all, by rw [List.drop_zero]; exact hrun, rfl⟩
  · rintro i x H2 H3 hi ⟨S2, ρ2, acc, us, g2, hD2, ra, hS2, hO2, r, e1, e2⟩ hy
    obtain ⟨S3, ad, d, e, rx⟩ := hy S2 g2.adv.ss g2.lk.sub
    have g3 : Go S2 H2 (L2.wipe σ vs) ρ2 S3 H3 (L2.wipe σ vs) ρ2 := .of0 g2.lk ad
    have e3 : ds.drop i = d :: ds.drop (i + 1) := by
      obtain ⟨hlt, e'⟩ := List.getElem?_eq_some_iff.mp e
      rw [List.drop_eq_getElem_cons hlt, e']
    rw [e3] at e1
    unfold lc2L at e1
    cases z : g d ρ2 with
    | none => rw [z] at e1; cases e1
    | some ρ4 =>
      rw [z] at e1
      obtain ⟨⟨ds1, ρ5⟩, h1, e1⟩ := bindN_ok e1
      obtain ⟨⟨r1, ρ8⟩, h2, e1⟩ := bindN_ok e1
      obtain ⟨⟨r2, ρ9⟩, h3, e1⟩ := bindN_ok e1
      cases e1
      refine ⟨S3, ρ2, d, g3.lk, rx, ρ4, z, fun σ4 g4 w4 => ?_⟩
      have w4' : L2.wipe σ4 vs = L2.wipe σ vs := w4.trans (wipe_sub fun i h => h)
      refine ⟨w4', S3, ρ4, g4.lk, fun S5 H5 g5 => ?_⟩
      refine iteT ⟨S5, ρ4, g5.lk, ?_⟩
      rw [h1]
      refine fun J1 S6 H6 g6 ok1 => ?_
      -- the inner turns start
      have gB : Go S2 H2 (L2.wipe σ vs) ρ2 S6 H6 σ4 ρ5 := g3.trans (g4.trans (g5.trans g6))
      have gS := gB.wipe (vs := vs1)
      obtain ⟨k1, k2, k3⟩ := gS.held hD2 hS2 hO2
      refine w_it ok1 (fun j H7 => ∃ S7 ρ7 acc7 us7, Go S1 H1 (L2.wipe σ vs) (wipeR ρ1 vs) S7 H7 (L2.wipe σ4 vs1) ρ7 ∧ Same S6 S7 ∧ H7 D' = some (.lst us7) ∧ RpAll S7 us7 acc7 ∧ S7 D' = none ∧ ¬ Ow (L2.wipe σ4 vs1) ρ7 D' ∧ ∃ q, lcI g1 f vs1 (ds1.drop j) ρ7 = .ok (q, ρ8) ∧ all = acc7 ++ (q ++ r2)) ?_ (fun j H7 _ ⟨S7, ρ7, acc7, us7, g7, s7, _⟩ => s7.trans g7.lk.sub) ?_ ?_
      · exact ⟨S6, wipeR ρ5 vs1, acc, us, g2.trans gS, .refl _, k1, ra.up gB.adv.ss, k2, k3, r1, by rw [List.drop_zero]; exact h2, e2⟩
      · rintro j y H7 H8 hj ⟨S7, ρ7, acc7, us7, g7, s7, hD7, ra7, hS7, hO7, q, f1, f2⟩ hy1
        obtain ⟨S8, ad8, d8, e8, ry⟩ := hy1 S7 s7 g7.lk.sub
        have g8 : Go S7 H7 (L2.wipe σ4 vs1) ρ7 S8 H8 (L2.wipe σ4 vs1) ρ7 := .of0 g7.lk ad8
        have e9 : ds1.drop j = d8 :: ds1.drop (j + 1) := by
          obtain ⟨hlt, e'⟩ := List.getElem?_eq_some_iff.mp e8
          rw [List.drop_eq_getElem_cons hlt, e']
        rw [e9] at f1
        unfold lcI at f1
        cases z8 : g1 d8 ρ7 with
        | none => rw [z8] at f1; cases f1
        | some ρ10 =>
          rw [z8] at f1
          obtain ⟨⟨a, ρ11⟩, m1, f1⟩ := bindN_ok f1
          obtain ⟨⟨q2, ρ12⟩, m2, f1⟩ := bindN_ok f1
          cases f1
          refine ⟨S8, ρ7, d8, g8.lk, ry, ρ10, z8, fun σ10 g10 w10 => ?_⟩
          have w10' : L2.wipe σ10 vs1 = L2.wipe σ4 vs1 := w10.trans (wipe_sub fun i h => h)
          refine ⟨w10', S8, ρ10, g10.lk, fun S11 H11 g11 => ?_⟩
          refine iteT ⟨S11, ρ10, g11.lk, ?_⟩
          rw [m1]
          refine fun v S12 H12 g12 rv => ?_
          have gT : Go S7 H7 (L2.wipe σ4 vs1) ρ7 S12 H12 σ10 ρ11 := g8.trans (g10.trans (g11.trans g12))
          have gU := gT.wipe (vs := vs1)
          rw [w10'] at gU
          obtain ⟨n1, n2, n3⟩ := gU.held hD7 hS7 hO7
          have hlen : us7.length < sizeLine := by
            rw [ra7.length]
            rw [f2, List.length_append] at hfl
            omega
          refine ⟨us7, n1, hlen, ?_⟩
          exact ⟨S12, wipeR ρ11 vs1, acc7 ++ [a], us7 ++ [v], (g7.trans gU).put hD n2 n3, s7.trans gT.adv.ss, upd_same, (ra7.up gT.adv.ss).append (.cons rv .nil), n2, n3, q2, m2, by rw [f2, List.append_assoc]; rfl⟩
      · rintro H7 ⟨S7, ρ7, acc7, us7, g7, s7, hD7, ra7, hS7, hO7, q, f1, f2⟩
        rw [List.drop_length] at f1
        cases f1
        have gW := g7.wipe (vs := vs)
        have ew : L2.wipe (L2.wipe σ4 vs1) vs = L2.wipe σ vs := (wipe_sub hv).trans w4'
        rw [ew] at gW
        refine ⟨S7, wipeR ρ8 vs, acc7, us7, gW, hD7, ra7, hS7, fun ow => hO7 (ow_wipe (vs := vs) (by rw [ew]; exact ow)), r2, h3, f2⟩
  · rintro H2 ⟨S2, ρ2, acc, us, g2, hD2, ra, hS2, hO2, r, e1, e2⟩
    rw [List.drop_length] at e1
    cases e1
    rw [List.append_nil] at e2
    subst e2
    have gR := Go.rest ga.lk g2
    refine p2 D' us S2 H2 (ga.trans gR) hD2 ra hS2 (ga.adv.dm _ hD) fun ow => ?_
    obtain ⟨i, es, h1, h2⟩ := ow
    rcases restR_get h1 with ⟨e, hm⟩ | ⟨h3, h4⟩
    · cases z : ρ1[i]? with
      | none => rw [z] at e; cases e
      | some s =>
        rw [z] at e
        cases s <;> cases e
    · exact hO2 ⟨i, es, h4, by rw [wipe_out h3]; exact h2⟩
theorem pod_lc2 {elt tg iter tg1 iter1 : Expr} {scope : Scope} {own : List (Str × Nat)} {it it1 : LF} {g g1 : GF} {f : EF} (hN : X.N.Nodup) (hi : PID X C W tg iter it) (ok : BlkOk X.N X.env.scope scope own) (hv : ∀ i ∈ vs1, i ∈ own.map (·.2))
    (hg : ∀ (s : Shared) (H : Hp) (C : Addr) (cl : List (Str × Addr)) (fp : List Addr), PGD (X.blk s H scope (compEnvC scope cl C X.env) fp) tg g (own.map (·.2)))
    (hi1 : ∀ (s : Shared) (H : Hp) (A : Addr) (cl : List (Str × Addr)) (fp : List Addr), PID (X.blk s H scope (compEnvC scope cl A X.env) fp) C W0 tg1 iter1 it1)
    (hg1 : ∀ (s : Shared) (H : Hp) (C : Addr) (cl : List (Str × Addr)) (fp : List Addr), PGD (X.blk s H scope (compEnvC scope cl C X.env) fp) tg1 g1 vs1)
    (he : ∀ (s : Shared) (H : Hp) (A : Addr) (cl : List (Str × Addr)) (fp : List Addr), PD (X.blk s H scope (compEnvC scope cl A X.env) fp) C W0 elt f) (hc : X.calm = true := by rfl) (hs : ∀ x, foldedSetIterable iter X.env x = pure x := by intro _; rfl) (hs1 : ∀ env x, foldedSetIterable iter1 env x = pure x := by intro _ _; rfl) :
    POD X C W (.ListComp elt [⟨tg, iter, [], 0⟩, ⟨tg1, iter1, [], 0⟩] scope pos) (oLc2 it g it1 g1 f (own.map (·.2)) vs1) :=
  PE.imp (pe_lc2 hc hN hi ok hv hg (fun _ _ _ _ _ => pts_0 (C := C) (W := W0)) hi1 hg1 (fun _ _ _ _ _ => pts_0 (C := C) (W := W0)) he hs hs1) fun σ H Q ⟨S, ρ, L, p⟩ => lc2_of hv L p
end
end GN

set_option Elab.async false
set_option linter.all false
set_option maxRecDepth 100000
set_option maxHeartbeats 4000000
/-! G16: a zip that a name holds, walked once. -/
namespace GN
open PySem PySem.Spec PyProof.Rows L2
section
variable {X : Cx} {pins : List (Addr × Obj)} {σ : St} {H H' : Hp} {s : Shared}
/-- things beside are forgotten -/
theorem Inv.less (I : Inv X pins σ H' s) (h1 : ∀ c o, H c = some o → H' c = some o) (h2 : ∀ c o, H' c = some o → H c = some o ∨ ∃ φ, o = .ext φ) : Inv X pins σ H s where
  ok := I.ok
  os := I.os
  bare := I.bare
  base := {
    keep := I.base.keep
    slot := I.base.slot
    free := fun b o e n hx => by
      have q := I.base.free b o e n hx
      cases z : H b with
      | none => rfl
      | some u => rw [h1 b u z] at q; cases q
    there := I.base.there
    tups := fun b xs e => by
      rcases h2 b _ (I.base.tups b xs e) with z | ⟨φ, z⟩
      · exact z
      · cases z
    frzs := fun b o u e => by
      rcases h2 b _ (I.base.frzs b o u e) with z | ⟨φ, z⟩
      · exact z
      · cases z
    tbls := fun b ps e => by
      obtain ⟨more, q⟩ := I.base.tbls b ps e
      rcases h2 b _ q with z | ⟨φ, z⟩
      · exact ⟨more, z⟩
      · cases z }
  loc := I.loc
  cell := I.cell
  free := by
    cases z : H X.env.locals with
    | none => rfl
    | some u => have q := h1 _ u z; rw [I.free] at q; cases q
  freeC := fun x c e => by
    cases z : H c with
    | none => rfl
    | some u => have q := h1 _ u z; rw [I.freeC x c e] at q; cases q
  pin := fun p hp => by
    obtain ⟨a, b, c⟩ := I.pin p hp
    refine ⟨a, ?_, c⟩
    cases z : H p.1 with
    | none => rfl
    | some u => have q := h1 _ u z; rw [b] at q; cases q
  hok := fun a o e => (I.hok a o (h1 a o e)).stay (fun _ _ _ q => q) (fun b q => by
      rcases h2 b _ q with z | ⟨φ, z⟩
      · exact z
      · cases z) fun b xs q => by
      rcases h2 b _ q with z | ⟨φ, z⟩
      · exact z
      · cases z
  len := I.len
/-- things beside are told -/
theorem Inv.more (I : Inv X pins σ H s) (h1 : ∀ c o, H c = some o → H' c = some o) (h2 : ∀ c o, H' c = some o → H c = some o ∨ (FpOk X pins H c ∧ ObjOk X.prog X.w H' s.heap c o)) : Inv X pins σ H' s where
  ok := I.ok
  os := I.os
  bare := I.bare
  base := {
    keep := I.base.keep
    slot := I.base.slot
    free := fun b o e n hx => by
      have q := I.base.free b o e n hx
      cases z : H' b with
      | none => rfl
      | some u =>
        rcases h2 b u z with y | ⟨f, _⟩
        · rw [q] at y; cases y
        · rcases f.2.2.2.1 with y | y
          · exact (hx y).elim
          · exact absurd (Nat.lt_of_lt_of_le (Heap.lt_size e) y) (Nat.lt_irrefl _)
    there := I.base.there
    tups := fun b xs e => h1 _ _ (I.base.tups b xs e)
    frzs := fun b o u e => h1 _ _ (I.base.frzs b o u e)
    tbls := fun b ps e => by
      obtain ⟨more, q⟩ := I.base.tbls b ps e
      exact ⟨more, h1 _ _ q⟩ }
  loc := I.loc
  cell := I.cell
  free := by
    cases z : H' X.env.locals with
    | none => rfl
    | some u =>
      rcases h2 _ u z with y | ⟨f, _⟩
      · rw [I.free] at y; cases y
      · exact (f.2.1 rfl).elim
  freeC := fun x c e => by
    cases z : H' c with
    | none => rfl
    | some u =>
      rcases h2 _ u z with y | ⟨f, _⟩
      · rw [I.freeC x c e] at y; cases y
      · exact (f.2.2.2.2.1 x c e rfl).elim
  pin := fun p hp => by
    obtain ⟨a, b, c⟩ := I.pin p hp
    refine ⟨a, ?_, c⟩
    cases z : H' p.1 with
    | none => rfl
    | some u =>
      rcases h2 _ u z with y | ⟨f, _⟩
      · rw [b] at y; cases y
      · exact (f.2.2.2.2.2 p hp rfl).elim
  hok := fun a o e => by
    rcases h2 a o e with y | ⟨_, y⟩
    · exact (I.hok a o y).stay (fun _ _ _ q => q) (fun b q => h1 _ _ q) fun b xs q => h1 _ _ q
    · exact y
  len := I.len
end
/-! ### the five records -/
def zE (z TI TO : Addr) : HO := .ext fun h => IsZip h z TI TO .none
def zP (T i1 i2 : Addr) : HO := .ext fun h => IsPair h T (.ref i1) (.ref i2)
def zO (T : Addr) : HO := .ext fun h => ∃ x y, IsPair h T x y
def zI (i a : Addr) : HO := .ext fun h => h.IsTupleIter i a 0
structure Z5 where
  z : Addr
  TI : Addr
  TO : Addr
  i1 : Addr
  i2 : Addr
def Z5.all (Z : Z5) : List Addr := [Z.z, Z.TI, Z.TO, Z.i1, Z.i2]
def zipH (H : Hp) (Z : Z5) (a b : Addr) : Hp := upd (upd (upd (upd (upd H Z.i2 (zI Z.i2 b)) Z.i1 (zI Z.i1 a)) Z.TO (zO Z.TO)) Z.TI (zP Z.TI Z.i1 Z.i2)) Z.z (zE Z.z Z.TI Z.TO)
/-- .. new to X, tracked by none -/
structure ZOk (X : Cx) (H : Hp) (Z : Z5) (a b : Addr) : Prop where
  ap : ZipApart Z.z Z.TI Z.TO Z.i1 Z.i2 a b
  new : ∀ c ∈ Z.all, H c = none ∧ c ∉ X.fs ∧ (c ∈ X.ex ∨ X.s_0.heap.objs.size ≤ c)
theorem zipH_in {H : Hp} {Z : Z5} {a b c : Addr} {o : HO} (h : zipH H Z a b c = some o) :
    (c = Z.z ∧ o = zE Z.z Z.TI Z.TO) ∨ (c = Z.TI ∧ o = zP Z.TI Z.i1 Z.i2) ∨ (c = Z.TO ∧ o = zO Z.TO) ∨ (c = Z.i1 ∧ o = zI Z.i1 a) ∨ (c = Z.i2 ∧ o = zI Z.i2 b) ∨ (c ∉ Z.all ∧ H c = some o) := by
  unfold zipH at h
  by_cases e1 : c = Z.z
  · rw [e1, upd_same] at h; cases h; exact .inl ⟨e1, rfl⟩
  · rw [upd_ne e1] at h
    by_cases e2 : c = Z.TI
    · rw [e2, upd_same] at h; cases h; exact .inr (.inl ⟨e2, rfl⟩)
    · rw [upd_ne e2] at h
      by_cases e3 : c = Z.TO
      · rw [e3, upd_same] at h; cases h; exact .inr (.inr (.inl ⟨e3, rfl⟩))
      · rw [upd_ne e3] at h
        by_cases e4 : c = Z.i1
        · rw [e4, upd_same] at h; cases h; exact .inr (.inr (.inr (.inl ⟨e4, rfl⟩)))
        · rw [upd_ne e4] at h
          by_cases e5 : c = Z.i2
          · rw [e5, upd_same] at h; cases h; exact .inr (.inr (.inr (.inr (.inl ⟨e5, rfl⟩))))
          · rw [upd_ne e5] at h
            exact .inr (.inr (.inr (.inr (.inr ⟨by unfold Z5.all; simp [e1, e2, e3, e4, e5], h⟩))))
theorem zipH_out {H : Hp} {Z : Z5} {a b c : Addr} (h : c ∉ Z.all) : zipH H Z a b c = H c := by
  unfold Z5.all at h
  simp only [List.mem_cons, List.not_mem_nil, or_false, not_or] at h
  obtain ⟨h1, h2, h3, h4, h5⟩ := h
  unfold zipH
  rw [upd_ne h1, upd_ne h2, upd_ne h3, upd_ne h4, upd_ne h5]
section
variable {X : Cx} {H : Hp} {Z : Z5} {a b : Addr}
theorem ZOk.up (O : ZOk X H Z a b) {c : Addr} {o : HO} (h : H c = some o) : zipH H Z a b c = some o := by
  rw [zipH_out fun m => by rw [(O.new c m).1] at h; cases h]
  exact h
theorem ZOk.get (O : ZOk X H Z a b) : zipH H Z a b Z.z = some (zE Z.z Z.TI Z.TO) ∧ zipH H Z a b Z.TI = some (zP Z.TI Z.i1 Z.i2) ∧ zipH H Z a b Z.TO = some (zO Z.TO) ∧ zipH H Z a b Z.i1 = some (zI Z.i1 a) ∧ zipH H Z a b Z.i2 = some (zI Z.i2 b) := by
  have A := O.ap
  unfold zipH
  refine ⟨upd_same, ?_, ?_, ?_, ?_⟩
  · rw [upd_ne A.TIz, upd_same]
  · rw [upd_ne A.TOz, upd_ne (Ne.symm A.TITO), upd_same]
  · rw [upd_ne A.i1z, upd_ne (Ne.symm A.TIi1), upd_ne (Ne.symm A.TOi1), upd_same]
  · rw [upd_ne A.i2z, upd_ne (Ne.symm A.TIi2), upd_ne (Ne.symm A.TOi2), upd_ne (Ne.symm A.i12), upd_same]
theorem ext_ok {P : Program} {w : World} {h : Heap} {c : Addr} {φ : Heap → Prop} (p : φ h) (e : ∃ o, h.get? c = some o) (st : ∀ h1 h2 : Heap, φ h1 → (∀ o, h1.get? c = some o → h2.get? c = some o) → φ h2) : ObjOk P w H h c (.ext φ) := ⟨p, e, st⟩
/-- zip(t, u) -/
def tZipE (X : Cx) (ta : TA) : TE := fun σ H Q => ta σ H fun vs H1 => ∃ a b xs ys, vs = [.ref a, .ref b] ∧ SqT X.K H1 a xs ∧ SqT X.K H1 b ys ∧ ∀ Z, ZOk X H1 Z a b → Q (.ref Z.z) (zipH H1 Z a b)
theorem pe_zipE {e e2 : Expr} {ta : TA} {p pos : Pos} (hm : X.mg "zip" = none) (ha : PA X [e, e2] ta) (hg : Gl X "zip" := by rfl)
    (hs : starEach [e, e2] X.env = (false, eval e X.env) :: starEach [e2] X.env := by rfl) (hpl : (backTo pos (starEach [e2] X.env)).any (·.1) = false := by rfl) : PE X (.Call (.Name "zip" p) [e, e2] [] pos) (tZipE X ta) := by
  refine ⟨fun pins s σ H Q I h => ?_⟩
  refine Call_ (ld_blt I hg hm PyProof.Rows.boot_zip (PyProof.Rows.callWith_type1 (thn (ha.run pos pins s σ H _ I h) fun us s1 ⟨vs, H1, I1, r1, q1⟩ => ?_) hs hpl))
  obtain ⟨a, b, xs, ys, ex, hqx, hqy, q1⟩ := q1
  subst ex
  cases r1 with
  | cons r rr =>
    cases rr with
    | cons r' rr =>
      cases rr
      cases r
      cases r'
      obtain ⟨its, rv, p1, _⟩ := I1.tuple hqx
      obtain ⟨its2, rv2, p2, _⟩ := I1.tuple hqy
      obtain ⟨o1, ho1, _⟩ := id p1
      obtain ⟨o2, ho2, _⟩ := id p2
      refine RZ.call_zipT (show s1.heap.IsTuple a its.toArray from p1) (show s1.heap.IsTuple b its2.toArray from p2) fun h' hz hTI hTO h1 h2 hsz hk => ?_
      have I2 : Inv X pins σ H1 { s1 with heap := h' } := I1.kept (t' := s1.toks) hk
      let Z : Z5 := ⟨s1.heap.objs.size + 4, s1.heap.objs.size + 2, s1.heap.objs.size + 3, s1.heap.objs.size, s1.heap.objs.size + 1⟩
      have big : ∀ c ∈ Z.all, s1.heap.objs.size ≤ c := fun c hc => by
        have e' : c = s1.heap.objs.size + 4 ∨ c = s1.heap.objs.size + 2 ∨ c = s1.heap.objs.size + 3 ∨ c = s1.heap.objs.size ∨ c = s1.heap.objs.size + 1 := by simpa [Z, Z5.all] using hc
        rcases e' with z | z | z | z | z
        · rw [z]; exact Nat.le_add_right _ _
        · rw [z]; exact Nat.le_add_right _ _
        · rw [z]; exact Nat.le_add_right _ _
        · rw [z]; exact Nat.le_refl _
        · rw [z]; exact Nat.le_add_right _ _
      have fp : ∀ c ∈ Z.all, FpOk X pins H1 c := fun c hc => I1.fpOk (big c hc) (I1.hok.fresh (big c hc))
      have O : ZOk X H1 Z a b := ⟨PySem.W.ktu_apart s1.heap.objs.size a b (Heap.lt_size ho1) (Heap.lt_size ho2), fun c hc => ⟨(fp c hc).1, (fp c hc).2.2.1, (fp c hc).2.2.2.1⟩⟩
      have I3 : Inv X pins σ (zipH H1 Z a b) { s1 with heap := h' } := Inv.more I2 (fun c o e => O.up e) fun c o e => by
        rcases zipH_in e with ⟨rfl, rfl⟩ | ⟨rfl, rfl⟩ | ⟨rfl, rfl⟩ | ⟨rfl, rfl⟩ | ⟨rfl, rfl⟩ | ⟨_, z⟩
        · exact .inr ⟨fp _ (by simp [Z5.all]), ext_ok hz ⟨_, hz⟩ fun g1 g2 x k => k _ x⟩
        · exact .inr ⟨fp _ (by simp [Z5.all]), ext_ok hTI ⟨_, hTI⟩ fun g1 g2 x k => k _ x⟩
        · exact .inr ⟨fp _ (by simp [Z5.all]), ext_ok ⟨_, _, hTO⟩ ⟨_, hTO⟩ fun g1 g2 ⟨x, y, z⟩ k => ⟨x, y, k _ z⟩⟩
        · obtain ⟨oi, ei, _⟩ := id h1
          exact .inr ⟨fp _ (by simp [Z5.all]), ext_ok h1 ⟨_, ei⟩ fun g1 g2 x k => x.at fun o q => k o q⟩
        · obtain ⟨oi, ei, _⟩ := id h2
          exact .inr ⟨fp _ (by simp [Z5.all]), ext_ok h2 ⟨_, ei⟩ fun g1 g2 x k => x.at fun o q => k o q⟩
        · exact .inl z
      exact ⟨.ref Z.z, _, I3, rfl, q1 Z O⟩
/-- the name holds a zip that was never walked -/
def tZipV (X : Cx) (i : Nat) : TI := fun σ H R => ∃ (Z : Z5) (a b : Addr) (H1 : Hp), σ[i]? = some (some (V.ref Z.z)) ∧ H = zipH H1 Z a b ∧ ZOk X H1 Z a b ∧ R (RZ.ItzT X.K a b) H1
theorem pi_zipV {i : Nat} {y : Str} {py tpos : Pos} {elts : List Expr} {kk : Nat} (hN : X.N[i]? = some y) (hv : Vis X.env.scope y) (hd : (y == ("__debug__" : Str)) = false := by decide)
    (hcd : (y == ("__classdict__" : Str)) = false := by decide) : PI X (.Tuple elts kk tpos) (.Name y py) (tZipV X i) := by
  refine ⟨fun pins s σ H R I h => ?_⟩
  obtain ⟨Z, a, b, H1, hi, rfl, O, q⟩ := h
  refine thn ((pe_var (i := i) (pos := py) hN hv hd hcd).run pins s σ _ (fun v H' => v = .ref Z.z ∧ H' = zipH H1 Z a b) I ⟨_, hi, rfl, rfl⟩) fun u s1 ⟨v, H', I1, r1, e1, e2⟩ => ?_
  subst e1
  subst e2
  obtain rfl : u = Value.ref Z.z := r1
  obtain ⟨gz, gTI, gTO, g1, g2⟩ := O.get
  have oz : IsZip s1.heap Z.z Z.TI Z.TO .none := (show ObjOk X.prog X.w _ s1.heap Z.z (.ext _) from I1.hok _ _ gz).1
  have oTI : IsPair s1.heap Z.TI (.ref Z.i1) (.ref Z.i2) := (show ObjOk X.prog X.w _ s1.heap Z.TI (.ext _) from I1.hok _ _ gTI).1
  have oTO : ∃ x y, IsPair s1.heap Z.TO x y := (show ObjOk X.prog X.w _ s1.heap Z.TO (.ext _) from I1.hok _ _ gTO).1
  have o1 : s1.heap.IsTupleIter Z.i1 a 0 := (show ObjOk X.prog X.w _ s1.heap Z.i1 (.ext _) from I1.hok _ _ g1).1
  have o2 : s1.heap.IsTupleIter Z.i2 b 0 := (show ObjOk X.prog X.w _ s1.heap Z.i2 (.ext _) from I1.hok _ _ g2).1
  have tr : ∀ c ∈ Z.all, ∃ o, zipH H1 Z a b c = some o := fun c hc => by
    have e' : c = Z.z ∨ c = Z.TI ∨ c = Z.TO ∨ c = Z.i1 ∨ c = Z.i2 := by simpa [Z5.all] using hc
    rcases e' with z | z | z | z | z
    · rw [z]; exact ⟨_, gz⟩
    · rw [z]; exact ⟨_, gTI⟩
    · rw [z]; exact ⟨_, gTO⟩
    · rw [z]; exact ⟨_, g1⟩
    · rw [z]; exact ⟨_, g2⟩
  have fp : ∀ c ∈ Z.all, FpOk X pins H1 c := fun c hc => by
    obtain ⟨n1, n2, n3⟩ := O.new c hc
    obtain ⟨o, e⟩ := tr c hc
    refine ⟨n1, fun z => ?_, n2, n3, fun x cc q z => ?_, fun p hp z => ?_⟩
    · rw [z, I1.free] at e; cases e
    · rw [← z, I1.freeC x cc q] at e; cases e
    · have y := (I1.pin p hp).2.1
      rw [z, e] at y; cases y
  have I2 : Inv X pins σ H1 s1 := Inv.less I1 (fun c o e => O.up e) fun c o e => by
    rcases zipH_in e with ⟨_, rfl⟩ | ⟨_, rfl⟩ | ⟨_, rfl⟩ | ⟨_, rfl⟩ | ⟨_, rfl⟩ | ⟨_, z⟩
    · exact .inr ⟨_, rfl⟩
    · exact .inr ⟨_, rfl⟩
    · exact .inr ⟨_, rfl⟩
    · exact .inr ⟨_, rfl⟩
    · exact .inr ⟨_, rfl⟩
    · exact .inl z
  refine wpAny_pyIter_zip oz ?_
  exact ⟨Z.z, Z.all, _, _, H1, rfl, I2, RZ.turn_zipT O.ap, ⟨oz, oTI, oTO, o1, o2⟩, fp, q⟩
end
/-! ### y = zip(t, u); return tuple([.. for .. in y if ..]) -/
def sZipRet (i : Nat) (fs : LF) (g : GF) (t : TF) (f : EF) (vs : List Nat) : SF := fun ρ => (fs ρ).bind fun a => match a.1 with
  | [.tuple ds, .tuple es] => if decide (i < a.2.length) && few (zipD ds es).length then ((lcL g t f vs (zipD ds es) (wipeR (a.2.set i .no) vs)).bindN fun r => .ok (.rt (.tuple r.1), restR (a.2.set i .no) r.2 vs)) else .bad
  | _ => .bad
theorem Go.setN {S H S1 H1 : Hp} {σ σ1 : St} {ρ ρ1 : En} {i : Nat} {x : Option V} (g : Go S H σ ρ S1 H1 σ1 ρ1) : Go S H σ ρ S1 H1 (σ1.set i x) (ρ1.set i .no) :=
  ⟨by rw [List.length_set]; exact g.ln, g.adv, g.lk.setN, fun p h => g.ow p h.set_no, fun es h => by
    rcases get_set h with ⟨_, e, _⟩ | ⟨hi, h⟩
    · cases e
    · rw [List.getElem?_set_ne (Ne.symm hi)]
      exact g.z0 es h⟩
section
variable {X : Cx} {C : XC} {W : WX} {pos pos2 : Pos}
theorem pss_zipRet (i : Nat) {y : Str} {py py2 : Pos} {e e2 elt : Expr} {ifs : List Expr} {scope : Scope} {own : List (Str × Nat)} {fs : LF} {g : GF} {t : TF} {f : EF} {p p2 lpos cpos rpos tpos : Pos} {elts : List Expr} {kk : Nat}
    (hm : X.mg "zip" = none) (hmt : X.mg "tuple" = none) (ha : PAD X C W [e, e2] fs) (hN : X.N.Nodup) (ok : BlkOk X.N X.env.scope scope own)
    (hg : ∀ (s : Shared) (H : Hp) (C : Addr) (cl : List (Str × Addr)) (fp : List Addr), PGD (X.blk s H scope (compEnvC scope cl C X.env) fp) (.Tuple elts kk tpos) g (own.map (·.2))) (ht : ∀ (s : Shared) (H : Hp) (A : Addr) (cl : List (Str × Addr)) (fp : List Addr), PTsD (X.blk s H scope (compEnvC scope cl A X.env) fp) C W0 ifs t)
    (he : ∀ (s : Shared) (H : Hp) (A : Addr) (cl : List (Str × Addr)) (fp : List Addr), PD (X.blk s H scope (compEnvC scope cl A X.env) fp) C W0 elt f) (hy : X.N[i]? = some y := by rfl) (hyl : Loc X.env.scope y := by first | exact Or.inl rfl | exact Or.inr rfl) (hyv : Vis X.env.scope y := by first | exact Or.inl rfl | exact Or.inr (Or.inl rfl) | exact Or.inr (Or.inr rfl)) (hc : X.calm = true := by rfl)
    (hf : X.fn y = true ∨ X.env.scope.names.lookup y = some .local := by first | exact .inl rfl | exact .inr rfl) (hd : (y == ("__debug__" : Str)) = false := by decide) (hcd : (y == ("__classdict__" : Str)) = false := by decide)
    (hgz : Gl X "zip" := by rfl) (hgt : Gl X "tuple" := by rfl)
    (hs : starEach [e, e2] X.env = (false, eval e X.env) :: starEach [e2] X.env := by rfl) (hpl : (backTo p2 (starEach [e2] X.env)).any (·.1) = false := by rfl)
    (hsw : swapsWith (.Call (.Name "zip" p) [e, e2] [] p2) (some (.Name y py)) pos.line X.env = pure false := by rfl)
    (hs3 : starEach [.ListComp elt [⟨.Tuple elts kk tpos, .Name y py2, ifs, 0⟩] scope lpos] X.env = (false, eval (.ListComp elt [⟨.Tuple elts kk tpos, .Name y py2, ifs, 0⟩] scope lpos) X.env) :: starEach [] X.env := by rfl)
    (hpl3 : (backTo cpos (starEach [] X.env)).any (·.1) = false := by rfl) (hfs : ∀ x, foldedSetIterable (.Name y py2) X.env x = pure x := by intro _; rfl) :
    PSSD X C W [.Assign [.Name y py] (.Call (.Name "zip" p) [e, e2] [] p2) pos, .Return (some (.Call (.Name "tuple" rpos) [.ListComp elt [⟨.Tuple elts kk tpos, .Name y py2, ifs, 0⟩] scope lpos] [] cpos)) pos2] (sZipRet i fs g t f (own.map (·.2))) := by
  refine PSs.imp (pss_cons (ps_set hN hy hyl (pe_zipE hm ha hgz hs hpl) hsw hf) (pss_one (ps_ret (pe_callTy call_tuple_of hgt hmt boot_tuple (pa_cons (pe_lc hc hN (pi_zipV hy hyv hd hcd) ok hg ht he hfs) pa_nil hs3) (by decide) (by decide) hs3 hpl3)))) fun Dn σ H ⟨S, ρ, L, p⟩ => ?_
  refine ⟨S, ρ, L, p.seq fun ds ρ1 _ p1 => fun vs S1 H1 g1 r1 => ?_⟩
  match ds, r1, p1 with
  | [.tuple ds, .tuple es], .cons (.tup (a := a) ea ra) (.cons (.tup (a := b) eb rb) .nil), p1 =>
    refine ⟨_, _, _, _, rfl, .of (g1.lk.sub _ _ ea), .of (g1.lk.sub _ _ eb), fun Z O => ?_⟩
    have p2 : Post C W S H σ ρ (if decide (i < ρ1.length) && few (zipD ds es).length then ((lcL g t f (own.map (·.2)) (zipD ds es) (wipeR (ρ1.set i .no) (own.map (·.2)))).bindN fun r => .ok (.rt (.tuple r.1), restR (ρ1.set i .no) r.2 (own.map (·.2)))) else .bad) (KS S H σ ρ Dn) := p1
    have hz : i < ρ1.length := by
      cases hlt : decide (i < ρ1.length) with
      | true => exact of_decide_eq_true hlt
      | false => rw [hlt] at p2; exact p2.elim
    have hfw : few (zipD ds es).length = true := by
      cases hff : few (zipD ds es).length with
      | true => rfl
      | false => rw [hff, Bool.and_false] at p2; exact p2.elim
    rw [decide_eq_true hz, hfw] at p2
    have p3 : Post C W S H σ ρ ((lcL g t f (own.map (·.2)) (zipD ds es) (wipeR (ρ1.set i .no) (own.map (·.2)))).bindN fun r => .ok (.rt (.tuple r.1), restR (ρ1.set i .no) r.2 (own.map (·.2)))) (KS S H σ ρ Dn) := p2
    have g2 : Go S H σ ρ S1 H1 (σ.set i (some (.ref Z.z))) (ρ1.set i .no) := g1.setN
    have p4 := Post.s g2 p3
    refine ⟨Z, a, b, H1, set_get (by rw [← g1.lk.len]; exact hz), rfl, O, ?_⟩
    have fin : Post C W S1 H1 (σ.set i (some (.ref Z.z))) (ρ1.set i .no) (if few (zipD ds es).length then (lcL g t f (own.map (·.2)) (zipD ds es) (wipeR (ρ1.set i .no) (own.map (·.2)))).bindN fun r => .ok (r.1, restR (ρ1.set i .no) r.2 (own.map (·.2))) else .bad) (KO S1 H1 (σ.set i (some (.ref Z.z))) (ρ1.set i .no)
        (fun x H2 => ∃ p ys, [x] = [V.ref p] ∧ ((SqL X.K H2 p ys ∧ ∀ l, H2 l = none → Dn.rt (V.ref l) (upd H2 l (.tup ys))) ∨ (SqT X.K H2 p ys ∧ Dn.rt (V.ref p) H2)))) := ?fin
    · have h := lc_ofJ (J := RZ.ItzT X.K a b) (.refl g2.lk) (iter_zipT (K := X.K) ea eb ra rb) fin
      exact h
    rw [hfw]
    show Post C W S1 H1 _ _ ((lcL g t f (own.map (·.2)) (zipD ds es) (wipeR (ρ1.set i .no) (own.map (·.2)))).bindN fun r => .ok (r.1, restR (ρ1.set i .no) r.2 (own.map (·.2)))) _
    cases zr : lcL g t f (own.map (·.2)) (zipD ds es) (wipeR (ρ1.set i .no) (own.map (·.2))) with
    | exc x => rw [zr] at p4; exact p4.elim
    | bad => rw [zr] at p4; exact p4.elim
    | ok r =>
      obtain ⟨r, ρ3⟩ := r
      rw [zr] at p4
      have p5 : KS S1 H1 (σ.set i (some (.ref Z.z))) (ρ1.set i .no) Dn (.rt (.tuple r)) (restR (ρ1.set i .no) ρ3 (own.map (·.2))) := p4
      refine fun q us S3 H3 g3 hq rq hsq h0 hn => ?_
      refine ⟨q, us, rfl, .inl ⟨.of hq, fun l hl => ?_⟩⟩
      have ad : Adv NoM S3 H3 (upd S3 l (.tup us)) (upd H3 l (.tup us)) := Adv.new g3.lk.sub hl
      exact p5 (.ref l) _ _ _ (g3.trans (.of0 g3.lk ad)) (.tup upd_same (rq.up ad.ss))
end
end GN

set_option Elab.async false
set_option linter.all false
set_option maxRecDepth 100000
set_option maxHeartbeats 4000000
/-! G17: the one try of the law. -/
namespace GN
open PySem PySem.Spec PyProof.Rows L2
def noEn (ρ : En) : En := ρ.map fun _ => Sl.no
theorem lk_no {S H : Hp} {σ : St} {ρ : En} (h : Same S H) (hl : σ.length = ρ.length) : Lk S H σ (noEn ρ) where
  len := by unfold noEn; rw [List.length_map, hl]
  sub := h
  vals := fun i d e => by
    unfold noEn at e
    rw [List.getElem?_map] at e
    cases z : ρ[i]? with
    | none => rw [z] at e; cases e
    | some s => rw [z] at e; cases e
  owns := fun i d e => by
    unfold noEn at e
    rw [List.getElem?_map] at e
    cases z : ρ[i]? with
    | none => rw [z] at e; cases e
    | some s => rw [z] at e; cases e
  dist := fun i j ds es p e => by
    unfold noEn at e
    rw [List.getElem?_map] at e
    cases z : ρ[i]? with
    | none => rw [z] at e; cases e
    | some s => rw [z] at e; cases e
theorem noEn_get {ρ : En} {i : Nat} {s : Sl} (h : (noEn ρ)[i]? = some s) : s = .no := by
  unfold noEn at h
  rw [List.getElem?_map] at h
  cases z : ρ[i]? with
  | none => rw [z] at h; cases h
  | some s' => rw [z] at h; cases h; rfl
theorem Go.out {S H S1 H1 : Hp} {σ σ1 : St} {ρ : En} (L : Lk S H σ ρ) (hl : σ1.length = σ.length) (a : Adv (Ow σ ρ) S H S1 H1) : Go S H σ ρ S1 H1 σ1 (noEn ρ) :=
  ⟨hl, a, lk_no a.sh (hl.trans L.len.symm), fun p h => by
    obtain ⟨i, ds, h1, _⟩ := h
    exact absurd (noEn_get h1) (by simp), fun ds h => absurd (noEn_get h) (by simp)⟩
/-- the two suites: slot i takes what is told, slot j is the error's name -/
def hNp (i j : Nat) (k : Int) (ρ : En) : En := (((noEn ρ).set j .no).set i (.val (.list [.str "no place", .int k, .bool true]))).set j .no
def hTm (i j : Nat) (ρ : En) : En := (((noEn ρ).set j .no).set i (.val (.list [.str "much", .bool true]))).set j .no
def sTryH (b : SF) (i j1 j2 : Nat) : SF := fun ρ => match b ρ with
  | .ok a => .ok a
  | .exc (.np k) => .ok (.nx, hNp i j1 k ρ)
  | .exc .tm => .ok (.nx, hTm i j2 ρ)
  | .bad => .bad
/-- what the top says of the two classes, for the clauses -/
structure ClsX (K : PySem.W.Frag) (C : XC) : Prop where
  xf : XfC K C.cn
  no : PySem.W.findIn K (.ref C.cn) "place" = some none
  xn : ExcC K C.cn
  xt : ExcC K C.ct
  nn : PySem.W.exmOne K (.ref C.cn) (.ref C.cn) = some true
  tn : PySem.W.exmOne K (.ref C.ct) (.ref C.cn) = some false
  tt : PySem.W.exmOne K (.ref C.ct) (.ref C.ct) = some true
  kn : PySem.W.kitOne K (.ref C.cn) (.type "LookupError") = some true
  kt : PySem.W.kitOne K (.ref C.ct) (.type "ValueError") = some true
def rIsC (K : PySem.W.Frag) (D a : Addr) (cls : Value) (d : Option Addr) : List V → Hp → VK → Prop := fun xs H Q => cls = .ref D ∧ rIsD K D a d xs H Q
theorem call_isC {X : Cx} {a D : Addr} {oe : Obj} {cls : Value} {d : Option Addr} {pn : List (Addr × Obj)} (C : ExcC X.K D) (hz : Zc cls d oe) (hf : ∃ vs, oe.data = .fields vs) : CallR (X.suite a ((a, oe) :: pn)) (.builtin "isinstance") (rIsC X.K D a cls d) := by
  intro pins s σ H xs us Q I r h
  obtain ⟨ec, h⟩ := h
  subst ec
  exact call_isD C hz hf pins s σ H xs us Q I r h
def tsNp (K : PySem.W.Frag) (C : XC) (i j : Nat) : Addr → Value → Option Addr → TS := fun a cls d =>
  tAsg (tLst (tCons (tC (.str "no place")) (tCons (tXf a cls d C.cn "place" (tVar j)) (tCons (tCB (rIsC K C.cn a cls d) (tCons (tVar j) (tCons (tC (.ty "LookupError")) tNil))) tNil)))) (gName i)
def tsTm (K : PySem.W.Frag) (C : XC) (i j : Nat) : Addr → Value → Option Addr → TS := fun a cls d =>
  tAsg (tLst (tCons (tC (.str "much")) (tCons (tCB (rIsC K C.ct a cls d) (tCons (tVar j) (tCons (tC (.ty "ValueError")) tNil))) tNil))) (gName i)
theorem put_same {σ : St} {j : Nat} {v : Option V} (h : j < σ.length) : (σ.set j v)[j]? = some v := set_get h
section
variable {X : Cx} {C : XC} {W : WX} {pos : Pos}
theorem suite_np {i j : Nat} {y : Str} {a : Addr} {oe : Obj} {cls : Value} {d : Option Addr} {pn : List (Addr × Obj)} {y1 : Str} {k1 : Nat} {p1 p2 p3 p4 p5 p6 p7 p8 p9 : Pos} (T : ClsX X.K C) (hz : Zc cls d oe) (hf : ∃ vs, oe.data = .fields vs)
    (hm1 : X.mg "isinstance" = none) (hm2 : X.mg "LookupError" = none) (hN : X.N.Nodup) (hi : X.N[i]? = some y) (hj : X.N[j]? = some y1) (hyl : Loc X.env.scope y) (hv : Vis X.env.scope y1) (hd : (y1 == ("__debug__" : Str)) = false) (hcd : (y1 == ("__classdict__" : Str)) = false)
    (hfn : X.fn y = true ∨ X.env.scope.names.lookup y = some .local) (hgl : Gl X "isinstance") (hgL : Gl X "LookupError")
    (ha1 : starEach [.Constant (.str "no place") k1 p1, .Attribute (.Name y1 p2) "place" p3, .Call (.Name "isinstance" p4) [.Name y1 p5, .Name "LookupError" p6] [] p7] X.env = (false, eval (.Constant (.str "no place") k1 p1) X.env) :: starEach [.Attribute (.Name y1 p2) "place" p3, .Call (.Name "isinstance" p4) [.Name y1 p5, .Name "LookupError" p6] [] p7] X.env := by rfl)
    (ha2 : starEach [.Attribute (.Name y1 p2) "place" p3, .Call (.Name "isinstance" p4) [.Name y1 p5, .Name "LookupError" p6] [] p7] X.env = (false, eval (.Attribute (.Name y1 p2) "place" p3) X.env) :: starEach [.Call (.Name "isinstance" p4) [.Name y1 p5, .Name "LookupError" p6] [] p7] X.env := by rfl)
    (hb : attributeBase (.Name y1 p2) "place" X.env (eval (.Name y1 p2) X.env) = eval (.Name y1 p2) X.env := by rfl)
    (hs : swapsWith (.List [.Constant (.str "no place") k1 p1, .Attribute (.Name y1 p2) "place" p3, .Call (.Name "isinstance" p4) [.Name y1 p5, .Name "LookupError" p6] [] p7] p8) (some (.Name y p9)) pos.line X.env = pure false := by rfl) :
    PSs (X.suite a ((a, oe) :: pn)) [.Assign [.Name y p9] (.List [.Constant (.str "no place") k1 p1, .Attribute (.Name y1 p2) "place" p3, .Call (.Name "isinstance" p4) [.Name y1 p5, .Name "LookupError" p6] [] p7] p8) pos] (tsNp X.K C i j a cls d) :=
  pss_one (ps_set (X := X.suite a ((a, oe) :: pn)) hN hi hyl (pe_lst (pa_cons pe_str (pa_cons (pe_xf T.xf T.no hz hf (pe_var (X := X.suite a ((a, oe) :: pn)) hj hv hd hcd) hb) (pa_cons (pe_callB (X := X.suite a ((a, oe) :: pn)) (call_isC T.xn hz hf) hgl hm1 boot_isinstance
    (pa_cons (pe_var (X := X.suite a ((a, oe) :: pn)) hj hv hd hcd) (pa_cons (pe_bltn (X := X.suite a ((a, oe) :: pn)) (v := .ty "LookupError") hgL hm2 PyProof.Rows.Boot.«LookupError» rfl (by decide) (by decide)) pa_nil))) pa_nil)))) hs hfn)
theorem suite_tm {i j : Nat} {y : Str} {a : Addr} {oe : Obj} {cls : Value} {d : Option Addr} {pn : List (Addr × Obj)} {y1 : Str} {k1 : Nat} {p1 p4 p5 p6 p7 p8 p9 : Pos} (T : ClsX X.K C) (hz : Zc cls d oe) (hf : ∃ vs, oe.data = .fields vs)
    (hm1 : X.mg "isinstance" = none) (hm2 : X.mg "ValueError" = none) (hN : X.N.Nodup) (hi : X.N[i]? = some y) (hj : X.N[j]? = some y1) (hyl : Loc X.env.scope y) (hv : Vis X.env.scope y1) (hd : (y1 == ("__debug__" : Str)) = false) (hcd : (y1 == ("__classdict__" : Str)) = false)
    (hfn : X.fn y = true ∨ X.env.scope.names.lookup y = some .local) (hgl : Gl X "isinstance") (hgL : Gl X "ValueError")
    (hs : swapsWith (.List [.Constant (.str "much") k1 p1, .Call (.Name "isinstance" p4) [.Name y1 p5, .Name "ValueError" p6] [] p7] p8) (some (.Name y p9)) pos.line X.env = pure false := by rfl) :
    PSs (X.suite a ((a, oe) :: pn)) [.Assign [.Name y p9] (.List [.Constant (.str "much") k1 p1, .Call (.Name "isinstance" p4) [.Name y1 p5, .Name "ValueError" p6] [] p7] p8) pos] (tsTm X.K C i j a cls d) :=
  pss_one (ps_set (X := X.suite a ((a, oe) :: pn)) hN hi hyl (pe_lst (pa_cons pe_str (pa_cons (pe_callB (X := X.suite a ((a, oe) :: pn)) (call_isC T.xt hz hf) hgl hm1 boot_isinstance
    (pa_cons (pe_var (X := X.suite a ((a, oe) :: pn)) hj hv hd hcd) (pa_cons (pe_bltn (X := X.suite a ((a, oe) :: pn)) (v := .ty "ValueError") hgL hm2 PyProof.Rows.Boot.«ValueError» rfl (by decide) (by decide)) pa_nil))) pa_nil))) hs hfn)
theorem try_of {b : SF} {i j1 j2 : Nat} {Dn : Ends} {S H : Hp} {σ : St} {ρ : En} (T : ClsX X.K C) (L : Lk S H σ ρ) (hj1 : j1 < ρ.length) (hj2 : j2 < ρ.length) (hij1 : i ≠ j1) (hij2 : i ≠ j2)
    (p : Post C W S H σ ρ (sTryH b i j1 j2 ρ) (KS S H σ ρ Dn)) : tS C (wNamed X.K W Dn [(.ref C.cn, j1, tsNp X.K C i j1), (.ref C.ct, j2, tsTm X.K C i j2)]) b Dn σ H := by
  refine ⟨S, ρ, L, ?_⟩
  unfold sTryH at p
  cases z : b ρ with
  | ok a => rw [z] at p; exact p
  | bad => rw [z] at p; exact p.elim
  | exc x =>
    rw [z] at p
    cases x with
    | np k =>
      have p1 : ∀ (S' H' : Hp) (σ' : St), Go S H σ ρ S' H' σ' (hNp i j1 k ρ) → Dn.nx σ' H' := p
      rintro cls dd S' H' σ' hl ad ⟨rfl, da, rfl, ea⟩
      have g1 : Go S H σ ρ S' H' σ' (noEn ρ) := .out L hl ad
      have hjl : j1 < σ'.length := by rw [hl, ← L.len]; exact hj1
      refine ⟨true, T.nn, fun _ a na => ?_, fun y => Bool.noConfusion y⟩
      refine ⟨_, put_same hjl, rfl, rfl, da, _, .int k, rfl, ea, rfl, ?_⟩
      refine ⟨_, put_same hjl, rfl, .ty "LookupError", .type "LookupError", true, rfl, fun u hu => hu, T.kn, fun dd (q : some da = some dd) => (by cases q; exact ⟨_, ea⟩), ?_⟩
      refine ⟨by show 3 ≤ sizeLine; decide, fun q hq => ?_⟩
      have g2 := g1.setN (i := j1) (x := some (.ref a))
      have ad2 : Adv NoM S' H' (upd S' q (.lst [V.str "no place", V.int k, V.bl true])) (upd H' q (.lst [V.str "no place", V.int k, V.bl true])) := Adv.new g2.lk.sub hq
      have g3 := (g2.trans (.of0 g2.lk ad2)).setV (i := i) (v := .ref q) (d := .list [.str "no place", .int k, .bool true]) (.lst upd_same (.cons (.str _) (.cons (.int k) (.cons (.bl true) .nil))))
      exact p1 _ _ _ (g3.setN (i := j1) (x := none))
    | tm =>
      have p1 : ∀ (S' H' : Hp) (σ' : St), Go S H σ ρ S' H' σ' (hTm i j2 ρ) → Dn.nx σ' H' := p
      rintro cls dd S' H' σ' hl ad ⟨rfl, rfl⟩
      have g1 : Go S H σ ρ S' H' σ' (noEn ρ) := .out L hl ad
      have hjl : j2 < σ'.length := by rw [hl, ← L.len]; exact hj2
      refine ⟨false, T.tn, fun y => Bool.noConfusion y, fun _ => ⟨true, T.tt, fun _ a na => ?_, fun y => Bool.noConfusion y⟩⟩
      refine ⟨_, put_same hjl, rfl, .ty "ValueError", .type "ValueError", true, rfl, fun u hu => hu, T.kt, fun dd (q : none = some dd) => (nomatch q), ?_⟩
      refine ⟨by show 2 ≤ sizeLine; decide, fun q hq => ?_⟩
      have g2 := g1.setN (i := j2) (x := some (.ref a))
      have ad2 : Adv NoM S' H' (upd S' q (.lst [V.str "much", V.bl true])) (upd H' q (.lst [V.str "much", V.bl true])) := Adv.new g2.lk.sub hq
      have g3 := (g2.trans (.of0 g2.lk ad2)).setV (i := i) (v := .ref q) (d := .list [.str "much", .bool true]) (.lst upd_same (.cons (.str _) (.cons (.bl true) .nil)))
      exact p1 _ _ _ (g3.setN (i := j2) (x := none))
def sTryC (b : SF) (i j1 j2 : Nat) : SF := fun ρ => if decide (j1 < ρ.length) && decide (j2 < ρ.length) then sTryH b i j1 j2 ρ else .bad
theorem ps_tryH (i j1 j2 : Nat) {y y1 y2 : Str} {body : List Stmt} {b : SF} {k1 k2 : Nat} {q1 q2 q3 q4 s1 s2 p1 p2 p3 p4 p5 p6 p7 p8 p9 r1 r4 r5 r6 r7 r8 r9 : Pos} (T : ClsX X.K C) (gn : X.mg "NoPlace" = some (.ref C.cn)) (gt : X.mg "TooMuch" = some (.ref C.ct))
    (hm1 : X.mg "isinstance" = none) (hm2 : X.mg "LookupError" = none) (hm3 : X.mg "ValueError" = none) (hN : X.N.Nodup) (tk : Takes X W)
    (hb : ∀ (W2 : WX) (pn : List (Addr × Obj)) (xe : Value → Shared → Prop), Takes (X.tr pn xe) W2 → PassesOwn (model X.prog X.w) X.A X.env xe → PSSD (X.tr pn xe) C W2 body b)
    (hst : X.stack = X.env :: X.outer := by rfl) (hf : X.env.frame = some X.env.locals := by rfl)
    (hi : X.N[i]? = some y := by rfl) (hj1 : X.N[j1]? = some y1 := by rfl) (hj2 : X.N[j2]? = some y2 := by rfl) (hl1 : X.env.kindOf y1 = some .local := by rfl) (hl2 : X.env.kindOf y2 = some .local := by rfl)
    (hij1 : i ≠ j1 := by decide) (hij2 : i ≠ j2 := by decide) (hyl : Loc X.env.scope y := by first | exact Or.inl rfl | exact Or.inr rfl) (hv1 : Vis X.env.scope y1 := by first | exact Or.inl rfl | exact Or.inr (Or.inl rfl) | exact Or.inr (Or.inr rfl)) (hv2 : Vis X.env.scope y2 := by first | exact Or.inl rfl | exact Or.inr (Or.inl rfl) | exact Or.inr (Or.inr rfl))
    (hd1 : (y1 == ("__debug__" : Str)) = false := by decide) (hcd1 : (y1 == ("__classdict__" : Str)) = false := by decide) (hd2 : (y2 == ("__debug__" : Str)) = false := by decide) (hcd2 : (y2 == ("__classdict__" : Str)) = false := by decide)
    (hfn : X.fn y = true ∨ X.env.scope.names.lookup y = some .local := by first | exact .inl rfl | exact .inr rfl) (hgl : Gl X "isinstance" := by rfl) (hgL : Gl X "LookupError" := by rfl) (hgV : Gl X "ValueError" := by rfl) (hgN : Gl X "NoPlace" := by rfl) (hgT : Gl X "TooMuch" := by rfl)
    (ha1 : starEach [.Constant (.str "no place") k1 p1, .Attribute (.Name y1 p2) "place" p3, .Call (.Name "isinstance" p4) [.Name y1 p5, .Name "LookupError" p6] [] p7] X.env = (false, eval (.Constant (.str "no place") k1 p1) X.env) :: starEach [.Attribute (.Name y1 p2) "place" p3, .Call (.Name "isinstance" p4) [.Name y1 p5, .Name "LookupError" p6] [] p7] X.env := by rfl)
    (ha2 : starEach [.Attribute (.Name y1 p2) "place" p3, .Call (.Name "isinstance" p4) [.Name y1 p5, .Name "LookupError" p6] [] p7] X.env = (false, eval (.Attribute (.Name y1 p2) "place" p3) X.env) :: starEach [.Call (.Name "isinstance" p4) [.Name y1 p5, .Name "LookupError" p6] [] p7] X.env := by rfl)
    (hba : attributeBase (.Name y1 p2) "place" X.env (eval (.Name y1 p2) X.env) = eval (.Name y1 p2) X.env := by rfl)
    (hs1 : swapsWith (.List [.Constant (.str "no place") k1 p1, .Attribute (.Name y1 p2) "place" p3, .Call (.Name "isinstance" p4) [.Name y1 p5, .Name "LookupError" p6] [] p7] p8) (some (.Name y p9)) s1.line X.env = pure false := by rfl)
    (hs2 : swapsWith (.List [.Constant (.str "much") k2 r1, .Call (.Name "isinstance" r4) [.Name y2 r5, .Name "ValueError" r6] [] r7] r8) (some (.Name y r9)) s2.line X.env = pure false := by rfl) :
    PSD X C W (.Try body [.ExceptHandler (some (.Name "NoPlace" q1)) (some y1) [.Assign [.Name y p9] (.List [.Constant (.str "no place") k1 p1, .Attribute (.Name y1 p2) "place" p3, .Call (.Name "isinstance" p4) [.Name y1 p5, .Name "LookupError" p6] [] p7] p8) s1] q2,
      .ExceptHandler (some (.Name "TooMuch" q3)) (some y2) [.Assign [.Name y r9] (.List [.Constant (.str "much") k2 r1, .Call (.Name "isinstance" r4) [.Name y2 r5, .Name "ValueError" r6] [] r7] r8) s2] q4] [] [] pos) (sTryC b i j1 j2) := by
  refine PS.imp (ps_tryN (tb := fun W2 => tS C W2 b) (l := [(.ref C.cn, j1, tsNp X.K C i j1), (.ref C.ct, j2, tsTm X.K C i j2)]) hst hf hN tk hb ?_) fun Dn σ H ⟨S, ρ, L, p⟩ => ?_
  · refine .cons ⟨hgN, by decide, .inl gn⟩ hj1 hl1 (fun a oe cls d pn hz hfd => suite_np T hz hfd hm1 hm2 hN hi hj1 hyl hv1 hd1 hcd1 hfn hgl hgL ha1 ha2 hba hs1) ?_
    exact .cons ⟨hgT, by decide, .inl gt⟩ hj2 hl2 (fun a oe cls d pn hz hfd => suite_tm T hz hfd hm1 hm3 hN hi hj2 hyl hv2 hd2 hcd2 hfn hgl hgV hs2) .nil
  · unfold sTryC at p
    cases h1 : decide (j1 < ρ.length) with
    | false => rw [h1] at p; exact p.elim
    | true =>
      cases h2 : decide (j2 < ρ.length) with
      | false => rw [h1, h2] at p; exact p.elim
      | true =>
        rw [h1, h2] at p
        exact try_of T L (of_decide_eq_true h1) (of_decide_eq_true h2) hij1 hij2 p
end
end GN

set_option Elab.async false
set_option linter.all false
set_option maxRecDepth 100000
set_option maxHeartbeats 4000000
/-! G18: a tuple that is known whole: asked for a place. -/
namespace GN
open PySem PySem.Spec PyProof.Rows L2
section
variable {X : Cx} {C : XC} {W : WX} {pos : Pos}
/-- the new tuple is known whole -/
def rTupZ (K : PySem.W.Frag) : List V → Hp → VK → Prop := fun xs H Q => ∃ p ys, xs = [.ref p] ∧ SqL K H p ys ∧ ∀ (l : Addr) (o : Obj), o.cls = .type "tuple" → o.dict = none → H l = none → Q (.ref l) (upd H l (.frz o (.tup ys)))
theorem call_tupleZ : CallR X (.type "tuple") (rTupZ X.K) := by
  intro pins s σ H xs us Q I r h
  obtain ⟨p, ys, rfl, hq, q⟩ := h
  obtain ⟨u, rfl, rx⟩ := vals1 r
  cases rx
  obtain ⟨its, r', pl, hz⟩ := I.list hq
  have hlen := r'.length
  refine call_tuple_list pl.isList (fun h' kp => ?_) (by simp only [List.size_toArray] <;> omega)
  have I1 : Inv X pins σ H { s with heap := h' } := I.kept (t' := s.toks) kp
  have hget : (h'.push { cls := .type "tuple", data := .seq its.toArray }).get? h'.objs.size = some { cls := .type "tuple", data := .seq its.toArray } := Heap.get?_push_size _ rfl
  have I2 : Inv X pins σ (upd H h'.objs.size (.frz { cls := .type "tuple", data := .seq its.toArray } (.tup ys))) { s with heap := h'.push { cls := .type "tuple", data := .seq its.toArray } } :=
    I1.laid (t' := s.toks) (fun b o e => Heap.get?_push_of_some _ e) (Nat.le_refl _) (show ObjOk X.prog X.w _ _ _ (.frz _ (.tup ys)) from ⟨hget, hz, its, r', IsTup.new _ _⟩)
  exact ⟨.ref h'.objs.size, _, I2, rfl, q _ _ rfl rfl (I1.hok.fresh (Nat.le_refl _))⟩
def tyTz (x : V) (H : Hp) : Prop := ∃ (p : Addr) (o : Obj) (ys : List V), x = .ref p ∧ H p = some (.frz o (.tup ys)) ∧ o.dict = none ∧ o.cls = .type "tuple"
theorem ty_tz : TyOk X "tuple" tyTz := by
  intro pins σ H s x v I r ty
  obtain ⟨p, o, ys, rfl, e, hd, hc⟩ := ty
  cases r
  have q : ObjOk X.prog X.w H s.heap p (.frz o (.tup ys)) := I.hok p _ e
  obtain ⟨q, _⟩ := q
  refine ⟨⟨o, q, hc⟩, fun a e2 => ?_⟩
  cases e2
  exact ⟨o, q, hd⟩
theorem sqT_frz {K : PySem.W.Frag} {H : Hp} {p : Addr} {o : Obj} {ys : List V} (e : H p = some (.frz o (.tup ys))) : SqT K H p ys := .inl (.inr ⟨o, e⟩)
/-- t.index(x), t known whole -/
theorem pe_tzIndex {a b : Expr} {ta : TE} {tb : TE} {apos cpos : Pos} (ha : PE X a ta) (hb : PE X b tb)
    (hbase : attributeBase a "index" X.env (eval a X.env) = eval a X.env := by rfl)
    (hfew : ((backTo cpos (starEach [b] X.env)).all (fun x => !x.1) && (backToKw cpos (keywordEach [] X.env)).all (fun x => x.1.isSome)
      && decide ([b].length + ([] : List Keyword).length + (if ([] : List Keyword).isEmpty then 0 else 1) < 30)) = true := by rfl)
    (hline : (apos.endLine == cpos.line) = true := by rfl) (hs : starEach [b] X.env = (false, eval b X.env) :: starEach [] X.env := by rfl) (hplain : (backTo cpos (starEach [] X.env)).any (·.1) = false := by rfl) :
    PE X (.Call (.Attribute a "index" apos) [b] [] cpos) (tMG tyTz (rIndexT X.K) ta (tCons tb tNil)) :=
  pe_mG ty_tz PySem.F.plainAttrs_tuple PySem.F.slot_tuple_index PySem.F.type_tuple_index mt_tindex ha (pa_cons hb pa_nil hs) hbase hfew hline hs hplain
end
/-- it hands back a tuple known whole, of the list told by F -/
def spTz (F : D → Res (List D)) : Sp := fun vs H Q E => ∃ S v d, Same S H ∧ vs = [v] ∧ Rp S v d ∧ match F d with
  | .ok es => ∀ (p : Addr) (o : Obj) (us : List V) (S' H' : Hp), Adv NoM S H S' H' → H' p = some (.frz o (.tup us)) → o.cls = .type "tuple" → o.dict = none → RpAll S' us es → Q (.ref p) H'
  | _ => False
theorem Adv.frz {M : Addr → Prop} {S H S' H' : Hp} (a : Adv M S H S' H') {p : Addr} {o : Obj} {u : HO} (h : H p = some (.frz o u)) (hm : ¬ M p) : H' p = some (.frz o u) := a.kp p _ h hm
theorem Lk.nofrz {S H : Hp} {σ : St} {ρ : En} (L : Lk S H σ ρ) {p : Addr} {o : Obj} {u : HO} (h : H p = some (.frz o u)) : ¬ Ow σ ρ p := fun ow => by
  obtain ⟨⟨us, z⟩, _⟩ := L.ow ow
  rw [h] at z; cases z
theorem Go.frz {S H S1 H1 : Hp} {σ σ1 : St} {ρ ρ1 : En} (L : Lk S H σ ρ) (g : Go S H σ ρ S1 H1 σ1 ρ1) {p : Addr} {o : Obj} {u : HO} (h : H p = some (.frz o u)) : H1 p = some (.frz o u) := g.adv.kp p _ h (L.nofrz h)
end GN

set_option Elab.async false
set_option linter.all false
set_option maxRecDepth 100000
set_option maxHeartbeats 4000000
/-! G19: a list of own lists that one name holds. -/
namespace GN
open PySem PySem.Spec PyProof.Rows L2
def oRepL (fa fb : EF) : LF := fun ρ => (fa ρ).bind fun a => (fb a.2).bind fun b => match repL a.1 b.1 with
  | .ok (.list ds) => .ok (ds, b.2)
  | _ => .bad
section
variable {X : Cx} {C : XC} {W : WX} {pos : Pos}
theorem pod_rep {a b : Expr} {fa fb : EF} (ha : PD X C W a fa) (hb : PD X C W b fb) : POD X C W (.BinOp a .Mult b pos) (oRepL fa fb) :=
  PE.imp (pe_op op_rep ha hb) fun σ H Q ⟨S, ρ, L, p⟩ => ⟨S, ρ, L, p.seq fun d ρ1 _ p1 => fun v S1 H1 g1 r1 => ⟨S1, ρ1, g1.lk, (Post.o g1 p1).seq fun d2 ρ2 _ p2 => fun u S2 H2 g2 r2 => by
    have p3 := Post.o g2 p2
    dsimp only at p3
    cases d with
    | list xs =>
      cases d2 with
      | int k =>
        cases r2
        cases z : repL (.list xs) (.int k) with
        | exc x => rw [z] at p3; exact p3.elim
        | bad => rw [z] at p3; exact p3.elim
        | ok d =>
          rw [z] at p3
          unfold repL at z
          dsimp only at z
          split at z
          · rename_i hf
            cases z
            obtain ⟨h1, h2⟩ := Bool.and_eq_true_iff.mp hf
            have h3 := of_decide_eq_true h2
            have r1' := r1.up g2.adv.ss
            cases r1' with
            | lst ea ra =>
              exact ⟨_, k, _, rfl, rfl, g2.lk.sub _ _ ea, by omega, by omega, by rw [ra.length]; exact Nat.le_of_lt (few_line h1), fun q hq => KO.lay p3 (.refl g2.lk) (ra.flat _) hq⟩
          · cases z
      | _ => exact p3.elim
    | none => exact p3.elim
    | bool _ => exact p3.elim
    | int _ => exact p3.elim
    | str _ => exact p3.elim
    | tuple _ => exact p3.elim
    | dict _ => exact p3.elim⟩⟩
end
/-- the list at p holds the lists at qs, all of them held by nothing else -/
structure Gd (S H : Hp) (σ : St) (ρ : En) (p : Addr) (qs : List Addr) (ls : List (List D)) : Prop where
  top : H p = some (.lst (qs.map V.ref))
  ns : S p = none
  np : p ∉ qs
  nd : qs.Nodup
  len : qs.length = ls.length
  each : ∀ (j : Nat) (q : Addr) (l : List D), qs[j]? = some q → ls[j]? = some l → ∃ us, H q = some (.lst us) ∧ RpAll S us l ∧ S q = none
  no : ∀ q, q = p ∨ q ∈ qs → ¬ Ow σ ρ q
theorem Gd.go {S H S' H' : Hp} {σ σ' : St} {ρ ρ' : En} {p : Addr} {qs : List Addr} {ls : List (List D)} (G : Gd S H σ ρ p qs ls) (g : Go S H σ ρ S' H' σ' ρ') : Gd S' H' σ' ρ' p qs ls where
  top := (g.held G.top G.ns (G.no p (.inl rfl))).1
  ns := (g.held G.top G.ns (G.no p (.inl rfl))).2.1
  np := G.np
  nd := G.nd
  len := G.len
  each := fun j q l h1 h2 => by
    obtain ⟨us, e1, e2, e3⟩ := G.each j q l h1 h2
    obtain ⟨k1, k2, k3⟩ := g.held e1 e3 (G.no q (.inr (List.mem_of_getElem? h1)))
    exact ⟨us, k1, e2.up g.adv.ss, k2⟩
  no := fun q h => by
    rcases h with rfl | h
    · exact (g.held G.top G.ns (G.no q (.inl rfl))).2.2
    · obtain ⟨j, hj⟩ := List.getElem?_of_mem h
      have hlt : j < ls.length := by rw [← G.len]; exact (List.getElem?_eq_some_iff.mp hj).1
      obtain ⟨us, e1, e2, e3⟩ := G.each j q ls[j] hj (List.getElem?_eq_getElem hlt)
      exact (g.held e1 e3 (G.no q (.inr h))).2.2
/-- .. since the start S0 H0 σ0 ρ0, when they were not there -/
structure PG (S0 H0 : Hp) (σ0 : St) (ρ0 : En) (i : Nat) (S H : Hp) (σ : St) (ρ : En) (p : Addr) (qs : List Addr) (ls : List (List D)) : Prop where
  go : Go S0 H0 σ0 ρ0 S H σ ρ
  gd : Gd S H σ ρ p qs ls
  new : ∀ q, q = p ∨ q ∈ qs → H0 q = none
  at_ : σ[i]? = some (some (V.ref p))
theorem nodup_at {α : Type} : ∀ {l : List α} {i j : Nat} {x : α}, l.Nodup → l[i]? = some x → l[j]? = some x → i = j
  | [], _, _, _, _, h, _ => by simp at h
  | a :: l, 0, 0, _, _, _, _ => rfl
  | a :: l, 0, j + 1, x, n, h1, h2 => by
    simp at h1 h2
    subst h1
    exact absurd (List.mem_of_getElem? h2) (List.nodup_cons.mp n).1
  | a :: l, i + 1, 0, x, n, h1, h2 => by
    simp at h1 h2
    subst h2
    exact absurd (List.mem_of_getElem? h1) (List.nodup_cons.mp n).1
  | a :: l, i + 1, j + 1, x, n, h1, h2 => by
    simp at h1 h2
    rw [nodup_at (List.nodup_cons.mp n).2 h1 h2]
section
variable {S0 H0 S H S' H' : Hp} {σ0 σ σ' : St} {ρ0 ρ ρ' : En} {i : Nat} {p : Addr} {qs : List Addr} {ls : List (List D)}
theorem PG.step (P : PG S0 H0 σ0 ρ0 i S H σ ρ p qs ls) (g : Go S H σ ρ S' H' σ' ρ') (h : σ'[i]? = σ[i]?) : PG S0 H0 σ0 ρ0 i S' H' σ' ρ' p qs ls := ⟨P.go.trans g, P.gd.go g, P.new, h.trans P.at_⟩
theorem PG.setV (P : PG S0 H0 σ0 ρ0 i S H σ ρ p qs ls) {k : Nat} {v : V} {d : D} (r : Rp S v d) (hk : k ≠ i) : PG S0 H0 σ0 ρ0 i S H (σ.set k (some v)) (ρ.set k (.val d)) p qs ls :=
  P.step ((Go.refl P.go.lk).setV r) (List.getElem?_set_ne hk)
/-- one cell is written -/
theorem PG.put (P : PG S0 H0 σ0 ρ0 i S H σ ρ p qs ls) {j k : Nat} {q : Addr} {l : List D} {us : List V} {v : V} {d : D} (h1 : qs[j]? = some q) (h2 : ls[j]? = some l) (h3 : H q = some (.lst us)) (r : Rp S v d) :
    PG S0 H0 σ0 ρ0 i S (upd H q (.lst (us.set k v))) σ ρ p qs (ls.set j (l.set k d)) := by
  obtain ⟨us', e1, e2, e3⟩ := P.gd.each j q l h1 h2
  rw [h3] at e1
  cases e1
  have hq : q ∈ qs := List.mem_of_getElem? h1
  have hpq : p ≠ q := fun z => P.gd.np (by rw [z]; exact hq)
  refine ⟨P.go.put (P.new q (.inr hq)) e3 (P.gd.no q (.inr hq)), ⟨by rw [upd_ne hpq]; exact P.gd.top, P.gd.ns, P.gd.np, P.gd.nd, by rw [List.length_set]; exact P.gd.len, fun m q' l' f1 f2 => ?_, P.gd.no⟩, P.new, P.at_⟩
  by_cases hm : m = j
  · subst hm
    rw [h1] at f1
    cases f1
    have hlt : m < ls.length := (List.getElem?_eq_some_iff.mp h2).1
    rw [List.getElem?_set_self hlt] at f2
    cases f2
    exact ⟨_, upd_same, e2.set r k, e3⟩
  · rw [List.getElem?_set_ne (Ne.symm hm)] at f2
    obtain ⟨ws, y1, y2, y3⟩ := P.gd.each m q' l' f1 f2
    have hne : q' ≠ q := fun z => by
      subst z
      exact hm (nodup_at P.gd.nd f1 h1)
    exact ⟨ws, by rw [upd_ne hne]; exact y1, y2, y3⟩
end
/-! ### the writing turns -/
abbrev GS := List (List D)
def putG (ir ic is : Nat) (ρ : En) (ls : GS) : Res GS := match ρ[ir]?, ρ[ic]?, ρ[is]? with
  | some (.val (.int r)), some (.val (.int c)), some (.val s) => (match ixN ls.length r with
    | some r' => (match ls[r']? with
      | some l => (match ixN l.length c with
        | some c' => .ok (ls.set r' (l.set c' s))
        | none => .bad)
      | none => .bad)
    | none => .bad)
  | _, _, _ => .bad
theorem putG_ok {ir ic is : Nat} {ρ : En} {ls ls' : GS} (h : putG ir ic is ρ ls = .ok ls') : ∃ (r c : Int) (s : D) (r' c' : Nat) (l : List D), ρ[ir]? = some (.val (.int r)) ∧ ρ[ic]? = some (.val (.int c)) ∧ ρ[is]? = some (.val s) ∧ ixN ls.length r = some r' ∧ ls[r']? = some l ∧ ixN l.length c = some c' ∧ ls' = ls.set r' (l.set c' s) := by
  unfold putG at h
  split at h
  · rename_i r c s h1 h2 h3
    split at h
    · rename_i r' h4
      split at h
      · rename_i l h5
        split at h
        · rename_i c' h6
          cases h
          exact ⟨r, c, s, r', c', l, h1, h2, h3, h4, h5, h6, rfl⟩
        · cases h
      · cases h
    · cases h
  · cases h
def colG (ir ic is : Nat) : List D → En → GS → Res (En × GS)
  | [], ρ, ls => .ok (ρ, ls)
  | d :: ds, ρ, ls => (putG ir ic is (ρ.set ic (.val d)) ls).bindN fun ls' => colG ir ic is ds (ρ.set ic (.val d)) ls'
def rowG (ir ic is : Nat) (it : LF) : List D → En → GS → Res (En × GS)
  | [], ρ, ls => .ok (ρ, ls)
  | d :: ds, ρ, ls => (it (ρ.set ir (.val d))).bindN fun a => (colG ir ic is a.1 a.2 ls).bindN fun b => rowG ir ic is it ds b.1 b.2
/-! ### the loops -/
/-- rows[row][column] = sign -/
def tPutG (K : PySem.W.Frag) (i ir ic is : Nat) (C : XC) (W : WX) : TS := tAsg (tD C W (eVar is)) (gSub (tOp (rIxL K) (tVar i) (tD C W (eVar ir))) (tD C W (eVar ic)) rSetL)
section
variable {K : PySem.W.Frag} {C : XC} {W : WX} {S0 H0 : Hp} {σ0 : St} {ρ0 : En} {i ir ic is : Nat} {p : Addr} {qs : List Addr} {Dn : Ends}
theorem eVar_ok {ρ : En} {k : Nat} {d : D} (h : ρ[k]? = some (.val d)) : eVar k ρ = .ok (d, ρ) := by
  unfold eVar
  rw [h]
theorem put_of {S H : Hp} {σ : St} {ρ : En} {ls ls' : GS} (P : PG S0 H0 σ0 ρ0 i S H σ ρ p qs ls) (e : putG ir ic is ρ ls = .ok ls') (k : ∀ S' H', Same S S' → PG S0 H0 σ0 ρ0 i S' H' σ ρ p qs ls' → Dn.nx σ H') : tPutG K i ir ic is C W Dn σ H := by
  obtain ⟨r, c, s, r', c', l, h1, h2, h3, h4, h5, h6, rfl⟩ := putG_ok e
  refine ⟨S, ρ, P.go.lk, ?_⟩
  rw [eVar_ok h3]
  intro v S1 H1 g1 rv
  have P1 := P.step g1 rfl
  refine ⟨_, P1.at_, S1, ρ, g1.lk, ?_⟩
  rw [eVar_ok h1]
  intro u S2 H2 g2 ru
  cases ru
  have P2 := P1.step g2 rfl
  have hq : ∃ q, qs[r']? = some q := by
    have hlt : r' < qs.length := by rw [P2.gd.len]; exact (List.getElem?_eq_some_iff.mp h5).1
    exact ⟨_, List.getElem?_eq_getElem hlt⟩
  obtain ⟨q, hq⟩ := hq
  refine ⟨p, qs.map V.ref, r, .ref q, rfl, rfl, .of P2.gd.top, ?_, S2, ρ, g2.lk, ?_⟩
  · unfold atI
    rw [List.length_map, P2.gd.len, h4]
    show (qs.map V.ref)[r']? = _
    rw [List.getElem?_map, hq]
    rfl
  rw [eVar_ok h2]
  intro w S3 H3 g3 rw3
  cases rw3
  have P3 := P2.step g3 rfl
  obtain ⟨us, e1, e2, e3⟩ := P3.gd.each r' q l hq h5
  refine ⟨q, us, c, c', rfl, rfl, e1, by rw [e2.length]; exact h6, ?_⟩
  exact k S3 _ (g1.adv.ss.trans (g2.adv.ss.trans g3.adv.ss)) (P3.put (k := c') hq h5 e1 (rv.up (g2.adv.ss.trans g3.adv.ss)))
theorem col_of {J : It} {S H : Hp} {σ : St} {ρ ρe : En} {ls lse : GS} {ds : List D} (hic : ic ≠ i) (ok : IterOk J ds S) (P : PG S0 H0 σ0 ρ0 i S H σ ρ p qs ls) (e : colG ir ic is ds ρ ls = .ok (ρe, lse))
    (k : ∀ S' H' σ', Same S S' → PG S0 H0 σ0 ρ0 i S' H' σ' ρe p qs lse → Dn.nx σ' H') : tFor (fun _ _ R => R J H) (gName ic) (tPutG K i ir ic is C W) Dn σ H := by
  refine for_it ok (fun j σ2 H2 => ∃ S2 ρ2 ls2, Same S S2 ∧ PG S0 H0 σ0 ρ0 i S2 H2 σ2 ρ2 p qs ls2 ∧ colG ir ic is (ds.drop j) ρ2 ls2 = .ok (ρe, lse)) ⟨S, ρ, ls, .refl _, P, e⟩ (fun j σ2 H2 _ ⟨S2, ρ2, ls2, s2, P2, _⟩ => s2.trans P2.go.lk.sub) ?_ ?_
  · rintro j x σ2 H2 H3 hj ⟨S2, ρ2, ls2, s2, P2, e2⟩ hy
    obtain ⟨S3, ad, d, ed, rx⟩ := hy S2 s2 P2.go.lk.sub
    have e3 : ds.drop j = d :: ds.drop (j + 1) := by
      obtain ⟨hlt, e'⟩ := List.getElem?_eq_some_iff.mp ed
      rw [List.drop_eq_getElem_cons hlt, e']
    rw [e3] at e2
    unfold colG at e2
    obtain ⟨ls3, f1, f2⟩ := bindN_ok e2
    have P3 := (P2.step (.of0 P2.go.lk ad) rfl).setV (k := ic) rx hic
    exact put_of P3 f1 fun S4 H' s4 P4 => ⟨S4, _, ls3, s2.trans (ad.ss.trans s4), P4, f2⟩
  · rintro σ2 H2 ⟨S2, ρ2, ls2, s2, P2, e2⟩
    rw [List.drop_length] at e2
    cases e2
    exact k S2 H2 σ2 s2 P2
theorem row_of {J : It} {it : LF} {S H : Hp} {σ : St} {ρ ρe : En} {ls lse : GS} {ds : List D} (hic : ic ≠ i) (hir : ir ≠ i) (ok : IterOk J ds S) (P : PG S0 H0 σ0 ρ0 i S H σ ρ p qs ls) (e : rowG ir ic is it ds ρ ls = .ok (ρe, lse))
    (k : ∀ S' H' σ', Same S S' → PG S0 H0 σ0 ρ0 i S' H' σ' ρe p qs lse → Dn.nx σ' H') : tFor (fun _ _ R => R J H) (gName ir) (tFor (tI C W it) (gName ic) (tPutG K i ir ic is C W)) Dn σ H := by
  refine for_it ok (fun j σ2 H2 => ∃ S2 ρ2 ls2, Same S S2 ∧ PG S0 H0 σ0 ρ0 i S2 H2 σ2 ρ2 p qs ls2 ∧ rowG ir ic is it (ds.drop j) ρ2 ls2 = .ok (ρe, lse)) ⟨S, ρ, ls, .refl _, P, e⟩ (fun j σ2 H2 _ ⟨S2, ρ2, ls2, s2, P2, _⟩ => s2.trans P2.go.lk.sub) ?_ ?_
  · rintro j x σ2 H2 H3 hj ⟨S2, ρ2, ls2, s2, P2, e2⟩ hy
    obtain ⟨S3, ad, d, ed, rx⟩ := hy S2 s2 P2.go.lk.sub
    have e3 : ds.drop j = d :: ds.drop (j + 1) := by
      obtain ⟨hlt, e'⟩ := List.getElem?_eq_some_iff.mp ed
      rw [List.drop_eq_getElem_cons hlt, e']
    rw [e3] at e2
    unfold rowG at e2
    obtain ⟨⟨ds4, ρ4⟩, f1, f2⟩ := bindN_ok e2
    obtain ⟨⟨ρ5, ls5⟩, f3, f4⟩ := bindN_ok f2
    have P3 := (P2.step (.of0 P2.go.lk ad) rfl).setV (k := ir) rx hir
    refine ⟨S3, _, P3.go.lk, ?_⟩
    rw [f1]
    intro J4 S4 H4 g4 ok4
    have P4 := P3.step g4 rfl
    exact col_of (K := K) (C := C) (W := W) hic ok4 P4 f3 fun S' H' σ' s5 P5 => ⟨S', ρ5, ls5, s2.trans (ad.ss.trans (g4.adv.ss.trans s5)), P5, f4⟩
  · rintro σ2 H2 ⟨S2, ρ2, ls2, s2, P2, e2⟩
    rw [List.drop_length] at e2
    cases e2
    exact k S2 H2 σ2 s2 P2
end
end GN

set_option Elab.async false
set_option linter.all false
set_option maxRecDepth 100000
set_option maxHeartbeats 4000000
/-! G20: the grid is made, walked by names, given away. -/
namespace GN
open PySem PySem.Spec PyProof.Rows L2
def nameG (g2 : GF) (fb : EF) (g4 : GF) (fs : EF) (is ir ic : Nat) (itR itC : LF) : List D → En → GS → Res (En × GS)
  | [], ρ, ls => .ok (ρ, ls)
  | d :: ds, ρ, ls => match g2 d ρ with
    | none => .bad
    | some ρ1 => (fb ρ1).bindN fun b => match g4 b.1 b.2 with
      | none => .bad
      | some ρ2 => (fs ρ2).bindN fun s => (itR (s.2.set is (.val s.1))).bindN fun a => (rowG ir ic is itC a.1 a.2 ls).bindN fun r => nameG g2 fb g4 fs is ir ic itR itC ds r.1 r.2
section
variable {K : PySem.W.Frag} {C : XC} {W : WX} {S0 H0 : Hp} {σ0 : St} {ρ0 : En} {i ir ic is : Nat} {p : Addr} {qs : List Addr} {Dn : Ends} {vs2 vs4 : List Nat}
theorem wipe_at {σ σ' : St} {vs : List Nat} (h : L2.wipe σ' vs = L2.wipe σ vs) (hi : i ∉ vs) : σ'[i]? = σ[i]? := by
  rw [← wipe_out hi, h, wipe_out hi]
theorem name_of {J : It} {g2 g4 : GF} {fb fs : EF} {itR itC : LF} {S H : Hp} {σ : St} {ρ ρe : En} {ls lse : GS} {ds : List D} (hic : ic ≠ i) (hir : ir ≠ i) (his : is ≠ i) (h2 : i ∉ vs2) (h4 : i ∉ vs4) (ok : IterOk J ds S) (P : PG S0 H0 σ0 ρ0 i S H σ ρ p qs ls)
    (e : nameG g2 fb g4 fs is ir ic itR itC ds ρ ls = .ok (ρe, lse)) (k : ∀ S' H' σ', Same S S' → PG S0 H0 σ0 ρ0 i S' H' σ' ρe p qs lse → Dn.nx σ' H') :
    tFor (fun _ _ R => R J H) (tG g2 vs2) (tSeq (tAsg (tD C W fb) (tG g4 vs4)) (tSeq (tAsg (tD C W fs) (gName is)) (tFor (tI C W itR) (gName ir) (tFor (tI C W itC) (gName ic) (tPutG K i ir ic is C W))))) Dn σ H := by
  refine for_it ok (fun j σ2 H2 => ∃ S2 ρ2 ls2, Same S S2 ∧ PG S0 H0 σ0 ρ0 i S2 H2 σ2 ρ2 p qs ls2 ∧ nameG g2 fb g4 fs is ir ic itR itC (ds.drop j) ρ2 ls2 = .ok (ρe, lse)) ⟨S, ρ, ls, .refl _, P, e⟩ (fun j σ2 H2 _ ⟨S2, ρ2, ls2, s2, P2, _⟩ => s2.trans P2.go.lk.sub) ?_ ?_
  · rintro j x σ2 H2 H3 hj ⟨S2, ρ2, ls2, s2, P2, e2⟩ hy
    obtain ⟨S3, ad, d, ed, rx⟩ := hy S2 s2 P2.go.lk.sub
    have e3 : ds.drop j = d :: ds.drop (j + 1) := by
      obtain ⟨hlt, e'⟩ := List.getElem?_eq_some_iff.mp ed
      rw [List.drop_eq_getElem_cons hlt, e']
    rw [e3] at e2
    unfold nameG at e2
    have P3 := P2.step (.of0 P2.go.lk ad) rfl
    cases z : g2 d ρ2 with
    | none => rw [z] at e2; cases e2
    | some ρ4 =>
      rw [z] at e2
      obtain ⟨⟨b, ρ5⟩, f1, e2⟩ := bindN_ok e2
      dsimp only at e2
      cases z4 : g4 b ρ5 with
      | none => rw [z4] at e2; cases e2
      | some ρ6 =>
        rw [z4] at e2
        obtain ⟨⟨sg, ρ7⟩, f2, e2⟩ := bindN_ok e2
        obtain ⟨⟨rs, ρ8⟩, f3, e2⟩ := bindN_ok e2
        obtain ⟨⟨ρ9, ls9⟩, f4, e2⟩ := bindN_ok e2
        refine ⟨S3, ρ2, d, P3.go.lk, rx, ρ4, z, fun σ4 g4' w4 => ?_⟩
        have P4 := P3.step g4' (wipe_at w4 h2)
        refine ⟨S3, ρ4, P4.go.lk, ?_⟩
        rw [f1]
        intro v S5 H5 g5 rb
        have P5 := P4.step g5 rfl
        refine ⟨S5, ρ5, b, P5.go.lk, rb, ρ6, z4, fun σ6 g6 w6 => ?_⟩
        have P6 := P5.step g6 (wipe_at w6 h4)
        refine ⟨S5, ρ6, P6.go.lk, ?_⟩
        rw [f2]
        intro u S7 H7 g7 rs7
        have P7 := (P6.step g7 rfl).setV (k := is) rs7 his
        refine ⟨S7, _, P7.go.lk, ?_⟩
        rw [f3]
        intro J8 S8 H8 g8 ok8
        have P8 := P7.step g8 rfl
        exact row_of (K := K) (C := C) (W := W) hic hir ok8 P8 f4 fun S' H' σ' s9 P9 => ⟨S', ρ9, ls9, s2.trans (ad.ss.trans (g5.adv.ss.trans (g7.adv.ss.trans (g8.adv.ss.trans s9)))), P9, e2⟩
  · rintro σ2 H2 ⟨S2, ρ2, ls2, s2, P2, e2⟩
    rw [List.drop_length] at e2
    cases e2
    exact k S2 H2 σ2 s2 P2
/-- the grid is given away: frozen -/
theorem PG.freeze {S H : Hp} {σ : St} {ρ : En} {ls : GS} (P : PG S0 H0 σ0 ρ0 i S H σ ρ p qs ls) (hi : i < ρ.length) : ∃ S', Same S S' ∧ Go S0 H0 σ0 ρ0 S' H σ (ρ.set i (.val (.list (ls.map PyData.list)))) := by
  have G := P.gd
  have gS : ∀ {q : Addr}, q ∈ qs → S q = none ∧ ∃ us, H q = some (.lst us) := fun {q} hq => by
    obtain ⟨j, hj⟩ := List.getElem?_of_mem hq
    have hlt : j < ls.length := by rw [← G.len]; exact (List.getElem?_eq_some_iff.mp hj).1
    obtain ⟨us, e1, e2, e3⟩ := G.each j q ls[j] hj (List.getElem?_eq_getElem hlt)
    exact ⟨e3, us, e1⟩
  let S' : Hp := fun a => if a = p then H p else if a ∈ qs then H a else S a
  have sp : S' p = some (.lst (qs.map V.ref)) := by show (if p = p then H p else _) = _; rw [if_pos rfl]; exact G.top
  have sq : ∀ {q : Addr}, q ∈ qs → S' q = H q := fun {q} hq => by
    show (if q = p then H p else if q ∈ qs then H q else S q) = _
    by_cases e : q = p
    · rw [if_pos e, e]
    · rw [if_neg e, if_pos hq]
  have so : ∀ {a : Addr}, a ≠ p → a ∉ qs → S' a = S a := fun {a} h1 h2 => by
    show (if a = p then H p else if a ∈ qs then H a else S a) = _
    rw [if_neg h1, if_neg h2]
  have ss : Same S S' := fun a o e => by
    rw [so (fun z => by rw [z, G.ns] at e; cases e) (fun z => by rw [(gS z).1] at e; cases e)]
    exact e
  have sh : Same S' H := fun a o e => by
    by_cases h1 : a = p
    · subst h1
      rw [sp] at e
      rw [G.top]
      exact e
    · by_cases h2 : a ∈ qs
      · rw [sq h2] at e; exact e
      · rw [so h1 h2] at e; exact P.go.lk.sub a o e
  have rp : Rp S' (.ref p) (.list (ls.map PyData.list)) := by
    refine .lst sp ?_
    have key : ∀ (n : Nat) {as : List Addr} {ms : GS}, (∀ (j : Nat) (q : Addr), as[j]? = some q → qs[n + j]? = some q) → (∀ (j : Nat) (l : List D), ms[j]? = some l → ls[n + j]? = some l) → as.length = ms.length → RpAll S' (as.map V.ref) (ms.map PyData.list) := by
      intro n as
      induction as generalizing n with
      | nil =>
        intro ms _ _ hl
        cases ms with
        | nil => exact .nil
        | cons _ _ => cases hl
      | cons a as ih =>
        intro ms h1 h2 hl
        cases ms with
        | nil => cases hl
        | cons m ms =>
          have q1 := h1 0 a rfl
          have q2 := h2 0 m rfl
          obtain ⟨us, e1, e2, e3⟩ := G.each _ a m q1 q2
          refine .cons (.lst (by rw [sq (List.mem_of_getElem? q1)]; exact e1) (e2.up ss)) (ih (n + 1) (fun j q h => ?_) (fun j l h => ?_) (by simpa using hl))
          · have := h1 (j + 1) q (by simpa using h)
            rw [show n + (j + 1) = n + 1 + j by omega] at this
            exact this
          · have := h2 (j + 1) l (by simpa using h)
            rw [show n + (j + 1) = n + 1 + j by omega] at this
            exact this
    exact key 0 (fun j q h => by rw [Nat.zero_add]; exact h) (fun j l h => by rw [Nat.zero_add]; exact h) G.len
  have L := P.go.lk
  have hno : ∀ {j : Nat} {es : List D} {a : Addr}, ρ[j]? = some (Sl.own es) → σ[j]? = some (some (V.ref a)) → S' a = S a := fun {j es a} h1 h2 => so (fun z => G.no a (.inl z) ⟨j, es, h1, h2⟩) (fun z => G.no a (.inr z) ⟨j, es, h1, h2⟩)
  have sub : ∀ {q : Addr}, Ow σ (ρ.set i (.val (.list (ls.map PyData.list)))) q → Ow σ ρ q := fun {q} h => by
    obtain ⟨j, es, f1, f2⟩ := h
    rcases get_set f1 with ⟨rfl, e1, hl⟩ | ⟨hj, f1⟩
    · cases e1
    · exact ⟨j, es, f1, f2⟩
  refine ⟨S', ss, P.go.ln, ⟨P.go.adv.ss.trans ss, sh, P.go.adv.kp, fun a o e => ?_, P.go.adv.dm⟩, ⟨by rw [List.length_set]; exact L.len, sh, fun j d h => ?_, fun j es h => ?_, fun j k es fs q f1 f2 f3 f4 => ?_⟩, fun q h => P.go.ow q (sub h), fun es h => ?_⟩
  · by_cases h1 : a = p
    · subst h1; exact .inr (.inl (P.new _ (.inl rfl)))
    · by_cases h2 : a ∈ qs
      · exact .inr (.inl (P.new _ (.inr h2)))
      · rw [so h1 h2] at e; exact P.go.adv.nw a o e
  · rcases get_set h with ⟨rfl, e1, hl⟩ | ⟨hj, h⟩
    · cases e1
      exact ⟨_, P.at_, rp⟩
    · obtain ⟨v, h1, h2⟩ := L.vals j d h
      exact ⟨v, h1, h2.up ss⟩
  · rcases get_set h with ⟨rfl, e1, hl⟩ | ⟨hj, h⟩
    · cases e1
    · obtain ⟨a, us, h1, h2, h3, h4⟩ := L.owns j es h
      exact ⟨a, us, h1, h2, h3.up ss, by rw [hno h h1]; exact h4⟩
  · rcases get_set f1 with ⟨rfl, e1, hl⟩ | ⟨hj, f1⟩
    · cases e1
    · rcases get_set f2 with ⟨rfl, e1, hl⟩ | ⟨hk, f2⟩
      · cases e1
      · exact L.dist j k es fs q f1 f2 f3 f4
  · rcases get_set h with ⟨rfl, e1, hl⟩ | ⟨hj, h⟩
    · cases e1
    · exact P.go.z0 es h
end
/-! ### [.. for _ in ..], new lists: the grid -/
def lcG (g : GF) (f : LF) (vs : List Nat) : List D → En → Res (GS × En)
  | [], ρ => .ok ([], ρ)
  | d :: ds, ρ => match g d ρ with
    | none => .bad
    | some ρ1 => (f ρ1).bindN fun a => (lcG g f vs ds (wipeR a.2 vs)).bindN fun r => .ok (a.1 :: r.1, r.2)
theorem ow_rest {σ : St} {ρ1 ρ : En} {vs : List Nat} {q : Addr} (h : Ow σ (restR ρ1 ρ vs) q) : Ow (L2.wipe σ vs) ρ q := by
  obtain ⟨i, ds, h1, h2⟩ := h
  rcases restR_get h1 with ⟨e, hm⟩ | ⟨h3, h4⟩
  · cases z : ρ1[i]? with
    | none => rw [z] at e; cases e
    | some s =>
      rw [z] at e
      cases s <;> cases e
  · exact ⟨i, ds, h4, by rw [wipe_out h3]; exact h2⟩
theorem lcG_of {C : XC} {i : Nat} {J : It} {vs : List Nat} {g : GF} {f : LF} {S H S1 H1 : Hp} {σ : St} {ρ ρ1 ρe : En} {ds : List D} {lse : GS} {Q : St → Hp → Prop} (ga : Go S H σ ρ S1 H1 σ ρ1) (ok : IterOk J ds S1) (hi : i < σ.length) (hf : few ds.length = true)
    (e : lcG g f vs ds (wipeR ρ1 vs) = .ok (lse, ρe)) (k : ∀ (S' H' : Hp) (p : Addr) (qs : List Addr), PG S H σ ρ i S' H' (σ.set i (some (.ref p))) ((restR ρ1 ρe vs).set i .no) p qs lse → Q (σ.set i (some (.ref p))) H') :
    tLc (fun _ _ R => R J H1) (tG g vs) (tT C W0 tYesF) (tO C W0 f) vs σ H1 fun x H' => gName i x σ H' Q := by
  intro D' hD
  have hS1 : S1 D' = none := by
    cases z : S1 D' with
    | none => rfl
    | some o => rw [ga.lk.sub _ _ z] at hD; cases hD
  have Lw := ga.lk.wipe (vs := vs)
  refine lc_it ok (fun j H2 => ∃ S2 ρ2 qs ls2, Go S1 H1 (L2.wipe σ vs) (wipeR ρ1 vs) S2 H2 (L2.wipe σ vs) ρ2 ∧ Gd S2 H2 (L2.wipe σ vs) ρ2 D' qs ls2 ∧ (∀ q ∈ qs, H1 q = none) ∧ qs.length ≤ j ∧ ∃ r, lcG g f vs (ds.drop j) ρ2 = .ok (r, ρe) ∧ lse = ls2 ++ r) ?_ (fun j H2 _ ⟨S2, ρ2, qs, ls2, g2, _⟩ => g2.adv.ss.trans g2.lk.sub) ?_ ?_
  · refine ⟨S1, wipeR ρ1 vs, [], [], .of0 Lw (Adv.lay Lw.sub hD), ⟨upd_same, hS1, by simp, List.nodup_nil, rfl, fun j q l h => by simp at h, fun q h => ?_⟩, fun q h => by simp at h, Nat.le_refl _, lse, by rw [List.drop_zero]; exact e, rfl⟩
    rcases h with rfl | h
    · intro ow
      obtain ⟨⟨ws, z⟩, _⟩ := Lw.ow ow
      rw [hD] at z; cases z
    · simp at h
  · rintro j x H2 H3 hj ⟨S2, ρ2, qs, ls2, g2, G2, new2, hl, r, e1, e2⟩ hy
    obtain ⟨S3, ad, d, ed, rx⟩ := hy S2 g2.adv.ss g2.lk.sub
    have g3 : Go S2 H2 (L2.wipe σ vs) ρ2 S3 H3 (L2.wipe σ vs) ρ2 := .of0 g2.lk ad
    have e3 : ds.drop j = d :: ds.drop (j + 1) := by
      obtain ⟨hlt, e'⟩ := List.getElem?_eq_some_iff.mp ed
      rw [List.drop_eq_getElem_cons hlt, e']
    rw [e3] at e1
    unfold lcG at e1
    cases z : g d ρ2 with
    | none => rw [z] at e1; cases e1
    | some ρ4 =>
      rw [z] at e1
      obtain ⟨⟨l, ρ5⟩, f1, e1⟩ := bindN_ok e1
      obtain ⟨⟨r2, ρ6⟩, f2, e1⟩ := bindN_ok e1
      cases e1
      refine ⟨S3, ρ2, d, g3.lk, rx, ρ4, z, fun σ4 g4 w4 => ?_⟩
      have w4' : L2.wipe σ4 vs = L2.wipe σ vs := w4.trans (wipe_sub fun i h => h)
      refine ⟨w4', S3, ρ4, g4.lk, fun S5 H5 g5 => ?_⟩
      refine iteT ⟨S5, ρ4, g5.lk, ?_⟩
      rw [f1]
      intro q us S6 H6 g6 hq rq hsq h0 hnq
      have gA := g3.trans (g4.trans g5)
      have G5 := G2.go gA
      have gB := gA.trans g6
      have gW := gB.wipe (vs := vs)
      rw [w4'] at gW
      have G6 := G2.go gW
      have hqD : q ≠ D' := fun z => by rw [z, G5.top] at h0; cases h0
      have hqn : q ∉ qs := fun hm => by
        obtain ⟨m, hm'⟩ := List.getElem?_of_mem hm
        have hlt : m < ls2.length := by rw [← G5.len]; exact (List.getElem?_eq_some_iff.mp hm').1
        obtain ⟨ws, y1, _⟩ := G5.each m q ls2[m] hm' (List.getElem?_eq_getElem hlt)
        rw [h0] at y1; cases y1
      have hlen : (qs.map V.ref).length < sizeLine := few_line (by
        rw [List.length_map]
        have := of_decide_eq_true hf
        exact decide_eq_true (by omega))
      refine ⟨qs.map V.ref, G6.top, hlen, ?_⟩
      have gP : Go S1 H1 (L2.wipe σ vs) (wipeR ρ1 vs) S6 (upd H6 D' (.lst (qs.map V.ref ++ [V.ref q]))) (L2.wipe σ vs) (wipeR ρ5 vs) := (g2.trans gW).put hD G6.ns (G6.no D' (.inl rfl))
      refine ⟨S6, wipeR ρ5 vs, qs ++ [q], ls2 ++ [l], gP, ⟨by rw [List.map_append]; exact upd_same, G6.ns, fun hm => ?_, ?_, by rw [List.length_append, List.length_append, G6.len]; rfl, fun m q' l' y1 y2 => ?_, fun q' hq' => ?_⟩, fun q' hm => ?_, by rw [List.length_append]; simp; omega, r2, f2, by rw [e2, List.append_assoc]; rfl⟩
      · rcases List.mem_append.mp hm with y | y
        · exact G6.np y
        · exact hqD (List.mem_singleton.mp y).symm
      · rw [List.nodup_append]
        refine ⟨G6.nd, by simp, fun a ha b hb => ?_⟩
        rw [List.mem_singleton.mp hb]
        exact fun z => hqn (by rw [← z]; exact ha)
      · by_cases hm : m < qs.length
        · rw [List.getElem?_append_left hm] at y1
          rw [List.getElem?_append_left (by rw [← G6.len]; exact hm)] at y2
          obtain ⟨ws, a1, a2, a3⟩ := G6.each m q' l' y1 y2
          exact ⟨ws, by rw [upd_ne fun z => G6.np (by rw [← z]; exact List.mem_of_getElem? y1)]; exact a1, a2, a3⟩
        · rw [List.getElem?_append_right (by omega)] at y1
          rw [List.getElem?_append_right (by rw [← G6.len]; omega), ← G6.len] at y2
          have e0 : m - qs.length = 0 := by
            cases hz : m - qs.length with
            | zero => rfl
            | succ n => rw [hz] at y1; simp at y1
          rw [e0] at y1 y2
          simp at y1 y2
          subst y1
          subst y2
          exact ⟨us, by rw [upd_ne hqD]; exact hq, rq, hsq⟩
      · rcases hq' with rfl | hq'
        · exact G6.no _ (.inl rfl)
        · rcases List.mem_append.mp hq' with y | y
          · exact G6.no _ (.inr y)
          · rw [List.mem_singleton.mp y]
            intro ow
            exact hnq (ow_wipe (vs := vs) (by rw [w4']; exact ow))
      · rcases List.mem_append.mp hm with y | y
        · exact new2 q' y
        · rw [List.mem_singleton.mp y]
          exact (g2.trans gA).adv.dm q h0
  · rintro H2 ⟨S2, ρ2, qs, ls2, g2, G2, new2, hl, r, e1, e2⟩
    rw [List.drop_length] at e1
    cases e1
    rw [List.append_nil] at e2
    subst e2
    have gR := Go.rest ga.lk g2
    refine k S2 H2 D' qs ⟨(ga.trans gR).setN, ⟨G2.top, G2.ns, G2.np, G2.nd, G2.len, G2.each, fun q h ow => G2.no q h (ow_rest ow.set_no)⟩, fun q h => ?_, set_get hi⟩
    rcases h with rfl | h
    · exact ga.adv.dm _ hD
    · exact ga.adv.dm _ (new2 q h)
end GN

set_option Elab.async false
set_option linter.all false
set_option maxRecDepth 100000
set_option maxHeartbeats 4000000
/-! P0: what the top has left. -/
namespace GN
open PySem PySem.Spec PyProof.Rows L2
def signs : Str := "0123456789abcdefghijklmnopqrstuvwxyz"
def c_SIGNS : D := .str signs
def c_MOST_CELLS : D := .int 20000
def c_MOST_TILES : D := .int 2000
structure Tx (K : PySem.W.Frag) (mg : Str → Option Value) (C : XC) : Prop where
  z_len : mg "len" = none
  z_abs : mg "abs" = none
  z_isinstance : mg "isinstance" = none
  z_int : mg "int" = none
  z_bool : mg "bool" = none
  z_str : mg "str" = none
  z_list : mg "list" = none
  z_tuple : mg "tuple" = none
  z_all : mg "all" = none
  z_zip : mg "zip" = none
  z_range : mg "range" = none
  z_enumerate : mg "enumerate" = none
  z_min : mg "min" = none
  z_max : mg "max" = none
  z_sorted : mg "sorted" = none
  g_gcd : mg "gcd" = some (.builtin "math.gcd")
  g_SIGNS : ∃ t, mg "SIGNS" = some (.str signs t)
  g_MOST_CELLS : ∃ t, mg "MOST_CELLS" = some (.int 20000 t)
  g_MOST_TILES : ∃ t, mg "MOST_TILES" = some (.int 2000 t)
  gn : mg "NoPlace" = some (.ref C.cn)
  np : ∃ f, NoC K mg C.cn f
  tm : OwnC K mg "TooMuch" C.ct
  cx : ClsX K C
  z_LookupError : mg "LookupError" = none
  z_ValueError : mg "ValueError" = none
section
variable {X : Cx} {C : XC} {W : WX} {pos : Pos}
theorem pd_gI2 {x : Str} {i : Int} (hm : ∃ t, X.mg x = some (.int i t)) (hg : Gl X x := by rfl) (hd : (x == ("__debug__" : Str)) = false := by decide) : PD X C W (.Name x pos) (eC (.int i)) := by
  obtain ⟨t, e⟩ := hm
  exact pd_gI e hg hd
theorem pd_gS2 {x i : Str} (hm : ∃ t, X.mg x = some (.str i t)) (hg : Gl X x := by rfl) (hd : (x == ("__debug__" : Str)) = false := by decide) : PD X C W (.Name x pos) (eC (.str i)) := by
  obtain ⟨t, e⟩ := hm
  exact pd_gS e hg hd
theorem ps_np2 {a : Expr} {fa : EF} {p pos pos2 : Pos} {k : Nat} (T : ∃ f, NoC X.K X.mg C.cn f) (hr : Room k X.A) (tk : Takes X W) (ha : PD X C W a fa) (hc : X.calm = true := by rfl) (hg : Gl X "NoPlace" := by rfl)
    (he : starEach (a :: []) X.env = (false, eval a X.env) :: starEach [] X.env := by rfl) (hpl : (backTo pos (starEach [] X.env)).any (·.1) = false := by rfl) :
    PSD X C W (.Raise (some (.Call (.Name "NoPlace" p) [a] [] pos)) none pos2) (sNp fa) := by
  obtain ⟨f, T⟩ := T
  exact ps_np T hr tk ha hc hg he hpl
end
end GN

set_option Elab.async false
set_option linter.all false
set_option maxRecDepth 100000
set_option maxHeartbeats 8000000
namespace GN
open PySem PySem.Spec PyProof.Rows L2
section
variable {P : Program} {w : World} {K : PySem.W.Frag} {mg : Str → Option Value} {base : Heap} {C : XC}
abbrev s_is_number : Stmt := top 7
abbrev N_is_number : List Str := ["thing"]
theorem sc_is_number : FnScope N_is_number ["thing"] (defScope s_is_number) := ⟨rfl, rfl, rfl, by decide +kernel, rfl, by decide +kernel, by decide +kernel⟩
def m_is_number : SF :=
  (sRet (eAnd2 (eIs "int" (eVar 0)) (eNot1 (eIs "bool" (eVar 0)))))
def F_is_number : List D → Res D := runD 1 m_is_number
theorem b_is_number  {f : Addr} (T : Tx K mg C) : BodyOk P w K mg base C 0 "is_number" s_is_number N_is_number f (m_is_number) := by
  intro cdv A outer s H E hr
  have tk : Takes (cxOf (L2.CX P w) P w K mg base N_is_number "is_number" (defScope s_is_number) f cdv A outer s H E) (fun cls d _ H => E cls d H) := takes_of rfl rfl rfl rfl
  exact (pss_1 (ps_r (pd_and (pd_is "int" (pd_v 0) T.z_isinstance T.z_int boot_int) (pd_one (pd_not (pd_is "bool" (pd_v 0) T.z_isinstance T.z_bool boot_bool))))))

abbrev s_is_tuple_of : Stmt := top 9
abbrev N_is_tuple_of : List Str := ["thing", "many"]
theorem sc_is_tuple_of : FnScope N_is_tuple_of ["thing", "many"] (defScope s_is_tuple_of) := ⟨rfl, rfl, rfl, by decide +kernel, rfl, by decide +kernel, by decide +kernel⟩
def m_is_tuple_of : SF :=
  (sRet (eAnd2 (eIs "tuple" (eVar 0)) (eOp eqF (eCall lenF (aCons (eVar 0) aNil)) (eVar 1))))
def F_is_tuple_of : List D → Res D := runD 2 m_is_tuple_of
theorem b_is_tuple_of  {f : Addr} (T : Tx K mg C) : BodyOk P w K mg base C 0 "is_tuple_of" s_is_tuple_of N_is_tuple_of f (m_is_tuple_of) := by
  intro cdv A outer s H E hr
  have tk : Takes (cxOf (L2.CX P w) P w K mg base N_is_tuple_of "is_tuple_of" (defScope s_is_tuple_of) f cdv A outer s H E) (fun cls d _ H => E cls d H) := takes_of rfl rfl rfl rfl
  exact (pss_1 (ps_r (pd_and (pd_is "tuple" (pd_v 0) T.z_isinstance T.z_tuple boot_tuple) (pd_one (pd_cmp (op_eqD hr.units) o_eqF (pd_cb call_len o_lenF T.z_len PySem.boot_len (pad_cons (pd_v 0) pad_nil)) (pd_v 1))))))

abbrev s_fraction : Stmt := top 11
abbrev N_fraction : List Str := ["top", "below", "most"]
theorem sc_fraction : FnScope N_fraction ["top", "below"] (defScope s_fraction) := ⟨rfl, rfl, rfl, by decide +kernel, rfl, by decide +kernel, by decide +kernel⟩
def m_fraction : SF :=
  (sSeq (sIf (tB1 (eOp eqF (eVar 1) (eC (.int 0)))) sBad sSkip) (sSeq (sSet 2 (eIf (tB1 (eOp gtI (eVar 1) (eC (.int 0)))) (eCall gcdF (aCons (eVar 0) (aCons (eVar 1) aNil))) (eNeg (eCall gcdF (aCons (eVar 0) (aCons (eVar 1) aNil)))))) (sRet (eTup (aCons (eOp fdivI (eVar 0) (eVar 2)) (aCons (eOp fdivI (eVar 1) (eVar 2)) aNil))))))
def F_fraction : List D → Res D := runD 3 m_fraction
theorem b_fraction  {f : Addr} (T : Tx K mg C) : BodyOk P w K mg base C 0 "fraction" s_fraction N_fraction f (m_fraction) := by
  intro cdv A outer s H E hr
  have tk : Takes (cxOf (L2.CX P w) P w K mg base N_fraction "fraction" (defScope s_fraction) f cdv A outer s H E) (fun cls d _ H => E cls d H) := takes_of rfl rfl rfl rfl
  exact (pss_c (ps_i (pt_c (op_eqD hr.units) o_eqF (pd_v 1) pd_int)
    (pss_1 ps_bad)
    pss_n)
    (pss_c (ps_s 2 (pd_if (pt_c op_gt o_gtI (pd_v 1) pd_int) (pd_gcd T.g_gcd (pad_cons (pd_v 0) (pad_cons (pd_v 1) pad_nil))) (pd_neg (pd_gcd T.g_gcd (pad_cons (pd_v 0) (pad_cons (pd_v 1) pad_nil))))) sc_fraction.nd)
    (pss_1 (ps_r (pd_tup (pad_cons (pd_fdiv (pd_v 0) (pd_v 2)) (pad_cons (pd_fdiv (pd_v 1) (pd_v 2)) pad_nil)))))))

abbrev s_plus : Stmt := top 12
abbrev N_plus : List Str := ["one", "other"]
theorem sc_plus : FnScope N_plus ["one", "other"] (defScope s_plus) := ⟨rfl, rfl, rfl, by decide +kernel, rfl, by decide +kernel, by decide +kernel⟩
def m_plus : SF :=
  (sRet (eFn 2 F_fraction (aCons (eOp addF (eOp mulF (eOp idxF (eVar 0) (eC (.int 0))) (eOp idxF (eVar 1) (eC (.int 1)))) (eOp mulF (eOp idxF (eVar 1) (eC (.int 0))) (eOp idxF (eVar 0) (eC (.int 1))))) (aCons (eOp mulF (eOp idxF (eVar 0) (eC (.int 1))) (eOp idxF (eVar 1) (eC (.int 1)))) aNil))))
def F_plus : List D → Res D := runD 2 m_plus
theorem b_plus  {f : Addr} (T : Tx K mg C)
    (c_fraction : Cal P w K mg base 1 "fraction" ["top", "below"] (spD C 2 F_fraction)) : BodyOk P w K mg base C 1 "plus" s_plus N_plus f (m_plus) := by
  intro cdv A outer s H E hr
  have tk : Takes (cxOf (L2.CX P w) P w K mg base N_plus "plus" (defScope s_plus) f cdv A outer s H E) (fun cls d _ H => E cls d H) := takes_of rfl rfl rfl rfl
  exact (pss_1 (ps_r (pd_fn c_fraction hr tk (pad_cons (pd_add (pd_mul (pd_ix (pd_v 0) pd_int) (pd_ix (pd_v 1) pd_int)) (pd_mul (pd_ix (pd_v 1) pd_int) (pd_ix (pd_v 0) pd_int))) (pad_cons (pd_mul (pd_ix (pd_v 0) pd_int) (pd_ix (pd_v 1) pd_int)) pad_nil)))))

abbrev s_minus : Stmt := top 13
abbrev N_minus : List Str := ["one", "other"]
theorem sc_minus : FnScope N_minus ["one", "other"] (defScope s_minus) := ⟨rfl, rfl, rfl, by decide +kernel, rfl, by decide +kernel, by decide +kernel⟩
def m_minus : SF :=
  (sRet (eFn 2 F_fraction (aCons (eOp subI (eOp mulF (eOp idxF (eVar 0) (eC (.int 0))) (eOp idxF (eVar 1) (eC (.int 1)))) (eOp mulF (eOp idxF (eVar 1) (eC (.int 0))) (eOp idxF (eVar 0) (eC (.int 1))))) (aCons (eOp mulF (eOp idxF (eVar 0) (eC (.int 1))) (eOp idxF (eVar 1) (eC (.int 1)))) aNil))))
def F_minus : List D → Res D := runD 2 m_minus
theorem b_minus  {f : Addr} (T : Tx K mg C)
    (c_fraction : Cal P w K mg base 1 "fraction" ["top", "below"] (spD C 2 F_fraction)) : BodyOk P w K mg base C 1 "minus" s_minus N_minus f (m_minus) := by
  intro cdv A outer s H E hr
  have tk : Takes (cxOf (L2.CX P w) P w K mg base N_minus "minus" (defScope s_minus) f cdv A outer s H E) (fun cls d _ H => E cls d H) := takes_of rfl rfl rfl rfl
  exact (pss_1 (ps_r (pd_fn c_fraction hr tk (pad_cons (pd_sub (pd_mul (pd_ix (pd_v 0) pd_int) (pd_ix (pd_v 1) pd_int)) (pd_mul (pd_ix (pd_v 1) pd_int) (pd_ix (pd_v 0) pd_int))) (pad_cons (pd_mul (pd_ix (pd_v 0) pd_int) (pd_ix (pd_v 1) pd_int)) pad_nil)))))

abbrev s_times : Stmt := top 14
abbrev N_times : List Str := ["one", "other"]
theorem sc_times : FnScope N_times ["one", "other"] (defScope s_times) := ⟨rfl, rfl, rfl, by decide +kernel, rfl, by decide +kernel, by decide +kernel⟩
def m_times : SF :=
  (sRet (eFn 2 F_fraction (aCons (eOp mulF (eOp idxF (eVar 0) (eC (.int 0))) (eOp idxF (eVar 1) (eC (.int 0)))) (aCons (eOp mulF (eOp idxF (eVar 0) (eC (.int 1))) (eOp idxF (eVar 1) (eC (.int 1)))) aNil))))
def F_times : List D → Res D := runD 2 m_times
theorem b_times  {f : Addr} (T : Tx K mg C)
    (c_fraction : Cal P w K mg base 1 "fraction" ["top", "below"] (spD C 2 F_fraction)) : BodyOk P w K mg base C 1 "times" s_times N_times f (m_times) := by
  intro cdv A outer s H E hr
  have tk : Takes (cxOf (L2.CX P w) P w K mg base N_times "times" (defScope s_times) f cdv A outer s H E) (fun cls d _ H => E cls d H) := takes_of rfl rfl rfl rfl
  exact (pss_1 (ps_r (pd_fn c_fraction hr tk (pad_cons (pd_mul (pd_ix (pd_v 0) pd_int) (pd_ix (pd_v 1) pd_int)) (pad_cons (pd_mul (pd_ix (pd_v 0) pd_int) (pd_ix (pd_v 1) pd_int)) pad_nil)))))

abbrev s_over : Stmt := top 15
abbrev N_over : List Str := ["one", "other"]
theorem sc_over : FnScope N_over ["one", "other"] (defScope s_over) := ⟨rfl, rfl, rfl, by decide +kernel, rfl, by decide +kernel, by decide +kernel⟩
def m_over : SF :=
  (sSeq (sIf (tB1 (eOp eqF (eOp idxF (eVar 1) (eC (.int 0))) (eC (.int 0)))) sBad sSkip) (sRet (eFn 2 F_fraction (aCons (eOp mulF (eOp idxF (eVar 0) (eC (.int 0))) (eOp idxF (eVar 1) (eC (.int 1)))) (aCons (eOp mulF (eOp idxF (eVar 0) (eC (.int 1))) (eOp idxF (eVar 1) (eC (.int 0)))) aNil)))))
def F_over : List D → Res D := runD 2 m_over
theorem b_over  {f : Addr} (T : Tx K mg C)
    (c_fraction : Cal P w K mg base 1 "fraction" ["top", "below"] (spD C 2 F_fraction)) : BodyOk P w K mg base C 1 "over" s_over N_over f (m_over) := by
  intro cdv A outer s H E hr
  have tk : Takes (cxOf (L2.CX P w) P w K mg base N_over "over" (defScope s_over) f cdv A outer s H E) (fun cls d _ H => E cls d H) := takes_of rfl rfl rfl rfl
  exact (pss_c (ps_i (pt_c (op_eqD hr.units) o_eqF (pd_ix (pd_v 1) pd_int) pd_int)
    (pss_1 ps_bad)
    pss_n)
    (pss_1 (ps_r (pd_fn c_fraction hr tk (pad_cons (pd_mul (pd_ix (pd_v 0) pd_int) (pd_ix (pd_v 1) pd_int)) (pad_cons (pd_mul (pd_ix (pd_v 0) pd_int) (pd_ix (pd_v 1) pd_int)) pad_nil))))))

abbrev s_is_less : Stmt := top 16
abbrev N_is_less : List Str := ["one", "other"]
theorem sc_is_less : FnScope N_is_less ["one", "other"] (defScope s_is_less) := ⟨rfl, rfl, rfl, by decide +kernel, rfl, by decide +kernel, by decide +kernel⟩
def m_is_less : SF :=
  (sRet (eOp ltI (eOp mulF (eOp idxF (eVar 0) (eC (.int 0))) (eOp idxF (eVar 1) (eC (.int 1)))) (eOp mulF (eOp idxF (eVar 1) (eC (.int 0))) (eOp idxF (eVar 0) (eC (.int 1))))))
def F_is_less : List D → Res D := runD 2 m_is_less
theorem b_is_less  {f : Addr} (T : Tx K mg C) : BodyOk P w K mg base C 0 "is_less" s_is_less N_is_less f (m_is_less) := by
  intro cdv A outer s H E hr
  have tk : Takes (cxOf (L2.CX P w) P w K mg base N_is_less "is_less" (defScope s_is_less) f cdv A outer s H E) (fun cls d _ H => E cls d H) := takes_of rfl rfl rfl rfl
  exact (pss_1 (ps_r (pd_cmp op_lt o_ltI (pd_mul (pd_ix (pd_v 0) pd_int) (pd_ix (pd_v 1) pd_int)) (pd_mul (pd_ix (pd_v 1) pd_int) (pd_ix (pd_v 0) pd_int)))))

end
end GN

set_option Elab.async false
set_option linter.all false
set_option maxRecDepth 100000
set_option maxHeartbeats 8000000
namespace GN
open PySem PySem.Spec PyProof.Rows L2
section
variable {P : Program} {w : World} {K : PySem.W.Frag} {mg : Str → Option Value} {base : Heap} {C : XC}
abbrev s_greatest : Stmt := top 17
abbrev N_greatest : List Str := ["many", "found", "own"]
theorem sc_greatest : FnScope N_greatest ["many"] (defScope s_greatest) := ⟨rfl, rfl, rfl, by decide +kernel, rfl, by decide +kernel, by decide +kernel⟩
def m_greatest : SF :=
  (sSeq (sIf (tB1 (eOp eqF (eCall lenF (aCons (eVar 0) aNil)) (eC (.int 0)))) sBad sSkip) (sSeq (sSet 1 (eOp idxF (eVar 0) (eC (.int 0)))) (sSeq (sFor (iSeq (eVar 0)) (gN 2) (sSet 1 (eIf (tB1 (eFn 2 F_is_less (aCons (eVar 1) (aCons (eVar 2) aNil)))) (eVar 2) (eVar 1)))) (sRet (eTup (aCons (eOp idxF (eVar 1) (eC (.int 0))) (aCons (eOp idxF (eVar 1) (eC (.int 1))) aNil)))))))
def F_greatest : List D → Res D := runD 3 m_greatest
theorem b_greatest  {f : Addr} (T : Tx K mg C)
    (c_is_less : Cal P w K mg base 1 "is_less" ["one", "other"] (spD C 2 F_is_less)) : BodyOk P w K mg base C 1 "greatest" s_greatest N_greatest f (m_greatest) := by
  intro cdv A outer s H E hr
  have tk : Takes (cxOf (L2.CX P w) P w K mg base N_greatest "greatest" (defScope s_greatest) f cdv A outer s H E) (fun cls d _ H => E cls d H) := takes_of rfl rfl rfl rfl
  exact (pss_c (ps_i (pt_c (op_eqD hr.units) o_eqF (pd_cb call_len o_lenF T.z_len PySem.boot_len (pad_cons (pd_v 0) pad_nil)) pd_int)
    (pss_1 ps_bad)
    pss_n)
    (pss_c (ps_s 1 (pd_ix (pd_v 0) pd_int) sc_greatest.nd)
    (pss_c (ps_f (vs := [2]) (pi_s (pd_v 0)) (pg_n 2 sc_greatest.nd)
    (pss_1 (ps_s 1 (pd_if (pt_v (pd_fn c_is_less hr tk (pad_cons (pd_v 1) (pad_cons (pd_v 2) pad_nil)))) (pd_v 2) (pd_v 1)) sc_greatest.nd)) (passes_of rfl))
    (pss_1 (ps_r (pd_tup (pad_cons (pd_ix (pd_v 1) pd_int) (pad_cons (pd_ix (pd_v 1) pd_int) pad_nil))))))))

abbrev s_least : Stmt := top 18
abbrev N_least : List Str := ["many", "found", "own"]
theorem sc_least : FnScope N_least ["many"] (defScope s_least) := ⟨rfl, rfl, rfl, by decide +kernel, rfl, by decide +kernel, by decide +kernel⟩
def m_least : SF :=
  (sSeq (sIf (tB1 (eOp eqF (eCall lenF (aCons (eVar 0) aNil)) (eC (.int 0)))) sBad sSkip) (sSeq (sSet 1 (eOp idxF (eVar 0) (eC (.int 0)))) (sSeq (sFor (iSeq (eVar 0)) (gN 2) (sSet 1 (eIf (tB1 (eFn 2 F_is_less (aCons (eVar 2) (aCons (eVar 1) aNil)))) (eVar 2) (eVar 1)))) (sRet (eTup (aCons (eOp idxF (eVar 1) (eC (.int 0))) (aCons (eOp idxF (eVar 1) (eC (.int 1))) aNil)))))))
def F_least : List D → Res D := runD 3 m_least
theorem b_least  {f : Addr} (T : Tx K mg C)
    (c_is_less : Cal P w K mg base 1 "is_less" ["one", "other"] (spD C 2 F_is_less)) : BodyOk P w K mg base C 1 "least" s_least N_least f (m_least) := by
  intro cdv A outer s H E hr
  have tk : Takes (cxOf (L2.CX P w) P w K mg base N_least "least" (defScope s_least) f cdv A outer s H E) (fun cls d _ H => E cls d H) := takes_of rfl rfl rfl rfl
  exact (pss_c (ps_i (pt_c (op_eqD hr.units) o_eqF (pd_cb call_len o_lenF T.z_len PySem.boot_len (pad_cons (pd_v 0) pad_nil)) pd_int)
    (pss_1 ps_bad)
    pss_n)
    (pss_c (ps_s 1 (pd_ix (pd_v 0) pd_int) sc_least.nd)
    (pss_c (ps_f (vs := [2]) (pi_s (pd_v 0)) (pg_n 2 sc_least.nd)
    (pss_1 (ps_s 1 (pd_if (pt_v (pd_fn c_is_less hr tk (pad_cons (pd_v 2) (pad_cons (pd_v 1) pad_nil)))) (pd_v 2) (pd_v 1)) sc_least.nd)) (passes_of rfl))
    (pss_1 (ps_r (pd_tup (pad_cons (pd_ix (pd_v 1) pd_int) (pad_cons (pd_ix (pd_v 1) pd_int) pad_nil))))))))

abbrev s_straight : Stmt := top 19
abbrev N_straight : List Str := ["low", "high", "scale", "first", "second", "part"]
theorem sc_straight : FnScope N_straight ["low", "high", "scale", "first", "second"] (defScope s_straight) := ⟨rfl, rfl, rfl, by decide +kernel, rfl, by decide +kernel, by decide +kernel⟩
def m_straight : SF :=
  (sSeq (sSet 5 (eFn 2 F_over (aCons (eFn 2 F_minus (aCons (eVar 2) (aCons (eVar 0) aNil))) (aCons (eFn 2 F_minus (aCons (eVar 1) (aCons (eVar 0) aNil))) aNil)))) (sRet (eFn 2 F_plus (aCons (eVar 3) (aCons (eFn 2 F_times (aCons (eVar 5) (aCons (eFn 2 F_minus (aCons (eVar 4) (aCons (eVar 3) aNil))) aNil))) aNil)))))
def F_straight : List D → Res D := runD 6 m_straight
theorem b_straight  {f : Addr} (T : Tx K mg C)
    (c_plus : Cal P w K mg base 2 "plus" ["one", "other"] (spD C 2 F_plus))
    (c_minus : Cal P w K mg base 2 "minus" ["one", "other"] (spD C 2 F_minus))
    (c_times : Cal P w K mg base 2 "times" ["one", "other"] (spD C 2 F_times))
    (c_over : Cal P w K mg base 2 "over" ["one", "other"] (spD C 2 F_over)) : BodyOk P w K mg base C 2 "straight" s_straight N_straight f (m_straight) := by
  intro cdv A outer s H E hr
  have tk : Takes (cxOf (L2.CX P w) P w K mg base N_straight "straight" (defScope s_straight) f cdv A outer s H E) (fun cls d _ H => E cls d H) := takes_of rfl rfl rfl rfl
  exact (pss_c (ps_s 5 (pd_fn c_over hr tk (pad_cons (pd_fn c_minus hr tk (pad_cons (pd_v 2) (pad_cons (pd_v 0) pad_nil))) (pad_cons (pd_fn c_minus hr tk (pad_cons (pd_v 1) (pad_cons (pd_v 0) pad_nil))) pad_nil))) sc_straight.nd)
    (pss_1 (ps_r (pd_fn c_plus hr tk (pad_cons (pd_v 3) (pad_cons (pd_fn c_times hr tk (pad_cons (pd_v 5) (pad_cons (pd_fn c_minus hr tk (pad_cons (pd_v 4) (pad_cons (pd_v 3) pad_nil))) pad_nil))) pad_nil))))))

abbrev s_box_in : Stmt := top 22
abbrev N_box_in : List Str := ["name", "place"]
theorem sc_box_in : FnScope N_box_in ["name", "place"] (defScope s_box_in) := ⟨rfl, rfl, rfl, by decide +kernel, rfl, by decide +kernel, by decide +kernel⟩
def m_box_in : SF :=
  (sRet (eOp addF (eVar 1) (eTup (aCons (eFn 2 F_plus (aCons (eOp idxF (eVar 1) (eC (.int 0))) (aCons (eTup (aCons (eOp idxF (eVar 0) (eC (.int 0))) (aCons (eC (.int 1)) aNil))) aNil))) (aCons (eFn 2 F_plus (aCons (eOp idxF (eVar 1) (eC (.int 1))) (aCons (eTup (aCons (eOp idxF (eVar 0) (eC (.int 1))) (aCons (eC (.int 1)) aNil))) aNil))) aNil)))))
def F_box_in : List D → Res D := runD 2 m_box_in
theorem b_box_in  {f : Addr} (T : Tx K mg C)
    (c_plus : Cal P w K mg base 2 "plus" ["one", "other"] (spD C 2 F_plus)) : BodyOk P w K mg base C 2 "box_in" s_box_in N_box_in f (m_box_in) := by
  intro cdv A outer s H E hr
  have tk : Takes (cxOf (L2.CX P w) P w K mg base N_box_in "box_in" (defScope s_box_in) f cdv A outer s H E) (fun cls d _ H => E cls d H) := takes_of rfl rfl rfl rfl
  exact (pss_1 (ps_r (pd_add (pd_v 1) (pd_tup (pad_cons (pd_fn c_plus hr tk (pad_cons (pd_ix (pd_v 1) pd_int) (pad_cons (pd_tup (pad_cons (pd_ix (pd_v 0) pd_int) (pad_cons pd_int pad_nil))) pad_nil))) (pad_cons (pd_fn c_plus hr tk (pad_cons (pd_ix (pd_v 1) pd_int) (pad_cons (pd_tup (pad_cons (pd_ix (pd_v 0) pd_int) (pad_cons pd_int pad_nil))) pad_nil))) pad_nil))))))

abbrev s_window_in : Stmt := top 28
abbrev N_window_in : List Str := ["view", "scale", "found", "side", "across", "down", "wide", "high", "top", "below"]
theorem sc_window_in : FnScope N_window_in ["view", "scale"] (defScope s_window_in) := ⟨rfl, rfl, rfl, by decide +kernel, rfl, by decide +kernel, by decide +kernel⟩
def m_window_in : SF :=
  (sSeq (sAsg (gT 4 (gsC (gN 4) (gsC (gN 5) (gsC (gN 6) (gsC (gN 7) gsN))))) (eVar 0)) (sSeq (sAsg (gT 2 (gsC (gN 8) (gsC (gN 9) gsN))) (eVar 1)) (sSeq (sSetO 2 (oLst aNil)) (sSeq (sFor (iSeq (eTup (aCons (eNeg (eC (.int 1))) (aCons (eC (.int 1)) aNil)))) (gN 3) (sSeq (sApp 2 (eFn 2 F_fraction (aCons (eOp addF (eOp mulF (eOp mulF (eC (.int 2)) (eVar 4)) (eVar 8)) (eOp mulF (eOp mulF (eVar 3) (eVar 6)) (eVar 9))) (aCons (eOp mulF (eC (.int 2)) (eVar 9)) aNil)))) (sApp 2 (eFn 2 F_fraction (aCons (eOp addF (eOp mulF (eOp mulF (eC (.int 2)) (eVar 5)) (eVar 8)) (eOp mulF (eOp mulF (eVar 3) (eVar 7)) (eVar 9))) (aCons (eOp mulF (eC (.int 2)) (eVar 9)) aNil)))))) (sRet (eCall tupleF (aCons (eVar 2) aNil)))))))
def F_window_in : List D → Res D := runD 10 m_window_in
theorem b_window_in  {f : Addr} (T : Tx K mg C)
    (c_fraction : Cal P w K mg base 1 "fraction" ["top", "below"] (spD C 2 F_fraction)) : BodyOk P w K mg base C 1 "window_in" s_window_in N_window_in f (m_window_in) := by
  intro cdv A outer s H E hr
  have tk : Takes (cxOf (L2.CX P w) P w K mg base N_window_in "window_in" (defScope s_window_in) f cdv A outer s H E) (fun cls d _ H => E cls d H) := takes_of rfl rfl rfl rfl
  exact (pss_c (ps_a (vs := [4, 5, 6, 7]) (pd_v 0) (pg_t (pgs_c (pg_n 4 sc_window_in.nd) (pgs_c (pg_n 5 sc_window_in.nd) (pgs_c (pg_n 6 sc_window_in.nd) (pgs_c (pg_n 7 sc_window_in.nd) pgs_n))))))
    (pss_c (ps_a (vs := [8, 9]) (pd_v 1) (pg_t (pgs_c (pg_n 8 sc_window_in.nd) (pgs_c (pg_n 9 sc_window_in.nd) pgs_n))))
    (pss_c (ps_o 2 (pod_lst pad_nil) sc_window_in.nd)
    (pss_c (ps_f (vs := [3]) (pi_s (pd_tup (pad_cons (pd_neg pd_int) (pad_cons pd_int pad_nil)))) (pg_n 3 sc_window_in.nd)
    (pss_c (ps_app 2 (pd_fn c_fraction hr tk (pad_cons (pd_add (pd_mul (pd_mul pd_int (pd_v 4)) (pd_v 8)) (pd_mul (pd_mul (pd_v 3) (pd_v 6)) (pd_v 9))) (pad_cons (pd_mul pd_int (pd_v 9)) pad_nil))))
    (pss_1 (ps_app 2 (pd_fn c_fraction hr tk (pad_cons (pd_add (pd_mul (pd_mul pd_int (pd_v 5)) (pd_v 8)) (pd_mul (pd_mul (pd_v 3) (pd_v 7)) (pd_v 9))) (pad_cons (pd_mul pd_int (pd_v 9)) pad_nil)))))) (passes_of rfl))
    (pss_1 (ps_r (pd_ct call_tuple_of o_tupleF T.z_tuple boot_tuple (pad_cons (pd_v 2) pad_nil))))))))

abbrev s_gaps_in : Stmt := top 30
abbrev N_gaps_in : List Str := ["box", "frame"]
theorem sc_gaps_in : FnScope N_gaps_in ["box", "frame"] (defScope s_gaps_in) := ⟨rfl, rfl, rfl, by decide +kernel, rfl, by decide +kernel, by decide +kernel⟩
def m_gaps_in : SF :=
  (sRet (eLst (aCons (eFn 2 F_minus (aCons (eOp idxF (eVar 1) (eC (.int 2))) (aCons (eOp idxF (eVar 0) (eC (.int 0))) aNil))) (aCons (eFn 2 F_minus (aCons (eOp idxF (eVar 1) (eC (.int 3))) (aCons (eOp idxF (eVar 0) (eC (.int 1))) aNil))) (aCons (eFn 2 F_minus (aCons (eOp idxF (eVar 0) (eC (.int 2))) (aCons (eOp idxF (eVar 1) (eC (.int 0))) aNil))) (aCons (eFn 2 F_minus (aCons (eOp idxF (eVar 0) (eC (.int 3))) (aCons (eOp idxF (eVar 1) (eC (.int 1))) aNil))) aNil))))))
def F_gaps_in : List D → Res D := runD 2 m_gaps_in
theorem b_gaps_in  {f : Addr} (T : Tx K mg C)
    (c_minus : Cal P w K mg base 2 "minus" ["one", "other"] (spD C 2 F_minus)) : BodyOk P w K mg base C 2 "gaps_in" s_gaps_in N_gaps_in f (m_gaps_in) := by
  intro cdv A outer s H E hr
  have tk : Takes (cxOf (L2.CX P w) P w K mg base N_gaps_in "gaps_in" (defScope s_gaps_in) f cdv A outer s H E) (fun cls d _ H => E cls d H) := takes_of rfl rfl rfl rfl
  exact (pss_1 (ps_r (pd_lst (pad_cons (pd_fn c_minus hr tk (pad_cons (pd_ix (pd_v 1) pd_int) (pad_cons (pd_ix (pd_v 0) pd_int) pad_nil))) (pad_cons (pd_fn c_minus hr tk (pad_cons (pd_ix (pd_v 1) pd_int) (pad_cons (pd_ix (pd_v 0) pd_int) pad_nil))) (pad_cons (pd_fn c_minus hr tk (pad_cons (pd_ix (pd_v 0) pd_int) (pad_cons (pd_ix (pd_v 1) pd_int) pad_nil))) (pad_cons (pd_fn c_minus hr tk (pad_cons (pd_ix (pd_v 0) pd_int) (pad_cons (pd_ix (pd_v 1) pd_int) pad_nil))) pad_nil)))))))

abbrev s_meets : Stmt := top 31
abbrev N_meets : List Str := ["box", "frame", "own"]
theorem sc_meets : FnScope N_meets ["box", "frame"] (defScope s_meets) := ⟨rfl, rfl, rfl, by decide +kernel, rfl, by decide +kernel, by decide +kernel⟩
def m_meets : SF :=
  (sRet (eCall allF (aCons (eFz (oLc (iSeq (eFn 2 F_gaps_in (aCons (eVar 0) (aCons (eVar 1) aNil)))) (gN 2) tYesF (eOp gtI (eOp idxF (eVar 2) (eC (.int 0))) (eC (.int 0))) [2])) aNil)))
def F_meets : List D → Res D := runD 3 m_meets
theorem b_meets  {f : Addr} (T : Tx K mg C)
    (c_gaps_in : Cal P w K mg base 3 "gaps_in" ["box", "frame"] (spD C 2 F_gaps_in)) : BodyOk P w K mg base C 3 "meets" s_meets N_meets f (m_meets) := by
  intro cdv A outer s H E hr
  have tk : Takes (cxOf (L2.CX P w) P w K mg base N_meets "meets" (defScope s_meets) f cdv A outer s H E) (fun cls d _ H => E cls d H) := takes_of rfl rfl rfl rfl
  exact (pss_1 (ps_r (pd_cb (cr_all rfl) o_allF T.z_all boot_all (pad_cons (pd_fz (pod_lc (own := [("own", 2)]) sc_meets.nd (pi_s (pd_fn c_gaps_in hr tk (pad_cons (pd_v 0) (pad_cons (pd_v 1) pad_nil)))) (blkOk_by (N := N_meets) (sc := defScope s_meets) (by decide +kernel)) (fun _ _ _ _ _ => (pg_n 2 sc_meets.nd)) (fun _ _ _ _ _ => pts_0) (fun _ _ _ _ _ => (pd_cmp op_gt o_gtI (pd_ix (pd_v 2) pd_int) pd_int)))) pad_nil))))

abbrev s_up : Stmt := top 34
abbrev N_up : List Str := ["one"]
theorem sc_up : FnScope N_up ["one"] (defScope s_up) := ⟨rfl, rfl, rfl, by decide +kernel, rfl, by decide +kernel, by decide +kernel⟩
def m_up : SF :=
  (sRet (eNeg (eOp fdivI (eNeg (eOp idxF (eVar 0) (eC (.int 0)))) (eOp idxF (eVar 0) (eC (.int 1))))))
def F_up : List D → Res D := runD 1 m_up
theorem b_up  {f : Addr} (T : Tx K mg C) : BodyOk P w K mg base C 0 "up" s_up N_up f (m_up) := by
  intro cdv A outer s H E hr
  have tk : Takes (cxOf (L2.CX P w) P w K mg base N_up "up" (defScope s_up) f cdv A outer s H E) (fun cls d _ H => E cls d H) := takes_of rfl rfl rfl rfl
  exact (pss_1 (ps_r (pd_neg (pd_fdiv (pd_neg (pd_ix (pd_v 0) pd_int)) (pd_ix (pd_v 0) pd_int)))))

end
end GN

set_option Elab.async false
set_option linter.all false
set_option maxRecDepth 100000
set_option maxHeartbeats 8000000
namespace GN
open PySem PySem.Spec PyProof.Rows L2
section
variable {P : Program} {w : World} {K : PySem.W.Frag} {mg : Str → Option Value} {base : Heap} {C : XC}
abbrev s_part_seen : Stmt := top 42
abbrev N_part_seen : List Str := ["low", "high", "first", "second", "begin", "end", "one", "other", "turn"]
theorem sc_part_seen : FnScope N_part_seen ["low", "high", "first", "second"] (defScope s_part_seen) := ⟨rfl, rfl, rfl, by decide +kernel, rfl, by decide +kernel, by decide +kernel⟩
def m_part_seen : SF :=
  (sSeq (sTup [4, 5] (csC (cV (eVar 0)) (csC (cV (eVar 1)) csN))) (sSeq (sFor (iZipF (aCons (eVar 2) (aCons (eVar 3) aNil))) (gT 2 (gsC (gN 6) (gsC (gN 7) gsN))) (sSeq (sIf (tAnd2 (tB1 (eOp leI (eOp idxF (eVar 6) (eC (.int 0))) (eC (.int 0)))) (tB1 (eOp leI (eOp idxF (eVar 7) (eC (.int 0))) (eC (.int 0))))) (sRet (eC .none)) sSkip) (sSeq (sIf (tAnd2 (tB1 (eOp gtI (eOp idxF (eVar 6) (eC (.int 0))) (eC (.int 0)))) (tB1 (eOp gtI (eOp idxF (eVar 7) (eC (.int 0))) (eC (.int 0))))) sCt sSkip) (sSeq (sSet 8 (eFn 5 F_straight (aCons (eVar 6) (aCons (eVar 7) (aCons (eTup (aCons (eC (.int 0)) (aCons (eC (.int 1)) aNil))) (aCons (eVar 0) (aCons (eVar 1) aNil))))))) (sIf (tB1 (eOp gtI (eOp idxF (eVar 6) (eC (.int 0))) (eC (.int 0)))) (sSet 5 (eFn 1 F_least (aCons (eLst (aCons (eVar 5) (aCons (eVar 8) aNil))) aNil))) (sSet 4 (eFn 1 F_greatest (aCons (eLst (aCons (eVar 4) (aCons (eVar 8) aNil))) aNil)))))))) (sRet (eIf (tB1 (eFn 2 F_is_less (aCons (eVar 4) (aCons (eVar 5) aNil)))) (eTup (aCons (eVar 4) (aCons (eVar 5) aNil))) (eC .none)))))
def F_part_seen : List D → Res D := runD 9 m_part_seen
theorem b_part_seen  {f : Addr} (T : Tx K mg C)
    (c_is_less : Cal P w K mg base 1 "is_less" ["one", "other"] (spD C 2 F_is_less))
    (c_greatest : Cal P w K mg base 2 "greatest" ["many"] (spD C 1 F_greatest))
    (c_least : Cal P w K mg base 2 "least" ["many"] (spD C 1 F_least))
    (c_straight : Cal P w K mg base 3 "straight" ["low", "high", "scale", "first", "second"] (spD C 5 F_straight)) : BodyOk P w K mg base C 3 "part_seen" s_part_seen N_part_seen f (m_part_seen) := by
  intro cdv A outer s H E hr
  have tk : Takes (cxOf (L2.CX P w) P w K mg base N_part_seen "part_seen" (defScope s_part_seen) f cdv A outer s H E) (fun cls d _ H => E cls d H) := takes_of rfl rfl rfl rfl
  exact (pss_c (ps_t2 4 5 (pcs_c (pc_v (pd_v 0)) (pcs_c (pc_v (pd_v 1)) pcs_n)) sc_part_seen.nd rfl)
    (pss_c (ps_f (vs := [6, 7]) (pi_z T.z_zip (pad_cons (pd_v 2) (pad_cons (pd_v 3) pad_nil))) (pg_t (pgs_c (pg_n 6 sc_part_seen.nd) (pgs_c (pg_n 7 sc_part_seen.nd) pgs_n)))
    (pss_c (ps_i (PW.pt (pw_a (pt_c op_le o_leI (pd_ix (pd_v 6) pd_int) pd_int) (pw_a1 (pt_c op_le o_leI (pd_ix (pd_v 7) pd_int) pd_int))))
    (pss_1 (ps_r pd_non))
    pss_n)
    (pss_c (ps_i (PW.pt (pw_a (pt_c op_gt o_gtI (pd_ix (pd_v 6) pd_int) pd_int) (pw_a1 (pt_c op_gt o_gtI (pd_ix (pd_v 7) pd_int) pd_int))))
    (pss_1 ps_ct)
    pss_n)
    (pss_c (ps_s 8 (pd_fn c_straight hr tk (pad_cons (pd_v 6) (pad_cons (pd_v 7) (pad_cons (pd_tup (pad_cons pd_int (pad_cons pd_int pad_nil))) (pad_cons (pd_v 0) (pad_cons (pd_v 1) pad_nil)))))) sc_part_seen.nd)
    (pss_1 (ps_i (pt_c op_gt o_gtI (pd_ix (pd_v 6) pd_int) pd_int)
    (pss_1 (ps_s 5 (pd_fn c_least hr tk (pad_cons (pd_lst (pad_cons (pd_v 5) (pad_cons (pd_v 8) pad_nil))) pad_nil)) sc_part_seen.nd))
    (pss_1 (ps_s 4 (pd_fn c_greatest hr tk (pad_cons (pd_lst (pad_cons (pd_v 4) (pad_cons (pd_v 8) pad_nil))) pad_nil)) sc_part_seen.nd))))))) (passes_of rfl))
    (pss_1 (ps_r (pd_if (pt_v (pd_fn c_is_less hr tk (pad_cons (pd_v 4) (pad_cons (pd_v 5) pad_nil)))) (pd_tup (pad_cons (pd_v 4) (pad_cons (pd_v 5) pad_nil))) pd_non)))))

abbrev s_told_places : Stmt := top 41
abbrev N_told_places : List Str := ["book", "glide", "name", "found", "scale", "standing", "shown", "own", "number"]
theorem sc_told_places : FnScope N_told_places ["book", "glide", "name"] (defScope s_told_places) := ⟨rfl, rfl, rfl, by decide +kernel, rfl, by decide +kernel, by decide +kernel⟩
def m_told_places : SF :=
  (sSeq (sSetO 3 (oLst aNil)) (sSeq (sFor (iSeq (eVar 1)) (gT 2 (gsC (gN 4) (gsC (gN 5) gsN))) (sSeq (sSetO 6 (oLc (iEnumF (eVar 0)) (gT 2 (gsC (gN 7) (gsC (gN 8) gsN))) (tAnd2 (tB1 (eOp isnF (eVar 8) (eC .none))) (tNot1 (tB1 (eFn 2 F_is_less (aCons (eVar 4) (aCons (eVar 8) aNil)))))) (eVar 7) [7, 8])) (sIf (tB1 (eOp (inF false) (eVar 2) (eVar 6))) (sApp 3 (eTup (aCons (eVar 4) (aCons (eOp idxF (eVar 5) (eIndex (eVar 6) (eVar 2))) aNil)))) sSkip))) (sRetV 3)))
def F_told_places : List D → Res D := runD 9 m_told_places
theorem b_told_places  {f : Addr} (T : Tx K mg C)
    (c_is_less : Cal P w K mg base 1 "is_less" ["one", "other"] (spD C 2 F_is_less)) : BodyOk P w K mg base C 1 "told_places" s_told_places N_told_places f (m_told_places) := by
  intro cdv A outer s H E hr
  have tk : Takes (cxOf (L2.CX P w) P w K mg base N_told_places "told_places" (defScope s_told_places) f cdv A outer s H E) (fun cls d _ H => E cls d H) := takes_of rfl rfl rfl rfl
  exact (pss_c (ps_o 3 (pod_lst pad_nil) sc_told_places.nd)
    (pss_c (ps_f (vs := [4, 5]) (pi_s (pd_v 1)) (pg_t (pgs_c (pg_n 4 sc_told_places.nd) (pgs_c (pg_n 5 sc_told_places.nd) pgs_n)))
    (pss_c (ps_slc 6 (own := [("own", 7), ("number", 8)]) sc_told_places.nd (pi_en T.z_enumerate (pd_v 0)) (blkOk_by (N := N_told_places) (sc := defScope s_told_places) (by decide +kernel)) (fun _ _ _ _ _ => (pg_t (pgs_c (pg_n 7 sc_told_places.nd) (pgs_c (pg_n 8 sc_told_places.nd) pgs_n)))) (fun _ _ _ _ _ => (pts_1 (PW.pt (pw_a (pt_c op_notN o_isnF (pd_v 8) pd_non) (pw_a1 (pt_n (pt_v (pd_fn c_is_less hr takes0 (pad_cons (pd_v 4) (pad_cons (pd_v 8) pad_nil)))))))))) (fun _ _ _ _ _ => (pd_v 7)) (sw_true rfl rfl rfl (by decide +kernel)))
    (pss_1 (ps_i (pt_c op_in_seq (o_inF false) (pd_v 2) (pd_v 6))
    (pss_1 (ps_app 3 (pd_tup (pad_cons (pd_v 4) (pad_cons (pd_ix (pd_v 5) (pd_index (pd_v 6) (pd_v 2))) pad_nil)))))
    pss_n))) (passes_of rfl))
    (pss_1 (ps_rv 3))))

abbrev s_cells_between : Stmt := top 35
abbrev N_cells_between : List Str := ["first", "last", "begin", "many", "half"]
theorem sc_cells_between : FnScope N_cells_between ["first", "last", "begin", "many"] (defScope s_cells_between) := ⟨rfl, rfl, rfl, by decide +kernel, rfl, by decide +kernel, by decide +kernel⟩
def m_cells_between : SF :=
  (sSeq (sSet 4 (eFn 2 F_plus (aCons (eVar 2) (aCons (eTup (aCons (eC (.int 1)) (aCons (eC (.int 2)) aNil))) aNil)))) (sRet (eFz (oLrg2 (eCall max2F (aCons (eC (.int 0)) (aCons (eFn 1 F_up (aCons (eFn 2 F_minus (aCons (eVar 0) (aCons (eVar 4) aNil))) aNil)) aNil))) (eCall min2F (aCons (eVar 3) (aCons (eFn 1 F_up (aCons (eFn 2 F_minus (aCons (eVar 1) (aCons (eVar 4) aNil))) aNil)) aNil)))))))
def F_cells_between : List D → Res D := runD 5 m_cells_between
theorem b_cells_between  {f : Addr} (T : Tx K mg C)
    (c_plus : Cal P w K mg base 2 "plus" ["one", "other"] (spD C 2 F_plus))
    (c_minus : Cal P w K mg base 2 "minus" ["one", "other"] (spD C 2 F_minus))
    (c_up : Cal P w K mg base 1 "up" ["one"] (spD C 1 F_up)) : BodyOk P w K mg base C 2 "cells_between" s_cells_between N_cells_between f (m_cells_between) := by
  intro cdv A outer s H E hr
  have tk : Takes (cxOf (L2.CX P w) P w K mg base N_cells_between "cells_between" (defScope s_cells_between) f cdv A outer s H E) (fun cls d _ H => E cls d H) := takes_of rfl rfl rfl rfl
  exact (pss_c (ps_s 4 (pd_fn c_plus hr tk (pad_cons (pd_v 2) (pad_cons (pd_tup (pad_cons pd_int (pad_cons pd_int pad_nil))) pad_nil))) sc_cells_between.nd)
    (pss_1 (ps_r (pd_fz (pod_lrg2 T.z_list T.z_range (pd_cb (call_max2 rfl) o_max2F T.z_max boot_max (pad_cons pd_int (pad_cons (pd_fn c_up hr tk (pad_cons (pd_fn c_minus hr tk (pad_cons (pd_v 0) (pad_cons (pd_v 4) pad_nil))) pad_nil)) pad_nil))) (pd_cb (call_min2 rfl) o_min2F T.z_min boot_min (pad_cons (pd_v 3) (pad_cons (pd_fn c_up hr tk (pad_cons (pd_fn c_minus hr tk (pad_cons (pd_v 1) (pad_cons (pd_v 4) pad_nil))) pad_nil)) pad_nil))))))))

abbrev s_tuple_of : Stmt := top 8
abbrev N_tuple_of : List Str := ["thing", "part"]
theorem sc_tuple_of : FnScope N_tuple_of ["thing"] (defScope s_tuple_of) := ⟨rfl, rfl, rfl, by decide +kernel, rfl, by decide +kernel, by decide +kernel⟩
def m_tuple_of (F : List D → Res D) : SF :=
  (sSeq (sIf (tB1 (eIs2 "list" "tuple" (eVar 0))) (sRet (eCall tupleF (aCons (eFz (oLc (iSeq (eVar 0)) (gN 1) tYesF (eFn 1 F (aCons (eVar 1) aNil)) [1])) aNil))) sSkip) (sRet (eVar 0)))
theorem b_tuple_of {k : Nat} {F : List D → Res D} {f : Addr} (T : Tx K mg C)
    (c_tuple_of : Cal P w K mg base k "tuple_of" ["thing"] (spD C 1 F)) : BodyOk P w K mg base C k "tuple_of" s_tuple_of N_tuple_of f (m_tuple_of F) := by
  intro cdv A outer s H E hr
  have tk : Takes (cxOf (L2.CX P w) P w K mg base N_tuple_of "tuple_of" (defScope s_tuple_of) f cdv A outer s H E) (fun cls d _ H => E cls d H) := takes_of rfl rfl rfl rfl
  exact (pss_c (ps_i (pt_v (pd_is2 "list" "tuple" (pd_v 0) T.z_isinstance T.z_list boot_list T.z_tuple boot_tuple))
    (pss_1 (ps_r (pd_ct call_tuple_of o_tupleF T.z_tuple boot_tuple (pad_cons (pd_fz (pod_lc (own := [("part", 1)]) sc_tuple_of.nd (pi_s (pd_v 0)) (blkOk_by (N := N_tuple_of) (sc := defScope s_tuple_of) (by decide +kernel)) (fun _ _ _ _ _ => (pg_n 1 sc_tuple_of.nd)) (fun _ _ _ _ _ => pts_0) (fun _ _ _ _ _ => (pd_fn c_tuple_of hr takes0 (pad_cons (pd_v 1) pad_nil) (hk := Nat.le_refl _))))) pad_nil))))
    pss_n)
    (pss_1 (ps_r (pd_v 0))))

end
end GN

set_option Elab.async false
set_option linter.all false
set_option maxRecDepth 100000
set_option maxHeartbeats 8000000
namespace GN
open PySem PySem.Spec PyProof.Rows L2
section
variable {P : Program} {w : World} {K : PySem.W.Frag} {mg : Str → Option Value} {base : Heap} {C : XC}
abbrev s_law_box : Stmt := top 45
abbrev N_law_box : List Str := ["_law_script", "_law_k", "_law_cell"]
theorem sc_law_box : FnScope N_law_box ["_law_script", "_law_k"] (defScope s_law_box) := ⟨rfl, rfl, rfl, by decide +kernel, rfl, by decide +kernel, by decide +kernel⟩
def m_law_box : SF :=
  (sSeq (sSet 2 (eIf (tB1 (eOp ltI (eVar 1) (eCall lenF (aCons (eVar 0) aNil)))) (eOp idxF (eVar 0) (eVar 1)) (eC (.int 0)))) (sRetO (oLst (aCons (eOp mulF (eCall absF (aCons (eVar 2) aNil)) (eCall intF (aCons (eOp geI (eCall absF (aCons (eVar 2) aNil)) (eOp powI (eC (.int 10)) (eC (.int 18)))) aNil))) (aCons (eOp addF (eOp addF (eOp modI (eCall intF (aCons (eVar 2) aNil)) (eC (.int 2305843009213693951))) (eOp mulF (eC (.int 39373)) (eVar 1))) (eC (.int 3197041))) (aCons (eC (.int 0)) aNil))))))
def F_law_box : List D → Res (List D) := runO 3 m_law_box
theorem b_law_box  {f : Addr} (T : Tx K mg C) : BodyOk P w K mg base C 0 "_law_box" s_law_box N_law_box f (m_law_box) := by
  intro cdv A outer s H E hr
  have tk : Takes (cxOf (L2.CX P w) P w K mg base N_law_box "_law_box" (defScope s_law_box) f cdv A outer s H E) (fun cls d _ H => E cls d H) := takes_of rfl rfl rfl rfl
  exact (pss_c (ps_s 2 (pd_if (pt_c op_lt o_ltI (pd_v 1) (pd_cb call_len o_lenF T.z_len PySem.boot_len (pad_cons (pd_v 0) pad_nil))) (pd_ix (pd_v 0) (pd_v 1)) pd_int) sc_law_box.nd)
    (pss_1 (ps_ro (pod_lst (pad_cons (pd_mul (pd_cb call_abs o_absF T.z_abs boot_abs (pad_cons (pd_v 2) pad_nil)) (pd_ct call_int1 o_intF T.z_int boot_int (pad_cons (pd_cmp op_ge o_geI (pd_cb call_abs o_absF T.z_abs boot_abs (pad_cons (pd_v 2) pad_nil)) (pd_pow pd_int pd_int)) pad_nil))) (pad_cons (pd_add (pd_add (pd_mod (pd_ct call_int1 o_intF T.z_int boot_int (pad_cons (pd_v 2) pad_nil)) pd_int) (pd_mul pd_int (pd_v 1))) pd_int) (pad_cons pd_int pad_nil)))))))

abbrev s_law_take : Stmt := top 46
abbrev N_law_take : List Str := ["_law_urn", "_law_low_so", "_law_once", "_law_far", "_law_twice", "_law_drawn"]
theorem sc_law_take : FnScope N_law_take ["_law_urn", "_law_low_so"] (defScope s_law_take) := ⟨rfl, rfl, rfl, by decide +kernel, rfl, by decide +kernel, by decide +kernel⟩
def m_law_take : SF :=
  (sSeq (sIf (tB1 (eOp gtI (eIxO 0 (eC (.int 0))) (eC (.int 0)))) (sSeq (sSet 5 (eOp modI (eCall intF (aCons (eIxO 0 (eC (.int 0))) aNil)) (eVar 1))) (sSeq (sPut 0 (eC (.int 0)) (eOp fdivI (eIxO 0 (eC (.int 0))) (eVar 1))) (sRet (eVar 5)))) sSkip) (sSeq (sPut 0 (eC (.int 2)) (eOp addF (eIxO 0 (eC (.int 2))) (eC (.int 1)))) (sSeq (sSet 2 (eOp modI (eCall intF (aCons (eOp mulF (eOp addF (eIxO 0 (eC (.int 1))) (eOp mulF (eC (.int 48271)) (eIxO 0 (eC (.int 2))))) (eOp addF (eC (.int 39373)) (eIxO 0 (eC (.int 2))))) aNil)) (eC (.int 2147483647)))) (sSeq (sSet 3 (eOp addF (eOp modI (eCall intF (aCons (eVar 2) aNil)) (eC (.int 40009))) (eC (.int 7)))) (sSeq (sSet 4 (eOp modI (eCall intF (aCons (eOp mulF (eOp addF (eOp addF (eVar 2) (eIxO 0 (eC (.int 2)))) (eOp fdivI (eIxO 0 (eC (.int 1))) (eC (.int 1000003)))) (eVar 3)) aNil)) (eC (.int 2147483629)))) (sRet (eOp modI (eCall intF (aCons (eOp fdivI (eOp modI (eCall intF (aCons (eOp addF (eOp mulF (eVar 4) (eC (.int 48271))) (eVar 2)) aNil)) (eC (.int 2147483587))) (eC (.int 64))) aNil)) (eVar 1))))))))
def F_law_take : List D → List D → Res (D × List D) := runM 6 m_law_take
theorem b_law_take  {f : Addr} (T : Tx K mg C) : BodyOk P w K mg base C 0 "_law_take" s_law_take N_law_take f (m_law_take) := by
  intro cdv A outer s H E hr
  have tk : Takes (cxOf (L2.CX P w) P w K mg base N_law_take "_law_take" (defScope s_law_take) f cdv A outer s H E) (fun cls d _ H => E cls d H) := takes_of rfl rfl rfl rfl
  exact (pss_c (ps_i (pt_c op_gt o_gtI (pd_ixO 0 pd_int) pd_int)
    (pss_c (ps_s 5 (pd_mod (pd_ct call_int1 o_intF T.z_int boot_int (pad_cons (pd_ixO 0 pd_int) pad_nil)) (pd_v 1)) sc_law_take.nd)
    (pss_c (ps_put 0 pd_int (pd_fdiv (pd_ixO 0 pd_int) (pd_v 1)))
    (pss_1 (ps_r (pd_v 5)))))
    pss_n)
    (pss_c (ps_put 0 pd_int (pd_add (pd_ixO 0 pd_int) pd_int))
    (pss_c (ps_s 2 (pd_mod (pd_ct call_int1 o_intF T.z_int boot_int (pad_cons (pd_mul (pd_add (pd_ixO 0 pd_int) (pd_mul pd_int (pd_ixO 0 pd_int))) (pd_add pd_int (pd_ixO 0 pd_int))) pad_nil)) pd_int) sc_law_take.nd)
    (pss_c (ps_s 3 (pd_add (pd_mod (pd_ct call_int1 o_intF T.z_int boot_int (pad_cons (pd_v 2) pad_nil)) pd_int) pd_int) sc_law_take.nd)
    (pss_c (ps_s 4 (pd_mod (pd_ct call_int1 o_intF T.z_int boot_int (pad_cons (pd_mul (pd_add (pd_add (pd_v 2) (pd_ixO 0 pd_int)) (pd_fdiv (pd_ixO 0 pd_int) pd_int)) (pd_v 3)) pad_nil)) pd_int) sc_law_take.nd)
    (pss_1 (ps_r (pd_mod (pd_ct call_int1 o_intF T.z_int boot_int (pad_cons (pd_fdiv (pd_mod (pd_ct call_int1 o_intF T.z_int boot_int (pad_cons (pd_add (pd_mul (pd_v 4) pd_int) (pd_v 2)) pad_nil)) pd_int) pd_int) pad_nil)) (pd_v 1)))))))))

abbrev s_law_of : Stmt := top 48
abbrev N_law_of : List Str := ["_law_urn", "_law_goods"]
theorem sc_law_of : FnScope N_law_of ["_law_urn", "_law_goods"] (defScope s_law_of) := ⟨rfl, rfl, rfl, by decide +kernel, rfl, by decide +kernel, by decide +kernel⟩
def m_law_of : SF :=
  (sRet (eOp idxF (eVar 1) (eFnM 0 1 F_law_take (aCons (eCall lenF (aCons (eVar 1) aNil)) aNil))))
def F_law_of : List D → List D → Res (D × List D) := runM 2 m_law_of
theorem b_law_of  {f : Addr} (T : Tx K mg C)
    (c_law_take : Cal P w K mg base 1 "_law_take" ["_law_urn", "_law_low_so"] (spM C 1 F_law_take)) : BodyOk P w K mg base C 1 "_law_of" s_law_of N_law_of f (m_law_of) := by
  intro cdv A outer s H E hr
  have tk : Takes (cxOf (L2.CX P w) P w K mg base N_law_of "_law_of" (defScope s_law_of) f cdv A outer s H E) (fun cls d _ H => E cls d H) := takes_of rfl rfl rfl rfl
  exact (pss_1 (ps_r (pd_ix (pd_v 1) (pd_fnM 0 c_law_take hr tk (pad_cons (pd_cb call_len o_lenF T.z_len PySem.boot_len (pad_cons (pd_v 1) pad_nil)) pad_nil)))))

abbrev s_law_same : Stmt := top 49
abbrev N_law_same : List Str := ["_law_got", "_law_goal", "_law_mine_so", "_law_own"]
theorem sc_law_same : FnScope N_law_same ["_law_got", "_law_goal"] (defScope s_law_same) := ⟨rfl, rfl, rfl, by decide +kernel, rfl, by decide +kernel, by decide +kernel⟩
def m_law_same (F : List D → Res D) : SF :=
  (sSeq (sIf (tB1 (eIs2 "list" "tuple" (eVar 1))) (sSeq (sIf (tOr2 (tB1 (eOp neF (eIs "list" (eVar 0)) (eIs "list" (eVar 1)))) (tB1 (eOp neF (eIs "tuple" (eVar 0)) (eIs "tuple" (eVar 1))))) (sRet (eC (.bool false))) sSkip) (sRet (eAnd2 (eOp eqF (eCall lenF (aCons (eVar 0) aNil)) (eCall lenF (aCons (eVar 1) aNil))) (eCall allF (aCons (eFz (oLc (iZipF (aCons (eVar 0) (aCons (eVar 1) aNil))) (gT 2 (gsC (gN 2) (gsC (gN 3) gsN))) tYesF (eFn 2 F (aCons (eVar 2) (aCons (eVar 3) aNil))) [2, 3])) aNil))))) sSkip) (sSeq (sIf (tOr2 (tB1 (eOp isF (eVar 1) (eC .none))) (tB1 (eIs2 "bool" "str" (eVar 1)))) (sRet (eAnd2 (eOp eqF (eVar 0) (eVar 1)) (eAnd2 (eOp eqF (eIs "bool" (eVar 0)) (eIs "bool" (eVar 1))) (eOp eqF (eOp isF (eVar 0) (eC .none)) (eOp isF (eVar 1) (eC .none)))))) sSkip) (sRet (eAnd2 (eIs "int" (eVar 0)) (eAnd2 (eNot1 (eIs "bool" (eVar 0))) (eOp eqF (eVar 0) (eVar 1)))))))
theorem b_law_same {k : Nat} {F : List D → Res D} {f : Addr} (T : Tx K mg C)
    (c_law_same : Cal P w K mg base k "_law_same" ["_law_got", "_law_goal"] (spD C 2 F)) : BodyOk P w K mg base C k "_law_same" s_law_same N_law_same f (m_law_same F) := by
  intro cdv A outer s H E hr
  have tk : Takes (cxOf (L2.CX P w) P w K mg base N_law_same "_law_same" (defScope s_law_same) f cdv A outer s H E) (fun cls d _ H => E cls d H) := takes_of rfl rfl rfl rfl
  exact (pss_c (ps_i (pt_v (pd_is2 "list" "tuple" (pd_v 1) T.z_isinstance T.z_list boot_list T.z_tuple boot_tuple))
    (pss_c (ps_i (PW.pt (pw_o (pt_c (op_neD hr.units) o_neF (pd_is "list" (pd_v 0) T.z_isinstance T.z_list boot_list) (pd_is "list" (pd_v 1) T.z_isinstance T.z_list boot_list)) (pw_o1 (pt_c (op_neD hr.units) o_neF (pd_is "tuple" (pd_v 0) T.z_isinstance T.z_tuple boot_tuple) (pd_is "tuple" (pd_v 1) T.z_isinstance T.z_tuple boot_tuple)))))
    (pss_1 (ps_r pd_bl))
    pss_n)
    (pss_1 (ps_r (pd_and (pd_cmp (op_eqD hr.units) o_eqF (pd_cb call_len o_lenF T.z_len PySem.boot_len (pad_cons (pd_v 0) pad_nil)) (pd_cb call_len o_lenF T.z_len PySem.boot_len (pad_cons (pd_v 1) pad_nil))) (pd_one (pd_cb (cr_all rfl) o_allF T.z_all boot_all (pad_cons (pd_fz (pod_lc (own := [("_law_mine_so", 2), ("_law_own", 3)]) sc_law_same.nd (pi_z T.z_zip (pad_cons (pd_v 0) (pad_cons (pd_v 1) pad_nil))) (blkOk_by (N := N_law_same) (sc := defScope s_law_same) (by decide +kernel)) (fun _ _ _ _ _ => (pg_t (pgs_c (pg_n 2 sc_law_same.nd) (pgs_c (pg_n 3 sc_law_same.nd) pgs_n)))) (fun _ _ _ _ _ => pts_0) (fun _ _ _ _ _ => (pd_fn c_law_same hr takes0 (pad_cons (pd_v 2) (pad_cons (pd_v 3) pad_nil)) (hk := Nat.le_refl _))))) pad_nil)))))))
    pss_n)
    (pss_c (ps_i (PW.pt (pw_o (pt_c op_isN o_isF (pd_v 1) pd_non) (pw_o1 (pt_v (pd_is2 "bool" "str" (pd_v 1) T.z_isinstance T.z_bool boot_bool T.z_str boot_str)))))
    (pss_1 (ps_r (pd_and (pd_cmp (op_eqD hr.units) o_eqF (pd_v 0) (pd_v 1)) (pd_and (pd_cmp (op_eqD hr.units) o_eqF (pd_is "bool" (pd_v 0) T.z_isinstance T.z_bool boot_bool) (pd_is "bool" (pd_v 1) T.z_isinstance T.z_bool boot_bool)) (pd_one (pd_cmp (op_eqD hr.units) o_eqF (pd_cmp op_isN o_isF (pd_v 0) pd_non) (pd_cmp op_isN o_isF (pd_v 1) pd_non)))))))
    pss_n)
    (pss_1 (ps_r (pd_and (pd_is "int" (pd_v 0) T.z_isinstance T.z_int boot_int) (pd_and (pd_not (pd_is "bool" (pd_v 0) T.z_isinstance T.z_bool boot_bool)) (pd_one (pd_cmp (op_eqD hr.units) o_eqF (pd_v 0) (pd_v 1)))))))))

abbrev s_law_lists : Stmt := top 50
abbrev N_law_lists : List Str := ["_law_matter", "_law_own"]
theorem sc_law_lists : FnScope N_law_lists ["_law_matter"] (defScope s_law_lists) := ⟨rfl, rfl, rfl, by decide +kernel, rfl, by decide +kernel, by decide +kernel⟩
def m_law_lists (F : List D → Res D) : SF :=
  (sRet (eIf (tB1 (eIs2 "list" "tuple" (eVar 0))) (eFz (oLc (iSeq (eVar 0)) (gN 1) tYesF (eFn 1 F (aCons (eVar 1) aNil)) [1])) (eVar 0)))
theorem b_law_lists {k : Nat} {F : List D → Res D} {f : Addr} (T : Tx K mg C)
    (c_law_lists : Cal P w K mg base k "_law_lists" ["_law_matter"] (spD C 1 F)) : BodyOk P w K mg base C k "_law_lists" s_law_lists N_law_lists f (m_law_lists F) := by
  intro cdv A outer s H E hr
  have tk : Takes (cxOf (L2.CX P w) P w K mg base N_law_lists "_law_lists" (defScope s_law_lists) f cdv A outer s H E) (fun cls d _ H => E cls d H) := takes_of rfl rfl rfl rfl
  exact (pss_1 (ps_r (pd_if (pt_v (pd_is2 "list" "tuple" (pd_v 0) T.z_isinstance T.z_list boot_list T.z_tuple boot_tuple)) (pd_fz (pod_lc (own := [("_law_own", 1)]) sc_law_lists.nd (pi_s (pd_v 0)) (blkOk_by (N := N_law_lists) (sc := defScope s_law_lists) (by decide +kernel)) (fun _ _ _ _ _ => (pg_n 1 sc_law_lists.nd)) (fun _ _ _ _ _ => pts_0) (fun _ _ _ _ _ => (pd_fn c_law_lists hr takes0 (pad_cons (pd_v 1) pad_nil) (hk := Nat.le_refl _))))) (pd_v 0))))

abbrev s_law_pick : Stmt := top 51
abbrev N_law_pick : List Str := ["_law_tin", "_law_goods", "_law_many", "_law_lap", "_law_pool", "_law_found"]
theorem sc_law_pick : FnScope N_law_pick ["_law_tin", "_law_goods", "_law_many"] (defScope s_law_pick) := ⟨rfl, rfl, rfl, by decide +kernel, rfl, by decide +kernel, by decide +kernel⟩
def m_law_pick : SF :=
  (sSeq (sTup [4, 5] (csC (cO (oList (aCons (eVar 1) aNil))) (csC (cO (oLst aNil)) csN))) (sSeq (sFor (iRange1 (aCons (eCall min2F (aCons (eCall intF (aCons (eVar 2) aNil)) (aCons (eLenO 4) aNil))) aNil)) (gN 3) (sApp 5 (ePopA 4 (eFnM 0 1 F_law_take (aCons (eLenO 4) aNil))))) (sRet (eVar 5))))
def F_law_pick : List D → List D → Res (D × List D) := runM 6 m_law_pick
theorem b_law_pick  {f : Addr} (T : Tx K mg C)
    (c_law_take : Cal P w K mg base 1 "_law_take" ["_law_urn", "_law_low_so"] (spM C 1 F_law_take)) : BodyOk P w K mg base C 1 "_law_pick" s_law_pick N_law_pick f (m_law_pick) := by
  intro cdv A outer s H E hr
  have tk : Takes (cxOf (L2.CX P w) P w K mg base N_law_pick "_law_pick" (defScope s_law_pick) f cdv A outer s H E) (fun cls d _ H => E cls d H) := takes_of rfl rfl rfl rfl
  exact (pss_c (ps_t2 4 5 (pcs_c (pc_o (pod_list T.z_list (pad_cons (pd_v 1) pad_nil))) (pcs_c (pc_o (pod_lst pad_nil)) pcs_n)) sc_law_pick.nd rfl)
    (pss_c (ps_f (vs := [3]) (pi_r1 T.z_range (pad_cons (pd_cb (call_min2 rfl) o_min2F T.z_min boot_min (pad_cons (pd_ct call_int1 o_intF T.z_int boot_int (pad_cons (pd_v 2) pad_nil)) (pad_cons (pd_lenO 4 T.z_len) pad_nil))) pad_nil)) (pg_n 3 sc_law_pick.nd)
    (pss_1 (ps_app 5 (pd_popA 4 (pd_fnM 0 c_law_take hr tk (pad_cons (pd_lenO 4 T.z_len) pad_nil))))) (passes_of rfl))
    (pss_1 (ps_r (pd_v 5)))))

end
end GN

set_option Elab.async false
set_option linter.all false
set_option maxRecDepth 100000
set_option maxHeartbeats 8000000
/-! PR: the defs that call themselves, by depth. -/
namespace GN
open PySem PySem.Spec PyProof.Rows L2
def recG (N : Nat) (m : (List D → Res D) → SF) : Nat → List D → Res D
  | 0 => fun _ => .bad
  | n + 1 => runD N (m (recG N m n))
def F_tuple_of : List D → Res D := recG 2 m_tuple_of 9
def F_law_lists : List D → Res D := recG 2 m_law_lists 9
def F_law_same : List D → Res D := recG 4 m_law_same 9
section
variable {P : Program} {w : World} {K : PySem.W.Frag} {mg : Str → Option Value} {base : Heap} {C : XC}
theorem cal_rec {x qual : Str} {st : Stmt} {f : Addr} {fd : FuncData} {Ns ps : List Str} {m : (List D → Res D) → SF} (Fn : Fun K x qual st f fd) (Sc : FnScope Ns ps (defScope st)) (hl : ps.length ≤ Ns.length)
    (hm : mg x = some (.ref f)) (hk : PySem.W.keepIn K (.ref f) = true) (hb : Binds K fd ps [])
    (body : ∀ (k : Nat) (F : List D → Res D), Cal P w K mg base k x ps (spD C ps.length F) → BodyOk P w K mg base C k qual st Ns f (m F)) : ∀ n, Cal P w K mg base n x ps (spD C ps.length (recG Ns.length m n))
  | 0 => ⟨f, fd, ⟨fun _ _ _ _ h => by
      obtain ⟨_, _, _, _, _, q⟩ := h
      exact q.elim, fun _ _ _ _ _ _ _ _ _ _ _ _ _ h => by
      obtain ⟨_, _, _, _, _, q⟩ := h
      exact q.elim⟩, hm, hk, hb⟩
  | n + 1 => ⟨f, fd, fn_D Fn Sc hl (body n _ (cal_rec Fn Sc hl hm hk hb body n)), hm, hk, hb⟩
end
end GN

set_option Elab.async false
set_option linter.all false
set_option maxRecDepth 100000
set_option maxHeartbeats 8000000
namespace GN
open PySem PySem.Spec PyProof.Rows L2
section
variable {P : Program} {w : World} {K : PySem.W.Frag} {mg : Str → Option Value} {base : Heap} {C : XC}
abbrev s_sure_name : Stmt := top 21
abbrev N_sure_name : List Str := ["chart", "name"]
theorem sc_sure_name : FnScope N_sure_name ["chart", "name"] (defScope s_sure_name) := ⟨rfl, rfl, rfl, by decide +kernel, rfl, by decide +kernel, by decide +kernel⟩
def m_sure_name : SF :=
  (sSeq (sIf (tOr2 (tNot1 (tB1 (eFn 1 F_is_number (aCons (eVar 1) aNil)))) (tNot1 (tChain2 leI ltI (eC (.int 0)) (eVar 1) (eCall lenF (aCons (eVar 0) aNil))))) (sNp (eVar 1)) sSkip) (sRet (eOp idxF (eVar 0) (eVar 1))))
def F_sure_name : List D → Res D := runD 2 m_sure_name
theorem b_sure_name  {f : Addr} (T : Tx K mg C)
    (c_is_number : Cal P w K mg base 1 "is_number" ["thing"] (spD C 1 F_is_number)) : BodyOk P w K mg base C 1 "sure_name" s_sure_name N_sure_name f (m_sure_name) := by
  intro cdv A outer s H E hr
  have tk : Takes (cxOf (L2.CX P w) P w K mg base N_sure_name "sure_name" (defScope s_sure_name) f cdv A outer s H E) (fun cls d _ H => E cls d H) := takes_of rfl rfl rfl rfl
  exact (pss_c (ps_i (PW.pt (pw_o (pt_n (pt_v (pd_fn c_is_number hr tk (pad_cons (pd_v 1) pad_nil)))) (pw_o1 (pt_n (pt_ch op_le op_lt o_leI o_ltI pd_int (pd_v 1) (pd_cb call_len o_lenF T.z_len PySem.boot_len (pad_cons (pd_v 0) pad_nil)) (fun ha hb hc => pt_chain op_le op_lt ha hb hc))))))
    (pss_1 (ps_np2 T.np hr tk (pd_v 1)))
    pss_n)
    (pss_1 (ps_r (pd_ix (pd_v 0) (pd_v 1)))))

abbrev s_is_view : Stmt := top 27
abbrev N_is_view : List Str := ["thing", "own"]
theorem sc_is_view : FnScope N_is_view ["thing"] (defScope s_is_view) := ⟨rfl, rfl, rfl, by decide +kernel, rfl, by decide +kernel, by decide +kernel⟩
def m_is_view : SF :=
  (sRet (eAnd2 (eFn 2 F_is_tuple_of (aCons (eVar 0) (aCons (eC (.int 4)) aNil))) (eAnd2 (eCall allF (aCons (eFz (oLc (iSeq (eVar 0)) (gN 1) tYesF (eFn 1 F_is_number (aCons (eVar 1) aNil)) [1])) aNil)) (eAnd2 (eOp geI (eOp idxF (eVar 0) (eC (.int 2))) (eC (.int 1))) (eOp geI (eOp idxF (eVar 0) (eC (.int 3))) (eC (.int 1)))))))
def F_is_view : List D → Res D := runD 2 m_is_view
theorem b_is_view  {f : Addr} (T : Tx K mg C)
    (c_is_number : Cal P w K mg base 1 "is_number" ["thing"] (spD C 1 F_is_number))
    (c_is_tuple_of : Cal P w K mg base 1 "is_tuple_of" ["thing", "many"] (spD C 2 F_is_tuple_of)) : BodyOk P w K mg base C 1 "is_view" s_is_view N_is_view f (m_is_view) := by
  intro cdv A outer s H E hr
  have tk : Takes (cxOf (L2.CX P w) P w K mg base N_is_view "is_view" (defScope s_is_view) f cdv A outer s H E) (fun cls d _ H => E cls d H) := takes_of rfl rfl rfl rfl
  exact (pss_1 (ps_r (pd_and (pd_fn c_is_tuple_of hr tk (pad_cons (pd_v 0) (pad_cons pd_int pad_nil))) (pd_and (pd_cb (cr_all rfl) o_allF T.z_all boot_all (pad_cons (pd_fz (pod_lc (own := [("own", 1)]) sc_is_view.nd (pi_s (pd_v 0)) (blkOk_by (N := N_is_view) (sc := defScope s_is_view) (by decide +kernel)) (fun _ _ _ _ _ => (pg_n 1 sc_is_view.nd)) (fun _ _ _ _ _ => pts_0) (fun _ _ _ _ _ => (pd_fn c_is_number hr takes0 (pad_cons (pd_v 1) pad_nil))))) pad_nil)) (pd_and (pd_cmp op_ge o_geI (pd_ix (pd_v 0) pd_int) pd_int) (pd_one (pd_cmp op_ge o_geI (pd_ix (pd_v 0) pd_int) pd_int)))))))

abbrev s_window : Stmt := top 29
abbrev N_window : List Str := ["view", "scale"]
theorem sc_window : FnScope N_window ["view", "scale"] (defScope s_window) := ⟨rfl, rfl, rfl, by decide +kernel, rfl, by decide +kernel, by decide +kernel⟩
def m_window : SF :=
  (sRet (eFn 2 F_window_in (aCons (eFn 1 F_tuple_of (aCons (eVar 0) aNil)) (aCons (eFn 1 F_tuple_of (aCons (eVar 1) aNil)) aNil))))
def F_window : List D → Res D := runD 2 m_window
theorem b_window  {f : Addr} (T : Tx K mg C)
    (c_tuple_of : Cal P w K mg base 9 "tuple_of" ["thing"] (spD C 1 F_tuple_of))
    (c_window_in : Cal P w K mg base 2 "window_in" ["view", "scale"] (spD C 2 F_window_in)) : BodyOk P w K mg base C 9 "window" s_window N_window f (m_window) := by
  intro cdv A outer s H E hr
  have tk : Takes (cxOf (L2.CX P w) P w K mg base N_window "window" (defScope s_window) f cdv A outer s H E) (fun cls d _ H => E cls d H) := takes_of rfl rfl rfl rfl
  exact (pss_1 (ps_r (pd_fn c_window_in hr tk (pad_cons (pd_fn c_tuple_of hr tk (pad_cons (pd_v 0) pad_nil)) (pad_cons (pd_fn c_tuple_of hr tk (pad_cons (pd_v 1) pad_nil)) pad_nil)))))

abbrev s_least_view : Stmt := top 37
abbrev N_least_view : List Str := ["chart", "lot", "standing", "scale", "p", "q", "own", "at", "middle", "needs", "name", "place", "box", "axis", "far"]
theorem sc_least_view : FnScope N_least_view ["chart", "lot", "standing", "scale", "p", "q"] (defScope s_least_view) := ⟨rfl, rfl, rfl, by decide +kernel, rfl, by decide +kernel, by decide +kernel⟩
def m_least_view : SF :=
  (sSeq (sTup [6, 7] (csC (cV (eFn 1 F_tuple_of (aCons (eVar 0) aNil))) (csC (cV (eFn 1 F_tuple_of (aCons (eVar 3) aNil))) csN))) (sSeq (sTup [8, 9] (csC (cV (eLst (aCons (eFn 2 F_fraction (aCons (eOp mulF (eVar 4) (eOp idxF (eVar 7) (eC (.int 0)))) (aCons (eOp idxF (eVar 7) (eC (.int 1))) aNil))) (aCons (eFn 2 F_fraction (aCons (eOp mulF (eVar 5) (eOp idxF (eVar 7) (eC (.int 0)))) (aCons (eOp idxF (eVar 7) (eC (.int 1))) aNil))) aNil)))) (csC (cO (oLst (aCons (eC (.int 1)) (aCons (eC (.int 1)) aNil)))) csN))) (sSeq (sFor (iZipF (aCons (eFn 1 F_tuple_of (aCons (eVar 1) aNil)) (aCons (eFn 1 F_tuple_of (aCons (eVar 2) aNil)) aNil))) (gT 2 (gsC (gN 10) (gsC (gN 11) gsN))) (sSeq (sSet 12 (eFn 2 F_box_in (aCons (eOp idxF (eVar 6) (eVar 10)) (aCons (eVar 11) aNil)))) (sFor (iSeq (eTup (aCons (eC (.int 0)) (aCons (eC (.int 1)) aNil)))) (gN 13) (sSeq (sSet 14 (eFn 1 F_greatest (aCons (eLst (aCons (eFn 2 F_minus (aCons (eOp idxF (eVar 8) (eVar 13)) (aCons (eOp idxF (eVar 12) (eVar 13)) aNil))) (aCons (eFn 2 F_minus (aCons (eOp idxF (eVar 12) (eOp addF (eVar 13) (eC (.int 2)))) (aCons (eOp idxF (eVar 8) (eVar 13)) aNil))) aNil))) aNil))) (sPut 9 (eVar 13) (eCall max2F (aCons (eIxO 9 (eVar 13)) (aCons (eFn 1 F_up (aCons (eFn 2 F_plus (aCons (eVar 14) (aCons (eVar 14) aNil))) aNil)) aNil)))))))) (sRet (eTup (aCons (eVar 4) (aCons (eVar 5) (aCons (eIxO 9 (eC (.int 0))) (aCons (eIxO 9 (eC (.int 1))) aNil)))))))))
def F_least_view : List D → Res D := runD 15 m_least_view
theorem b_least_view  {f : Addr} (T : Tx K mg C)
    (c_tuple_of : Cal P w K mg base 9 "tuple_of" ["thing"] (spD C 1 F_tuple_of))
    (c_fraction : Cal P w K mg base 1 "fraction" ["top", "below"] (spD C 2 F_fraction))
    (c_plus : Cal P w K mg base 2 "plus" ["one", "other"] (spD C 2 F_plus))
    (c_minus : Cal P w K mg base 2 "minus" ["one", "other"] (spD C 2 F_minus))
    (c_greatest : Cal P w K mg base 2 "greatest" ["many"] (spD C 1 F_greatest))
    (c_box_in : Cal P w K mg base 3 "box_in" ["name", "place"] (spD C 2 F_box_in))
    (c_up : Cal P w K mg base 1 "up" ["one"] (spD C 1 F_up)) : BodyOk P w K mg base C 9 "least_view" s_least_view N_least_view f (m_least_view) := by
  intro cdv A outer s H E hr
  have tk : Takes (cxOf (L2.CX P w) P w K mg base N_least_view "least_view" (defScope s_least_view) f cdv A outer s H E) (fun cls d _ H => E cls d H) := takes_of rfl rfl rfl rfl
  exact (pss_c (ps_t2 6 7 (pcs_c (pc_v (pd_fn c_tuple_of hr tk (pad_cons (pd_v 0) pad_nil))) (pcs_c (pc_v (pd_fn c_tuple_of hr tk (pad_cons (pd_v 3) pad_nil))) pcs_n)) sc_least_view.nd rfl)
    (pss_c (ps_t2 8 9 (pcs_c (pc_v (pd_lst (pad_cons (pd_fn c_fraction hr tk (pad_cons (pd_mul (pd_v 4) (pd_ix (pd_v 7) pd_int)) (pad_cons (pd_ix (pd_v 7) pd_int) pad_nil))) (pad_cons (pd_fn c_fraction hr tk (pad_cons (pd_mul (pd_v 5) (pd_ix (pd_v 7) pd_int)) (pad_cons (pd_ix (pd_v 7) pd_int) pad_nil))) pad_nil)))) (pcs_c (pc_o (pod_lst (pad_cons pd_int (pad_cons pd_int pad_nil)))) pcs_n)) sc_least_view.nd rfl)
    (pss_c (ps_f (vs := [10, 11]) (pi_z T.z_zip (pad_cons (pd_fn c_tuple_of hr tk (pad_cons (pd_v 1) pad_nil)) (pad_cons (pd_fn c_tuple_of hr tk (pad_cons (pd_v 2) pad_nil)) pad_nil))) (pg_t (pgs_c (pg_n 10 sc_least_view.nd) (pgs_c (pg_n 11 sc_least_view.nd) pgs_n)))
    (pss_c (ps_s 12 (pd_fn c_box_in hr tk (pad_cons (pd_ix (pd_v 6) (pd_v 10)) (pad_cons (pd_v 11) pad_nil))) sc_least_view.nd)
    (pss_1 (ps_f (vs := [13]) (pi_s (pd_tup (pad_cons pd_int (pad_cons pd_int pad_nil)))) (pg_n 13 sc_least_view.nd)
    (pss_c (ps_s 14 (pd_fn c_greatest hr tk (pad_cons (pd_lst (pad_cons (pd_fn c_minus hr tk (pad_cons (pd_ix (pd_v 8) (pd_v 13)) (pad_cons (pd_ix (pd_v 12) (pd_v 13)) pad_nil))) (pad_cons (pd_fn c_minus hr tk (pad_cons (pd_ix (pd_v 12) (pd_add (pd_v 13) pd_int)) (pad_cons (pd_ix (pd_v 8) (pd_v 13)) pad_nil))) pad_nil))) pad_nil)) sc_least_view.nd)
    (pss_1 (ps_put 9 (pd_v 13) (pd_cb (call_max2 rfl) o_max2F T.z_max boot_max (pad_cons (pd_ixO 9 (pd_v 13)) (pad_cons (pd_fn c_up hr tk (pad_cons (pd_fn c_plus hr tk (pad_cons (pd_v 14) (pad_cons (pd_v 14) pad_nil))) pad_nil)) pad_nil)))))) (passes_of rfl)))) (passes_of rfl))
    (pss_1 (ps_r (pd_tup (pad_cons (pd_v 4) (pad_cons (pd_v 5) (pad_cons (pd_ixO 9 pd_int) (pad_cons (pd_ixO 9 pd_int) pad_nil))))))))))

abbrev s_seen_spans : Stmt := top 43
abbrev N_seen_spans : List Str := ["chart", "book", "glide", "view", "name", "places", "rows", "own", "shape", "found", "span", "low", "first", "high", "second", "scale", "place", "one"]
theorem sc_seen_spans : FnScope N_seen_spans ["chart", "book", "glide", "view", "name"] (defScope s_seen_spans) := ⟨rfl, rfl, rfl, by decide +kernel, rfl, by decide +kernel, by decide +kernel⟩
def m_seen_spans : SF :=
  (sSeq (sTup [7, 8, 9] (csC (cV (eFn 1 F_tuple_of (aCons (eVar 0) aNil))) (csC (cV (eFn 1 F_tuple_of (aCons (eVar 3) aNil))) (csC (cO (oLst aNil)) csN)))) (sSeq (sDrop (eFn 2 F_sure_name (aCons (eVar 7) (aCons (eVar 4) aNil)))) (sSeq (sSet 5 (eFn 3 F_told_places (aCons (eFn 1 F_tuple_of (aCons (eVar 1) aNil)) (aCons (eFn 1 F_tuple_of (aCons (eVar 2) aNil)) (aCons (eVar 4) aNil))))) (sSeq (sSetO 6 (oLc (iSeq (eVar 5)) (gT 2 (gsC (gN 15) (gsC (gN 16) gsN))) tYesF (eTup (aCons (eVar 15) (aCons (eFn 2 F_gaps_in (aCons (eFn 2 F_box_in (aCons (eOp idxF (eVar 7) (eVar 4)) (aCons (eVar 16) aNil))) (aCons (eFn 2 F_window_in (aCons (eVar 8) (aCons (eVar 15) aNil))) aNil))) aNil))) [15, 16])) (sSeq (sFor (iZipF (aCons (eVar 6) (aCons (eSl (some 1) none (eVar 6)) aNil))) (gT 2 (gsC (gT 2 (gsC (gN 11) (gsC (gN 12) gsN))) (gsC (gT 2 (gsC (gN 13) (gsC (gN 14) gsN))) gsN))) (sSeq (sSet 10 (eFn 4 F_part_seen (aCons (eVar 11) (aCons (eVar 13) (aCons (eVar 12) (aCons (eVar 14) aNil)))))) (sSeq (sIf (tB1 (eOp isF (eVar 10) (eC .none))) sCt sSkip) (sSeq (sIf (tAnd2 (tB1 (eEqO true 9 (eLst aNil))) (tAnd2 (tB1 (eOp eqF (eOp idxF (eIxO 9 (eNeg (eC (.int 1)))) (eC (.int 1))) (eOp idxF (eVar 10) (eC (.int 0))))) (tB1 (eCall allF (aCons (eFz (oLc (iSeq (eVar 12)) (gN 17) tYesF (eOp gtI (eOp idxF (eVar 17) (eC (.int 0))) (eC (.int 0))) [17])) aNil))))) (sSet 10 (eTup (aCons (eOp idxF (ePop 9) (eC (.int 0))) (aCons (eOp idxF (eVar 10) (eC (.int 1))) aNil)))) sSkip) (sApp 9 (eVar 10)))))) (sRetV 9))))))
def F_seen_spans : List D → Res (List D) := runO 18 m_seen_spans
theorem b_seen_spans  {f : Addr} (T : Tx K mg C)
    (c_tuple_of : Cal P w K mg base 9 "tuple_of" ["thing"] (spD C 1 F_tuple_of))
    (c_sure_name : Cal P w K mg base 2 "sure_name" ["chart", "name"] (spD C 2 F_sure_name))
    (c_box_in : Cal P w K mg base 3 "box_in" ["name", "place"] (spD C 2 F_box_in))
    (c_window_in : Cal P w K mg base 2 "window_in" ["view", "scale"] (spD C 2 F_window_in))
    (c_gaps_in : Cal P w K mg base 3 "gaps_in" ["box", "frame"] (spD C 2 F_gaps_in))
    (c_told_places : Cal P w K mg base 2 "told_places" ["book", "glide", "name"] (spD C 3 F_told_places))
    (c_part_seen : Cal P w K mg base 4 "part_seen" ["low", "high", "first", "second"] (spD C 4 F_part_seen)) : BodyOk P w K mg base C 9 "seen_spans" s_seen_spans N_seen_spans f (m_seen_spans) := by
  intro cdv A outer s H E hr
  have tk : Takes (cxOf (L2.CX P w) P w K mg base N_seen_spans "seen_spans" (defScope s_seen_spans) f cdv A outer s H E) (fun cls d _ H => E cls d H) := takes_of rfl rfl rfl rfl
  exact (pss_c (ps_tg [7, 8, 9] (pcs_c (pc_v (pd_fn c_tuple_of hr tk (pad_cons (pd_v 0) pad_nil))) (pcs_c (pc_v (pd_fn c_tuple_of hr tk (pad_cons (pd_v 3) pad_nil))) (pcs_c (pc_o (pod_lst pad_nil)) pcs_n))) (pgn_c 7 (pgn_c 8 (pgn_c 9 pgn_n sc_seen_spans.nd) sc_seen_spans.nd) sc_seen_spans.nd))
    (pss_c (ps_x (pd_fn c_sure_name hr tk (pad_cons (pd_v 7) (pad_cons (pd_v 4) pad_nil))))
    (pss_c (ps_s 5 (pd_fn c_told_places hr tk (pad_cons (pd_fn c_tuple_of hr tk (pad_cons (pd_v 1) pad_nil)) (pad_cons (pd_fn c_tuple_of hr tk (pad_cons (pd_v 2) pad_nil)) (pad_cons (pd_v 4) pad_nil)))) sc_seen_spans.nd)
    (pss_c (ps_slc 6 (own := [("scale", 15), ("place", 16)]) sc_seen_spans.nd (pi_s (pd_v 5)) (blkOk_by (N := N_seen_spans) (sc := defScope s_seen_spans) (by decide +kernel)) (fun _ _ _ _ _ => (pg_t (pgs_c (pg_n 15 sc_seen_spans.nd) (pgs_c (pg_n 16 sc_seen_spans.nd) pgs_n)))) (fun _ _ _ _ _ => pts_0) (fun _ _ _ _ _ => (pd_tup (pad_cons (pd_v 15) (pad_cons (pd_fn c_gaps_in hr takes0 (pad_cons (pd_fn c_box_in hr takes0 (pad_cons (pd_ix (pd_v 7) (pd_v 4)) (pad_cons (pd_v 16) pad_nil))) (pad_cons (pd_fn c_window_in hr takes0 (pad_cons (pd_v 8) (pad_cons (pd_v 15) pad_nil))) pad_nil))) pad_nil)))) (sw_true rfl rfl rfl (by decide +kernel)))
    (pss_c (ps_f (vs := [11, 12, 13, 14]) (pi_z T.z_zip (pad_cons (pd_v 6) (pad_cons (pd_sl (pd_v 6) part_int part_no) pad_nil))) (pg_t (pgs_c (pg_t (pgs_c (pg_n 11 sc_seen_spans.nd) (pgs_c (pg_n 12 sc_seen_spans.nd) pgs_n))) (pgs_c (pg_t (pgs_c (pg_n 13 sc_seen_spans.nd) (pgs_c (pg_n 14 sc_seen_spans.nd) pgs_n))) pgs_n)))
    (pss_c (ps_s 10 (pd_fn c_part_seen hr tk (pad_cons (pd_v 11) (pad_cons (pd_v 13) (pad_cons (pd_v 12) (pad_cons (pd_v 14) pad_nil))))) sc_seen_spans.nd)
    (pss_c (ps_i (pt_c op_isN o_isF (pd_v 10) pd_non)
    (pss_1 ps_ct)
    pss_n)
    (pss_c (ps_i (PW.pt (pw_a (pt_neO 9 hr.units (pd_lst pad_nil)) (pw_a (pt_c (op_eqD hr.units) o_eqF (pd_ix (pd_ixO 9 (pd_neg pd_int)) pd_int) (pd_ix (pd_v 10) pd_int)) (pw_a1 (pt_v (pd_cb (cr_all rfl) o_allF T.z_all boot_all (pad_cons (pd_fz (pod_lc (own := [("one", 17)]) sc_seen_spans.nd (pi_s (pd_v 12)) (blkOk_by (N := N_seen_spans) (sc := defScope s_seen_spans) (by decide +kernel)) (fun _ _ _ _ _ => (pg_n 17 sc_seen_spans.nd)) (fun _ _ _ _ _ => pts_0) (fun _ _ _ _ _ => (pd_cmp op_gt o_gtI (pd_ix (pd_v 17) pd_int) pd_int)))) pad_nil)))))))
    (pss_1 (ps_s 10 (pd_tup (pad_cons (pd_ix (pd_pop 9) pd_int) (pad_cons (pd_ix (pd_v 10) pd_int) pad_nil))) sc_seen_spans.nd))
    pss_n)
    (pss_1 (ps_app 9 (pd_v 10)))))) (passes_of rfl))
    (pss_1 (ps_rv 9)))))))

abbrev s_tiles_in : Stmt := top 38
abbrev N_tiles_in : List Str := ["own", "name", "place", "size", "west", "north", "east", "south", "first", "top", "last", "low", "column", "row"]
theorem sc_tiles_in : FnScope N_tiles_in ["own", "name", "place", "size"] (defScope s_tiles_in) := ⟨rfl, rfl, rfl, by decide +kernel, rfl, by decide +kernel, by decide +kernel⟩
def m_tiles_in : SF :=
  (sSeq (sAsg (gT 4 (gsC (gN 4) (gsC (gN 5) (gsC (gN 6) (gsC (gN 7) gsN))))) (eFn 2 F_box_in (aCons (eOp idxF (eVar 0) (eVar 1)) (aCons (eVar 2) aNil)))) (sSeq (sTup [8, 9] (csC (cV (eOp fdivI (eOp idxF (eVar 4) (eC (.int 0))) (eOp mulF (eOp idxF (eVar 4) (eC (.int 1))) (eVar 3)))) (csC (cV (eOp fdivI (eOp idxF (eVar 5) (eC (.int 0))) (eOp mulF (eOp idxF (eVar 5) (eC (.int 1))) (eVar 3)))) csN))) (sSeq (sTup [10, 11] (csC (cV (eFn 1 F_up (aCons (eFn 2 F_fraction (aCons (eOp idxF (eVar 6) (eC (.int 0))) (aCons (eOp mulF (eOp idxF (eVar 6) (eC (.int 1))) (eVar 3)) aNil))) aNil))) (csC (cV (eFn 1 F_up (aCons (eFn 2 F_fraction (aCons (eOp idxF (eVar 7) (eC (.int 0))) (aCons (eOp mulF (eOp idxF (eVar 7) (eC (.int 1))) (eVar 3)) aNil))) aNil))) csN))) (sSeq (sIf (tB1 (eOp gtI (eOp mulF (eOp subI (eVar 10) (eVar 8)) (eOp subI (eVar 11) (eVar 9))) (eC c_MOST_TILES))) sTm sSkip) (sRet (eFz (oLc2 (iRange2 (aCons (eVar 8) (aCons (eVar 10) aNil))) (gN 12) (iRange2 (aCons (eVar 9) (aCons (eVar 11) aNil))) (gN 13) (eTup (aCons (eVar 12) (aCons (eVar 13) aNil))) [12, 13] [13])))))))
def F_tiles_in : List D → Res D := runD 14 m_tiles_in
theorem b_tiles_in  {f : Addr} (T : Tx K mg C)
    (c_fraction : Cal P w K mg base 1 "fraction" ["top", "below"] (spD C 2 F_fraction))
    (c_box_in : Cal P w K mg base 3 "box_in" ["name", "place"] (spD C 2 F_box_in))
    (c_up : Cal P w K mg base 1 "up" ["one"] (spD C 1 F_up)) : BodyOk P w K mg base C 3 "tiles_in" s_tiles_in N_tiles_in f (m_tiles_in) := by
  intro cdv A outer s H E hr
  have tk : Takes (cxOf (L2.CX P w) P w K mg base N_tiles_in "tiles_in" (defScope s_tiles_in) f cdv A outer s H E) (fun cls d _ H => E cls d H) := takes_of rfl rfl rfl rfl
  exact (pss_c (ps_a (vs := [4, 5, 6, 7]) (pd_fn c_box_in hr tk (pad_cons (pd_ix (pd_v 0) (pd_v 1)) (pad_cons (pd_v 2) pad_nil))) (pg_t (pgs_c (pg_n 4 sc_tiles_in.nd) (pgs_c (pg_n 5 sc_tiles_in.nd) (pgs_c (pg_n 6 sc_tiles_in.nd) (pgs_c (pg_n 7 sc_tiles_in.nd) pgs_n))))))
    (pss_c (ps_tg [8, 9] (pcs_c (pc_v (pd_fdiv (pd_ix (pd_v 4) pd_int) (pd_mul (pd_ix (pd_v 4) pd_int) (pd_v 3)))) (pcs_c (pc_v (pd_fdiv (pd_ix (pd_v 5) pd_int) (pd_mul (pd_ix (pd_v 5) pd_int) (pd_v 3)))) pcs_n)) (pgn_c 8 (pgn_c 9 pgn_n sc_tiles_in.nd) sc_tiles_in.nd))
    (pss_c (ps_tg [10, 11] (pcs_c (pc_v (pd_fn c_up hr tk (pad_cons (pd_fn c_fraction hr tk (pad_cons (pd_ix (pd_v 6) pd_int) (pad_cons (pd_mul (pd_ix (pd_v 6) pd_int) (pd_v 3)) pad_nil))) pad_nil))) (pcs_c (pc_v (pd_fn c_up hr tk (pad_cons (pd_fn c_fraction hr tk (pad_cons (pd_ix (pd_v 7) pd_int) (pad_cons (pd_mul (pd_ix (pd_v 7) pd_int) (pd_v 3)) pad_nil))) pad_nil))) pcs_n)) (pgn_c 10 (pgn_c 11 pgn_n sc_tiles_in.nd) sc_tiles_in.nd))
    (pss_c (ps_i (pt_c op_gt o_gtI (pd_mul (pd_sub (pd_v 10) (pd_v 8)) (pd_sub (pd_v 11) (pd_v 9))) (pd_gI2 T.g_MOST_TILES))
    (pss_1 (ps_tm T.tm tk))
    pss_n)
    (pss_1 (ps_r (pd_fz (pod_lc2 (own := [("column", 12), ("row", 13)]) (vs1 := [13]) sc_tiles_in.nd (pi_r2 T.z_range (pad_cons (pd_v 8) (pad_cons (pd_v 10) pad_nil))) (blkOk_by (N := N_tiles_in) (sc := defScope s_tiles_in) (by decide +kernel)) (by decide) (fun _ _ _ _ _ => (pg_n 12 sc_tiles_in.nd)) (fun _ _ _ _ _ => (pi_r2 T.z_range (pad_cons (pd_v 9) (pad_cons (pd_v 11) pad_nil)))) (fun _ _ _ _ _ => (pg_n 13 sc_tiles_in.nd)) (fun _ _ _ _ _ => (pd_tup (pad_cons (pd_v 12) (pad_cons (pd_v 13) pad_nil))))))))))))

abbrev s_tiles_under : Stmt := top 39
abbrev N_tiles_under : List Str := ["chart", "name", "place", "size", "own"]
theorem sc_tiles_under : FnScope N_tiles_under ["chart", "name", "place", "size"] (defScope s_tiles_under) := ⟨rfl, rfl, rfl, by decide +kernel, rfl, by decide +kernel, by decide +kernel⟩
def m_tiles_under : SF :=
  (sSeq (sSet 4 (eFn 1 F_tuple_of (aCons (eVar 0) aNil))) (sSeq (sDrop (eFn 2 F_sure_name (aCons (eVar 4) (aCons (eVar 1) aNil)))) (sRet (eCall tupleF (aCons (eFn 4 F_tiles_in (aCons (eVar 4) (aCons (eVar 1) (aCons (eFn 1 F_tuple_of (aCons (eVar 2) aNil)) (aCons (eVar 3) aNil))))) aNil)))))
def F_tiles_under : List D → Res D := runD 5 m_tiles_under
theorem b_tiles_under  {f : Addr} (T : Tx K mg C)
    (c_tuple_of : Cal P w K mg base 9 "tuple_of" ["thing"] (spD C 1 F_tuple_of))
    (c_sure_name : Cal P w K mg base 2 "sure_name" ["chart", "name"] (spD C 2 F_sure_name))
    (c_tiles_in : Cal P w K mg base 4 "tiles_in" ["own", "name", "place", "size"] (spD C 4 F_tiles_in)) : BodyOk P w K mg base C 9 "tiles_under" s_tiles_under N_tiles_under f (m_tiles_under) := by
  intro cdv A outer s H E hr
  have tk : Takes (cxOf (L2.CX P w) P w K mg base N_tiles_under "tiles_under" (defScope s_tiles_under) f cdv A outer s H E) (fun cls d _ H => E cls d H) := takes_of rfl rfl rfl rfl
  exact (pss_c (ps_s 4 (pd_fn c_tuple_of hr tk (pad_cons (pd_v 0) pad_nil)) sc_tiles_under.nd)
    (pss_c (ps_x (pd_fn c_sure_name hr tk (pad_cons (pd_v 4) (pad_cons (pd_v 1) pad_nil))))
    (pss_1 (ps_r (pd_ct call_tuple_of o_tupleF T.z_tuple boot_tuple (pad_cons (pd_fn c_tiles_in hr tk (pad_cons (pd_v 4) (pad_cons (pd_v 1) (pad_cons (pd_fn c_tuple_of hr tk (pad_cons (pd_v 2) pad_nil)) (pad_cons (pd_v 3) pad_nil))))) pad_nil))))))

abbrev s_by_tiles : Stmt := top 40
abbrev N_by_tiles : List Str := ["chart", "lot", "standing", "size", "own", "found", "name", "place", "tile"]
theorem sc_by_tiles : FnScope N_by_tiles ["chart", "lot", "standing", "size"] (defScope s_by_tiles) := ⟨rfl, rfl, rfl, by decide +kernel, rfl, by decide +kernel, by decide +kernel⟩
def m_by_tiles : SF :=
  (sSeq (sTup [4, 5] (csC (cV (eFn 1 F_tuple_of (aCons (eVar 0) aNil))) (csC cN csN))) (sSeq (sFor (iZipF (aCons (eFn 1 F_tuple_of (aCons (eVar 1) aNil)) (aCons (eFn 1 F_tuple_of (aCons (eVar 2) aNil)) aNil))) (gT 2 (gsC (gN 6) (gsC (gN 7) gsN))) (sFor (iSeq (eFn 4 F_tiles_in (aCons (eVar 4) (aCons (eVar 6) (aCons (eVar 7) (aCons (eVar 3) aNil)))))) (gN 8) sBad)) sBad))
def F_by_tiles : List D → Res D := runD 9 m_by_tiles
theorem b_by_tiles  {f : Addr} (T : Tx K mg C)
    (c_tuple_of : Cal P w K mg base 9 "tuple_of" ["thing"] (spD C 1 F_tuple_of))
    (c_tiles_in : Cal P w K mg base 4 "tiles_in" ["own", "name", "place", "size"] (spD C 4 F_tiles_in)) : BodyOk P w K mg base C 9 "by_tiles" s_by_tiles N_by_tiles f (m_by_tiles) := by
  intro cdv A outer s H E hr
  have tk : Takes (cxOf (L2.CX P w) P w K mg base N_by_tiles "by_tiles" (defScope s_by_tiles) f cdv A outer s H E) (fun cls d _ H => E cls d H) := takes_of rfl rfl rfl rfl
  exact (pss_c (ps_tg [4, 5] (pcs_c (pc_v (pd_fn c_tuple_of hr tk (pad_cons (pd_v 0) pad_nil))) (pcs_c pc_d0 pcs_n)) (pgn_c 4 (pgn_c 5 pgn_n sc_by_tiles.nd) sc_by_tiles.nd))
    (pss_c (ps_f (vs := [6, 7]) (pi_z T.z_zip (pad_cons (pd_fn c_tuple_of hr tk (pad_cons (pd_v 1) pad_nil)) (pad_cons (pd_fn c_tuple_of hr tk (pad_cons (pd_v 2) pad_nil)) pad_nil))) (pg_t (pgs_c (pg_n 6 sc_by_tiles.nd) (pgs_c (pg_n 7 sc_by_tiles.nd) pgs_n)))
    (pss_1 (ps_f (vs := [8]) (pi_s (pd_fn c_tiles_in hr tk (pad_cons (pd_v 4) (pad_cons (pd_v 6) (pad_cons (pd_v 7) (pad_cons (pd_v 3) pad_nil)))))) (pg_n 8 sc_by_tiles.nd)
    (pss_1 ps_bad) (passes_of rfl))) (passes_of rfl))
    (pss_1 ps_bad)))

abbrev s_seen : Stmt := top 32
abbrev N_seen : List Str := ["chart", "lot", "standing", "view", "scale", "pairs", "own", "frame", "name", "place"]
theorem sc_seen : FnScope N_seen ["chart", "lot", "standing", "view", "scale"] (defScope s_seen) := ⟨rfl, rfl, rfl, by decide +kernel, rfl, by decide +kernel, by decide +kernel⟩
def m_seen : SF :=
  (sSeq (sTup [6, 7] (csC (cV (eFn 1 F_tuple_of (aCons (eVar 0) aNil))) (csC (cV (eFn 2 F_window (aCons (eVar 3) (aCons (eVar 4) aNil)))) csN))) (sZipRet 5 (aCons (eFn 1 F_tuple_of (aCons (eVar 1) aNil)) (aCons (eFn 1 F_tuple_of (aCons (eVar 2) aNil)) aNil)) (gT 2 (gsC (gN 8) (gsC (gN 9) gsN))) (tB1 (eFn 2 F_meets (aCons (eFn 2 F_box_in (aCons (eOp idxF (eVar 6) (eVar 8)) (aCons (eVar 9) aNil))) (aCons (eVar 7) aNil)))) (eVar 8) [8, 9]))
def F_seen : List D → Res D := runD 10 m_seen
theorem b_seen  {f : Addr} (T : Tx K mg C)
    (c_tuple_of : Cal P w K mg base 9 "tuple_of" ["thing"] (spD C 1 F_tuple_of))
    (c_box_in : Cal P w K mg base 3 "box_in" ["name", "place"] (spD C 2 F_box_in))
    (c_window : Cal P w K mg base 10 "window" ["view", "scale"] (spD C 2 F_window))
    (c_meets : Cal P w K mg base 4 "meets" ["box", "frame"] (spD C 2 F_meets)) : BodyOk P w K mg base C 10 "seen" s_seen N_seen f (m_seen) := by
  intro cdv A outer s H E hr
  have tk : Takes (cxOf (L2.CX P w) P w K mg base N_seen "seen" (defScope s_seen) f cdv A outer s H E) (fun cls d _ H => E cls d H) := takes_of rfl rfl rfl rfl
  exact (pss_c (ps_tg [6, 7] (pcs_c (pc_v (pd_fn c_tuple_of hr tk (pad_cons (pd_v 0) pad_nil))) (pcs_c (pc_v (pd_fn c_window hr tk (pad_cons (pd_v 3) (pad_cons (pd_v 4) pad_nil)))) pcs_n)) (pgn_c 6 (pgn_c 7 pgn_n sc_seen.nd) sc_seen.nd))
    (pss_zipRet 5 (own := [("name", 8), ("place", 9)]) T.z_zip T.z_tuple (pad_cons (pd_fn c_tuple_of hr tk (pad_cons (pd_v 1) pad_nil)) (pad_cons (pd_fn c_tuple_of hr tk (pad_cons (pd_v 2) pad_nil)) pad_nil)) sc_seen.nd (blkOk_by (N := N_seen) (sc := defScope s_seen) (by decide +kernel)) (fun _ _ _ _ _ => (pg_t (pgs_c (pg_n 8 sc_seen.nd) (pgs_c (pg_n 9 sc_seen.nd) pgs_n)))) (fun _ _ _ _ _ => (pts_1 (pt_v (pd_fn c_meets hr takes0 (pad_cons (pd_fn c_box_in hr takes0 (pad_cons (pd_ix (pd_v 6) (pd_v 8)) (pad_cons (pd_v 9) pad_nil))) (pad_cons (pd_v 7) pad_nil)))))) (fun _ _ _ _ _ => (pd_v 8))))

end
end GN

set_option Elab.async false
set_option linter.all false
set_option maxRecDepth 100000
set_option maxHeartbeats 8000000
/-! PC: cut_at, by hand: it asks a tuple for a place. -/
namespace GN
open PySem PySem.Spec PyProof.Rows L2
section
variable {P : Program} {w : World} {K : PySem.W.Frag} {mg : Str → Option Value} {base : Heap} {C : XC}
abbrev lcTz (F : List D → Res D) : LF := oLc (iSeq (eVar 0)) (gN 1) tYesF (eFn 1 F (aCons (eVar 1) aNil)) [1]
def isSq : D → Bool
  | .list _ | .tuple _ => true
  | _ => false
def tzF (F : List D → Res D) (d : D) : Res (List D) := if isSq d then (match lcTz F (ini 2 [d]) with
    | .ok (es, _) => .ok es
    | _ => .bad) else .bad
theorem fn_tz {k : Nat} {F : List D → Res D} {f : Addr} {fd : FuncData} (Fn : Fun K "tuple_of" "tuple_of" s_tuple_of f fd) (T : Tx K mg C) (c : Cal P w K mg base k "tuple_of" ["thing"] (spD C 1 F)) :
    FnOk P w K mg base (L2.CX P w) (k + 1) f fd ["thing"] (spTz (tzF F)) := by
  refine Fn.okX sc_tuple_of (fun vs H Q E h => ?_) (fun cdv A outer s H vs Q E hr h => ?_)
  · obtain ⟨S, v, d, _, rfl, _⟩ := h
    rfl
  · have tk : Takes (cxOf (L2.CX P w) P w K mg base N_tuple_of "tuple_of" (defScope s_tuple_of) f cdv A outer s H E) (fun cls d _ H => E cls d H) := takes_of rfl rfl rfl rfl
    refine ⟨_, pss_cons (ps_if (pt_v (C := C) (W := fun cls d _ H => E cls d H) (pd_is2 "list" "tuple" (pd_v 0) T.z_isinstance T.z_list boot_list T.z_tuple boot_tuple))
      (pss_one (ps_ret (pe_callTy call_tupleZ rfl T.z_tuple boot_tuple (pa_cons (pod_lc (C := C) (W := fun cls d _ H => E cls d H) (own := [("part", 1)]) sc_tuple_of.nd (pi_s (pd_v 0)) (blkOk_by (N := N_tuple_of) (sc := defScope s_tuple_of) (by decide +kernel)) (fun _ _ _ _ _ => (pg_n 1 sc_tuple_of.nd)) (fun _ _ _ _ _ => pts_0) (fun _ _ _ _ _ => (pd_fn c hr takes0 (pad_cons (pd_v 1) pad_nil) (hk := Nat.le_refl _)))) pa_nil)))) pss_nil) (pss_one ps_never), ?_⟩
    obtain ⟨S, v, d, ss, rfl, r, q⟩ := h
    have hq : isSq d = true := by
      cases z : isSq d with
      | true => rfl
      | false =>
        unfold tzF at q
        rw [z] at q
        exact q.elim
    have L : Lk S H (L2.start N_tuple_of [v]) (ini N_tuple_of.length [d]) := lk_ini ss (.cons r .nil) (by show 1 ≤ 2; decide)
    refine ⟨S, _, L, ?_⟩
    have e : tB1 (eIs2 "list" "tuple" (eVar 0)) (ini N_tuple_of.length [d]) = .ok (true, ini N_tuple_of.length [d]) := by
      cases d with
      | list ds => rfl
      | tuple ds => rfl
      | _ => cases hq
    rw [e]
    refine fun S1 H1 g1 => iteT ⟨S1, _, g1.lk, ?_⟩
    show Post C _ S1 H1 _ _ (lcTz F (ini 2 [d])) _
    unfold tzF at q
    rw [hq] at q
    cases z : lcTz F (ini 2 [d]) with
    | exc x => rw [z] at q; exact q.elim
    | bad => rw [z] at q; exact q.elim
    | ok a =>
      obtain ⟨es, ρ1⟩ := a
      rw [z] at q
      intro p us S2 H2 g2 h1 r2 h3 h4 h5
      refine ⟨p, us, rfl, .of h1, fun l o hoc hod hl => ?_⟩
      have ad : Adv NoM S2 H2 S2 (upd H2 l (.frz o (.tup us))) := Adv.lay g2.lk.sub hl
      have g3 := (g1.trans g2).trans (.of0 g2.lk ad)
      exact q l o us S2 _ (g3.adv.mono fun p h => (ow_ini h).elim) upd_same hoc hod r2
abbrev s_cut_at : Stmt := top 33
abbrev N_cut_at : List Str := ["chart", "lot", "standing", "view", "scale", "name", "box", "beyond", "own", "names", "frame", "one"]
theorem sc_cut_at : FnScope N_cut_at ["chart", "lot", "standing", "view", "scale", "name"] (defScope s_cut_at) := ⟨rfl, rfl, rfl, by decide +kernel, rfl, by decide +kernel, by decide +kernel⟩
def F_tz : D → Res (List D) := tzF (recG 2 m_tuple_of 8)
def cutA : EF := eFn 1 F_tuple_of (aCons (eVar 0) aNil)
def cutB : EF := eFn 2 F_window (aCons (eVar 3) (aCons (eVar 4) aNil))
def cutC : EF := eFn 2 F_sure_name (aCons (eVar 8) (aCons (eVar 5) aNil))
def cutI : EF := eOp idxF (eVar 8) (eVar 5)
def cutE : EF := eFn 1 F_tuple_of (aCons (eVar 2) aNil)
def cutR : SF :=
  (sSeq (sIf (tNot1 (tB1 (eFn 2 F_meets (aCons (eVar 6) (aCons (eVar 10) aNil))))) sBad sSkip) (sSeq (sSet 7 (eLst (aCons (eFn 2 F_minus (aCons (eOp idxF (eVar 10) (eC (.int 0))) (aCons (eOp idxF (eVar 6) (eC (.int 0))) aNil))) (aCons (eFn 2 F_minus (aCons (eOp idxF (eVar 10) (eC (.int 1))) (aCons (eOp idxF (eVar 6) (eC (.int 1))) aNil))) (aCons (eFn 2 F_minus (aCons (eOp idxF (eVar 6) (eC (.int 2))) (aCons (eOp idxF (eVar 10) (eC (.int 2))) aNil))) (aCons (eFn 2 F_minus (aCons (eOp idxF (eVar 6) (eC (.int 3))) (aCons (eOp idxF (eVar 10) (eC (.int 3))) aNil))) aNil)))))) (sRet (eCall tupleF (aCons (eFz (oLc (iSeq (eVar 7)) (gN 11) tYesF (eFn 1 F_greatest (aCons (eLst (aCons (eVar 11) (aCons (eTup (aCons (eC (.int 0)) (aCons (eC (.int 1)) aNil))) aNil))) aNil)) [11])) aNil)))))
/-- the part that holds the names -/
def cutN (ns : List Int) : SF := fun ρ => (cutC ρ).bind fun a3 => (eVar 5 a3.2).bind fun a4 => (match a4.1 with
  | .int k => (match idxI k ns with
    | some j => (cutI a4.2).bind fun a5 => (cutE a5.2).bind fun a6 => (eVar 5 a6.2).bind fun a7 => (match a7.1 with
      | .int k2 => (if k2 = k then (match idxF a6.1 (.int (j : Nat)) with
        | .ok d => (F_box_in [a5.1, d]).bind fun b => cutR (a7.2.set 6 (.val b))
        | _ => .bad) else .bad)
      | _ => .bad)
    | none => .bad)
  | _ => .bad)
def m_cut_at : SF := fun ρ => (cutA ρ).bind fun a0 => (eVar 1 a0.2).bind fun a1 => (match F_tz a1.1 with
  | .ok es => (match intsOf es with
    | some ns => (cutB a1.2).bind fun a2 => if decide (9 < a2.2.length) then cutN ns (((a2.2.set 8 (.val a0.1)).set 9 .no).set 10 (.val a2.1)) else .bad
    | none => .bad)
  | _ => .bad)
def F_cut_at : List D → Res D := runD 12 m_cut_at
theorem idxI_mem {i : Int} : ∀ {ns : List Int} {j : Nat}, idxI i ns = some j → i ∈ ns := fun h => List.mem_of_getElem? (idxI_at h).1
theorem iteFof {c : Bool} {p q : Prop} (hc : c = false) (h : q) : if c = true then p else q := by
  rw [hc, if_neg Bool.false_ne_true]
  exact h
theorem b_cut_at {f : Addr} (T : Tx K mg C)
    (c_tuple_of : Cal P w K mg base 9 "tuple_of" ["thing"] (spD C 1 F_tuple_of))
    (c_tz : Cal P w K mg base 9 "tuple_of" ["thing"] (spTz F_tz))
    (c_minus : Cal P w K mg base 2 "minus" ["one", "other"] (spD C 2 F_minus))
    (c_greatest : Cal P w K mg base 2 "greatest" ["many"] (spD C 1 F_greatest))
    (c_sure_name : Cal P w K mg base 2 "sure_name" ["chart", "name"] (spD C 2 F_sure_name))
    (c_box_in : Cal P w K mg base 3 "box_in" ["name", "place"] (spD C 2 F_box_in))
    (c_window : Cal P w K mg base 10 "window" ["view", "scale"] (spD C 2 F_window))
    (c_meets : Cal P w K mg base 4 "meets" ["box", "frame"] (spD C 2 F_meets)) : BodyOk P w K mg base C 10 "cut_at" s_cut_at N_cut_at f (m_cut_at) := by
  intro cdv A outer s H E hr
  have tk : Takes (cxOf (L2.CX P w) P w K mg base N_cut_at "cut_at" (defScope s_cut_at) f cdv A outer s H E) (fun cls d _ H => E cls d H) := takes_of rfl rfl rfl rfl
  obtain ⟨ftz, fdz, FZ, hmz, kz, bz⟩ := c_tz.ex
  obtain ⟨fbx, fdb, FB, hmb, kb, bb⟩ := c_box_in.ex
  have rest : PSSD (cxOf (L2.CX P w) P w K mg base N_cut_at "cut_at" (defScope s_cut_at) f cdv A outer s H E) C (fun cls d _ H => E cls d H) ((defBody s_cut_at).drop 4) cutR :=
    (pss_c (ps_i (pt_n (pt_v (pd_fn c_meets hr tk (pad_cons (pd_v 6) (pad_cons (pd_v 10) pad_nil)))))
    (pss_1 ps_bad)
    pss_n)
    (pss_c (ps_s 7 (pd_lst (pad_cons (pd_fn c_minus hr tk (pad_cons (pd_ix (pd_v 10) pd_int) (pad_cons (pd_ix (pd_v 6) pd_int) pad_nil))) (pad_cons (pd_fn c_minus hr tk (pad_cons (pd_ix (pd_v 10) pd_int) (pad_cons (pd_ix (pd_v 6) pd_int) pad_nil))) (pad_cons (pd_fn c_minus hr tk (pad_cons (pd_ix (pd_v 6) pd_int) (pad_cons (pd_ix (pd_v 10) pd_int) pad_nil))) (pad_cons (pd_fn c_minus hr tk (pad_cons (pd_ix (pd_v 6) pd_int) (pad_cons (pd_ix (pd_v 10) pd_int) pad_nil))) pad_nil))))) sc_cut_at.nd)
    (pss_1 (ps_r (pd_ct call_tuple_of o_tupleF T.z_tuple boot_tuple (pad_cons (pd_fz (pod_lc (own := [("one", 11)]) sc_cut_at.nd (pi_s (pd_v 7)) (blkOk_by (N := N_cut_at) (sc := defScope s_cut_at) (by decide +kernel)) (fun _ _ _ _ _ => (pg_n 11 sc_cut_at.nd)) (fun _ _ _ _ _ => pts_0) (fun _ _ _ _ _ => (pd_fn c_greatest hr takes0 (pad_cons (pd_lst (pad_cons (pd_v 11) (pad_cons (pd_tup (pad_cons pd_int (pad_cons pd_int pad_nil))) pad_nil))) pad_nil))))) pad_nil))))))
  have hv9 : ∀ {pos : Pos}, PE (cxOf (L2.CX P w) P w K mg base N_cut_at "cut_at" (defScope s_cut_at) f cdv A outer s H E) (.Name "names" pos) (tVar 9) := fun {pos} => pe_var rfl (Or.inl rfl) (by decide) (by decide)
  refine PSs.imp (pss_cons (ps_par3 (i := 8) (j := 9) (k := 10) rfl sc_cut_at.nd rfl rfl rfl (by decide) (by decide) (by decide) rfl rfl rfl
      (pa_cons (pd_fn c_tuple_of hr tk (pad_cons (pd_v 0) pad_nil)) (pa_cons (pe_callS FZ (hr.mono (by decide)) rfl hmz kz bz (fun σ => passAt tk σ) (pa_cons (pd_v (C := C) (W := fun cls d _ H => E cls d H) 1) pa_nil)) (pa_cons (pd_fn c_window hr tk (pad_cons (pd_v 3) (pad_cons (pd_v 4) pad_nil))) pa_nil))) rfl)
    (pss_cons (ps_expr (pd_fn c_sure_name hr tk (pad_cons (pd_v 8) (pad_cons (pd_v 5) pad_nil))))
    (pss_cons (ps_if (pt_cmpR op_notIn_seq (pd_v (C := C) (W := fun cls d _ H => E cls d H) 5) hv9 rfl) (pss_one ps_never) pss_nil)
    (pss_cons (ps_set (i := 6) sc_cut_at.nd rfl (Or.inl rfl) (pe_callS FB (hr.mono (by decide)) rfl hmb kb bb (fun σ => passAt tk σ) (pa_cons (pd_ix (C := C) (W := fun cls d _ H => E cls d H) (pd_v 8) (pd_v 5)) (pa_cons (pe_ix ix_seq (pd_fn c_tuple_of hr tk (pad_cons (pd_v 2) pad_nil)) (pe_tzIndex hv9 (pd_v (C := C) (W := fun cls d _ H => E cls d H) 5)) (fun _ _ => rfl)) pa_nil)))) rest)))) fun Dn σ H0 ⟨S, ρ, L, p⟩ => ?_
  -- own
  refine ⟨S, ρ, L, p.seq fun d0 ρ1 _ p1 => fun v0 S1 H1 g1 r0 => ?_⟩
  -- the list of names: its value, then the tuple
  refine ⟨S1, ρ1, g1.lk, (Post.s g1 p1).seq fun d1 ρ2 _ p2 => fun v1 S2 H2 g2 r1 => ?_⟩
  have g12 := g1.trans g2
  have p2' := Post.s g2 p2
  dsimp only at p2'
  cases zt : F_tz d1 with
  | exc x => rw [zt] at p2'; exact p2'.elim
  | bad => rw [zt] at p2'; exact p2'.elim
  | ok es =>
    rw [zt] at p2'
    dsimp only at p2'
    cases zi : intsOf es with
    | none => rw [zi] at p2'; exact p2'.elim
    | some ns =>
      rw [zi] at p2'
      dsimp only at p2'
      have e := intsOf_eq zi
      subst e
      refine ⟨S2, v1, d1, g2.lk.sub, rfl, r1, ?_⟩
      rw [zt]
      intro p o us S3 H3 ad hp hoc hod ru
      have eu := ru.intsOf
      subst eu
      have g3 : Go S2 H2 σ ρ2 S3 H3 σ ρ2 := .of0 g2.lk ad
      refine ⟨S3, ρ2, g3.lk, (Post.s g3 p2').seq fun d2 ρ3 _ p3 => fun v2 S4 H4 g4 r2 => ?_⟩
      have p3' := Post.s g4 p3
      dsimp only at p3'
      cases hl : decide (9 < ρ3.length) with
      | false => rw [hl] at p3'; exact p3'.elim
      | true =>
        rw [hl] at p3'
        have hl9 : 9 < σ.length := by rw [← g4.lk.len]; exact of_decide_eq_true hl
        have hp4 := g4.frz g3.lk hp
        refine ⟨v0, .ref p, v2, rfl, ?_⟩
        -- the three names are stored
        have g5 : Go S4 H4 σ ρ3 S4 H4 (((σ.set 8 (some v0)).set 9 (some (.ref p))).set 10 (some v2)) (((ρ3.set 8 (.val d0)).set 9 .no).set 10 (.val d2)) :=
          (((Go.refl g4.lk).setV (i := 8) (r0.up (g2.adv.ss.trans (g3.adv.ss.trans g4.adv.ss)))).setN (i := 9) (x := some (.ref p))).setV (i := 10) r2
        have p5 : Post C (fun cls d _ H => E cls d H) S4 H4 σ ρ3 (cutN ns (((ρ3.set 8 (.val d0)).set 9 .no).set 10 (.val d2))) (KS S4 H4 σ ρ3 Dn) := p3'
        have p6 := Post.s g5 p5
        have h9 : (((σ.set 8 (some v0)).set 9 (some (V.ref p))).set 10 (some v2))[9]? = some (some (V.ref p)) := by
          rw [List.getElem?_set_ne (by decide), List.getElem?_set_self (by rw [List.length_set]; exact hl9)]
        have L5 := g5.lk
        revert p6 h9 L5
        generalize (((σ.set 8 (some v0)).set 9 (some (V.ref p))).set 10 (some v2)) = τ
        generalize (((ρ3.set 8 (.val d0)).set 9 .no).set 10 (.val d2)) = ρ5
        intro p6 h9 L5
        unfold cutN at p6
        -- sure_name
        refine ⟨S4, ρ5, L5, p6.seq fun d3 ρ6 _ q1 => fun v3 S6 H6 g6 r3 => ?_⟩
        have q1' := Post.s g6 q1
        -- name not in names
        refine ⟨S6, ρ6, g6.lk, q1'.seq fun d4 ρ7 _ q2 => fun v4 S7 H7 g7 r4 => ?_⟩
        have q2' := Post.s g7 q2
        dsimp only at q2'
        have hp7 := g7.frz g6.lk (g6.frz L5 hp4)
        cases d4 with
        | int k =>
          cases r4
          dsimp only at q2'
          cases zj : idxI k ns with
          | none => rw [zj] at q2'; exact q2'.elim
          | some j =>
            rw [zj] at q2'
            dsimp only at q2'
            refine ⟨_, h9, p, ns.map V.int, rfl, .inr (sqT_frz hp7), rfl, flat_ints ns, _, rfl, ?_⟩
            have hin : (if true = true then !inV (.int k) (ns.map V.int) else inV (.int k) (ns.map V.int)) = false := by
              rw [if_pos rfl, inV_ints, decide_eq_true (idxI_mem zj)]
              rfl
            refine iteFof hin ?_
            -- the box
            refine ⟨S7, ρ7, g7.lk, q2'.seq fun d5 ρ8 _ q3 => fun v5 S8 H8 g8 r5 => ?_⟩
            have q3' := Post.s g8 q3
            refine ⟨S8, ρ8, g8.lk, q3'.seq fun d6 ρ9 _ q4 => fun v6 S9 H9 g9 r6 => ?_⟩
            have q4' := Post.s g9 q4
            have hp9 := g9.frz g8.lk (g8.frz g7.lk hp7)
            refine ⟨_, h9, ⟨p, o, _, rfl, hp9, hod, hoc⟩, S9, ρ9, g9.lk, q4'.seq fun d7 ρ10 _ q5 => fun v7 S10 H10 g10 r7 => ?_⟩
            have q5' := Post.s g10 q5
            have hp10 := g10.frz g9.lk hp9
            dsimp only at q5'
            cases d7 with
            | int k2 =>
              cases r7
              dsimp only at q5'
              by_cases hk : k2 = k
              · rw [if_pos hk] at q5'
                subst hk
                obtain ⟨hj1, hj2⟩ := idxI_at zj
                refine ⟨p, ns.map V.int, .int k2, j, .int k2, rfl, rfl, sqT_frz hp10, rfl, flat_ints ns, by rw [List.getElem?_map, hj1]; rfl, (by show (k2 == k2) = true; simp), fun m z' hm hz => ?_, ?_⟩
                · rw [List.getElem?_map] at hz
                  cases w' : ns[m]? with
                  | none => rw [w'] at hz; cases hz
                  | some n =>
                    rw [w'] at hz
                    cases hz
                    have : n ≠ k2 := fun q => hj2 m hm (by rw [w', q])
                    show (n == k2) = false
                    simp [this]
                · cases zx : idxF d6 (.int (j : Nat)) with
                  | exc x => rw [zx] at q5'; exact q5'.elim
                  | bad => rw [zx] at q5'; exact q5'.elim
                  | ok d8 =>
                    rw [zx] at q5'
                    dsimp only at q5'
                    refine o_idxF S10 H10 v6 (.int (j : Nat)) d6 (.int (j : Nat)) d8 _ g10.lk.sub (r6.up g10.adv.ss) (.int _) zx fun v8 S11 H11 ad11 r8 => ?_
                    have g11 : Go S10 H10 τ ρ10 S11 H11 τ ρ10 := .of0 g10.lk ad11
                    have q6 := Post.s g11 q5'
                    refine ⟨S11, [d5, d8], g11.lk.sub, .cons (r5.up (g9.adv.ss.trans (g10.adv.ss.trans g11.adv.ss))) (.cons r8 .nil), rfl, ?_⟩
                    cases zb : F_box_in [d5, d8] with
                    | bad => rw [zb] at q6; exact q6.elim
                    | exc x =>
                      rw [zb] at q6
                      exact fun cls dd S12 H12 ad12 xo => q6 cls dd S12 H12 τ rfl ad12.any xo
                    | ok b =>
                      rw [zb] at q6
                      intro v9 S12 H12 ad12 r9
                      have g12' : Go S11 H11 τ ρ10 S12 H12 τ ρ10 := .of0 g11.lk ad12
                      have q7 : Post C (fun cls d _ H => E cls d H) S11 H11 τ ρ10 (cutR (ρ10.set 6 (.val b))) (KS S11 H11 τ ρ10 Dn) := q6
                      have g13 := g12'.setV (i := 6) r9
                      exact ⟨S12, _, g13.lk, Post.s g13 q7⟩
              · rw [if_neg hk] at q5'; exact q5'.elim
            | _ => exact q5'.elim
        | _ => exact q2'.elim
end
end GN

set_option Elab.async false
set_option linter.all false
set_option maxRecDepth 100000
set_option maxHeartbeats 8000000
/-! PB: picture, by hand: a list of lists that are written. -/
namespace GN
open PySem PySem.Spec PyProof.Rows L2
theorem Post.nn {α β : Type} {C : XC} {W : WX} {S H : Hp} {σ : St} {ρ : En} {r : Res α} {f : α → Res (β × En)} {K : β → En → Prop} (h : Post C W S H σ ρ (r.bindN f) K) : ∃ a, r = .ok a ∧ Post C W S H σ ρ (f a) K := by
  cases r with
  | ok a => exact ⟨a, rfl, h⟩
  | exc x => exact h.elim
  | bad => exact h.elim
theorem Post.ite {β : Type} {C : XC} {W : WX} {S H : Hp} {σ : St} {ρ : En} {c : Bool} {r : Res (β × En)} {K : β → En → Prop} (h : Post C W S H σ ρ (if c then r else .bad) K) : c = true ∧ Post C W S H σ ρ r K := by
  cases c with
  | true => exact ⟨rfl, h⟩
  | false => exact h.elim
section
variable {P : Program} {w : World} {K : PySem.W.Frag} {mg : Str → Option Value} {base : Heap} {C : XC}
abbrev s_picture : Stmt := top 36
abbrev N_picture : List Str := ["chart", "lot", "standing", "view", "scale", "frame", "rows", "own", "shape", "name", "place", "sign", "row", "_", "west", "north", "east", "south", "column"]
theorem sc_picture : FnScope N_picture ["chart", "lot", "standing", "view", "scale"] (defScope s_picture) := ⟨rfl, rfl, rfl, by decide +kernel, rfl, by decide +kernel, by decide +kernel⟩
def picI : LF := iRange1 (aCons (eOp idxF (eVar 8) (eC (.int 3))) aNil)
def picR : LF := oRepL (eLst (aCons (eC (.str ".")) aNil)) (eOp idxF (eVar 8) (eC (.int 2)))
def picZ : LF := iZipF (aCons (eFn 1 F_tuple_of (aCons (eVar 1) aNil)) (aCons (eFn 1 F_tuple_of (aCons (eVar 2) aNil)) aNil))
def picG : GF := gT 2 (gsC (gN 9) (gsC (gN 10) gsN))
def picB : EF := eFn 2 F_box_in (aCons (eOp idxF (eVar 7) (eVar 9)) (aCons (eVar 10) aNil))
def picH : GF := gT 4 (gsC (gN 14) (gsC (gN 15) (gsC (gN 16) (gsC (gN 17) gsN))))
def picS : EF := eIf (tB1 (eOp ltI (eVar 9) (eCall lenF (aCons (eC c_SIGNS) aNil)))) (eOp idxF (eC c_SIGNS) (eVar 9)) (eC (.str "+"))
def picY : LF := iSeq (eFn 4 F_cells_between (aCons (eVar 15) (aCons (eVar 17) (aCons (eOp idxF (eVar 5) (eC (.int 1))) (aCons (eOp idxF (eVar 8) (eC (.int 3))) aNil)))))
def picX : LF := iSeq (eFn 4 F_cells_between (aCons (eVar 14) (aCons (eVar 16) (aCons (eOp idxF (eVar 5) (eC (.int 0))) (aCons (eOp idxF (eVar 8) (eC (.int 2))) aNil)))))
def picE : SF := sRet (eCall tupleF (aCons (eFz (oLc (iSeq (eVar 6)) (gN 12) tYesF (eJoin "" (eVar 12)) [12])) aNil))
def sPicT : SF := fun ρ => (picI ρ).bindN fun a => if few a.1.length && decide (6 < a.2.length) then (lcG (gN 13) picR [13] a.1 (wipeR a.2 [13])).bindN fun r => (picZ ((restR a.2 r.2 [13]).set 6 .no)).bindN fun z =>
  (nameG picG picB picH picS 11 12 18 picY picX z.1 z.2 r.1).bindN fun e => if decide (6 < e.1.length) then picE (e.1.set 6 (.val (.list (e.2.map PyData.list)))) else .bad else .bad
def m_picture : SF :=
  (sSeq (sTup [7, 8] (csC (cV (eFn 1 F_tuple_of (aCons (eVar 0) aNil))) (csC (cV (eFn 1 F_tuple_of (aCons (eVar 3) aNil))) csN)))
  (sSeq (sIf (tB1 (eOp gtI (eOp mulF (eOp idxF (eVar 8) (eC (.int 2))) (eOp idxF (eVar 8) (eC (.int 3)))) (eC c_MOST_CELLS))) sTm sSkip)
  (sSeq (sSet 5 (eFn 2 F_window_in (aCons (eVar 8) (aCons (eFn 1 F_tuple_of (aCons (eVar 4) aNil)) aNil)))) sPicT)))
def F_picture : List D → Res D := runD 19 m_picture
theorem b_picture {f : Addr} (T : Tx K mg C)
    (c_tuple_of : Cal P w K mg base 9 "tuple_of" ["thing"] (spD C 1 F_tuple_of))
    (c_window_in : Cal P w K mg base 2 "window_in" ["view", "scale"] (spD C 2 F_window_in))
    (c_box_in : Cal P w K mg base 3 "box_in" ["name", "place"] (spD C 2 F_box_in))
    (c_cells_between : Cal P w K mg base 3 "cells_between" ["first", "last", "begin", "many"] (spD C 4 F_cells_between)) : BodyOk P w K mg base C 9 "picture" s_picture N_picture f (m_picture) := by
  intro cdv A outer s H E hr
  have tk : Takes (cxOf (L2.CX P w) P w K mg base N_picture "picture" (defScope s_picture) f cdv A outer s H E) (fun cls d _ H => E cls d H) := takes_of rfl rfl rfl rfl
  have tail : PSSD (cxOf (L2.CX P w) P w K mg base N_picture "picture" (defScope s_picture) f cdv A outer s H E) C (fun cls d _ H => E cls d H) ((defBody s_picture).drop 3) sPicT := by
    refine PSs.imp (pss_cons (ps_setLc (i := 6) (own := [("_", 13)]) rfl sc_picture.nd rfl rfl (sw_true rfl rfl rfl (by decide +kernel)) (pi_r1 (C := C) (W := fun cls d _ H => E cls d H) T.z_range (pad_cons (pd_ix (pd_v 8) pd_int) pad_nil)) (blkOk_by (N := N_picture) (sc := defScope s_picture) (by decide +kernel))
        (fun _ _ _ _ _ => pg_n (vs := [13]) 13 sc_picture.nd) (fun _ _ _ _ _ => pts_0 (C := C) (W := W0)) (fun _ _ _ _ _ => pod_rep (C := C) (W := W0) (pd_lst (pad_cons pd_str pad_nil)) (pd_ix (pd_v 8) pd_int)))
      (pss_cons (ps_for (passes_of rfl) rfl (pi_z (C := C) (W := fun cls d _ H => E cls d H) T.z_zip (pad_cons (pd_fn c_tuple_of hr tk (pad_cons (pd_v 1) pad_nil)) (pad_cons (pd_fn c_tuple_of hr tk (pad_cons (pd_v 2) pad_nil)) pad_nil)))
          (pg_t (vs := [9, 10]) (pgs_c (pg_n 9 sc_picture.nd) (pgs_c (pg_n 10 sc_picture.nd) pgs_n)))
          (pss_cons (ps_asg (pd_fn (C := C) (W := fun cls d _ H => E cls d H) c_box_in hr tk (pad_cons (pd_ix (pd_v 7) (pd_v 9)) (pad_cons (pd_v 10) pad_nil))) (pg_t (vs := [14, 15, 16, 17]) (pgs_c (pg_n 14 sc_picture.nd) (pgs_c (pg_n 15 sc_picture.nd) (pgs_c (pg_n 16 sc_picture.nd) (pgs_c (pg_n 17 sc_picture.nd) pgs_n))))))
          (pss_cons (ps_set (i := 11) sc_picture.nd rfl (Or.inl rfl) (pd_if (C := C) (W := fun cls d _ H => E cls d H) (pt_c op_lt o_ltI (pd_v 9) (pd_cb call_len o_lenF T.z_len PySem.boot_len (pad_cons (pd_gS2 T.g_SIGNS) pad_nil))) (pd_ix (pd_gS2 T.g_SIGNS) (pd_v 9)) pd_str))
          (pss_one (ps_for (passes_of rfl) rfl (pi_s (C := C) (W := fun cls d _ H => E cls d H) (pd_fn c_cells_between hr tk (pad_cons (pd_v 15) (pad_cons (pd_v 17) (pad_cons (pd_ix (pd_v 5) pd_int) (pad_cons (pd_ix (pd_v 8) pd_int) pad_nil)))))) (pg_name (i := 12) sc_picture.nd rfl (Or.inl rfl))
            (pss_one (ps_for (passes_of rfl) rfl (pi_s (C := C) (W := fun cls d _ H => E cls d H) (pd_fn c_cells_between hr tk (pad_cons (pd_v 14) (pad_cons (pd_v 16) (pad_cons (pd_ix (pd_v 5) pd_int) (pad_cons (pd_ix (pd_v 8) pd_int) pad_nil)))))) (pg_name (i := 18) sc_picture.nd rfl (Or.inl rfl))
              (pss_one (ps_asg (pd_v (C := C) (W := fun cls d _ H => E cls d H) 11) (pg_sub (pe_ix ix_list (pe_var (i := 6) rfl (Or.inl rfl) (by decide) (by decide)) (pd_v (C := C) (W := fun cls d _ H => E cls d H) 12) (fun _ _ => rfl)) (pd_v (C := C) (W := fun cls d _ H => E cls d H) 18) set_list))))))))))
      (pss_1 (ps_r (C := C) (W := fun cls d _ H => E cls d H) (pd_ct call_tuple_of o_tupleF T.z_tuple boot_tuple (pad_cons (pd_fz (pod_lc (own := [("row", 12)]) sc_picture.nd (pi_s (pd_v 6)) (blkOk_by (N := N_picture) (sc := defScope s_picture) (by decide +kernel)) (fun _ _ _ _ _ => (pg_n 12 sc_picture.nd)) (fun _ _ _ _ _ => pts_0) (fun _ _ _ _ _ => (pd_join (pd_v 12))))) pad_nil)))))) fun Dn σ H0 ⟨S, ρ, L, p⟩ => ?_
    unfold sPicT at p
    obtain ⟨⟨ds, ρ1⟩, e1, p⟩ := Post.nn p
    obtain ⟨hc, p⟩ := Post.ite p
    obtain ⟨hf, h6⟩ := Bool.and_eq_true_iff.mp hc
    obtain ⟨⟨ls, ρ2⟩, e2, p⟩ := Post.nn p
    obtain ⟨⟨zs, ρ3⟩, e3, p⟩ := Post.nn p
    obtain ⟨⟨ρ4, ls4⟩, e4, p⟩ := Post.nn p
    obtain ⟨h6e, p⟩ := Post.ite p
    refine ⟨S, ρ, L, ?_⟩
    rw [show iRange1 (aCons (eOp idxF (eVar 8) (eC (.int 3))) aNil) ρ = .ok (ds, ρ1) from e1]
    intro J S1 H1 g1 ok1
    refine lcG_of (i := 6) (lse := ls) (ρe := ρ2) g1 ok1 (by rw [← g1.lk.len]; exact of_decide_eq_true h6) hf e2 fun S2 H2 q qs P2 => ?_
    refine ⟨S2, _, P2.go.lk, ?_⟩
    rw [show iZipF (aCons (eFn 1 F_tuple_of (aCons (eVar 1) aNil)) (aCons (eFn 1 F_tuple_of (aCons (eVar 2) aNil)) aNil)) ((restR ρ1 ρ2 [13]).set 6 .no) = .ok (zs, ρ3) from e3]
    intro J3 S3 H3 g3 ok3
    have P3 := P2.step g3 rfl
    refine name_of (K := K) (C := C) (W := fun cls d _ H => E cls d H) (is := 11) (ir := 12) (ic := 18) (i := 6) (vs2 := [9, 10]) (vs4 := [14, 15, 16, 17]) (by decide) (by decide) (by decide) (by decide) (by decide) ok3 P3 e4 fun S4 H4 σ4 s4 P4 => ?_
    obtain ⟨S5, s5, g5⟩ := P4.freeze (of_decide_eq_true h6e)
    exact ⟨S5, _, g5.lk, Post.s g5 p⟩
  exact (pss_c (ps_tg [7, 8] (pcs_c (pc_v (pd_fn c_tuple_of hr tk (pad_cons (pd_v 0) pad_nil))) (pcs_c (pc_v (pd_fn c_tuple_of hr tk (pad_cons (pd_v 3) pad_nil))) pcs_n)) (pgn_c 7 (pgn_c 8 pgn_n sc_picture.nd) sc_picture.nd))
    (pss_c (ps_i (pt_c op_gt o_gtI (pd_mul (pd_ix (pd_v 8) pd_int) (pd_ix (pd_v 8) pd_int)) (pd_gI2 T.g_MOST_CELLS))
    (pss_1 (ps_tm T.tm tk))
    pss_n)
    (pss_c (ps_s 5 (pd_fn c_window_in hr tk (pad_cons (pd_v 8) (pad_cons (pd_fn c_tuple_of hr tk (pad_cons (pd_v 4) pad_nil)) pad_nil))) sc_picture.nd) tail)))
end
end GN

set_option Elab.async false
set_option linter.all false
set_option maxRecDepth 100000
set_option maxHeartbeats 8000000
namespace GN
open PySem PySem.Spec PyProof.Rows L2
section
variable {P : Program} {w : World} {K : PySem.W.Frag} {mg : Str → Option Value} {base : Heap} {C : XC}
abbrev s_law_part : Stmt := top 52
abbrev N_law_part : List Str := ["_law_top", "_law_below", "_law_one", "_law_two"]
theorem sc_law_part : FnScope N_law_part ["_law_top", "_law_below"] (defScope s_law_part) := ⟨rfl, rfl, rfl, by decide +kernel, rfl, by decide +kernel, by decide +kernel⟩
def m_law_part : SF :=
  (sSeq (sTup [2, 3] (csC (cV (eCall absF (aCons (eVar 0) aNil))) (csC (cV (eCall absF (aCons (eVar 1) aNil))) csN))) (sSeq (sWh (fuelI 3) (tB1 (eOp neF (eVar 3) (eC (.int 0)))) (sTup [2, 3] (csC (cV (eVar 3)) (csC (cV (eOp modI (eVar 2) (eVar 3))) csN)))) (sRet (eIf (tB1 (eOp gtI (eVar 1) (eC (.int 0)))) (eTup (aCons (eOp fdivI (eVar 0) (eVar 2)) (aCons (eOp fdivI (eVar 1) (eVar 2)) aNil))) (eTup (aCons (eOp fdivI (eNeg (eVar 0)) (eVar 2)) (aCons (eOp fdivI (eNeg (eVar 1)) (eVar 2)) aNil)))))))
def F_law_part : List D → Res D := runD 4 m_law_part
theorem b_law_part  {f : Addr} (T : Tx K mg C) : BodyOk P w K mg base C 0 "_law_part" s_law_part N_law_part f (m_law_part) := by
  intro cdv A outer s H E hr
  have tk : Takes (cxOf (L2.CX P w) P w K mg base N_law_part "_law_part" (defScope s_law_part) f cdv A outer s H E) (fun cls d _ H => E cls d H) := takes_of rfl rfl rfl rfl
  exact (pss_c (ps_t2 2 3 (pcs_c (pc_v (pd_cb call_abs o_absF T.z_abs boot_abs (pad_cons (pd_v 0) pad_nil))) (pcs_c (pc_v (pd_cb call_abs o_absF T.z_abs boot_abs (pad_cons (pd_v 1) pad_nil))) pcs_n)) sc_law_part.nd rfl)
    (pss_c (ps_w (fuelI 3) (pt_c (op_neD hr.units) o_neF (pd_v 3) pd_int)
    (pss_1 (ps_t2 2 3 (pcs_c (pc_v (pd_v 3)) (pcs_c (pc_v (pd_mod (pd_v 2) (pd_v 3))) pcs_n)) sc_law_part.nd rfl)) (passes_of rfl))
    (pss_1 (ps_r (pd_if (pt_c op_gt o_gtI (pd_v 1) pd_int) (pd_tup (pad_cons (pd_fdiv (pd_v 0) (pd_v 2)) (pad_cons (pd_fdiv (pd_v 1) (pd_v 2)) pad_nil))) (pd_tup (pad_cons (pd_fdiv (pd_neg (pd_v 0)) (pd_v 2)) (pad_cons (pd_fdiv (pd_neg (pd_v 1)) (pd_v 2)) pad_nil))))))))

abbrev s_law_plus : Stmt := top 53
abbrev N_law_plus : List Str := ["_law_one", "_law_two"]
theorem sc_law_plus : FnScope N_law_plus ["_law_one", "_law_two"] (defScope s_law_plus) := ⟨rfl, rfl, rfl, by decide +kernel, rfl, by decide +kernel, by decide +kernel⟩
def m_law_plus : SF :=
  (sRet (eFn 2 F_law_part (aCons (eOp addF (eOp mulF (eOp idxF (eVar 0) (eC (.int 0))) (eOp idxF (eVar 1) (eC (.int 1)))) (eOp mulF (eOp idxF (eVar 1) (eC (.int 0))) (eOp idxF (eVar 0) (eC (.int 1))))) (aCons (eOp mulF (eOp idxF (eVar 0) (eC (.int 1))) (eOp idxF (eVar 1) (eC (.int 1)))) aNil))))
def F_law_plus : List D → Res D := runD 2 m_law_plus
theorem b_law_plus  {f : Addr} (T : Tx K mg C)
    (c_law_part : Cal P w K mg base 1 "_law_part" ["_law_top", "_law_below"] (spD C 2 F_law_part)) : BodyOk P w K mg base C 1 "_law_plus" s_law_plus N_law_plus f (m_law_plus) := by
  intro cdv A outer s H E hr
  have tk : Takes (cxOf (L2.CX P w) P w K mg base N_law_plus "_law_plus" (defScope s_law_plus) f cdv A outer s H E) (fun cls d _ H => E cls d H) := takes_of rfl rfl rfl rfl
  exact (pss_1 (ps_r (pd_fn c_law_part hr tk (pad_cons (pd_add (pd_mul (pd_ix (pd_v 0) pd_int) (pd_ix (pd_v 1) pd_int)) (pd_mul (pd_ix (pd_v 1) pd_int) (pd_ix (pd_v 0) pd_int))) (pad_cons (pd_mul (pd_ix (pd_v 0) pd_int) (pd_ix (pd_v 1) pd_int)) pad_nil)))))

abbrev s_law_minus : Stmt := top 54
abbrev N_law_minus : List Str := ["_law_one", "_law_two"]
theorem sc_law_minus : FnScope N_law_minus ["_law_one", "_law_two"] (defScope s_law_minus) := ⟨rfl, rfl, rfl, by decide +kernel, rfl, by decide +kernel, by decide +kernel⟩
def m_law_minus : SF :=
  (sRet (eFn 2 F_law_part (aCons (eOp subI (eOp mulF (eOp idxF (eVar 0) (eC (.int 0))) (eOp idxF (eVar 1) (eC (.int 1)))) (eOp mulF (eOp idxF (eVar 1) (eC (.int 0))) (eOp idxF (eVar 0) (eC (.int 1))))) (aCons (eOp mulF (eOp idxF (eVar 0) (eC (.int 1))) (eOp idxF (eVar 1) (eC (.int 1)))) aNil))))
def F_law_minus : List D → Res D := runD 2 m_law_minus
theorem b_law_minus  {f : Addr} (T : Tx K mg C)
    (c_law_part : Cal P w K mg base 1 "_law_part" ["_law_top", "_law_below"] (spD C 2 F_law_part)) : BodyOk P w K mg base C 1 "_law_minus" s_law_minus N_law_minus f (m_law_minus) := by
  intro cdv A outer s H E hr
  have tk : Takes (cxOf (L2.CX P w) P w K mg base N_law_minus "_law_minus" (defScope s_law_minus) f cdv A outer s H E) (fun cls d _ H => E cls d H) := takes_of rfl rfl rfl rfl
  exact (pss_1 (ps_r (pd_fn c_law_part hr tk (pad_cons (pd_sub (pd_mul (pd_ix (pd_v 0) pd_int) (pd_ix (pd_v 1) pd_int)) (pd_mul (pd_ix (pd_v 1) pd_int) (pd_ix (pd_v 0) pd_int))) (pad_cons (pd_mul (pd_ix (pd_v 0) pd_int) (pd_ix (pd_v 1) pd_int)) pad_nil)))))

abbrev s_law_times : Stmt := top 55
abbrev N_law_times : List Str := ["_law_one", "_law_two"]
theorem sc_law_times : FnScope N_law_times ["_law_one", "_law_two"] (defScope s_law_times) := ⟨rfl, rfl, rfl, by decide +kernel, rfl, by decide +kernel, by decide +kernel⟩
def m_law_times : SF :=
  (sRet (eFn 2 F_law_part (aCons (eOp mulF (eOp idxF (eVar 0) (eC (.int 0))) (eOp idxF (eVar 1) (eC (.int 0)))) (aCons (eOp mulF (eOp idxF (eVar 0) (eC (.int 1))) (eOp idxF (eVar 1) (eC (.int 1)))) aNil))))
def F_law_times : List D → Res D := runD 2 m_law_times
theorem b_law_times  {f : Addr} (T : Tx K mg C)
    (c_law_part : Cal P w K mg base 1 "_law_part" ["_law_top", "_law_below"] (spD C 2 F_law_part)) : BodyOk P w K mg base C 1 "_law_times" s_law_times N_law_times f (m_law_times) := by
  intro cdv A outer s H E hr
  have tk : Takes (cxOf (L2.CX P w) P w K mg base N_law_times "_law_times" (defScope s_law_times) f cdv A outer s H E) (fun cls d _ H => E cls d H) := takes_of rfl rfl rfl rfl
  exact (pss_1 (ps_r (pd_fn c_law_part hr tk (pad_cons (pd_mul (pd_ix (pd_v 0) pd_int) (pd_ix (pd_v 1) pd_int)) (pad_cons (pd_mul (pd_ix (pd_v 0) pd_int) (pd_ix (pd_v 1) pd_int)) pad_nil)))))

abbrev s_law_less : Stmt := top 56
abbrev N_law_less : List Str := ["_law_one", "_law_two"]
theorem sc_law_less : FnScope N_law_less ["_law_one", "_law_two"] (defScope s_law_less) := ⟨rfl, rfl, rfl, by decide +kernel, rfl, by decide +kernel, by decide +kernel⟩
def m_law_less : SF :=
  (sRet (eOp ltI (eOp mulF (eOp idxF (eVar 0) (eC (.int 0))) (eOp idxF (eVar 1) (eC (.int 1)))) (eOp mulF (eOp idxF (eVar 1) (eC (.int 0))) (eOp idxF (eVar 0) (eC (.int 1))))))
def F_law_less : List D → Res D := runD 2 m_law_less
theorem b_law_less  {f : Addr} (T : Tx K mg C) : BodyOk P w K mg base C 0 "_law_less" s_law_less N_law_less f (m_law_less) := by
  intro cdv A outer s H E hr
  have tk : Takes (cxOf (L2.CX P w) P w K mg base N_law_less "_law_less" (defScope s_law_less) f cdv A outer s H E) (fun cls d _ H => E cls d H) := takes_of rfl rfl rfl rfl
  exact (pss_1 (ps_r (pd_cmp op_lt o_ltI (pd_mul (pd_ix (pd_v 0) pd_int) (pd_ix (pd_v 1) pd_int)) (pd_mul (pd_ix (pd_v 1) pd_int) (pd_ix (pd_v 0) pd_int)))))

abbrev s_law_frame : Stmt := top 57
abbrev N_law_frame : List Str := ["_law_chart", "_law_k", "_law_spot"]
theorem sc_law_frame : FnScope N_law_frame ["_law_chart", "_law_k", "_law_spot"] (defScope s_law_frame) := ⟨rfl, rfl, rfl, by decide +kernel, rfl, by decide +kernel, by decide +kernel⟩
def m_law_frame : SF :=
  (sRet (eTup (aCons (eOp idxF (eVar 2) (eC (.int 0))) (aCons (eOp idxF (eVar 2) (eC (.int 1))) (aCons (eFn 2 F_law_plus (aCons (eOp idxF (eVar 2) (eC (.int 0))) (aCons (eTup (aCons (eOp idxF (eOp idxF (eVar 0) (eVar 1)) (eC (.int 0))) (aCons (eC (.int 1)) aNil))) aNil))) (aCons (eFn 2 F_law_plus (aCons (eOp idxF (eVar 2) (eC (.int 1))) (aCons (eTup (aCons (eOp idxF (eOp idxF (eVar 0) (eVar 1)) (eC (.int 1))) (aCons (eC (.int 1)) aNil))) aNil))) aNil))))))
def F_law_frame : List D → Res D := runD 3 m_law_frame
theorem b_law_frame  {f : Addr} (T : Tx K mg C)
    (c_law_plus : Cal P w K mg base 2 "_law_plus" ["_law_one", "_law_two"] (spD C 2 F_law_plus)) : BodyOk P w K mg base C 2 "_law_frame" s_law_frame N_law_frame f (m_law_frame) := by
  intro cdv A outer s H E hr
  have tk : Takes (cxOf (L2.CX P w) P w K mg base N_law_frame "_law_frame" (defScope s_law_frame) f cdv A outer s H E) (fun cls d _ H => E cls d H) := takes_of rfl rfl rfl rfl
  exact (pss_1 (ps_r (pd_tup (pad_cons (pd_ix (pd_v 2) pd_int) (pad_cons (pd_ix (pd_v 2) pd_int) (pad_cons (pd_fn c_law_plus hr tk (pad_cons (pd_ix (pd_v 2) pd_int) (pad_cons (pd_tup (pad_cons (pd_ix (pd_ix (pd_v 0) (pd_v 1)) pd_int) (pad_cons pd_int pad_nil))) pad_nil))) (pad_cons (pd_fn c_law_plus hr tk (pad_cons (pd_ix (pd_v 2) pd_int) (pad_cons (pd_tup (pad_cons (pd_ix (pd_ix (pd_v 0) (pd_v 1)) pd_int) (pad_cons pd_int pad_nil))) pad_nil))) pad_nil)))))))

abbrev s_law_pane : Stmt := top 58
abbrev N_law_pane : List Str := ["_law_look_here", "_law_at", "_law_x", "_law_y", "_law_wide", "_law_high"]
theorem sc_law_pane : FnScope N_law_pane ["_law_look_here", "_law_at"] (defScope s_law_pane) := ⟨rfl, rfl, rfl, by decide +kernel, rfl, by decide +kernel, by decide +kernel⟩
def m_law_pane : SF :=
  (sSeq (sTup [2, 3] (csC (cV (eFn 2 F_law_times (aCons (eVar 1) (aCons (eTup (aCons (eOp idxF (eVar 0) (eC (.int 0))) (aCons (eC (.int 1)) aNil))) aNil)))) (csC (cV (eFn 2 F_law_times (aCons (eVar 1) (aCons (eTup (aCons (eOp idxF (eVar 0) (eC (.int 1))) (aCons (eC (.int 1)) aNil))) aNil)))) csN))) (sSeq (sTup [4, 5] (csC (cV (eFn 2 F_law_part (aCons (eOp idxF (eVar 0) (eC (.int 2))) (aCons (eC (.int 2)) aNil)))) (csC (cV (eFn 2 F_law_part (aCons (eOp idxF (eVar 0) (eC (.int 3))) (aCons (eC (.int 2)) aNil)))) csN))) (sRet (eTup (aCons (eFn 2 F_law_minus (aCons (eVar 2) (aCons (eVar 4) aNil))) (aCons (eFn 2 F_law_minus (aCons (eVar 3) (aCons (eVar 5) aNil))) (aCons (eFn 2 F_law_plus (aCons (eVar 2) (aCons (eVar 4) aNil))) (aCons (eFn 2 F_law_plus (aCons (eVar 3) (aCons (eVar 5) aNil))) aNil))))))))
def F_law_pane : List D → Res D := runD 6 m_law_pane
theorem b_law_pane  {f : Addr} (T : Tx K mg C)
    (c_law_part : Cal P w K mg base 1 "_law_part" ["_law_top", "_law_below"] (spD C 2 F_law_part))
    (c_law_plus : Cal P w K mg base 2 "_law_plus" ["_law_one", "_law_two"] (spD C 2 F_law_plus))
    (c_law_minus : Cal P w K mg base 2 "_law_minus" ["_law_one", "_law_two"] (spD C 2 F_law_minus))
    (c_law_times : Cal P w K mg base 2 "_law_times" ["_law_one", "_law_two"] (spD C 2 F_law_times)) : BodyOk P w K mg base C 2 "_law_pane" s_law_pane N_law_pane f (m_law_pane) := by
  intro cdv A outer s H E hr
  have tk : Takes (cxOf (L2.CX P w) P w K mg base N_law_pane "_law_pane" (defScope s_law_pane) f cdv A outer s H E) (fun cls d _ H => E cls d H) := takes_of rfl rfl rfl rfl
  exact (pss_c (ps_t2 2 3 (pcs_c (pc_v (pd_fn c_law_times hr tk (pad_cons (pd_v 1) (pad_cons (pd_tup (pad_cons (pd_ix (pd_v 0) pd_int) (pad_cons pd_int pad_nil))) pad_nil)))) (pcs_c (pc_v (pd_fn c_law_times hr tk (pad_cons (pd_v 1) (pad_cons (pd_tup (pad_cons (pd_ix (pd_v 0) pd_int) (pad_cons pd_int pad_nil))) pad_nil)))) pcs_n)) sc_law_pane.nd rfl)
    (pss_c (ps_t2 4 5 (pcs_c (pc_v (pd_fn c_law_part hr tk (pad_cons (pd_ix (pd_v 0) pd_int) (pad_cons pd_int pad_nil)))) (pcs_c (pc_v (pd_fn c_law_part hr tk (pad_cons (pd_ix (pd_v 0) pd_int) (pad_cons pd_int pad_nil)))) pcs_n)) sc_law_pane.nd rfl)
    (pss_1 (ps_r (pd_tup (pad_cons (pd_fn c_law_minus hr tk (pad_cons (pd_v 2) (pad_cons (pd_v 4) pad_nil))) (pad_cons (pd_fn c_law_minus hr tk (pad_cons (pd_v 3) (pad_cons (pd_v 5) pad_nil))) (pad_cons (pd_fn c_law_plus hr tk (pad_cons (pd_v 2) (pad_cons (pd_v 4) pad_nil))) (pad_cons (pd_fn c_law_plus hr tk (pad_cons (pd_v 3) (pad_cons (pd_v 5) pad_nil))) pad_nil)))))))))

abbrev s_law_row_map : Stmt := top 59
abbrev N_law_row_map : List Str := ["_law_own"]
theorem sc_law_row_map : FnScope N_law_row_map [] (defScope s_law_row_map) := ⟨rfl, rfl, rfl, by decide +kernel, rfl, by decide +kernel, by decide +kernel⟩
def m_law_row_map : SF :=
  (sRet (eCall tupleF (aCons (eFz (oLc (iSeq (eTup (aCons (eC (.int 0)) (aCons (eC (.int 3)) (aCons (eC (.int 6)) aNil))))) (gN 0) tYesF (eTup (aCons (eC (.int 4)) (aCons (eC (.int 1)) (aCons (eTup (aCons (eVar 0) (aCons (eC (.int 2)) (aCons (eVar 0) (aCons (eC (.int 2)) aNil))))) (aCons (eTup (aCons (eC (.int 0)) (aCons (eC (.int 0)) (aCons (eC (.int 0)) (aCons (eC (.int 0)) aNil))))) aNil))))) [0])) aNil)))
def F_law_row_map : List D → Res D := runD 1 m_law_row_map
theorem b_law_row_map  {f : Addr} (T : Tx K mg C) : BodyOk P w K mg base C 0 "_law_row_map" s_law_row_map N_law_row_map f (m_law_row_map) := by
  intro cdv A outer s H E hr
  have tk : Takes (cxOf (L2.CX P w) P w K mg base N_law_row_map "_law_row_map" (defScope s_law_row_map) f cdv A outer s H E) (fun cls d _ H => E cls d H) := takes_of rfl rfl rfl rfl
  exact (pss_1 (ps_r (pd_ct call_tuple_of o_tupleF T.z_tuple boot_tuple (pad_cons (pd_fz (pod_lc (own := [("_law_own", 0)]) sc_law_row_map.nd (pi_s (pd_tup (pad_cons pd_int (pad_cons pd_int (pad_cons pd_int pad_nil))))) (blkOk_by (N := N_law_row_map) (sc := defScope s_law_row_map) (by decide +kernel)) (fun _ _ _ _ _ => (pg_n 0 sc_law_row_map.nd)) (fun _ _ _ _ _ => pts_0) (fun _ _ _ _ _ => (pd_tup (pad_cons pd_int (pad_cons pd_int (pad_cons (pd_tup (pad_cons (pd_v 0) (pad_cons pd_int (pad_cons (pd_v 0) (pad_cons pd_int pad_nil))))) (pad_cons (pd_tup (pad_cons pd_int (pad_cons pd_int (pad_cons pd_int (pad_cons pd_int pad_nil))))) pad_nil)))))))) pad_nil))))

abbrev s_law_look : Stmt := top 60
abbrev N_law_look : List Str := ["_law_tin"]
theorem sc_law_look : FnScope N_law_look ["_law_tin"] (defScope s_law_look) := ⟨rfl, rfl, rfl, by decide +kernel, rfl, by decide +kernel, by decide +kernel⟩
def m_law_look : SF :=
  (sRet (eTup (aCons (eOp subI (eFnM 0 1 F_law_take (aCons (eC (.int 7)) aNil)) (eC (.int 2))) (aCons (eOp subI (eFnM 0 1 F_law_take (aCons (eC (.int 5)) aNil)) (eC (.int 1))) (aCons (eOp addF (eC (.int 1)) (eFnM 0 1 F_law_take (aCons (eC (.int 12)) aNil))) (aCons (eOp addF (eC (.int 1)) (eFnM 0 1 F_law_take (aCons (eC (.int 6)) aNil))) aNil))))))
def F_law_look : List D → List D → Res (D × List D) := runM 1 m_law_look
theorem b_law_look  {f : Addr} (T : Tx K mg C)
    (c_law_take : Cal P w K mg base 1 "_law_take" ["_law_urn", "_law_low_so"] (spM C 1 F_law_take)) : BodyOk P w K mg base C 1 "_law_look" s_law_look N_law_look f (m_law_look) := by
  intro cdv A outer s H E hr
  have tk : Takes (cxOf (L2.CX P w) P w K mg base N_law_look "_law_look" (defScope s_law_look) f cdv A outer s H E) (fun cls d _ H => E cls d H) := takes_of rfl rfl rfl rfl
  exact (pss_1 (ps_r (pd_tup (pad_cons (pd_sub (pd_fnM 0 c_law_take hr tk (pad_cons pd_int pad_nil)) pd_int) (pad_cons (pd_sub (pd_fnM 0 c_law_take hr tk (pad_cons pd_int pad_nil)) pd_int) (pad_cons (pd_add pd_int (pd_fnM 0 c_law_take hr tk (pad_cons pd_int pad_nil))) (pad_cons (pd_add pd_int (pd_fnM 0 c_law_take hr tk (pad_cons pd_int pad_nil))) pad_nil)))))))

end
end GN

set_option Elab.async false
set_option linter.all false
set_option maxRecDepth 100000
set_option maxHeartbeats 8000000
namespace GN
open PySem PySem.Spec PyProof.Rows L2
section
variable {P : Program} {w : World} {K : PySem.W.Frag} {mg : Str → Option Value} {base : Heap} {C : XC}
abbrev s_law_glide_drawn : Stmt := top 61
abbrev N_law_glide_drawn : List Str := ["_law_tin", "_law_many", "_law_chart", "_law_tops", "_law_scales", "_law_comes", "_law_book", "_law_pairs", "_law_at", "_law_k", "_law_own", "_law_x", "_law_spots_here"]
theorem sc_law_glide_drawn : FnScope N_law_glide_drawn ["_law_tin"] (defScope s_law_glide_drawn) := ⟨rfl, rfl, rfl, by decide +kernel, rfl, by decide +kernel, by decide +kernel⟩
def m_law_glide_drawn : SF :=
  (sSeq (sSet 1 (eOp addF (eC (.int 1)) (eFnM 0 1 F_law_take (aCons (eC (.int 4)) aNil)))) (sSeq (sSet 2 (eCall tupleF (aCons (eFz (oLc (iRange1 (aCons (eVar 1) aNil)) (gN 9) tYesF (eTup (aCons (eOp addF (eC (.int 1)) (eFnM 0 1 F_law_take (aCons (eC (.int 4)) aNil))) (aCons (eOp addF (eC (.int 1)) (eFnM 0 1 F_law_take (aCons (eC (.int 2)) aNil))) (aCons (eTup (aCons (eVar 9) (aCons (eC (.int 900)) (aCons (eVar 9) (aCons (eC (.int 900)) aNil))))) (aCons (eTup (aCons (eC (.int 0)) (aCons (eC (.int 90)) (aCons (eC (.int 0)) (aCons (eC (.int 90)) aNil))))) aNil))))) [9])) aNil))) (sSeq (sSet 3 (eCall sortedF (aCons (eFnM 0 2 F_law_pick (aCons (eFz (oLrg2 (eC (.int 1)) (eC (.int 13)))) (aCons (eOp addF (eC (.int 2)) (eFnM 0 1 F_law_take (aCons (eC (.int 3)) aNil))) aNil))) aNil))) (sSeq (sSetO 4 (oLc (iSeq (eVar 3)) (gN 10) tYesF (eFn 2 F_law_part (aCons (eVar 10) (aCons (eC (.int 3)) aNil))) [10])) (sSeq (sSet 5 (eOp addF (eLst (aCons (eTup (aCons (eC (.int 0)) (aCons (eC (.int 1)) aNil))) (aCons (eC .none) (aCons (eTup (aCons (eC (.int 9)) (aCons (eC (.int 1)) aNil))) aNil)))) (eVar 4))) (sSeq (sSet 6 (eCall tupleF (aCons (eFz (oLc (iRange1 (aCons (eVar 1) aNil)) (gN 9) tYesF (eIf (tB1 (eOp eqF (eFnM 0 1 F_law_take (aCons (eC (.int 3)) aNil)) (eC (.int 0)))) (eFnM 0 1 F_law_of (aCons (eVar 5) aNil)) (eTup (aCons (eC (.int 0)) (aCons (eC (.int 1)) aNil)))) [9])) aNil))) (sSeq (sSetO 7 (oLst aNil)) (sSeq (sFor (iSeq (eVar 4)) (gN 8) (sSeq (sTup [11, 12] (csC (cV (eFn 2 F_law_part (aCons (eOp subI (eFnM 0 1 F_law_take (aCons (eC (.int 13)) aNil)) (eC (.int 6))) (aCons (eC (.int 1)) aNil)))) (csC (cO (oLst aNil)) csN))) (sSeq (sFor (iRange1 (aCons (eVar 1) aNil)) (gN 9) (sSeq (sIf (tAnd2 (tB1 (eOp isnF (eOp idxF (eVar 6) (eVar 9)) (eC .none))) (tNot1 (tB1 (eFn 2 F_law_less (aCons (eVar 8) (aCons (eOp idxF (eVar 6) (eVar 9)) aNil)))))) (sApp 12 (eTup (aCons (eVar 11) (aCons (eFn 2 F_law_part (aCons (eOp subI (eFnM 0 1 F_law_take (aCons (eC (.int 9)) aNil)) (eC (.int 4))) (aCons (eC (.int 2)) aNil))) aNil)))) sSkip) (sSet 11 (eFn 2 F_law_plus (aCons (eVar 11) (aCons (eFn 2 F_law_part (aCons (eOp addF (eOp mulF (eC (.int 2)) (eOp idxF (eOp idxF (eVar 2) (eVar 9)) (eC (.int 0)))) (eFnM 0 1 F_law_take (aCons (eC (.int 7)) aNil))) (aCons (eC (.int 2)) aNil))) aNil)))))) (sApp 7 (eTup (aCons (eVar 8) (aCons (eCall tupleF (aCons (eVar 12) aNil)) aNil))))))) (sRet (eTup (aCons (eVar 2) (aCons (eVar 6) (aCons (eCall tupleF (aCons (eVar 7) aNil)) aNil)))))))))))))
def F_law_glide_drawn : List D → List D → Res (D × List D) := runM 13 m_law_glide_drawn
theorem b_law_glide_drawn  {f : Addr} (T : Tx K mg C)
    (c_law_take : Cal P w K mg base 1 "_law_take" ["_law_urn", "_law_low_so"] (spM C 1 F_law_take))
    (c_law_of : Cal P w K mg base 2 "_law_of" ["_law_urn", "_law_goods"] (spM C 1 F_law_of))
    (c_law_pick : Cal P w K mg base 2 "_law_pick" ["_law_tin", "_law_goods", "_law_many"] (spM C 2 F_law_pick))
    (c_law_part : Cal P w K mg base 1 "_law_part" ["_law_top", "_law_below"] (spD C 2 F_law_part))
    (c_law_plus : Cal P w K mg base 2 "_law_plus" ["_law_one", "_law_two"] (spD C 2 F_law_plus))
    (c_law_less : Cal P w K mg base 1 "_law_less" ["_law_one", "_law_two"] (spD C 2 F_law_less)) : BodyOk P w K mg base C 2 "_law_glide_drawn" s_law_glide_drawn N_law_glide_drawn f (m_law_glide_drawn) := by
  intro cdv A outer s H E hr
  have tk : Takes (cxOf (L2.CX P w) P w K mg base N_law_glide_drawn "_law_glide_drawn" (defScope s_law_glide_drawn) f cdv A outer s H E) (fun cls d _ H => E cls d H) := takes_of rfl rfl rfl rfl
  exact (pss_c (ps_s 1 (pd_add pd_int (pd_fnM 0 c_law_take hr tk (pad_cons pd_int pad_nil))) sc_law_glide_drawn.nd)
    (pss_c (ps_s 2 (pd_ct call_tuple_of o_tupleF T.z_tuple boot_tuple (pad_cons (pd_fz (pod_lc (own := [("_law_k", 9)]) sc_law_glide_drawn.nd (pi_r1 T.z_range (pad_cons (pd_v 1) pad_nil)) (blkOk_by (N := N_law_glide_drawn) (sc := defScope s_law_glide_drawn) (by decide +kernel)) (fun _ _ _ _ _ => (pg_n 9 sc_law_glide_drawn.nd)) (fun _ _ _ _ _ => pts_0) (fun _ _ _ _ _ => (pd_tup (pad_cons (pd_add pd_int (pd_fnM 0 c_law_take hr takes0 (pad_cons pd_int pad_nil))) (pad_cons (pd_add pd_int (pd_fnM 0 c_law_take hr takes0 (pad_cons pd_int pad_nil))) (pad_cons (pd_tup (pad_cons (pd_v 9) (pad_cons pd_int (pad_cons (pd_v 9) (pad_cons pd_int pad_nil))))) (pad_cons (pd_tup (pad_cons pd_int (pad_cons pd_int (pad_cons pd_int (pad_cons pd_int pad_nil))))) pad_nil)))))))) pad_nil)) sc_law_glide_drawn.nd)
    (pss_c (ps_s 3 (pd_cb cr_sorted o_sortedF T.z_sorted boot_sorted (pad_cons (pd_fnM 0 c_law_pick hr tk (pad_cons (pd_fz (pod_lrg2 T.z_list T.z_range pd_int pd_int)) (pad_cons (pd_add pd_int (pd_fnM 0 c_law_take hr tk (pad_cons pd_int pad_nil))) pad_nil))) pad_nil)) sc_law_glide_drawn.nd)
    (pss_c (ps_slc 4 (own := [("_law_own", 10)]) sc_law_glide_drawn.nd (pi_s (pd_v 3)) (blkOk_by (N := N_law_glide_drawn) (sc := defScope s_law_glide_drawn) (by decide +kernel)) (fun _ _ _ _ _ => (pg_n 10 sc_law_glide_drawn.nd)) (fun _ _ _ _ _ => pts_0) (fun _ _ _ _ _ => (pd_fn c_law_part hr takes0 (pad_cons (pd_v 10) (pad_cons pd_int pad_nil)))) (sw_true rfl rfl rfl (by decide +kernel)))
    (pss_c (ps_s 5 (pd_add (pd_lst (pad_cons (pd_tup (pad_cons pd_int (pad_cons pd_int pad_nil))) (pad_cons pd_non (pad_cons (pd_tup (pad_cons pd_int (pad_cons pd_int pad_nil))) pad_nil)))) (pd_v 4)) sc_law_glide_drawn.nd)
    (pss_c (ps_s 6 (pd_ct call_tuple_of o_tupleF T.z_tuple boot_tuple (pad_cons (pd_fz (pod_lc (own := [("_law_k", 9)]) sc_law_glide_drawn.nd (pi_r1 T.z_range (pad_cons (pd_v 1) pad_nil)) (blkOk_by (N := N_law_glide_drawn) (sc := defScope s_law_glide_drawn) (by decide +kernel)) (fun _ _ _ _ _ => (pg_n 9 sc_law_glide_drawn.nd)) (fun _ _ _ _ _ => pts_0) (fun _ _ _ _ _ => (pd_if (pt_c (op_eqD hr.units) o_eqF (pd_fnM 0 c_law_take hr takes0 (pad_cons pd_int pad_nil)) pd_int) (pd_fnM 0 c_law_of hr takes0 (pad_cons (pd_v 5) pad_nil)) (pd_tup (pad_cons pd_int (pad_cons pd_int pad_nil))))))) pad_nil)) sc_law_glide_drawn.nd)
    (pss_c (ps_o 7 (pod_lst pad_nil) sc_law_glide_drawn.nd)
    (pss_c (ps_f (vs := [8]) (pi_s (pd_v 4)) (pg_n 8 sc_law_glide_drawn.nd)
    (pss_c (ps_t2 11 12 (pcs_c (pc_v (pd_fn c_law_part hr tk (pad_cons (pd_sub (pd_fnM 0 c_law_take hr tk (pad_cons pd_int pad_nil)) pd_int) (pad_cons pd_int pad_nil)))) (pcs_c (pc_o (pod_lst pad_nil)) pcs_n)) sc_law_glide_drawn.nd rfl)
    (pss_c (ps_f (vs := [9]) (pi_r1 T.z_range (pad_cons (pd_v 1) pad_nil)) (pg_n 9 sc_law_glide_drawn.nd)
    (pss_c (ps_i (PW.pt (pw_a (pt_c op_notN o_isnF (pd_ix (pd_v 6) (pd_v 9)) pd_non) (pw_a1 (pt_n (pt_v (pd_fn c_law_less hr tk (pad_cons (pd_v 8) (pad_cons (pd_ix (pd_v 6) (pd_v 9)) pad_nil))))))))
    (pss_1 (ps_app 12 (pd_tup (pad_cons (pd_v 11) (pad_cons (pd_fn c_law_part hr tk (pad_cons (pd_sub (pd_fnM 0 c_law_take hr tk (pad_cons pd_int pad_nil)) pd_int) (pad_cons pd_int pad_nil))) pad_nil)))))
    pss_n)
    (pss_1 (ps_s 11 (pd_fn c_law_plus hr tk (pad_cons (pd_v 11) (pad_cons (pd_fn c_law_part hr tk (pad_cons (pd_add (pd_mul pd_int (pd_ix (pd_ix (pd_v 2) (pd_v 9)) pd_int)) (pd_fnM 0 c_law_take hr tk (pad_cons pd_int pad_nil))) (pad_cons pd_int pad_nil))) pad_nil))) sc_law_glide_drawn.nd))) (passes_of rfl))
    (pss_1 (ps_app 7 (pd_tup (pad_cons (pd_v 8) (pad_cons (pd_ct call_tuple_of o_tupleF T.z_tuple boot_tuple (pad_cons (pd_v 12) pad_nil)) pad_nil))))))) (passes_of rfl))
    (pss_1 (ps_r (pd_tup (pad_cons (pd_v 2) (pad_cons (pd_v 6) (pad_cons (pd_ct call_tuple_of o_tupleF T.z_tuple boot_tuple (pad_cons (pd_v 7) pad_nil)) pad_nil))))))))))))))

abbrev s_law_spots : Stmt := top 62
abbrev N_law_spots : List Str := ["_law_book", "_law_pairs", "_law_k", "_law_found", "_law_at", "_law_spots_here", "_law_there_so", "_law_own", "_law_its"]
theorem sc_law_spots : FnScope N_law_spots ["_law_book", "_law_pairs", "_law_k"] (defScope s_law_spots) := ⟨rfl, rfl, rfl, by decide +kernel, rfl, by decide +kernel, by decide +kernel⟩
def m_law_spots : SF :=
  (sSeq (sSetO 3 (oLst aNil)) (sSeq (sFor (iSeq (eVar 1)) (gT 2 (gsC (gN 4) (gsC (gN 5) gsN))) (sSeq (sSetO 6 (oLc (iEnumF (eVar 0)) (gT 2 (gsC (gN 7) (gsC (gN 8) gsN))) (tAnd2 (tB1 (eOp isnF (eVar 8) (eC .none))) (tNot1 (tB1 (eFn 2 F_law_less (aCons (eVar 4) (aCons (eVar 8) aNil)))))) (eVar 7) [7, 8])) (sIf (tB1 (eOp (inF false) (eVar 2) (eVar 6))) (sApp 3 (eTup (aCons (eVar 4) (aCons (eOp idxF (eVar 5) (eIndex (eVar 6) (eVar 2))) aNil)))) sSkip))) (sRetV 3)))
def F_law_spots : List D → Res D := runD 9 m_law_spots
theorem b_law_spots  {f : Addr} (T : Tx K mg C)
    (c_law_less : Cal P w K mg base 1 "_law_less" ["_law_one", "_law_two"] (spD C 2 F_law_less)) : BodyOk P w K mg base C 1 "_law_spots" s_law_spots N_law_spots f (m_law_spots) := by
  intro cdv A outer s H E hr
  have tk : Takes (cxOf (L2.CX P w) P w K mg base N_law_spots "_law_spots" (defScope s_law_spots) f cdv A outer s H E) (fun cls d _ H => E cls d H) := takes_of rfl rfl rfl rfl
  exact (pss_c (ps_o 3 (pod_lst pad_nil) sc_law_spots.nd)
    (pss_c (ps_f (vs := [4, 5]) (pi_s (pd_v 1)) (pg_t (pgs_c (pg_n 4 sc_law_spots.nd) (pgs_c (pg_n 5 sc_law_spots.nd) pgs_n)))
    (pss_c (ps_slc 6 (own := [("_law_own", 7), ("_law_its", 8)]) sc_law_spots.nd (pi_en T.z_enumerate (pd_v 0)) (blkOk_by (N := N_law_spots) (sc := defScope s_law_spots) (by decide +kernel)) (fun _ _ _ _ _ => (pg_t (pgs_c (pg_n 7 sc_law_spots.nd) (pgs_c (pg_n 8 sc_law_spots.nd) pgs_n)))) (fun _ _ _ _ _ => (pts_1 (PW.pt (pw_a (pt_c op_notN o_isnF (pd_v 8) pd_non) (pw_a1 (pt_n (pt_v (pd_fn c_law_less hr takes0 (pad_cons (pd_v 4) (pad_cons (pd_v 8) pad_nil)))))))))) (fun _ _ _ _ _ => (pd_v 7)) (sw_true rfl rfl rfl (by decide +kernel)))
    (pss_1 (ps_i (pt_c op_in_seq (o_inF false) (pd_v 2) (pd_v 6))
    (pss_1 (ps_app 3 (pd_tup (pad_cons (pd_v 4) (pad_cons (pd_ix (pd_v 5) (pd_index (pd_v 6) (pd_v 2))) pad_nil)))))
    pss_n))) (passes_of rfl))
    (pss_1 (ps_rv 3))))

abbrev s_law_gaps : Stmt := top 63
abbrev N_law_gaps : List Str := ["_law_frame_here", "_law_pane_here"]
theorem sc_law_gaps : FnScope N_law_gaps ["_law_frame_here", "_law_pane_here"] (defScope s_law_gaps) := ⟨rfl, rfl, rfl, by decide +kernel, rfl, by decide +kernel, by decide +kernel⟩
def m_law_gaps : SF :=
  (sRet (eTup (aCons (eFn 2 F_law_minus (aCons (eOp idxF (eVar 1) (eC (.int 2))) (aCons (eOp idxF (eVar 0) (eC (.int 0))) aNil))) (aCons (eFn 2 F_law_minus (aCons (eOp idxF (eVar 1) (eC (.int 3))) (aCons (eOp idxF (eVar 0) (eC (.int 1))) aNil))) (aCons (eFn 2 F_law_minus (aCons (eOp idxF (eVar 0) (eC (.int 2))) (aCons (eOp idxF (eVar 1) (eC (.int 0))) aNil))) (aCons (eFn 2 F_law_minus (aCons (eOp idxF (eVar 0) (eC (.int 3))) (aCons (eOp idxF (eVar 1) (eC (.int 1))) aNil))) aNil))))))
def F_law_gaps : List D → Res D := runD 2 m_law_gaps
theorem b_law_gaps  {f : Addr} (T : Tx K mg C)
    (c_law_minus : Cal P w K mg base 2 "_law_minus" ["_law_one", "_law_two"] (spD C 2 F_law_minus)) : BodyOk P w K mg base C 2 "_law_gaps" s_law_gaps N_law_gaps f (m_law_gaps) := by
  intro cdv A outer s H E hr
  have tk : Takes (cxOf (L2.CX P w) P w K mg base N_law_gaps "_law_gaps" (defScope s_law_gaps) f cdv A outer s H E) (fun cls d _ H => E cls d H) := takes_of rfl rfl rfl rfl
  exact (pss_1 (ps_r (pd_tup (pad_cons (pd_fn c_law_minus hr tk (pad_cons (pd_ix (pd_v 1) pd_int) (pad_cons (pd_ix (pd_v 0) pd_int) pad_nil))) (pad_cons (pd_fn c_law_minus hr tk (pad_cons (pd_ix (pd_v 1) pd_int) (pad_cons (pd_ix (pd_v 0) pd_int) pad_nil))) (pad_cons (pd_fn c_law_minus hr tk (pad_cons (pd_ix (pd_v 0) pd_int) (pad_cons (pd_ix (pd_v 1) pd_int) pad_nil))) (pad_cons (pd_fn c_law_minus hr tk (pad_cons (pd_ix (pd_v 0) pd_int) (pad_cons (pd_ix (pd_v 1) pd_int) pad_nil))) pad_nil)))))))

abbrev s_law_turn : Stmt := top 64
abbrev N_law_turn : List Str := ["_law_low", "_law_high", "_law_first", "_law_last", "_law_way", "_law_move"]
theorem sc_law_turn : FnScope N_law_turn ["_law_low", "_law_high", "_law_first", "_law_last"] (defScope s_law_turn) := ⟨rfl, rfl, rfl, by decide +kernel, rfl, by decide +kernel, by decide +kernel⟩
def m_law_turn : SF :=
  (sSeq (sTup [4, 5] (csC (cV (eFn 2 F_law_minus (aCons (eVar 1) (aCons (eVar 0) aNil)))) (csC (cV (eFn 2 F_law_minus (aCons (eVar 3) (aCons (eVar 2) aNil)))) csN))) (sRet (eFn 2 F_law_minus (aCons (eVar 0) (aCons (eFn 2 F_law_part (aCons (eOp mulF (eOp mulF (eOp idxF (eVar 2) (eC (.int 0))) (eOp idxF (eVar 4) (eC (.int 0)))) (eOp idxF (eVar 5) (eC (.int 1)))) (aCons (eOp mulF (eOp mulF (eOp idxF (eVar 2) (eC (.int 1))) (eOp idxF (eVar 4) (eC (.int 1)))) (eOp idxF (eVar 5) (eC (.int 0)))) aNil))) aNil)))))
def F_law_turn : List D → Res D := runD 6 m_law_turn
theorem b_law_turn  {f : Addr} (T : Tx K mg C)
    (c_law_part : Cal P w K mg base 1 "_law_part" ["_law_top", "_law_below"] (spD C 2 F_law_part))
    (c_law_minus : Cal P w K mg base 2 "_law_minus" ["_law_one", "_law_two"] (spD C 2 F_law_minus)) : BodyOk P w K mg base C 2 "_law_turn" s_law_turn N_law_turn f (m_law_turn) := by
  intro cdv A outer s H E hr
  have tk : Takes (cxOf (L2.CX P w) P w K mg base N_law_turn "_law_turn" (defScope s_law_turn) f cdv A outer s H E) (fun cls d _ H => E cls d H) := takes_of rfl rfl rfl rfl
  exact (pss_c (ps_t2 4 5 (pcs_c (pc_v (pd_fn c_law_minus hr tk (pad_cons (pd_v 1) (pad_cons (pd_v 0) pad_nil)))) (pcs_c (pc_v (pd_fn c_law_minus hr tk (pad_cons (pd_v 3) (pad_cons (pd_v 2) pad_nil)))) pcs_n)) sc_law_turn.nd rfl)
    (pss_1 (ps_r (pd_fn c_law_minus hr tk (pad_cons (pd_v 0) (pad_cons (pd_fn c_law_part hr tk (pad_cons (pd_mul (pd_mul (pd_ix (pd_v 2) pd_int) (pd_ix (pd_v 4) pd_int)) (pd_ix (pd_v 5) pd_int)) (pad_cons (pd_mul (pd_mul (pd_ix (pd_v 2) pd_int) (pd_ix (pd_v 4) pd_int)) (pd_ix (pd_v 5) pd_int)) pad_nil))) pad_nil))))))

abbrev s_law_range : Stmt := top 65
abbrev N_law_range : List Str := ["_law_low", "_law_high", "_law_ones", "_law_twos", "_law_begin", "_law_end", "_law_one", "_law_two", "_law_turn_here"]
theorem sc_law_range : FnScope N_law_range ["_law_low", "_law_high", "_law_ones", "_law_twos"] (defScope s_law_range) := ⟨rfl, rfl, rfl, by decide +kernel, rfl, by decide +kernel, by decide +kernel⟩
def m_law_range : SF :=
  (sSeq (sTup [4, 5] (csC (cV (eVar 0)) (csC (cV (eVar 1)) csN))) (sSeq (sFor (iZipF (aCons (eVar 2) (aCons (eVar 3) aNil))) (gT 2 (gsC (gN 6) (gsC (gN 7) gsN))) (sSeq (sIf (tAnd2 (tB1 (eOp leI (eOp idxF (eVar 6) (eC (.int 0))) (eC (.int 0)))) (tB1 (eOp leI (eOp idxF (eVar 7) (eC (.int 0))) (eC (.int 0))))) (sRet (eC .none)) sSkip) (sIf (tB1 (eOp leI (eOp idxF (eVar 6) (eC (.int 0))) (eC (.int 0)))) (sSeq (sSet 8 (eFn 4 F_law_turn (aCons (eVar 0) (aCons (eVar 1) (aCons (eVar 6) (aCons (eVar 7) aNil)))))) (sSet 4 (eIf (tB1 (eFn 2 F_law_less (aCons (eVar 4) (aCons (eVar 8) aNil)))) (eVar 8) (eVar 4)))) (sIf (tB1 (eOp leI (eOp idxF (eVar 7) (eC (.int 0))) (eC (.int 0)))) (sSeq (sSet 8 (eFn 4 F_law_turn (aCons (eVar 0) (aCons (eVar 1) (aCons (eVar 6) (aCons (eVar 7) aNil)))))) (sSet 5 (eIf (tB1 (eFn 2 F_law_less (aCons (eVar 8) (aCons (eVar 5) aNil)))) (eVar 8) (eVar 5)))) sSkip)))) (sRet (eIf (tB1 (eFn 2 F_law_less (aCons (eVar 4) (aCons (eVar 5) aNil)))) (eTup (aCons (eVar 4) (aCons (eVar 5) aNil))) (eC .none)))))
def F_law_range : List D → Res D := runD 9 m_law_range
theorem b_law_range  {f : Addr} (T : Tx K mg C)
    (c_law_less : Cal P w K mg base 1 "_law_less" ["_law_one", "_law_two"] (spD C 2 F_law_less))
    (c_law_turn : Cal P w K mg base 3 "_law_turn" ["_law_low", "_law_high", "_law_first", "_law_last"] (spD C 4 F_law_turn)) : BodyOk P w K mg base C 3 "_law_range" s_law_range N_law_range f (m_law_range) := by
  intro cdv A outer s H E hr
  have tk : Takes (cxOf (L2.CX P w) P w K mg base N_law_range "_law_range" (defScope s_law_range) f cdv A outer s H E) (fun cls d _ H => E cls d H) := takes_of rfl rfl rfl rfl
  exact (pss_c (ps_t2 4 5 (pcs_c (pc_v (pd_v 0)) (pcs_c (pc_v (pd_v 1)) pcs_n)) sc_law_range.nd rfl)
    (pss_c (ps_f (vs := [6, 7]) (pi_z T.z_zip (pad_cons (pd_v 2) (pad_cons (pd_v 3) pad_nil))) (pg_t (pgs_c (pg_n 6 sc_law_range.nd) (pgs_c (pg_n 7 sc_law_range.nd) pgs_n)))
    (pss_c (ps_i (PW.pt (pw_a (pt_c op_le o_leI (pd_ix (pd_v 6) pd_int) pd_int) (pw_a1 (pt_c op_le o_leI (pd_ix (pd_v 7) pd_int) pd_int))))
    (pss_1 (ps_r pd_non))
    pss_n)
    (pss_1 (ps_i (pt_c op_le o_leI (pd_ix (pd_v 6) pd_int) pd_int)
    (pss_c (ps_s 8 (pd_fn c_law_turn hr tk (pad_cons (pd_v 0) (pad_cons (pd_v 1) (pad_cons (pd_v 6) (pad_cons (pd_v 7) pad_nil))))) sc_law_range.nd)
    (pss_1 (ps_s 4 (pd_if (pt_v (pd_fn c_law_less hr tk (pad_cons (pd_v 4) (pad_cons (pd_v 8) pad_nil)))) (pd_v 8) (pd_v 4)) sc_law_range.nd)))
    (pss_1 (ps_i (pt_c op_le o_leI (pd_ix (pd_v 7) pd_int) pd_int)
    (pss_c (ps_s 8 (pd_fn c_law_turn hr tk (pad_cons (pd_v 0) (pad_cons (pd_v 1) (pad_cons (pd_v 6) (pad_cons (pd_v 7) pad_nil))))) sc_law_range.nd)
    (pss_1 (ps_s 5 (pd_if (pt_v (pd_fn c_law_less hr tk (pad_cons (pd_v 8) (pad_cons (pd_v 5) pad_nil)))) (pd_v 8) (pd_v 5)) sc_law_range.nd)))
    pss_n))))) (passes_of rfl))
    (pss_1 (ps_r (pd_if (pt_v (pd_fn c_law_less hr tk (pad_cons (pd_v 4) (pad_cons (pd_v 5) pad_nil)))) (pd_tup (pad_cons (pd_v 4) (pad_cons (pd_v 5) pad_nil))) pd_non)))))

abbrev s_law_ranges : Stmt := top 66
abbrev N_law_ranges : List Str := ["_law_chart", "_law_book", "_law_pairs", "_law_look_here", "_law_k", "_law_rows", "_law_found", "_law_spots_here", "_law_own", "_law_low", "_law_ones", "_law_high", "_law_twos", "_law_at", "_law_spot", "_law_its"]
theorem sc_law_ranges : FnScope N_law_ranges ["_law_chart", "_law_book", "_law_pairs", "_law_look_here", "_law_k"] (defScope s_law_ranges) := ⟨rfl, rfl, rfl, by decide +kernel, rfl, by decide +kernel, by decide +kernel⟩
def m_law_ranges : SF :=
  (sSeq (sTup [6, 7] (csC (cO (oLst aNil)) (csC (cV (eFn 3 F_law_spots (aCons (eVar 1) (aCons (eVar 2) (aCons (eVar 4) aNil))))) csN))) (sSeq (sSetO 5 (oLc (iSeq (eVar 7)) (gT 2 (gsC (gN 13) (gsC (gN 14) gsN))) tYesF (eTup (aCons (eVar 13) (aCons (eFn 2 F_law_gaps (aCons (eFn 3 F_law_frame (aCons (eVar 0) (aCons (eVar 4) (aCons (eVar 14) aNil)))) (aCons (eFn 2 F_law_pane (aCons (eVar 3) (aCons (eVar 13) aNil))) aNil))) aNil))) [13, 14])) (sSeq (sFor (iZipF (aCons (eVar 5) (aCons (eSl (some 1) none (eVar 5)) aNil))) (gT 2 (gsC (gT 2 (gsC (gN 9) (gsC (gN 10) gsN))) (gsC (gT 2 (gsC (gN 11) (gsC (gN 12) gsN))) gsN))) (sSeq (sSet 8 (eFn 4 F_law_range (aCons (eVar 9) (aCons (eVar 11) (aCons (eVar 10) (aCons (eVar 12) aNil)))))) (sIf (tAnd2 (tB1 (eOp isnF (eVar 8) (eC .none))) (tAnd2 (tB1 (eEqO true 6 (eLst aNil))) (tAnd2 (tB1 (eOp eqF (eOp idxF (eIxO 6 (eNeg (eC (.int 1)))) (eC (.int 1))) (eVar 9))) (tAnd2 (tB1 (eOp eqF (eOp idxF (eVar 8) (eC (.int 0))) (eVar 9))) (tB1 (eOp gtI (eCall minF (aCons (eFz (oLc (iSeq (eVar 10)) (gN 15) tYesF (eOp idxF (eVar 15) (eC (.int 0))) [15])) aNil)) (eC (.int 0)))))))) (sPut 6 (eNeg (eC (.int 1))) (eTup (aCons (eOp idxF (eIxO 6 (eNeg (eC (.int 1)))) (eC (.int 0))) (aCons (eOp idxF (eVar 8) (eC (.int 1))) aNil)))) (sIf (tB1 (eOp isnF (eVar 8) (eC .none))) (sApp 6 (eVar 8)) sSkip)))) (sRetV 6))))
def F_law_ranges : List D → Res D := runD 16 m_law_ranges
theorem b_law_ranges  {f : Addr} (T : Tx K mg C)
    (c_law_frame : Cal P w K mg base 3 "_law_frame" ["_law_chart", "_law_k", "_law_spot"] (spD C 3 F_law_frame))
    (c_law_pane : Cal P w K mg base 3 "_law_pane" ["_law_look_here", "_law_at"] (spD C 2 F_law_pane))
    (c_law_spots : Cal P w K mg base 2 "_law_spots" ["_law_book", "_law_pairs", "_law_k"] (spD C 3 F_law_spots))
    (c_law_gaps : Cal P w K mg base 3 "_law_gaps" ["_law_frame_here", "_law_pane_here"] (spD C 2 F_law_gaps))
    (c_law_range : Cal P w K mg base 4 "_law_range" ["_law_low", "_law_high", "_law_ones", "_law_twos"] (spD C 4 F_law_range)) : BodyOk P w K mg base C 4 "_law_ranges" s_law_ranges N_law_ranges f (m_law_ranges) := by
  intro cdv A outer s H E hr
  have tk : Takes (cxOf (L2.CX P w) P w K mg base N_law_ranges "_law_ranges" (defScope s_law_ranges) f cdv A outer s H E) (fun cls d _ H => E cls d H) := takes_of rfl rfl rfl rfl
  exact (pss_c (ps_t2 6 7 (pcs_c (pc_o (pod_lst pad_nil)) (pcs_c (pc_v (pd_fn c_law_spots hr tk (pad_cons (pd_v 1) (pad_cons (pd_v 2) (pad_cons (pd_v 4) pad_nil))))) pcs_n)) sc_law_ranges.nd rfl)
    (pss_c (ps_slc 5 (own := [("_law_at", 13), ("_law_spot", 14)]) sc_law_ranges.nd (pi_s (pd_v 7)) (blkOk_by (N := N_law_ranges) (sc := defScope s_law_ranges) (by decide +kernel)) (fun _ _ _ _ _ => (pg_t (pgs_c (pg_n 13 sc_law_ranges.nd) (pgs_c (pg_n 14 sc_law_ranges.nd) pgs_n)))) (fun _ _ _ _ _ => pts_0) (fun _ _ _ _ _ => (pd_tup (pad_cons (pd_v 13) (pad_cons (pd_fn c_law_gaps hr takes0 (pad_cons (pd_fn c_law_frame hr takes0 (pad_cons (pd_v 0) (pad_cons (pd_v 4) (pad_cons (pd_v 14) pad_nil)))) (pad_cons (pd_fn c_law_pane hr takes0 (pad_cons (pd_v 3) (pad_cons (pd_v 13) pad_nil))) pad_nil))) pad_nil)))) (sw_true rfl rfl rfl (by decide +kernel)))
    (pss_c (ps_f (vs := [9, 10, 11, 12]) (pi_z T.z_zip (pad_cons (pd_v 5) (pad_cons (pd_sl (pd_v 5) part_int part_no) pad_nil))) (pg_t (pgs_c (pg_t (pgs_c (pg_n 9 sc_law_ranges.nd) (pgs_c (pg_n 10 sc_law_ranges.nd) pgs_n))) (pgs_c (pg_t (pgs_c (pg_n 11 sc_law_ranges.nd) (pgs_c (pg_n 12 sc_law_ranges.nd) pgs_n))) pgs_n)))
    (pss_c (ps_s 8 (pd_fn c_law_range hr tk (pad_cons (pd_v 9) (pad_cons (pd_v 11) (pad_cons (pd_v 10) (pad_cons (pd_v 12) pad_nil))))) sc_law_ranges.nd)
    (pss_1 (ps_i (PW.pt (pw_a (pt_c op_notN o_isnF (pd_v 8) pd_non) (pw_a (pt_neO 6 hr.units (pd_lst pad_nil)) (pw_a (pt_c (op_eqD hr.units) o_eqF (pd_ix (pd_ixO 6 (pd_neg pd_int)) pd_int) (pd_v 9)) (pw_a (pt_c (op_eqD hr.units) o_eqF (pd_ix (pd_v 8) pd_int) (pd_v 9)) (pw_a1 (pt_c op_gt o_gtI (pd_cb (cr_min rfl) o_minF T.z_min boot_min (pad_cons (pd_fz (pod_lc (own := [("_law_its", 15)]) sc_law_ranges.nd (pi_s (pd_v 10)) (blkOk_by (N := N_law_ranges) (sc := defScope s_law_ranges) (by decide +kernel)) (fun _ _ _ _ _ => (pg_n 15 sc_law_ranges.nd)) (fun _ _ _ _ _ => pts_0) (fun _ _ _ _ _ => (pd_ix (pd_v 15) pd_int)))) pad_nil)) pd_int)))))))
    (pss_1 (ps_put 6 (pd_neg pd_int) (pd_tup (pad_cons (pd_ix (pd_ixO 6 (pd_neg pd_int)) pd_int) (pad_cons (pd_ix (pd_v 8) pd_int) pad_nil)))))
    (pss_1 (ps_i (pt_c op_notN o_isnF (pd_v 8) pd_non)
    (pss_1 (ps_app 6 (pd_v 8)))
    pss_n))))) (passes_of rfl))
    (pss_1 (ps_rv 6)))))

end
end GN

set_option Elab.async false
set_option linter.all false
set_option maxRecDepth 100000
set_option maxHeartbeats 8000000
/-! PX: a call that only reads an own list. -/
namespace GN
open PySem PySem.Spec PyProof.Rows L2
/-- f(x, ..), x an own list that f only reads: a truth value comes back -/
def eFnR (i : Nat) (n : Nat) (F : List D → Res D) (fs : LF) : EF := fun ρ => match ρ[i]? with
  | some (Sl.own _) => (fs ρ).bind fun a => if a.1.length + 1 = n then (match a.2[i]? with
    | some (Sl.own ms) => (F (.list ms :: a.1)).bind fun d => (match d with
      | .bool b => .ok (.bool b, a.2)
      | _ => .bad)
    | _ => .bad) else .bad
  | _ => .bad
section
variable {X : Cx} {C : XC} {W : WX} {pos p : Pos} {e : Expr} {es : List Expr} {fs : LF} {x : Str} {k j n : Nat} {ps : List Str}
theorem pd_fnR (i : Nat) {F : List D → Res D} {y : Str} {py : Pos} (c : Cal X.prog X.w X.K X.mg X.base k x ps (spD C n F)) (hr : Room j X.A) (tk : Takes X W) (ha : PAD X C W es fs) (hk : k ≤ j := by decide) (hg : Gl X x := by rfl)
    (hN : X.N[i]? = some y := by rfl) (hv : Vis X.env.scope y := by first | exact Or.inl rfl | exact Or.inr (Or.inl rfl) | exact Or.inr (Or.inr rfl)) (hd : (y == ("__debug__" : Str)) = false := by decide) (hcd : (y == ("__classdict__" : Str)) = false := by decide)
    (hdb : (x == ("__debug__" : Str)) = false := by decide) (he : starEach (.Name y py :: es) X.env = (false, eval (.Name y py) X.env) :: starEach es X.env := by rfl) (hpl : (backTo pos (starEach es X.env)).any (·.1) = false := by rfl) : PD X C W (.Call (.Name x p) (.Name y py :: es) [] pos) (eFnR i n F fs) := by
  obtain ⟨f, fd, FO, hm, kp, b⟩ := c.ex
  refine pd_of (pe_callS FO (hr.mono hk) hg hm kp b (fun σ => passAt tk σ) (pa_cons (pe_var hN hv hd hcd) ha he) hdb he hpl) fun S H σ ρ Q L p => ?_
  unfold eFnR at p
  cases z : ρ[i]? with
  | none => rw [z] at p; exact p.elim
  | some s =>
    rw [z] at p
    cases s with
    | no => exact p.elim
    | val d => exact p.elim
    | own ms0 =>
      obtain ⟨q, us0, h1, h2, _⟩ := L.owns i ms0 z
      refine ⟨_, h1, S, ρ, L, p.seq fun ds ρ1 _ p1 => fun vs S1 H1 g1 r1 => ?_⟩
      dsimp only at p1
      by_cases hn : ds.length + 1 = n
      · rw [if_pos hn] at p1
        cases z1 : ρ1[i]? with
        | none => rw [z1] at p1; exact p1.elim
        | some s =>
          rw [z1] at p1
          cases s with
          | no => exact p1.elim
          | val d => exact p1.elim
          | own ms =>
            obtain ⟨q', us, f1, f2, f3, f4⟩ := g1.lk.owns i ms z1
            rw [h1] at f1; cases f1
            have ss : Same S1 (upd S1 q (.lst us)) := fun b o w => by rw [upd_ne (ne_of_none w f4)]; exact w
            have sh : Same (upd S1 q (.lst us)) H1 := fun b o w => by
              by_cases y : b = q
              · subst y; rw [upd_same] at w; rw [f2]; exact w
              · rw [upd_ne y] at w; exact g1.lk.sub b o w
            have ad0 : ∀ S2 H2, Adv NoM (upd S1 q (.lst us)) H1 S2 H2 → Adv NoM S1 H1 S1 H2 := fun S2 H2 ad => ⟨Same.refl S1, (ss.trans ad.ss).trans ad.sh, ad.kp, fun a o e => .inl e, ad.dm⟩
            refine ⟨upd S1 q (.lst us), .list ms :: ds, sh, .cons (.lst upd_same (f3.up ss)) (r1.up ss), hn, ?_⟩
            dsimp only at p1
            cases zF : F (.list ms :: ds) with
            | ok d =>
              rw [zF] at p1
              cases d with
              | bool b =>
                intro v S2 H2 ad rv
                cases rv
                exact p1 _ S1 H2 (g1.trans (.of0 g1.lk (ad0 S2 H2 ad))) (.bl b)
              | none => exact p1.elim
              | int _ => exact p1.elim
              | str _ => exact p1.elim
              | list _ => exact p1.elim
              | tuple _ => exact p1.elim
              | dict _ => exact p1.elim
            | exc y =>
              rw [zF] at p1
              exact fun cls dd S2 H2 ad xo => p1 cls dd S1 H2 σ rfl (g1.adv.trans (ad0 S2 H2 ad).any g1.ow) xo
            | bad => rw [zF] at p1; exact p1.elim
      · rw [if_neg hn] at p1; exact p1.elim
end
end GN

set_option Elab.async false
set_option linter.all false
set_option maxRecDepth 100000
set_option maxHeartbeats 8000000
namespace GN
open PySem PySem.Spec PyProof.Rows L2
section
variable {P : Program} {w : World} {K : PySem.W.Frag} {mg : Str → Option Value} {base : Heap} {C : XC}
abbrev s_law_case_right : Stmt := top 68
abbrev N_law_case_right : List Str := ["_law_tin", "_law_chart", "_law_book", "_law_pairs", "_law_look_here", "_law_soft", "_law_k", "_law_due", "_law_told", "_law_spots_here", "_law_part_here", "_law_at", "_law_spot", "_law_own", "_law_low", "_law_near", "_law_high", "_law_far", "_law_one", "_law_two"]
theorem sc_law_case_right : FnScope N_law_case_right ["_law_tin", "_law_chart", "_law_book", "_law_pairs", "_law_look_here"] (defScope s_law_case_right) := ⟨rfl, rfl, rfl, by decide +kernel, rfl, by decide +kernel, by decide +kernel⟩
def m_law_case_right : SF :=
  (sSeq (sSet 5 (eFn 1 F_law_lists (aCons (eVar 3) aNil))) (sSeq (sFor (iRange1 (aCons (eCall lenF (aCons (eVar 1) aNil)) aNil)) (gN 6) (sSeq (sSet 7 (eFn 5 F_law_ranges (aCons (eVar 1) (aCons (eVar 2) (aCons (eVar 3) (aCons (eVar 4) (aCons (eVar 6) aNil))))))) (sSeq (sSetO 8 (oFn 5 F_seen_spans (aCons (eFn 1 F_law_lists (aCons (eVar 1) aNil)) (aCons (eFz (oList (aCons (eVar 2) aNil))) (aCons (eVar 5) (aCons (eFz (oList (aCons (eVar 4) aNil))) (aCons (eVar 6) aNil))))))) (sSeq (sIf (tNot1 (tB1 (eFnR 8 2 F_law_same (aCons (eVar 7) aNil)))) (sRet (eC (.bool false))) sSkip) (sSeq (sApp 8 (eC .none)) (sSeq (sIf (tNot1 (tB1 (eFn 2 F_law_same (aCons (eFn 5 (fzF F_seen_spans) (aCons (eVar 1) (aCons (eVar 2) (aCons (eVar 3) (aCons (eVar 4) (aCons (eVar 6) aNil)))))) (aCons (eVar 7) aNil))))) (sRet (eC (.bool false))) sSkip) (sSeq (sSet 9 (eFn 3 F_law_spots (aCons (eVar 2) (aCons (eVar 3) (aCons (eVar 6) aNil))))) (sFor (iZipF (aCons (eVar 9) (aCons (eSl (some 1) none (eVar 9)) aNil))) (gT 2 (gsC (gT 2 (gsC (gN 14) (gsC (gN 15) gsN))) (gsC (gT 2 (gsC (gN 16) (gsC (gN 17) gsN))) gsN))) (sSeq (sSet 10 (eFn 2 F_law_part (aCons (eOp addF (eC (.int 1)) (eFnM 0 1 F_law_take (aCons (eC (.int 5)) aNil))) (aCons (eC (.int 7)) aNil)))) (sSeq (sSet 11 (eFn 2 F_law_plus (aCons (eVar 14) (aCons (eFn 2 F_law_times (aCons (eVar 10) (aCons (eFn 2 F_law_minus (aCons (eVar 16) (aCons (eVar 14) aNil))) aNil))) aNil)))) (sSeq (sSet 12 (eCall tupleF (aCons (eFz (oLc (iSeq (eTup (aCons (eC (.int 0)) (aCons (eC (.int 1)) aNil)))) (gN 13) tYesF (eFn 2 F_law_plus (aCons (eOp idxF (eVar 15) (eVar 13)) (aCons (eFn 2 F_law_times (aCons (eVar 10) (aCons (eFn 2 F_law_minus (aCons (eOp idxF (eVar 17) (eVar 13)) (aCons (eOp idxF (eVar 15) (eVar 13)) aNil))) aNil))) aNil))) [13])) aNil))) (sSeq (sSet 13 (eOp neF (eFz (oLc (iSeq (eVar 7)) (gT 2 (gsC (gN 18) (gsC (gN 19) gsN))) (tAnd2 (tB1 (eFn 2 F_law_less (aCons (eVar 18) (aCons (eVar 11) aNil)))) (tB1 (eFn 2 F_law_less (aCons (eVar 11) (aCons (eVar 19) aNil))))) (eC (.int 1)) [18, 19])) (eLst aNil))) (sIf (tNot1 (tB1 (eFn 2 F_law_same (aCons (eFn 5 F_seen (aCons (eVar 1) (aCons (eTup (aCons (eVar 6) aNil)) (aCons (eTup (aCons (eVar 12) aNil)) (aCons (eVar 4) (aCons (eVar 11) aNil)))))) (aCons (eIf (tB1 (eVar 13)) (eTup (aCons (eVar 6) aNil)) (eTup aNil)) aNil))))) (sRet (eC (.bool false))) sSkip))))))))))))) (sRet (eC (.bool true)))))
def F_law_case_right : List D → List D → Res (D × List D) := runM 20 m_law_case_right
theorem b_law_case_right  {f : Addr} (T : Tx K mg C)
    (c_seen : Cal P w K mg base 11 "seen" ["chart", "lot", "standing", "view", "scale"] (spD C 5 F_seen))
    (c_seen_spans : Cal P w K mg base 10 "seen_spans" ["chart", "book", "glide", "view", "name"] (spO C 5 F_seen_spans))
    (c_law_take : Cal P w K mg base 1 "_law_take" ["_law_urn", "_law_low_so"] (spM C 1 F_law_take))
    (c_law_same : Cal P w K mg base 9 "_law_same" ["_law_got", "_law_goal"] (spD C 2 F_law_same))
    (c_law_lists : Cal P w K mg base 9 "_law_lists" ["_law_matter"] (spD C 1 F_law_lists))
    (c_law_part : Cal P w K mg base 1 "_law_part" ["_law_top", "_law_below"] (spD C 2 F_law_part))
    (c_law_plus : Cal P w K mg base 2 "_law_plus" ["_law_one", "_law_two"] (spD C 2 F_law_plus))
    (c_law_minus : Cal P w K mg base 2 "_law_minus" ["_law_one", "_law_two"] (spD C 2 F_law_minus))
    (c_law_times : Cal P w K mg base 2 "_law_times" ["_law_one", "_law_two"] (spD C 2 F_law_times))
    (c_law_less : Cal P w K mg base 1 "_law_less" ["_law_one", "_law_two"] (spD C 2 F_law_less))
    (c_law_spots : Cal P w K mg base 2 "_law_spots" ["_law_book", "_law_pairs", "_law_k"] (spD C 3 F_law_spots))
    (c_law_ranges : Cal P w K mg base 5 "_law_ranges" ["_law_chart", "_law_book", "_law_pairs", "_law_look_here", "_law_k"] (spD C 5 F_law_ranges)) : BodyOk P w K mg base C 11 "_law_case_right" s_law_case_right N_law_case_right f (m_law_case_right) := by
  intro cdv A outer s H E hr
  have tk : Takes (cxOf (L2.CX P w) P w K mg base N_law_case_right "_law_case_right" (defScope s_law_case_right) f cdv A outer s H E) (fun cls d _ H => E cls d H) := takes_of rfl rfl rfl rfl
  exact (pss_c (ps_s 5 (pd_fn c_law_lists hr tk (pad_cons (pd_v 3) pad_nil)) sc_law_case_right.nd)
    (pss_c (ps_f (vs := [6]) (pi_r1 T.z_range (pad_cons (pd_cb call_len o_lenF T.z_len PySem.boot_len (pad_cons (pd_v 1) pad_nil)) pad_nil)) (pg_n 6 sc_law_case_right.nd)
    (pss_c (ps_s 7 (pd_fn c_law_ranges hr tk (pad_cons (pd_v 1) (pad_cons (pd_v 2) (pad_cons (pd_v 3) (pad_cons (pd_v 4) (pad_cons (pd_v 6) pad_nil)))))) sc_law_case_right.nd)
    (pss_c (ps_o 8 (pod_fn c_seen_spans hr tk (pad_cons (pd_fn c_law_lists hr tk (pad_cons (pd_v 1) pad_nil)) (pad_cons (pd_fz (pod_list T.z_list (pad_cons (pd_v 2) pad_nil))) (pad_cons (pd_v 5) (pad_cons (pd_fz (pod_list T.z_list (pad_cons (pd_v 4) pad_nil))) (pad_cons (pd_v 6) pad_nil)))))) sc_law_case_right.nd)
    (pss_c (ps_i (pt_n (pt_v (pd_fnR 8 c_law_same hr tk (pad_cons (pd_v 7) pad_nil))))
    (pss_1 (ps_r pd_bl))
    pss_n)
    (pss_c (ps_app 8 pd_non)
    (pss_c (ps_i (pt_n (pt_v (pd_fn c_law_same hr tk (pad_cons (pd_fn c_seen_spans.fz hr tk (pad_cons (pd_v 1) (pad_cons (pd_v 2) (pad_cons (pd_v 3) (pad_cons (pd_v 4) (pad_cons (pd_v 6) pad_nil)))))) (pad_cons (pd_v 7) pad_nil)))))
    (pss_1 (ps_r pd_bl))
    pss_n)
    (pss_c (ps_s 9 (pd_fn c_law_spots hr tk (pad_cons (pd_v 2) (pad_cons (pd_v 3) (pad_cons (pd_v 6) pad_nil)))) sc_law_case_right.nd)
    (pss_1 (ps_f (vs := [14, 15, 16, 17]) (pi_z T.z_zip (pad_cons (pd_v 9) (pad_cons (pd_sl (pd_v 9) part_int part_no) pad_nil))) (pg_t (pgs_c (pg_t (pgs_c (pg_n 14 sc_law_case_right.nd) (pgs_c (pg_n 15 sc_law_case_right.nd) pgs_n))) (pgs_c (pg_t (pgs_c (pg_n 16 sc_law_case_right.nd) (pgs_c (pg_n 17 sc_law_case_right.nd) pgs_n))) pgs_n)))
    (pss_c (ps_s 10 (pd_fn c_law_part hr tk (pad_cons (pd_add pd_int (pd_fnM 0 c_law_take hr tk (pad_cons pd_int pad_nil))) (pad_cons pd_int pad_nil))) sc_law_case_right.nd)
    (pss_c (ps_s 11 (pd_fn c_law_plus hr tk (pad_cons (pd_v 14) (pad_cons (pd_fn c_law_times hr tk (pad_cons (pd_v 10) (pad_cons (pd_fn c_law_minus hr tk (pad_cons (pd_v 16) (pad_cons (pd_v 14) pad_nil))) pad_nil))) pad_nil))) sc_law_case_right.nd)
    (pss_c (ps_s 12 (pd_ct call_tuple_of o_tupleF T.z_tuple boot_tuple (pad_cons (pd_fz (pod_lc (own := [("_law_own", 13)]) sc_law_case_right.nd (pi_s (pd_tup (pad_cons pd_int (pad_cons pd_int pad_nil)))) (blkOk_by (N := N_law_case_right) (sc := defScope s_law_case_right) (by decide +kernel)) (fun _ _ _ _ _ => (pg_n 13 sc_law_case_right.nd)) (fun _ _ _ _ _ => pts_0) (fun _ _ _ _ _ => (pd_fn c_law_plus hr takes0 (pad_cons (pd_ix (pd_v 15) (pd_v 13)) (pad_cons (pd_fn c_law_times hr takes0 (pad_cons (pd_v 10) (pad_cons (pd_fn c_law_minus hr takes0 (pad_cons (pd_ix (pd_v 17) (pd_v 13)) (pad_cons (pd_ix (pd_v 15) (pd_v 13)) pad_nil))) pad_nil))) pad_nil)))))) pad_nil)) sc_law_case_right.nd)
    (pss_c (ps_s 13 (pd_cmp (op_neD hr.units) o_neF (pd_fz (pod_lc (own := [("_law_one", 18), ("_law_two", 19)]) sc_law_case_right.nd (pi_s (pd_v 7)) (blkOk_by (N := N_law_case_right) (sc := defScope s_law_case_right) (by decide +kernel)) (fun _ _ _ _ _ => (pg_t (pgs_c (pg_n 18 sc_law_case_right.nd) (pgs_c (pg_n 19 sc_law_case_right.nd) pgs_n)))) (fun _ _ _ _ _ => (pts_1 (PW.pt (pw_a (pt_v (pd_fn c_law_less hr takes0 (pad_cons (pd_v 18) (pad_cons (pd_v 11) pad_nil)))) (pw_a1 (pt_v (pd_fn c_law_less hr takes0 (pad_cons (pd_v 11) (pad_cons (pd_v 19) pad_nil))))))))) (fun _ _ _ _ _ => pd_int))) (pd_lst pad_nil)) sc_law_case_right.nd)
    (pss_1 (ps_i (pt_n (pt_v (pd_fn c_law_same hr tk (pad_cons (pd_fn c_seen hr tk (pad_cons (pd_v 1) (pad_cons (pd_tup (pad_cons (pd_v 6) pad_nil)) (pad_cons (pd_tup (pad_cons (pd_v 12) pad_nil)) (pad_cons (pd_v 4) (pad_cons (pd_v 11) pad_nil)))))) (pad_cons (pd_if (pt_v (pd_v 13)) (pd_tup (pad_cons (pd_v 6) pad_nil)) (pd_tup pad_nil)) pad_nil)))))
    (pss_1 (ps_r pd_bl))
    pss_n)))))) (passes_of rfl))))))))) (passes_of rfl))
    (pss_1 (ps_r pd_bl))))

end
end GN

set_option Elab.async false
set_option linter.all false
set_option maxRecDepth 100000
set_option maxHeartbeats 8000000
namespace GN
open PySem PySem.Spec PyProof.Rows L2
section
variable {P : Program} {w : World} {K : PySem.W.Frag} {mg : Str → Option Value} {base : Heap} {C : XC}
abbrev s_law_by_hand_right : Stmt := top 69
abbrev N_law_by_hand_right : List Str := ["_law_spots_here", "_law_far", "_law_got", "_law_due", "_law_ways", "_law_late", "_law_row", "_law_at", "_law_pairs", "_law_book", "_law_lone", "_law_look_here", "_law_row_so", "_law_own", "_law_k"]
theorem sc_law_by_hand_right : FnScope N_law_by_hand_right [] (defScope s_law_by_hand_right) := ⟨rfl, rfl, rfl, by decide +kernel, rfl, by decide +kernel, by decide +kernel⟩
def m_law_by_hand_right : SF :=
  (sSeq (sTup [6, 7] (csC (cV (eFn 0 F_law_row_map aNil)) (csC (cV (eTup (aCons (eC (.int 2)) (aCons (eC (.int 3)) aNil)))) csN))) (sSeq (sSet 0 (eCall tupleF (aCons (eFz (oLc (iSeq (eTup (aCons (eNeg (eC (.int 2))) (aCons (eC (.int 2)) (aCons (eC (.int 6)) aNil))))) (gN 13) tYesF (eTup (aCons (eTup (aCons (eVar 13) (aCons (eC (.int 1)) aNil))) (aCons (eTup (aCons (eC (.int 0)) (aCons (eC (.int 1)) aNil))) aNil))) [13])) aNil))) (sSeq (sSet 1 (eCall tupleF (aCons (eFz (oLc (iSeq (eTup (aCons (eC (.int 0)) (aCons (eC (.int 6)) (aCons (eC (.int 12)) aNil))))) (gN 13) tYesF (eTup (aCons (eTup (aCons (eVar 13) (aCons (eC (.int 1)) aNil))) (aCons (eTup (aCons (eC (.int 0)) (aCons (eC (.int 1)) aNil))) aNil))) [13])) aNil))) (sSeq (sTup [8, 9] (csC (cV (eTup (aCons (eTup (aCons (eVar 7) (aCons (eVar 0) aNil))) (aCons (eTup (aCons (eTup (aCons (eC (.int 2)) (aCons (eC (.int 1)) aNil))) (aCons (eVar 1) aNil))) aNil)))) (csC (cV (eTup (aCons (eTup (aCons (eC (.int 0)) (aCons (eC (.int 1)) aNil))) (aCons (eVar 7) (aCons (eTup (aCons (eC (.int 0)) (aCons (eC (.int 1)) aNil))) aNil))))) csN))) (sSeq (sSet 2 (eOp addF (eFz (oLc (iSeq (eTup (aCons (eC (.int 0)) (aCons (eC (.int 1)) (aCons (eC (.int 2)) aNil))))) (gN 14) tYesF (eFn 5 (fzF F_seen_spans) (aCons (eVar 6) (aCons (eVar 9) (aCons (eVar 8) (aCons (eTup (aCons (eC (.int 3)) (aCons (eC (.int 0)) (aCons (eC (.int 2)) (aCons (eC (.int 2)) aNil))))) (aCons (eVar 14) aNil)))))) [14])) (eLst (aCons (eFn 5 (fzF F_seen_spans) (aCons (eVar 6) (aCons (eVar 9) (aCons (eVar 8) (aCons (eTup (aCons (eC (.int 3)) (aCons (eC (.int 0)) (aCons (eC (.int 8)) (aCons (eC (.int 2)) aNil))))) (aCons (eC (.int 0)) aNil)))))) aNil)))) (sSeq (sSet 3 (eLst (aCons (eLst (aCons (eTup (aCons (eTup (aCons (eC (.int 2)) (aCons (eC (.int 3)) aNil))) (aCons (eTup (aCons (eC (.int 4)) (aCons (eC (.int 3)) aNil))) aNil))) aNil)) (aCons (eLst (aCons (eTup (aCons (eTup (aCons (eC (.int 2)) (aCons (eC (.int 3)) aNil))) (aCons (eTup (aCons (eC (.int 2)) (aCons (eC (.int 1)) aNil))) aNil))) aNil)) (aCons (eLst aNil) (aCons (eLst (aCons (eTup (aCons (eTup (aCons (eC (.int 2)) (aCons (eC (.int 3)) aNil))) (aCons (eTup (aCons (eC (.int 2)) (aCons (eC (.int 1)) aNil))) aNil))) aNil)) aNil)))))) (sSeq (sTup [10, 11] (csC (cV (eTup (aCons (eTup (aCons (eC (.int 2)) (aCons (eC (.int 1)) (aCons (eTup (aCons (eC (.int 0)) (aCons (eC (.int 9)) (aCons (eC (.int 0)) (aCons (eC (.int 9)) aNil))))) (aCons (eTup (aCons (eC (.int 0)) (aCons (eC (.int 9)) (aCons (eC (.int 0)) (aCons (eC (.int 9)) aNil))))) aNil))))) aNil))) (csC (cV (eTup (aCons (eC (.int 0)) (aCons (eC (.int 0)) (aCons (eC (.int 2)) (aCons (eC (.int 2)) aNil)))))) csN))) (sSeq (sSetO 4 (oLc (iSeq (eTup (aCons (eTup (aCons (eTup (aCons (eC (.int 0)) (aCons (eC (.int 1)) aNil))) (aCons (eTup (aCons (eC (.int 1)) (aCons (eC (.int 1)) aNil))) (aCons (eTup (aCons (eC (.int 0)) (aCons (eC (.int 1)) aNil))) aNil)))) (aCons (eTup (aCons (eTup (aCons (eC (.int 0)) (aCons (eC (.int 1)) aNil))) (aCons (eTup (aCons (eC (.int 1)) (aCons (eC (.int 2)) aNil))) (aCons (eTup (aCons (eC (.int 0)) (aCons (eC (.int 1)) aNil))) aNil)))) (aCons (eTup (aCons (eTup (aCons (eC (.int 1)) (aCons (eC (.int 1)) aNil))) (aCons (eTup (aCons (eC (.int 0)) (aCons (eC (.int 1)) aNil))) (aCons (eTup (aCons (eC (.int 3)) (aCons (eC (.int 1)) aNil))) aNil)))) (aCons (eTup (aCons (eTup (aCons (eC (.int 1)) (aCons (eC (.int 1)) aNil))) (aCons (eTup (aCons (eC (.int 2)) (aCons (eC (.int 1)) aNil))) (aCons (eTup (aCons (eC (.int 1)) (aCons (eC (.int 1)) aNil))) aNil)))) aNil)))))) (gN 12) tYesF (eCall tupleF (aCons (eFz (oLc (iEnumF (eVar 12)) (gT 2 (gsC (gN 14) (gsC (gN 13) gsN))) tYesF (eTup (aCons (eTup (aCons (eOp addF (eVar 14) (eC (.int 1))) (aCons (eC (.int 1)) aNil))) (aCons (eTup (aCons (eTup (aCons (eVar 13) (aCons (eTup (aCons (eC (.int 0)) (aCons (eC (.int 1)) aNil))) aNil))) aNil)) aNil))) [14, 13])) aNil)) [12])) (sSeq (sSet 2 (eOp addF (eVar 2) (eFz (oLc (iSeq (eVar 4)) (gN 13) tYesF (eFn 5 (fzF F_seen_spans) (aCons (eVar 10) (aCons (eTup (aCons (eTup (aCons (eC (.int 0)) (aCons (eC (.int 1)) aNil))) aNil)) (aCons (eVar 13) (aCons (eVar 11) (aCons (eC (.int 0)) aNil)))))) [13])))) (sSeq (sSet 3 (eOp addF (eVar 3) (eLst (aCons (eLst (aCons (eTup (aCons (eTup (aCons (eC (.int 1)) (aCons (eC (.int 1)) aNil))) (aCons (eTup (aCons (eC (.int 2)) (aCons (eC (.int 1)) aNil))) aNil))) (aCons (eTup (aCons (eTup (aCons (eC (.int 2)) (aCons (eC (.int 1)) aNil))) (aCons (eTup (aCons (eC (.int 3)) (aCons (eC (.int 1)) aNil))) aNil))) aNil))) (aCons (eLst (aCons (eTup (aCons (eTup (aCons (eC (.int 1)) (aCons (eC (.int 1)) aNil))) (aCons (eTup (aCons (eC (.int 3)) (aCons (eC (.int 1)) aNil))) aNil))) aNil)) (aCons (eLst (aCons (eTup (aCons (eTup (aCons (eC (.int 1)) (aCons (eC (.int 1)) aNil))) (aCons (eTup (aCons (eC (.int 7)) (aCons (eC (.int 3)) aNil))) aNil))) aNil)) (aCons (eLst aNil) aNil))))))) (sSeq (sSet 5 (eTup (aCons (eTup (aCons (eTup (aCons (eC (.int 1)) (aCons (eC (.int 1)) aNil))) (aCons (eTup aNil) aNil))) (aCons (eTup (aCons (eTup (aCons (eC (.int 2)) (aCons (eC (.int 1)) aNil))) (aCons (eTup (aCons (eTup (aCons (eTup (aCons (eC (.int 0)) (aCons (eC (.int 1)) aNil))) (aCons (eTup (aCons (eC (.int 0)) (aCons (eC (.int 1)) aNil))) aNil))) aNil)) aNil))) (aCons (eTup (aCons (eTup (aCons (eC (.int 3)) (aCons (eC (.int 1)) aNil))) (aCons (eTup (aCons (eTup (aCons (eTup (aCons (eC (.int 2)) (aCons (eC (.int 1)) aNil))) (aCons (eTup (aCons (eC (.int 0)) (aCons (eC (.int 1)) aNil))) aNil))) aNil)) aNil))) aNil))))) (sSeq (sSet 2 (eOp addF (eVar 2) (eLst (aCons (eFn 5 (fzF F_seen_spans) (aCons (eVar 10) (aCons (eTup (aCons (eTup (aCons (eC (.int 2)) (aCons (eC (.int 1)) aNil))) aNil)) (aCons (eVar 5) (aCons (eVar 11) (aCons (eC (.int 0)) aNil)))))) (aCons (eFn 5 (fzF F_seen_spans) (aCons (eVar 10) (aCons (eTup (aCons (eC .none) aNil)) (aCons (eTup (aCons (eTup (aCons (eTup (aCons (eC (.int 1)) (aCons (eC (.int 1)) aNil))) (aCons (eTup aNil) aNil))) (aCons (eTup (aCons (eTup (aCons (eC (.int 2)) (aCons (eC (.int 1)) aNil))) (aCons (eTup aNil) aNil))) aNil))) (aCons (eVar 11) (aCons (eC (.int 0)) aNil)))))) aNil))))) (sSeq (sSet 3 (eOp addF (eVar 3) (eLst (aCons (eLst (aCons (eTup (aCons (eTup (aCons (eC (.int 2)) (aCons (eC (.int 1)) aNil))) (aCons (eTup (aCons (eC (.int 5)) (aCons (eC (.int 2)) aNil))) aNil))) aNil)) (aCons (eLst aNil) aNil))))) (sSeq (sSet 2 (eOp addF (eVar 2) (eLst (aCons (eFnK 5 [4, 3, 2, 1, 0] (fzF F_seen_spans) (aCons (eC (.int 0)) (aCons (eLst (aCons (eC (.int 0)) (aCons (eC (.int 0)) (aCons (eC (.int 2)) (aCons (eC (.int 2)) aNil))))) (aCons (eFn 1 F_law_lists (aCons (eOp idxF (eVar 4) (eC (.int 1))) aNil)) (aCons (eLst (aCons (eLst (aCons (eC (.int 0)) (aCons (eC (.int 1)) aNil))) aNil)) (aCons (eFn 1 F_law_lists (aCons (eVar 10) aNil)) aNil)))))) aNil)))) (sRet (eFn 2 F_law_same (aCons (eVar 2) (aCons (eOp addF (eVar 3) (eLst (aCons (eLst (aCons (eTup (aCons (eTup (aCons (eC (.int 1)) (aCons (eC (.int 1)) aNil))) (aCons (eTup (aCons (eC (.int 3)) (aCons (eC (.int 1)) aNil))) aNil))) aNil)) aNil))) aNil))))))))))))))))))
def F_law_by_hand_right : List D → Res D := runD 15 m_law_by_hand_right
theorem b_law_by_hand_right  {f : Addr} (T : Tx K mg C)
    (c_seen_spans : Cal P w K mg base 10 "seen_spans" ["chart", "book", "glide", "view", "name"] (spO C 5 F_seen_spans))
    (c_law_same : Cal P w K mg base 9 "_law_same" ["_law_got", "_law_goal"] (spD C 2 F_law_same))
    (c_law_lists : Cal P w K mg base 9 "_law_lists" ["_law_matter"] (spD C 1 F_law_lists))
    (c_law_row_map : Cal P w K mg base 1 "_law_row_map" [] (spD C 0 F_law_row_map))
    (k_seen_spans : CalK P w K mg base 10 "seen_spans" ["name", "view", "glide", "book", "chart"] [4, 3, 2, 1, 0] (spD C 5 (fzF F_seen_spans)))
    (nx_law_row_map : NoX (F_law_row_map [])) : BodyOk P w K mg base C 10 "_law_by_hand_right" s_law_by_hand_right N_law_by_hand_right f (m_law_by_hand_right) := by
  intro cdv A outer s H E hr
  have tk : Takes (cxOf (L2.CX P w) P w K mg base N_law_by_hand_right "_law_by_hand_right" (defScope s_law_by_hand_right) f cdv A outer s H E) (fun cls d _ H => E cls d H) := takes_of rfl rfl rfl rfl
  exact (pss_c (ps_tg [6, 7] (pcs_c (pc_v (pd_fn0 c_law_row_map hr nx_law_row_map)) (pcs_c (pc_v (pd_tup (pad_cons pd_int (pad_cons pd_int pad_nil)))) pcs_n)) (pgn_c 6 (pgn_c 7 pgn_n sc_law_by_hand_right.nd) sc_law_by_hand_right.nd))
    (pss_c (ps_s 0 (pd_ct call_tuple_of o_tupleF T.z_tuple boot_tuple (pad_cons (pd_fz (pod_lc (own := [("_law_own", 13)]) sc_law_by_hand_right.nd (pi_s (pd_tup (pad_cons (pd_neg pd_int) (pad_cons pd_int (pad_cons pd_int pad_nil))))) (blkOk_by (N := N_law_by_hand_right) (sc := defScope s_law_by_hand_right) (by decide +kernel)) (fun _ _ _ _ _ => (pg_n 13 sc_law_by_hand_right.nd)) (fun _ _ _ _ _ => pts_0) (fun _ _ _ _ _ => (pd_tup (pad_cons (pd_tup (pad_cons (pd_v 13) (pad_cons pd_int pad_nil))) (pad_cons (pd_tup (pad_cons pd_int (pad_cons pd_int pad_nil))) pad_nil)))))) pad_nil)) sc_law_by_hand_right.nd)
    (pss_c (ps_s 1 (pd_ct call_tuple_of o_tupleF T.z_tuple boot_tuple (pad_cons (pd_fz (pod_lc (own := [("_law_own", 13)]) sc_law_by_hand_right.nd (pi_s (pd_tup (pad_cons pd_int (pad_cons pd_int (pad_cons pd_int pad_nil))))) (blkOk_by (N := N_law_by_hand_right) (sc := defScope s_law_by_hand_right) (by decide +kernel)) (fun _ _ _ _ _ => (pg_n 13 sc_law_by_hand_right.nd)) (fun _ _ _ _ _ => pts_0) (fun _ _ _ _ _ => (pd_tup (pad_cons (pd_tup (pad_cons (pd_v 13) (pad_cons pd_int pad_nil))) (pad_cons (pd_tup (pad_cons pd_int (pad_cons pd_int pad_nil))) pad_nil)))))) pad_nil)) sc_law_by_hand_right.nd)
    (pss_c (ps_tg [8, 9] (pcs_c (pc_v (pd_tup (pad_cons (pd_tup (pad_cons (pd_v 7) (pad_cons (pd_v 0) pad_nil))) (pad_cons (pd_tup (pad_cons (pd_tup (pad_cons pd_int (pad_cons pd_int pad_nil))) (pad_cons (pd_v 1) pad_nil))) pad_nil)))) (pcs_c (pc_v (pd_tup (pad_cons (pd_tup (pad_cons pd_int (pad_cons pd_int pad_nil))) (pad_cons (pd_v 7) (pad_cons (pd_tup (pad_cons pd_int (pad_cons pd_int pad_nil))) pad_nil))))) pcs_n)) (pgn_c 8 (pgn_c 9 pgn_n sc_law_by_hand_right.nd) sc_law_by_hand_right.nd))
    (pss_c (ps_s 2 (pd_add (pd_fz (pod_lc (own := [("_law_k", 14)]) sc_law_by_hand_right.nd (pi_s (pd_tup (pad_cons pd_int (pad_cons pd_int (pad_cons pd_int pad_nil))))) (blkOk_by (N := N_law_by_hand_right) (sc := defScope s_law_by_hand_right) (by decide +kernel)) (fun _ _ _ _ _ => (pg_n 14 sc_law_by_hand_right.nd)) (fun _ _ _ _ _ => pts_0) (fun _ _ _ _ _ => (pd_fn c_seen_spans.fz hr takes0 (pad_cons (pd_v 6) (pad_cons (pd_v 9) (pad_cons (pd_v 8) (pad_cons (pd_tup (pad_cons pd_int (pad_cons pd_int (pad_cons pd_int (pad_cons pd_int pad_nil))))) (pad_cons (pd_v 14) pad_nil))))))))) (pd_lst (pad_cons (pd_fn c_seen_spans.fz hr tk (pad_cons (pd_v 6) (pad_cons (pd_v 9) (pad_cons (pd_v 8) (pad_cons (pd_tup (pad_cons pd_int (pad_cons pd_int (pad_cons pd_int (pad_cons pd_int pad_nil))))) (pad_cons pd_int pad_nil)))))) pad_nil))) sc_law_by_hand_right.nd)
    (pss_c (ps_s 3 (pd_lst (pad_cons (pd_lst (pad_cons (pd_tup (pad_cons (pd_tup (pad_cons pd_int (pad_cons pd_int pad_nil))) (pad_cons (pd_tup (pad_cons pd_int (pad_cons pd_int pad_nil))) pad_nil))) pad_nil)) (pad_cons (pd_lst (pad_cons (pd_tup (pad_cons (pd_tup (pad_cons pd_int (pad_cons pd_int pad_nil))) (pad_cons (pd_tup (pad_cons pd_int (pad_cons pd_int pad_nil))) pad_nil))) pad_nil)) (pad_cons (pd_lst pad_nil) (pad_cons (pd_lst (pad_cons (pd_tup (pad_cons (pd_tup (pad_cons pd_int (pad_cons pd_int pad_nil))) (pad_cons (pd_tup (pad_cons pd_int (pad_cons pd_int pad_nil))) pad_nil))) pad_nil)) pad_nil))))) sc_law_by_hand_right.nd)
    (pss_c (ps_tg [10, 11] (pcs_c (pc_v (pd_tup (pad_cons (pd_tup (pad_cons pd_int (pad_cons pd_int (pad_cons (pd_tup (pad_cons pd_int (pad_cons pd_int (pad_cons pd_int (pad_cons pd_int pad_nil))))) (pad_cons (pd_tup (pad_cons pd_int (pad_cons pd_int (pad_cons pd_int (pad_cons pd_int pad_nil))))) pad_nil))))) pad_nil))) (pcs_c (pc_v (pd_tup (pad_cons pd_int (pad_cons pd_int (pad_cons pd_int (pad_cons pd_int pad_nil)))))) pcs_n)) (pgn_c 10 (pgn_c 11 pgn_n sc_law_by_hand_right.nd) sc_law_by_hand_right.nd))
    (pss_c (ps_slc 4 (own := [("_law_row_so", 12)]) sc_law_by_hand_right.nd (pi_s (pd_tup (pad_cons (pd_tup (pad_cons (pd_tup (pad_cons pd_int (pad_cons pd_int pad_nil))) (pad_cons (pd_tup (pad_cons pd_int (pad_cons pd_int pad_nil))) (pad_cons (pd_tup (pad_cons pd_int (pad_cons pd_int pad_nil))) pad_nil)))) (pad_cons (pd_tup (pad_cons (pd_tup (pad_cons pd_int (pad_cons pd_int pad_nil))) (pad_cons (pd_tup (pad_cons pd_int (pad_cons pd_int pad_nil))) (pad_cons (pd_tup (pad_cons pd_int (pad_cons pd_int pad_nil))) pad_nil)))) (pad_cons (pd_tup (pad_cons (pd_tup (pad_cons pd_int (pad_cons pd_int pad_nil))) (pad_cons (pd_tup (pad_cons pd_int (pad_cons pd_int pad_nil))) (pad_cons (pd_tup (pad_cons pd_int (pad_cons pd_int pad_nil))) pad_nil)))) (pad_cons (pd_tup (pad_cons (pd_tup (pad_cons pd_int (pad_cons pd_int pad_nil))) (pad_cons (pd_tup (pad_cons pd_int (pad_cons pd_int pad_nil))) (pad_cons (pd_tup (pad_cons pd_int (pad_cons pd_int pad_nil))) pad_nil)))) pad_nil)))))) (blkOk_by (N := N_law_by_hand_right) (sc := defScope s_law_by_hand_right) (by decide +kernel)) (fun _ _ _ _ _ => (pg_n 12 sc_law_by_hand_right.nd)) (fun _ _ _ _ _ => pts_0) (fun _ _ _ _ _ => (pd_ct call_tuple_of o_tupleF T.z_tuple boot_tuple (pad_cons (pd_fz (pod_lc (own := [("_law_k", 14), ("_law_own", 13)]) sc_law_by_hand_right.nd (pi_en T.z_enumerate (pd_v 12)) (blkOk_by (by kernel_rfl)) (fun _ _ _ _ _ => (pg_t (pgs_c (pg_n 14 sc_law_by_hand_right.nd) (pgs_c (pg_n 13 sc_law_by_hand_right.nd) pgs_n)))) (fun _ _ _ _ _ => pts_0) (fun _ _ _ _ _ => (pd_tup (pad_cons (pd_tup (pad_cons (pd_add (pd_v 14) pd_int) (pad_cons pd_int pad_nil))) (pad_cons (pd_tup (pad_cons (pd_tup (pad_cons (pd_v 13) (pad_cons (pd_tup (pad_cons pd_int (pad_cons pd_int pad_nil))) pad_nil))) pad_nil)) pad_nil)))))) pad_nil))) (sw_true rfl rfl rfl (by decide +kernel)))
    (pss_c (ps_s 2 (pd_add (pd_v 2) (pd_fz (pod_lc (own := [("_law_own", 13)]) sc_law_by_hand_right.nd (pi_s (pd_v 4)) (blkOk_by (N := N_law_by_hand_right) (sc := defScope s_law_by_hand_right) (by decide +kernel)) (fun _ _ _ _ _ => (pg_n 13 sc_law_by_hand_right.nd)) (fun _ _ _ _ _ => pts_0) (fun _ _ _ _ _ => (pd_fn c_seen_spans.fz hr takes0 (pad_cons (pd_v 10) (pad_cons (pd_tup (pad_cons (pd_tup (pad_cons pd_int (pad_cons pd_int pad_nil))) pad_nil)) (pad_cons (pd_v 13) (pad_cons (pd_v 11) (pad_cons pd_int pad_nil)))))))))) sc_law_by_hand_right.nd)
    (pss_c (ps_s 3 (pd_add (pd_v 3) (pd_lst (pad_cons (pd_lst (pad_cons (pd_tup (pad_cons (pd_tup (pad_cons pd_int (pad_cons pd_int pad_nil))) (pad_cons (pd_tup (pad_cons pd_int (pad_cons pd_int pad_nil))) pad_nil))) (pad_cons (pd_tup (pad_cons (pd_tup (pad_cons pd_int (pad_cons pd_int pad_nil))) (pad_cons (pd_tup (pad_cons pd_int (pad_cons pd_int pad_nil))) pad_nil))) pad_nil))) (pad_cons (pd_lst (pad_cons (pd_tup (pad_cons (pd_tup (pad_cons pd_int (pad_cons pd_int pad_nil))) (pad_cons (pd_tup (pad_cons pd_int (pad_cons pd_int pad_nil))) pad_nil))) pad_nil)) (pad_cons (pd_lst (pad_cons (pd_tup (pad_cons (pd_tup (pad_cons pd_int (pad_cons pd_int pad_nil))) (pad_cons (pd_tup (pad_cons pd_int (pad_cons pd_int pad_nil))) pad_nil))) pad_nil)) (pad_cons (pd_lst pad_nil) pad_nil)))))) sc_law_by_hand_right.nd)
    (pss_c (ps_s 5 (pd_tup (pad_cons (pd_tup (pad_cons (pd_tup (pad_cons pd_int (pad_cons pd_int pad_nil))) (pad_cons (pd_tup pad_nil) pad_nil))) (pad_cons (pd_tup (pad_cons (pd_tup (pad_cons pd_int (pad_cons pd_int pad_nil))) (pad_cons (pd_tup (pad_cons (pd_tup (pad_cons (pd_tup (pad_cons pd_int (pad_cons pd_int pad_nil))) (pad_cons (pd_tup (pad_cons pd_int (pad_cons pd_int pad_nil))) pad_nil))) pad_nil)) pad_nil))) (pad_cons (pd_tup (pad_cons (pd_tup (pad_cons pd_int (pad_cons pd_int pad_nil))) (pad_cons (pd_tup (pad_cons (pd_tup (pad_cons (pd_tup (pad_cons pd_int (pad_cons pd_int pad_nil))) (pad_cons (pd_tup (pad_cons pd_int (pad_cons pd_int pad_nil))) pad_nil))) pad_nil)) pad_nil))) pad_nil)))) sc_law_by_hand_right.nd)
    (pss_c (ps_s 2 (pd_add (pd_v 2) (pd_lst (pad_cons (pd_fn c_seen_spans.fz hr tk (pad_cons (pd_v 10) (pad_cons (pd_tup (pad_cons (pd_tup (pad_cons pd_int (pad_cons pd_int pad_nil))) pad_nil)) (pad_cons (pd_v 5) (pad_cons (pd_v 11) (pad_cons pd_int pad_nil)))))) (pad_cons (pd_fn c_seen_spans.fz hr tk (pad_cons (pd_v 10) (pad_cons (pd_tup (pad_cons pd_non pad_nil)) (pad_cons (pd_tup (pad_cons (pd_tup (pad_cons (pd_tup (pad_cons pd_int (pad_cons pd_int pad_nil))) (pad_cons (pd_tup pad_nil) pad_nil))) (pad_cons (pd_tup (pad_cons (pd_tup (pad_cons pd_int (pad_cons pd_int pad_nil))) (pad_cons (pd_tup pad_nil) pad_nil))) pad_nil))) (pad_cons (pd_v 11) (pad_cons pd_int pad_nil)))))) pad_nil)))) sc_law_by_hand_right.nd)
    (pss_c (ps_s 3 (pd_add (pd_v 3) (pd_lst (pad_cons (pd_lst (pad_cons (pd_tup (pad_cons (pd_tup (pad_cons pd_int (pad_cons pd_int pad_nil))) (pad_cons (pd_tup (pad_cons pd_int (pad_cons pd_int pad_nil))) pad_nil))) pad_nil)) (pad_cons (pd_lst pad_nil) pad_nil)))) sc_law_by_hand_right.nd)
    (pss_c (ps_s 2 (pd_add (pd_v 2) (pd_lst (pad_cons (pd_fnK k_seen_spans hr tk (pkd_cons pd_int (pkd_cons (pd_lst (pad_cons pd_int (pad_cons pd_int (pad_cons pd_int (pad_cons pd_int pad_nil))))) (pkd_cons (pd_fn c_law_lists hr tk (pad_cons (pd_ix (pd_v 4) pd_int) pad_nil)) (pkd_cons (pd_lst (pad_cons (pd_lst (pad_cons pd_int (pad_cons pd_int pad_nil))) pad_nil)) (pkd_cons (pd_fn c_law_lists hr tk (pad_cons (pd_v 10) pad_nil)) pkd_nil)))))) pad_nil))) sc_law_by_hand_right.nd)
    (pss_1 (ps_r (pd_fn c_law_same hr tk (pad_cons (pd_v 2) (pad_cons (pd_add (pd_v 3) (pd_lst (pad_cons (pd_lst (pad_cons (pd_tup (pad_cons (pd_tup (pad_cons pd_int (pad_cons pd_int pad_nil))) (pad_cons (pd_tup (pad_cons pd_int (pad_cons pd_int pad_nil))) pad_nil))) pad_nil)) pad_nil))) pad_nil)))))))))))))))))))

end
end GN

set_option Elab.async false
set_option linter.all false
set_option maxRecDepth 100000
set_option maxHeartbeats 8000000
namespace GN
open PySem PySem.Spec PyProof.Rows L2
section
variable {P : Program} {w : World} {K : PySem.W.Frag} {mg : Str → Option Value} {base : Heap} {C : XC}
abbrev s_law_heard : Stmt := top 67
abbrev N_law_heard : List Str := ["_law_door", "_law_chart", "_law_book", "_law_pairs", "_law_look_here", "_law_k", "_law_found", "error_a", "error_b"]
theorem sc_law_heard : FnScope N_law_heard ["_law_door", "_law_chart", "_law_book", "_law_pairs", "_law_look_here", "_law_k"] (defScope s_law_heard) := ⟨rfl, rfl, rfl, by decide +kernel, rfl, by decide +kernel, by decide +kernel⟩
def m_law_heard : SF :=
  (sSeq (sSet 6 (eC .none)) (sSeq (sTryC (sIf (tB1 (eOp eqF (eVar 0) (eC (.int 0)))) (sSet 6 (eFn 5 (fzF F_seen_spans) (aCons (eVar 1) (aCons (eVar 2) (aCons (eVar 3) (aCons (eVar 4) (aCons (eVar 5) aNil))))))) (sIf (tB1 (eOp eqF (eVar 0) (eC (.int 1)))) (sSet 6 (eFn 4 F_tiles_under (aCons (eVar 1) (aCons (eVar 5) (aCons (eOp idxF (eOp idxF (eOp idxF (eVar 3) (eC (.int 0))) (eC (.int 1))) (eC (.int 0))) (aCons (eVar 4) aNil)))))) (sIf (tB1 (eOp eqF (eVar 0) (eC (.int 2)))) (sSet 6 (eFn 6 F_cut_at (aCons (eVar 1) (aCons (eTup (aCons (eC (.int 0)) aNil)) (aCons (eSl none (some 1) (eOp idxF (eOp idxF (eVar 3) (eC (.int 0))) (eC (.int 1)))) (aCons (eVar 4) (aCons (eOp idxF (eOp idxF (eVar 3) (eC (.int 0))) (eC (.int 0))) (aCons (eVar 5) aNil)))))))) (sIf (tB1 (eOp eqF (eVar 0) (eC (.int 3)))) (sSet 6 (eFn 5 F_picture (aCons (eVar 1) (aCons (eTup (aCons (eC (.int 0)) aNil)) (aCons (eSl none (some 1) (eOp idxF (eOp idxF (eVar 3) (eC (.int 0))) (eC (.int 1)))) (aCons (eVar 4) (aCons (eOp idxF (eOp idxF (eVar 3) (eC (.int 0))) (eC (.int 0))) aNil))))))) (sSet 6 (eFn 4 F_by_tiles (aCons (eVar 1) (aCons (eTup (aCons (eC (.int 0)) aNil)) (aCons (eSl none (some 1) (eOp idxF (eOp idxF (eVar 3) (eC (.int 0))) (eC (.int 1)))) (aCons (eVar 4) aNil)))))))))) 6 7 8) (sRet (eVar 6))))
def F_law_heard : List D → Res D := runD 9 m_law_heard
theorem b_law_heard  {f : Addr} (T : Tx K mg C)
    (c_cut_at : Cal P w K mg base 11 "cut_at" ["chart", "lot", "standing", "view", "scale", "name"] (spD C 6 F_cut_at))
    (c_picture : Cal P w K mg base 10 "picture" ["chart", "lot", "standing", "view", "scale"] (spD C 5 F_picture))
    (c_tiles_under : Cal P w K mg base 10 "tiles_under" ["chart", "name", "place", "size"] (spD C 4 F_tiles_under))
    (c_by_tiles : Cal P w K mg base 10 "by_tiles" ["chart", "lot", "standing", "size"] (spD C 4 F_by_tiles))
    (c_seen_spans : Cal P w K mg base 10 "seen_spans" ["chart", "book", "glide", "view", "name"] (spO C 5 F_seen_spans)) : BodyOk P w K mg base C 11 "_law_heard" s_law_heard N_law_heard f (m_law_heard) := by
  intro cdv A outer s H E hr
  have tk : Takes (cxOf (L2.CX P w) P w K mg base N_law_heard "_law_heard" (defScope s_law_heard) f cdv A outer s H E) (fun cls d _ H => E cls d H) := takes_of rfl rfl rfl rfl
  exact (pss_c (ps_s 6 pd_non sc_law_heard.nd)
    (pss_c (ps_tryH 6 7 8 T.cx T.gn T.tm.g T.z_isinstance T.z_LookupError T.z_ValueError sc_law_heard.nd tk (fun W2 pn2 xe2 tk2 _ => (pss_1 (ps_i (pt_c (op_eqD hr.units) o_eqF (pd_v 0) pd_int)
    (pss_1 (ps_s 6 (pd_fn c_seen_spans.fz hr tk2 (pad_cons (pd_v 1) (pad_cons (pd_v 2) (pad_cons (pd_v 3) (pad_cons (pd_v 4) (pad_cons (pd_v 5) pad_nil)))))) sc_law_heard.nd))
    (pss_1 (ps_i (pt_c (op_eqD hr.units) o_eqF (pd_v 0) pd_int)
    (pss_1 (ps_s 6 (pd_fn c_tiles_under hr tk2 (pad_cons (pd_v 1) (pad_cons (pd_v 5) (pad_cons (pd_ix (pd_ix (pd_ix (pd_v 3) pd_int) pd_int) pd_int) (pad_cons (pd_v 4) pad_nil))))) sc_law_heard.nd))
    (pss_1 (ps_i (pt_c (op_eqD hr.units) o_eqF (pd_v 0) pd_int)
    (pss_1 (ps_s 6 (pd_fn c_cut_at hr tk2 (pad_cons (pd_v 1) (pad_cons (pd_tup (pad_cons pd_int pad_nil)) (pad_cons (pd_sl (pd_ix (pd_ix (pd_v 3) pd_int) pd_int) part_no part_int) (pad_cons (pd_v 4) (pad_cons (pd_ix (pd_ix (pd_v 3) pd_int) pd_int) (pad_cons (pd_v 5) pad_nil))))))) sc_law_heard.nd))
    (pss_1 (ps_i (pt_c (op_eqD hr.units) o_eqF (pd_v 0) pd_int)
    (pss_1 (ps_s 6 (pd_fn c_picture hr tk2 (pad_cons (pd_v 1) (pad_cons (pd_tup (pad_cons pd_int pad_nil)) (pad_cons (pd_sl (pd_ix (pd_ix (pd_v 3) pd_int) pd_int) part_no part_int) (pad_cons (pd_v 4) (pad_cons (pd_ix (pd_ix (pd_v 3) pd_int) pd_int) pad_nil)))))) sc_law_heard.nd))
    (pss_1 (ps_s 6 (pd_fn c_by_tiles hr tk2 (pad_cons (pd_v 1) (pad_cons (pd_tup (pad_cons pd_int pad_nil)) (pad_cons (pd_sl (pd_ix (pd_ix (pd_v 3) pd_int) pd_int) part_no part_int) (pad_cons (pd_v 4) pad_nil))))) sc_law_heard.nd))))))))))))
    (pss_1 (ps_r (pd_v 6)))))

end
end GN

set_option Elab.async false
set_option linter.all false
set_option maxRecDepth 100000
set_option maxHeartbeats 8000000
namespace GN
open PySem PySem.Spec PyProof.Rows L2
section
variable {P : Program} {w : World} {K : PySem.W.Frag} {mg : Str → Option Value} {base : Heap} {C : XC}
abbrev s_law_refused_right : Stmt := top 70
abbrev N_law_refused_right : List Str := ["_law_off", "_law_spots_here", "_law_far", "_law_k", "_law_wide", "_law_got", "_law_due", "_law_things", "_law_row", "_law_at", "_law_pairs", "_law_book", "_law_own", "_law_door", "_law_look_here"]
theorem sc_law_refused_right : FnScope N_law_refused_right ["_law_off"] (defScope s_law_refused_right) := ⟨rfl, rfl, rfl, by decide +kernel, rfl, by decide +kernel, by decide +kernel⟩
def m_law_refused_right : SF :=
  (sSeq (sTup [8, 9] (csC (cV (eFn 0 F_law_row_map aNil)) (csC (cV (eTup (aCons (eC (.int 2)) (aCons (eC (.int 3)) aNil)))) csN))) (sSeq (sSet 1 (eCall tupleF (aCons (eFz (oLc (iSeq (eTup (aCons (eNeg (eC (.int 2))) (aCons (eC (.int 2)) (aCons (eC (.int 6)) aNil))))) (gN 12) tYesF (eTup (aCons (eTup (aCons (eVar 12) (aCons (eC (.int 1)) aNil))) (aCons (eTup (aCons (eC (.int 0)) (aCons (eC (.int 1)) aNil))) aNil))) [12])) aNil))) (sSeq (sSet 2 (eCall tupleF (aCons (eFz (oLc (iSeq (eTup (aCons (eC (.int 0)) (aCons (eC (.int 6)) (aCons (eC (.int 12)) aNil))))) (gN 12) tYesF (eTup (aCons (eTup (aCons (eVar 12) (aCons (eC (.int 1)) aNil))) (aCons (eTup (aCons (eC (.int 0)) (aCons (eC (.int 1)) aNil))) aNil))) [12])) aNil))) (sSeq (sTup [10, 11] (csC (cV (eTup (aCons (eTup (aCons (eVar 9) (aCons (eVar 1) aNil))) (aCons (eTup (aCons (eTup (aCons (eC (.int 2)) (aCons (eC (.int 1)) aNil))) (aCons (eVar 2) aNil))) aNil)))) (csC (cV (eOp mulF (eTup (aCons (eTup (aCons (eC (.int 0)) (aCons (eC (.int 1)) aNil))) aNil)) (eC (.int 3)))) csN))) (sSeq (sTup [5, 6] (csC (cO (oLst aNil)) (csC (cO (oLst aNil)) csN))) (sSeq (sFor (iSeq (eTup (aCons (eC (.int 3)) (aCons (eOp addF (eC (.int 3)) (eVar 0)) (aCons (eNeg (eC (.int 1))) (aCons (eOp subI (eNeg (eC (.int 1))) (eVar 0)) aNil)))))) (gN 3) (sSeq (sSetO 5 (oCat (eVar 5) (eFz (oLc (iSeq (eTup (aCons (eTup (aCons (eC (.int 0)) (aCons (eTup (aCons (eC (.int 3)) (aCons (eC (.int 0)) (aCons (eC (.int 2)) (aCons (eC (.int 2)) aNil))))) aNil))) (aCons (eTup (aCons (eC (.int 1)) (aCons (eC (.int 4)) aNil))) (aCons (eTup (aCons (eC (.int 2)) (aCons (eTup (aCons (eC (.int 3)) (aCons (eC (.int 0)) (aCons (eC (.int 2)) (aCons (eC (.int 2)) aNil))))) aNil))) aNil))))) (gT 2 (gsC (gN 13) (gsC (gN 14) gsN))) tYesF (eFn 6 F_law_heard (aCons (eVar 13) (aCons (eVar 8) (aCons (eVar 11) (aCons (eVar 10) (aCons (eVar 14) (aCons (eVar 3) aNil))))))) [13, 14])))) (sSetO 6 (oCat (eVar 6) (eOp mulF (eLst (aCons (eLst (aCons (eC (.str "no place")) (aCons (eVar 3) (aCons (eC (.bool true)) aNil)))) aNil)) (eC (.int 3))))))) (sSeq (sSet 4 (eTup (aCons (eTup (aCons (eC (.int 2001)) (aCons (eC (.int 1)) (aCons (eTup (aCons (eC (.int 0)) (aCons (eC (.int 9)) (aCons (eC (.int 0)) (aCons (eC (.int 9)) aNil))))) (aCons (eTup (aCons (eC (.int 0)) (aCons (eC (.int 9)) (aCons (eC (.int 0)) (aCons (eC (.int 9)) aNil))))) aNil))))) (aCons (eTup (aCons (eC (.int 2000)) (aCons (eC (.int 1)) (aCons (eTup (aCons (eC (.int 0)) (aCons (eC (.int 9)) (aCons (eC (.int 0)) (aCons (eC (.int 9)) aNil))))) (aCons (eTup (aCons (eC (.int 0)) (aCons (eC (.int 9)) (aCons (eC (.int 0)) (aCons (eC (.int 9)) aNil))))) aNil))))) aNil)))) (sSeq (sSetO 5 (oCat (eVar 5) (eLst (aCons (eFn 6 F_law_heard (aCons (eC (.int 1)) (aCons (eVar 4) (aCons (eVar 11) (aCons (eVar 10) (aCons (eC (.int 1)) (aCons (eC (.int 0)) aNil))))))) (aCons (eFn 6 F_law_heard (aCons (eC (.int 4)) (aCons (eVar 4) (aCons (eVar 11) (aCons (eVar 10) (aCons (eC (.int 1)) (aCons (eC (.int 0)) aNil))))))) (aCons (eCall lenF (aCons (eFn 6 F_law_heard (aCons (eC (.int 1)) (aCons (eVar 4) (aCons (eVar 11) (aCons (eVar 10) (aCons (eC (.int 1)) (aCons (eC (.int 1)) aNil))))))) aNil)) (aCons (eFn 6 F_law_heard (aCons (eC (.int 3)) (aCons (eVar 8) (aCons (eVar 11) (aCons (eVar 10) (aCons (eTup (aCons (eC (.int 0)) (aCons (eC (.int 0)) (aCons (eC (.int 20001)) (aCons (eC (.int 1)) aNil))))) (aCons (eC (.int 0)) aNil))))))) aNil))))))) (sSeq (sSetO 5 (oCat (eVar 5) (eLst (aCons (eFn 6 F_law_heard (aCons (eC (.int 3)) (aCons (eVar 8) (aCons (eVar 11) (aCons (eVar 10) (aCons (eTup (aCons (eC (.int 0)) (aCons (eC (.int 0)) (aCons (eC (.int 200)) (aCons (eC (.int 101)) aNil))))) (aCons (eC (.int 0)) aNil))))))) (aCons (eCall lenF (aCons (eFn 6 F_law_heard (aCons (eC (.int 3)) (aCons (eVar 8) (aCons (eVar 11) (aCons (eVar 10) (aCons (eTup (aCons (eC (.int 0)) (aCons (eC (.int 0)) (aCons (eIf (tB1 (eOp eqF (eVar 0) (eC (.int 0)))) (eC (.int 200)) (eC (.int 2))) (aCons (eC (.int 100)) aNil))))) (aCons (eC (.int 0)) aNil))))))) aNil)) aNil))))) (sSeq (sSetO 6 (oCat (eVar 6) (eLst (aCons (eLst (aCons (eC (.str "much")) (aCons (eC (.bool true)) aNil))) (aCons (eLst (aCons (eC (.str "much")) (aCons (eC (.bool true)) aNil))) (aCons (eC (.int 2000)) (aCons (eLst (aCons (eC (.str "much")) (aCons (eC (.bool true)) aNil))) (aCons (eLst (aCons (eC (.str "much")) (aCons (eC (.bool true)) aNil))) (aCons (eC (.int 100)) aNil))))))))) (sSeq (sSet 7 (eLst (aCons (eTup (aCons (eC (.int 0)) (aCons (eC (.int 0)) (aCons (eC (.int 1)) (aCons (eC (.int 1)) aNil))))) (aCons (eTup (aCons (eNeg (eC (.int 3))) (aCons (eOp powI (eC (.int 10)) (eC (.int 30))) (aCons (eC (.int 7)) (aCons (eOp powI (eC (.int 10)) (eC (.int 9))) aNil))))) (aCons (eTup (aCons (eC (.int 0)) (aCons (eC (.int 0)) (aCons (eC (.int 0)) (aCons (eC (.int 1)) aNil))))) (aCons (eTup (aCons (eC (.int 0)) (aCons (eC (.int 0)) (aCons (eC (.int 1)) (aCons (eNeg (eC (.int 1))) aNil))))) (aCons (eTup (aCons (eC (.int 0)) (aCons (eC (.int 0)) (aCons (eC (.int 1)) aNil)))) (aCons (eTup (aCons (eC (.int 0)) (aCons (eC (.int 0)) (aCons (eC (.int 1)) (aCons (eC (.int 1)) (aCons (eC (.int 1)) aNil)))))) (aCons (eLst (aCons (eC (.int 0)) (aCons (eC (.int 0)) (aCons (eC (.int 1)) (aCons (eC (.int 1)) aNil))))) (aCons (eTup (aCons (eC (.int 0)) (aCons (eC (.int 0)) (aCons (eC (.int 1)) (aCons (eC (.bool true)) aNil))))) (aCons (eTup (aCons (eC (.int 0)) (aCons (eC .none) (aCons (eC (.int 1)) (aCons (eC (.int 1)) aNil))))) (aCons (eTup (aCons (eC (.str "0")) (aCons (eC (.int 0)) (aCons (eC (.int 1)) (aCons (eC (.int 1)) aNil))))) (aCons (eTup (aCons (eLst (aCons (eC (.int 0)) aNil)) (aCons (eC (.int 0)) (aCons (eC (.int 1)) (aCons (eC (.int 1)) aNil))))) (aCons (eC .none) (aCons (eTup aNil) (aCons (eC (.str "0011")) (aCons (eTup (aCons (eTup (aCons (eC (.int 0)) (aCons (eC (.int 0)) aNil))) (aCons (eTup (aCons (eC (.int 1)) (aCons (eC (.int 1)) aNil))) aNil))) aNil))))))))))))))))) (sSeq (sApp 5 (eFz (oLc (iSeq (eVar 7)) (gN 12) tYesF (eFn 1 F_is_view (aCons (eVar 12) aNil)) [12]))) (sSeq (sApp 6 (eOp addF (eLst (aCons (eC (.bool true)) (aCons (eC (.bool true)) aNil))) (eOp mulF (eLst (aCons (eC (.bool false)) aNil)) (eC (.int 13))))) (sSeq (sSetO 5 (oCat (eVar 5) (eLst (aCons (eFnK 2 [1, 0] F_window (aCons (eLst (aCons (eC (.int 2)) (aCons (eC (.int 3)) aNil))) (aCons (eLst (aCons (eC (.int 2)) (aCons (eC (.int 0)) (aCons (eC (.int 5)) (aCons (eC (.int 1)) aNil))))) aNil))) (aCons (eFnK 6 [5, 4, 3, 2, 1, 0] F_least_view (aCons (eC (.int 0)) (aCons (eC (.int 3)) (aCons (eLst (aCons (eC (.int 2)) (aCons (eC (.int 3)) aNil))) (aCons (eFn 1 F_law_lists (aCons (eVar 1) aNil)) (aCons (eLst (aCons (eC (.int 0)) (aCons (eC (.int 1)) (aCons (eC (.int 2)) aNil)))) (aCons (eFn 1 F_law_lists (aCons (eVar 8) aNil)) aNil))))))) aNil))))) (sSeq (sSetO 5 (oCat (eVar 5) (eLst (aCons (eFnK 6 [5, 4, 3, 2, 1, 0] F_cut_at (aCons (eC (.int 0)) (aCons (eLst (aCons (eC (.int 2)) (aCons (eC (.int 3)) aNil))) (aCons (eLst (aCons (eC (.int 2)) (aCons (eC (.int 0)) (aCons (eC (.int 5)) (aCons (eC (.int 1)) aNil))))) (aCons (eFn 1 F_law_lists (aCons (eVar 1) aNil)) (aCons (eLst (aCons (eC (.int 0)) (aCons (eC (.int 1)) (aCons (eC (.int 2)) aNil)))) (aCons (eFn 1 F_law_lists (aCons (eVar 8) aNil)) aNil))))))) (aCons (eFnK 4 [3, 2, 1, 0] F_tiles_under (aCons (eC (.int 4)) (aCons (eLst (aCons (eLst (aCons (eC (.int 2)) (aCons (eC (.int 1)) aNil))) (aCons (eLst (aCons (eC (.int 0)) (aCons (eC (.int 1)) aNil))) aNil))) (aCons (eC (.int 1)) (aCons (eFn 1 F_law_lists (aCons (eVar 8) aNil)) aNil))))) aNil))))) (sSeq (sApp 5 (eFnK 5 [4, 3, 2, 1, 0] F_picture (aCons (eLst (aCons (eC (.int 2)) (aCons (eC (.int 3)) aNil))) (aCons (eLst (aCons (eC (.int 3)) (aCons (eC (.int 0)) (aCons (eC (.int 8)) (aCons (eC (.int 2)) aNil))))) (aCons (eFn 1 F_law_lists (aCons (eVar 1) aNil)) (aCons (eLst (aCons (eC (.int 0)) (aCons (eC (.int 1)) (aCons (eC (.int 2)) aNil)))) (aCons (eFn 1 F_law_lists (aCons (eVar 8) aNil)) aNil))))))) (sSeq (sSetO 6 (oCat (eVar 6) (eLst (aCons (eTup (aCons (eTup (aCons (eNeg (eC (.int 7))) (aCons (eC (.int 6)) aNil))) (aCons (eTup (aCons (eNeg (eC (.int 1))) (aCons (eC (.int 2)) aNil))) (aCons (eTup (aCons (eC (.int 23)) (aCons (eC (.int 6)) aNil))) (aCons (eTup (aCons (eC (.int 1)) (aCons (eC (.int 2)) aNil))) aNil))))) (aCons (eTup (aCons (eC (.int 3)) (aCons (eC (.int 0)) (aCons (eC (.int 16)) (aCons (eC (.int 2)) aNil))))) (aCons (eTup (aCons (eTup (aCons (eC (.int 5)) (aCons (eC (.int 6)) aNil))) (aCons (eTup (aCons (eC (.int 0)) (aCons (eC (.int 1)) aNil))) (aCons (eTup (aCons (eC (.int 0)) (aCons (eC (.int 1)) aNil))) (aCons (eTup (aCons (eC (.int 1)) (aCons (eC (.int 2)) aNil))) aNil))))) (aCons (eTup (aCons (eTup (aCons (eC (.int 0)) (aCons (eC (.int 0)) aNil))) (aCons (eTup (aCons (eC (.int 1)) (aCons (eC (.int 0)) aNil))) aNil))) (aCons (eTup (aCons (eC (.str "........")) (aCons (eC (.str "00001111")) aNil))) aNil)))))))) (sRet (eFn 2 F_law_same (aCons (eVar 5) (aCons (eVar 6) aNil)))))))))))))))))))))
def F_law_refused_right : List D → Res D := runD 15 m_law_refused_right
theorem b_law_refused_right  {f : Addr} (T : Tx K mg C)
    (c_is_view : Cal P w K mg base 2 "is_view" ["thing"] (spD C 1 F_is_view))
    (c_law_same : Cal P w K mg base 9 "_law_same" ["_law_got", "_law_goal"] (spD C 2 F_law_same))
    (c_law_lists : Cal P w K mg base 9 "_law_lists" ["_law_matter"] (spD C 1 F_law_lists))
    (c_law_row_map : Cal P w K mg base 1 "_law_row_map" [] (spD C 0 F_law_row_map))
    (c_law_heard : Cal P w K mg base 12 "_law_heard" ["_law_door", "_law_chart", "_law_book", "_law_pairs", "_law_look_here", "_law_k"] (spD C 6 F_law_heard))
    (k_cut_at : CalK P w K mg base 11 "cut_at" ["name", "scale", "view", "standing", "lot", "chart"] [5, 4, 3, 2, 1, 0] (spD C 6 F_cut_at))
    (k_least_view : CalK P w K mg base 10 "least_view" ["q", "p", "scale", "standing", "lot", "chart"] [5, 4, 3, 2, 1, 0] (spD C 6 F_least_view))
    (k_picture : CalK P w K mg base 10 "picture" ["scale", "view", "standing", "lot", "chart"] [4, 3, 2, 1, 0] (spD C 5 F_picture))
    (k_tiles_under : CalK P w K mg base 10 "tiles_under" ["size", "place", "name", "chart"] [3, 2, 1, 0] (spD C 4 F_tiles_under))
    (k_window : CalK P w K mg base 10 "window" ["scale", "view"] [1, 0] (spD C 2 F_window))
    (nx_law_row_map : NoX (F_law_row_map [])) : BodyOk P w K mg base C 12 "_law_refused_right" s_law_refused_right N_law_refused_right f (m_law_refused_right) := by
  intro cdv A outer s H E hr
  have tk : Takes (cxOf (L2.CX P w) P w K mg base N_law_refused_right "_law_refused_right" (defScope s_law_refused_right) f cdv A outer s H E) (fun cls d _ H => E cls d H) := takes_of rfl rfl rfl rfl
  exact (pss_c (ps_tg [8, 9] (pcs_c (pc_v (pd_fn0 c_law_row_map hr nx_law_row_map)) (pcs_c (pc_v (pd_tup (pad_cons pd_int (pad_cons pd_int pad_nil)))) pcs_n)) (pgn_c 8 (pgn_c 9 pgn_n sc_law_refused_right.nd) sc_law_refused_right.nd))
    (pss_c (ps_s 1 (pd_ct call_tuple_of o_tupleF T.z_tuple boot_tuple (pad_cons (pd_fz (pod_lc (own := [("_law_own", 12)]) sc_law_refused_right.nd (pi_s (pd_tup (pad_cons (pd_neg pd_int) (pad_cons pd_int (pad_cons pd_int pad_nil))))) (blkOk_by (N := N_law_refused_right) (sc := defScope s_law_refused_right) (by decide +kernel)) (fun _ _ _ _ _ => (pg_n 12 sc_law_refused_right.nd)) (fun _ _ _ _ _ => pts_0) (fun _ _ _ _ _ => (pd_tup (pad_cons (pd_tup (pad_cons (pd_v 12) (pad_cons pd_int pad_nil))) (pad_cons (pd_tup (pad_cons pd_int (pad_cons pd_int pad_nil))) pad_nil)))))) pad_nil)) sc_law_refused_right.nd)
    (pss_c (ps_s 2 (pd_ct call_tuple_of o_tupleF T.z_tuple boot_tuple (pad_cons (pd_fz (pod_lc (own := [("_law_own", 12)]) sc_law_refused_right.nd (pi_s (pd_tup (pad_cons pd_int (pad_cons pd_int (pad_cons pd_int pad_nil))))) (blkOk_by (N := N_law_refused_right) (sc := defScope s_law_refused_right) (by decide +kernel)) (fun _ _ _ _ _ => (pg_n 12 sc_law_refused_right.nd)) (fun _ _ _ _ _ => pts_0) (fun _ _ _ _ _ => (pd_tup (pad_cons (pd_tup (pad_cons (pd_v 12) (pad_cons pd_int pad_nil))) (pad_cons (pd_tup (pad_cons pd_int (pad_cons pd_int pad_nil))) pad_nil)))))) pad_nil)) sc_law_refused_right.nd)
    (pss_c (ps_tg [10, 11] (pcs_c (pc_v (pd_tup (pad_cons (pd_tup (pad_cons (pd_v 9) (pad_cons (pd_v 1) pad_nil))) (pad_cons (pd_tup (pad_cons (pd_tup (pad_cons pd_int (pad_cons pd_int pad_nil))) (pad_cons (pd_v 2) pad_nil))) pad_nil)))) (pcs_c (pc_v (pd_mul (pd_tup (pad_cons (pd_tup (pad_cons pd_int (pad_cons pd_int pad_nil))) pad_nil)) pd_int)) pcs_n)) (pgn_c 10 (pgn_c 11 pgn_n sc_law_refused_right.nd) sc_law_refused_right.nd))
    (pss_c (ps_t2 5 6 (pcs_c (pc_o (pod_lst pad_nil)) (pcs_c (pc_o (pod_lst pad_nil)) pcs_n)) sc_law_refused_right.nd rfl)
    (pss_c (ps_f (vs := [3]) (pi_s (pd_tup (pad_cons pd_int (pad_cons (pd_add pd_int (pd_v 0)) (pad_cons (pd_neg pd_int) (pad_cons (pd_sub (pd_neg pd_int) (pd_v 0)) pad_nil)))))) (pg_n 3 sc_law_refused_right.nd)
    (pss_c (ps_o 5 (pod_cat (pd_v 5) (pd_fz (pod_lc (own := [("_law_door", 13), ("_law_look_here", 14)]) sc_law_refused_right.nd (pi_s (pd_tup (pad_cons (pd_tup (pad_cons pd_int (pad_cons (pd_tup (pad_cons pd_int (pad_cons pd_int (pad_cons pd_int (pad_cons pd_int pad_nil))))) pad_nil))) (pad_cons (pd_tup (pad_cons pd_int (pad_cons pd_int pad_nil))) (pad_cons (pd_tup (pad_cons pd_int (pad_cons (pd_tup (pad_cons pd_int (pad_cons pd_int (pad_cons pd_int (pad_cons pd_int pad_nil))))) pad_nil))) pad_nil))))) (blkOk_by (N := N_law_refused_right) (sc := defScope s_law_refused_right) (by decide +kernel)) (fun _ _ _ _ _ => (pg_t (pgs_c (pg_n 13 sc_law_refused_right.nd) (pgs_c (pg_n 14 sc_law_refused_right.nd) pgs_n)))) (fun _ _ _ _ _ => pts_0) (fun _ _ _ _ _ => (pd_fn c_law_heard hr takes0 (pad_cons (pd_v 13) (pad_cons (pd_v 8) (pad_cons (pd_v 11) (pad_cons (pd_v 10) (pad_cons (pd_v 14) (pad_cons (pd_v 3) pad_nil))))))))))) sc_law_refused_right.nd)
    (pss_1 (ps_o 6 (pod_cat (pd_v 6) (pd_mul (pd_lst (pad_cons (pd_lst (pad_cons pd_str (pad_cons (pd_v 3) (pad_cons pd_bl pad_nil)))) pad_nil)) pd_int)) sc_law_refused_right.nd))) (passes_of rfl))
    (pss_c (ps_s 4 (pd_tup (pad_cons (pd_tup (pad_cons pd_int (pad_cons pd_int (pad_cons (pd_tup (pad_cons pd_int (pad_cons pd_int (pad_cons pd_int (pad_cons pd_int pad_nil))))) (pad_cons (pd_tup (pad_cons pd_int (pad_cons pd_int (pad_cons pd_int (pad_cons pd_int pad_nil))))) pad_nil))))) (pad_cons (pd_tup (pad_cons pd_int (pad_cons pd_int (pad_cons (pd_tup (pad_cons pd_int (pad_cons pd_int (pad_cons pd_int (pad_cons pd_int pad_nil))))) (pad_cons (pd_tup (pad_cons pd_int (pad_cons pd_int (pad_cons pd_int (pad_cons pd_int pad_nil))))) pad_nil))))) pad_nil))) sc_law_refused_right.nd)
    (pss_c (ps_o 5 (pod_cat (pd_v 5) (pd_lst (pad_cons (pd_fn c_law_heard hr tk (pad_cons pd_int (pad_cons (pd_v 4) (pad_cons (pd_v 11) (pad_cons (pd_v 10) (pad_cons pd_int (pad_cons pd_int pad_nil))))))) (pad_cons (pd_fn c_law_heard hr tk (pad_cons pd_int (pad_cons (pd_v 4) (pad_cons (pd_v 11) (pad_cons (pd_v 10) (pad_cons pd_int (pad_cons pd_int pad_nil))))))) (pad_cons (pd_cb call_len o_lenF T.z_len PySem.boot_len (pad_cons (pd_fn c_law_heard hr tk (pad_cons pd_int (pad_cons (pd_v 4) (pad_cons (pd_v 11) (pad_cons (pd_v 10) (pad_cons pd_int (pad_cons pd_int pad_nil))))))) pad_nil)) (pad_cons (pd_fn c_law_heard hr tk (pad_cons pd_int (pad_cons (pd_v 8) (pad_cons (pd_v 11) (pad_cons (pd_v 10) (pad_cons (pd_tup (pad_cons pd_int (pad_cons pd_int (pad_cons pd_int (pad_cons pd_int pad_nil))))) (pad_cons pd_int pad_nil))))))) pad_nil)))))) sc_law_refused_right.nd)
    (pss_c (ps_o 5 (pod_cat (pd_v 5) (pd_lst (pad_cons (pd_fn c_law_heard hr tk (pad_cons pd_int (pad_cons (pd_v 8) (pad_cons (pd_v 11) (pad_cons (pd_v 10) (pad_cons (pd_tup (pad_cons pd_int (pad_cons pd_int (pad_cons pd_int (pad_cons pd_int pad_nil))))) (pad_cons pd_int pad_nil))))))) (pad_cons (pd_cb call_len o_lenF T.z_len PySem.boot_len (pad_cons (pd_fn c_law_heard hr tk (pad_cons pd_int (pad_cons (pd_v 8) (pad_cons (pd_v 11) (pad_cons (pd_v 10) (pad_cons (pd_tup (pad_cons pd_int (pad_cons pd_int (pad_cons (pd_if (pt_c (op_eqD hr.units) o_eqF (pd_v 0) pd_int) pd_int pd_int) (pad_cons pd_int pad_nil))))) (pad_cons pd_int pad_nil))))))) pad_nil)) pad_nil)))) sc_law_refused_right.nd)
    (pss_c (ps_o 6 (pod_cat (pd_v 6) (pd_lst (pad_cons (pd_lst (pad_cons pd_str (pad_cons pd_bl pad_nil))) (pad_cons (pd_lst (pad_cons pd_str (pad_cons pd_bl pad_nil))) (pad_cons pd_int (pad_cons (pd_lst (pad_cons pd_str (pad_cons pd_bl pad_nil))) (pad_cons (pd_lst (pad_cons pd_str (pad_cons pd_bl pad_nil))) (pad_cons pd_int pad_nil)))))))) sc_law_refused_right.nd)
    (pss_c (ps_s 7 (pd_lst (pad_cons (pd_tup (pad_cons pd_int (pad_cons pd_int (pad_cons pd_int (pad_cons pd_int pad_nil))))) (pad_cons (pd_tup (pad_cons (pd_neg pd_int) (pad_cons (pd_pow pd_int pd_int) (pad_cons pd_int (pad_cons (pd_pow pd_int pd_int) pad_nil))))) (pad_cons (pd_tup (pad_cons pd_int (pad_cons pd_int (pad_cons pd_int (pad_cons pd_int pad_nil))))) (pad_cons (pd_tup (pad_cons pd_int (pad_cons pd_int (pad_cons pd_int (pad_cons (pd_neg pd_int) pad_nil))))) (pad_cons (pd_tup (pad_cons pd_int (pad_cons pd_int (pad_cons pd_int pad_nil)))) (pad_cons (pd_tup (pad_cons pd_int (pad_cons pd_int (pad_cons pd_int (pad_cons pd_int (pad_cons pd_int pad_nil)))))) (pad_cons (pd_lst (pad_cons pd_int (pad_cons pd_int (pad_cons pd_int (pad_cons pd_int pad_nil))))) (pad_cons (pd_tup (pad_cons pd_int (pad_cons pd_int (pad_cons pd_int (pad_cons pd_bl pad_nil))))) (pad_cons (pd_tup (pad_cons pd_int (pad_cons pd_non (pad_cons pd_int (pad_cons pd_int pad_nil))))) (pad_cons (pd_tup (pad_cons pd_str (pad_cons pd_int (pad_cons pd_int (pad_cons pd_int pad_nil))))) (pad_cons (pd_tup (pad_cons (pd_lst (pad_cons pd_int pad_nil)) (pad_cons pd_int (pad_cons pd_int (pad_cons pd_int pad_nil))))) (pad_cons pd_non (pad_cons (pd_tup pad_nil) (pad_cons pd_str (pad_cons (pd_tup (pad_cons (pd_tup (pad_cons pd_int (pad_cons pd_int pad_nil))) (pad_cons (pd_tup (pad_cons pd_int (pad_cons pd_int pad_nil))) pad_nil))) pad_nil)))))))))))))))) sc_law_refused_right.nd)
    (pss_c (ps_app 5 (pd_fz (pod_lc (own := [("_law_own", 12)]) sc_law_refused_right.nd (pi_s (pd_v 7)) (blkOk_by (N := N_law_refused_right) (sc := defScope s_law_refused_right) (by decide +kernel)) (fun _ _ _ _ _ => (pg_n 12 sc_law_refused_right.nd)) (fun _ _ _ _ _ => pts_0) (fun _ _ _ _ _ => (pd_fn c_is_view hr takes0 (pad_cons (pd_v 12) pad_nil))))))
    (pss_c (ps_app 6 (pd_add (pd_lst (pad_cons pd_bl (pad_cons pd_bl pad_nil))) (pd_mul (pd_lst (pad_cons pd_bl pad_nil)) pd_int)))
    (pss_c (ps_o 5 (pod_cat (pd_v 5) (pd_lst (pad_cons (pd_fnK k_window hr tk (pkd_cons (pd_lst (pad_cons pd_int (pad_cons pd_int pad_nil))) (pkd_cons (pd_lst (pad_cons pd_int (pad_cons pd_int (pad_cons pd_int (pad_cons pd_int pad_nil))))) pkd_nil))) (pad_cons (pd_fnK k_least_view hr tk (pkd_cons pd_int (pkd_cons pd_int (pkd_cons (pd_lst (pad_cons pd_int (pad_cons pd_int pad_nil))) (pkd_cons (pd_fn c_law_lists hr tk (pad_cons (pd_v 1) pad_nil)) (pkd_cons (pd_lst (pad_cons pd_int (pad_cons pd_int (pad_cons pd_int pad_nil)))) (pkd_cons (pd_fn c_law_lists hr tk (pad_cons (pd_v 8) pad_nil)) pkd_nil))))))) pad_nil)))) sc_law_refused_right.nd)
    (pss_c (ps_o 5 (pod_cat (pd_v 5) (pd_lst (pad_cons (pd_fnK k_cut_at hr tk (pkd_cons pd_int (pkd_cons (pd_lst (pad_cons pd_int (pad_cons pd_int pad_nil))) (pkd_cons (pd_lst (pad_cons pd_int (pad_cons pd_int (pad_cons pd_int (pad_cons pd_int pad_nil))))) (pkd_cons (pd_fn c_law_lists hr tk (pad_cons (pd_v 1) pad_nil)) (pkd_cons (pd_lst (pad_cons pd_int (pad_cons pd_int (pad_cons pd_int pad_nil)))) (pkd_cons (pd_fn c_law_lists hr tk (pad_cons (pd_v 8) pad_nil)) pkd_nil))))))) (pad_cons (pd_fnK k_tiles_under hr tk (pkd_cons pd_int (pkd_cons (pd_lst (pad_cons (pd_lst (pad_cons pd_int (pad_cons pd_int pad_nil))) (pad_cons (pd_lst (pad_cons pd_int (pad_cons pd_int pad_nil))) pad_nil))) (pkd_cons pd_int (pkd_cons (pd_fn c_law_lists hr tk (pad_cons (pd_v 8) pad_nil)) pkd_nil))))) pad_nil)))) sc_law_refused_right.nd)
    (pss_c (ps_app 5 (pd_fnK k_picture hr tk (pkd_cons (pd_lst (pad_cons pd_int (pad_cons pd_int pad_nil))) (pkd_cons (pd_lst (pad_cons pd_int (pad_cons pd_int (pad_cons pd_int (pad_cons pd_int pad_nil))))) (pkd_cons (pd_fn c_law_lists hr tk (pad_cons (pd_v 1) pad_nil)) (pkd_cons (pd_lst (pad_cons pd_int (pad_cons pd_int (pad_cons pd_int pad_nil)))) (pkd_cons (pd_fn c_law_lists hr tk (pad_cons (pd_v 8) pad_nil)) pkd_nil)))))))
    (pss_c (ps_o 6 (pod_cat (pd_v 6) (pd_lst (pad_cons (pd_tup (pad_cons (pd_tup (pad_cons (pd_neg pd_int) (pad_cons pd_int pad_nil))) (pad_cons (pd_tup (pad_cons (pd_neg pd_int) (pad_cons pd_int pad_nil))) (pad_cons (pd_tup (pad_cons pd_int (pad_cons pd_int pad_nil))) (pad_cons (pd_tup (pad_cons pd_int (pad_cons pd_int pad_nil))) pad_nil))))) (pad_cons (pd_tup (pad_cons pd_int (pad_cons pd_int (pad_cons pd_int (pad_cons pd_int pad_nil))))) (pad_cons (pd_tup (pad_cons (pd_tup (pad_cons pd_int (pad_cons pd_int pad_nil))) (pad_cons (pd_tup (pad_cons pd_int (pad_cons pd_int pad_nil))) (pad_cons (pd_tup (pad_cons pd_int (pad_cons pd_int pad_nil))) (pad_cons (pd_tup (pad_cons pd_int (pad_cons pd_int pad_nil))) pad_nil))))) (pad_cons (pd_tup (pad_cons (pd_tup (pad_cons pd_int (pad_cons pd_int pad_nil))) (pad_cons (pd_tup (pad_cons pd_int (pad_cons pd_int pad_nil))) pad_nil))) (pad_cons (pd_tup (pad_cons pd_str (pad_cons pd_str pad_nil))) pad_nil))))))) sc_law_refused_right.nd)
    (pss_1 (ps_r (pd_fn c_law_same hr tk (pad_cons (pd_v 5) (pad_cons (pd_v 6) pad_nil))))))))))))))))))))))

end
end GN

set_option Elab.async false
set_option linter.all false
set_option maxRecDepth 100000
set_option maxHeartbeats 8000000
/-! PM: with law. PL: _law_cells and law: the script is read by hand. -/
namespace GN
open PySem PySem.Spec PyProof.Rows L2
theorem for_of {C : XC} {W : WX} {J : It} {S H : Hp} {σ : St} {ρ : En} {ds : List D} {g : GF} {fb : SF} {vs : List Nat} {Dn : Ends} (L : Lk S H σ ρ) (ok : IterOk J ds S) (p : Post C W S H σ ρ (forL g fb ds ρ) (KS S H σ ρ Dn)) :
    tFor (fun _ _ R => R J H) (tG g vs) (tS C W fb) Dn σ H := by
  refine for_it ok (fun i σ2 H2 => ∃ S2 ρ2, Go S H σ ρ S2 H2 σ2 ρ2 ∧ Post C W S2 H2 σ2 ρ2 (forL g fb (ds.drop i) ρ2) (KS S2 H2 σ2 ρ2 Dn)) ⟨S, ρ, .refl L, p⟩ (fun i σ2 H2 _ ⟨S2, ρ2, g2, _⟩ => g2.adv.ss.trans g2.lk.sub) ?_ ?_
  · rintro i x σ2 H2 H3 hi ⟨S2, ρ2, g2, p2⟩ hy
    obtain ⟨S3, ad, d, e, r⟩ := hy S2 g2.adv.ss g2.lk.sub
    have g3 : Go S2 H2 σ2 ρ2 S3 H3 σ2 ρ2 := .of0 g2.lk ad
    have e1 : ds.drop i = d :: ds.drop (i + 1) := by
      obtain ⟨hlt, e'⟩ := List.getElem?_eq_some_iff.mp e
      rw [List.drop_eq_getElem_cons hlt, e']
    rw [e1] at p2
    unfold forL at p2
    cases z : g d ρ2 with
    | none => rw [z] at p2; exact p2.elim
    | some ρ4 =>
      rw [z] at p2
      refine ⟨S3, ρ2, d, g3.lk, r, ρ4, z, fun σ4 g4 _ => ⟨S3, ρ4, g4.lk, ?_⟩⟩
      have g34 := g3.trans g4
      refine (Post.s g34 p2).seq fun a ρ5 _ p5 => ?_
      cases a with
      | nx => exact fun S5 H5 σ5 g5 => ⟨S5, ρ5, g2.trans (g34.trans g5), Post.s g5 p5⟩
      | ct => exact fun S5 H5 σ5 g5 => ⟨S5, ρ5, g2.trans (g34.trans g5), Post.s g5 p5⟩
      | bk => exact fun S5 H5 σ5 g5 => p5 S5 H5 σ5 g5
      | rt d => exact p5
      | ro es => exact p5
  · rintro σ2 H2 ⟨S2, ρ2, g2, p2⟩
    rw [List.drop_length] at p2
    exact p2 S2 H2 σ2 (.refl g2.lk)
/-! ### _law_cells -/
abbrev s_law_cells : Stmt := top 47
abbrev N_law_cells : List Str := ["_law_script", "_law_top", "_law_cells_here", "_law_k", "_law_cell", "_law_at_so"]
theorem sc_law_cells : FnScope N_law_cells ["_law_script", "_law_top"] (defScope s_law_cells) := ⟨rfl, rfl, rfl, by decide +kernel, rfl, by decide +kernel, by decide +kernel⟩
/-- it hands back a new list of one number -/
def spCells (K : PySem.W.Frag) : Sp := fun vs H Q E => ∃ (S : Hp) (a : Addr) (ns : List Int), vs = [.ref a, .int 1] ∧ SqL K H a (ns.map V.int) ∧ Same S H ∧
  ∀ (c : Int) (p : Addr) (S' H' : Hp), Adv NoM S H S' H' → H' p = some (.lst [.int c]) → S' p = none → H p = none → Q (.ref p) H'
def celG : GF := gT 2 (gsC (gN 3) (gsC (gN 4) gsN))
def celB : SF := sSeq (sSet 5 (eOp modI (eCall intF (aCons (eVar 3) aNil)) (eVar 1))) (sPut 2 (eVar 5) (eOp addF (eIxO 2 (eVar 5)) (eOp mulF (eVar 4) (eOp addF (eVar 3) (eC (.int 2))))))
abbrev celR (c : Int) (s3 s4 s5 : Sl) : En := [.no, .val (.int 1), .own [.int c], s3, s4, s5]
theorem mulF_okP {i j : Int} (h : ((sml i && sml j) || decide (j.natAbs < 2 ^ 63)) = true) : mulF (.int i) (.int j) = .ok (.int (i * j)) := by
  have e : mulI (.int i) (.int j) = .ok (.int (i * j)) := by
    show (if (sml i && sml j) || decide (j.natAbs < 2 ^ 63) then Res.ok (PyData.int (i * j)) else .bad) = _
    rw [if_pos h]
  unfold mulF
  rw [e]
theorem eOp_ok {g : D → D → Res D} {fa fb : EF} {ρ ρ1 ρ2 : En} {a b d : D} (h1 : fa ρ = .ok (a, ρ1)) (h2 : fb ρ1 = .ok (b, ρ2)) (h3 : g a b = .ok d) : eOp g fa fb ρ = .ok (d, ρ2) := by
  unfold eOp
  rw [h1]
  show (fb ρ1).bind _ = _
  rw [h2]
  show (match g a b with | .ok d => Res.ok (d, ρ2) | _ => .bad) = _
  rw [h3]
theorem celB_is (c x : Int) (k : Nat) (hk : k < 1000) (s5 : Sl) : celB (celR c (.val (.int (k : Nat))) (.val (.int x)) s5) = .ok (.nx, celR (c + x * ((k : Nat) + 2)) (.val (.int (k : Nat))) (.val (.int x)) (.val (.int 0))) := by
  have h1 : ((k : Nat) : Int) % 1 = 0 := Int.emod_one _
  have h2 : mulF (.int x) (.int ((k : Nat) + 2 : Int)) = .ok (.int (x * ((k : Nat) + 2))) := mulF_okP (by
    have : ((k : Nat) + 2 : Int).natAbs < 2 ^ 63 := by omega
    rw [decide_eq_true this, Bool.or_true])
  have e1 : celB (celR c (.val (.int (k : Nat))) (.val (.int x)) s5) = (sPut 2 (eVar 5) (eOp addF (eIxO 2 (eVar 5)) (eOp mulF (eVar 4) (eOp addF (eVar 3) (eC (.int 2)))))) (celR c (.val (.int (k : Nat))) (.val (.int x)) (.val (.int (((k : Nat) : Int) % 1)))) := rfl
  rw [e1, h1]
  have ad : eOp addF (eVar 3) (eC (.int 2)) (celR c (.val (.int (k : Nat))) (.val (.int x)) (.val (.int 0))) = .ok (.int ((k : Nat) + 2 : Int), celR c (.val (.int (k : Nat))) (.val (.int x)) (.val (.int 0))) := rfl
  have mu : eOp mulF (eVar 4) (eOp addF (eVar 3) (eC (.int 2))) (celR c (.val (.int (k : Nat))) (.val (.int x)) (.val (.int 0))) = .ok (.int (x * ((k : Nat) + 2)), celR c (.val (.int (k : Nat))) (.val (.int x)) (.val (.int 0))) :=
    eOp_ok (show eVar 4 (celR c (.val (.int (k : Nat))) (.val (.int x)) (.val (.int 0))) = .ok (.int x, _) from rfl) ad h2
  have e2 : eOp addF (eIxO 2 (eVar 5)) (eOp mulF (eVar 4) (eOp addF (eVar 3) (eC (.int 2)))) (celR c (.val (.int (k : Nat))) (.val (.int x)) (.val (.int 0))) = .ok (.int (c + x * ((k : Nat) + 2)), celR c (.val (.int (k : Nat))) (.val (.int x)) (.val (.int 0))) :=
    eOp_ok (show eIxO 2 (eVar 5) (celR c (.val (.int (k : Nat))) (.val (.int x)) (.val (.int 0))) = .ok (.int c, _) from rfl) mu rfl
  unfold sPut
  rw [e2]
  rfl
theorem cel_for : ∀ (ns : List Int) (k : Nat) (c : Int) (s3 s4 s5 : Sl), k + ns.length < 1000 → ∃ c' t3 t4 t5, forL celG celB (enumD k (ns.map PyData.int)) (celR c s3 s4 s5) = .ok (.nx, celR c' t3 t4 t5)
  | [], k, c, s3, s4, s5, _ => ⟨c, s3, s4, s5, rfl⟩
  | x :: ns, k, c, s3, s4, s5, h => by
    rw [List.length_cons] at h
    obtain ⟨c', t3, t4, t5, e⟩ := cel_for ns (k + 1) (c + x * ((k : Nat) + 2)) (.val (.int (k : Nat))) (.val (.int x)) (.val (.int 0)) (by omega)
    refine ⟨c', t3, t4, t5, ?_⟩
    rw [List.map_cons]
    unfold enumD forL
    have e1 : celG (.tuple [.int (k : Nat), .int x]) (celR c s3 s4 s5) = some (celR c (.val (.int (k : Nat))) (.val (.int x)) s5) := rfl
    rw [e1]
    dsimp only
    rw [celB_is c x k (by omega) s5]
    exact e
section
variable {P : Program} {w : World} {K : PySem.W.Frag} {mg : Str → Option Value} {base : Heap} {C : XC}
theorem cut_ints (ns : List Int) (lo hi : Option Int) : ∃ ms : List Int, cutV (ns.map V.int) lo hi = ms.map V.int ∧ ms.length ≤ ns.length ∧ ms.length ≤ HT.sIx ns.length ns.length hi - HT.sIx ns.length 0 lo := by
  refine ⟨(ns.drop (HT.sIx ns.length 0 lo)).take (HT.sIx ns.length ns.length hi - HT.sIx ns.length 0 lo), ?_, ?_, ?_⟩
  · unfold cutV
    rw [List.length_map, List.map_take, List.map_drop]
  · rw [List.length_take, List.length_drop]; omega
  · rw [List.length_take]; omega
theorem fn_cells {f : Addr} {fd : FuncData} (Fn : Fun K "_law_cells" "_law_cells" s_law_cells f fd) (T : Tx K mg C) : FnOk P w K mg base (L2.CX P w) 1 f fd ["_law_script", "_law_top"] (spCells K) := by
  refine Fn.okX sc_law_cells (fun vs H Q E h => ?_) (fun cdv A outer s H vs Q E hr h => ?_)
  · obtain ⟨S, a, ns, rfl, _⟩ := h
    rfl
  · refine ⟨_, pss_cons (ps_set (i := 2) sc_law_cells.nd rfl (Or.inl rfl) (pe_orT (pe_callTy call_list_of rfl T.z_list boot_list (pa_cons (pe_slice sl_list (pe_var (i := 0) rfl (Or.inl rfl) (by decide) (by decide)) po_none (po_some (pe_var (i := 1) rfl (Or.inl rfl) (by decide) (by decide)))) pa_nil)) (pe_one (pe_lst (pa_cons pe_int pa_nil)))))
      (pss_cons (ps_for (passes_of rfl) rfl (pi_enum rfl T.z_enumerate (pa_cons (pe_slice sl_list (pe_var (i := 0) rfl (Or.inl rfl) (by decide) (by decide)) (po_some (pe_var (i := 1) rfl (Or.inl rfl) (by decide) (by decide))) (po_some pe_int)) pa_nil))
          (pg_t (vs := [3, 4]) (pgs_c (pg_n 3 sc_law_cells.nd) (pgs_c (pg_n 4 sc_law_cells.nd) pgs_n)))
          (pss_c (C := C) (W := fun cls d _ H => E cls d H) (ps_s 5 (pd_mod (pd_ct call_int1 o_intF T.z_int boot_int (pad_cons (pd_v 3) pad_nil)) (pd_v 1)) sc_law_cells.nd)
            (pss_1 (ps_put 2 (pd_v 5) (pd_add (pd_ixO 2 (pd_v 5)) (pd_mul (pd_v 4) (pd_add (pd_v 3) pd_int)))))))
      (pss_1 (ps_rv (C := C) (W := fun cls d _ H => E cls d H) 2))), ?_⟩
    obtain ⟨S, a, ns, rfl, hs, ss, q⟩ := h
    -- behind the first statement
    have cont : ∀ (l : Addr) (c : Int) (H1 : Hp), Adv NoM S H S H1 → H1 l = some (.lst [.int c]) → H l = none →
        tSeq (tFor (iEnum K (tCons (tSl (rSlL K) (tVar 0) (tPart (tVar 1)) (tPart (tC (.int 63)))) tNil)) (tG celG [3, 4]) (tS C (fun cls d _ H => E cls d H) celB)) (tS C (fun cls d _ H => E cls d H) (sRetV 2)) { nx := fun _ H' => Q .non H', rt := Q } [some (.ref a), some (.int 1), some (.ref l), none, none, none] H1 := by
      intro l c H1 ad1 hl hl0
      have hs1 : SqL K H1 a (ns.map V.int) := Same.seq (fun b o e => ad1.kp b o e fun z => z) hs
      obtain ⟨ms, em, hm1, hm2⟩ := cut_ints ns (some 1) (some 63)
      refine ⟨_, rfl, _, rfl, 1, rfl, 63, rfl, a, _, rfl, hs1, fun p hp => ?_⟩
      rw [em]
      refine ⟨p, _, rfl, .of upd_same, ?_⟩
      have sS : S l = none := by
        cases z : S l with
        | none => rfl
        | some o => rw [ss _ _ z] at hl0; cases hl0
      have ad2 : Adv NoM S H1 (upd S p (.lst (ms.map V.int))) (upd H1 p (.lst (ms.map V.int))) := Adv.new ad1.sh hp
      have hpl : l ≠ p := fun z => by rw [z, hp] at hl; cases hl
      have ad12 := ad1.trans ad2 fun q z => z.elim
      have L0 : Lk (upd S p (.lst (ms.map V.int))) (upd H1 p (.lst (ms.map V.int))) [some (.ref a), some (.int 1), none, none, none, none] (noEn [.no, .no, .no, .no, .no, .no]) := lk_no ad2.sh rfl
      have n0 : ∀ q, ¬ Ow ([some (V.ref a), some (.int 1), none, none, none, none].set 1 (some (.int 1))) ((noEn [.no, .no, .no, .no, .no, .no]).set 1 (.val (.int 1))) q := fun q ow => by
        obtain ⟨i, ds, h1, _⟩ := ow.set_val
        exact absurd (noEn_get h1) (by simp)
      have L1 := (L0.setV (i := 1) (v := .int 1) (d := .int 1) (.int 1)).setO (i := 2) (p := l) (us := [.int c]) (ds := [.int c]) (by rw [upd_ne hpl]; exact hl) (.cons (.int c) .nil) (by rw [upd_ne hpl]; exact sS) (n0 l)
      have L2 : Lk (upd S p (.lst (ms.map V.int))) (upd H1 p (.lst (ms.map V.int))) [some (.ref a), some (.int 1), some (.ref l), none, none, none] (celR c .no .no .no) := L1
      have own1 : ∀ q, Ow [some (V.ref a), some (.int 1), some (.ref l), none, none, none] (celR c .no .no .no) q → q = l := fun q ow => by
        have ow' : Ow (([some (V.ref a), some (.int 1), none, none, none, none].set 1 (some (.int 1))).set 2 (some (.ref l))) (((noEn [.no, .no, .no, .no, .no, .no]).set 1 (.val (.int 1))).set 2 (.own [.int c])) q := ow
        exact ow'.set_own.elim (fun z => (n0 q z).elim) id
      obtain ⟨c', t3, t4, t5, ef⟩ := cel_for ms 0 c .no .no .no (by
        have h1 : HT.sIx ns.length ns.length (some 63) ≤ 63 := by
          rw [show (63 : Int) = ((63 : Nat) : Int) from rfl, HT.sIx_nat]
          omega
        omega)
      refine for_of (C := C) (W := fun cls d _ H => E cls d H) L2 (iter_enumL (K := K) (S0 := upd S p (.lst (ms.map V.int))) (ds := ms.map PyData.int) upd_same (RpAll.ofInts ms)) ?_
      rw [ef]
      intro S3 H3 σ3 g3
      refine ⟨S3, _, g3.lk, ?_⟩
      intro r us S4 H4 σ4 g4 hr4 ru hsr hor
      have e4 := RpAll.intsOf (ns := [c']) ru
      subst e4
      refine q c' r S4 H4 (ad12.trans (g3.trans g4).adv fun z hz => .inr (by rw [own1 z hz]; exact hl0)) hr4 hsr ?_
      rcases hor with z | z
      · exact ad12.dm r (g3.adv.dm r z)
      · rcases g3.ow r z with y | y
        · rw [own1 r y]; exact hl0
        · exact ad12.dm r y
    obtain ⟨ms, em, hm1, hm2⟩ := cut_ints ns none (some 1)
    refine ⟨_, rfl, _, rfl, 1, rfl, a, _, rfl, hs, fun p hp => ?_⟩
    rw [em]
    have ad1 : Adv NoM S H S (upd H p (.lst (ms.map V.int))) := Adv.lay ss hp
    refine ⟨p, _, rfl, .inl (.of upd_same), fun l hl => ?_⟩
    have hl0 : H l = none := ad1.dm l hl
    have ad2 : Adv NoM S (upd H p (.lst (ms.map V.int))) S (upd (upd H p (.lst (ms.map V.int))) l (.lst (ms.map V.int))) := Adv.lay ad1.sh hl
    have ad12 := ad1.trans ad2 fun q z => z.elim
    refine ⟨_, .inl ⟨_, .of upd_same, rfl⟩, ?_⟩
    cases ms with
    | nil =>
      refine iteF ⟨by show 1 ≤ sizeLine; decide, fun l2 hl2 => ?_⟩
      have ad3 : Adv NoM S _ S (upd (upd (upd H p (.lst (([] : List Int).map V.int))) l (.lst (([] : List Int).map V.int))) l2 (.lst [V.int 0])) := Adv.lay ad12.sh hl2
      exact cont l2 0 _ (ad12.trans ad3 fun q z => z.elim) upd_same (ad12.dm l2 hl2)
    | cons m r =>
      have hr0 : r = [] := by
        have h1 : HT.sIx ns.length ns.length (some 1) ≤ 1 := by
          rw [show (1 : Int) = ((1 : Nat) : Int) from rfl, HT.sIx_nat]
          omega
        have h2 : (m :: r).length ≤ 1 := by omega
        cases r with
        | nil => rfl
        | cons _ _ => simp at h2
      subst hr0
      exact iteT (cont l m _ ad12 upd_same hl0)
abbrev s_law : Stmt := top 71
abbrev N_law : List Str := ["_law_script", "_law_tin", "_law_looks", "_law_chart", "_law_book", "_law_pairs", "_law_lap", "_law_look_here"]
theorem sc_law : FnScope N_law ["_law_script"] (defScope s_law) := ⟨rfl, rfl, rfl, by decide +kernel, rfl, by decide +kernel, by decide +kernel⟩
def m_law_rest : SF :=
  (sSeq (sIf (tOr2 (tNot1 (tB1 (eFn 0 F_law_by_hand_right aNil))) (tNot1 (tB1 (eFn 1 F_law_refused_right (aCons (eFnM 1 1 F_law_take (aCons (eC (.int 9)) aNil)) aNil))))) (sRet (eC (.bool false))) sSkip) (sSeq (sAsg (gT 3 (gsC (gN 3) (gsC (gN 4) (gsC (gN 5) gsN)))) (eFnM 1 0 F_law_glide_drawn aNil)) (sSeq (sSetO 2 (oLc (iRange1 (aCons (eC (.int 2)) aNil)) (gN 6) tYesF (eFnM 1 0 F_law_look aNil) [6])) (sRet (eCall allF (aCons (eFz (oLc (iSeq (eVar 2)) (gN 7) tYesF (eFnM 1 4 F_law_case_right (aCons (eVar 3) (aCons (eVar 4) (aCons (eVar 5) (aCons (eVar 7) aNil))))) [7])) aNil))))))
abbrev lawEn (es : List D) : En := [.no, .own es, .no, .no, .no, .no, .no, .no]
def spLaw (K : PySem.W.Frag) : Sp := fun vs H Q _ => ∃ (a : Addr) (ns : List Int), vs = [.ref a] ∧ SqL K H a (ns.map V.int) ∧ ∀ H', Q (.bl true) H'
theorem fn_law {f : Addr} {fd : FuncData} (Fn : Fun K "law" "law" s_law f fd) (T : Tx K mg C)
    (c_law_cells : Cal P w K mg base 1 "_law_cells" ["_law_script", "_law_top"] (spCells K))
    (c_law_box : Cal P w K mg base 1 "_law_box" ["_law_script", "_law_k"] (spO C 2 F_law_box))
    (c_law_take : Cal P w K mg base 1 "_law_take" ["_law_urn", "_law_low_so"] (spM C 1 F_law_take))
    (c_law_look : Cal P w K mg base 2 "_law_look" ["_law_tin"] (spM C 0 F_law_look))
    (c_law_glide_drawn : Cal P w K mg base 3 "_law_glide_drawn" ["_law_tin"] (spM C 0 F_law_glide_drawn))
    (c_law_case_right : Cal P w K mg base 12 "_law_case_right" ["_law_tin", "_law_chart", "_law_book", "_law_pairs", "_law_look_here"] (spM C 4 F_law_case_right))
    (c_law_by_hand_right : Cal P w K mg base 11 "_law_by_hand_right" [] (spD C 0 F_law_by_hand_right))
    (c_law_refused_right : Cal P w K mg base 13 "_law_refused_right" ["_law_off"] (spD C 1 F_law_refused_right))
    (nx_law_by_hand_right : NoX (F_law_by_hand_right []))
    (main : ∀ c : Int, ∃ es ρ', F_law_box [.list [.int c], .int 0] = .ok es ∧ m_law_rest (lawEn es) = .ok (.rt (.bool true), ρ')) : FnOk P w K mg base (L2.CX P w) 14 f fd ["_law_script"] (spLaw K) := by
  refine Fn.okX sc_law (fun vs H Q E h => ?_) (fun cdv A outer s H vs Q E hr h => ?_)
  · obtain ⟨a, ns, rfl, _⟩ := h
    rfl
  · have tk : Takes (cxOf (L2.CX P w) P w K mg base N_law "law" (defScope s_law) f cdv A outer s H E) (fun cls d _ H => E cls d H) := takes_of rfl rfl rfl rfl
    have rest : PSSD (cxOf (L2.CX P w) P w K mg base N_law "law" (defScope s_law) f cdv A outer s H E) C (fun cls d _ H => E cls d H) ((defBody s_law).drop 1) m_law_rest :=
      (pss_c (ps_i (PW.pt (pw_o (pt_n (pt_v (pd_fn0 c_law_by_hand_right hr nx_law_by_hand_right))) (pw_o1 (pt_n (pt_v (pd_fn c_law_refused_right hr tk (pad_cons (pd_fnM 1 c_law_take hr tk (pad_cons pd_int pad_nil)) pad_nil)))))))
    (pss_1 (ps_r pd_bl))
    pss_n)
    (pss_c (ps_a (vs := [3, 4, 5]) (pd_fnM 1 c_law_glide_drawn hr tk pad_nil) (pg_t (pgs_c (pg_n 3 sc_law.nd) (pgs_c (pg_n 4 sc_law.nd) (pgs_c (pg_n 5 sc_law.nd) pgs_n)))))
    (pss_c (ps_slc 2 (own := [("_law_lap", 6)]) sc_law.nd (pi_r1 T.z_range (pad_cons pd_int pad_nil)) (blkOk_by (N := N_law) (sc := defScope s_law) (by decide +kernel)) (fun _ _ _ _ _ => (pg_n 6 sc_law.nd)) (fun _ _ _ _ _ => pts_0) (fun _ _ _ _ _ => (pd_fnM 1 c_law_look hr takes0 pad_nil)) (sw_true rfl rfl rfl (by decide +kernel)))
    (pss_1 (ps_r (pd_cb (cr_all rfl) o_allF T.z_all boot_all (pad_cons (pd_fz (pod_lc (own := [("_law_look_here", 7)]) sc_law.nd (pi_s (pd_v 2)) (blkOk_by (N := N_law) (sc := defScope s_law) (by decide +kernel)) (fun _ _ _ _ _ => (pg_n 7 sc_law.nd)) (fun _ _ _ _ _ => pts_0) (fun _ _ _ _ _ => (pd_fnM 1 c_law_case_right hr takes0 (pad_cons (pd_v 3) (pad_cons (pd_v 4) (pad_cons (pd_v 5) (pad_cons (pd_v 7) pad_nil)))))))) pad_nil)))))))
    obtain ⟨fc, fdc, FC, hmc, kc, bc⟩ := c_law_cells.ex
    obtain ⟨fb, fdb, FB, hmb, kb, bb⟩ := c_law_box.ex
    refine ⟨_, pss_cons (ps_set (i := 1) sc_law.nd rfl (Or.inr rfl) (pe_callS FB (hr.mono (by decide)) rfl hmb kb bb (fun σ => passAt tk σ) (pa_cons (pe_callS FC (hr.mono (by decide)) rfl hmc kc bc (fun σ => passAt tk σ) (pa_cons (pe_var (i := 0) rfl (Or.inl rfl) (by decide) (by decide)) (pa_cons pe_int pa_nil))) (pa_cons pe_int pa_nil)))) rest, ?_⟩
    obtain ⟨a, ns, rfl, hs, q⟩ := h
    have ss : Same (fun _ => none) H := fun b o e => by cases e
    refine ⟨_, rfl, (fun _ => none), a, ns, rfl, hs, ss, fun c p S1 H1 ad1 hp hsp h0 => ?_⟩
    obtain ⟨es, ρ', e1, e2⟩ := main c
    have s2 : Same S1 (upd S1 p (.lst [V.int c])) := fun b o z => by rw [upd_ne (ne_of_none z hsp)]; exact z
    have sh2 : Same (upd S1 p (.lst [V.int c])) H1 := fun b o z => by
      by_cases y : b = p
      · subst y; rw [upd_same] at z; rw [hp]; exact z
      · rw [upd_ne y] at z; exact ad1.sh b o z
    refine ⟨upd S1 p (.lst [V.int c]), [.list [.int c], .int 0], sh2, .cons (.lst upd_same (.cons (.int c) .nil)) (.cons (.int 0) .nil), rfl, ?_⟩
    rw [e1]
    intro r us S3 H3 ad3 hr3 ru hsr h0r
    have L0 : Lk S3 H3 (L2.start N_law [V.ref a]) (noEn [.no, .no, .no, .no, .no, .no, .no, .no]) := lk_no ad3.sh rfl
    have n0 : ¬ Ow (L2.start N_law [V.ref a]) (noEn [.no, .no, .no, .no, .no, .no, .no, .no]) r := fun ow => by
      obtain ⟨i, ds, h1, _⟩ := ow
      exact absurd (noEn_get h1) (by simp)
    have L1 : Lk S3 H3 ((L2.start N_law [V.ref a]).set 1 (some (.ref r))) (lawEn es) := L0.setO (i := 1) hr3 ru hsr n0
    refine ⟨S3, _, L1, ?_⟩
    rw [e2]
    intro v S4 H4 σ4 g4 rv
    cases rv
    exact q H4

end
end GN

set_option Elab.async false
set_option linter.all false
set_option maxRecDepth 100000
set_option maxHeartbeats 8000000
/-! PZ: all defs, from what the top has written. -/
namespace GN
open PySem PySem.Spec PyProof.Rows L2
/-- a def of the top -/
structure DefAt (K : PySem.W.Frag) (x : Str) (st : Stmt) (f : Addr) : Prop where
  a : PySem.W.nsIn K mainGlobals x = some (some (.ref f))
  l : ∃ (oc : Value) (od : Option Addr) (kV dc pm : Value) (an : Option Addr) (cd ct : Value) (sl : Array (Option Value)), K.lookup f = some ⟨oc, od, .func (PySem.W.fnOf x x (defArgs st) (defBody st) (defScope st) .none kV dc pm an cd ct), sl⟩ ∧ PySem.W.codeIn K cd x = true
  k : PySem.W.keepIn K (.ref f) = true
section
variable {P : Program} {w : World} {K : PySem.W.Frag} {h : Heap} {mg : Str → Option Value} {base : Heap} {C : XC}
theorem DefAt.cal {x : Str} {st : Stmt} {f : Addr} {k : Nat} {ps : List Str} {sp : Sp} (X : K.In h) (G : h.Ns mainGlobals mg) (d : DefAt K x st f)
    (bnd : ∀ (kV doc pm : Value) (an : Option Addr) (cdv ct : Value) (us : List Value), us.length = ps.length → bindArgs (PySem.W.fnOf x x (defArgs st) (defBody st) (defScope st) .none kV doc pm an cdv ct) ⟨us, []⟩ = pure (ps.zip us))
    (mk : ∀ fd : FuncData, Fun K x x st f fd → FnOk P w K mg base (L2.CX P w) k f fd ps sp) : Cal P w K mg base k x ps sp := by
  obtain ⟨oc, od, kV, dc, pm, an, cd, ct, sl, l, c⟩ := d.l
  have F := fun_mk (st := st) l c d.k
  exact ⟨f, _, mk _ F, PySem.W.mg_of X G d.a, d.k, F.binds bnd⟩
theorem DefAt.calK {x : Str} {st : Stmt} {f : Addr} {k : Nat} {ps ks : List Str} {is : List Nat} {sp : Sp} (X : K.In h) (G : h.Ns mainGlobals mg) (d : DefAt K x st f)
    (bnd : ∀ (kV doc pm : Value) (an : Option Addr) (cdv ct : Value) (ws : List Value), (permL is ws).length = ps.length → bindArgs (PySem.W.fnOf x x (defArgs st) (defBody st) (defScope st) .none kV doc pm an cdv ct) ⟨[], ks.zip ws⟩ = pure (ps.zip (permL is ws)))
    (mk : ∀ fd : FuncData, Fun K x x st f fd → FnOk P w K mg base (L2.CX P w) k f fd ps sp) : CalK P w K mg base k x ks is sp := by
  obtain ⟨oc, od, kV, dc, pm, an, cd, ct, sl, l, c⟩ := d.l
  have F := fun_mk (st := st) l c d.k
  exact ⟨f, _, ps, mk _ F, PySem.W.mg_of X G d.a, d.k, fun s ws _ hl => .of_eq (bnd kV dc pm an cd ct ws hl)⟩
theorem DefAt.calR {x : Str} {st : Stmt} {f : Addr} {Ns ps : List Str} {m : (List D → Res D) → SF} (X : K.In h) (G : h.Ns mainGlobals mg) (d : DefAt K x st f) (Sc : FnScope Ns ps (defScope st)) (hl : ps.length ≤ Ns.length)
    (bnd : ∀ (kV doc pm : Value) (an : Option Addr) (cdv ct : Value) (us : List Value), us.length = ps.length → bindArgs (PySem.W.fnOf x x (defArgs st) (defBody st) (defScope st) .none kV doc pm an cdv ct) ⟨us, []⟩ = pure (ps.zip us))
    (body : ∀ (k : Nat) (F : List D → Res D), Cal P w K mg base k x ps (spD C ps.length F) → BodyOk P w K mg base C k x st Ns f (m F)) (n : Nat) : Cal P w K mg base n x ps (spD C ps.length (recG Ns.length m n)) := by
  obtain ⟨oc, od, kV, dc, pm, an, cd, ct, sl, l, c⟩ := d.l
  have F := fun_mk (st := st) l c d.k
  exact cal_rec F Sc hl (PySem.W.mg_of X G d.a) d.k (F.binds bnd) body n
end
/-- what the top says beside the defs -/
structure TopAt (K : PySem.W.Frag) (cn ct fI : Addr) : Prop where
  z_len : PySem.W.nsIn K mainGlobals "len" = some none
  z_abs : PySem.W.nsIn K mainGlobals "abs" = some none
  z_isinstance : PySem.W.nsIn K mainGlobals "isinstance" = some none
  z_int : PySem.W.nsIn K mainGlobals "int" = some none
  z_bool : PySem.W.nsIn K mainGlobals "bool" = some none
  z_str : PySem.W.nsIn K mainGlobals "str" = some none
  z_list : PySem.W.nsIn K mainGlobals "list" = some none
  z_tuple : PySem.W.nsIn K mainGlobals "tuple" = some none
  z_all : PySem.W.nsIn K mainGlobals "all" = some none
  z_zip : PySem.W.nsIn K mainGlobals "zip" = some none
  z_range : PySem.W.nsIn K mainGlobals "range" = some none
  z_enumerate : PySem.W.nsIn K mainGlobals "enumerate" = some none
  z_min : PySem.W.nsIn K mainGlobals "min" = some none
  z_max : PySem.W.nsIn K mainGlobals "max" = some none
  z_sorted : PySem.W.nsIn K mainGlobals "sorted" = some none
  z_LookupError : PySem.W.nsIn K mainGlobals "LookupError" = some none
  z_ValueError : PySem.W.nsIn K mainGlobals "ValueError" = some none
  g_gcd : PySem.W.nsIn K mainGlobals "gcd" = some (some (.builtin "math.gcd"))
  g_SIGNS : ∃ t, PySem.W.nsIn K mainGlobals "SIGNS" = some (some (.str signs t))
  g_MOST_CELLS : ∃ t, PySem.W.nsIn K mainGlobals "MOST_CELLS" = some (some (.int 20000 t))
  g_MOST_TILES : ∃ t, PySem.W.nsIn K mainGlobals "MOST_TILES" = some (some (.int 2000 t))
  aN : PySem.W.nsIn K mainGlobals "NoPlace" = some (some (.ref cn))
  aT : PySem.W.nsIn K mainGlobals "TooMuch" = some (some (.ref ct))
  nq : PySem.W.excInitIn K cn lkTail "LookupError.__new__" = true
  nov : PySem.W.excOver K cn lkTail = true
  nhd : PySem.W.hasDictIn K cn = true
  nsa : PySem.W.findIn K (.ref cn) "__setattr__" = some (some (.builtin "object.__setattr__"))
  nno : PySem.W.findIn K (.ref cn) "place" = some none
  ni : PySem.W.findIn K (.ref cn) "__init__" = some (some (.ref fI))
  nt : PySem.W.typeIn K (.ref fI) = some (.type "function")
  nk : PySem.W.keepIn K (.ref cn) = true
  ne : PySem.W.subIn K (.ref cn) (.type "BaseException") = some true
  nty : PySem.W.typeIn K (.ref cn) = some (.type "type")
  nfn : ∃ (oc : Value) (od : Option Addr) (doc pm : Value) (an : Option Addr) (cdv cc : Value) (osl : Array (Option Value)), K.lookup fI = some ⟨oc, od, .func (PySem.W.fnOf "__init__" "NoPlace.__init__" npA (npB ⟨6, 8, 6, 12⟩ ⟨6, 8, 6, 18⟩ ⟨6, 21, 6, 26⟩ ⟨6, 8, 6, 26⟩) npS .none .none doc pm an cdv cc), osl⟩ ∧ PySem.W.codeIn K cdv "NoPlace.__init__" = true
  nga : PySem.W.findIn K (.ref cn) "__getattribute__" = some (some (.builtin "BaseException.__getattribute__"))
  ngg : PySem.W.findIn K (.ref cn) "__getattr__" = some none
  nca : PySem.W.findIn K (.ref cn) "__class__" = some (some (.builtin "object.__class__"))
  nmo : PySem.W.mroIn K cn (.type "object") = some true
  tq : PySem.W.excIn K ct [.type "ValueError", .type "Exception", .type "BaseException", .type "object"] "ValueError.__new__" = true
  tk : PySem.W.keepIn K (.ref ct) = true
  te : PySem.W.subIn K (.ref ct) (.type "BaseException") = some true
  tty : PySem.W.typeIn K (.ref ct) = some (.type "type")
  thd : PySem.W.hasDictIn K ct = true
  tga : PySem.W.findIn K (.ref ct) "__getattribute__" = some (some (.builtin "BaseException.__getattribute__"))
  tgg : PySem.W.findIn K (.ref ct) "__getattr__" = some none
  tca : PySem.W.findIn K (.ref ct) "__class__" = some (some (.builtin "object.__class__"))
  tmo : PySem.W.mroIn K ct (.type "object") = some true
  cg : PySem.W.specialIn K (.builtin "object.__class__") "__get__" = some (some (.builtin "getset_descriptor.__get__"))
  ctk : PySem.W.takesIn K (.builtin "object.__class__") = some true
  snn : PySem.W.subIn K (.ref cn) (.ref cn) = some true
  stn : PySem.W.subIn K (.ref ct) (.ref cn) = some false
  stt : PySem.W.subIn K (.ref ct) (.ref ct) = some true
  kn : PySem.W.kitOne K (.ref cn) (.type "LookupError") = some true
  kt : PySem.W.kitOne K (.ref ct) (.type "ValueError") = some true
theorem TopAt.tx {K : PySem.W.Frag} {h : Heap} {mg : Str → Option Value} {cn ct fI : Addr} (X : K.In h) (G : h.Ns mainGlobals mg) (t : TopAt K cn ct fI) : Tx K mg ⟨cn, ct⟩ where
  z_len := PySem.W.mg_none_of X G t.z_len
  z_abs := PySem.W.mg_none_of X G t.z_abs
  z_isinstance := PySem.W.mg_none_of X G t.z_isinstance
  z_int := PySem.W.mg_none_of X G t.z_int
  z_bool := PySem.W.mg_none_of X G t.z_bool
  z_str := PySem.W.mg_none_of X G t.z_str
  z_list := PySem.W.mg_none_of X G t.z_list
  z_tuple := PySem.W.mg_none_of X G t.z_tuple
  z_all := PySem.W.mg_none_of X G t.z_all
  z_zip := PySem.W.mg_none_of X G t.z_zip
  z_range := PySem.W.mg_none_of X G t.z_range
  z_enumerate := PySem.W.mg_none_of X G t.z_enumerate
  z_min := PySem.W.mg_none_of X G t.z_min
  z_max := PySem.W.mg_none_of X G t.z_max
  z_sorted := PySem.W.mg_none_of X G t.z_sorted
  z_LookupError := PySem.W.mg_none_of X G t.z_LookupError
  z_ValueError := PySem.W.mg_none_of X G t.z_ValueError
  g_gcd := PySem.W.mg_of X G t.g_gcd
  g_SIGNS := by obtain ⟨k, e⟩ := t.g_SIGNS; exact ⟨k, PySem.W.mg_of X G e⟩
  g_MOST_CELLS := by obtain ⟨k, e⟩ := t.g_MOST_CELLS; exact ⟨k, PySem.W.mg_of X G e⟩
  g_MOST_TILES := by obtain ⟨k, e⟩ := t.g_MOST_TILES; exact ⟨k, PySem.W.mg_of X G e⟩
  gn := PySem.W.mg_of X G t.aN
  np := ⟨fI, PySem.W.mg_of X G t.aN, t.nq, t.nov, t.nhd, t.nsa, t.nno, t.ni, t.nt, t.nk, t.ne, t.nty, by
    obtain ⟨oc, od, doc, pm, an, cdv, cc, osl, l, c⟩ := t.nfn
    exact ⟨oc, od, doc, pm, an, cdv, cc, osl, _, _, _, _, l, c⟩⟩
  tm := ⟨PySem.W.mg_of X G t.aT, t.tq, t.tk, t.te, t.tty⟩
  cx := ⟨⟨t.nga, t.ngg, t.ne, t.nhd⟩, t.nno, ⟨t.nga, t.ngg, t.ne, t.nhd, t.nca, t.cg, t.ctk, t.nmo⟩, ⟨t.tga, t.tgg, t.te, t.thd, t.tca, t.cg, t.ctk, t.tmo⟩,
    PySem.W.exm_ref t.ne t.nhd t.nty t.snn, PySem.W.exm_ref t.ne t.nhd t.nty t.stn, PySem.W.exm_ref t.te t.thd t.tty t.stt, t.kn, t.kt⟩
theorem all_ok {P : Program} {w : World} {K : PySem.W.Frag} {h : Heap} {mg : Str → Option Value} {fa cn ct fI f_law_box f_law_take f_law_pick f_law_part f_law_plus f_law_of f_law_less f_law_glide_drawn f_law_cells f_law_look f_law_same f_law_row_map f_is_number f_sure_name f_is_less f_told_places f_tuple_of f_fraction f_over f_plus f_minus f_times f_straight f_least f_greatest f_part_seen f_gaps_in f_box_in f_window_in f_seen_spans f_law_lists f_law_by_hand_right f_up f_cells_between f_picture f_tiles_in f_tiles_under f_window f_meets f_cut_at f_by_tiles f_law_heard f_is_tuple_of f_is_view f_least_view f_law_refused_right f_law_spots f_law_minus f_law_turn f_law_range f_law_gaps f_law_frame f_law_times f_law_pane f_law_ranges f_seen f_law_case_right f_law : Addr} (X : K.In h) (G : h.Ns mainGlobals mg) (hfa : mg "law" = some (.ref fa)) (t : TopAt K cn ct fI)
    (d_law_box : DefAt K "_law_box" s_law_box f_law_box)
    (d_law_take : DefAt K "_law_take" s_law_take f_law_take)
    (d_law_pick : DefAt K "_law_pick" s_law_pick f_law_pick)
    (d_law_part : DefAt K "_law_part" s_law_part f_law_part)
    (d_law_plus : DefAt K "_law_plus" s_law_plus f_law_plus)
    (d_law_of : DefAt K "_law_of" s_law_of f_law_of)
    (d_law_less : DefAt K "_law_less" s_law_less f_law_less)
    (d_law_glide_drawn : DefAt K "_law_glide_drawn" s_law_glide_drawn f_law_glide_drawn)
    (d_law_cells : DefAt K "_law_cells" s_law_cells f_law_cells)
    (d_law_look : DefAt K "_law_look" s_law_look f_law_look)
    (d_law_same : DefAt K "_law_same" s_law_same f_law_same)
    (d_law_row_map : DefAt K "_law_row_map" s_law_row_map f_law_row_map)
    (d_is_number : DefAt K "is_number" s_is_number f_is_number)
    (d_sure_name : DefAt K "sure_name" s_sure_name f_sure_name)
    (d_is_less : DefAt K "is_less" s_is_less f_is_less)
    (d_told_places : DefAt K "told_places" s_told_places f_told_places)
    (d_tuple_of : DefAt K "tuple_of" s_tuple_of f_tuple_of)
    (d_fraction : DefAt K "fraction" s_fraction f_fraction)
    (d_over : DefAt K "over" s_over f_over)
    (d_plus : DefAt K "plus" s_plus f_plus)
    (d_minus : DefAt K "minus" s_minus f_minus)
    (d_times : DefAt K "times" s_times f_times)
    (d_straight : DefAt K "straight" s_straight f_straight)
    (d_least : DefAt K "least" s_least f_least)
    (d_greatest : DefAt K "greatest" s_greatest f_greatest)
    (d_part_seen : DefAt K "part_seen" s_part_seen f_part_seen)
    (d_gaps_in : DefAt K "gaps_in" s_gaps_in f_gaps_in)
    (d_box_in : DefAt K "box_in" s_box_in f_box_in)
    (d_window_in : DefAt K "window_in" s_window_in f_window_in)
    (d_seen_spans : DefAt K "seen_spans" s_seen_spans f_seen_spans)
    (d_law_lists : DefAt K "_law_lists" s_law_lists f_law_lists)
    (d_law_by_hand_right : DefAt K "_law_by_hand_right" s_law_by_hand_right f_law_by_hand_right)
    (d_up : DefAt K "up" s_up f_up)
    (d_cells_between : DefAt K "cells_between" s_cells_between f_cells_between)
    (d_picture : DefAt K "picture" s_picture f_picture)
    (d_tiles_in : DefAt K "tiles_in" s_tiles_in f_tiles_in)
    (d_tiles_under : DefAt K "tiles_under" s_tiles_under f_tiles_under)
    (d_window : DefAt K "window" s_window f_window)
    (d_meets : DefAt K "meets" s_meets f_meets)
    (d_cut_at : DefAt K "cut_at" s_cut_at f_cut_at)
    (d_by_tiles : DefAt K "by_tiles" s_by_tiles f_by_tiles)
    (d_law_heard : DefAt K "_law_heard" s_law_heard f_law_heard)
    (d_is_tuple_of : DefAt K "is_tuple_of" s_is_tuple_of f_is_tuple_of)
    (d_is_view : DefAt K "is_view" s_is_view f_is_view)
    (d_least_view : DefAt K "least_view" s_least_view f_least_view)
    (d_law_refused_right : DefAt K "_law_refused_right" s_law_refused_right f_law_refused_right)
    (d_law_spots : DefAt K "_law_spots" s_law_spots f_law_spots)
    (d_law_minus : DefAt K "_law_minus" s_law_minus f_law_minus)
    (d_law_turn : DefAt K "_law_turn" s_law_turn f_law_turn)
    (d_law_range : DefAt K "_law_range" s_law_range f_law_range)
    (d_law_gaps : DefAt K "_law_gaps" s_law_gaps f_law_gaps)
    (d_law_frame : DefAt K "_law_frame" s_law_frame f_law_frame)
    (d_law_times : DefAt K "_law_times" s_law_times f_law_times)
    (d_law_pane : DefAt K "_law_pane" s_law_pane f_law_pane)
    (d_law_ranges : DefAt K "_law_ranges" s_law_ranges f_law_ranges)
    (d_seen : DefAt K "seen" s_seen f_seen)
    (d_law_case_right : DefAt K "_law_case_right" s_law_case_right f_law_case_right)
    (d_law : DefAt K "law" s_law f_law)
    (nx_law_row_map : NoX (F_law_row_map [])) (nx_law_by_hand_right : NoX (F_law_by_hand_right []))
    (main : ∀ c : Int, ∃ es ρ', F_law_box [.list [.int c], .int 0] = .ok es ∧ m_law_rest (lawEn es) = .ok (.rt (.bool true), ρ')) :
    ∃ fd : FuncData, (∀ (s : Shared) (v : Value), BindsTo s fd ⟨[v], []⟩ [("_law_script", v)]) ∧ ∀ base : Heap, K.In base → base.Ns mainGlobals mg → FnOk P w K mg base (L2.CX P w) 14 fa fd ["_law_script"] (spLaw K) := by
  have T : Tx K mg ⟨cn, ct⟩ := t.tx X G
  obtain ⟨oc, od, kV, dc, pm, an, cd, cc, sl, ll, lc⟩ := d_law.l
  have e := hfa.symm.trans (PySem.W.mg_of X G d_law.a)
  cases e
  refine ⟨PySem.W.fnOf "law" "law" (defArgs s_law) (defBody s_law) (defScope s_law) .none kV dc pm an cd cc, fun s v => .of_eq rfl, fun base _ _ => ?_⟩
  have c_law_box : Cal P w K mg base 1 "_law_box" ["_law_script", "_law_k"] (spO ⟨cn, ct⟩ 2 F_law_box) := d_law_box.cal X G (fun _ _ _ _ _ _ us hl => match us, hl with | [_, _], _ => rfl) fun fd F => fn_O F sc_law_box (by decide) (b_law_box T )
  have c_law_take : Cal P w K mg base 1 "_law_take" ["_law_urn", "_law_low_so"] (spM ⟨cn, ct⟩ 1 F_law_take) := d_law_take.cal X G (fun _ _ _ _ _ _ us hl => match us, hl with | [_, _], _ => rfl) fun fd F => fn_M F sc_law_take rfl (by decide) (b_law_take T )
  have c_law_pick : Cal P w K mg base 2 "_law_pick" ["_law_tin", "_law_goods", "_law_many"] (spM ⟨cn, ct⟩ 2 F_law_pick) := d_law_pick.cal X G (fun _ _ _ _ _ _ us hl => match us, hl with | [_, _, _], _ => rfl) fun fd F => fn_M F sc_law_pick rfl (by decide) (b_law_pick T c_law_take)
  have c_law_part : Cal P w K mg base 1 "_law_part" ["_law_top", "_law_below"] (spD ⟨cn, ct⟩ 2 F_law_part) := d_law_part.cal X G (fun _ _ _ _ _ _ us hl => match us, hl with | [_, _], _ => rfl) fun fd F => fn_D F sc_law_part (by decide) (b_law_part T )
  have c_law_plus : Cal P w K mg base 2 "_law_plus" ["_law_one", "_law_two"] (spD ⟨cn, ct⟩ 2 F_law_plus) := d_law_plus.cal X G (fun _ _ _ _ _ _ us hl => match us, hl with | [_, _], _ => rfl) fun fd F => fn_D F sc_law_plus (by decide) (b_law_plus T c_law_part)
  have c_law_of : Cal P w K mg base 2 "_law_of" ["_law_urn", "_law_goods"] (spM ⟨cn, ct⟩ 1 F_law_of) := d_law_of.cal X G (fun _ _ _ _ _ _ us hl => match us, hl with | [_, _], _ => rfl) fun fd F => fn_M F sc_law_of rfl (by decide) (b_law_of T c_law_take)
  have c_law_less : Cal P w K mg base 1 "_law_less" ["_law_one", "_law_two"] (spD ⟨cn, ct⟩ 2 F_law_less) := d_law_less.cal X G (fun _ _ _ _ _ _ us hl => match us, hl with | [_, _], _ => rfl) fun fd F => fn_D F sc_law_less (by decide) (b_law_less T )
  have c_law_glide_drawn : Cal P w K mg base 3 "_law_glide_drawn" ["_law_tin"] (spM ⟨cn, ct⟩ 0 F_law_glide_drawn) := d_law_glide_drawn.cal X G (fun _ _ _ _ _ _ us hl => match us, hl with | [_], _ => rfl) fun fd F => fn_M F sc_law_glide_drawn rfl (by decide) (b_law_glide_drawn T c_law_take c_law_of c_law_pick c_law_part c_law_plus c_law_less)
  have c_law_cells : Cal P w K mg base 1 "_law_cells" ["_law_script", "_law_top"] (spCells K) := d_law_cells.cal X G (fun _ _ _ _ _ _ us hl => match us, hl with | [_, _], _ => rfl) fun fd F => fn_cells F T
  have c_law_look : Cal P w K mg base 2 "_law_look" ["_law_tin"] (spM ⟨cn, ct⟩ 0 F_law_look) := d_law_look.cal X G (fun _ _ _ _ _ _ us hl => match us, hl with | [_], _ => rfl) fun fd F => fn_M F sc_law_look rfl (by decide) (b_law_look T c_law_take)
  have c_law_same : Cal P w K mg base 9 "_law_same" ["_law_got", "_law_goal"] (spD ⟨cn, ct⟩ 2 F_law_same) := d_law_same.calR X G sc_law_same (by decide) (fun _ _ _ _ _ _ us hl => match us, hl with | [_, _], _ => rfl) (fun k F c_self => b_law_same T c_self) 9
  have c_law_row_map : Cal P w K mg base 1 "_law_row_map" [] (spD ⟨cn, ct⟩ 0 F_law_row_map) := d_law_row_map.cal X G (fun _ _ _ _ _ _ us hl => match us, hl with | [], _ => rfl) fun fd F => fn_D F sc_law_row_map (by decide) (b_law_row_map T )
  have c_is_number : Cal P w K mg base 1 "is_number" ["thing"] (spD ⟨cn, ct⟩ 1 F_is_number) := d_is_number.cal X G (fun _ _ _ _ _ _ us hl => match us, hl with | [_], _ => rfl) fun fd F => fn_D F sc_is_number (by decide) (b_is_number T )
  have c_sure_name : Cal P w K mg base 2 "sure_name" ["chart", "name"] (spD ⟨cn, ct⟩ 2 F_sure_name) := d_sure_name.cal X G (fun _ _ _ _ _ _ us hl => match us, hl with | [_, _], _ => rfl) fun fd F => fn_D F sc_sure_name (by decide) (b_sure_name T c_is_number)
  have c_is_less : Cal P w K mg base 1 "is_less" ["one", "other"] (spD ⟨cn, ct⟩ 2 F_is_less) := d_is_less.cal X G (fun _ _ _ _ _ _ us hl => match us, hl with | [_, _], _ => rfl) fun fd F => fn_D F sc_is_less (by decide) (b_is_less T )
  have c_told_places : Cal P w K mg base 2 "told_places" ["book", "glide", "name"] (spD ⟨cn, ct⟩ 3 F_told_places) := d_told_places.cal X G (fun _ _ _ _ _ _ us hl => match us, hl with | [_, _, _], _ => rfl) fun fd F => fn_D F sc_told_places (by decide) (b_told_places T c_is_less)
  have c_tuple_of : Cal P w K mg base 9 "tuple_of" ["thing"] (spD ⟨cn, ct⟩ 1 F_tuple_of) := d_tuple_of.calR X G sc_tuple_of (by decide) (fun _ _ _ _ _ _ us hl => match us, hl with | [_], _ => rfl) (fun k F c_self => b_tuple_of T c_self) 9
  have c_tz : Cal P w K mg base 9 "tuple_of" ["thing"] (spTz F_tz) := by
    have c8 : Cal P w K mg base 8 "tuple_of" ["thing"] (spD ⟨cn, ct⟩ 1 (recG 2 m_tuple_of 8)) := d_tuple_of.calR X G sc_tuple_of (by decide) (fun _ _ _ _ _ _ us hl => match us, hl with | [_], _ => rfl) (fun k F c_self => b_tuple_of T c_self) 8
    exact d_tuple_of.cal X G (fun _ _ _ _ _ _ us hl => match us, hl with | [_], _ => rfl) fun fd F => fn_tz F T c8
  have c_fraction : Cal P w K mg base 1 "fraction" ["top", "below"] (spD ⟨cn, ct⟩ 2 F_fraction) := d_fraction.cal X G (fun _ _ _ _ _ _ us hl => match us, hl with | [_, _], _ => rfl) fun fd F => fn_D F sc_fraction (by decide) (b_fraction T )
  have c_over : Cal P w K mg base 2 "over" ["one", "other"] (spD ⟨cn, ct⟩ 2 F_over) := d_over.cal X G (fun _ _ _ _ _ _ us hl => match us, hl with | [_, _], _ => rfl) fun fd F => fn_D F sc_over (by decide) (b_over T c_fraction)
  have c_plus : Cal P w K mg base 2 "plus" ["one", "other"] (spD ⟨cn, ct⟩ 2 F_plus) := d_plus.cal X G (fun _ _ _ _ _ _ us hl => match us, hl with | [_, _], _ => rfl) fun fd F => fn_D F sc_plus (by decide) (b_plus T c_fraction)
  have c_minus : Cal P w K mg base 2 "minus" ["one", "other"] (spD ⟨cn, ct⟩ 2 F_minus) := d_minus.cal X G (fun _ _ _ _ _ _ us hl => match us, hl with | [_, _], _ => rfl) fun fd F => fn_D F sc_minus (by decide) (b_minus T c_fraction)
  have c_times : Cal P w K mg base 2 "times" ["one", "other"] (spD ⟨cn, ct⟩ 2 F_times) := d_times.cal X G (fun _ _ _ _ _ _ us hl => match us, hl with | [_, _], _ => rfl) fun fd F => fn_D F sc_times (by decide) (b_times T c_fraction)
  have c_straight : Cal P w K mg base 3 "straight" ["low", "high", "scale", "first", "second"] (spD ⟨cn, ct⟩ 5 F_straight) := d_straight.cal X G (fun _ _ _ _ _ _ us hl => match us, hl with | [_, _, _, _, _], _ => rfl) fun fd F => fn_D F sc_straight (by decide) (b_straight T c_plus c_minus c_times c_over)
  have c_least : Cal P w K mg base 2 "least" ["many"] (spD ⟨cn, ct⟩ 1 F_least) := d_least.cal X G (fun _ _ _ _ _ _ us hl => match us, hl with | [_], _ => rfl) fun fd F => fn_D F sc_least (by decide) (b_least T c_is_less)
  have c_greatest : Cal P w K mg base 2 "greatest" ["many"] (spD ⟨cn, ct⟩ 1 F_greatest) := d_greatest.cal X G (fun _ _ _ _ _ _ us hl => match us, hl with | [_], _ => rfl) fun fd F => fn_D F sc_greatest (by decide) (b_greatest T c_is_less)
  have c_part_seen : Cal P w K mg base 4 "part_seen" ["low", "high", "first", "second"] (spD ⟨cn, ct⟩ 4 F_part_seen) := d_part_seen.cal X G (fun _ _ _ _ _ _ us hl => match us, hl with | [_, _, _, _], _ => rfl) fun fd F => fn_D F sc_part_seen (by decide) (b_part_seen T c_is_less c_greatest c_least c_straight)
  have c_gaps_in : Cal P w K mg base 3 "gaps_in" ["box", "frame"] (spD ⟨cn, ct⟩ 2 F_gaps_in) := d_gaps_in.cal X G (fun _ _ _ _ _ _ us hl => match us, hl with | [_, _], _ => rfl) fun fd F => fn_D F sc_gaps_in (by decide) (b_gaps_in T c_minus)
  have c_box_in : Cal P w K mg base 3 "box_in" ["name", "place"] (spD ⟨cn, ct⟩ 2 F_box_in) := d_box_in.cal X G (fun _ _ _ _ _ _ us hl => match us, hl with | [_, _], _ => rfl) fun fd F => fn_D F sc_box_in (by decide) (b_box_in T c_plus)
  have c_window_in : Cal P w K mg base 2 "window_in" ["view", "scale"] (spD ⟨cn, ct⟩ 2 F_window_in) := d_window_in.cal X G (fun _ _ _ _ _ _ us hl => match us, hl with | [_, _], _ => rfl) fun fd F => fn_D F sc_window_in (by decide) (b_window_in T c_fraction)
  have c_seen_spans : Cal P w K mg base 10 "seen_spans" ["chart", "book", "glide", "view", "name"] (spO ⟨cn, ct⟩ 5 F_seen_spans) := d_seen_spans.cal X G (fun _ _ _ _ _ _ us hl => match us, hl with | [_, _, _, _, _], _ => rfl) fun fd F => fn_O F sc_seen_spans (by decide) (b_seen_spans T c_tuple_of c_sure_name c_box_in c_window_in c_gaps_in c_told_places c_part_seen)
  have k_seen_spans : CalK P w K mg base 10 "seen_spans" ["name", "view", "glide", "book", "chart"] [4, 3, 2, 1, 0] (spD ⟨cn, ct⟩ 5 (fzF F_seen_spans)) := d_seen_spans.calK (ps := ["chart", "book", "glide", "view", "name"]) X G (fun _ _ _ _ _ _ ws hl => match ws, hl with | [], hl => by simp [permL] at hl | [_], hl => by simp [permL] at hl | [_, _], hl => by simp [permL] at hl | [_, _, _], hl => by simp [permL] at hl | [_, _, _, _], hl => by simp [permL] at hl | _ :: _ :: _ :: _ :: _ :: _, _ => rfl) fun fd F => (fn_O F sc_seen_spans (by decide) (b_seen_spans T c_tuple_of c_sure_name c_box_in c_window_in c_gaps_in c_told_places c_part_seen)).imp fun _ _ _ _ => spO_D
  have c_law_lists : Cal P w K mg base 9 "_law_lists" ["_law_matter"] (spD ⟨cn, ct⟩ 1 F_law_lists) := d_law_lists.calR X G sc_law_lists (by decide) (fun _ _ _ _ _ _ us hl => match us, hl with | [_], _ => rfl) (fun k F c_self => b_law_lists T c_self) 9
  have c_law_by_hand_right : Cal P w K mg base 11 "_law_by_hand_right" [] (spD ⟨cn, ct⟩ 0 F_law_by_hand_right) := d_law_by_hand_right.cal X G (fun _ _ _ _ _ _ us hl => match us, hl with | [], _ => rfl) fun fd F => fn_D F sc_law_by_hand_right (by decide) (b_law_by_hand_right T c_seen_spans c_law_same c_law_lists c_law_row_map k_seen_spans nx_law_row_map)
  have c_up : Cal P w K mg base 1 "up" ["one"] (spD ⟨cn, ct⟩ 1 F_up) := d_up.cal X G (fun _ _ _ _ _ _ us hl => match us, hl with | [_], _ => rfl) fun fd F => fn_D F sc_up (by decide) (b_up T )
  have c_cells_between : Cal P w K mg base 3 "cells_between" ["first", "last", "begin", "many"] (spD ⟨cn, ct⟩ 4 F_cells_between) := d_cells_between.cal X G (fun _ _ _ _ _ _ us hl => match us, hl with | [_, _, _, _], _ => rfl) fun fd F => fn_D F sc_cells_between (by decide) (b_cells_between T c_plus c_minus c_up)
  have c_picture : Cal P w K mg base 10 "picture" ["chart", "lot", "standing", "view", "scale"] (spD ⟨cn, ct⟩ 5 F_picture) := d_picture.cal X G (fun _ _ _ _ _ _ us hl => match us, hl with | [_, _, _, _, _], _ => rfl) fun fd F => fn_D F sc_picture (by decide) (b_picture T c_tuple_of c_window_in c_box_in c_cells_between)
  have k_picture : CalK P w K mg base 10 "picture" ["scale", "view", "standing", "lot", "chart"] [4, 3, 2, 1, 0] (spD ⟨cn, ct⟩ 5 F_picture) := d_picture.calK (ps := ["chart", "lot", "standing", "view", "scale"]) X G (fun _ _ _ _ _ _ ws hl => match ws, hl with | [], hl => by simp [permL] at hl | [_], hl => by simp [permL] at hl | [_, _], hl => by simp [permL] at hl | [_, _, _], hl => by simp [permL] at hl | [_, _, _, _], hl => by simp [permL] at hl | _ :: _ :: _ :: _ :: _ :: _, _ => rfl) fun fd F => fn_D F sc_picture (by decide) (b_picture T c_tuple_of c_window_in c_box_in c_cells_between)
  have c_tiles_in : Cal P w K mg base 4 "tiles_in" ["own", "name", "place", "size"] (spD ⟨cn, ct⟩ 4 F_tiles_in) := d_tiles_in.cal X G (fun _ _ _ _ _ _ us hl => match us, hl with | [_, _, _, _], _ => rfl) fun fd F => fn_D F sc_tiles_in (by decide) (b_tiles_in T c_fraction c_box_in c_up)
  have c_tiles_under : Cal P w K mg base 10 "tiles_under" ["chart", "name", "place", "size"] (spD ⟨cn, ct⟩ 4 F_tiles_under) := d_tiles_under.cal X G (fun _ _ _ _ _ _ us hl => match us, hl with | [_, _, _, _], _ => rfl) fun fd F => fn_D F sc_tiles_under (by decide) (b_tiles_under T c_tuple_of c_sure_name c_tiles_in)
  have k_tiles_under : CalK P w K mg base 10 "tiles_under" ["size", "place", "name", "chart"] [3, 2, 1, 0] (spD ⟨cn, ct⟩ 4 F_tiles_under) := d_tiles_under.calK (ps := ["chart", "name", "place", "size"]) X G (fun _ _ _ _ _ _ ws hl => match ws, hl with | [], hl => by simp [permL] at hl | [_], hl => by simp [permL] at hl | [_, _], hl => by simp [permL] at hl | [_, _, _], hl => by simp [permL] at hl | _ :: _ :: _ :: _ :: _, _ => rfl) fun fd F => fn_D F sc_tiles_under (by decide) (b_tiles_under T c_tuple_of c_sure_name c_tiles_in)
  have c_window : Cal P w K mg base 10 "window" ["view", "scale"] (spD ⟨cn, ct⟩ 2 F_window) := d_window.cal X G (fun _ _ _ _ _ _ us hl => match us, hl with | [_, _], _ => rfl) fun fd F => fn_D F sc_window (by decide) (b_window T c_tuple_of c_window_in)
  have k_window : CalK P w K mg base 10 "window" ["scale", "view"] [1, 0] (spD ⟨cn, ct⟩ 2 F_window) := d_window.calK (ps := ["view", "scale"]) X G (fun _ _ _ _ _ _ ws hl => match ws, hl with | [], hl => by simp [permL] at hl | [_], hl => by simp [permL] at hl | _ :: _ :: _, _ => rfl) fun fd F => fn_D F sc_window (by decide) (b_window T c_tuple_of c_window_in)
  have c_meets : Cal P w K mg base 4 "meets" ["box", "frame"] (spD ⟨cn, ct⟩ 2 F_meets) := d_meets.cal X G (fun _ _ _ _ _ _ us hl => match us, hl with | [_, _], _ => rfl) fun fd F => fn_D F sc_meets (by decide) (b_meets T c_gaps_in)
  have c_cut_at : Cal P w K mg base 11 "cut_at" ["chart", "lot", "standing", "view", "scale", "name"] (spD ⟨cn, ct⟩ 6 F_cut_at) := d_cut_at.cal X G (fun _ _ _ _ _ _ us hl => match us, hl with | [_, _, _, _, _, _], _ => rfl) fun fd F => fn_D F sc_cut_at (by decide) (b_cut_at T c_tuple_of c_tz c_minus c_greatest c_sure_name c_box_in c_window c_meets)
  have k_cut_at : CalK P w K mg base 11 "cut_at" ["name", "scale", "view", "standing", "lot", "chart"] [5, 4, 3, 2, 1, 0] (spD ⟨cn, ct⟩ 6 F_cut_at) := d_cut_at.calK (ps := ["chart", "lot", "standing", "view", "scale", "name"]) X G (fun _ _ _ _ _ _ ws hl => match ws, hl with | [], hl => by simp [permL] at hl | [_], hl => by simp [permL] at hl | [_, _], hl => by simp [permL] at hl | [_, _, _], hl => by simp [permL] at hl | [_, _, _, _], hl => by simp [permL] at hl | [_, _, _, _, _], hl => by simp [permL] at hl | _ :: _ :: _ :: _ :: _ :: _ :: _, _ => rfl) fun fd F => fn_D F sc_cut_at (by decide) (b_cut_at T c_tuple_of c_tz c_minus c_greatest c_sure_name c_box_in c_window c_meets)
  have c_by_tiles : Cal P w K mg base 10 "by_tiles" ["chart", "lot", "standing", "size"] (spD ⟨cn, ct⟩ 4 F_by_tiles) := d_by_tiles.cal X G (fun _ _ _ _ _ _ us hl => match us, hl with | [_, _, _, _], _ => rfl) fun fd F => fn_D F sc_by_tiles (by decide) (b_by_tiles T c_tuple_of c_tiles_in)
  have c_law_heard : Cal P w K mg base 12 "_law_heard" ["_law_door", "_law_chart", "_law_book", "_law_pairs", "_law_look_here", "_law_k"] (spD ⟨cn, ct⟩ 6 F_law_heard) := d_law_heard.cal X G (fun _ _ _ _ _ _ us hl => match us, hl with | [_, _, _, _, _, _], _ => rfl) fun fd F => fn_D F sc_law_heard (by decide) (b_law_heard T c_cut_at c_picture c_tiles_under c_by_tiles c_seen_spans)
  have c_is_tuple_of : Cal P w K mg base 1 "is_tuple_of" ["thing", "many"] (spD ⟨cn, ct⟩ 2 F_is_tuple_of) := d_is_tuple_of.cal X G (fun _ _ _ _ _ _ us hl => match us, hl with | [_, _], _ => rfl) fun fd F => fn_D F sc_is_tuple_of (by decide) (b_is_tuple_of T )
  have c_is_view : Cal P w K mg base 2 "is_view" ["thing"] (spD ⟨cn, ct⟩ 1 F_is_view) := d_is_view.cal X G (fun _ _ _ _ _ _ us hl => match us, hl with | [_], _ => rfl) fun fd F => fn_D F sc_is_view (by decide) (b_is_view T c_is_number c_is_tuple_of)
  have c_least_view : Cal P w K mg base 10 "least_view" ["chart", "lot", "standing", "scale", "p", "q"] (spD ⟨cn, ct⟩ 6 F_least_view) := d_least_view.cal X G (fun _ _ _ _ _ _ us hl => match us, hl with | [_, _, _, _, _, _], _ => rfl) fun fd F => fn_D F sc_least_view (by decide) (b_least_view T c_tuple_of c_fraction c_plus c_minus c_greatest c_box_in c_up)
  have k_least_view : CalK P w K mg base 10 "least_view" ["q", "p", "scale", "standing", "lot", "chart"] [5, 4, 3, 2, 1, 0] (spD ⟨cn, ct⟩ 6 F_least_view) := d_least_view.calK (ps := ["chart", "lot", "standing", "scale", "p", "q"]) X G (fun _ _ _ _ _ _ ws hl => match ws, hl with | [], hl => by simp [permL] at hl | [_], hl => by simp [permL] at hl | [_, _], hl => by simp [permL] at hl | [_, _, _], hl => by simp [permL] at hl | [_, _, _, _], hl => by simp [permL] at hl | [_, _, _, _, _], hl => by simp [permL] at hl | _ :: _ :: _ :: _ :: _ :: _ :: _, _ => rfl) fun fd F => fn_D F sc_least_view (by decide) (b_least_view T c_tuple_of c_fraction c_plus c_minus c_greatest c_box_in c_up)
  have c_law_refused_right : Cal P w K mg base 13 "_law_refused_right" ["_law_off"] (spD ⟨cn, ct⟩ 1 F_law_refused_right) := d_law_refused_right.cal X G (fun _ _ _ _ _ _ us hl => match us, hl with | [_], _ => rfl) fun fd F => fn_D F sc_law_refused_right (by decide) (b_law_refused_right T c_is_view c_law_same c_law_lists c_law_row_map c_law_heard k_cut_at k_least_view k_picture k_tiles_under k_window nx_law_row_map)
  have c_law_spots : Cal P w K mg base 2 "_law_spots" ["_law_book", "_law_pairs", "_law_k"] (spD ⟨cn, ct⟩ 3 F_law_spots) := d_law_spots.cal X G (fun _ _ _ _ _ _ us hl => match us, hl with | [_, _, _], _ => rfl) fun fd F => fn_D F sc_law_spots (by decide) (b_law_spots T c_law_less)
  have c_law_minus : Cal P w K mg base 2 "_law_minus" ["_law_one", "_law_two"] (spD ⟨cn, ct⟩ 2 F_law_minus) := d_law_minus.cal X G (fun _ _ _ _ _ _ us hl => match us, hl with | [_, _], _ => rfl) fun fd F => fn_D F sc_law_minus (by decide) (b_law_minus T c_law_part)
  have c_law_turn : Cal P w K mg base 3 "_law_turn" ["_law_low", "_law_high", "_law_first", "_law_last"] (spD ⟨cn, ct⟩ 4 F_law_turn) := d_law_turn.cal X G (fun _ _ _ _ _ _ us hl => match us, hl with | [_, _, _, _], _ => rfl) fun fd F => fn_D F sc_law_turn (by decide) (b_law_turn T c_law_part c_law_minus)
  have c_law_range : Cal P w K mg base 4 "_law_range" ["_law_low", "_law_high", "_law_ones", "_law_twos"] (spD ⟨cn, ct⟩ 4 F_law_range) := d_law_range.cal X G (fun _ _ _ _ _ _ us hl => match us, hl with | [_, _, _, _], _ => rfl) fun fd F => fn_D F sc_law_range (by decide) (b_law_range T c_law_less c_law_turn)
  have c_law_gaps : Cal P w K mg base 3 "_law_gaps" ["_law_frame_here", "_law_pane_here"] (spD ⟨cn, ct⟩ 2 F_law_gaps) := d_law_gaps.cal X G (fun _ _ _ _ _ _ us hl => match us, hl with | [_, _], _ => rfl) fun fd F => fn_D F sc_law_gaps (by decide) (b_law_gaps T c_law_minus)
  have c_law_frame : Cal P w K mg base 3 "_law_frame" ["_law_chart", "_law_k", "_law_spot"] (spD ⟨cn, ct⟩ 3 F_law_frame) := d_law_frame.cal X G (fun _ _ _ _ _ _ us hl => match us, hl with | [_, _, _], _ => rfl) fun fd F => fn_D F sc_law_frame (by decide) (b_law_frame T c_law_plus)
  have c_law_times : Cal P w K mg base 2 "_law_times" ["_law_one", "_law_two"] (spD ⟨cn, ct⟩ 2 F_law_times) := d_law_times.cal X G (fun _ _ _ _ _ _ us hl => match us, hl with | [_, _], _ => rfl) fun fd F => fn_D F sc_law_times (by decide) (b_law_times T c_law_part)
  have c_law_pane : Cal P w K mg base 3 "_law_pane" ["_law_look_here", "_law_at"] (spD ⟨cn, ct⟩ 2 F_law_pane) := d_law_pane.cal X G (fun _ _ _ _ _ _ us hl => match us, hl with | [_, _], _ => rfl) fun fd F => fn_D F sc_law_pane (by decide) (b_law_pane T c_law_part c_law_plus c_law_minus c_law_times)
  have c_law_ranges : Cal P w K mg base 5 "_law_ranges" ["_law_chart", "_law_book", "_law_pairs", "_law_look_here", "_law_k"] (spD ⟨cn, ct⟩ 5 F_law_ranges) := d_law_ranges.cal X G (fun _ _ _ _ _ _ us hl => match us, hl with | [_, _, _, _, _], _ => rfl) fun fd F => fn_D F sc_law_ranges (by decide) (b_law_ranges T c_law_frame c_law_pane c_law_spots c_law_gaps c_law_range)
  have c_seen : Cal P w K mg base 11 "seen" ["chart", "lot", "standing", "view", "scale"] (spD ⟨cn, ct⟩ 5 F_seen) := d_seen.cal X G (fun _ _ _ _ _ _ us hl => match us, hl with | [_, _, _, _, _], _ => rfl) fun fd F => fn_D F sc_seen (by decide) (b_seen T c_tuple_of c_box_in c_window c_meets)
  have c_law_case_right : Cal P w K mg base 12 "_law_case_right" ["_law_tin", "_law_chart", "_law_book", "_law_pairs", "_law_look_here"] (spM ⟨cn, ct⟩ 4 F_law_case_right) := d_law_case_right.cal X G (fun _ _ _ _ _ _ us hl => match us, hl with | [_, _, _, _, _], _ => rfl) fun fd F => fn_M F sc_law_case_right rfl (by decide) (b_law_case_right T c_seen c_seen_spans c_law_take c_law_same c_law_lists c_law_part c_law_plus c_law_minus c_law_times c_law_less c_law_spots c_law_ranges)
  exact fn_law (fun_mk (st := s_law) ll lc d_law.k) T c_law_cells c_law_box c_law_take c_law_look c_law_glide_drawn c_law_case_right c_law_by_hand_right c_law_refused_right nx_law_by_hand_right main
end GN

set_option Elab.async false
set_option linter.all false
set_option maxRecDepth 100000
set_option maxHeartbeats 8000000
/-! TR: the parts by hand, run in the kernel. -/
namespace GN
open PySem PySem.Spec PyProof.Rows L2
def isOk {α : Type} : Res α → Bool
  | .ok _ => true
  | _ => false
theorem nox_of {α : Type} {r : Res α} (h : isOk r = true) : NoX r := fun x e => by rw [e] at h; cases h
theorem nx_row : NoX (F_law_row_map []) := nox_of (by kernel_rfl)
theorem t_hand : F_law_by_hand_right [] = .ok (.bool true) := by kernel_rfl
theorem nx_hand : NoX (F_law_by_hand_right []) := nox_of (by rw [t_hand]; rfl)
theorem sSeq_assoc (f g h : SF) : sSeq f (sSeq g h) = sSeq (sSeq f g) h := by
  funext ρ
  show (f ρ).bind _ = ((f ρ).bind _).bind _
  cases f ρ with
  | ok a =>
    obtain ⟨l, ρ1⟩ := a
    cases l <;> rfl
  | exc x => rfl
  | bad => rfl
theorem seq_go {f g : SF} {ρ ρ1 : En} (h : f ρ = .ok (.nx, ρ1)) : sSeq f g ρ = g ρ1 := by
  unfold sSeq
  rw [h]
  rfl
def rF (a b : Int) : D := .tuple [.int a, .int b]
def rV (a b c d : Int) : D := .tuple [.int a, .int b, .int c, .int d]
def rRow : D := .tuple [.tuple [.int 4, .int 1, rV 0 2 0 2, rV 0 0 0 0], .tuple [.int 4, .int 1, rV 3 2 3 2, rV 0 0 0 0], .tuple [.int 4, .int 1, rV 6 2 6 2, rV 0 0 0 0]]
def rSp : D := .tuple [.tuple [rF (-2) 1, rF 0 1], .tuple [rF 2 1, rF 0 1], .tuple [rF 6 1, rF 0 1]]
def rFar : D := .tuple [.tuple [rF 0 1, rF 0 1], .tuple [rF 6 1, rF 0 1], .tuple [rF 12 1, rF 0 1]]
def rPairs : D := .tuple [.tuple [rF 2 3, rSp], .tuple [rF 2 1, rFar]]
def rBook : D := .tuple [rF 0 1, rF 0 1, rF 0 1]
def rWide : D := .tuple [.tuple [.int 2001, .int 1, rV 0 9 0 9, rV 0 9 0 9], .tuple [.int 2000, .int 1, rV 0 9 0 9, rV 0 9 0 9]]
def rMu : D := .list [.str "much", .bool true]
theorem r_h1 : F_law_heard [.int 1, rWide, rBook, rPairs, .int 1, .int 0] = .ok rMu := by kernel_rfl
theorem r_h2 : F_law_heard [.int 4, rWide, rBook, rPairs, .int 1, .int 0] = .ok rMu := by kernel_rfl
theorem r_h4 : F_law_heard [.int 3, rRow, rBook, rPairs, .tuple [.int 0, .int 0, .int 20001, .int 1], .int 0] = .ok rMu := by kernel_rfl
def rLen (r : Res D) : Bool := match r with
  | .ok d => (match lenF [d] with
    | .ok (.int n) => decide (n = 2000)
    | _ => false)
  | _ => false
theorem r_t : rLen (F_law_heard [.int 1, rWide, rBook, rPairs, .int 1, .int 1]) = true := by kernel_rfl
theorem r_h3 : ∃ d, F_law_heard [.int 1, rWide, rBook, rPairs, .int 1, .int 1] = .ok d ∧ lenF [d] = .ok (.int 2000) := by
  have h := r_t
  cases z : F_law_heard [.int 1, rWide, rBook, rPairs, .int 1, .int 1] with
  | ok d =>
    rw [z] at h
    refine ⟨d, rfl, ?_⟩
    have h2 : (match lenF [d] with | .ok (.int n) => decide (n = 2000) | _ => false) = true := h
    cases y : lenF [d] with
    | ok l =>
      rw [y] at h2
      cases l with
      | int n => rw [of_decide_eq_true h2]
      | none => cases h2
      | bool _ => cases h2
      | str _ => cases h2
      | list _ => cases h2
      | tuple _ => cases h2
      | dict _ => cases h2
    | exc x => rw [y] at h2; cases h2
    | bad => rw [y] at h2; cases h2
  | exc x => rw [z] at h; cases h
  | bad => rw [z] at h; cases h
theorem r_cons {f : EF} {fs : LF} {ρ ρ1 ρ2 : En} {d : D} {ds : List D} (h : f ρ = .ok (d, ρ1)) (h2 : fs ρ1 = .ok (ds, ρ2)) : aCons f fs ρ = .ok (d :: ds, ρ2) := by
  unfold aCons
  rw [h]
  show (fs ρ1).bind _ = _
  rw [h2]
  rfl
theorem r_fn {n : Nat} {F : List D → Res D} {fs : LF} {ρ ρ1 : En} {ds : List D} {d : D} (c : fs ρ = .ok (ds, ρ1)) (hl : ds.length = n) (h : F ds = .ok d) : eFn n F fs ρ = .ok (d, ρ1) := by
  unfold eFn
  rw [c]
  show (if ds.length = n then _ else _) = _
  rw [if_pos hl, h]
  rfl
theorem r_cat {i : Nat} {f : EF} {ρ ρ1 ρ2 : En} {xs ys : List D} (h1 : eVar i ρ = .ok (.list xs, ρ1)) (h2 : f ρ1 = .ok (.list ys, ρ2)) (hc : few (xs.length + ys.length) = true) : sSetO i (oCat (eVar i) f) ρ = .ok (.nx, ρ2.set i (.own (xs ++ ys))) := by
  have hc : catL (.list xs) (.list ys) = .ok (.list (xs ++ ys)) := if_pos hc
  unfold sSetO oCat
  rw [h1]
  show (((f ρ1).bind _).bind _) = _
  rw [h2]
  show ((match catL (.list xs) (.list ys) with | .ok (.list l) => Res.ok (l, ρ2) | _ => Res.bad).bind _) = _
  rw [hc]
  rfl
theorem r_v {i : Nat} {d : D} {ρ : En} (h : ρ[i]? = some (.val d)) : eVar i ρ = .ok (d, ρ) := by
  unfold eVar
  rw [h]
def isNxB : Res (Fl × En) → Bool
  | .ok (.nx, _) => true
  | _ => false
def stepE (f : SF) (ρ : En) : En := match f ρ with
  | .ok (_, ρ1) => ρ1
  | _ => []
theorem seq_st {f g : SF} {ρ : En} (h : isNxB (f ρ) = true) : sSeq f g ρ = g (stepE f ρ) := by
  unfold sSeq stepE
  cases z : f ρ with
  | ok a =>
    obtain ⟨l, ρ1⟩ := a
    rw [z] at h
    cases l with
    | nx => rfl
    | ct => cases h
    | bk => cases h
    | rt _ => cases h
    | ro _ => cases h
  | exc x => rw [z] at h; cases h
  | bad => rw [z] at h; cases h
def ownA (i : Nat) (ρ : En) : List D := match ρ[i]? with
  | some (.own ds) => ds
  | _ => []
def isOwnB (i : Nat) (ρ : En) : Bool := match ρ[i]? with
  | some (.own ds) => few (ds.length + 4)
  | _ => false
theorem own_of {i : Nat} {ρ : En} (h : isOwnB i ρ = true) : ρ[i]? = some (.own (ownA i ρ)) ∧ few ((ownA i ρ).length + 4) = true := by
  unfold isOwnB at h
  unfold ownA
  cases z : ρ[i]? with
  | none => rw [z] at h; cases h
  | some s =>
    rw [z] at h
    cases s with
    | no => cases h
    | val d => cases h
    | own ds => exact ⟨rfl, h⟩
abbrev rH (a b c d : EF) (es : LF) : EF := eFn 6 F_law_heard (aCons a (aCons b (aCons c (aCons d es))))
abbrev rC : SF := sSetO 5 (oCat (eVar 5) (eLst (aCons (rH (eC (.int 1)) (eVar 4) (eVar 11) (eVar 10) (aCons (eC (.int 1)) (aCons (eC (.int 0)) aNil))) (aCons (rH (eC (.int 4)) (eVar 4) (eVar 11) (eVar 10) (aCons (eC (.int 1)) (aCons (eC (.int 0)) aNil))) (aCons (eCall lenF (aCons (rH (eC (.int 1)) (eVar 4) (eVar 11) (eVar 10) (aCons (eC (.int 1)) (aCons (eC (.int 1)) aNil))) aNil)) (aCons (rH (eC (.int 3)) (eVar 8) (eVar 11) (eVar 10) (aCons (eTup (aCons (eC (.int 0)) (aCons (eC (.int 0)) (aCons (eC (.int 20001)) (aCons (eC (.int 1)) aNil))))) (aCons (eC (.int 0)) aNil))) aNil))))))
theorem r_c {ρ : En} (h5 : isOwnB 5 ρ = true) (h4 : ρ[4]? = some (.val rWide)) (h8 : ρ[8]? = some (.val rRow)) (h10 : ρ[10]? = some (.val rPairs)) (h11 : ρ[11]? = some (.val rBook)) :
    rC ρ = .ok (.nx, (ρ.set 5 (.val (.list (ownA 5 ρ)))).set 5 (.own (ownA 5 ρ ++ [rMu, rMu, .int 2000, rMu]))) := by
  obtain ⟨o5, l5⟩ := own_of h5
  obtain ⟨d, h3, h3l⟩ := r_h3
  generalize hS : ρ.set 5 (.val (.list (ownA 5 ρ))) = S
  have ne : ∀ i, 5 ≠ i → S[i]? = ρ[i]? := fun i hi => by rw [← hS, List.getElem?_set_ne hi]
  have v5 : eVar 5 ρ = .ok (.list (ownA 5 ρ), S) := by
    unfold eVar
    rw [o5]
    show Res.ok (PyData.list (ownA 5 ρ), ρ.set 5 (.val (.list (ownA 5 ρ)))) = _
    rw [hS]
  have v4 : eVar 4 S = .ok (rWide, S) := r_v ((ne 4 (by decide)).trans h4)
  have v8 : eVar 8 S = .ok (rRow, S) := r_v ((ne 8 (by decide)).trans h8)
  have v10 : eVar 10 S = .ok (rPairs, S) := r_v ((ne 10 (by decide)).trans h10)
  have v11 : eVar 11 S = .ok (rBook, S) := r_v ((ne 11 (by decide)).trans h11)
  have nl : aNil S = .ok ([], S) := rfl
  have k : ∀ i : Int, eC (.int i) S = .ok (.int i, S) := fun _ => rfl
  have e1 : rH (eC (.int 1)) (eVar 4) (eVar 11) (eVar 10) (aCons (eC (.int 1)) (aCons (eC (.int 0)) aNil)) S = .ok (rMu, S) := r_fn (r_cons (k 1) (r_cons v4 (r_cons v11 (r_cons v10 (r_cons (k 1) (r_cons (k 0) nl)))))) rfl r_h1
  have e2 : rH (eC (.int 4)) (eVar 4) (eVar 11) (eVar 10) (aCons (eC (.int 1)) (aCons (eC (.int 0)) aNil)) S = .ok (rMu, S) := r_fn (r_cons (k 4) (r_cons v4 (r_cons v11 (r_cons v10 (r_cons (k 1) (r_cons (k 0) nl)))))) rfl r_h2
  have e3 : rH (eC (.int 1)) (eVar 4) (eVar 11) (eVar 10) (aCons (eC (.int 1)) (aCons (eC (.int 1)) aNil)) S = .ok (d, S) := r_fn (r_cons (k 1) (r_cons v4 (r_cons v11 (r_cons v10 (r_cons (k 1) (r_cons (k 1) nl)))))) rfl h3
  have e3l : eCall lenF (aCons (rH (eC (.int 1)) (eVar 4) (eVar 11) (eVar 10) (aCons (eC (.int 1)) (aCons (eC (.int 1)) aNil))) aNil) S = .ok (.int 2000, S) := by
    unfold eCall
    rw [r_cons e3 nl]
    show (match lenF [d] with | .ok d => Res.ok (d, S) | _ => Res.bad) = _
    rw [h3l]
  have e4 : rH (eC (.int 3)) (eVar 8) (eVar 11) (eVar 10) (aCons (eTup (aCons (eC (.int 0)) (aCons (eC (.int 0)) (aCons (eC (.int 20001)) (aCons (eC (.int 1)) aNil))))) (aCons (eC (.int 0)) aNil)) S = .ok (rMu, S) :=
    r_fn (r_cons (k 3) (r_cons v8 (r_cons v11 (r_cons v10 (r_cons (d := .tuple [.int 0, .int 0, .int 20001, .int 1]) (ρ1 := S) rfl (r_cons (k 0) nl)))))) rfl r_h4
  have l := r_cons e1 (r_cons e2 (r_cons e3l (r_cons e4 nl)))
  refine r_cat (ρ2 := S) (ys := [rMu, rMu, .int 2000, rMu]) v5 ?_ l5
  unfold eLst
  rw [l]
  rfl
def rP : SF := (sSeq (sSeq (sSeq (sSeq (sSeq (sSeq (sTup [8, 9] (csC (cV (eFn 0 F_law_row_map aNil)) (csC (cV (eTup (aCons (eC (.int 2)) (aCons (eC (.int 3)) aNil)))) csN))) (sSet 1 (eCall tupleF (aCons (eFz (oLc (iSeq (eTup (aCons (eNeg (eC (.int 2))) (aCons (eC (.int 2)) (aCons (eC (.int 6)) aNil))))) (gN 12) tYesF (eTup (aCons (eTup (aCons (eVar 12) (aCons (eC (.int 1)) aNil))) (aCons (eTup (aCons (eC (.int 0)) (aCons (eC (.int 1)) aNil))) aNil))) [12])) aNil)))) (sSet 2 (eCall tupleF (aCons (eFz (oLc (iSeq (eTup (aCons (eC (.int 0)) (aCons (eC (.int 6)) (aCons (eC (.int 12)) aNil))))) (gN 12) tYesF (eTup (aCons (eTup (aCons (eVar 12) (aCons (eC (.int 1)) aNil))) (aCons (eTup (aCons (eC (.int 0)) (aCons (eC (.int 1)) aNil))) aNil))) [12])) aNil)))) (sTup [10, 11] (csC (cV (eTup (aCons (eTup (aCons (eVar 9) (aCons (eVar 1) aNil))) (aCons (eTup (aCons (eTup (aCons (eC (.int 2)) (aCons (eC (.int 1)) aNil))) (aCons (eVar 2) aNil))) aNil)))) (csC (cV (eOp mulF (eTup (aCons (eTup (aCons (eC (.int 0)) (aCons (eC (.int 1)) aNil))) aNil)) (eC (.int 3)))) csN)))) (sTup [5, 6] (csC (cO (oLst aNil)) (csC (cO (oLst aNil)) csN)))) (sFor (iSeq (eTup (aCons (eC (.int 3)) (aCons (eOp addF (eC (.int 3)) (eVar 0)) (aCons (eNeg (eC (.int 1))) (aCons (eOp subI (eNeg (eC (.int 1))) (eVar 0)) aNil)))))) (gN 3) (sSeq (sSetO 5 (oCat (eVar 5) (eFz (oLc (iSeq (eTup (aCons (eTup (aCons (eC (.int 0)) (aCons (eTup (aCons (eC (.int 3)) (aCons (eC (.int 0)) (aCons (eC (.int 2)) (aCons (eC (.int 2)) aNil))))) aNil))) (aCons (eTup (aCons (eC (.int 1)) (aCons (eC (.int 4)) aNil))) (aCons (eTup (aCons (eC (.int 2)) (aCons (eTup (aCons (eC (.int 3)) (aCons (eC (.int 0)) (aCons (eC (.int 2)) (aCons (eC (.int 2)) aNil))))) aNil))) aNil))))) (gT 2 (gsC (gN 13) (gsC (gN 14) gsN))) tYesF (eFn 6 F_law_heard (aCons (eVar 13) (aCons (eVar 8) (aCons (eVar 11) (aCons (eVar 10) (aCons (eVar 14) (aCons (eVar 3) aNil))))))) [13, 14])))) (sSetO 6 (oCat (eVar 6) (eOp mulF (eLst (aCons (eLst (aCons (eC (.str "no place")) (aCons (eVar 3) (aCons (eC (.bool true)) aNil)))) aNil)) (eC (.int 3)))))))) (sSet 4 (eTup (aCons (eTup (aCons (eC (.int 2001)) (aCons (eC (.int 1)) (aCons (eTup (aCons (eC (.int 0)) (aCons (eC (.int 9)) (aCons (eC (.int 0)) (aCons (eC (.int 9)) aNil))))) (aCons (eTup (aCons (eC (.int 0)) (aCons (eC (.int 9)) (aCons (eC (.int 0)) (aCons (eC (.int 9)) aNil))))) aNil))))) (aCons (eTup (aCons (eC (.int 2000)) (aCons (eC (.int 1)) (aCons (eTup (aCons (eC (.int 0)) (aCons (eC (.int 9)) (aCons (eC (.int 0)) (aCons (eC (.int 9)) aNil))))) (aCons (eTup (aCons (eC (.int 0)) (aCons (eC (.int 9)) (aCons (eC (.int 0)) (aCons (eC (.int 9)) aNil))))) aNil))))) aNil)))))
def rR : SF := (sSeq (sSetO 5 (oCat (eVar 5) (eLst (aCons (eFn 6 F_law_heard (aCons (eC (.int 3)) (aCons (eVar 8) (aCons (eVar 11) (aCons (eVar 10) (aCons (eTup (aCons (eC (.int 0)) (aCons (eC (.int 0)) (aCons (eC (.int 200)) (aCons (eC (.int 101)) aNil))))) (aCons (eC (.int 0)) aNil))))))) (aCons (eCall lenF (aCons (eFn 6 F_law_heard (aCons (eC (.int 3)) (aCons (eVar 8) (aCons (eVar 11) (aCons (eVar 10) (aCons (eTup (aCons (eC (.int 0)) (aCons (eC (.int 0)) (aCons (eIf (tB1 (eOp eqF (eVar 0) (eC (.int 0)))) (eC (.int 200)) (eC (.int 2))) (aCons (eC (.int 100)) aNil))))) (aCons (eC (.int 0)) aNil))))))) aNil)) aNil))))) (sSeq (sSetO 6 (oCat (eVar 6) (eLst (aCons (eLst (aCons (eC (.str "much")) (aCons (eC (.bool true)) aNil))) (aCons (eLst (aCons (eC (.str "much")) (aCons (eC (.bool true)) aNil))) (aCons (eC (.int 2000)) (aCons (eLst (aCons (eC (.str "much")) (aCons (eC (.bool true)) aNil))) (aCons (eLst (aCons (eC (.str "much")) (aCons (eC (.bool true)) aNil))) (aCons (eC (.int 100)) aNil))))))))) (sSeq (sSet 7 (eLst (aCons (eTup (aCons (eC (.int 0)) (aCons (eC (.int 0)) (aCons (eC (.int 1)) (aCons (eC (.int 1)) aNil))))) (aCons (eTup (aCons (eNeg (eC (.int 3))) (aCons (eOp powI (eC (.int 10)) (eC (.int 30))) (aCons (eC (.int 7)) (aCons (eOp powI (eC (.int 10)) (eC (.int 9))) aNil))))) (aCons (eTup (aCons (eC (.int 0)) (aCons (eC (.int 0)) (aCons (eC (.int 0)) (aCons (eC (.int 1)) aNil))))) (aCons (eTup (aCons (eC (.int 0)) (aCons (eC (.int 0)) (aCons (eC (.int 1)) (aCons (eNeg (eC (.int 1))) aNil))))) (aCons (eTup (aCons (eC (.int 0)) (aCons (eC (.int 0)) (aCons (eC (.int 1)) aNil)))) (aCons (eTup (aCons (eC (.int 0)) (aCons (eC (.int 0)) (aCons (eC (.int 1)) (aCons (eC (.int 1)) (aCons (eC (.int 1)) aNil)))))) (aCons (eLst (aCons (eC (.int 0)) (aCons (eC (.int 0)) (aCons (eC (.int 1)) (aCons (eC (.int 1)) aNil))))) (aCons (eTup (aCons (eC (.int 0)) (aCons (eC (.int 0)) (aCons (eC (.int 1)) (aCons (eC (.bool true)) aNil))))) (aCons (eTup (aCons (eC (.int 0)) (aCons (eC .none) (aCons (eC (.int 1)) (aCons (eC (.int 1)) aNil))))) (aCons (eTup (aCons (eC (.str "0")) (aCons (eC (.int 0)) (aCons (eC (.int 1)) (aCons (eC (.int 1)) aNil))))) (aCons (eTup (aCons (eLst (aCons (eC (.int 0)) aNil)) (aCons (eC (.int 0)) (aCons (eC (.int 1)) (aCons (eC (.int 1)) aNil))))) (aCons (eC .none) (aCons (eTup aNil) (aCons (eC (.str "0011")) (aCons (eTup (aCons (eTup (aCons (eC (.int 0)) (aCons (eC (.int 0)) aNil))) (aCons (eTup (aCons (eC (.int 1)) (aCons (eC (.int 1)) aNil))) aNil))) aNil))))))))))))))))) (sSeq (sApp 5 (eFz (oLc (iSeq (eVar 7)) (gN 12) tYesF (eFn 1 F_is_view (aCons (eVar 12) aNil)) [12]))) (sSeq (sApp 6 (eOp addF (eLst (aCons (eC (.bool true)) (aCons (eC (.bool true)) aNil))) (eOp mulF (eLst (aCons (eC (.bool false)) aNil)) (eC (.int 13))))) (sSeq (sSetO 5 (oCat (eVar 5) (eLst (aCons (eFnK 2 [1, 0] F_window (aCons (eLst (aCons (eC (.int 2)) (aCons (eC (.int 3)) aNil))) (aCons (eLst (aCons (eC (.int 2)) (aCons (eC (.int 0)) (aCons (eC (.int 5)) (aCons (eC (.int 1)) aNil))))) aNil))) (aCons (eFnK 6 [5, 4, 3, 2, 1, 0] F_least_view (aCons (eC (.int 0)) (aCons (eC (.int 3)) (aCons (eLst (aCons (eC (.int 2)) (aCons (eC (.int 3)) aNil))) (aCons (eFn 1 F_law_lists (aCons (eVar 1) aNil)) (aCons (eLst (aCons (eC (.int 0)) (aCons (eC (.int 1)) (aCons (eC (.int 2)) aNil)))) (aCons (eFn 1 F_law_lists (aCons (eVar 8) aNil)) aNil))))))) aNil))))) (sSeq (sSetO 5 (oCat (eVar 5) (eLst (aCons (eFnK 6 [5, 4, 3, 2, 1, 0] F_cut_at (aCons (eC (.int 0)) (aCons (eLst (aCons (eC (.int 2)) (aCons (eC (.int 3)) aNil))) (aCons (eLst (aCons (eC (.int 2)) (aCons (eC (.int 0)) (aCons (eC (.int 5)) (aCons (eC (.int 1)) aNil))))) (aCons (eFn 1 F_law_lists (aCons (eVar 1) aNil)) (aCons (eLst (aCons (eC (.int 0)) (aCons (eC (.int 1)) (aCons (eC (.int 2)) aNil)))) (aCons (eFn 1 F_law_lists (aCons (eVar 8) aNil)) aNil))))))) (aCons (eFnK 4 [3, 2, 1, 0] F_tiles_under (aCons (eC (.int 4)) (aCons (eLst (aCons (eLst (aCons (eC (.int 2)) (aCons (eC (.int 1)) aNil))) (aCons (eLst (aCons (eC (.int 0)) (aCons (eC (.int 1)) aNil))) aNil))) (aCons (eC (.int 1)) (aCons (eFn 1 F_law_lists (aCons (eVar 8) aNil)) aNil))))) aNil))))) (sSeq (sApp 5 (eFnK 5 [4, 3, 2, 1, 0] F_picture (aCons (eLst (aCons (eC (.int 2)) (aCons (eC (.int 3)) aNil))) (aCons (eLst (aCons (eC (.int 3)) (aCons (eC (.int 0)) (aCons (eC (.int 8)) (aCons (eC (.int 2)) aNil))))) (aCons (eFn 1 F_law_lists (aCons (eVar 1) aNil)) (aCons (eLst (aCons (eC (.int 0)) (aCons (eC (.int 1)) (aCons (eC (.int 2)) aNil)))) (aCons (eFn 1 F_law_lists (aCons (eVar 8) aNil)) aNil))))))) (sSeq (sSetO 6 (oCat (eVar 6) (eLst (aCons (eTup (aCons (eTup (aCons (eNeg (eC (.int 7))) (aCons (eC (.int 6)) aNil))) (aCons (eTup (aCons (eNeg (eC (.int 1))) (aCons (eC (.int 2)) aNil))) (aCons (eTup (aCons (eC (.int 23)) (aCons (eC (.int 6)) aNil))) (aCons (eTup (aCons (eC (.int 1)) (aCons (eC (.int 2)) aNil))) aNil))))) (aCons (eTup (aCons (eC (.int 3)) (aCons (eC (.int 0)) (aCons (eC (.int 16)) (aCons (eC (.int 2)) aNil))))) (aCons (eTup (aCons (eTup (aCons (eC (.int 5)) (aCons (eC (.int 6)) aNil))) (aCons (eTup (aCons (eC (.int 0)) (aCons (eC (.int 1)) aNil))) (aCons (eTup (aCons (eC (.int 0)) (aCons (eC (.int 1)) aNil))) (aCons (eTup (aCons (eC (.int 1)) (aCons (eC (.int 2)) aNil))) aNil))))) (aCons (eTup (aCons (eTup (aCons (eC (.int 0)) (aCons (eC (.int 0)) aNil))) (aCons (eTup (aCons (eC (.int 1)) (aCons (eC (.int 0)) aNil))) aNil))) (aCons (eTup (aCons (eC (.str "........")) (aCons (eC (.str "00001111")) aNil))) aNil)))))))) (sRet (eFn 2 F_law_same (aCons (eVar 5) (aCons (eVar 6) aNil)))))))))))))
theorem ref_split : m_law_refused_right = sSeq rP (sSeq rC rR) := by
  unfold m_law_refused_right rP rR
  rw [sSeq_assoc, sSeq_assoc, sSeq_assoc, sSeq_assoc, sSeq_assoc, sSeq_assoc]
def rS (v : Int) : En := stepE rP (ini 15 [.int v])
def rZ (v : Int) : En := ((rS v).set 5 (.val (.list (ownA 5 (rS v))))).set 5 (.own (ownA 5 (rS v) ++ [rMu, rMu, .int 2000, rMu]))
def isRt : Res (Fl × En) → Bool
  | .ok (.rt (.bool true), _) => true
  | _ => false
theorem ref_go {v : Int} (h1 : isNxB (rP (ini 15 [.int v])) = true) (h5 : isOwnB 5 (rS v) = true) (h4 : (rS v)[4]? = some (.val rWide)) (h8 : (rS v)[8]? = some (.val rRow)) (h10 : (rS v)[10]? = some (.val rPairs)) (h11 : (rS v)[11]? = some (.val rBook)) (hR : isRt (rR (rZ v)) = true) :
    F_law_refused_right [.int v] = .ok (.bool true) := by
  have e : m_law_refused_right (ini 15 [.int v]) = rR (rZ v) := by
    rw [ref_split, seq_st h1]
    exact seq_go (r_c h5 h4 h8 h10 h11)
  show runD 15 m_law_refused_right [.int v] = _
  unfold runD
  rw [e]
  generalize rR (rZ v) = x at hR
  match x, hR with
  | .ok (.rt (.bool true), _), _ => rfl
theorem t_ref0 : F_law_refused_right [.int 0] = .ok (.bool true) := ref_go (by kernel_rfl) (by kernel_rfl) (by kernel_rfl) (by kernel_rfl) (by kernel_rfl) (by kernel_rfl) (by kernel_rfl)
theorem t_ref1 : F_law_refused_right [.int 1] = .ok (.bool true) := ref_go (by kernel_rfl) (by kernel_rfl) (by kernel_rfl) (by kernel_rfl) (by kernel_rfl) (by kernel_rfl) (by kernel_rfl)
theorem t_ref2 : F_law_refused_right [.int 2] = .ok (.bool true) := ref_go (by kernel_rfl) (by kernel_rfl) (by kernel_rfl) (by kernel_rfl) (by kernel_rfl) (by kernel_rfl) (by kernel_rfl)
theorem t_ref3 : F_law_refused_right [.int 3] = .ok (.bool true) := ref_go (by kernel_rfl) (by kernel_rfl) (by kernel_rfl) (by kernel_rfl) (by kernel_rfl) (by kernel_rfl) (by kernel_rfl)
theorem t_ref4 : F_law_refused_right [.int 4] = .ok (.bool true) := ref_go (by kernel_rfl) (by kernel_rfl) (by kernel_rfl) (by kernel_rfl) (by kernel_rfl) (by kernel_rfl) (by kernel_rfl)
theorem t_ref5 : F_law_refused_right [.int 5] = .ok (.bool true) := ref_go (by kernel_rfl) (by kernel_rfl) (by kernel_rfl) (by kernel_rfl) (by kernel_rfl) (by kernel_rfl) (by kernel_rfl)
theorem t_ref6 : F_law_refused_right [.int 6] = .ok (.bool true) := ref_go (by kernel_rfl) (by kernel_rfl) (by kernel_rfl) (by kernel_rfl) (by kernel_rfl) (by kernel_rfl) (by kernel_rfl)
theorem t_ref7 : F_law_refused_right [.int 7] = .ok (.bool true) := ref_go (by kernel_rfl) (by kernel_rfl) (by kernel_rfl) (by kernel_rfl) (by kernel_rfl) (by kernel_rfl) (by kernel_rfl)
theorem t_ref8 : F_law_refused_right [.int 8] = .ok (.bool true) := ref_go (by kernel_rfl) (by kernel_rfl) (by kernel_rfl) (by kernel_rfl) (by kernel_rfl) (by kernel_rfl) (by kernel_rfl)
theorem t_ref (v : Int) (h0 : 0 ≤ v) (h1 : v < 9) : F_law_refused_right [.int v] = .ok (.bool true) := by
  have h : v = 0 ∨ v = 1 ∨ v = 2 ∨ v = 3 ∨ v = 4 ∨ v = 5 ∨ v = 6 ∨ v = 7 ∨ v = 8 := by omega
  rcases h with rfl | rfl | rfl | rfl | rfl | rfl | rfl | rfl | rfl
  · exact t_ref0
  · exact t_ref1
  · exact t_ref2
  · exact t_ref3
  · exact t_ref4
  · exact t_ref5
  · exact t_ref6
  · exact t_ref7
  · exact t_ref8
end GN

set_option Elab.async false
set_option linter.all false
set_option maxRecDepth 100000
set_option maxHeartbeats 8000000
/-! M1: fractions are rational numbers. -/
namespace GN
open PySem
def encQ (q : Rat) : D := .tuple [.int q.num, .int (q.den : Int)]
theorem sml_of {i : Int} {n : Nat} (h : i.natAbs < 2 ^ n) (hn : n ≤ 4000) : sml i = true :=
  decide_eq_true (Nat.lt_of_lt_of_le h (Nat.pow_le_pow_right (by decide) hn))
theorem fdivI_ok {i j : Int} (h0 : j ≠ 0) (h : sml j = true) : fdivI (.int i) (.int j) = .ok (.int (i.fdiv j)) := by
  have e : fdivI (.int i) (.int j) = if decide (j ≠ 0) && sml j then Res.ok (PyData.int (i.fdiv j)) else .bad := rfl
  rw [e, h, decide_eq_true h0]
  rfl
theorem mulF_ok {i j : Int} (h : ((sml i && sml j) || decide (j.natAbs < 2 ^ 63)) = true) : mulF (.int i) (.int j) = .ok (.int (i * j)) := by
  have e0 : mulI (.int i) (.int j) = if (sml i && sml j) || decide (j.natAbs < 2 ^ 63) then Res.ok (PyData.int (i * j)) else .bad := rfl
  rw [h, if_pos rfl] at e0
  unfold mulF
  rw [e0]
theorem mulF_sml {i j : Int} (hi : sml i = true) (hj : sml j = true) : mulF (.int i) (.int j) = .ok (.int (i * j)) := mulF_ok (by rw [hi, hj]; rfl)
/-! ### steps -/
theorem rb {α β : Type} (a : α) (f : α → Res β) : (Res.ok a).bind f = f a := rfl
theorem rbN {α β : Type} (a : α) (f : α → Res β) : (Res.ok a).bindN f = f a := rfl
theorem few2 : ∀ n : Nat, few n = decide (n ≤ 100000) := fun _ => rfl
theorem addF_int (i j : Int) : addF (.int i) (.int j) = .ok (.int (i + j)) := rfl
theorem subI_int (i j : Int) : subI (.int i) (.int j) = .ok (.int (i - j)) := rfl
theorem ltI_int (i j : Int) : ltI (.int i) (.int j) = .ok (.bool (decide (i < j))) := rfl
theorem seq_nx {f g : SF} {ρ ρ1 : En} (h : f ρ = .ok (.nx, ρ1)) : sSeq f g ρ = g ρ1 := by
  unfold sSeq
  rw [h]
  rfl
theorem seq_rt {f g : SF} {ρ ρ1 : En} {d : D} (h : f ρ = .ok (.rt d, ρ1)) : sSeq f g ρ = .ok (.rt d, ρ1) := by
  unfold sSeq
  rw [h]
  rfl
theorem seq_ct {f g : SF} {ρ ρ1 : En} (h : f ρ = .ok (.ct, ρ1)) : sSeq f g ρ = .ok (.ct, ρ1) := by
  unfold sSeq
  rw [h]
  rfl
theorem if_tt {t : TF} {f g : SF} {ρ ρ1 : En} (h : t ρ = .ok (true, ρ1)) : sIf t f g ρ = f ρ1 := by
  unfold sIf
  rw [h]
  rfl
theorem if_ff {t : TF} {f g : SF} {ρ ρ1 : En} (h : t ρ = .ok (false, ρ1)) : sIf t f g ρ = g ρ1 := by
  unfold sIf
  rw [h]
  rfl
theorem set_ok {i : Nat} {f : EF} {ρ ρ1 : En} {d : D} (h : f ρ = .ok (d, ρ1)) : sSet i f ρ = .ok (.nx, ρ1.set i (.val d)) := by
  unfold sSet
  rw [h]
  rfl
theorem ret_ok {f : EF} {ρ ρ1 : En} {d : D} (h : f ρ = .ok (d, ρ1)) : sRet f ρ = .ok (.rt d, ρ1) := by
  unfold sRet
  rw [h]
  rfl
theorem app_ok {i : Nat} {f : EF} {ρ ρ1 : En} {ds es : List D} {d : D} (h0 : ρ[i]? = some (.own ds)) (h : f ρ = .ok (d, ρ1)) (h1 : ρ1[i]? = some (.own es)) (hl : es.length ≤ 100000) : sApp i f ρ = .ok (.nx, ρ1.set i (.own (es ++ [d]))) := by
  unfold sApp
  rw [h0]
  dsimp only
  rw [h]
  show (match ρ1[i]? with | some (.own ds) => if few ds.length then Res.ok (Fl.nx, ρ1.set i (.own (ds ++ [d]))) else .bad | _ => .bad) = _
  rw [h1]
  dsimp only
  rw [if_pos (show few es.length = true from decide_eq_true hl)]
theorem for_ok {it : LF} {g : GF} {b : SF} {ρ ρ1 : En} {ds : List D} (h : it ρ = .ok (ds, ρ1)) : sFor it g b ρ = forL g b ds ρ1 := by
  unfold sFor
  rw [h]
  rfl
theorem forL_nx {g : GF} {b : SF} {d : D} {ds : List D} {ρ ρ1 ρ2 : En} (h : g d ρ = some ρ1) (h2 : b ρ1 = .ok (.nx, ρ2)) : forL g b (d :: ds) ρ = forL g b ds ρ2 := by
  conv => lhs; unfold forL
  rw [h]
  dsimp only
  rw [h2]
  rfl
theorem forL_ct {g : GF} {b : SF} {d : D} {ds : List D} {ρ ρ1 ρ2 : En} (h : g d ρ = some ρ1) (h2 : b ρ1 = .ok (.ct, ρ2)) : forL g b (d :: ds) ρ = forL g b ds ρ2 := by
  conv => lhs; unfold forL
  rw [h]
  dsimp only
  rw [h2]
  rfl
theorem forL_rt {g : GF} {b : SF} {d e : D} {ds : List D} {ρ ρ1 ρ2 : En} (h : g d ρ = some ρ1) (h2 : b ρ1 = .ok (.rt e, ρ2)) : forL g b (d :: ds) ρ = .ok (.rt e, ρ2) := by
  conv => lhs; unfold forL
  rw [h]
  dsimp only
  rw [h2]
  rfl
theorem runD_rt {N : Nat} {f : SF} {ds : List D} {d : D} {ρ : En} (h : f (ini N ds) = .ok (.rt d, ρ)) : runD N f ds = .ok d := by
  unfold runD
  rw [h]
theorem tb_ok {f : EF} {ρ ρ1 : En} {b : Bool} (h : f ρ = .ok (.bool b, ρ1)) : tB1 f ρ = .ok (b, ρ1) := by
  unfold tB1
  rw [h]
  rfl
/-! ### fraction -/
theorem eqF_int (i j : Int) : eqF (.int i) (.int j) = .ok (.bool (decide (i = j))) := by
  have e : eqF (.int i) (.int j) = .ok (.bool (PyData.eqv (.int i) (.int j))) := rfl
  rw [e]
  have : PyData.eqv (.int i) (.int j) = decide (i = j) := by
    show (i == j) = decide (i = j)
    by_cases h : i = j
    · simp [h]
    · simp [h]
  rw [this]
/-- what is divided out -/
def gq (a b : Int) : Int := if 0 < b then ((Nat.gcd a.natAbs b.natAbs : Nat) : Int) else -((Nat.gcd a.natAbs b.natAbs : Nat) : Int)
theorem gq_dvd (a b : Int) : gq a b ∣ a ∧ gq a b ∣ b := by
  have h1 : ((Nat.gcd a.natAbs b.natAbs : Nat) : Int) ∣ a := Int.gcd_dvd_left a b
  have h2 : ((Nat.gcd a.natAbs b.natAbs : Nat) : Int) ∣ b := Int.gcd_dvd_right a b
  unfold gq
  split
  · exact ⟨h1, h2⟩
  · exact ⟨Int.neg_dvd.mpr h1, Int.neg_dvd.mpr h2⟩
theorem gq_ne {a b : Int} (hb : b ≠ 0) : gq a b ≠ 0 := by
  have h : 0 < Nat.gcd a.natAbs b.natAbs := Nat.gcd_pos_of_pos_right _ (by omega)
  unfold gq
  split <;> omega
theorem gq_le (a : Int) {b : Int} (hb : b ≠ 0) : (gq a b).natAbs ≤ b.natAbs := by
  have h : Nat.gcd a.natAbs b.natAbs ≤ b.natAbs := Nat.le_of_dvd (by omega) (Nat.gcd_dvd_right _ _)
  unfold gq
  split
  · simpa using h
  · simpa using h
theorem encQ_div {a b : Int} (hb : b ≠ 0) : encQ (Rat.divInt a b) = .tuple [.int (a.fdiv (gq a b)), .int (b.fdiv (gq a b))] := by
  unfold encQ
  rw [Rat.num_divInt, Rat.den_divInt, if_neg hb, Int.fdiv_eq_ediv_of_dvd (gq_dvd a b).1, Int.fdiv_eq_ediv_of_dvd (gq_dvd a b).2]
  have hg : ((b.gcd a : Nat) : Int) = ((Nat.gcd a.natAbs b.natAbs : Nat) : Int) := by
    show ((Nat.gcd b.natAbs a.natAbs : Nat) : Int) = _
    rw [Nat.gcd_comm]
  have hd : (((b.natAbs / b.gcd a : Nat)) : Int) = (b.natAbs : Int) / ((Nat.gcd a.natAbs b.natAbs : Nat) : Int) := by
    rw [Int.natCast_ediv, hg]
  rw [hd, hg]
  by_cases h : 0 < b
  · have e1 : gq a b = ((Nat.gcd a.natAbs b.natAbs : Nat) : Int) := if_pos h
    rw [e1, Int.sign_eq_one_of_pos h, Int.one_mul]
    have : (b.natAbs : Int) = b := by omega
    rw [this]
  · have h' : b < 0 := by omega
    have e1 : gq a b = -((Nat.gcd a.natAbs b.natAbs : Nat) : Int) := if_neg h
    rw [e1, Int.sign_eq_neg_one_of_neg h', Int.ediv_neg, Int.ediv_neg]
    have e2 : (b.natAbs : Int) = -b := by omega
    have d1 : ((Nat.gcd a.natAbs b.natAbs : Nat) : Int) ∣ a := Int.gcd_dvd_left a b
    have d2 : ((Nat.gcd a.natAbs b.natAbs : Nat) : Int) ∣ b := Int.gcd_dvd_right a b
    rw [e2, Int.neg_ediv_of_dvd d2]
    have e3 : (-1 : Int) * a = -a := by omega
    rw [e3, Int.neg_ediv_of_dvd d1]
theorem F_fraction_ok {a b : Int} (hb : b ≠ 0) (hs : sml b = true) : F_fraction [.int a, .int b] = .ok (encQ (Rat.divInt a b)) := by
  have hg : sml (gq a b) = true := decide_eq_true (Nat.lt_of_le_of_lt (gq_le a hb) (of_decide_eq_true hs))
  have hg0 : gq a b ≠ 0 := gq_ne hb
  have hd : decide (b = 0) = false := decide_eq_false hb
  have fin : eTup (aCons (eOp fdivI (eVar 0) (eVar 2)) (aCons (eOp fdivI (eVar 1) (eVar 2)) aNil)) [.val (.int a), .val (.int b), .val (.int (gq a b))] = .ok (encQ (Rat.divInt a b), [.val (.int a), .val (.int b), .val (.int (gq a b))]) := by
    simp only [eTup, aCons, aNil, eOp, eVar, List.getElem?_cons_zero, List.getElem?_cons_succ, rb, fdivI_ok hg0 hg]
    rw [encQ_div hb]
    rfl
  have st : eIf (tB1 (eOp gtI (eVar 1) (eC (.int 0)))) (eCall gcdF (aCons (eVar 0) (aCons (eVar 1) aNil))) (eNeg (eCall gcdF (aCons (eVar 0) (aCons (eVar 1) aNil)))) [.val (.int a), .val (.int b), .no] = .ok (.int (gq a b), [.val (.int a), .val (.int b), .no]) := by
    by_cases h : 0 < b
    · have e1 : gq a b = ((Nat.gcd a.natAbs b.natAbs : Nat) : Int) := if_pos h
      have e2 : gtI (.int b) (.int 0) = .ok (.bool true) := by show Res.ok (PyData.bool (decide (0 < b))) = _; rw [decide_eq_true h]
      simp only [eIf, tB1, eOp, eVar, eC, eCall, aCons, aNil, gcdF, List.getElem?_cons_zero, List.getElem?_cons_succ, rb, e2, e1, if_true]
    · have e1 : gq a b = -((Nat.gcd a.natAbs b.natAbs : Nat) : Int) := if_neg h
      have e2 : gtI (.int b) (.int 0) = .ok (.bool false) := by show Res.ok (PyData.bool (decide (0 < b))) = _; rw [decide_eq_false h]
      simp only [eIf, tB1, eOp, eVar, eC, eCall, aCons, aNil, gcdF, eNeg, List.getElem?_cons_zero, List.getElem?_cons_succ, rb, e2, e1]
      rfl
  have ini2 : ini 3 [.int a, .int b] = [.val (.int a), .val (.int b), .no] := rfl
  have t0 : tB1 (eOp eqF (eVar 1) (eC (.int 0))) [.val (.int a), .val (.int b), .no] = .ok (false, [.val (.int a), .val (.int b), .no]) := tb_ok (by
    simp only [eOp, eVar, eC, List.getElem?_cons_zero, List.getElem?_cons_succ, rb, eqF_int, hd])
  refine runD_rt (ρ := [.val (.int a), .val (.int b), .val (.int (gq a b))]) ?_
  rw [ini2]
  unfold m_fraction
  rw [seq_nx (if_ff t0), seq_nx (set_ok st)]
  exact ret_ok fin
end GN

set_option Elab.async false
set_option linter.all false
set_option maxRecDepth 100000
set_option maxHeartbeats 8000000
/-! M2: the arithmetic of fractions. -/
namespace GN
open PySem
/-! ### Euclid -/
theorem modI_ok (i : Int) {j : Int} (h : 0 < j) : modI (.int i) (.int j) = .ok (.int (i % j)) := if_pos h
theorem neF_int (i j : Int) : neF (.int i) (.int j) = .ok (.bool (!decide (i = j))) := by
  have e : neF (.int i) (.int j) = .ok (.bool (!PyData.eqv (.int i) (.int j))) := rfl
  rw [e]
  have : PyData.eqv (.int i) (.int j) = decide (i = j) := by
    show (i == j) = decide (i = j)
    by_cases h : i = j
    · simp [h]
    · simp [h]
  rw [this]
abbrev prT : TF := tB1 (eOp neF (eVar 3) (eC (.int 0)))
abbrev prB : SF := sTup [2, 3] (csC (cV (eVar 3)) (csC (cV (eOp modI (eVar 2) (eVar 3))) csN))
theorem whl_step {t : TF} {b : SF} {n : Nat} {ρ ρ1 : En} (h : b ρ = .ok (.nx, ρ1)) : ((Res.ok (true, ρ)).bind fun k => if k.1 then (b k.2).bind fun a => (match a.1 with
      | .nx => whL t b n a.2
      | .ct => whL t b n a.2
      | .bk => .ok (.nx, a.2)
      | .rt d => .ok (.rt d, a.2)
      | .ro es => .ok (.ro es, a.2)) else .ok (.nx, k.2)) = whL t b n ρ1 := by
  rw [rb, if_pos rfl]
  show (b ρ).bind _ = _
  rw [h]
  rfl
theorem pr_loop (a b : D) : ∀ (n x y : Nat), y < n → whL prT prB (n + 1) [.val a, .val b, .val (.int (x : Nat)), .val (.int (y : Nat))] = .ok (.nx, [.val a, .val b, .val (.int ((Nat.gcd x y : Nat) : Int)), .val (.int 0)])
  | 0, x, y, h => by omega
  | n + 1, x, y, h => by
    unfold whL
    by_cases hy : y = 0
    · subst hy
      have t : prT [.val a, .val b, .val (.int (x : Nat)), .val (.int ((0 : Nat) : Int))] = .ok (false, [.val a, .val b, .val (.int (x : Nat)), .val (.int ((0 : Nat) : Int))]) := rfl
      rw [t]
      rw [Nat.gcd_zero_right]
      rfl
    · have hd : decide (((y : Nat) : Int) = 0) = false := decide_eq_false (by omega)
      have t : prT [.val a, .val b, .val (.int (x : Nat)), .val (.int (y : Nat))] = .ok (true, [.val a, .val b, .val (.int (x : Nat)), .val (.int (y : Nat))]) := tb_ok (by
        simp only [eFn, eOp, eVar, eC, aCons, aNil, eTup, eLst, rb, List.getElem?_cons_zero, List.getElem?_cons_succ, List.length_cons, List.length_nil, Nat.zero_add, Nat.reduceAdd, few2, if_true, eq_self, ite_true, reduceIte, List.set_cons_zero, List.set_cons_succ, neF_int, hd, Bool.not_false])
      have m : prB [.val a, .val b, .val (.int (x : Nat)), .val (.int (y : Nat))] = .ok (.nx, [.val a, .val b, .val (.int (y : Nat)), .val (.int ((x % y : Nat) : Int))]) := by
        have hm : modI (.int (x : Nat)) (.int (y : Nat)) = .ok (.int ((x % y : Nat) : Int)) := by
          rw [modI_ok _ (by omega), Int.natCast_emod]
        simp only [eFn, eOp, eVar, eC, aCons, aNil, eTup, eLst, rb, List.getElem?_cons_zero, List.getElem?_cons_succ, List.length_cons, List.length_nil, Nat.zero_add, Nat.reduceAdd, few2, if_true, eq_self, ite_true, reduceIte, List.set_cons_zero, List.set_cons_succ, prB, sTup, csC, cV, csN, hm, setSs]
      rw [t]
      refine (whl_step m).trans ?_
      rw [pr_loop a b n y (x % y) (by have := Nat.mod_lt x (Nat.pos_of_ne_zero hy); omega)]
      rw [Nat.gcd_comm y (x % y), ← Nat.gcd_rec y x, Nat.gcd_comm y x]
theorem abs_nat (a : Int) : absF [.int a] = .ok (.int ((a.natAbs : Nat) : Int)) := by
  show Res.ok (PyData.int (if a < 0 then -a else a)) = _
  have : (if a < 0 then -a else a) = ((a.natAbs : Nat) : Int) := by split <;> omega
  rw [this]
theorem F_law_part_ok {a b : Int} (hb : b ≠ 0) (hs : sml b = true) : F_law_part [.int a, .int b] = .ok (encQ (Rat.divInt a b)) := by
  let g : Int := ((Nat.gcd a.natAbs b.natAbs : Nat) : Int)
  have hgp : 0 < Nat.gcd a.natAbs b.natAbs := Nat.gcd_pos_of_pos_right _ (by omega)
  have hg0 : g ≠ 0 := by show ((Nat.gcd a.natAbs b.natAbs : Nat) : Int) ≠ 0; omega
  have hgs : sml g = true := decide_eq_true (Nat.lt_of_le_of_lt (by
    show (((Nat.gcd a.natAbs b.natAbs : Nat) : Int)).natAbs ≤ b.natAbs
    rw [Int.natAbs_natCast]
    exact Nat.le_of_dvd (by omega) (Nat.gcd_dvd_right _ _)) (of_decide_eq_true hs))
  have d1 : g ∣ a := Int.gcd_dvd_left a b
  have d2 : g ∣ b := Int.gcd_dvd_right a b
  have i0 : ini 4 [.int a, .int b] = [.val (.int a), .val (.int b), .no, .no] := rfl
  have s1 : sTup [2, 3] (csC (cV (eCall absF (aCons (eVar 0) aNil))) (csC (cV (eCall absF (aCons (eVar 1) aNil))) csN)) [.val (.int a), .val (.int b), .no, .no] = .ok (.nx, [.val (.int a), .val (.int b), .val (.int ((a.natAbs : Nat) : Int)), .val (.int ((b.natAbs : Nat) : Int))]) := by
    simp only [eFn, eOp, eVar, eC, aCons, aNil, eTup, eLst, rb, List.getElem?_cons_zero, List.getElem?_cons_succ, List.length_cons, List.length_nil, Nat.zero_add, Nat.reduceAdd, few2, if_true, eq_self, ite_true, reduceIte, List.set_cons_zero, List.set_cons_succ, sTup, csC, cV, csN, eCall, abs_nat, setSs]
  have s2 : sWh (fuelI 3) prT prB [.val (.int a), .val (.int b), .val (.int ((a.natAbs : Nat) : Int)), .val (.int ((b.natAbs : Nat) : Int))] = .ok (.nx, [.val (.int a), .val (.int b), .val (.int g), .val (.int 0)]) := by
    have e : sWh (fuelI 3) prT prB [.val (.int a), .val (.int b), .val (.int ((a.natAbs : Nat) : Int)), .val (.int ((b.natAbs : Nat) : Int))] = whL prT prB ((((b.natAbs : Nat) : Int)).natAbs + 2) [.val (.int a), .val (.int b), .val (.int ((a.natAbs : Nat) : Int)), .val (.int ((b.natAbs : Nat) : Int))] := rfl
    rw [e, Int.natAbs_natCast]
    exact pr_loop _ _ (b.natAbs + 1) a.natAbs b.natAbs (Nat.lt_succ_self _)
  refine runD_rt (ρ := [.val (.int a), .val (.int b), .val (.int g), .val (.int 0)]) ?_
  rw [i0]
  unfold m_law_part
  rw [seq_nx s1, seq_nx s2]
  refine ret_ok ?_
  rw [encQ_div hb, Int.fdiv_eq_ediv_of_dvd (gq_dvd a b).1, Int.fdiv_eq_ediv_of_dvd (gq_dvd a b).2]
  by_cases h : 0 < b
  · have e1 : gq a b = g := if_pos h
    have e2 : gtI (.int b) (.int 0) = .ok (.bool true) := by show Res.ok (PyData.bool (decide (0 < b))) = _; rw [decide_eq_true h]
    simp only [eFn, eOp, eVar, eC, aCons, aNil, eTup, eLst, rb, List.getElem?_cons_zero, List.getElem?_cons_succ, List.length_cons, List.length_nil, Nat.zero_add, Nat.reduceAdd, few2, if_true, eq_self, ite_true, reduceIte, List.set_cons_zero, List.set_cons_succ, eIf, tB1, e2, fdivI_ok hg0 hgs, Int.fdiv_eq_ediv_of_dvd d1, Int.fdiv_eq_ediv_of_dvd d2, e1]
    rfl
  · have e1 : gq a b = -g := if_neg h
    have e2 : gtI (.int b) (.int 0) = .ok (.bool false) := by show Res.ok (PyData.bool (decide (0 < b))) = _; rw [decide_eq_false h]
    have n1 : (-a).fdiv g = a / -g := by rw [Int.fdiv_eq_ediv_of_dvd (Int.dvd_neg.mpr d1), Int.neg_ediv_of_dvd d1, Int.ediv_neg]
    have n2 : (-b).fdiv g = b / -g := by rw [Int.fdiv_eq_ediv_of_dvd (Int.dvd_neg.mpr d2), Int.neg_ediv_of_dvd d2, Int.ediv_neg]
    simp only [eFn, eOp, eVar, eC, aCons, aNil, eTup, eLst, rb, List.getElem?_cons_zero, List.getElem?_cons_succ, List.length_cons, List.length_nil, Nat.zero_add, Nat.reduceAdd, few2, if_true, eq_self, ite_true, reduceIte, List.set_cons_zero, List.set_cons_succ, eIf, tB1, e2, eNeg, fdivI_ok hg0 hgs, n1, n2, e1]
    rfl
/-! ### sizes -/
structure Bd (n : Nat) (q : Rat) : Prop where
  num : q.num.natAbs < 2 ^ n
  den : q.den < 2 ^ n
theorem Bd.mono {n m : Nat} {q : Rat} (h : Bd n q) (hn : n ≤ m) : Bd m q :=
  ⟨Nat.lt_of_lt_of_le h.num (Nat.pow_le_pow_right (by decide) hn), Nat.lt_of_lt_of_le h.den (Nat.pow_le_pow_right (by decide) hn)⟩
theorem mul_pow {x y n m : Nat} (hx : x < 2 ^ n) (hy : y < 2 ^ m) : x * y < 2 ^ (n + m) := by
  rw [Nat.pow_add]
  exact Nat.mul_lt_mul'' hx hy
theorem divInt_bd {a b : Int} {n : Nat} (hb : b ≠ 0) (ha : a.natAbs < 2 ^ n) (hb2 : b.natAbs < 2 ^ n) : Bd n (Rat.divInt a b) := by
  constructor
  · rw [Rat.num_divInt]
    refine Nat.lt_of_le_of_lt ?_ ha
    have h1 : (b.sign * a / ((b.gcd a : Nat) : Int)).natAbs ≤ (b.sign * a).natAbs := Int.natAbs_ediv_le_natAbs _ _
    refine Nat.le_trans h1 ?_
    rw [Int.natAbs_mul]
    have h2 : b.sign.natAbs = 1 := by
      rw [Int.natAbs_sign, if_neg hb]
    rw [h2, Nat.one_mul]
    exact Nat.le_refl _
  · rw [Rat.den_divInt, if_neg hb]
    exact Nat.lt_of_le_of_lt (Nat.div_le_self _ _) hb2
theorem den_ne (q : Rat) : (q.den : Int) ≠ 0 := by
  have := q.den_nz
  omega
theorem Bd.add {n m : Nat} {p q : Rat} (h1 : Bd n p) (h2 : Bd m q) : Bd (n + m + 1) (p + q) := by
  rw [← Rat.num_divInt_den p, ← Rat.num_divInt_den q, Rat.divInt_add_divInt _ _ (den_ne p) (den_ne q)]
  refine divInt_bd (Int.mul_ne_zero (den_ne p) (den_ne q)) ?_ ?_
  · have a1 := mul_pow h1.num h2.den
    have a2 := mul_pow h2.num h1.den
    rw [Nat.add_comm m n] at a2
    have e : (p.num * (q.den : Int) + q.num * (p.den : Int)).natAbs ≤ p.num.natAbs * q.den + q.num.natAbs * p.den := by
      refine Nat.le_trans (Int.natAbs_add_le _ _) ?_
      rw [Int.natAbs_mul, Int.natAbs_mul, Int.natAbs_natCast, Int.natAbs_natCast]
      exact Nat.le_refl _
    rw [Nat.pow_succ]
    omega
  · rw [Int.natAbs_mul, Int.natAbs_natCast, Int.natAbs_natCast]
    have := mul_pow h1.den h2.den
    rw [Nat.pow_succ]
    omega
theorem Bd.neg {n : Nat} {p : Rat} (h : Bd n p) : Bd n (-p) := ⟨by
  show (-p.num).natAbs < _
  rw [Int.natAbs_neg]
  exact h.num, h.den⟩
theorem Bd.sub {n m : Nat} {p q : Rat} (h1 : Bd n p) (h2 : Bd m q) : Bd (n + m + 1) (p - q) := by
  rw [Rat.sub_eq_add_neg]
  exact h1.add h2.neg
theorem Bd.mul {n m : Nat} {p q : Rat} (h1 : Bd n p) (h2 : Bd m q) : Bd (n + m) (p * q) := by
  rw [← Rat.num_divInt_den p, ← Rat.num_divInt_den q, Rat.divInt_mul_divInt]
  refine divInt_bd (Int.mul_ne_zero (den_ne p) (den_ne q)) ?_ ?_
  · rw [Int.natAbs_mul]
    exact mul_pow h1.num h2.num
  · rw [Int.natAbs_mul, Int.natAbs_natCast, Int.natAbs_natCast]
    exact mul_pow h1.den h2.den
theorem Bd.num_sml {n : Nat} {q : Rat} (h : Bd n q) (hn : n ≤ 4000) : sml q.num = true := sml_of h.num hn
theorem Bd.den_sml {n : Nat} {q : Rat} (h : Bd n q) (hn : n ≤ 4000) : sml (q.den : Int) = true := sml_of (by rw [Int.natAbs_natCast]; exact h.den) hn
theorem idx0 (q : Rat) : idxF (encQ q) (.int 0) = .ok (.int q.num) := rfl
theorem idx1 (q : Rat) : idxF (encQ q) (.int 1) = .ok (.int (q.den : Int)) := rfl
theorem den_mul_sml {n m : Nat} {p q : Rat} (h1 : Bd n p) (h2 : Bd m q) (hn : n + m ≤ 4000) : sml ((p.den : Int) * (q.den : Int)) = true :=
  sml_of (n := n + m) (by rw [Int.natAbs_mul, Int.natAbs_natCast, Int.natAbs_natCast]; exact mul_pow h1.den h2.den) hn
/-! ### the operations, of both -/
section
variable {n m : Nat} {p q : Rat}
theorem add_eq (p q : Rat) : Rat.divInt (p.num * (q.den : Int) + q.num * (p.den : Int)) ((p.den : Int) * (q.den : Int)) = p + q := by
  rw [← Rat.divInt_add_divInt _ _ (den_ne p) (den_ne q), Rat.num_divInt_den, Rat.num_divInt_den]
theorem sub_eq (p q : Rat) : Rat.divInt (p.num * (q.den : Int) - q.num * (p.den : Int)) ((p.den : Int) * (q.den : Int)) = p - q := by
  rw [← Rat.divInt_sub_divInt _ _ (den_ne p) (den_ne q), Rat.num_divInt_den, Rat.num_divInt_den]
theorem mul_eq (p q : Rat) : Rat.divInt (p.num * q.num) ((p.den : Int) * (q.den : Int)) = p * q := by
  rw [← Rat.divInt_mul_divInt, Rat.num_divInt_den, Rat.num_divInt_den]
theorem F_plus_ok (h1 : Bd n p) (h2 : Bd m q) (hn : n + m ≤ 4000) : F_plus [encQ p, encQ q] = .ok (encQ (p + q)) := by
  have a1 := mulF_sml (h1.num_sml (by omega)) (h2.den_sml (by omega))
  have a2 := mulF_sml (h2.num_sml (by omega)) (h1.den_sml (by omega))
  have a3 := mulF_sml (h1.den_sml (by omega)) (h2.den_sml (by omega))
  have a4 := F_fraction_ok (a := p.num * (q.den : Int) + q.num * (p.den : Int)) (Int.mul_ne_zero (den_ne p) (den_ne q)) (den_mul_sml h1 h2 hn)
  rw [add_eq] at a4
  refine runD_rt (ρ := [.val (encQ p), .val (encQ q)]) (ret_ok ?_)
  show eFn 2 F_fraction _ [.val (encQ p), .val (encQ q)] = _
  simp only [eFn, eOp, eVar, eC, aCons, aNil, eTup, eLst, rb, List.getElem?_cons_zero, List.getElem?_cons_succ, List.length_cons, List.length_nil, Nat.zero_add, Nat.reduceAdd, few2, if_true, eq_self, ite_true, reduceIte, List.set_cons_zero, List.set_cons_succ, idx0, idx1, a1, a2, a3, addF_int, a4]
theorem F_minus_ok (h1 : Bd n p) (h2 : Bd m q) (hn : n + m ≤ 4000) : F_minus [encQ p, encQ q] = .ok (encQ (p - q)) := by
  have a1 := mulF_sml (h1.num_sml (by omega)) (h2.den_sml (by omega))
  have a2 := mulF_sml (h2.num_sml (by omega)) (h1.den_sml (by omega))
  have a3 := mulF_sml (h1.den_sml (by omega)) (h2.den_sml (by omega))
  have a4 := F_fraction_ok (a := p.num * (q.den : Int) - q.num * (p.den : Int)) (Int.mul_ne_zero (den_ne p) (den_ne q)) (den_mul_sml h1 h2 hn)
  rw [sub_eq] at a4
  refine runD_rt (ρ := [.val (encQ p), .val (encQ q)]) (ret_ok ?_)
  show eFn 2 F_fraction _ [.val (encQ p), .val (encQ q)] = _
  simp only [eFn, eOp, eVar, eC, aCons, aNil, eTup, eLst, rb, List.getElem?_cons_zero, List.getElem?_cons_succ, List.length_cons, List.length_nil, Nat.zero_add, Nat.reduceAdd, few2, if_true, eq_self, ite_true, reduceIte, List.set_cons_zero, List.set_cons_succ, idx0, idx1, a1, a2, a3, subI_int, a4]
theorem F_times_ok (h1 : Bd n p) (h2 : Bd m q) (hn : n + m ≤ 4000) : F_times [encQ p, encQ q] = .ok (encQ (p * q)) := by
  have a1 := mulF_sml (h1.num_sml (by omega)) (h2.num_sml (by omega))
  have a3 := mulF_sml (h1.den_sml (by omega)) (h2.den_sml (by omega))
  have a4 := F_fraction_ok (a := p.num * q.num) (Int.mul_ne_zero (den_ne p) (den_ne q)) (den_mul_sml h1 h2 hn)
  rw [mul_eq] at a4
  refine runD_rt (ρ := [.val (encQ p), .val (encQ q)]) (ret_ok ?_)
  show eFn 2 F_fraction _ [.val (encQ p), .val (encQ q)] = _
  simp only [eFn, eOp, eVar, eC, aCons, aNil, eTup, eLst, rb, List.getElem?_cons_zero, List.getElem?_cons_succ, List.length_cons, List.length_nil, Nat.zero_add, Nat.reduceAdd, few2, if_true, eq_self, ite_true, reduceIte, List.set_cons_zero, List.set_cons_succ, idx0, idx1, a1, a3, a4]
theorem F_law_plus_ok (h1 : Bd n p) (h2 : Bd m q) (hn : n + m ≤ 4000) : F_law_plus [encQ p, encQ q] = .ok (encQ (p + q)) := by
  have a1 := mulF_sml (h1.num_sml (by omega)) (h2.den_sml (by omega))
  have a2 := mulF_sml (h2.num_sml (by omega)) (h1.den_sml (by omega))
  have a3 := mulF_sml (h1.den_sml (by omega)) (h2.den_sml (by omega))
  have a4 := F_law_part_ok (a := p.num * (q.den : Int) + q.num * (p.den : Int)) (Int.mul_ne_zero (den_ne p) (den_ne q)) (den_mul_sml h1 h2 hn)
  rw [add_eq] at a4
  refine runD_rt (ρ := [.val (encQ p), .val (encQ q)]) (ret_ok ?_)
  show eFn 2 F_law_part _ [.val (encQ p), .val (encQ q)] = _
  simp only [eFn, eOp, eVar, eC, aCons, aNil, eTup, eLst, rb, List.getElem?_cons_zero, List.getElem?_cons_succ, List.length_cons, List.length_nil, Nat.zero_add, Nat.reduceAdd, few2, if_true, eq_self, ite_true, reduceIte, List.set_cons_zero, List.set_cons_succ, idx0, idx1, a1, a2, a3, addF_int, a4]
theorem F_law_minus_ok (h1 : Bd n p) (h2 : Bd m q) (hn : n + m ≤ 4000) : F_law_minus [encQ p, encQ q] = .ok (encQ (p - q)) := by
  have a1 := mulF_sml (h1.num_sml (by omega)) (h2.den_sml (by omega))
  have a2 := mulF_sml (h2.num_sml (by omega)) (h1.den_sml (by omega))
  have a3 := mulF_sml (h1.den_sml (by omega)) (h2.den_sml (by omega))
  have a4 := F_law_part_ok (a := p.num * (q.den : Int) - q.num * (p.den : Int)) (Int.mul_ne_zero (den_ne p) (den_ne q)) (den_mul_sml h1 h2 hn)
  rw [sub_eq] at a4
  refine runD_rt (ρ := [.val (encQ p), .val (encQ q)]) (ret_ok ?_)
  show eFn 2 F_law_part _ [.val (encQ p), .val (encQ q)] = _
  simp only [eFn, eOp, eVar, eC, aCons, aNil, eTup, eLst, rb, List.getElem?_cons_zero, List.getElem?_cons_succ, List.length_cons, List.length_nil, Nat.zero_add, Nat.reduceAdd, few2, if_true, eq_self, ite_true, reduceIte, List.set_cons_zero, List.set_cons_succ, idx0, idx1, a1, a2, a3, subI_int, a4]
theorem F_law_times_ok (h1 : Bd n p) (h2 : Bd m q) (hn : n + m ≤ 4000) : F_law_times [encQ p, encQ q] = .ok (encQ (p * q)) := by
  have a1 := mulF_sml (h1.num_sml (by omega)) (h2.num_sml (by omega))
  have a3 := mulF_sml (h1.den_sml (by omega)) (h2.den_sml (by omega))
  have a4 := F_law_part_ok (a := p.num * q.num) (Int.mul_ne_zero (den_ne p) (den_ne q)) (den_mul_sml h1 h2 hn)
  rw [mul_eq] at a4
  refine runD_rt (ρ := [.val (encQ p), .val (encQ q)]) (ret_ok ?_)
  show eFn 2 F_law_part _ [.val (encQ p), .val (encQ q)] = _
  simp only [eFn, eOp, eVar, eC, aCons, aNil, eTup, eLst, rb, List.getElem?_cons_zero, List.getElem?_cons_succ, List.length_cons, List.length_nil, Nat.zero_add, Nat.reduceAdd, few2, if_true, eq_self, ite_true, reduceIte, List.set_cons_zero, List.set_cons_succ, idx0, idx1, a1, a3, a4]
theorem lt_dec (p q : Rat) : decide (p.num * (q.den : Int) < q.num * (p.den : Int)) = decide (p < q) := by
  by_cases h : p < q
  · rw [decide_eq_true h, decide_eq_true ((Rat.lt_iff p q).mp h)]
  · rw [decide_eq_false h, decide_eq_false fun z => h ((Rat.lt_iff p q).mpr z)]
theorem F_is_less_ok (h1 : Bd n p) (h2 : Bd m q) (hn : n + m ≤ 4000) : F_is_less [encQ p, encQ q] = .ok (.bool (decide (p < q))) := by
  have a1 := mulF_sml (h1.num_sml (by omega)) (h2.den_sml (by omega))
  have a2 := mulF_sml (h2.num_sml (by omega)) (h1.den_sml (by omega))
  refine runD_rt (ρ := [.val (encQ p), .val (encQ q)]) (ret_ok ?_)
  show eOp ltI _ _ [.val (encQ p), .val (encQ q)] = _
  simp only [eFn, eOp, eVar, eC, aCons, aNil, eTup, eLst, rb, List.getElem?_cons_zero, List.getElem?_cons_succ, List.length_cons, List.length_nil, Nat.zero_add, Nat.reduceAdd, few2, if_true, eq_self, ite_true, reduceIte, List.set_cons_zero, List.set_cons_succ, idx0, idx1, a1, a2, ltI_int, lt_dec]
theorem F_law_less_ok (h1 : Bd n p) (h2 : Bd m q) (hn : n + m ≤ 4000) : F_law_less [encQ p, encQ q] = .ok (.bool (decide (p < q))) := by
  have a1 := mulF_sml (h1.num_sml (by omega)) (h2.den_sml (by omega))
  have a2 := mulF_sml (h2.num_sml (by omega)) (h1.den_sml (by omega))
  refine runD_rt (ρ := [.val (encQ p), .val (encQ q)]) (ret_ok ?_)
  show eOp ltI _ _ [.val (encQ p), .val (encQ q)] = _
  simp only [eFn, eOp, eVar, eC, aCons, aNil, eTup, eLst, rb, List.getElem?_cons_zero, List.getElem?_cons_succ, List.length_cons, List.length_nil, Nat.zero_add, Nat.reduceAdd, few2, if_true, eq_self, ite_true, reduceIte, List.set_cons_zero, List.set_cons_succ, idx0, idx1, a1, a2, ltI_int, lt_dec]
end
end GN

set_option Elab.async false
set_option linter.all false
set_option maxRecDepth 100000
set_option maxHeartbeats 8000000
/-! M3: boxes, windows, gaps. -/
namespace GN
open PySem
theorem encQ_int (w : Int) : encQ (w : Rat) = .tuple [.int w, .int 1] := by
  unfold encQ
  rw [Rat.num_intCast, Rat.den_intCast]
  rfl
theorem Bd.int {w : Int} {n : Nat} (h : w.natAbs < 2 ^ n) (hn : 1 ≤ n) : Bd n (w : Rat) := ⟨by rw [Rat.num_intCast]; exact h, by
  rw [Rat.den_intCast]
  exact Nat.lt_of_lt_of_le (by decide : 1 < 2 ^ 1) (Nat.pow_le_pow_right (by decide) hn)⟩
def encP (p : Rat × Rat) : D := .tuple [encQ p.1, encQ p.2]
def enc4 (a b c d : Rat) : D := .tuple [encQ a, encQ b, encQ c, encQ d]
def encE (w h : Int) (e f : D) : D := .tuple [.int w, .int h, e, f]
def encV (a d w h : Int) : D := .tuple [.int a, .int d, .int w, .int h]
theorem ixP0 (p : Rat × Rat) : idxF (encP p) (.int 0) = .ok (encQ p.1) := rfl
theorem ixP1 (p : Rat × Rat) : idxF (encP p) (.int 1) = .ok (encQ p.2) := rfl
theorem ixE0 (w h : Int) (e f : D) : idxF (encE w h e f) (.int 0) = .ok (.int w) := rfl
theorem ixE1 (w h : Int) (e f : D) : idxF (encE w h e f) (.int 1) = .ok (.int h) := rfl
theorem ixV0 (a d w h : Int) : idxF (encV a d w h) (.int 0) = .ok (.int a) := rfl
theorem ixV1 (a d w h : Int) : idxF (encV a d w h) (.int 1) = .ok (.int d) := rfl
theorem ixV2 (a d w h : Int) : idxF (encV a d w h) (.int 2) = .ok (.int w) := rfl
theorem ixV3 (a d w h : Int) : idxF (encV a d w h) (.int 3) = .ok (.int h) := rfl
theorem ix40 (a b c d : Rat) : idxF (enc4 a b c d) (.int 0) = .ok (encQ a) := rfl
theorem ix41 (a b c d : Rat) : idxF (enc4 a b c d) (.int 1) = .ok (encQ b) := rfl
theorem ix42 (a b c d : Rat) : idxF (enc4 a b c d) (.int 2) = .ok (encQ c) := rfl
theorem ix43 (a b c d : Rat) : idxF (enc4 a b c d) (.int 3) = .ok (encQ d) := rfl
theorem le2 : (2 : Nat) ≤ 100000 := by decide
theorem le4 : (4 : Nat) ≤ 100000 := by decide
section
variable {n m : Nat}
/-! ### the box -/
theorem F_box_in_ok {w h : Int} {e f : D} {p : Rat × Rat} (hw : w.natAbs < 16) (hh : h.natAbs < 16) (h1 : Bd n p.1) (h2 : Bd n p.2) (hn : n ≤ 3000) :
    F_box_in [encE w h e f, encP p] = .ok (enc4 p.1 p.2 (p.1 + (w : Rat)) (p.2 + (h : Rat))) := by
  have b1 : Bd 4 (w : Rat) := .int hw (by decide)
  have b2 : Bd 4 (h : Rat) := .int hh (by decide)
  have a1 := F_plus_ok h1 b1 (by omega)
  have a2 := F_plus_ok h2 b2 (by omega)
  rw [encQ_int] at a1 a2
  refine runD_rt (ρ := [.val (encE w h e f), .val (encP p)]) (ret_ok ?_)
  show eOp addF (eVar 1) _ [.val (encE w h e f), .val (encP p)] = _
  simp only [eFn, eOp, eVar, eC, aCons, aNil, eTup, eLst, rb, List.getElem?_cons_zero, List.getElem?_cons_succ, List.length_cons, List.length_nil, Nat.zero_add, Nat.reduceAdd, few2, if_true, eq_self, ite_true, reduceIte, List.set_cons_zero, List.set_cons_succ, ixE0, ixE1, ixP0, ixP1, a1, a2, decide_eq_true le2]
  rfl
theorem F_law_frame_ok {chart : D} {k : Int} {w h : Int} {e f : D} {p : Rat × Rat} (hk : idxF chart (.int k) = .ok (encE w h e f)) (hw : w.natAbs < 16) (hh : h.natAbs < 16) (h1 : Bd n p.1) (h2 : Bd n p.2) (hn : n ≤ 3000) :
    F_law_frame [chart, .int k, encP p] = .ok (enc4 p.1 p.2 (p.1 + (w : Rat)) (p.2 + (h : Rat))) := by
  have b1 : Bd 4 (w : Rat) := .int hw (by decide)
  have b2 : Bd 4 (h : Rat) := .int hh (by decide)
  have a1 := F_law_plus_ok h1 b1 (by omega)
  have a2 := F_law_plus_ok h2 b2 (by omega)
  rw [encQ_int] at a1 a2
  refine runD_rt (ρ := [.val chart, .val (.int k), .val (encP p)]) (ret_ok ?_)
  show eTup _ [.val chart, .val (.int k), .val (encP p)] = _
  simp only [eFn, eOp, eVar, eC, aCons, aNil, eTup, eLst, rb, List.getElem?_cons_zero, List.getElem?_cons_succ, List.length_cons, List.length_nil, Nat.zero_add, Nat.reduceAdd, few2, if_true, eq_self, ite_true, reduceIte, List.set_cons_zero, List.set_cons_succ, hk, ixE0, ixE1, ixP0, ixP1, a1, a2, decide_eq_true le2, decide_eq_true le4]
  rfl
/-! ### the window -/
theorem half_eq (a w : Int) (s : Rat) (sd : Int) (h : sd = 1 ∨ sd = -1) : Rat.divInt (2 * a * s.num + sd * w * (s.den : Int)) (2 * (s.den : Int)) = s * (a : Rat) + (sd : Rat) * Rat.divInt w 2 := by
  have hs : s = Rat.divInt s.num (s.den : Int) := (Rat.num_divInt_den s).symm
  have h2 : ((s.den : Int)) ≠ 0 := den_ne s
  have e1 : s * (a : Rat) = Rat.divInt (a * s.num) (s.den : Int) := by
    have ea : (a : Rat) = Rat.divInt a 1 := by rw [Rat.divInt_eq_div]; grind
    rw [ea]
    conv => lhs; rw [hs]
    rw [Rat.divInt_mul_divInt, Int.mul_one, Int.mul_comm]
  have e2 : (sd : Rat) * Rat.divInt w 2 = Rat.divInt (sd * w) 2 := by
    have ea : (sd : Rat) = Rat.divInt sd 1 := by rw [Rat.divInt_eq_div]; grind
    rw [ea, Rat.divInt_mul_divInt, Int.one_mul]
  rw [e1, e2, Rat.divInt_add_divInt _ _ h2 (by decide)]
  have e3 : 2 * a * s.num + sd * w * (s.den : Int) = a * s.num * 2 + sd * w * (s.den : Int) := by
    rw [Int.mul_assoc, Int.mul_comm 2]
  rw [e3, Int.mul_comm 2]
def winQ (a d w h : Int) (s : Rat) : Rat × Rat × Rat × Rat := (s * (a : Rat) - Rat.divInt w 2, s * (d : Rat) - Rat.divInt h 2, s * (a : Rat) + Rat.divInt w 2, s * (d : Rat) + Rat.divInt h 2)
def encW (f : Rat × Rat × Rat × Rat) : D := enc4 f.1 f.2.1 f.2.2.1 f.2.2.2
theorem half_bd {w : Int} (hw : w.natAbs < 16) : Bd 4 (Rat.divInt w 2) := divInt_bd (by decide) hw (by decide)
theorem F_law_pane_ok {a d w h : Int} {s : Rat} (ha : a.natAbs < 16) (hd : d.natAbs < 16) (hw : w.natAbs < 16) (hh : h.natAbs < 16) (hs : Bd m s) (hm : m ≤ 3000) : F_law_pane [encV a d w h, encQ s] = .ok (encW (winQ a d w h s)) := by
  have b1 : Bd 4 (a : Rat) := .int ha (by decide)
  have b2 : Bd 4 (d : Rat) := .int hd (by decide)
  have t1 := F_law_times_ok hs b1 (by omega)
  have t2 := F_law_times_ok hs b2 (by omega)
  rw [encQ_int] at t1 t2
  have p1 := F_law_part_ok (a := w) (b := 2) (by decide) (by decide)
  have p2 := F_law_part_ok (a := h) (b := 2) (by decide) (by decide)
  have m1 := F_law_minus_ok (hs.mul b1) (half_bd hw) (by omega)
  have m2 := F_law_minus_ok (hs.mul b2) (half_bd hh) (by omega)
  have m3 := F_law_plus_ok (hs.mul b1) (half_bd hw) (by omega)
  have m4 := F_law_plus_ok (hs.mul b2) (half_bd hh) (by omega)
  have s1 : sTup [2, 3] (csC (cV (eFn 2 F_law_times (aCons (eVar 1) (aCons (eTup (aCons (eOp idxF (eVar 0) (eC (.int 0))) (aCons (eC (.int 1)) aNil))) aNil)))) (csC (cV (eFn 2 F_law_times (aCons (eVar 1) (aCons (eTup (aCons (eOp idxF (eVar 0) (eC (.int 1))) (aCons (eC (.int 1)) aNil))) aNil)))) csN)) [.val (encV a d w h), .val (encQ s), .no, .no, .no, .no] =
      .ok (.nx, [.val (encV a d w h), .val (encQ s), .val (encQ (s * (a : Rat))), .val (encQ (s * (d : Rat))), .no, .no]) := by
    simp only [eFn, eOp, eVar, eC, aCons, aNil, eTup, eLst, rb, List.getElem?_cons_zero, List.getElem?_cons_succ, List.length_cons, List.length_nil, Nat.zero_add, Nat.reduceAdd, few2, if_true, eq_self, ite_true, reduceIte, List.set_cons_zero, List.set_cons_succ, sTup, csC, cV, csN, setSs, ixV0, ixV1, t1, t2, decide_eq_true le2]
  have s2 : sTup [4, 5] (csC (cV (eFn 2 F_law_part (aCons (eOp idxF (eVar 0) (eC (.int 2))) (aCons (eC (.int 2)) aNil)))) (csC (cV (eFn 2 F_law_part (aCons (eOp idxF (eVar 0) (eC (.int 3))) (aCons (eC (.int 2)) aNil)))) csN)) [.val (encV a d w h), .val (encQ s), .val (encQ (s * (a : Rat))), .val (encQ (s * (d : Rat))), .no, .no] =
      .ok (.nx, [.val (encV a d w h), .val (encQ s), .val (encQ (s * (a : Rat))), .val (encQ (s * (d : Rat))), .val (encQ (Rat.divInt w 2)), .val (encQ (Rat.divInt h 2))]) := by
    simp only [eFn, eOp, eVar, eC, aCons, aNil, eTup, eLst, rb, List.getElem?_cons_zero, List.getElem?_cons_succ, List.length_cons, List.length_nil, Nat.zero_add, Nat.reduceAdd, few2, if_true, eq_self, ite_true, reduceIte, List.set_cons_zero, List.set_cons_succ, sTup, csC, cV, csN, setSs, ixV2, ixV3, p1, p2]
  refine runD_rt (ρ := [.val (encV a d w h), .val (encQ s), .val (encQ (s * (a : Rat))), .val (encQ (s * (d : Rat))), .val (encQ (Rat.divInt w 2)), .val (encQ (Rat.divInt h 2))]) ?_
  show m_law_pane [.val (encV a d w h), .val (encQ s), .no, .no, .no, .no] = _
  unfold m_law_pane
  rw [seq_nx s1, seq_nx s2]
  refine ret_ok ?_
  simp only [eFn, eOp, eVar, eC, aCons, aNil, eTup, eLst, rb, List.getElem?_cons_zero, List.getElem?_cons_succ, List.length_cons, List.length_nil, Nat.zero_add, Nat.reduceAdd, few2, if_true, eq_self, ite_true, reduceIte, List.set_cons_zero, List.set_cons_succ, m1, m2, m3, m4, decide_eq_true le4]
  rfl
theorem F_window_in_ok {a d w h : Int} {s : Rat} (ha : a.natAbs < 16) (hd : d.natAbs < 16) (hw : w.natAbs < 16) (hh : h.natAbs < 16) (hs : Bd m s) (hm : m ≤ 3000) : F_window_in [encV a d w h, encQ s] = .ok (encW (winQ a d w h s)) := by
  have sn := hs.num_sml (by omega)
  have sd := hs.den_sml (by omega)
  have fr : ∀ (x y g : Int), x.natAbs < 16 → y.natAbs < 16 → (g = 1 ∨ g = -1) → F_fraction [.int (2 * x * s.num + g * y * (s.den : Int)), .int (2 * (s.den : Int))] = .ok (encQ (s * (x : Rat) + (g : Rat) * Rat.divInt y 2)) := fun x y g hx hy hg => by
    rw [F_fraction_ok (Int.mul_ne_zero (by decide) (den_ne s)) (sml_of (n := m + 1) (by
      rw [Int.natAbs_mul, Int.natAbs_natCast, Nat.pow_succ]
      have := hs.den
      show 2 * _ < _
      omega) (by omega)), half_eq x y s g hg]
  have app : ∀ (x y g : Int) (o : List D), x.natAbs < 16 → y.natAbs < 16 → (g = 1 ∨ g = -1) →
      (mulF (.int 2) (.int x) = .ok (.int (2 * x)) ∧ mulF (.int (2 * x)) (.int s.num) = .ok (.int (2 * x * s.num)) ∧ mulF (.int g) (.int y) = .ok (.int (g * y)) ∧ mulF (.int (g * y)) (.int (s.den : Int)) = .ok (.int (g * y * (s.den : Int))) ∧ mulF (.int 2) (.int (s.den : Int)) = .ok (.int (2 * (s.den : Int)))) := fun x y g o hx hy hg => by
    refine ⟨mulF_ok ?_, mulF_sml (sml_of (n := 63) (by omega) (by decide)) sn, mulF_ok ?_, mulF_sml (sml_of (n := 63) ?_ (by decide)) sd, mulF_sml (sml_of (n := 63) (by decide) (by decide)) sd⟩
    · rw [decide_eq_true (show x.natAbs < 2 ^ 63 by omega), Bool.or_true]
    · rw [decide_eq_true (show y.natAbs < 2 ^ 63 by omega), Bool.or_true]
    · rcases hg with rfl | rfl
      · omega
      · omega
  have e0 : ini 10 [encV a d w h, encQ s] = [.val (encV a d w h), .val (encQ s), .no, .no, .no, .no, .no, .no, .no, .no] := rfl
  let E : Sl → Sl → En := fun s2 s3 => [.val (encV a d w h), .val (encQ s), s2, s3, .val (.int a), .val (.int d), .val (.int w), .val (.int h), .val (.int s.num), .val (.int (s.den : Int))]
  have turn : ∀ (g : Int) (o : List D), (g = 1 ∨ g = -1) → o.length < 10 → (sSeq (sApp 2 (eFn 2 F_fraction (aCons (eOp addF (eOp mulF (eOp mulF (eC (.int 2)) (eVar 4)) (eVar 8)) (eOp mulF (eOp mulF (eVar 3) (eVar 6)) (eVar 9))) (aCons (eOp mulF (eC (.int 2)) (eVar 9)) aNil)))) (sApp 2 (eFn 2 F_fraction (aCons (eOp addF (eOp mulF (eOp mulF (eC (.int 2)) (eVar 5)) (eVar 8)) (eOp mulF (eOp mulF (eVar 3) (eVar 7)) (eVar 9))) (aCons (eOp mulF (eC (.int 2)) (eVar 9)) aNil))))) (E (.own o) (.val (.int g))) =
      .ok (.nx, E (.own ((o ++ [encQ (s * (a : Rat) + (g : Rat) * Rat.divInt w 2)]) ++ [encQ (s * (d : Rat) + (g : Rat) * Rat.divInt h 2)])) (.val (.int g))) := fun g o hg ho => by
    obtain ⟨x1, x2, x3, x4, x5⟩ := app a w g o ha hw hg
    obtain ⟨y1, y2, y3, y4, y5⟩ := app d h g o hd hh hg
    have f1 := fr a w g ha hw hg
    have f2 := fr d h g hd hh hg
    have ev1 : eFn 2 F_fraction (aCons (eOp addF (eOp mulF (eOp mulF (eC (.int 2)) (eVar 4)) (eVar 8)) (eOp mulF (eOp mulF (eVar 3) (eVar 6)) (eVar 9))) (aCons (eOp mulF (eC (.int 2)) (eVar 9)) aNil)) (E (.own o) (.val (.int g))) = .ok (encQ (s * (a : Rat) + (g : Rat) * Rat.divInt w 2), E (.own o) (.val (.int g))) := by
      simp only [eFn, eOp, eVar, eC, aCons, aNil, eTup, eLst, rb, List.getElem?_cons_zero, List.getElem?_cons_succ, List.length_cons, List.length_nil, Nat.zero_add, Nat.reduceAdd, few2, if_true, eq_self, ite_true, reduceIte, List.set_cons_zero, List.set_cons_succ, E, x1, x2, x3, x4, x5, addF_int, f1]
    have st1 : sApp 2 (eFn 2 F_fraction (aCons (eOp addF (eOp mulF (eOp mulF (eC (.int 2)) (eVar 4)) (eVar 8)) (eOp mulF (eOp mulF (eVar 3) (eVar 6)) (eVar 9))) (aCons (eOp mulF (eC (.int 2)) (eVar 9)) aNil))) (E (.own o) (.val (.int g))) = .ok (.nx, E (.own (o ++ [encQ (s * (a : Rat) + (g : Rat) * Rat.divInt w 2)])) (.val (.int g))) := app_ok (show (E (.own o) (.val (.int g)))[2]? = some (.own o) from rfl) ev1 (show (E (.own o) (.val (.int g)))[2]? = some (.own o) from rfl) (by omega)
    have ev2 : eFn 2 F_fraction (aCons (eOp addF (eOp mulF (eOp mulF (eC (.int 2)) (eVar 5)) (eVar 8)) (eOp mulF (eOp mulF (eVar 3) (eVar 7)) (eVar 9))) (aCons (eOp mulF (eC (.int 2)) (eVar 9)) aNil)) (E (.own (o ++ [encQ (s * (a : Rat) + (g : Rat) * Rat.divInt w 2)])) (.val (.int g))) = .ok (encQ (s * (d : Rat) + (g : Rat) * Rat.divInt h 2), E (.own (o ++ [encQ (s * (a : Rat) + (g : Rat) * Rat.divInt w 2)])) (.val (.int g))) := by
      simp only [eFn, eOp, eVar, eC, aCons, aNil, eTup, eLst, rb, List.getElem?_cons_zero, List.getElem?_cons_succ, List.length_cons, List.length_nil, Nat.zero_add, Nat.reduceAdd, few2, if_true, eq_self, ite_true, reduceIte, List.set_cons_zero, List.set_cons_succ, E, y1, y2, y3, y4, y5, addF_int, f2]
    rw [seq_nx st1]
    exact app_ok (show (E (.own (o ++ [encQ (s * (a : Rat) + (g : Rat) * Rat.divInt w 2)])) (.val (.int g)))[2]? = some (.own (o ++ [encQ (s * (a : Rat) + (g : Rat) * Rat.divInt w 2)])) from rfl) ev2 rfl (by rw [List.length_append]; simp; omega)
  have hsA : ∀ x : Int, s * (x : Rat) + ((-1 : Int) : Rat) * Rat.divInt w 2 = s * (x : Rat) - Rat.divInt w 2 := fun x => by grind
  have hsB : ∀ x : Int, s * (x : Rat) + ((-1 : Int) : Rat) * Rat.divInt h 2 = s * (x : Rat) - Rat.divInt h 2 := fun x => by grind
  have hsC : ∀ (x : Int) (q : Rat), s * (x : Rat) + ((1 : Int) : Rat) * q = s * (x : Rat) + q := fun x q => by grind
  have loop : sFor (iSeq (eTup (aCons (eNeg (eC (.int 1))) (aCons (eC (.int 1)) aNil)))) (gN 3) (sSeq (sApp 2 (eFn 2 F_fraction (aCons (eOp addF (eOp mulF (eOp mulF (eC (.int 2)) (eVar 4)) (eVar 8)) (eOp mulF (eOp mulF (eVar 3) (eVar 6)) (eVar 9))) (aCons (eOp mulF (eC (.int 2)) (eVar 9)) aNil)))) (sApp 2 (eFn 2 F_fraction (aCons (eOp addF (eOp mulF (eOp mulF (eC (.int 2)) (eVar 5)) (eVar 8)) (eOp mulF (eOp mulF (eVar 3) (eVar 7)) (eVar 9))) (aCons (eOp mulF (eC (.int 2)) (eVar 9)) aNil))))) (E (.own []) .no) =
      .ok (.nx, E (.own [encQ (s * (a : Rat) - Rat.divInt w 2), encQ (s * (d : Rat) - Rat.divInt h 2), encQ (s * (a : Rat) + Rat.divInt w 2), encQ (s * (d : Rat) + Rat.divInt h 2)]) (.val (.int 1))) := by
    have t1 := turn (-1) [] (.inr rfl) (by decide)
    have t2 := turn 1 [encQ (s * (a : Rat) - Rat.divInt w 2), encQ (s * (d : Rat) - Rat.divInt h 2)] (.inl rfl) (by show 2 < 10; decide)
    rw [hsA a, hsB d] at t1
    rw [hsC a, hsC d] at t2
    have it : iSeq (eTup (aCons (eNeg (eC (.int 1))) (aCons (eC (.int 1)) aNil))) (E (.own []) .no) = .ok ([.int (-1), .int 1], E (.own []) .no) := rfl
    refine (for_ok it).trans ?_
    refine (forL_nx (show gN 3 (.int (-1)) (E (.own []) .no) = some (E (.own []) (.val (.int (-1)))) from rfl) t1).trans ?_
    refine (forL_nx (show gN 3 (.int 1) (E (.own [encQ (s * (a : Rat) - Rat.divInt w 2), encQ (s * (d : Rat) - Rat.divInt h 2)]) (.val (.int (-1)))) = some (E (.own [encQ (s * (a : Rat) - Rat.divInt w 2), encQ (s * (d : Rat) - Rat.divInt h 2)]) (.val (.int 1))) from rfl) t2).trans ?_
    rfl
  have a1 : sAsg (gT 4 (gsC (gN 4) (gsC (gN 5) (gsC (gN 6) (gsC (gN 7) gsN))))) (eVar 0) [.val (encV a d w h), .val (encQ s), .no, .no, .no, .no, .no, .no, .no, .no] = .ok (.nx, [.val (encV a d w h), .val (encQ s), .no, .no, .val (.int a), .val (.int d), .val (.int w), .val (.int h), .no, .no]) := rfl
  have a2 : sAsg (gT 2 (gsC (gN 8) (gsC (gN 9) gsN))) (eVar 1) [.val (encV a d w h), .val (encQ s), .no, .no, .val (.int a), .val (.int d), .val (.int w), .val (.int h), .no, .no] = .ok (.nx, E .no .no) := rfl
  have a3 : sSetO 2 (oLst aNil) (E .no .no) = .ok (.nx, E (.own []) .no) := rfl
  refine runD_rt (ρ := (E (.own [encQ (s * (a : Rat) - Rat.divInt w 2), encQ (s * (d : Rat) - Rat.divInt h 2), encQ (s * (a : Rat) + Rat.divInt w 2), encQ (s * (d : Rat) + Rat.divInt h 2)]) (.val (.int 1))).set 2 (.val (.list [encQ (s * (a : Rat) - Rat.divInt w 2), encQ (s * (d : Rat) - Rat.divInt h 2), encQ (s * (a : Rat) + Rat.divInt w 2), encQ (s * (d : Rat) + Rat.divInt h 2)]))) ?_
  rw [e0]
  unfold m_window_in
  rw [seq_nx a1, seq_nx a2, seq_nx a3, seq_nx loop]
  rfl
end
end GN

set_option Elab.async false
set_option linter.all false
set_option maxRecDepth 100000
set_option maxHeartbeats 8000000
/-! M4: comprehensions; gaps; what meets. -/
namespace GN
open PySem
theorem lcL_gen {g : GF} {t : TF} {f : EF} {vs : List Nat} {ρ : En} {keep : D → Bool} {φ : D → D} : ∀ (ds : List D),
    (∀ d ∈ ds, ∃ ρd, g d ρ = some ρd ∧ t ρd = .ok (keep d, ρd) ∧ (keep d = true → f ρd = .ok (φ d, ρd)) ∧ wipeR ρd vs = ρ) → lcL g t f vs ds ρ = .ok ((ds.filter keep).map φ, ρ)
  | [], _ => rfl
  | d :: ds, h => by
    obtain ⟨ρd, h1, h2, h3, h4⟩ := h d List.mem_cons_self
    have ih := lcL_gen ds fun e he => h e (List.mem_cons_of_mem _ he)
    conv => lhs; unfold lcL
    rw [h1]
    dsimp only
    rw [h2, rbN]
    dsimp only
    cases hk : keep d with
    | true =>
      rw [if_pos rfl, h3 hk, rbN]
      dsimp only
      rw [h4, ih, rbN, List.filter_cons_of_pos hk]
      rfl
    | false =>
      rw [if_neg Bool.false_ne_true, h4, ih, List.filter_cons_of_neg (by simp [hk])]
theorem lc_gen {it : LF} {g : GF} {t : TF} {f : EF} {vs : List Nat} {ρ ρ0 : En} {keep : D → Bool} {φ : D → D} {ds : List D} (hi : it ρ0 = .ok (ds, ρ)) (hf : ds.length ≤ 100000) (hw : wipeR ρ vs = ρ) (hr : restR ρ ρ vs = ρ)
    (h : ∀ d ∈ ds, ∃ ρd, g d ρ = some ρd ∧ t ρd = .ok (keep d, ρd) ∧ (keep d = true → f ρd = .ok (φ d, ρd)) ∧ wipeR ρd vs = ρ) : oLc it g t f vs ρ0 = .ok ((ds.filter keep).map φ, ρ) := by
  unfold oLc
  rw [hi, rb]
  dsimp only
  rw [if_pos (show few ds.length = true from decide_eq_true hf), hw, lcL_gen ds h, rbN, hr]
theorem lc_all {it : LF} {g : GF} {f : EF} {vs : List Nat} {ρ ρ0 : En} {φ : D → D} {ds : List D} (hi : it ρ0 = .ok (ds, ρ)) (hf : ds.length ≤ 100000) (hw : wipeR ρ vs = ρ) (hr : restR ρ ρ vs = ρ)
    (h : ∀ d ∈ ds, ∃ ρd, g d ρ = some ρd ∧ f ρd = .ok (φ d, ρd) ∧ wipeR ρd vs = ρ) : oLc it g tYesF f vs ρ0 = .ok (ds.map φ, ρ) := by
  have := lc_gen (t := tYesF) (keep := fun _ => true) (φ := φ) (f := f) hi hf hw hr fun d hd => by
    obtain ⟨ρd, a, b, c⟩ := h d hd
    exact ⟨ρd, a, rfl, fun _ => b, c⟩
  rw [this, List.filter_eq_self.mpr (fun _ _ => rfl)]
theorem call_ok {g : List D → Res D} {fs : LF} {ρ ρ1 : En} {ds : List D} {d : D} (h : fs ρ = .ok (ds, ρ1)) (h2 : g ds = .ok d) : eCall g fs ρ = .ok (d, ρ1) := by
  unfold eCall
  rw [h, rb]
  dsimp only
  rw [h2]
theorem fz_ok {f : LF} {ρ ρ1 : En} {ds : List D} (h : f ρ = .ok (ds, ρ1)) : eFz f ρ = .ok (.list ds, ρ1) := by
  unfold eFz
  rw [h, rb]
theorem cons_ok {f : EF} {fs : LF} {ρ ρ1 ρ2 : En} {d : D} {ds : List D} (h : f ρ = .ok (d, ρ1)) (h2 : fs ρ1 = .ok (ds, ρ2)) : aCons f fs ρ = .ok (d :: ds, ρ2) := by
  unfold aCons
  rw [h, rb]
  dsimp only
  rw [h2, rb]
theorem nil_ok {ρ : En} : aNil ρ = .ok ([], ρ) := rfl
theorem seq_ok {f : EF} {ρ ρ1 : En} {ds : List D} (h : f ρ = .ok (.list ds, ρ1)) : iSeq f ρ = .ok (ds, ρ1) := by
  unfold iSeq
  rw [h, rb]
theorem seq_okT {f : EF} {ρ ρ1 : En} {ds : List D} (h : f ρ = .ok (.tuple ds, ρ1)) : iSeq f ρ = .ok (ds, ρ1) := by
  unfold iSeq
  rw [h, rb]
theorem blsOf_map {α : Type} (p : α → Bool) : ∀ l : List α, blsOf (l.map fun x => PyData.bool (p x)) = some (l.map p)
  | [] => rfl
  | x :: r => by
    rw [List.map_cons]
    unfold blsOf
    rw [blsOf_map p r]
    rfl
theorem num_pos (q : Rat) : decide ((0 : Int) < q.num) = decide (0 < q) := by
  have h : (0 : Rat) < q ↔ 0 < q.num := by
    rw [Rat.lt_iff]
    show (0 : Int) * _ < q.num * ((1 : Nat) : Int) ↔ _
    omega
  by_cases c : 0 < q
  · rw [decide_eq_true c, decide_eq_true (h.mp c)]
  · rw [decide_eq_false c, decide_eq_false fun z => c (h.mpr z)]
theorem gtI_int (i j : Int) : gtI (.int i) (.int j) = .ok (.bool (decide (j < i))) := rfl
theorem leI_int (i j : Int) : leI (.int i) (.int j) = .ok (.bool (decide (i ≤ j))) := rfl
abbrev Q4 := Rat × Rat × Rat × Rat
def gapsQ (b f : Q4) : List Rat := [f.2.2.1 - b.1, f.2.2.2 - b.2.1, b.2.2.1 - f.1, b.2.2.2 - f.2.1]
structure B4 (n : Nat) (b : Q4) : Prop where
  ea : Bd n b.1
  eb : Bd n b.2.1
  ec : Bd n b.2.2.1
  ed : Bd n b.2.2.2
theorem gaps_bd {n m : Nat} {b f : Q4} (h1 : B4 n b) (h2 : B4 m f) : ∀ q ∈ gapsQ b f, Bd (n + m + 1) q := by
  intro q hq
  unfold gapsQ at hq
  simp only [List.mem_cons, List.not_mem_nil, or_false] at hq
  rcases hq with rfl | rfl | rfl | rfl
  · rw [Nat.add_comm n m]; exact h2.ec.sub h1.ea
  · rw [Nat.add_comm n m]; exact h2.ed.sub h1.eb
  · exact h1.ec.sub h2.ea
  · exact h1.ed.sub h2.eb
section
variable {n m : Nat} {b f : Q4}
theorem F_gaps_in_ok (h1 : B4 n b) (h2 : B4 m f) (hn : n + m ≤ 3000) : F_gaps_in [encW b, encW f] = .ok (.list ((gapsQ b f).map encQ)) := by
  have a1 := F_minus_ok h2.ec h1.ea (by omega)
  have a2 := F_minus_ok h2.ed h1.eb (by omega)
  have a3 := F_minus_ok h1.ec h2.ea (by omega)
  have a4 := F_minus_ok h1.ed h2.eb (by omega)
  refine runD_rt (ρ := [.val (encW b), .val (encW f)]) (ret_ok ?_)
  show eLst _ [.val (encW b), .val (encW f)] = _
  simp only [eFn, eOp, eVar, eC, aCons, aNil, eTup, eLst, rb, List.getElem?_cons_zero, List.getElem?_cons_succ, List.length_cons, List.length_nil, Nat.zero_add, Nat.reduceAdd, few2, if_true, eq_self, ite_true, reduceIte, List.set_cons_zero, List.set_cons_succ, encW, ix40, ix41, ix42, ix43, a1, a2, a3, a4, decide_eq_true le4]
  rfl
theorem F_law_gaps_ok (h1 : B4 n b) (h2 : B4 m f) (hn : n + m ≤ 3000) : F_law_gaps [encW b, encW f] = .ok (.tuple ((gapsQ b f).map encQ)) := by
  have a1 := F_law_minus_ok h2.ec h1.ea (by omega)
  have a2 := F_law_minus_ok h2.ed h1.eb (by omega)
  have a3 := F_law_minus_ok h1.ec h2.ea (by omega)
  have a4 := F_law_minus_ok h1.ed h2.eb (by omega)
  refine runD_rt (ρ := [.val (encW b), .val (encW f)]) (ret_ok ?_)
  show eTup _ [.val (encW b), .val (encW f)] = _
  simp only [eFn, eOp, eVar, eC, aCons, aNil, eTup, eLst, rb, List.getElem?_cons_zero, List.getElem?_cons_succ, List.length_cons, List.length_nil, Nat.zero_add, Nat.reduceAdd, few2, if_true, eq_self, ite_true, reduceIte, List.set_cons_zero, List.set_cons_succ, encW, ix40, ix41, ix42, ix43, a1, a2, a3, a4, decide_eq_true le4]
  rfl
theorem all_pos (l : List Rat) : allF [.list (l.map fun q => PyData.bool (decide (0 < q)))] = .ok (.bool (l.all fun q => decide (0 < q))) := by
  unfold allF
  dsimp only
  rw [blsOf_map (fun q : Rat => decide (0 < q)) l]
  dsimp only
  congr 2
  rw [List.all_map]
  rfl
/-- all([one[0] > 0 for one in ..]) at slot i -/
theorem pos_lc {it : LF} {i : Nat} {ρ ρ0 : En} {l : List Rat} (hi : it ρ0 = .ok (l.map encQ, ρ)) (hl : l.length ≤ 100000) (hw : wipeR ρ [i] = ρ) (hr : restR ρ ρ [i] = ρ) (hs : i < ρ.length) :
    eCall allF (aCons (eFz (oLc it (gN i) tYesF (eOp gtI (eOp idxF (eVar i) (eC (.int 0))) (eC (.int 0))) [i])) aNil) ρ0 = .ok (.bool (l.all fun q => decide (0 < q)), ρ) := by
  refine call_ok (cons_ok (fz_ok (lc_all (φ := fun d => match d with | .tuple (.int n :: _) => .bool (decide (0 < n)) | _ => .none) hi (by rw [List.length_map]; exact hl) hw hr fun d hd => ?_)) nil_ok) ?_
  · obtain ⟨q, hq, rfl⟩ := List.mem_map.mp hd
    refine ⟨_, rfl, ?_, ?_⟩
    · have e : eVar i (ρ.set i (.val (encQ q))) = .ok (encQ q, ρ.set i (.val (encQ q))) := by
        unfold eVar
        rw [List.getElem?_set_self hs]
      simp only [eOp, e, rb, eC, idx0, gtI_int]
      rfl
    · have : wipeR (ρ.set i (.val (encQ q))) [i] = wipeR ρ [i] := by
        show (ρ.set i _).set i _ = ρ.set i _
        rw [List.set_set]
      rw [this, hw]
  · rw [List.map_map]
    have e : (l.map ((fun d : D => (match d with | .tuple (.int n :: _) => .bool (decide (0 < n)) | _ => .none : D)) ∘ encQ)) = l.map fun q => PyData.bool (decide (0 < q)) := by
      refine List.map_congr_left fun q _ => ?_
      show PyData.bool (decide (0 < q.num)) = _
      rw [num_pos]
    rw [e]
    exact all_pos l
theorem F_meets_ok (h1 : B4 n b) (h2 : B4 m f) (hn : n + m ≤ 3000) : F_meets [encW b, encW f] = .ok (.bool ((gapsQ b f).all fun q => decide (0 < q))) := by
  have a1 := F_gaps_in_ok h1 h2 hn
  refine runD_rt (ρ := [.val (encW b), .val (encW f), .no]) (ret_ok ?_)
  show eCall allF _ [.val (encW b), .val (encW f), .no] = _
  refine pos_lc (i := 2) (seq_ok ?_) (show (4 : Nat) ≤ 100000 by decide) rfl rfl (by show 2 < 3; decide)
  simp only [eFn, eOp, eVar, eC, aCons, aNil, eTup, eLst, rb, List.getElem?_cons_zero, List.getElem?_cons_succ, List.length_cons, List.length_nil, Nat.zero_add, Nat.reduceAdd, few2, if_true, eq_self, ite_true, reduceIte, List.set_cons_zero, List.set_cons_succ, a1]
end
end GN

set_option Elab.async false
set_option linter.all false
set_option maxRecDepth 100000
set_option maxHeartbeats 8000000
/-! M5: where a name stands, scale by scale. -/
namespace GN
open PySem
def encO : Option Rat → D
  | none => .none
  | some q => encQ q
def encG (g : Rat × List (Rat × Rat)) : D := .tuple [encQ g.1, .tuple (g.2.map encP)]
def encT (t : Rat × (Rat × Rat)) : D := .tuple [encQ t.1, encP t.2]
def shown (s : Rat) : Nat → List (Option Rat) → List Int
  | _, [] => []
  | n, none :: r => shown s (n + 1) r
  | n, some b :: r => if s < b then shown s (n + 1) r else (n : Int) :: shown s (n + 1) r
def told (book : List (Option Rat)) (k : Int) : List (Rat × List (Rat × Rat)) → List (Rat × (Rat × Rat))
  | [] => []
  | g :: r => match idxI k (shown g.1 0 book) with
    | some j => (g.1, g.2.getD j (0, 0)) :: told book k r
    | none => told book k r
theorem shown_len (s : Rat) : ∀ (n : Nat) (b : List (Option Rat)), (shown s n b).length ≤ b.length
  | _, [] => Nat.le_refl _
  | n, none :: r => Nat.le_succ_of_le (shown_len s (n + 1) r)
  | n, some b :: r => by
    unfold shown
    split
    · exact Nat.le_succ_of_le (shown_len s (n + 1) r)
    · exact Nat.succ_le_succ (shown_len s (n + 1) r)
theorem told_len (book : List (Option Rat)) (k : Int) : ∀ g, (told book k g).length ≤ g.length
  | [] => Nat.le_refl _
  | g :: r => by
    unfold told
    split
    · exact Nat.succ_le_succ (told_len book k r)
    · exact Nat.le_succ_of_le (told_len book k r)
theorem intsOf_map : ∀ ns : List Int, intsOf (ns.map PyData.int) = some ns
  | [] => rfl
  | n :: r => by
    rw [List.map_cons]
    unfold intsOf
    rw [intsOf_map r]
    rfl
theorem idxI_none {k : Int} : ∀ {ns : List Int}, idxI k ns = none → k ∉ ns
  | [], _ => by simp
  | n :: r, h => by
    unfold idxI at h
    split at h
    · cases h
    · rename_i hn
      cases z : idxI k r with
      | none =>
        rw [List.mem_cons, not_or]
        exact ⟨fun q => hn q.symm, idxI_none z⟩
      | some j => rw [z] at h; cases h
theorem idxI_some {k : Int} {ns : List Int} {j : Nat} (h : idxI k ns = some j) : k ∈ ns ∧ j < ns.length := by
  obtain ⟨h1, _⟩ := idxI_at h
  exact ⟨List.mem_of_getElem? h1, (List.getElem?_eq_some_iff.mp h1).1⟩
abbrev LessOk (L : List D → Res D) : Prop := ∀ (n m : Nat) (p q : Rat), Bd n p → Bd m q → n + m ≤ 4000 → L [encQ p, encQ q] = .ok (.bool (decide (p < q)))
abbrev shT (L : List D → Res D) : TF := tAnd2 (tB1 (eOp isnF (eVar 8) (eC .none))) (tNot1 (tB1 (eFn 2 L (aCons (eVar 4) (aCons (eVar 8) aNil)))))
abbrev shG : GF := gT 2 (gsC (gN 7) (gsC (gN 8) gsN))
def m_spots (L : List D → Res D) : SF :=
  (sSeq (sSetO 3 (oLst aNil)) (sSeq (sFor (iSeq (eVar 1)) (gT 2 (gsC (gN 4) (gsC (gN 5) gsN))) (sSeq (sSetO 6 (oLc (iEnumF (eVar 0)) shG (shT L) (eVar 7) [7, 8])) (sIf (tB1 (eOp (inF false) (eVar 2) (eVar 6))) (sApp 3 (eTup (aCons (eVar 4) (aCons (eOp idxF (eVar 5) (eIndex (eVar 6) (eVar 2))) aNil)))) sSkip))) (sRetV 3)))
theorem spots_1 : m_told_places = m_spots F_is_less := rfl
theorem spots_2 : m_law_spots = m_spots F_law_less := rfl
section
variable {L : List D → Res D}
theorem shown_lc (hL : LessOk L) (bk gl nm : D) (fd : List D) (s : Rat) (sp s6 : Sl) (hs : Bd 1000 s) : ∀ (n : Nat) (b : List (Option Rat)), (∀ q, some q ∈ b → Bd 1000 q) →
    lcL shG (shT L) (eVar 7) [7, 8] (enumD n (b.map encO)) [.val bk, .val gl, .val nm, .own fd, .val (encQ s), sp, s6, .no, .no] = .ok ((shown s n b).map PyData.int, [.val bk, .val gl, .val nm, .own fd, .val (encQ s), sp, s6, .no, .no])
  | n, [], _ => rfl
  | n, none :: r, h => by
    have ih := shown_lc hL bk gl nm fd s sp s6 hs (n + 1) r fun q hq => h q (List.mem_cons_of_mem _ hq)
    rw [List.map_cons]
    unfold enumD
    conv => lhs; unfold lcL
    exact ih
  | n, some b :: r, h => by
    have ih := shown_lc hL bk gl nm fd s sp s6 hs (n + 1) r fun q hq => h q (List.mem_cons_of_mem _ hq)
    have hl := hL 1000 1000 s b hs (h b List.mem_cons_self) (by decide)
    rw [List.map_cons]
    unfold enumD
    conv => lhs; unfold lcL
    have g1 : shG (.tuple [.int (n : Nat), encO (some b)]) [.val bk, .val gl, .val nm, .own fd, .val (encQ s), sp, s6, .no, .no] = some [.val bk, .val gl, .val nm, .own fd, .val (encQ s), sp, s6, .val (.int (n : Nat)), .val (encQ b)] := rfl
    rw [g1]
    dsimp only
    have t1 : shT L [.val bk, .val gl, .val nm, .own fd, .val (encQ s), sp, s6, .val (.int (n : Nat)), .val (encQ b)] = .ok (!decide (s < b), [.val bk, .val gl, .val nm, .own fd, .val (encQ s), sp, s6, .val (.int (n : Nat)), .val (encQ b)]) := by
      have t0 : tB1 (eOp isnF (eVar 8) (eC .none)) [.val bk, .val gl, .val nm, .own fd, .val (encQ s), sp, s6, .val (.int (n : Nat)), .val (encQ b)] = .ok (true, [.val bk, .val gl, .val nm, .own fd, .val (encQ s), sp, s6, .val (.int (n : Nat)), .val (encQ b)]) := rfl
      have t2 : tB1 (eFn 2 L (aCons (eVar 4) (aCons (eVar 8) aNil))) [.val bk, .val gl, .val nm, .own fd, .val (encQ s), sp, s6, .val (.int (n : Nat)), .val (encQ b)] = .ok (decide (s < b), [.val bk, .val gl, .val nm, .own fd, .val (encQ s), sp, s6, .val (.int (n : Nat)), .val (encQ b)]) := tb_ok (by
        simp only [eFn, eOp, eVar, eC, aCons, aNil, eTup, eLst, rb, List.getElem?_cons_zero, List.getElem?_cons_succ, List.length_cons, List.length_nil, Nat.zero_add, Nat.reduceAdd, few2, if_true, eq_self, ite_true, reduceIte, List.set_cons_zero, List.set_cons_succ, hl])
      unfold shT tAnd2 tNot1
      rw [t0, rb]
      dsimp only
      rw [if_pos rfl, t2, rb]
    rw [t1, rbN]
    dsimp only
    unfold shown
    by_cases c : s < b
    · rw [decide_eq_true c, if_pos c]
      exact ih
    · rw [decide_eq_false c, if_neg c]
      rw [if_pos (by decide)]
      have e1 : eVar 7 [.val bk, .val gl, .val nm, .own fd, .val (encQ s), sp, s6, .val (.int (n : Nat)), .val (encQ b)] = .ok (.int (n : Nat), [.val bk, .val gl, .val nm, .own fd, .val (encQ s), sp, s6, .val (.int (n : Nat)), .val (encQ b)]) := rfl
      rw [e1, rbN]
      dsimp only
      have w1 : wipeR [.val bk, .val gl, .val nm, .own fd, .val (encQ s), sp, s6, .val (.int (n : Nat)), .val (encQ b)] [7, 8] = [.val bk, .val gl, .val nm, .own fd, .val (encQ s), sp, s6, .no, .no] := rfl
      rw [w1, ih, rbN]
      rfl
theorem enumD_length (n : Nat) (ds : List D) : (enumD n ds).length = ds.length := enumD_len n ds
/-- one turn -/
theorem spots_turn (hL : LessOk L) (gl : D) (book : List (Option Rat)) (k : Int) (fd : List D) (g : Rat × List (Rat × Rat)) (s4 s5 s6 : Sl) (hb : ∀ q, some q ∈ book → Bd 1000 q) (hbl : book.length ≤ 1000) (hfd : fd.length ≤ 1000) (hg : Bd 1000 g.1) (hgl : g.2.length = (shown g.1 0 book).length) :
    ∃ s6', (sSeq (sSetO 6 (oLc (iEnumF (eVar 0)) shG (shT L) (eVar 7) [7, 8])) (sIf (tB1 (eOp (inF false) (eVar 2) (eVar 6))) (sApp 3 (eTup (aCons (eVar 4) (aCons (eOp idxF (eVar 5) (eIndex (eVar 6) (eVar 2))) aNil)))) sSkip)) [.val (.tuple (book.map encO)), .val gl, .val (.int k), .own fd, .val (encQ g.1), .val (.tuple (g.2.map encP)), s6, .no, .no] =
      .ok (.nx, [.val (.tuple (book.map encO)), .val gl, .val (.int k), .own (fd ++ (told book k [g]).map encT), .val (encQ g.1), .val (.tuple (g.2.map encP)), s6', .no, .no]) := by
  let sh := shown g.1 0 book
  let E : List D → Sl → En := fun f x => [.val (.tuple (book.map encO)), .val gl, .val (.int k), .own f, .val (encQ g.1), .val (.tuple (g.2.map encP)), x, .no, .no]
  have a1 : oLc (iEnumF (eVar 0)) shG (shT L) (eVar 7) [7, 8] (E fd s6) = .ok (sh.map PyData.int, E fd s6) := by
    unfold oLc
    have i1 : iEnumF (eVar 0) (E fd s6) = .ok (enumD 0 (book.map encO), E fd s6) := rfl
    rw [i1, rb]
    dsimp only
    rw [if_pos (show few (enumD 0 (book.map encO)).length = true from decide_eq_true (by rw [enumD_len, List.length_map]; omega))]
    have w1 : wipeR (E fd s6) [7, 8] = E fd s6 := rfl
    rw [w1, show lcL shG (shT L) (eVar 7) [7, 8] (enumD 0 (book.map encO)) (E fd s6) = _ from shown_lc hL _ _ _ _ g.1 _ _ hg 0 book hb, rbN]
    rfl
  have a2 : sSetO 6 (oLc (iEnumF (eVar 0)) shG (shT L) (eVar 7) [7, 8]) (E fd s6) = .ok (.nx, E fd (.own (sh.map PyData.int))) := by
    unfold sSetO
    rw [a1, rb]
    rfl
  have hin : inF false (.int k) (.list (sh.map PyData.int)) = .ok (.bool (decide (k ∈ sh))) := by
    unfold inF
    show (match PyData.int k, intsOf (sh.map PyData.int) with | .int i, some ns => Res.ok (PyData.bool (if false then !decide (i ∈ ns) else decide (i ∈ ns))) | _, _ => .bad) = _
    rw [intsOf_map]
    rfl
  have a3 : tB1 (eOp (inF false) (eVar 2) (eVar 6)) (E fd (.own (sh.map PyData.int))) = .ok (decide (k ∈ sh), E fd (.val (.list (sh.map PyData.int)))) := tb_ok (by
    have v2 : eVar 2 (E fd (.own (sh.map PyData.int))) = .ok (.int k, E fd (.own (sh.map PyData.int))) := rfl
    have v6 : eVar 6 (E fd (.own (sh.map PyData.int))) = .ok (.list (sh.map PyData.int), E fd (.val (.list (sh.map PyData.int)))) := rfl
    simp only [eOp, v2, v6, rb, hin])
  rw [show (sSeq (sSetO 6 (oLc (iEnumF (eVar 0)) shG (shT L) (eVar 7) [7, 8])) _) [.val (.tuple (book.map encO)), .val gl, .val (.int k), .own fd, .val (encQ g.1), .val (.tuple (g.2.map encP)), s6, .no, .no] = _ from seq_nx a2]
  cases z : idxI k sh with
  | none =>
    have hn : decide (k ∈ sh) = false := decide_eq_false (idxI_none z)
    rw [hn] at a3
    rw [if_ff a3]
    have e : told book k [g] = [] := by
      unfold told
      rw [show idxI k (shown g.1 0 book) = none from z]
      rfl
    rw [e, List.map_nil, List.append_nil]
    exact ⟨_, rfl⟩
  | some j =>
    obtain ⟨hm, hj⟩ := idxI_some z
    rw [decide_eq_true hm] at a3
    rw [if_tt a3]
    have e : told book k [g] = [(g.1, g.2.getD j (0, 0))] := by
      unfold told
      rw [show idxI k (shown g.1 0 book) = some j from z]
      rfl
    have hj2 : j < g.2.length := by rw [hgl]; exact hj
    have ix : idxF (.tuple (g.2.map encP)) (.int (j : Nat)) = .ok (encP (g.2.getD j (0, 0))) := by
      unfold idxF L2.atI
      dsimp only
      have : L2.ixN (g.2.map encP).length ((j : Nat) : Int) = some j := by
        unfold L2.ixN
        rw [List.length_map, if_pos (by omega), if_pos (by omega)]
        rfl
      rw [this]
      rw [show (some j).bind (fun n => (g.2.map encP)[n]?) = (g.2.map encP)[j]? from rfl, List.getElem?_map, List.getElem?_eq_getElem hj2, List.getD_eq_getElem?_getD, List.getElem?_eq_getElem hj2]
      rfl
    have ei : eIndex (eVar 6) (eVar 2) (E fd (.val (.list (sh.map PyData.int)))) = .ok (.int (j : Nat), E fd (.val (.list (sh.map PyData.int)))) := by
      unfold eIndex
      have v6 : eVar 6 (E fd (.val (.list (sh.map PyData.int)))) = .ok (.list (sh.map PyData.int), E fd (.val (.list (sh.map PyData.int)))) := rfl
      have v2 : eVar 2 (E fd (.val (.list (sh.map PyData.int)))) = .ok (.int k, E fd (.val (.list (sh.map PyData.int)))) := rfl
      rw [v6, rb]
      dsimp only
      rw [v2, rb]
      dsimp only
      rw [intsOf_map]
      dsimp only
      rw [z]
    have ev : eTup (aCons (eVar 4) (aCons (eOp idxF (eVar 5) (eIndex (eVar 6) (eVar 2))) aNil)) (E fd (.val (.list (sh.map PyData.int)))) = .ok (encT (g.1, g.2.getD j (0, 0)), E fd (.val (.list (sh.map PyData.int)))) := by
      have v4 : eVar 4 (E fd (.val (.list (sh.map PyData.int)))) = .ok (encQ g.1, E fd (.val (.list (sh.map PyData.int)))) := rfl
      have v5 : eVar 5 (E fd (.val (.list (sh.map PyData.int)))) = .ok (.tuple (g.2.map encP), E fd (.val (.list (sh.map PyData.int)))) := rfl
      simp only [eTup, aCons, aNil, eOp, v4, v5, ei, rb, ix, few2, List.length_cons, List.length_nil, Nat.zero_add, Nat.reduceAdd, decide_eq_true le2, if_true]
      rfl
    rw [e]
    exact ⟨_, app_ok (show (E fd (.val (.list (sh.map PyData.int))))[3]? = some (.own fd) from rfl) ev (show (E fd (.val (.list (sh.map PyData.int))))[3]? = some (.own fd) from rfl) (by omega)⟩
structure GlideOk (book : List (Option Rat)) (g : Rat × List (Rat × Rat)) : Prop where
  bd : Bd 1000 g.1
  len : g.2.length = (shown g.1 0 book).length
theorem told_cons (book : List (Option Rat)) (k : Int) (g : Rat × List (Rat × Rat)) (r : List (Rat × List (Rat × Rat))) : told book k (g :: r) = told book k [g] ++ told book k r := by
  cases z : idxI k (shown g.1 0 book) with
  | none =>
    have e1 : ∀ x, told book k (g :: x) = told book k x := fun x => by
      conv => lhs; unfold told
      rw [z]
    rw [e1, e1]
    rfl
  | some j =>
    have e1 : ∀ x, told book k (g :: x) = (g.1, g.2.getD j (0, 0)) :: told book k x := fun x => by
      conv => lhs; unfold told
      rw [z]
    rw [e1, e1]
    rfl
theorem spots_loop (hL : LessOk L) (gl : D) (book : List (Option Rat)) (k : Int) (hb : ∀ q, some q ∈ book → Bd 1000 q) (hbl : book.length ≤ 1000) : ∀ (gs : List (Rat × List (Rat × Rat))) (fd : List D) (s4 s5 s6 : Sl), (∀ g ∈ gs, GlideOk book g) → fd.length + gs.length ≤ 1000 →
    ∃ t4 t5 t6, forL (gT 2 (gsC (gN 4) (gsC (gN 5) gsN))) (sSeq (sSetO 6 (oLc (iEnumF (eVar 0)) shG (shT L) (eVar 7) [7, 8])) (sIf (tB1 (eOp (inF false) (eVar 2) (eVar 6))) (sApp 3 (eTup (aCons (eVar 4) (aCons (eOp idxF (eVar 5) (eIndex (eVar 6) (eVar 2))) aNil)))) sSkip)) (gs.map encG)
      [.val (.tuple (book.map encO)), .val gl, .val (.int k), .own fd, s4, s5, s6, .no, .no] = .ok (.nx, [.val (.tuple (book.map encO)), .val gl, .val (.int k), .own (fd ++ (told book k gs).map encT), t4, t5, t6, .no, .no])
  | [], fd, s4, s5, s6, _, _ => ⟨s4, s5, s6, by
    show Res.ok (Fl.nx, _) = _
    rw [show told book k [] = [] from rfl, List.map_nil, List.append_nil]⟩
  | g :: gs, fd, s4, s5, s6, h, hl => by
    rw [List.length_cons] at hl
    obtain ⟨s6', e1⟩ := spots_turn hL gl book k fd g s4 s5 s6 hb hbl (by omega) (h g List.mem_cons_self).bd (h g List.mem_cons_self).len
    have hlen : (told book k [g]).length ≤ 1 := told_len book k [g]
    obtain ⟨t4, t5, t6, e2⟩ := spots_loop hL gl book k hb hbl gs (fd ++ (told book k [g]).map encT) (.val (encQ g.1)) (.val (.tuple (g.2.map encP))) s6' (fun x hx => h x (List.mem_cons_of_mem _ hx)) (by rw [List.length_append, List.length_map]; omega)
    refine ⟨t4, t5, t6, ?_⟩
    rw [List.map_cons, forL_nx (show (gT 2 (gsC (gN 4) (gsC (gN 5) gsN))) (encG g) [.val (.tuple (book.map encO)), .val gl, .val (.int k), .own fd, s4, s5, s6, .no, .no] = some [.val (.tuple (book.map encO)), .val gl, .val (.int k), .own fd, .val (encQ g.1), .val (.tuple (g.2.map encP)), s6, .no, .no] from rfl) e1, e2, told_cons book k g gs, List.map_append, List.append_assoc]
theorem runD_ro {N : Nat} {f : SF} {ds es : List D} {ρ : En} (h : f (ini N ds) = .ok (.ro es, ρ)) : runD N f ds = .ok (.list es) := by
  unfold runD
  rw [h]
theorem spots_ok (hL : LessOk L) (book : List (Option Rat)) (k : Int) (gs : List (Rat × List (Rat × Rat))) (hb : ∀ q, some q ∈ book → Bd 1000 q) (hbl : book.length ≤ 1000) (hg : ∀ g ∈ gs, GlideOk book g) (hl : gs.length ≤ 1000) :
    runD 9 (m_spots L) [.tuple (book.map encO), .tuple (gs.map encG), .int k] = .ok (.list ((told book k gs).map encT)) := by
  obtain ⟨t4, t5, t6, e⟩ := spots_loop hL (.tuple (gs.map encG)) book k hb hbl gs [] .no .no .no hg (by simp; omega)
  refine runD_ro (ρ := [.val (.tuple (book.map encO)), .val (.tuple (gs.map encG)), .val (.int k), .own ((told book k gs).map encT), t4, t5, t6, .no, .no]) ?_
  show m_spots L [.val (.tuple (book.map encO)), .val (.tuple (gs.map encG)), .val (.int k), .no, .no, .no, .no, .no, .no] = _
  unfold m_spots
  rw [seq_nx (show sSetO 3 (oLst aNil) [.val (.tuple (book.map encO)), .val (.tuple (gs.map encG)), .val (.int k), .no, .no, .no, .no, .no, .no] = .ok (.nx, [.val (.tuple (book.map encO)), .val (.tuple (gs.map encG)), .val (.int k), .own [], .no, .no, .no, .no, .no]) from rfl)]
  rw [seq_nx (show sFor (iSeq (eVar 1)) _ _ [.val (.tuple (book.map encO)), .val (.tuple (gs.map encG)), .val (.int k), .own [], .no, .no, .no, .no, .no] = _ from (for_ok (show iSeq (eVar 1) [.val (.tuple (book.map encO)), .val (.tuple (gs.map encG)), .val (.int k), .own [], .no, .no, .no, .no, .no] = .ok (gs.map encG, [.val (.tuple (book.map encO)), .val (.tuple (gs.map encG)), .val (.int k), .own [], .no, .no, .no, .no, .no]) from rfl)).trans e)]
  rfl
end
theorem less1 : LessOk F_is_less := fun _ _ _ _ a b c => F_is_less_ok a b c
theorem less2 : LessOk F_law_less := fun _ _ _ _ a b c => F_law_less_ok a b c
theorem F_told_places_ok (book : List (Option Rat)) (k : Int) (gs : List (Rat × List (Rat × Rat))) (hb : ∀ q, some q ∈ book → Bd 1000 q) (hbl : book.length ≤ 1000) (hg : ∀ g ∈ gs, GlideOk book g) (hl : gs.length ≤ 1000) :
    F_told_places [.tuple (book.map encO), .tuple (gs.map encG), .int k] = .ok (.list ((told book k gs).map encT)) := spots_ok less1 book k gs hb hbl hg hl
theorem F_law_spots_ok (book : List (Option Rat)) (k : Int) (gs : List (Rat × List (Rat × Rat))) (hb : ∀ q, some q ∈ book → Bd 1000 q) (hbl : book.length ≤ 1000) (hg : ∀ g ∈ gs, GlideOk book g) (hl : gs.length ≤ 1000) :
    F_law_spots [.tuple (book.map encO), .tuple (gs.map encG), .int k] = .ok (.list ((told book k gs).map encT)) := spots_ok less2 book k gs hb hbl hg hl
end GN

set_option Elab.async false
set_option linter.all false
set_option maxRecDepth 100000
set_option maxHeartbeats 8000000
/-! M6: between two scales. -/
namespace GN
open PySem
theorem num_le (q : Rat) : decide (q.num ≤ (0 : Int)) = decide (q ≤ 0) := by
  have h : q ≤ (0 : Rat) ↔ q.num ≤ 0 := by
    rw [Rat.le_iff]
    show q.num * ((1 : Nat) : Int) ≤ (0 : Int) * _ ↔ _
    omega
  by_cases c : q ≤ 0
  · rw [decide_eq_true c, decide_eq_true (h.mp c)]
  · rw [decide_eq_false c, decide_eq_false fun z => c (h.mpr z)]
theorem div_eq3 (a w m : Rat) : Rat.divInt (a.num * w.num * (m.den : Int)) ((a.den : Int) * (w.den : Int) * m.num) = a * w / m := by
  rw [Rat.div_def, Rat.inv_def]
  conv => rhs; rw [← Rat.num_divInt_den a, ← Rat.num_divInt_den w]
  rw [Rat.divInt_mul_divInt, Rat.divInt_mul_divInt]
theorem div_eq2 (a m : Rat) : Rat.divInt (a.num * (m.den : Int)) ((a.den : Int) * m.num) = a / m := by
  rw [Rat.div_def, Rat.inv_def]
  conv => rhs; rw [← Rat.num_divInt_den a]
  rw [Rat.divInt_mul_divInt]
theorem num_ne {q : Rat} (h : q ≠ 0) : q.num ≠ 0 := fun z => h (by
  have := Rat.num_divInt_den q
  rw [z, Rat.divInt_eq_div] at this
  rw [← this]
  grind)
theorem Bd.div {n m : Nat} {p q : Rat} (h1 : Bd n p) (h2 : Bd m q) (hq : q ≠ 0) : Bd (n + m) (p / q) := by
  rw [← div_eq2]
  refine divInt_bd (Int.mul_ne_zero (den_ne p) (num_ne hq)) ?_ ?_
  · rw [Int.natAbs_mul, Int.natAbs_natCast]
    exact mul_pow h1.num h2.den
  · rw [Int.natAbs_mul, Int.natAbs_natCast]
    exact mul_pow h1.den h2.num
section
variable {n m : Nat} {p q : Rat}
theorem F_over_ok (h1 : Bd n p) (h2 : Bd m q) (hq : q ≠ 0) (hn : n + m ≤ 4000) : F_over [encQ p, encQ q] = .ok (encQ (p / q)) := by
  have a1 := mulF_sml (h1.num_sml (by omega)) (h2.den_sml (by omega))
  have a3 := mulF_sml (h1.den_sml (by omega)) (h2.num_sml (by omega))
  have hs : sml ((p.den : Int) * q.num) = true := sml_of (n := n + m) (by rw [Int.natAbs_mul, Int.natAbs_natCast]; exact mul_pow h1.den h2.num) hn
  have a4 := F_fraction_ok (a := p.num * (q.den : Int)) (Int.mul_ne_zero (den_ne p) (num_ne hq)) hs
  rw [div_eq2] at a4
  refine runD_rt (ρ := [.val (encQ p), .val (encQ q)]) ?_
  show m_over [.val (encQ p), .val (encQ q)] = _
  unfold m_over
  have t0 : tB1 (eOp eqF (eOp idxF (eVar 1) (eC (.int 0))) (eC (.int 0))) [.val (encQ p), .val (encQ q)] = .ok (false, [.val (encQ p), .val (encQ q)]) := tb_ok (by
    simp only [eFn, eOp, eVar, eC, aCons, aNil, eTup, eLst, rb, List.getElem?_cons_zero, List.getElem?_cons_succ, List.length_cons, List.length_nil, Nat.zero_add, Nat.reduceAdd, few2, if_true, eq_self, ite_true, reduceIte, List.set_cons_zero, List.set_cons_succ, idx0, eqF_int, decide_eq_false (num_ne hq)])
  rw [seq_nx (if_ff t0)]
  refine ret_ok ?_
  simp only [eFn, eOp, eVar, eC, aCons, aNil, eTup, eLst, rb, List.getElem?_cons_zero, List.getElem?_cons_succ, List.length_cons, List.length_nil, Nat.zero_add, Nat.reduceAdd, few2, if_true, eq_self, ite_true, reduceIte, List.set_cons_zero, List.set_cons_succ, idx0, idx1, a1, a3, a4]
end
def turnQ (low high x y : Rat) : Rat := low - x * (high - low) / (y - x)
theorem turn_eq (low high x y : Rat) (h : y - x ≠ 0) : low + (0 - x) / (y - x) * (high - low) = turnQ low high x y := by
  unfold turnQ
  rw [Rat.div_def, Rat.div_def]
  grind
section
variable {low high x y : Rat}
theorem F_straight_ok (hl : Bd 100 low) (hh : Bd 100 high) (hx : Bd 400 x) (hy : Bd 400 y) (h : y - x ≠ 0) : F_straight [encQ x, encQ y, .tuple [.int 0, .int 1], encQ low, encQ high] = .ok (encQ (turnQ low high x y)) := by
  have z0 : encQ 0 = .tuple [.int 0, .int 1] := rfl
  have b0 : Bd 1 (0 : Rat) := ⟨by decide, by decide⟩
  have a1 := F_minus_ok b0 hx (by decide)
  have a2 := F_minus_ok hy hx (by decide)
  have a3 := F_over_ok (b0.sub hx) (hy.sub hx) h (by decide)
  have a4 := F_minus_ok hh hl (by decide)
  have a5 := F_times_ok ((b0.sub hx).div (hy.sub hx) h) (hh.sub hl) (by decide)
  have a6 := F_plus_ok hl (((b0.sub hx).div (hy.sub hx) h).mul (hh.sub hl)) (by decide)
  rw [turn_eq low high x y h] at a6
  rw [← z0]
  refine runD_rt (ρ := [.val (encQ x), .val (encQ y), .val (encQ 0), .val (encQ low), .val (encQ high), .val (encQ ((0 - x) / (y - x)))]) ?_
  show m_straight [.val (encQ x), .val (encQ y), .val (encQ 0), .val (encQ low), .val (encQ high), .no] = _
  unfold m_straight
  have s1 : sSet 5 (eFn 2 F_over (aCons (eFn 2 F_minus (aCons (eVar 2) (aCons (eVar 0) aNil))) (aCons (eFn 2 F_minus (aCons (eVar 1) (aCons (eVar 0) aNil))) aNil))) [.val (encQ x), .val (encQ y), .val (encQ 0), .val (encQ low), .val (encQ high), .no] = .ok (.nx, [.val (encQ x), .val (encQ y), .val (encQ 0), .val (encQ low), .val (encQ high), .val (encQ ((0 - x) / (y - x)))]) :=
    set_ok (ρ1 := [.val (encQ x), .val (encQ y), .val (encQ 0), .val (encQ low), .val (encQ high), .no]) (by
      simp only [eFn, eOp, eVar, eC, aCons, aNil, eTup, eLst, rb, List.getElem?_cons_zero, List.getElem?_cons_succ, List.length_cons, List.length_nil, Nat.zero_add, Nat.reduceAdd, few2, if_true, eq_self, ite_true, reduceIte, List.set_cons_zero, List.set_cons_succ, a1, a2, a3])
  rw [seq_nx s1]
  refine ret_ok ?_
  simp only [eFn, eOp, eVar, eC, aCons, aNil, eTup, eLst, rb, List.getElem?_cons_zero, List.getElem?_cons_succ, List.length_cons, List.length_nil, Nat.zero_add, Nat.reduceAdd, few2, if_true, eq_self, ite_true, reduceIte, List.set_cons_zero, List.set_cons_succ, a4, a5, a6]
theorem F_law_turn_ok (hl : Bd 100 low) (hh : Bd 100 high) (hx : Bd 400 x) (hy : Bd 400 y) (h : y - x ≠ 0) : F_law_turn [encQ low, encQ high, encQ x, encQ y] = .ok (encQ (turnQ low high x y)) := by
  have w := hh.sub hl
  have v := hy.sub hx
  have a1 := F_law_minus_ok hh hl (by decide)
  have a2 := F_law_minus_ok hy hx (by decide)
  have m1 := mulF_sml (hx.num_sml (by decide)) (w.num_sml (by decide))
  have m2 := mulF_sml (i := x.num * (high - low).num) (j := ((y - x).den : Int)) (sml_of (n := 400 + (100 + 100 + 1)) (by rw [Int.natAbs_mul]; exact mul_pow hx.num w.num) (by decide)) (v.den_sml (by decide))
  have m3 := mulF_sml (hx.den_sml (by decide)) (w.den_sml (by decide))
  have m4 := mulF_sml (i := (x.den : Int) * ((high - low).den : Int)) (j := (y - x).num) (sml_of (n := 400 + (100 + 100 + 1)) (by rw [Int.natAbs_mul, Int.natAbs_natCast, Int.natAbs_natCast]; exact mul_pow hx.den w.den) (by decide)) (v.num_sml (by decide))
  have hs : sml ((x.den : Int) * ((high - low).den : Int) * (y - x).num) = true := sml_of (n := 400 + (100 + 100 + 1) + (400 + 400 + 1)) (by
    rw [Int.natAbs_mul, Int.natAbs_mul, Int.natAbs_natCast, Int.natAbs_natCast]
    exact mul_pow (mul_pow hx.den w.den) v.num) (by decide)
  have a3 := F_law_part_ok (a := x.num * (high - low).num * ((y - x).den : Int)) (Int.mul_ne_zero (Int.mul_ne_zero (den_ne x) (den_ne (high - low))) (num_ne h)) hs
  rw [div_eq3] at a3
  have a4 := F_law_minus_ok hl ((hx.mul w).div v h) (by decide)
  refine runD_rt (ρ := [.val (encQ low), .val (encQ high), .val (encQ x), .val (encQ y), .val (encQ (high - low)), .val (encQ (y - x))]) ?_
  show m_law_turn [.val (encQ low), .val (encQ high), .val (encQ x), .val (encQ y), .no, .no] = _
  unfold m_law_turn
  have s1 : sTup [4, 5] (csC (cV (eFn 2 F_law_minus (aCons (eVar 1) (aCons (eVar 0) aNil)))) (csC (cV (eFn 2 F_law_minus (aCons (eVar 3) (aCons (eVar 2) aNil)))) csN)) [.val (encQ low), .val (encQ high), .val (encQ x), .val (encQ y), .no, .no] = .ok (.nx, [.val (encQ low), .val (encQ high), .val (encQ x), .val (encQ y), .val (encQ (high - low)), .val (encQ (y - x))]) := by
    simp only [eFn, eOp, eVar, eC, aCons, aNil, eTup, eLst, rb, List.getElem?_cons_zero, List.getElem?_cons_succ, List.length_cons, List.length_nil, Nat.zero_add, Nat.reduceAdd, few2, if_true, eq_self, ite_true, reduceIte, List.set_cons_zero, List.set_cons_succ, sTup, csC, cV, csN, setSs, a1, a2]
  rw [seq_nx s1]
  refine ret_ok ?_
  simp only [eFn, eOp, eVar, eC, aCons, aNil, eTup, eLst, rb, List.getElem?_cons_zero, List.getElem?_cons_succ, List.length_cons, List.length_nil, Nat.zero_add, Nat.reduceAdd, few2, if_true, eq_self, ite_true, reduceIte, List.set_cons_zero, List.set_cons_succ, idx0, idx1, m1, m2, m3, m4, a3, a4]
  rfl
theorem turn_bd (hl : Bd 100 low) (hh : Bd 100 high) (hx : Bd 400 x) (hy : Bd 400 y) (h : y - x ≠ 0) : Bd 1600 (turnQ low high x y) := (hl.sub ((hx.mul (hh.sub hl)).div (hy.sub hx) h)).mono (by decide)
end
/-! ### least, greatest of two -/
theorem F_least_ok {x y : Rat} (hx : Bd 1600 x) (hy : Bd 1600 y) : F_least [.list [encQ x, encQ y]] = .ok (encQ (if y < x then y else x)) := by
  have l1 := F_is_less_ok hx hx (by decide)
  have l2 := F_is_less_ok hy hx (by decide)
  have n1 : decide (x < x) = false := decide_eq_false (by grind)
  rw [n1] at l1
  let E : Sl → Sl → En := fun a b => [.val (.list [encQ x, encQ y]), a, b]
  have t1 : sSet 1 (eIf (tB1 (eFn 2 F_is_less (aCons (eVar 2) (aCons (eVar 1) aNil)))) (eVar 2) (eVar 1)) (E (.val (encQ x)) (.val (encQ x))) = .ok (.nx, E (.val (encQ x)) (.val (encQ x))) := set_ok (ρ1 := E (.val (encQ x)) (.val (encQ x))) (by
    simp only [eFn, eOp, eVar, eC, aCons, aNil, eTup, eLst, rb, List.getElem?_cons_zero, List.getElem?_cons_succ, List.length_cons, List.length_nil, Nat.zero_add, Nat.reduceAdd, few2, if_true, eq_self, ite_true, reduceIte, List.set_cons_zero, List.set_cons_succ, eIf, tB1, E, l1]
    rfl)
  have t2 : sSet 1 (eIf (tB1 (eFn 2 F_is_less (aCons (eVar 2) (aCons (eVar 1) aNil)))) (eVar 2) (eVar 1)) (E (.val (encQ x)) (.val (encQ y))) = .ok (.nx, E (.val (encQ (if y < x then y else x))) (.val (encQ y))) := set_ok (ρ1 := E (.val (encQ x)) (.val (encQ y))) (d := encQ (if y < x then y else x)) (by
    simp only [eFn, eOp, eVar, eC, aCons, aNil, eTup, eLst, rb, List.getElem?_cons_zero, List.getElem?_cons_succ, List.length_cons, List.length_nil, Nat.zero_add, Nat.reduceAdd, few2, if_true, eq_self, ite_true, reduceIte, List.set_cons_zero, List.set_cons_succ, eIf, tB1, E, l2]
    by_cases c : y < x
    · rw [decide_eq_true c, if_pos c]
      rfl
    · rw [decide_eq_false c, if_neg c]
      rfl)
  refine runD_rt (ρ := E (.val (encQ (if y < x then y else x))) (.val (encQ y))) ?_
  show m_least (E .no .no) = _
  unfold m_least
  have s0 : sIf (tB1 (eOp eqF (eCall lenF (aCons (eVar 0) aNil)) (eC (.int 0)))) sBad sSkip (E .no .no) = .ok (.nx, E .no .no) := rfl
  have s1 : sSet 1 (eOp idxF (eVar 0) (eC (.int 0))) (E .no .no) = .ok (.nx, E (.val (encQ x)) .no) := rfl
  have s2 : sFor (iSeq (eVar 0)) (gN 2) (sSet 1 (eIf (tB1 (eFn 2 F_is_less (aCons (eVar 2) (aCons (eVar 1) aNil)))) (eVar 2) (eVar 1))) (E (.val (encQ x)) .no) = .ok (.nx, E (.val (encQ (if y < x then y else x))) (.val (encQ y))) := by
    refine (for_ok (show iSeq (eVar 0) (E (.val (encQ x)) .no) = .ok ([encQ x, encQ y], E (.val (encQ x)) .no) from rfl)).trans ?_
    refine (forL_nx (show gN 2 (encQ x) (E (.val (encQ x)) .no) = some (E (.val (encQ x)) (.val (encQ x))) from rfl) t1).trans ?_
    refine (forL_nx (show gN 2 (encQ y) (E (.val (encQ x)) (.val (encQ x))) = some (E (.val (encQ x)) (.val (encQ y))) from rfl) t2).trans ?_
    rfl
  rw [seq_nx s0, seq_nx s1, seq_nx s2]
  rfl
theorem F_greatest_ok {x y : Rat} (hx : Bd 1600 x) (hy : Bd 1600 y) : F_greatest [.list [encQ x, encQ y]] = .ok (encQ (if x < y then y else x)) := by
  have l1 := F_is_less_ok hx hx (by decide)
  have l2 := F_is_less_ok hx hy (by decide)
  have n1 : decide (x < x) = false := decide_eq_false (by grind)
  rw [n1] at l1
  let E : Sl → Sl → En := fun a b => [.val (.list [encQ x, encQ y]), a, b]
  have t1 : sSet 1 (eIf (tB1 (eFn 2 F_is_less (aCons (eVar 1) (aCons (eVar 2) aNil)))) (eVar 2) (eVar 1)) (E (.val (encQ x)) (.val (encQ x))) = .ok (.nx, E (.val (encQ x)) (.val (encQ x))) := set_ok (ρ1 := E (.val (encQ x)) (.val (encQ x))) (by
    simp only [eFn, eOp, eVar, eC, aCons, aNil, eTup, eLst, rb, List.getElem?_cons_zero, List.getElem?_cons_succ, List.length_cons, List.length_nil, Nat.zero_add, Nat.reduceAdd, few2, if_true, eq_self, ite_true, reduceIte, List.set_cons_zero, List.set_cons_succ, eIf, tB1, E, l1]
    rfl)
  have t2 : sSet 1 (eIf (tB1 (eFn 2 F_is_less (aCons (eVar 1) (aCons (eVar 2) aNil)))) (eVar 2) (eVar 1)) (E (.val (encQ x)) (.val (encQ y))) = .ok (.nx, E (.val (encQ (if x < y then y else x))) (.val (encQ y))) := set_ok (ρ1 := E (.val (encQ x)) (.val (encQ y))) (d := encQ (if x < y then y else x)) (by
    simp only [eFn, eOp, eVar, eC, aCons, aNil, eTup, eLst, rb, List.getElem?_cons_zero, List.getElem?_cons_succ, List.length_cons, List.length_nil, Nat.zero_add, Nat.reduceAdd, few2, if_true, eq_self, ite_true, reduceIte, List.set_cons_zero, List.set_cons_succ, eIf, tB1, E, l2]
    by_cases c : x < y
    · rw [decide_eq_true c, if_pos c]
      rfl
    · rw [decide_eq_false c, if_neg c]
      rfl)
  refine runD_rt (ρ := E (.val (encQ (if x < y then y else x))) (.val (encQ y))) ?_
  show m_greatest (E .no .no) = _
  unfold m_greatest
  have s0 : sIf (tB1 (eOp eqF (eCall lenF (aCons (eVar 0) aNil)) (eC (.int 0)))) sBad sSkip (E .no .no) = .ok (.nx, E .no .no) := rfl
  have s1 : sSet 1 (eOp idxF (eVar 0) (eC (.int 0))) (E .no .no) = .ok (.nx, E (.val (encQ x)) .no) := rfl
  have s2 : sFor (iSeq (eVar 0)) (gN 2) (sSet 1 (eIf (tB1 (eFn 2 F_is_less (aCons (eVar 1) (aCons (eVar 2) aNil)))) (eVar 2) (eVar 1))) (E (.val (encQ x)) .no) = .ok (.nx, E (.val (encQ (if x < y then y else x))) (.val (encQ y))) := by
    refine (for_ok (show iSeq (eVar 0) (E (.val (encQ x)) .no) = .ok ([encQ x, encQ y], E (.val (encQ x)) .no) from rfl)).trans ?_
    refine (forL_nx (show gN 2 (encQ x) (E (.val (encQ x)) .no) = some (E (.val (encQ x)) (.val (encQ x))) from rfl) t1).trans ?_
    refine (forL_nx (show gN 2 (encQ y) (E (.val (encQ x)) (.val (encQ x))) = some (E (.val (encQ x)) (.val (encQ y))) from rfl) t2).trans ?_
    rfl
  rw [seq_nx s0, seq_nx s1, seq_nx s2]
  rfl
end GN

set_option Elab.async false
set_option linter.all false
set_option maxRecDepth 100000
set_option maxHeartbeats 8000000
/-! M7: the range within a segment, by both. -/
namespace GN
open PySem
def segL (low high : Rat) : List (Rat × Rat) → Rat → Rat → Option (Rat × Rat)
  | [], b, e => some (b, e)
  | p :: r, b, e => if p.1 ≤ 0 ∧ p.2 ≤ 0 then none else if 0 < p.1 ∧ 0 < p.2 then segL low high r b e
    else if 0 < p.1 then segL low high r b (if turnQ low high p.1 p.2 < e then turnQ low high p.1 p.2 else e)
    else segL low high r (if b < turnQ low high p.1 p.2 then turnQ low high p.1 p.2 else b) e
def segQ (low high : Rat) (ps : List (Rat × Rat)) : Option (Rat × Rat) := match segL low high ps low high with
  | none => none
  | some q => if q.1 < q.2 then some q else none
def encS : Option (Rat × Rat) → D
  | none => .none
  | some q => encP q
structure GapOk (p : Rat × Rat) : Prop where
  bx : Bd 400 p.1
  bY : Bd 400 p.2
theorem sub_ne {x y : Rat} (h1 : ¬ (x ≤ 0 ∧ y ≤ 0)) (h2 : ¬ (0 < x ∧ 0 < y)) : y - x ≠ 0 := by
  intro h
  grind
theorem ite_bd {c : Prop} [Decidable c] {n : Nat} {x y : Rat} (h1 : Bd n x) (h2 : Bd n y) : Bd n (if c then x else y) := by
  by_cases h : c
  · rw [if_pos h]; exact h1
  · rw [if_neg h]; exact h2
theorem segL_bd {low high : Rat} (hl : Bd 100 low) (hh : Bd 100 high) : ∀ (ps : List (Rat × Rat)) (b e : Rat), Bd 1600 b → Bd 1600 e → (∀ p ∈ ps, GapOk p) → ∀ q, segL low high ps b e = some q → Bd 1600 q.1 ∧ Bd 1600 q.2
  | [], b, e, hb, he, _, q, h => by
    cases h
    exact ⟨hb, he⟩
  | p :: r, b, e, hb, he, hp, q, h => by
    have hr : ∀ x ∈ r, GapOk x := fun x hx => hp x (List.mem_cons_of_mem _ hx)
    have p0 := hp p List.mem_cons_self
    unfold segL at h
    split at h
    · cases h
    · rename_i c1
      split at h
      · exact segL_bd hl hh r b e hb he hr q h
      · rename_i c2
        have ht := turn_bd hl hh p0.bx p0.bY (sub_ne c1 c2)
        split at h
        · exact segL_bd hl hh r b _ hb (ite_bd ht he) hr q h
        · exact segL_bd hl hh r _ e (ite_bd ht hb) he hr q h
abbrev segG : GF := gT 2 (gsC (gN 6) (gsC (gN 7) gsN))
abbrev segT : TF := tAnd2 (tB1 (eOp leI (eOp idxF (eVar 6) (eC (.int 0))) (eC (.int 0)))) (tB1 (eOp leI (eOp idxF (eVar 7) (eC (.int 0))) (eC (.int 0))))
abbrev segU : TF := tAnd2 (tB1 (eOp gtI (eOp idxF (eVar 6) (eC (.int 0))) (eC (.int 0)))) (tB1 (eOp gtI (eOp idxF (eVar 7) (eC (.int 0))) (eC (.int 0))))
abbrev psB : SF := (sSeq (sIf segT (sRet (eC .none)) sSkip) (sSeq (sIf segU sCt sSkip) (sSeq (sSet 8 (eFn 5 F_straight (aCons (eVar 6) (aCons (eVar 7) (aCons (eTup (aCons (eC (.int 0)) (aCons (eC (.int 1)) aNil))) (aCons (eVar 0) (aCons (eVar 1) aNil))))))) (sIf (tB1 (eOp gtI (eOp idxF (eVar 6) (eC (.int 0))) (eC (.int 0)))) (sSet 5 (eFn 1 F_least (aCons (eLst (aCons (eVar 5) (aCons (eVar 8) aNil))) aNil))) (sSet 4 (eFn 1 F_greatest (aCons (eLst (aCons (eVar 4) (aCons (eVar 8) aNil))) aNil)))))))
abbrev lrB : SF := (sSeq (sIf segT (sRet (eC .none)) sSkip) (sIf (tB1 (eOp leI (eOp idxF (eVar 6) (eC (.int 0))) (eC (.int 0)))) (sSeq (sSet 8 (eFn 4 F_law_turn (aCons (eVar 0) (aCons (eVar 1) (aCons (eVar 6) (aCons (eVar 7) aNil)))))) (sSet 4 (eIf (tB1 (eFn 2 F_law_less (aCons (eVar 4) (aCons (eVar 8) aNil)))) (eVar 8) (eVar 4)))) (sIf (tB1 (eOp leI (eOp idxF (eVar 7) (eC (.int 0))) (eC (.int 0)))) (sSeq (sSet 8 (eFn 4 F_law_turn (aCons (eVar 0) (aCons (eVar 1) (aCons (eVar 6) (aCons (eVar 7) aNil)))))) (sSet 5 (eIf (tB1 (eFn 2 F_law_less (aCons (eVar 8) (aCons (eVar 5) aNil)))) (eVar 8) (eVar 5)))) sSkip)))
abbrev segE (low high : Rat) (f1 f2 : D) (b e : Rat) (s6 s7 s8 : Sl) : En := [.val (encQ low), .val (encQ high), .val f1, .val f2, .val (encQ b), .val (encQ e), s6, s7, s8]
section
variable {low high : Rat} {f1 f2 : D} {b e x y : Rat} {s8 : Sl}
theorem le_t (i : Nat) {q : Rat} {ρ : En} (h : ρ[i]? = some (.val (encQ q))) : tB1 (eOp leI (eOp idxF (eVar i) (eC (.int 0))) (eC (.int 0))) ρ = .ok (decide (q ≤ 0), ρ) := tb_ok (by
  have v : eVar i ρ = .ok (encQ q, ρ) := by unfold eVar; rw [h]
  simp only [eOp, v, rb, eC, idx0, leI_int, num_le])
theorem gt_t (i : Nat) {q : Rat} {ρ : En} (h : ρ[i]? = some (.val (encQ q))) : tB1 (eOp gtI (eOp idxF (eVar i) (eC (.int 0))) (eC (.int 0))) ρ = .ok (decide (0 < q), ρ) := tb_ok (by
  have v : eVar i ρ = .ok (encQ q, ρ) := by unfold eVar; rw [h]
  simp only [eOp, v, rb, eC, idx0, gtI_int, num_pos])
theorem and_t {f g : TF} {ρ : En} {p q : Bool} (h1 : f ρ = .ok (p, ρ)) (h2 : g ρ = .ok (q, ρ)) : tAnd2 f g ρ = .ok (p && q, ρ) := by
  unfold tAnd2
  rw [h1, rb]
  cases p with
  | true => rw [if_pos rfl, h2]; rfl
  | false => rfl
theorem dec_and (p q : Prop) [Decidable p] [Decidable q] : (decide p && decide q) = decide (p ∧ q) := by
  by_cases h1 : p
  · by_cases h2 : q
    · simp [h1, h2]
    · simp [h1, h2]
  · simp [h1]
theorem seg_tt : segT (segE low high f1 f2 b e (.val (encQ x)) (.val (encQ y)) s8) = .ok (decide (x ≤ 0 ∧ y ≤ 0), segE low high f1 f2 b e (.val (encQ x)) (.val (encQ y)) s8) := by
  rw [← dec_and]
  exact and_t (le_t 6 rfl) (le_t 7 rfl)
theorem seg_uu : segU (segE low high f1 f2 b e (.val (encQ x)) (.val (encQ y)) s8) = .ok (decide (0 < x ∧ 0 < y), segE low high f1 f2 b e (.val (encQ x)) (.val (encQ y)) s8) := by
  rw [← dec_and]
  exact and_t (gt_t 6 rfl) (gt_t 7 rfl)
theorem ps_none (h : x ≤ 0 ∧ y ≤ 0) : psB (segE low high f1 f2 b e (.val (encQ x)) (.val (encQ y)) s8) = .ok (.rt .none, segE low high f1 f2 b e (.val (encQ x)) (.val (encQ y)) s8) := by
  have t := seg_tt (low := low) (high := high) (f1 := f1) (f2 := f2) (b := b) (e := e) (x := x) (y := y) (s8 := s8)
  rw [decide_eq_true h] at t
  exact seq_rt (by rw [if_tt t]; rfl)
theorem ps_ctn (h : ¬ (x ≤ 0 ∧ y ≤ 0)) (h2 : 0 < x ∧ 0 < y) : psB (segE low high f1 f2 b e (.val (encQ x)) (.val (encQ y)) s8) = .ok (.ct, segE low high f1 f2 b e (.val (encQ x)) (.val (encQ y)) s8) := by
  have t := seg_tt (low := low) (high := high) (f1 := f1) (f2 := f2) (b := b) (e := e) (x := x) (y := y) (s8 := s8)
  have u := seg_uu (low := low) (high := high) (f1 := f1) (f2 := f2) (b := b) (e := e) (x := x) (y := y) (s8 := s8)
  rw [decide_eq_false h] at t
  rw [decide_eq_true h2] at u
  unfold psB
  rw [seq_nx (show sIf segT (sRet (eC .none)) sSkip (segE low high f1 f2 b e (.val (encQ x)) (.val (encQ y)) s8) = .ok (.nx, _) from by rw [if_ff t]; rfl)]
  exact seq_ct (by rw [if_tt u]; rfl)
theorem ps_turn (hl : Bd 100 low) (hh : Bd 100 high) (hx : Bd 400 x) (hy : Bd 400 y) (hb : Bd 1600 b) (he : Bd 1600 e) (h : ¬ (x ≤ 0 ∧ y ≤ 0)) (h2 : ¬ (0 < x ∧ 0 < y)) :
    psB (segE low high f1 f2 b e (.val (encQ x)) (.val (encQ y)) s8) = .ok (.nx, if 0 < x then segE low high f1 f2 b (if turnQ low high x y < e then turnQ low high x y else e) (.val (encQ x)) (.val (encQ y)) (.val (encQ (turnQ low high x y)))
      else segE low high f1 f2 (if b < turnQ low high x y then turnQ low high x y else b) e (.val (encQ x)) (.val (encQ y)) (.val (encQ (turnQ low high x y)))) := by
  have t := seg_tt (low := low) (high := high) (f1 := f1) (f2 := f2) (b := b) (e := e) (x := x) (y := y) (s8 := s8)
  have u := seg_uu (low := low) (high := high) (f1 := f1) (f2 := f2) (b := b) (e := e) (x := x) (y := y) (s8 := s8)
  rw [decide_eq_false h] at t
  rw [decide_eq_false h2] at u
  have st := F_straight_ok hl hh hx hy (sub_ne h h2)
  have ht := turn_bd hl hh hx hy (sub_ne h h2)
  unfold psB
  rw [seq_nx (show sIf segT (sRet (eC .none)) sSkip (segE low high f1 f2 b e (.val (encQ x)) (.val (encQ y)) s8) = .ok (.nx, segE low high f1 f2 b e (.val (encQ x)) (.val (encQ y)) s8) from by rw [if_ff t]; rfl)]
  rw [seq_nx (show sIf segU sCt sSkip (segE low high f1 f2 b e (.val (encQ x)) (.val (encQ y)) s8) = .ok (.nx, segE low high f1 f2 b e (.val (encQ x)) (.val (encQ y)) s8) from by rw [if_ff u]; rfl)]
  have s1 : sSet 8 (eFn 5 F_straight (aCons (eVar 6) (aCons (eVar 7) (aCons (eTup (aCons (eC (.int 0)) (aCons (eC (.int 1)) aNil))) (aCons (eVar 0) (aCons (eVar 1) aNil)))))) (segE low high f1 f2 b e (.val (encQ x)) (.val (encQ y)) s8) = .ok (.nx, segE low high f1 f2 b e (.val (encQ x)) (.val (encQ y)) (.val (encQ (turnQ low high x y)))) := set_ok (ρ1 := segE low high f1 f2 b e (.val (encQ x)) (.val (encQ y)) s8) (by
    simp only [eFn, eOp, eVar, eC, aCons, aNil, eTup, eLst, rb, List.getElem?_cons_zero, List.getElem?_cons_succ, List.length_cons, List.length_nil, Nat.zero_add, Nat.reduceAdd, few2, if_true, eq_self, ite_true, reduceIte, List.set_cons_zero, List.set_cons_succ, decide_eq_true le2, st])
  rw [seq_nx s1]
  have g6 := gt_t 6 (q := x) (ρ := segE low high f1 f2 b e (.val (encQ x)) (.val (encQ y)) (.val (encQ (turnQ low high x y)))) rfl
  by_cases c : 0 < x
  · rw [decide_eq_true c] at g6
    rw [if_tt g6, if_pos c]
    have l := F_least_ok he ht
    exact set_ok (ρ1 := segE low high f1 f2 b e (.val (encQ x)) (.val (encQ y)) (.val (encQ (turnQ low high x y)))) (by
      simp only [eFn, eOp, eVar, eC, aCons, aNil, eTup, eLst, rb, List.getElem?_cons_zero, List.getElem?_cons_succ, List.length_cons, List.length_nil, Nat.zero_add, Nat.reduceAdd, few2, if_true, eq_self, ite_true, reduceIte, List.set_cons_zero, List.set_cons_succ, decide_eq_true le2, l])
  · rw [decide_eq_false c] at g6
    rw [if_ff g6, if_neg c]
    have l := F_greatest_ok hb ht
    exact set_ok (ρ1 := segE low high f1 f2 b e (.val (encQ x)) (.val (encQ y)) (.val (encQ (turnQ low high x y)))) (by
      simp only [eFn, eOp, eVar, eC, aCons, aNil, eTup, eLst, rb, List.getElem?_cons_zero, List.getElem?_cons_succ, List.length_cons, List.length_nil, Nat.zero_add, Nat.reduceAdd, few2, if_true, eq_self, ite_true, reduceIte, List.set_cons_zero, List.set_cons_succ, decide_eq_true le2, l])
theorem lr_none (h : x ≤ 0 ∧ y ≤ 0) : lrB (segE low high f1 f2 b e (.val (encQ x)) (.val (encQ y)) s8) = .ok (.rt .none, segE low high f1 f2 b e (.val (encQ x)) (.val (encQ y)) s8) := by
  have t := seg_tt (low := low) (high := high) (f1 := f1) (f2 := f2) (b := b) (e := e) (x := x) (y := y) (s8 := s8)
  rw [decide_eq_true h] at t
  exact seq_rt (by rw [if_tt t]; rfl)
theorem lr_pos (h : ¬ (x ≤ 0 ∧ y ≤ 0)) (h2 : 0 < x ∧ 0 < y) : lrB (segE low high f1 f2 b e (.val (encQ x)) (.val (encQ y)) s8) = .ok (.nx, segE low high f1 f2 b e (.val (encQ x)) (.val (encQ y)) s8) := by
  have t := seg_tt (low := low) (high := high) (f1 := f1) (f2 := f2) (b := b) (e := e) (x := x) (y := y) (s8 := s8)
  rw [decide_eq_false h] at t
  have l6 := le_t 6 (q := x) (ρ := segE low high f1 f2 b e (.val (encQ x)) (.val (encQ y)) s8) rfl
  have l7 := le_t 7 (q := y) (ρ := segE low high f1 f2 b e (.val (encQ x)) (.val (encQ y)) s8) rfl
  rw [decide_eq_false (show ¬ x ≤ 0 by grind)] at l6
  rw [decide_eq_false (show ¬ y ≤ 0 by grind)] at l7
  unfold lrB
  rw [seq_nx (show sIf segT (sRet (eC .none)) sSkip (segE low high f1 f2 b e (.val (encQ x)) (.val (encQ y)) s8) = .ok (.nx, segE low high f1 f2 b e (.val (encQ x)) (.val (encQ y)) s8) from by rw [if_ff t]; rfl), if_ff l6, if_ff l7]
  rfl
theorem lr_turn (hl : Bd 100 low) (hh : Bd 100 high) (hx : Bd 400 x) (hy : Bd 400 y) (hb : Bd 1600 b) (he : Bd 1600 e) (h : ¬ (x ≤ 0 ∧ y ≤ 0)) (h2 : ¬ (0 < x ∧ 0 < y)) :
    lrB (segE low high f1 f2 b e (.val (encQ x)) (.val (encQ y)) s8) = .ok (.nx, if 0 < x then segE low high f1 f2 b (if turnQ low high x y < e then turnQ low high x y else e) (.val (encQ x)) (.val (encQ y)) (.val (encQ (turnQ low high x y)))
      else segE low high f1 f2 (if b < turnQ low high x y then turnQ low high x y else b) e (.val (encQ x)) (.val (encQ y)) (.val (encQ (turnQ low high x y)))) := by
  have t := seg_tt (low := low) (high := high) (f1 := f1) (f2 := f2) (b := b) (e := e) (x := x) (y := y) (s8 := s8)
  rw [decide_eq_false h] at t
  have st := F_law_turn_ok hl hh hx hy (sub_ne h h2)
  have ht := turn_bd hl hh hx hy (sub_ne h h2)
  have l6 := le_t 6 (q := x) (ρ := segE low high f1 f2 b e (.val (encQ x)) (.val (encQ y)) s8) rfl
  have l7 := le_t 7 (q := y) (ρ := segE low high f1 f2 b e (.val (encQ x)) (.val (encQ y)) s8) rfl
  have s1 : sSet 8 (eFn 4 F_law_turn (aCons (eVar 0) (aCons (eVar 1) (aCons (eVar 6) (aCons (eVar 7) aNil))))) (segE low high f1 f2 b e (.val (encQ x)) (.val (encQ y)) s8) = .ok (.nx, segE low high f1 f2 b e (.val (encQ x)) (.val (encQ y)) (.val (encQ (turnQ low high x y)))) := set_ok (ρ1 := segE low high f1 f2 b e (.val (encQ x)) (.val (encQ y)) s8) (by
    simp only [eFn, eOp, eVar, eC, aCons, aNil, eTup, eLst, rb, List.getElem?_cons_zero, List.getElem?_cons_succ, List.length_cons, List.length_nil, Nat.zero_add, Nat.reduceAdd, few2, if_true, eq_self, ite_true, reduceIte, List.set_cons_zero, List.set_cons_succ, st])
  unfold lrB
  rw [seq_nx (show sIf segT (sRet (eC .none)) sSkip (segE low high f1 f2 b e (.val (encQ x)) (.val (encQ y)) s8) = .ok (.nx, segE low high f1 f2 b e (.val (encQ x)) (.val (encQ y)) s8) from by rw [if_ff t]; rfl)]
  by_cases c : 0 < x
  · rw [decide_eq_false (show ¬ x ≤ 0 by grind)] at l6
    rw [decide_eq_true (show y ≤ 0 by grind)] at l7
    rw [if_ff l6, if_tt l7, seq_nx s1, if_pos c]
    have l := F_law_less_ok ht he (by decide)
    refine set_ok (ρ1 := segE low high f1 f2 b e (.val (encQ x)) (.val (encQ y)) (.val (encQ (turnQ low high x y)))) ?_
    simp only [eFn, eOp, eVar, eC, aCons, aNil, eTup, eLst, rb, List.getElem?_cons_zero, List.getElem?_cons_succ, List.length_cons, List.length_nil, Nat.zero_add, Nat.reduceAdd, few2, if_true, eq_self, ite_true, reduceIte, List.set_cons_zero, List.set_cons_succ, eIf, tB1, l]
    by_cases d : turnQ low high x y < e
    · rw [decide_eq_true d, if_pos d]; rfl
    · rw [decide_eq_false d, if_neg d]; rfl
  · rw [decide_eq_true (show x ≤ 0 by grind)] at l6
    rw [if_tt l6, seq_nx s1, if_neg c]
    have l := F_law_less_ok hb ht (by decide)
    refine set_ok (ρ1 := segE low high f1 f2 b e (.val (encQ x)) (.val (encQ y)) (.val (encQ (turnQ low high x y)))) ?_
    simp only [eFn, eOp, eVar, eC, aCons, aNil, eTup, eLst, rb, List.getElem?_cons_zero, List.getElem?_cons_succ, List.length_cons, List.length_nil, Nat.zero_add, Nat.reduceAdd, few2, if_true, eq_self, ite_true, reduceIte, List.set_cons_zero, List.set_cons_succ, eIf, tB1, l]
    by_cases d : b < turnQ low high x y
    · rw [decide_eq_true d, if_pos d]; rfl
    · rw [decide_eq_false d, if_neg d]; rfl
end
section
variable {low high : Rat} {f1 f2 : D}
theorem ps_loop (hl : Bd 100 low) (hh : Bd 100 high) : ∀ (ps : List (Rat × Rat)) (b e : Rat) (s6 s7 s8 : Sl), Bd 1600 b → Bd 1600 e → (∀ p ∈ ps, GapOk p) →
    ∃ b' e' t6 t7 t8, forL segG psB (ps.map encP) (segE low high f1 f2 b e s6 s7 s8) = (match segL low high ps b e with | none => .ok (.rt .none, segE low high f1 f2 b' e' t6 t7 t8) | some q => .ok (.nx, segE low high f1 f2 q.1 q.2 t6 t7 t8))
  | [], b, e, s6, s7, s8, _, _, _ => ⟨b, e, s6, s7, s8, rfl⟩
  | p :: r, b, e, s6, s7, s8, hb, he, hp => by
    have hr : ∀ x ∈ r, GapOk x := fun x hx => hp x (List.mem_cons_of_mem _ hx)
    have p0 := hp p List.mem_cons_self
    have g : segG (encP p) (segE low high f1 f2 b e s6 s7 s8) = some (segE low high f1 f2 b e (.val (encQ p.1)) (.val (encQ p.2)) s8) := rfl
    rw [List.map_cons]
    unfold segL
    by_cases c1 : p.1 ≤ 0 ∧ p.2 ≤ 0
    · exact ⟨b, e, _, _, _, by rw [if_pos c1]; exact forL_rt g (ps_none c1)⟩
    · rw [if_neg c1]
      by_cases c2 : 0 < p.1 ∧ 0 < p.2
      · rw [if_pos c2, forL_ct g (ps_ctn c1 c2)]
        exact ps_loop hl hh r b e _ _ _ hb he hr
      · rw [if_neg c2, forL_nx g (ps_turn hl hh p0.bx p0.bY hb he c1 c2)]
        have ht := turn_bd hl hh p0.bx p0.bY (sub_ne c1 c2)
        by_cases c3 : 0 < p.1
        · rw [if_pos c3, if_pos c3]
          exact ps_loop hl hh r b _ _ _ _ hb (ite_bd ht he) hr
        · rw [if_neg c3, if_neg c3]
          exact ps_loop hl hh r _ e _ _ _ (ite_bd ht hb) he hr
theorem lr_loop (hl : Bd 100 low) (hh : Bd 100 high) : ∀ (ps : List (Rat × Rat)) (b e : Rat) (s6 s7 s8 : Sl), Bd 1600 b → Bd 1600 e → (∀ p ∈ ps, GapOk p) →
    ∃ b' e' t6 t7 t8, forL segG lrB (ps.map encP) (segE low high f1 f2 b e s6 s7 s8) = (match segL low high ps b e with | none => .ok (.rt .none, segE low high f1 f2 b' e' t6 t7 t8) | some q => .ok (.nx, segE low high f1 f2 q.1 q.2 t6 t7 t8))
  | [], b, e, s6, s7, s8, _, _, _ => ⟨b, e, s6, s7, s8, rfl⟩
  | p :: r, b, e, s6, s7, s8, hb, he, hp => by
    have hr : ∀ x ∈ r, GapOk x := fun x hx => hp x (List.mem_cons_of_mem _ hx)
    have p0 := hp p List.mem_cons_self
    have g : segG (encP p) (segE low high f1 f2 b e s6 s7 s8) = some (segE low high f1 f2 b e (.val (encQ p.1)) (.val (encQ p.2)) s8) := rfl
    rw [List.map_cons]
    unfold segL
    by_cases c1 : p.1 ≤ 0 ∧ p.2 ≤ 0
    · exact ⟨b, e, _, _, _, by rw [if_pos c1]; exact forL_rt g (lr_none c1)⟩
    · rw [if_neg c1]
      by_cases c2 : 0 < p.1 ∧ 0 < p.2
      · rw [if_pos c2, forL_nx g (lr_pos c1 c2)]
        exact lr_loop hl hh r b e _ _ _ hb he hr
      · rw [if_neg c2, forL_nx g (lr_turn hl hh p0.bx p0.bY hb he c1 c2)]
        have ht := turn_bd hl hh p0.bx p0.bY (sub_ne c1 c2)
        by_cases c3 : 0 < p.1
        · rw [if_pos c3, if_pos c3]
          exact lr_loop hl hh r b _ _ _ _ hb (ite_bd ht he) hr
        · rw [if_neg c3, if_neg c3]
          exact lr_loop hl hh r _ e _ _ _ (ite_bd ht hb) he hr
theorem zipD_enc : ∀ (xs ys : List Rat), zipD (xs.map encQ) (ys.map encQ) = (xs.zip ys).map encP
  | [], ys => by simp [zipD]
  | x :: xs, [] => by simp [zipD]
  | x :: xs, y :: ys => by
    rw [List.map_cons, List.map_cons, List.zip_cons_cons, List.map_cons]
    unfold zipD
    rw [zipD_enc xs ys]
    rfl
theorem seg_end {L : List D → Res D} (hL : LessOk L) {b e : Rat} {s6 s7 s8 : Sl} (hb : Bd 1600 b) (he : Bd 1600 e) :
    sRet (eIf (tB1 (eFn 2 L (aCons (eVar 4) (aCons (eVar 5) aNil)))) (eTup (aCons (eVar 4) (aCons (eVar 5) aNil))) (eC .none)) (segE low high f1 f2 b e s6 s7 s8) = .ok (.rt (encS (if b < e then some (b, e) else none)), segE low high f1 f2 b e s6 s7 s8) := ret_ok (by
  have l := hL 1600 1600 b e hb he (by decide)
  simp only [eFn, eOp, eVar, eC, aCons, aNil, eTup, eLst, rb, List.getElem?_cons_zero, List.getElem?_cons_succ, List.length_cons, List.length_nil, Nat.zero_add, Nat.reduceAdd, few2, if_true, eq_self, ite_true, reduceIte, List.set_cons_zero, List.set_cons_succ, eIf, tB1, l, decide_eq_true le2]
  by_cases d : b < e
  · rw [decide_eq_true d, if_pos d]; rfl
  · rw [decide_eq_false d, if_neg d]; rfl)
theorem F_part_seen_ok (hl : Bd 100 low) (hh : Bd 100 high) (xs ys : List Rat) (hp : ∀ p ∈ xs.zip ys, GapOk p) : F_part_seen [encQ low, encQ high, .list (xs.map encQ), .list (ys.map encQ)] = .ok (encS (segQ low high (xs.zip ys))) := by
  have hb : Bd 1600 low := hl.mono (by decide)
  have he : Bd 1600 high := hh.mono (by decide)
  obtain ⟨b', e', t6, t7, t8, lp⟩ := ps_loop (f1 := .list (xs.map encQ)) (f2 := .list (ys.map encQ)) hl hh (xs.zip ys) low high .no .no .no hb he hp
  have bd := segL_bd hl hh (xs.zip ys) low high hb he hp
  have s0 : sTup [4, 5] (csC (cV (eVar 0)) (csC (cV (eVar 1)) csN)) [.val (encQ low), .val (encQ high), .val (.list (xs.map encQ)), .val (.list (ys.map encQ)), .no, .no, .no, .no, .no] = .ok (.nx, segE low high (.list (xs.map encQ)) (.list (ys.map encQ)) low high .no .no .no) := rfl
  have it : iZipF (aCons (eVar 2) (aCons (eVar 3) aNil)) (segE low high (.list (xs.map encQ)) (.list (ys.map encQ)) low high .no .no .no) = .ok ((xs.zip ys).map encP, segE low high (.list (xs.map encQ)) (.list (ys.map encQ)) low high .no .no .no) := by
    rw [← zipD_enc]
    rfl
  have lp2 := (for_ok (g := segG) (b := psB) it).trans lp
  have key : ∃ ρ, m_part_seen [.val (encQ low), .val (encQ high), .val (.list (xs.map encQ)), .val (.list (ys.map encQ)), .no, .no, .no, .no, .no] = .ok (.rt (encS (segQ low high (xs.zip ys))), ρ) := by
    unfold m_part_seen
    rw [seq_nx s0]
    unfold segQ
    cases z : segL low high (xs.zip ys) low high with
    | none =>
      rw [z] at lp2
      exact ⟨_, seq_rt lp2⟩
    | some q =>
      rw [z] at lp2
      rw [seq_nx lp2]
      exact ⟨_, seg_end less1 (bd q z).1 (bd q z).2⟩
  obtain ⟨ρ, e1⟩ := key
  exact runD_rt e1
theorem F_law_range_ok (hl : Bd 100 low) (hh : Bd 100 high) (xs ys : List Rat) (hp : ∀ p ∈ xs.zip ys, GapOk p) : F_law_range [encQ low, encQ high, .tuple (xs.map encQ), .tuple (ys.map encQ)] = .ok (encS (segQ low high (xs.zip ys))) := by
  have hb : Bd 1600 low := hl.mono (by decide)
  have he : Bd 1600 high := hh.mono (by decide)
  obtain ⟨b', e', t6, t7, t8, lp⟩ := lr_loop (f1 := .tuple (xs.map encQ)) (f2 := .tuple (ys.map encQ)) hl hh (xs.zip ys) low high .no .no .no hb he hp
  have bd := segL_bd hl hh (xs.zip ys) low high hb he hp
  have s0 : sTup [4, 5] (csC (cV (eVar 0)) (csC (cV (eVar 1)) csN)) [.val (encQ low), .val (encQ high), .val (.tuple (xs.map encQ)), .val (.tuple (ys.map encQ)), .no, .no, .no, .no, .no] = .ok (.nx, segE low high (.tuple (xs.map encQ)) (.tuple (ys.map encQ)) low high .no .no .no) := rfl
  have it : iZipF (aCons (eVar 2) (aCons (eVar 3) aNil)) (segE low high (.tuple (xs.map encQ)) (.tuple (ys.map encQ)) low high .no .no .no) = .ok ((xs.zip ys).map encP, segE low high (.tuple (xs.map encQ)) (.tuple (ys.map encQ)) low high .no .no .no) := by
    rw [← zipD_enc]
    rfl
  have lp2 := (for_ok (g := segG) (b := lrB) it).trans lp
  have key : ∃ ρ, m_law_range [.val (encQ low), .val (encQ high), .val (.tuple (xs.map encQ)), .val (.tuple (ys.map encQ)), .no, .no, .no, .no, .no] = .ok (.rt (encS (segQ low high (xs.zip ys))), ρ) := by
    unfold m_law_range
    rw [seq_nx s0]
    unfold segQ
    cases z : segL low high (xs.zip ys) low high with
    | none =>
      rw [z] at lp2
      exact ⟨_, seq_rt lp2⟩
    | some q =>
      rw [z] at lp2
      rw [seq_nx lp2]
      exact ⟨_, seg_end less2 (bd q z).1 (bd q z).2⟩
  obtain ⟨ρ, e1⟩ := key
  exact runD_rt e1
end
end GN

set_option Elab.async false
set_option linter.all false
set_option maxRecDepth 100000
set_option maxHeartbeats 8000000
/-! M8: the ranges, joined, by both. -/
namespace GN
open PySem
theorem encP_lay (q : Rat × Rat) : PyData.canLay0 (encP q) = true := rfl
theorem encP_dep (q : Rat × Rat) : PyData.depth (encP q) = 2 := rfl
theorem lay_list : ∀ qs : List (Rat × Rat), PyData.canLayAll0 (qs.map encP) = true
  | [] => rfl
  | q :: r => by
    rw [List.map_cons]
    show (PyData.canLay0 (encP q) && PyData.canLayAll0 (r.map encP)) = true
    rw [encP_lay, lay_list r]
    rfl
theorem dep_list : ∀ qs : List (Rat × Rat), PyData.depthAll (qs.map encP) ≤ 2
  | [] => by decide
  | q :: r => by
    rw [List.map_cons]
    show max (PyData.depth (encP q)) (PyData.depthAll (r.map encP)) ≤ 2
    have h := dep_list r
    rw [encP_dep]
    omega
theorem shaped_list (qs : List (Rat × Rat)) : SeqAt.shaped (.list (qs.map encP)) = true := by
  have h := dep_list qs
  show (PyData.canLayAll0 (qs.map encP) && decide (PyData.depthAll (qs.map encP) + 1 ≤ 64)) = true
  rw [lay_list, decide_eq_true (by omega)]
  rfl
theorem eqF_q (p q : Rat) : eqF (encQ p) (encQ q) = .ok (.bool (decide (p = q))) := by
  have e : eqF (encQ p) (encQ q) = .ok (.bool (PyData.eqv (encQ p) (encQ q))) := rfl
  rw [e]
  have : PyData.eqv (encQ p) (encQ q) = decide (p = q) := by
    show ((p.num == q.num) && (((p.den : Int) == (q.den : Int)) && true)) = _
    by_cases h : p = q
    · subst h
      simp
    · have : ¬ (p.num = q.num ∧ p.den = q.den) := fun z => h (Rat.ext z.1 z.2)
      rw [decide_eq_false h]
      by_cases h1 : p.num = q.num
      · have h2 : p.den ≠ q.den := fun z => this ⟨h1, z⟩
        have h3 : ((p.den : Int) == (q.den : Int)) = false := by
          rw [beq_eq_false_iff_ne]
          omega
        rw [h3]
        simp
      · have h3 : (p.num == q.num) = false := by
          rw [beq_eq_false_iff_ne]
          exact h1
        rw [h3]
        rfl
  rw [this]
abbrev Row := Rat × List Rat
def joinStep (found : List (Rat × Rat)) (ab : Row × Row) : List (Rat × Rat) := match segQ ab.1.1 ab.2.1 (ab.1.2.zip ab.2.2) with
  | none => found
  | some q => match found[found.length - 1]? with
    | none => found ++ [q]
    | some l => if l.2 = q.1 ∧ (ab.1.2.all fun x => decide (0 < x)) = true then found.dropLast ++ [(l.1, q.2)] else found ++ [q]
def joinAll (ps : List (Row × Row)) : List (Rat × Rat) := ps.foldl joinStep []
theorem joinStep_len (found : List (Rat × Rat)) (ab : Row × Row) : (joinStep found ab).length ≤ found.length + 1 := by
  unfold joinStep
  split
  · omega
  · split
    · rw [List.length_append]; exact Nat.le_refl _
    · split
      · rw [List.length_append, List.length_dropLast]
        show found.length - 1 + 1 ≤ _
        omega
      · rw [List.length_append]; exact Nat.le_refl _
structure RowOk (a : Row) : Prop where
  bs : Bd 100 a.1
  bg : ∀ q ∈ a.2, Bd 400 q
  ln : a.2.length ≤ 1000
theorem zip_ok {a b : Row} (ha : RowOk a) (hb : RowOk b) : ∀ p ∈ a.2.zip b.2, GapOk p := fun p hp => by
  obtain ⟨x, y⟩ := p
  obtain ⟨h1, h2⟩ := List.of_mem_zip hp
  exact ⟨ha.bg x h1, hb.bg y h2⟩
def encRL (a : Row) : D := .tuple [encQ a.1, .list (a.2.map encQ)]
def encRT (a : Row) : D := .tuple [encQ a.1, .tuple (a.2.map encQ)]
theorem map_last {α : Type} (f : α → D) (l : List α) : (l.map f)[(l.map f).length - 1]? = (l[l.length - 1]?).map f := by
  rw [List.length_map, List.getElem?_map]
theorem atI_last (ds : List D) : L2.atI ds (-1) = ds[ds.length - 1]? := by
  unfold L2.atI L2.ixN
  by_cases h : ds = []
  · subst h
    rfl
  · have hl : 0 < ds.length := List.length_pos_iff.mpr h
    rw [if_neg (by decide)]
    have e : ((-1 : Int) + (ds.length : Int)) = ((ds.length - 1 : Nat) : Int) := by omega
    first
      | (rw [if_pos (by omega)]; done)
      | (rw [if_pos (by omega)]
         first
           | (show ds[((-1 : Int) + (ds.length : Int)).toNat]? = _; rw [e, Int.toNat_natCast])
           | (show ds[((ds.length : Int) + (-1)).toNat]? = _
              have e2 : ((ds.length : Int) + (-1)) = ((ds.length - 1 : Nat) : Int) := by omega
              rw [e2, Int.toNat_natCast]))
/-! ### seen_spans -/
abbrev ssE (c bk gl vw nm pl rw own sh : Sl) (found : List (Rat × Rat)) (s10 s11 s12 s13 s14 : Sl) : En := [c, bk, gl, vw, nm, pl, rw, own, sh, .own (found.map encP), s10, s11, s12, s13, s14, .no, .no, .no]
abbrev ssG : GF := gT 2 (gsC (gT 2 (gsC (gN 11) (gsC (gN 12) gsN))) (gsC (gT 2 (gsC (gN 13) (gsC (gN 14) gsN))) gsN))
abbrev ssA : TF := tB1 (eEqO true 9 (eLst aNil))
abbrev ssC : TF := tB1 (eOp eqF (eOp idxF (eIxO 9 (eNeg (eC (.int 1)))) (eC (.int 1))) (eOp idxF (eVar 10) (eC (.int 0))))
abbrev ssD : TF := tB1 (eCall allF (aCons (eFz (oLc (iSeq (eVar 12)) (gN 17) tYesF (eOp gtI (eOp idxF (eVar 17) (eC (.int 0))) (eC (.int 0))) [17])) aNil))
abbrev ssB : SF := (sSeq (sSet 10 (eFn 4 F_part_seen (aCons (eVar 11) (aCons (eVar 13) (aCons (eVar 12) (aCons (eVar 14) aNil)))))) (sSeq (sIf (tB1 (eOp isF (eVar 10) (eC .none))) sCt sSkip) (sSeq (sIf (tAnd2 ssA (tAnd2 ssC ssD)) (sSet 10 (eTup (aCons (eOp idxF (ePop 9) (eC (.int 0))) (aCons (eOp idxF (eVar 10) (eC (.int 1))) aNil)))) sSkip) (sApp 9 (eVar 10)))))
section
variable {c bk gl vw nm pl rw own sh : Sl}
theorem eqO_empty (i : Nat) {ρ : En} {found : List (Rat × Rat)} (h : ρ[i]? = some (.own (found.map encP))) : tB1 (eEqO true i (eLst aNil)) ρ = .ok (!found.isEmpty, ρ) := tb_ok (by
  have e0 : eLst aNil ρ = .ok (.list [], ρ) := rfl
  unfold eEqO
  rw [h]
  dsimp only
  rw [e0, rb]
  dsimp only
  rw [h]
  dsimp only
  rw [shaped_list]
  have : (if (true && SeqAt.shaped (.list [])) = true then Res.ok (PyData.bool (if true = true then !PyData.eqv (.list (found.map encP)) (.list []) else PyData.eqv (.list (found.map encP)) (.list [])), ρ) else .bad) = Res.ok (PyData.bool (!PyData.eqv (.list (found.map encP)) (.list [])), ρ) := rfl
  rw [this]
  cases found with
  | nil => rfl
  | cons a r => rfl)
theorem and_t3 {f g h : TF} {ρ : En} {p q r : Bool} (h1 : f ρ = .ok (p, ρ)) (h2 : p = true → g ρ = .ok (q, ρ)) (h3 : h ρ = .ok (r, ρ)) : tAnd2 f (tAnd2 g h) ρ = .ok (p && (q && r), ρ) := by
  unfold tAnd2
  rw [h1, rb]
  cases p with
  | true =>
    dsimp only
    rw [if_pos rfl, h2 rfl, rb]
    cases q with
    | true => dsimp only; rw [if_pos rfl, h3]; rfl
    | false => rfl
  | false => rfl
theorem ixO_last (i : Nat) {ρ : En} {found : List (Rat × Rat)} {l : Rat × Rat} (h : ρ[i]? = some (.own (found.map encP))) (hl : found[found.length - 1]? = some l) : eIxO i (eNeg (eC (.int 1))) ρ = .ok (encP l, ρ) := by
  have e0 : eNeg (eC (.int 1)) ρ = .ok (.int (-1), ρ) := rfl
  unfold eIxO
  rw [h]
  dsimp only
  rw [e0, rb]
  dsimp only
  rw [h]
  dsimp only
  have e1 : idxF (.list (found.map encP)) (.int (-1)) = .ok (encP l) := by
    unfold idxF
    dsimp only
    rw [atI_last, map_last, hl]
    rfl
  rw [e1]
theorem enc_none_iff (o : Option (Rat × Rat)) (ρ : En) (i : Nat) (h : ρ[i]? = some (.val (encS o))) : tB1 (eOp isF (eVar i) (eC .none)) ρ = .ok (o.isNone, ρ) := tb_ok (by
  have v : eVar i ρ = .ok (encS o, ρ) := by unfold eVar; rw [h]
  simp only [eOp, v, rb, eC]
  cases o with
  | none => rfl
  | some q => rfl)
theorem ss_turn {a b : Row} (ha : RowOk a) (hb : RowOk b) (found : List (Rat × Rat)) (hf : found.length ≤ 1000) (s10 : Sl) :
    ∃ t10 fl, (fl = .nx ∨ fl = .ct) ∧ ssB (ssE c bk gl vw nm pl rw own sh found s10 (.val (encQ a.1)) (.val (.list (a.2.map encQ))) (.val (encQ b.1)) (.val (.list (b.2.map encQ)))) =
      .ok (fl, ssE c bk gl vw nm pl rw own sh (joinStep found (a, b)) t10 (.val (encQ a.1)) (.val (.list (a.2.map encQ))) (.val (encQ b.1)) (.val (.list (b.2.map encQ)))) := by
  let E : List (Rat × Rat) → Sl → En := fun f x => ssE c bk gl vw nm pl rw own sh f x (.val (encQ a.1)) (.val (.list (a.2.map encQ))) (.val (encQ b.1)) (.val (.list (b.2.map encQ)))
  let o := segQ a.1 b.1 (a.2.zip b.2)
  have p := F_part_seen_ok ha.bs hb.bs a.2 b.2 (zip_ok ha hb)
  have s1 : sSet 10 (eFn 4 F_part_seen (aCons (eVar 11) (aCons (eVar 13) (aCons (eVar 12) (aCons (eVar 14) aNil))))) (E found s10) = .ok (.nx, E found (.val (encS o))) := set_ok (ρ1 := E found s10) (by
    simp only [eFn, eOp, eVar, eC, aCons, aNil, eTup, eLst, rb, List.getElem?_cons_zero, List.getElem?_cons_succ, List.length_cons, List.length_nil, Nat.zero_add, Nat.reduceAdd, few2, if_true, eq_self, ite_true, reduceIte, List.set_cons_zero, List.set_cons_succ, E, p]
    rfl)
  have i1 := enc_none_iff o (E found (.val (encS o))) 10 rfl
  show ∃ t10 fl, (fl = .nx ∨ fl = .ct) ∧ ssB (E found s10) = .ok (fl, E (joinStep found (a, b)) t10)
  have step0 : ∀ x, segQ a.1 b.1 (a.2.zip b.2) = x → joinStep found (a, b) = (match x with
    | none => found
    | some q => match found[found.length - 1]? with
      | none => found ++ [q]
      | some l => if l.2 = q.1 ∧ (a.2.all fun x => decide (0 < x)) = true then found.dropLast ++ [(l.1, q.2)] else found ++ [q]) := fun x hx => by
    subst hx
    rfl
  unfold ssB
  rw [seq_nx s1]
  cases z : o with
  | none =>
    rw [z] at i1
    have s2 : sIf (tB1 (eOp isF (eVar 10) (eC .none))) sCt sSkip (E found (.val (encS none))) = .ok (.ct, E found (.val (encS none))) := by rw [if_tt i1]; rfl
    rw [step0 none z]
    exact ⟨_, .ct, .inr rfl, seq_ct s2⟩
  | some q =>
    rw [z] at i1
    have s2 : sIf (tB1 (eOp isF (eVar 10) (eC .none))) sCt sSkip (E found (.val (encS (some q)))) = .ok (.nx, E found (.val (encS (some q)))) := by rw [if_ff i1]; rfl
    rw [seq_nx s2, step0 (some q) z]
    have tA := eqO_empty 9 (ρ := E found (.val (encS (some q)))) (found := found) rfl
    have tD : ssD (E found (.val (encS (some q)))) = .ok (a.2.all fun x => decide (0 < x), E found (.val (encS (some q)))) := tb_ok (pos_lc (i := 17) (l := a.2) rfl (by have := ha.ln; omega) rfl rfl (by show 17 < 18; decide))
    cases y : found[found.length - 1]? with
    | none =>
      have hnil : found = [] := by
        by_cases hn : found = []
        · exact hn
        · have hl : 0 < found.length := List.length_pos_iff.mpr hn
          rw [List.getElem?_eq_getElem (by omega)] at y
          cases y
      subst hnil
      have t : tAnd2 ssA (tAnd2 ssC ssD) (E [] (.val (encS (some q)))) = .ok (false, E [] (.val (encS (some q)))) := by
        unfold tAnd2
        rw [show ssA (E [] (.val (encS (some q)))) = .ok (false, E [] (.val (encS (some q)))) from tA]
        rfl
      have s3 : sIf (tAnd2 ssA (tAnd2 ssC ssD)) (sSet 10 (eTup (aCons (eOp idxF (ePop 9) (eC (.int 0))) (aCons (eOp idxF (eVar 10) (eC (.int 1))) aNil)))) sSkip (E [] (.val (encS (some q)))) = .ok (.nx, E [] (.val (encS (some q)))) := by rw [if_ff t]; rfl
      rw [seq_nx s3]
      exact ⟨_, .nx, .inl rfl, rfl⟩
    | some l =>
      have hne : found ≠ [] := fun z => by rw [z] at y; cases y
      have he : (!found.isEmpty) = true := by
        cases found with
        | nil => exact (hne rfl).elim
        | cons _ _ => rfl
      rw [he] at tA
      have tC : ssC (E found (.val (encS (some q)))) = .ok (decide (l.2 = q.1), E found (.val (encS (some q)))) := tb_ok (by
        have x1 := ixO_last 9 (ρ := E found (.val (encS (some q)))) (found := found) rfl y
        have x2 : eVar 10 (E found (.val (encS (some q)))) = .ok (encP q, E found (.val (encS (some q)))) := rfl
        simp only [eOp, x1, x2, rb, eC, ixP0, ixP1, eqF_q])
      have t := and_t3 (f := ssA) (g := ssC) (h := ssD) tA (fun _ => tC) tD
      rw [Bool.true_and] at t
      by_cases cc : l.2 = q.1 ∧ (a.2.all fun x => decide (0 < x)) = true
      · rw [decide_eq_true cc.1, cc.2] at t
        have s3 : sIf (tAnd2 ssA (tAnd2 ssC ssD)) (sSet 10 (eTup (aCons (eOp idxF (ePop 9) (eC (.int 0))) (aCons (eOp idxF (eVar 10) (eC (.int 1))) aNil)))) sSkip (E found (.val (encS (some q)))) = .ok (.nx, E found.dropLast (.val (encP (l.1, q.2)))) := by
          rw [if_tt t]
          have pp : ePop 9 (E found (.val (encS (some q)))) = .ok (encP l, E found.dropLast (.val (encS (some q)))) := by
            have h9 : (E found (.val (encS (some q))))[9]? = some (.own (found.map encP)) := rfl
            unfold ePop
            rw [h9]
            dsimp only
            rw [map_last, y]
            show Res.ok (encP l, (E found (.val (encS (some q)))).set 9 (.own (found.map encP).dropLast)) = _
            rw [← List.map_dropLast]
            rfl
          refine set_ok (ρ1 := E found.dropLast (.val (encS (some q)))) (d := encP (l.1, q.2)) ?_
          have x2 : eVar 10 (E found.dropLast (.val (encS (some q)))) = .ok (encP q, E found.dropLast (.val (encS (some q)))) := rfl
          simp only [eTup, aCons, aNil, eOp, pp, x2, rb, eC, ixP0, ixP1, few2, List.length_cons, List.length_nil, Nat.zero_add, Nat.reduceAdd, decide_eq_true le2, if_true]
          rfl
        rw [seq_nx s3]
        dsimp only
        rw [if_pos cc]
        refine ⟨.val (encP (l.1, q.2)), .nx, .inl rfl, ?_⟩
        have ap := app_ok (i := 9) (f := eVar 10) (ρ := E found.dropLast (.val (encP (l.1, q.2)))) (ρ1 := E found.dropLast (.val (encP (l.1, q.2)))) (ds := found.dropLast.map encP) (es := found.dropLast.map encP) (d := encP (l.1, q.2)) rfl rfl rfl (by rw [List.length_map, List.length_dropLast]; omega)
        rw [ap]
        show Res.ok (Fl.nx, (E found.dropLast (.val (encP (l.1, q.2)))).set 9 (.own (found.dropLast.map encP ++ [encP (l.1, q.2)]))) = _
        rw [show found.dropLast.map encP ++ [encP (l.1, q.2)] = (found.dropLast ++ [(l.1, q.2)]).map encP by rw [List.map_append]; rfl]
        rfl
      · have tf : (decide (l.2 = q.1) && a.2.all fun x => decide (0 < x)) = false := by
          by_cases c1 : l.2 = q.1
          · rw [decide_eq_true c1, Bool.true_and]
            cases c2 : (a.2.all fun x => decide (0 < x)) with
            | true => exact (cc ⟨c1, c2⟩).elim
            | false => rfl
          · rw [decide_eq_false c1]
            rfl
        rw [tf] at t
        have s3 : sIf (tAnd2 ssA (tAnd2 ssC ssD)) (sSet 10 (eTup (aCons (eOp idxF (ePop 9) (eC (.int 0))) (aCons (eOp idxF (eVar 10) (eC (.int 1))) aNil)))) sSkip (E found (.val (encS (some q)))) = .ok (.nx, E found (.val (encS (some q)))) := by rw [if_ff t]; rfl
        rw [seq_nx s3]
        dsimp only
        rw [if_neg cc]
        refine ⟨.val (encS (some q)), .nx, .inl rfl, ?_⟩
        have ap := app_ok (i := 9) (f := eVar 10) (ρ := E found (.val (encS (some q)))) (ρ1 := E found (.val (encS (some q)))) (ds := found.map encP) (es := found.map encP) (d := encP q) rfl rfl rfl (by rw [List.length_map]; omega)
        rw [ap]
        show Res.ok (Fl.nx, (E found (.val (encS (some q)))).set 9 (.own (found.map encP ++ [encP q]))) = _
        rw [show found.map encP ++ [encP q] = (found ++ [q]).map encP by rw [List.map_append]; rfl]
        rfl
theorem ss_loop : ∀ (ps : List (Row × Row)) (found : List (Rat × Rat)) (s10 s11 s12 s13 s14 : Sl), (∀ p ∈ ps, RowOk p.1 ∧ RowOk p.2) → found.length + ps.length ≤ 1000 →
    ∃ t10 t11 t12 t13 t14, forL ssG ssB (ps.map fun p => .tuple [encRL p.1, encRL p.2]) (ssE c bk gl vw nm pl rw own sh found s10 s11 s12 s13 s14) = .ok (.nx, ssE c bk gl vw nm pl rw own sh (ps.foldl joinStep found) t10 t11 t12 t13 t14)
  | [], found, s10, s11, s12, s13, s14, _, _ => ⟨s10, s11, s12, s13, s14, rfl⟩
  | p :: r, found, s10, s11, s12, s13, s14, h, hl => by
    rw [List.length_cons] at hl
    obtain ⟨h1, h2⟩ := h p List.mem_cons_self
    obtain ⟨t10, fl, hfl, e1⟩ := ss_turn (c := c) (bk := bk) (gl := gl) (vw := vw) (nm := nm) (pl := pl) (rw := rw) (own := own) (sh := sh) h1 h2 found (by omega) s10
    have hj := joinStep_len found p
    obtain ⟨u10, u11, u12, u13, u14, e2⟩ := ss_loop r (joinStep found p) t10 (.val (encQ p.1.1)) (.val (.list (p.1.2.map encQ))) (.val (encQ p.2.1)) (.val (.list (p.2.2.map encQ))) (fun x hx => h x (List.mem_cons_of_mem _ hx)) (by omega)
    refine ⟨u10, u11, u12, u13, u14, ?_⟩
    have g : ssG (.tuple [encRL p.1, encRL p.2]) (ssE c bk gl vw nm pl rw own sh found s10 s11 s12 s13 s14) = some (ssE c bk gl vw nm pl rw own sh found s10 (.val (encQ p.1.1)) (.val (.list (p.1.2.map encQ))) (.val (encQ p.2.1)) (.val (.list (p.2.2.map encQ)))) := rfl
    rw [List.map_cons, List.foldl_cons]
    rcases hfl with rfl | rfl
    · rw [forL_nx g e1]
      exact e2
    · rw [forL_ct g e1]
      exact e2
end
end GN

set_option Elab.async false
set_option linter.all false
set_option maxRecDepth 100000
set_option maxHeartbeats 8000000
/-! M9: the ranges of a name, whole, by both. -/
namespace GN
open PySem
theorem segL_low {low high : Rat} : ∀ (ps : List (Rat × Rat)) (b e : Rat), (∀ p ∈ ps, 0 < p.1) → ∀ q, segL low high ps b e = some q → q.1 = b
  | [], b, e, _, q, h => by
    cases h
    rfl
  | p :: r, b, e, hp, q, h => by
    have h0 := hp p List.mem_cons_self
    have hr : ∀ x ∈ r, 0 < x.1 := fun x hx => hp x (List.mem_cons_of_mem _ hx)
    unfold segL at h
    split at h
    · cases h
    · split at h
      · exact segL_low r b e hr q h
      · first
          | exact segL_low r b _ hr q h
          | (rw [if_pos h0] at h; exact segL_low r b _ hr q h)
theorem segQ_low {low high : Rat} {xs ys : List Rat} {q : Rat × Rat} (h : segQ low high (xs.zip ys) = some q) (hx : (xs.all fun x => decide (0 < x)) = true) : q.1 = low := by
  unfold segQ at h
  split at h
  · cases h
  · rename_i z hz
    split at h
    · cases h
      refine segL_low _ _ _ (fun p hp => ?_) _ hz
      obtain ⟨x, y⟩ := p
      have hm := (List.of_mem_zip hp).1
      exact of_decide_eq_true (List.all_eq_true.mp hx x hm)
    · cases h
/-! ### the least of some numbers -/
theorem minI_pos {ns : List Int} {m : Int} (h : minI ns = some m) : decide (0 < m) = ns.all fun n => decide (0 < n) := by
  cases ns with
  | nil => cases h
  | cons i r =>
    cases h
    obtain ⟨h1, h2, h3⟩ := minI_fold r i
    by_cases c : (0 : Int) < r.foldl (fun m j => if j < m then j else m) i
    · rw [decide_eq_true c]
      refine (List.all_eq_true.mpr fun n hn => decide_eq_true ?_).symm
      rcases List.mem_cons.mp hn with rfl | hn
      · omega
      · have := h3 n hn
        omega
    · rw [decide_eq_false c]
      refine (Bool.eq_false_iff.mpr fun z => ?_).symm
      have hz := List.all_eq_true.mp z
      rcases h1 with h1 | h1
      · have := of_decide_eq_true (hz i List.mem_cons_self)
        omega
      · have := of_decide_eq_true (hz _ (List.mem_cons_of_mem _ h1))
        omega
theorem intsOf_num : ∀ l : List Rat, intsOf (l.map fun q => PyData.int q.num) = some (l.map fun q => q.num)
  | [] => rfl
  | q :: r => by
    rw [List.map_cons]
    unfold intsOf
    rw [intsOf_num r]
    rfl
/-- min([its[0] for its in ..]) > 0 at slot i -/
theorem min_lc {it : LF} {i : Nat} {ρ ρ0 : En} {l : List Rat} (hi : it ρ0 = .ok (l.map encQ, ρ)) (hl : l.length ≤ 100000) (hne : l ≠ []) (hw : wipeR ρ [i] = ρ) (hr : restR ρ ρ [i] = ρ) (hs : i < ρ.length) :
    tB1 (eOp gtI (eCall minF (aCons (eFz (oLc it (gN i) tYesF (eOp idxF (eVar i) (eC (.int 0))) [i])) aNil)) (eC (.int 0))) ρ0 = .ok (l.all fun q => decide (0 < q), ρ) := by
  obtain ⟨m, hm⟩ : ∃ m, minI (l.map fun q => q.num) = some m := by
    cases l with
    | nil => exact (hne rfl).elim
    | cons q r => exact ⟨_, rfl⟩
  have e1 : eCall minF (aCons (eFz (oLc it (gN i) tYesF (eOp idxF (eVar i) (eC (.int 0))) [i])) aNil) ρ0 = .ok (.int m, ρ) := by
    refine call_ok (cons_ok (fz_ok (lc_all (φ := fun d => match d with | .tuple (.int n :: _) => .int n | _ => .none) hi (by rw [List.length_map]; exact hl) hw hr fun d hd => ?_)) nil_ok) ?_
    · obtain ⟨q, hq, rfl⟩ := List.mem_map.mp hd
      refine ⟨_, rfl, ?_, ?_⟩
      · have e : eVar i (ρ.set i (.val (encQ q))) = .ok (encQ q, ρ.set i (.val (encQ q))) := by
          unfold eVar
          rw [List.getElem?_set_self hs]
        simp only [eOp, e, rb, eC, idx0]
        rfl
      · have : wipeR (ρ.set i (.val (encQ q))) [i] = wipeR ρ [i] := by
          show (ρ.set i _).set i _ = ρ.set i _
          rw [List.set_set]
        rw [this, hw]
    · rw [List.map_map]
      have e : (l.map ((fun d : D => (match d with | .tuple (.int n :: _) => .int n | _ => .none : D)) ∘ encQ)) = l.map fun q => PyData.int q.num := rfl
      rw [e]
      unfold minF
      dsimp only
      rw [intsOf_num]
      show (match minI (l.map fun q => q.num) with | some m => Res.ok (PyData.int m) | none => .bad) = _
      rw [hm]
  refine tb_ok ?_
  simp only [eOp, e1, rb, eC, gtI_int]
  rw [minI_pos hm, List.all_map]
  have : (l.all ((fun n : Int => decide (0 < n)) ∘ fun q : Rat => q.num)) = l.all fun q => decide (0 < q) := by
    congr 1
    funext q
    exact num_pos q
  rw [this]
/-! ### _law_ranges -/
abbrev lwE (c bk gl lk nm rw : Sl) (found : List (Rat × Rat)) (sp s8 s9 s10 s11 s12 : Sl) : En := [c, bk, gl, lk, nm, rw, .own (found.map encP), sp, s8, s9, s10, s11, s12, .no, .no, .no]
abbrev lwG : GF := gT 2 (gsC (gT 2 (gsC (gN 9) (gsC (gN 10) gsN))) (gsC (gT 2 (gsC (gN 11) (gsC (gN 12) gsN))) gsN))
abbrev lwN : TF := tB1 (eOp isnF (eVar 8) (eC .none))
abbrev lwA : TF := tB1 (eEqO true 6 (eLst aNil))
abbrev lwC1 : TF := tB1 (eOp eqF (eOp idxF (eIxO 6 (eNeg (eC (.int 1)))) (eC (.int 1))) (eVar 9))
abbrev lwC2 : TF := tB1 (eOp eqF (eOp idxF (eVar 8) (eC (.int 0))) (eVar 9))
abbrev lwD : TF := tB1 (eOp gtI (eCall minF (aCons (eFz (oLc (iSeq (eVar 10)) (gN 15) tYesF (eOp idxF (eVar 15) (eC (.int 0))) [15])) aNil)) (eC (.int 0)))
abbrev lwP : SF := sPut 6 (eNeg (eC (.int 1))) (eTup (aCons (eOp idxF (eIxO 6 (eNeg (eC (.int 1)))) (eC (.int 0))) (aCons (eOp idxF (eVar 8) (eC (.int 1))) aNil)))
abbrev lwB : SF := (sSeq (sSet 8 (eFn 4 F_law_range (aCons (eVar 9) (aCons (eVar 11) (aCons (eVar 10) (aCons (eVar 12) aNil)))))) (sIf (tAnd2 lwN (tAnd2 lwA (tAnd2 lwC1 (tAnd2 lwC2 lwD)))) lwP (sIf lwN (sApp 6 (eVar 8)) sSkip)))
theorem and_r {f g : TF} {ρ : En} {p q : Bool} (h1 : f ρ = .ok (p, ρ)) (h2 : p = true → g ρ = .ok (q, ρ)) : tAnd2 f g ρ = .ok (p && q, ρ) := by
  unfold tAnd2
  rw [h1, rb]
  cases p with
  | true => dsimp only; rw [if_pos rfl, h2 rfl]; rfl
  | false => rfl
theorem enc_some_iff (o : Option (Rat × Rat)) (ρ : En) (i : Nat) (h : ρ[i]? = some (.val (encS o))) : tB1 (eOp isnF (eVar i) (eC .none)) ρ = .ok (o.isSome, ρ) := tb_ok (by
  have v : eVar i ρ = .ok (encS o, ρ) := by unfold eVar; rw [h]
  simp only [eOp, v, rb, eC]
  cases o with
  | none => rfl
  | some q => rfl)
theorem set_last {found : List (Rat × Rat)} {l x : Rat × Rat} (h : found[found.length - 1]? = some l) : (found.map encP).set (found.length - 1) (encP x) = (found.dropLast ++ [x]).map encP := by
  rw [← List.map_set]
  congr 1
  have hl : 0 < found.length := by
    cases found with
    | nil => cases h
    | cons _ _ => simp
  have e : found = found.dropLast ++ [found.getLast (List.length_pos_iff.mp hl)] := (List.dropLast_concat_getLast _).symm
  conv => lhs; rw [e]
  rw [List.set_append]
  simp
section
variable {c bk gl lk nm rw sp : Sl}
theorem lw_turn {a b : Row} (ha : RowOk a) (hb : RowOk b) (hne : a.2 ≠ []) (found : List (Rat × Rat)) (hf : found.length ≤ 1000) (s8 : Sl) :
    ∃ t8, lwB (lwE c bk gl lk nm rw found sp s8 (.val (encQ a.1)) (.val (.tuple (a.2.map encQ))) (.val (encQ b.1)) (.val (.tuple (b.2.map encQ)))) =
      .ok (.nx, lwE c bk gl lk nm rw (joinStep found (a, b)) sp t8 (.val (encQ a.1)) (.val (.tuple (a.2.map encQ))) (.val (encQ b.1)) (.val (.tuple (b.2.map encQ)))) := by
  let E : List (Rat × Rat) → Sl → En := fun f x => lwE c bk gl lk nm rw f sp x (.val (encQ a.1)) (.val (.tuple (a.2.map encQ))) (.val (encQ b.1)) (.val (.tuple (b.2.map encQ)))
  let o := segQ a.1 b.1 (a.2.zip b.2)
  have p := F_law_range_ok ha.bs hb.bs a.2 b.2 (zip_ok ha hb)
  have s1 : sSet 8 (eFn 4 F_law_range (aCons (eVar 9) (aCons (eVar 11) (aCons (eVar 10) (aCons (eVar 12) aNil))))) (E found s8) = .ok (.nx, E found (.val (encS o))) := set_ok (ρ1 := E found s8) (by
    simp only [eFn, eOp, eVar, eC, aCons, aNil, eTup, eLst, rb, List.getElem?_cons_zero, List.getElem?_cons_succ, List.length_cons, List.length_nil, Nat.zero_add, Nat.reduceAdd, few2, if_true, eq_self, ite_true, reduceIte, List.set_cons_zero, List.set_cons_succ, E, p]
    rfl)
  have i1 := enc_some_iff o (E found (.val (encS o))) 8 rfl
  show ∃ t8, lwB (E found s8) = .ok (.nx, E (joinStep found (a, b)) t8)
  have step0 : ∀ x, segQ a.1 b.1 (a.2.zip b.2) = x → joinStep found (a, b) = (match x with
    | none => found
    | some q => match found[found.length - 1]? with
      | none => found ++ [q]
      | some l => if l.2 = q.1 ∧ (a.2.all fun x => decide (0 < x)) = true then found.dropLast ++ [(l.1, q.2)] else found ++ [q]) := fun x hx => by
    subst hx
    rfl
  unfold lwB
  rw [seq_nx s1]
  cases z : o with
  | none =>
    rw [z] at i1
    have t : tAnd2 lwN (tAnd2 lwA (tAnd2 lwC1 (tAnd2 lwC2 lwD))) (E found (.val (encS none))) = .ok (false, E found (.val (encS none))) := by
      unfold tAnd2
      rw [show lwN (E found (.val (encS none))) = .ok (false, E found (.val (encS none))) from i1]
      rfl
    rw [if_ff t, if_ff (show lwN (E found (.val (encS none))) = .ok (false, E found (.val (encS none))) from i1), step0 none z]
    exact ⟨.val (encS none), rfl⟩
  | some q =>
    rw [z] at i1
    rw [step0 (some q) z]
    have app : ∀ (t : tAnd2 lwN (tAnd2 lwA (tAnd2 lwC1 (tAnd2 lwC2 lwD))) (E found (.val (encS (some q)))) = .ok (false, E found (.val (encS (some q))))),
        sIf (tAnd2 lwN (tAnd2 lwA (tAnd2 lwC1 (tAnd2 lwC2 lwD)))) lwP (sIf lwN (sApp 6 (eVar 8)) sSkip) (E found (.val (encS (some q)))) = .ok (.nx, E (found ++ [q]) (.val (encS (some q)))) := fun t => by
      rw [if_ff t, if_tt (show lwN (E found (.val (encS (some q)))) = .ok (true, E found (.val (encS (some q)))) from i1)]
      have ap := app_ok (i := 6) (f := eVar 8) (ρ := E found (.val (encS (some q)))) (ρ1 := E found (.val (encS (some q)))) (ds := found.map encP) (es := found.map encP) (d := encP q) rfl rfl rfl (by rw [List.length_map]; omega)
      rw [ap]
      show Res.ok (Fl.nx, (E found (.val (encS (some q)))).set 6 (.own (found.map encP ++ [encP q]))) = _
      rw [show found.map encP ++ [encP q] = (found ++ [q]).map encP by rw [List.map_append]; rfl]
      rfl
    have tN : lwN (E found (.val (encS (some q)))) = .ok (true, E found (.val (encS (some q)))) := i1
    have tA := eqO_empty 6 (ρ := E found (.val (encS (some q)))) (found := found) rfl
    have tD : lwD (E found (.val (encS (some q)))) = .ok (a.2.all fun x => decide (0 < x), E found (.val (encS (some q)))) := min_lc (i := 15) (l := a.2) rfl (by have := ha.ln; omega) hne rfl rfl (by show 15 < 16; decide)
    have tC2 : lwC2 (E found (.val (encS (some q)))) = .ok (decide (q.1 = a.1), E found (.val (encS (some q)))) := tb_ok (by
      have x2 : eVar 8 (E found (.val (encS (some q)))) = .ok (encP q, E found (.val (encS (some q)))) := rfl
      have x3 : eVar 9 (E found (.val (encS (some q)))) = .ok (encQ a.1, E found (.val (encS (some q)))) := rfl
      simp only [eOp, x2, x3, rb, eC, ixP0, eqF_q])
    cases y : found[found.length - 1]? with
    | none =>
      have hnil : found = [] := by
        by_cases hn : found = []
        · exact hn
        · have hl : 0 < found.length := List.length_pos_iff.mpr hn
          rw [List.getElem?_eq_getElem (by omega)] at y
          cases y
      subst hnil
      refine ⟨_, app ?_⟩
      have := and_r (f := lwN) (g := tAnd2 lwA (tAnd2 lwC1 (tAnd2 lwC2 lwD))) (q := false) tN fun _ => by
        unfold tAnd2
        rw [show lwA (E [] (.val (encS (some q)))) = .ok (false, E [] (.val (encS (some q)))) from tA]
        rfl
      exact this
    | some l =>
      have hne2 : found ≠ [] := fun z => by rw [z] at y; cases y
      have he : (!found.isEmpty) = true := by
        cases found with
        | nil => exact (hne2 rfl).elim
        | cons _ _ => rfl
      rw [he] at tA
      have x1 := ixO_last 6 (ρ := E found (.val (encS (some q)))) (found := found) rfl y
      have tC1 : lwC1 (E found (.val (encS (some q)))) = .ok (decide (l.2 = a.1), E found (.val (encS (some q)))) := tb_ok (by
        have x3 : eVar 9 (E found (.val (encS (some q)))) = .ok (encQ a.1, E found (.val (encS (some q)))) := rfl
        simp only [eOp, x1, x3, rb, eC, ixP1, eqF_q])
      have t := and_r (f := lwN) tN fun _ => and_r (f := lwA) tA fun _ => and_r (f := lwC1) tC1 fun _ => and_r (f := lwC2) tC2 fun _ => tD
      rw [Bool.true_and, Bool.true_and] at t
      have hq : (a.2.all fun x => decide (0 < x)) = true → q.1 = a.1 := fun h => segQ_low z h
      by_cases cc : l.2 = q.1 ∧ (a.2.all fun x => decide (0 < x)) = true
      · have q1 := hq cc.2
        have t' : tAnd2 lwN (tAnd2 lwA (tAnd2 lwC1 (tAnd2 lwC2 lwD))) (E found (.val (encS (some q)))) = .ok (true, E found (.val (encS (some q)))) := by
          rw [decide_eq_true (cc.1.trans q1), decide_eq_true q1, cc.2] at t
          exact t
        refine ⟨.val (encS (some q)), ?_⟩
        dsimp only
        rw [if_tt t', if_pos cc]
        have hl : 0 < found.length := List.length_pos_iff.mpr hne2
        have ev : eTup (aCons (eOp idxF (eIxO 6 (eNeg (eC (.int 1)))) (eC (.int 0))) (aCons (eOp idxF (eVar 8) (eC (.int 1))) aNil)) (E found (.val (encS (some q)))) = .ok (encP (l.1, q.2), E found (.val (encS (some q)))) := by
          have x2 : eVar 8 (E found (.val (encS (some q)))) = .ok (encP q, E found (.val (encS (some q)))) := rfl
          simp only [eTup, aCons, aNil, eOp, x1, x2, rb, eC, ixP0, ixP1, few2, List.length_cons, List.length_nil, Nat.zero_add, Nat.reduceAdd, decide_eq_true le2, if_true]
          rfl
        have hix : L2.ixN (found.map encP).length (-1) = some (found.length - 1) := by
          unfold L2.ixN
          rw [List.length_map, if_neg (by decide)]
          rw [if_pos (by omega)]
          congr 1
          omega
        unfold lwP sPut
        rw [ev, rb]
        dsimp only
        have h6 : (E found (.val (encS (some q))))[6]? = some (.own (found.map encP)) := rfl
        rw [h6]
        dsimp only
        rw [show eNeg (eC (.int 1)) (E found (.val (encS (some q)))) = .ok (.int (-1), E found (.val (encS (some q)))) from rfl, rb]
        dsimp only
        rw [h6]
        dsimp only
        rw [hix]
        show Res.ok (Fl.nx, (E found (.val (encS (some q)))).set 6 (.own ((found.map encP).set (found.length - 1) (encP (l.1, q.2))))) = _
        rw [set_last y]
        rfl
      · dsimp only
        rw [if_neg cc]
        refine ⟨_, app ?_⟩
        rw [t]
        congr 2
        by_cases c1 : (a.2.all fun x => decide (0 < x)) = true
        · have q1 := hq c1
          have : ¬ l.2 = a.1 := fun w => cc ⟨w.trans q1.symm, c1⟩
          rw [decide_eq_false this]
          rfl
        · rw [Bool.eq_false_iff.mpr c1, Bool.and_false, Bool.and_false]
theorem lw_loop : ∀ (ps : List (Row × Row)) (found : List (Rat × Rat)) (s8 s9 s10 s11 s12 : Sl), (∀ p ∈ ps, RowOk p.1 ∧ RowOk p.2 ∧ p.1.2 ≠ []) → found.length + ps.length ≤ 1000 →
    ∃ t8 t9 t10 t11 t12, forL lwG lwB (ps.map fun p => .tuple [encRT p.1, encRT p.2]) (lwE c bk gl lk nm rw found sp s8 s9 s10 s11 s12) = .ok (.nx, lwE c bk gl lk nm rw (ps.foldl joinStep found) sp t8 t9 t10 t11 t12)
  | [], found, s8, s9, s10, s11, s12, _, _ => ⟨s8, s9, s10, s11, s12, rfl⟩
  | p :: r, found, s8, s9, s10, s11, s12, h, hl => by
    rw [List.length_cons] at hl
    obtain ⟨h1, h2, h3⟩ := h p List.mem_cons_self
    obtain ⟨t8, e1⟩ := lw_turn (c := c) (bk := bk) (gl := gl) (lk := lk) (nm := nm) (rw := rw) (sp := sp) h1 h2 h3 found (by omega) s8
    have hj := joinStep_len found p
    obtain ⟨u8, u9, u10, u11, u12, e2⟩ := lw_loop r (joinStep found p) t8 (.val (encQ p.1.1)) (.val (.tuple (p.1.2.map encQ))) (.val (encQ p.2.1)) (.val (.tuple (p.2.2.map encQ))) (fun x hx => h x (List.mem_cons_of_mem _ hx)) (by omega)
    refine ⟨u8, u9, u10, u11, u12, ?_⟩
    have g : lwG (.tuple [encRT p.1, encRT p.2]) (lwE c bk gl lk nm rw found sp s8 s9 s10 s11 s12) = some (lwE c bk gl lk nm rw found sp s8 (.val (encQ p.1.1)) (.val (.tuple (p.1.2.map encQ))) (.val (encQ p.2.1)) (.val (.tuple (p.2.2.map encQ)))) := rfl
    rw [List.map_cons, List.foldl_cons, forL_nx g e1]
    exact e2
end
end GN

set_option Elab.async false
set_option linter.all false
set_option maxRecDepth 100000
set_option maxHeartbeats 8000000
/-! M10: seen_spans, the law's ranges, seen: whole. -/
namespace GN
open PySem
theorem lcL_map {α : Type} {enc ψ : α → D} {g : GF} {f : EF} {vs : List Nat} {ρ : En} : ∀ (ts : List α), (∀ t ∈ ts, ∃ ρd, g (enc t) ρ = some ρd ∧ f ρd = .ok (ψ t, ρd) ∧ wipeR ρd vs = ρ) → lcL g tYesF f vs (ts.map enc) ρ = .ok (ts.map ψ, ρ)
  | [], _ => rfl
  | t :: ts, h => by
    obtain ⟨ρd, h1, h3, h4⟩ := h t List.mem_cons_self
    have ih := lcL_map (f := f) ts fun e he => h e (List.mem_cons_of_mem _ he)
    rw [List.map_cons]
    conv => lhs; unfold lcL
    rw [h1]
    dsimp only
    rw [show tYesF ρd = .ok (true, ρd) from rfl, rbN]
    dsimp only
    rw [if_pos rfl, h3, rbN]
    dsimp only
    rw [h4, ih, rbN]
    rfl
theorem lc_mapT {α : Type} {enc ψ : α → D} {it : LF} {g : GF} {f : EF} {vs : List Nat} {ρ ρ0 : En} {ts : List α} (hi : it ρ0 = .ok (ts.map enc, ρ)) (hf : ts.length ≤ 100000) (hw : wipeR ρ vs = ρ) (hr : restR ρ ρ vs = ρ)
    (h : ∀ t ∈ ts, ∃ ρd, g (enc t) ρ = some ρd ∧ f ρd = .ok (ψ t, ρd) ∧ wipeR ρd vs = ρ) : oLc it g tYesF f vs ρ0 = .ok (ts.map ψ, ρ) := by
  unfold oLc
  rw [hi, rb]
  dsimp only
  rw [if_pos (show few (ts.map enc).length = true from decide_eq_true (by rw [List.length_map]; exact hf)), hw, lcL_map ts h, rbN, hr]
def boxQ (w h : Int) (p : Rat × Rat) : Q4 := (p.1, p.2, p.1 + (w : Rat), p.2 + (h : Rat))
/-- a name's sides, a view -/
structure Cfg where
  ew : Int
  eh : Int
  va : Int
  vd : Int
  vw : Int
  vh : Int
structure CfgOk (c : Cfg) : Prop where
  ew : c.ew.natAbs < 16
  eh : c.eh.natAbs < 16
  va : c.va.natAbs < 16
  vd : c.vd.natAbs < 16
  vw : c.vw.natAbs < 16
  vh : c.vh.natAbs < 16
def Cfg.view (c : Cfg) : D := encV c.va c.vd c.vw c.vh
def Cfg.win (c : Cfg) (s : Rat) : Q4 := winQ c.va c.vd c.vw c.vh s
def rowQ (c : Cfg) (t : Rat × (Rat × Rat)) : Row := (t.1, gapsQ (boxQ c.ew c.eh t.2) (c.win t.1))
structure PtOk (n m : Nat) (t : Rat × (Rat × Rat)) : Prop where
  bs : Bd n t.1
  bx : Bd m t.2.1
  bY : Bd m t.2.2
theorem box_bd {c : Cfg} (hc : CfgOk c) {m : Nat} {p : Rat × Rat} (h1 : Bd m p.1) (h2 : Bd m p.2) : B4 (m + 5) (boxQ c.ew c.eh p) :=
  ⟨h1.mono (by omega), h2.mono (by omega), (h1.add (.int hc.ew (by decide) : Bd 4 (c.ew : Rat))).mono (by omega), (h2.add (.int hc.eh (by decide) : Bd 4 (c.eh : Rat))).mono (by omega)⟩
theorem win_bd {c : Cfg} (hc : CfgOk c) {n : Nat} {s : Rat} (h : Bd n s) : B4 (n + 9) (c.win s) :=
  ⟨((h.mul (.int hc.va (by decide) : Bd 4 (c.va : Rat))).sub (half_bd hc.vw)).mono (by omega), ((h.mul (.int hc.vd (by decide) : Bd 4 (c.vd : Rat))).sub (half_bd hc.vh)).mono (by omega),
    ((h.mul (.int hc.va (by decide) : Bd 4 (c.va : Rat))).add (half_bd hc.vw)).mono (by omega), ((h.mul (.int hc.vd (by decide) : Bd 4 (c.vd : Rat))).add (half_bd hc.vh)).mono (by omega)⟩
theorem row_ok {c : Cfg} (hc : CfgOk c) {t : Rat × (Rat × Rat)} (h : PtOk 30 200 t) : RowOk (rowQ c t) :=
  ⟨h.bs.mono (by decide), fun q hq => (gaps_bd (box_bd hc h.bx h.bY) (win_bd hc h.bs) q hq).mono (by decide), by show 4 ≤ 1000; decide⟩
section
variable {c : Cfg} {ents : List D} {k : Nat} {e3 e4 : D}
theorem ixT {ds : List D} {k : Nat} {d : D} (h : ds[k]? = some d) : idxF (.tuple ds) (.int (k : Nat)) = .ok d := by
  have hl := (List.getElem?_eq_some_iff.mp h).1
  unfold idxF L2.atI L2.ixN
  dsimp only
  rw [if_pos (by omega), if_pos (by omega)]
  show (match ds[((k : Nat) : Int).toNat]? with | some d => Res.ok d | none => .bad) = _
  rw [Int.toNat_natCast, h]
theorem row_seen (hc : CfgOk c) (hk : ents[k]? = some (encE c.ew c.eh e3 e4)) {t : Rat × (Rat × Rat)} {n m : Nat} (h : PtOk n m t) (hn : n + m ≤ 2000) :
    F_gaps_in [encW (boxQ c.ew c.eh t.2), encW (c.win t.1)] = .ok (.list ((rowQ c t).2.map encQ)) := F_gaps_in_ok (box_bd hc h.bx h.bY) (win_bd hc h.bs) (by omega)
theorem zip_tail (enc : Row → D) : ∀ (rs : List Row), zipD (rs.map enc) (rs.tail.map enc) = (rs.zip rs.tail).map fun p => .tuple [enc p.1, enc p.2] := by
  have key : ∀ (xs ys : List Row), zipD (xs.map enc) (ys.map enc) = (xs.zip ys).map fun p => .tuple [enc p.1, enc p.2] := by
    intro xs
    induction xs with
    | nil => intro ys; simp [zipD]
    | cons x xs ih =>
      intro ys
      cases ys with
      | nil => simp [zipD]
      | cons y ys =>
        rw [List.map_cons, List.map_cons, List.zip_cons_cons, List.map_cons]
        unfold zipD
        rw [ih ys]
  exact fun rs => key rs rs.tail
theorem cut_tail (ds : List D) : cutD ds (some 1) none = ds.tail := by
  unfold cutD
  rw [show (1 : Int) = ((1 : Nat) : Int) from rfl, HT.sIx_nat, HT.sIx_none]
  cases ds with
  | nil => rfl
  | cons d r =>
    show List.take _ (List.drop (min 1 (r.length + 1)) (d :: r)) = r
    have : min 1 (r.length + 1) = 1 := by omega
    rw [this]
    show List.take (r.length + 1 - 1) r = r
    simp
theorem told_mem {book : List (Option Rat)} {kk : Int} : ∀ {gs : List (Rat × List (Rat × Rat))}, (∀ g ∈ gs, GlideOk book g) → ∀ t ∈ told book kk gs, ∃ g ∈ gs, t.1 = g.1 ∧ t.2 ∈ g.2
  | [], _, t, h => by cases h
  | g :: r, hg, t, h => by
    have ih := told_mem (kk := kk) (gs := r) fun x hx => hg x (List.mem_cons_of_mem _ hx)
    unfold told at h
    cases z : idxI kk (shown g.1 0 book) with
    | none =>
      rw [z] at h
      obtain ⟨x, a, b⟩ := ih t h
      exact ⟨x, List.mem_cons_of_mem _ a, b⟩
    | some j =>
      rw [z] at h
      rcases List.mem_cons.mp h with rfl | h
      · refine ⟨g, List.mem_cons_self, rfl, ?_⟩
        have hj : j < g.2.length := by rw [(hg g List.mem_cons_self).len]; exact (idxI_some z).2
        show g.2.getD j (0, 0) ∈ g.2
        rw [List.getD_eq_getElem?_getD, List.getElem?_eq_getElem hj]
        exact List.getElem_mem hj
      · obtain ⟨x, a, b⟩ := ih t h
        exact ⟨x, List.mem_cons_of_mem _ a, b⟩
structure GlOk (book : List (Option Rat)) (g : Rat × List (Rat × Rat)) : Prop where
  bs : Bd 30 g.1
  ln : g.2.length = (shown g.1 0 book).length
  bp : ∀ p ∈ g.2, Bd 200 p.1 ∧ Bd 200 p.2
theorem GlOk.ok {book : List (Option Rat)} {g : Rat × List (Rat × Rat)} (h : GlOk book g) : GlideOk book g := ⟨h.bs.mono (by decide), h.ln⟩
theorem told_ok {book : List (Option Rat)} {kk : Int} {gs : List (Rat × List (Rat × Rat))} (hg : ∀ g ∈ gs, GlOk book g) : ∀ t ∈ told book kk gs, PtOk 30 200 t := fun t ht => by
  obtain ⟨g, a, b, d⟩ := told_mem (fun g hx => (hg g hx).ok) t ht
  obtain ⟨x1, x2⟩ := (hg g a).bp _ d
  exact ⟨by rw [b]; exact (hg g a).bs, x1, x2⟩
def rowsQ (c : Cfg) (book : List (Option Rat)) (gs : List (Rat × List (Rat × Rat))) (k : Nat) : List Row := (told book (k : Nat) gs).map (rowQ c)
def spansQ (c : Cfg) (book : List (Option Rat)) (gs : List (Rat × List (Rat × Rat))) (k : Nat) : List (Rat × Rat) := joinAll ((rowsQ c book gs k).zip (rowsQ c book gs k).tail)
theorem rows_ok (hc : CfgOk c) {book : List (Option Rat)} {gs : List (Rat × List (Rat × Rat))} (hg : ∀ g ∈ gs, GlOk book g) : ∀ p ∈ (rowsQ c book gs k).zip (rowsQ c book gs k).tail, RowOk p.1 ∧ RowOk p.2 ∧ p.1.2 ≠ [] := fun p hp => by
  obtain ⟨a, b⟩ := p
  obtain ⟨h1, h2⟩ := List.of_mem_zip hp
  have h2' : b ∈ rowsQ c book gs k := List.mem_of_mem_tail h2
  obtain ⟨t, ht, rfl⟩ := List.mem_map.mp h1
  obtain ⟨u, hu, rfl⟩ := List.mem_map.mp h2'
  exact ⟨row_ok hc (told_ok hg t ht), row_ok hc (told_ok hg u hu), by show gapsQ _ _ ≠ []; unfold gapsQ; simp⟩
theorem F_sure_name_ok (hk : ents[k]? = some (encE c.ew c.eh e3 e4)) : F_sure_name [.tuple ents, .int (k : Nat)] = .ok (encE c.ew c.eh e3 e4) := by
  have hl := (List.getElem?_eq_some_iff.mp hk).1
  have t1 : tNot1 (tB1 (eFn 1 F_is_number (aCons (eVar 1) aNil))) [.val (.tuple ents), .val (.int (k : Nat))] = .ok (false, [.val (.tuple ents), .val (.int (k : Nat))]) := rfl
  have t2 : tNot1 (tChain2 leI ltI (eC (.int 0)) (eVar 1) (eCall lenF (aCons (eVar 0) aNil))) [.val (.tuple ents), .val (.int (k : Nat))] = .ok (false, [.val (.tuple ents), .val (.int (k : Nat))]) := by
    have h1 : leI (.int 0) (.int (k : Nat)) = .ok (.bool true) := by rw [leI_int, decide_eq_true (by omega)]
    have h2 : ltI (.int (k : Nat)) (.int (ents.length : Nat)) = .ok (.bool true) := by rw [ltI_int, decide_eq_true (by omega)]
    have e : eCall lenF (aCons (eVar 0) aNil) [.val (.tuple ents), .val (.int (k : Nat))] = .ok (.int (ents.length : Nat), [.val (.tuple ents), .val (.int (k : Nat))]) := rfl
    have v1 : eVar 1 [.val (.tuple ents), .val (.int (k : Nat))] = .ok (.int (k : Nat), [.val (.tuple ents), .val (.int (k : Nat))]) := rfl
    simp only [tNot1, tChain2, eC, v1, e, rb, h1, h2]
    rfl
  have t : tOr2 (tNot1 (tB1 (eFn 1 F_is_number (aCons (eVar 1) aNil)))) (tNot1 (tChain2 leI ltI (eC (.int 0)) (eVar 1) (eCall lenF (aCons (eVar 0) aNil)))) [.val (.tuple ents), .val (.int (k : Nat))] = .ok (false, [.val (.tuple ents), .val (.int (k : Nat))]) := by
    unfold tOr2
    rw [t1, rb]
    exact t2
  refine runD_rt (ρ := [.val (.tuple ents), .val (.int (k : Nat))]) ?_
  show m_sure_name [.val (.tuple ents), .val (.int (k : Nat))] = _
  unfold m_sure_name
  rw [seq_nx (show sIf _ (sNp (eVar 1)) sSkip [.val (.tuple ents), .val (.int (k : Nat))] = .ok (.nx, [.val (.tuple ents), .val (.int (k : Nat))]) from by rw [if_ff t]; rfl)]
  refine ret_ok ?_
  have v1 : eVar 1 [.val (.tuple ents), .val (.int (k : Nat))] = .ok (.int (k : Nat), [.val (.tuple ents), .val (.int (k : Nat))]) := rfl
  have v0 : eVar 0 [.val (.tuple ents), .val (.int (k : Nat))] = .ok (.tuple ents, [.val (.tuple ents), .val (.int (k : Nat))]) := rfl
  simp only [eOp, v0, v1, rb, ixT hk]
theorem F_seen_spans_ok (hc : CfgOk c) {book : List (Option Rat)} {gs : List (Rat × List (Rat × Rat))} {cD bD gD vD : D} (hC : F_tuple_of [cD] = .ok (.tuple ents)) (hV : F_tuple_of [vD] = .ok c.view) (hB : F_tuple_of [bD] = .ok (.tuple (book.map encO))) (hG : F_tuple_of [gD] = .ok (.tuple (gs.map encG)))
    (hk : ents[k]? = some (encE c.ew c.eh e3 e4)) (hb : ∀ q, some q ∈ book → Bd 1000 q) (hbl : book.length ≤ 1000) (hg : ∀ g ∈ gs, GlOk book g) (hgl : gs.length ≤ 900) :
    F_seen_spans [cD, bD, gD, vD, .int (k : Nat)] = .ok ((spansQ c book gs k).map encP) := by
  let ts := told book (k : Nat) gs
  have htl : ts.length ≤ 900 := Nat.le_trans (told_len book _ gs) hgl
  let E0 : En := [.val cD, .val bD, .val gD, .val vD, .val (.int (k : Nat)), .no, .no, .val (.tuple ents), .val c.view, .own [], .no, .no, .no, .no, .no, .no, .no, .no]
  let E1 : Sl → Sl → Sl → En := fun rw s15 s16 => [.val cD, .val bD, .val gD, .val vD, .val (.int (k : Nat)), .val (.list (ts.map encT)), rw, .val (.tuple ents), .val c.view, .own [], .no, .no, .no, .no, .no, s15, s16, .no]
  have s1 : sTup [7, 8, 9] (csC (cV (eFn 1 F_tuple_of (aCons (eVar 0) aNil))) (csC (cV (eFn 1 F_tuple_of (aCons (eVar 3) aNil))) (csC (cO (oLst aNil)) csN))) [.val cD, .val bD, .val gD, .val vD, .val (.int (k : Nat)), .no, .no, .no, .no, .no, .no, .no, .no, .no, .no, .no, .no, .no] = .ok (.nx, E0) := by
    have o : oLst aNil [.val cD, .val bD, .val gD, .val vD, .val (.int (k : Nat)), .no, .no, .no, .no, .no, .no, .no, .no, .no, .no, .no, .no, .no] = .ok ([], [.val cD, .val bD, .val gD, .val vD, .val (.int (k : Nat)), .no, .no, .no, .no, .no, .no, .no, .no, .no, .no, .no, .no, .no]) := rfl
    simp only [eFn, eOp, eVar, eC, aCons, aNil, eTup, eLst, rb, List.getElem?_cons_zero, List.getElem?_cons_succ, List.length_cons, List.length_nil, Nat.zero_add, Nat.reduceAdd, few2, if_true, eq_self, ite_true, reduceIte, List.set_cons_zero, List.set_cons_succ, sTup, csC, cV, cO, csN, hC, hV, o, setSs]
    rfl
  have s2 : sDrop (eFn 2 F_sure_name (aCons (eVar 7) (aCons (eVar 4) aNil))) E0 = .ok (.nx, E0) := by
    have h := F_sure_name_ok (c := c) hk
    simp only [eFn, eOp, eVar, eC, aCons, aNil, eTup, eLst, rb, List.getElem?_cons_zero, List.getElem?_cons_succ, List.length_cons, List.length_nil, Nat.zero_add, Nat.reduceAdd, few2, if_true, eq_self, ite_true, reduceIte, List.set_cons_zero, List.set_cons_succ, sDrop, E0, h]
  have s3 : sSet 5 (eFn 3 F_told_places (aCons (eFn 1 F_tuple_of (aCons (eVar 1) aNil)) (aCons (eFn 1 F_tuple_of (aCons (eVar 2) aNil)) (aCons (eVar 4) aNil)))) E0 = .ok (.nx, E1 .no .no .no) := set_ok (ρ1 := E0) (by
    have h := F_told_places_ok book (k : Nat) gs hb hbl (fun g hx => (hg g hx).ok) (by omega)
    simp only [eFn, eOp, eVar, eC, aCons, aNil, eTup, eLst, rb, List.getElem?_cons_zero, List.getElem?_cons_succ, List.length_cons, List.length_nil, Nat.zero_add, Nat.reduceAdd, few2, if_true, eq_self, ite_true, reduceIte, List.set_cons_zero, List.set_cons_succ, E0, hB, hG, h]
    rfl)
  have s4 : sSetO 6 (oLc (iSeq (eVar 5)) (gT 2 (gsC (gN 15) (gsC (gN 16) gsN))) tYesF (eTup (aCons (eVar 15) (aCons (eFn 2 F_gaps_in (aCons (eFn 2 F_box_in (aCons (eOp idxF (eVar 7) (eVar 4)) (aCons (eVar 16) aNil))) (aCons (eFn 2 F_window_in (aCons (eVar 8) (aCons (eVar 15) aNil))) aNil))) aNil))) [15, 16]) (E1 .no .no .no) = .ok (.nx, E1 (.own ((rowsQ c book gs k).map encRL)) .no .no) := by
    have l : oLc (iSeq (eVar 5)) (gT 2 (gsC (gN 15) (gsC (gN 16) gsN))) tYesF (eTup (aCons (eVar 15) (aCons (eFn 2 F_gaps_in (aCons (eFn 2 F_box_in (aCons (eOp idxF (eVar 7) (eVar 4)) (aCons (eVar 16) aNil))) (aCons (eFn 2 F_window_in (aCons (eVar 8) (aCons (eVar 15) aNil))) aNil))) aNil))) [15, 16] (E1 .no .no .no) = .ok (ts.map fun t => encRL (rowQ c t), E1 .no .no .no) := by
      refine lc_mapT (enc := encT) (ρ := E1 .no .no .no) rfl (by omega) rfl rfl fun t ht => ⟨E1 .no (.val (encQ t.1)) (.val (encP t.2)), rfl, ?_, rfl⟩
      have h := told_ok hg t ht
      have b := F_box_in_ok (e := e3) (f := e4) hc.ew hc.eh h.bx h.bY (by decide)
      have w := F_window_in_ok hc.va hc.vd hc.vw hc.vh h.bs (by decide)
      have r := row_seen hc hk h (by decide)
      have b' : F_box_in [encE c.ew c.eh e3 e4, encP t.2] = .ok (encW (boxQ c.ew c.eh t.2)) := b
      have w' : F_window_in [c.view, encQ t.1] = .ok (encW (c.win t.1)) := w
      simp only [eFn, eOp, eVar, eC, aCons, aNil, eTup, eLst, rb, List.getElem?_cons_zero, List.getElem?_cons_succ, List.length_cons, List.length_nil, Nat.zero_add, Nat.reduceAdd, few2, if_true, eq_self, ite_true, reduceIte, List.set_cons_zero, List.set_cons_succ, E1, ixT hk, b', w', r, decide_eq_true le2]
      rfl
    unfold sSetO
    rw [l, rb]
    show Res.ok (Fl.nx, E1 (.own (ts.map fun t => encRL (rowQ c t))) .no .no) = _
    rw [show (rowsQ c book gs k).map encRL = ts.map fun t => encRL (rowQ c t) from by
      show ((told book (k : Nat) gs).map (rowQ c)).map encRL = _
      rw [List.map_map]
      rfl]
  have it : iZipF (aCons (eVar 6) (aCons (eSl (some 1) none (eVar 6)) aNil)) (E1 (.own ((rowsQ c book gs k).map encRL)) .no .no) = .ok (((rowsQ c book gs k).zip (rowsQ c book gs k).tail).map fun p => .tuple [encRL p.1, encRL p.2], E1 (.val (.list ((rowsQ c book gs k).map encRL))) .no .no) := by
    rw [← zip_tail]
    have v6 : eVar 6 (E1 (.own ((rowsQ c book gs k).map encRL)) .no .no) = .ok (.list ((rowsQ c book gs k).map encRL), E1 (.val (.list ((rowsQ c book gs k).map encRL))) .no .no) := rfl
    have w6 : eVar 6 (E1 (.val (.list ((rowsQ c book gs k).map encRL))) .no .no) = .ok (.list ((rowsQ c book gs k).map encRL), E1 (.val (.list ((rowsQ c book gs k).map encRL))) .no .no) := rfl
    have sl : sliF (some 1) none (.list ((rowsQ c book gs k).map encRL)) = .ok (.list ((rowsQ c book gs k).tail.map encRL)) := by
      show Res.ok (PyData.list (cutD _ _ _)) = _
      rw [cut_tail, List.map_tail]
    simp only [iZipF, aCons, aNil, eSl, v6, w6, rb, sl]
  have hlz : ((rowsQ c book gs k).zip (rowsQ c book gs k).tail).length ≤ 1000 := by
    rw [List.length_zip]
    have : (rowsQ c book gs k).length ≤ 900 := by
      show ((told book (k : Nat) gs).map (rowQ c)).length ≤ 900
      rw [List.length_map]
      exact htl
    omega
  obtain ⟨t10, t11, t12, t13, t14, lp⟩ := ss_loop (c := .val cD) (bk := .val bD) (gl := .val gD) (vw := .val vD) (nm := .val (.int (k : Nat))) (pl := .val (.list (ts.map encT))) (rw := .val (.list ((rowsQ c book gs k).map encRL))) (own := .val (.tuple ents)) (sh := .val c.view)
    ((rowsQ c book gs k).zip (rowsQ c book gs k).tail) [] .no .no .no .no .no (fun p hp => ⟨(rows_ok hc hg p hp).1, (rows_ok hc hg p hp).2.1⟩) (by simp; simpa using hlz)
  have s5 := (for_ok (g := ssG) (b := ssB) it).trans lp
  have fin : m_seen_spans [.val cD, .val bD, .val gD, .val vD, .val (.int (k : Nat)), .no, .no, .no, .no, .no, .no, .no, .no, .no, .no, .no, .no, .no] = .ok (.ro ((spansQ c book gs k).map encP), ssE (.val cD) (.val bD) (.val gD) (.val vD) (.val (.int (k : Nat))) (.val (.list (ts.map encT))) (.val (.list ((rowsQ c book gs k).map encRL))) (.val (.tuple ents)) (.val c.view) (spansQ c book gs k) t10 t11 t12 t13 t14) := by
    unfold m_seen_spans
    rw [seq_nx s1, seq_nx s2, seq_nx s3, seq_nx s4, seq_nx s5]
    rfl
  show runO 18 m_seen_spans _ = _
  unfold runO
  rw [show ini 18 [cD, bD, gD, vD, .int (k : Nat)] = [.val cD, .val bD, .val gD, .val vD, .val (.int (k : Nat)), .no, .no, .no, .no, .no, .no, .no, .no, .no, .no, .no, .no, .no] from rfl, fin]
theorem F_law_ranges_ok (hc : CfgOk c) {book : List (Option Rat)} {gs : List (Rat × List (Rat × Rat))} (hk : ents[k]? = some (encE c.ew c.eh e3 e4)) (hb : ∀ q, some q ∈ book → Bd 1000 q) (hbl : book.length ≤ 1000) (hg : ∀ g ∈ gs, GlOk book g) (hgl : gs.length ≤ 900) :
    F_law_ranges [.tuple ents, .tuple (book.map encO), .tuple (gs.map encG), c.view, .int (k : Nat)] = .ok (.list ((spansQ c book gs k).map encP)) := by
  let ts := told book (k : Nat) gs
  have htl : ts.length ≤ 900 := Nat.le_trans (told_len book _ gs) hgl
  let I0 : En := [.val (.tuple ents), .val (.tuple (book.map encO)), .val (.tuple (gs.map encG)), .val c.view, .val (.int (k : Nat)), .no, .no, .no, .no, .no, .no, .no, .no, .no, .no, .no]
  let E1 : Sl → Sl → Sl → En := fun rw s13 s14 => [.val (.tuple ents), .val (.tuple (book.map encO)), .val (.tuple (gs.map encG)), .val c.view, .val (.int (k : Nat)), rw, .own [], .val (.list (ts.map encT)), .no, .no, .no, .no, .no, s13, s14, .no]
  have s1 : sTup [6, 7] (csC (cO (oLst aNil)) (csC (cV (eFn 3 F_law_spots (aCons (eVar 1) (aCons (eVar 2) (aCons (eVar 4) aNil))))) csN)) I0 = .ok (.nx, E1 .no .no .no) := by
    have o : oLst aNil I0 = .ok ([], I0) := rfl
    have h := F_law_spots_ok book (k : Nat) gs hb hbl (fun g hx => (hg g hx).ok) (by omega)
    have v : eFn 3 F_law_spots (aCons (eVar 1) (aCons (eVar 2) (aCons (eVar 4) aNil))) I0 = .ok (.list (ts.map encT), I0) := by
      simp only [eFn, eOp, eVar, eC, aCons, aNil, eTup, eLst, rb, List.getElem?_cons_zero, List.getElem?_cons_succ, List.length_cons, List.length_nil, Nat.zero_add, Nat.reduceAdd, few2, if_true, eq_self, ite_true, reduceIte, List.set_cons_zero, List.set_cons_succ, I0, h]
      rfl
    simp only [sTup, csC, cV, cO, csN, o, v, rb, setSs]
    rfl
  have s4 : sSetO 5 (oLc (iSeq (eVar 7)) (gT 2 (gsC (gN 13) (gsC (gN 14) gsN))) tYesF (eTup (aCons (eVar 13) (aCons (eFn 2 F_law_gaps (aCons (eFn 3 F_law_frame (aCons (eVar 0) (aCons (eVar 4) (aCons (eVar 14) aNil)))) (aCons (eFn 2 F_law_pane (aCons (eVar 3) (aCons (eVar 13) aNil))) aNil))) aNil))) [13, 14]) (E1 .no .no .no) = .ok (.nx, E1 (.own ((rowsQ c book gs k).map encRT)) .no .no) := by
    have l : oLc (iSeq (eVar 7)) (gT 2 (gsC (gN 13) (gsC (gN 14) gsN))) tYesF (eTup (aCons (eVar 13) (aCons (eFn 2 F_law_gaps (aCons (eFn 3 F_law_frame (aCons (eVar 0) (aCons (eVar 4) (aCons (eVar 14) aNil)))) (aCons (eFn 2 F_law_pane (aCons (eVar 3) (aCons (eVar 13) aNil))) aNil))) aNil))) [13, 14] (E1 .no .no .no) = .ok (ts.map fun t => encRT (rowQ c t), E1 .no .no .no) := by
      refine lc_mapT (enc := encT) (ρ := E1 .no .no .no) rfl (by omega) rfl rfl fun t ht => ⟨E1 .no (.val (encQ t.1)) (.val (encP t.2)), rfl, ?_, rfl⟩
      have h := told_ok hg t ht
      have b := F_law_frame_ok (chart := .tuple ents) (k := (k : Nat)) (e := e3) (f := e4) (ixT hk) hc.ew hc.eh h.bx h.bY (by decide)
      have w := F_law_pane_ok hc.va hc.vd hc.vw hc.vh h.bs (by decide)
      have r := F_law_gaps_ok (box_bd hc h.bx h.bY) (win_bd hc h.bs) (by decide)
      have b' : F_law_frame [.tuple ents, .int (k : Nat), encP t.2] = .ok (encW (boxQ c.ew c.eh t.2)) := b
      have w' : F_law_pane [c.view, encQ t.1] = .ok (encW (c.win t.1)) := w
      simp only [eFn, eOp, eVar, eC, aCons, aNil, eTup, eLst, rb, List.getElem?_cons_zero, List.getElem?_cons_succ, List.length_cons, List.length_nil, Nat.zero_add, Nat.reduceAdd, few2, if_true, eq_self, ite_true, reduceIte, List.set_cons_zero, List.set_cons_succ, E1, b', w', r, decide_eq_true le2]
      rfl
    unfold sSetO
    rw [l, rb]
    show Res.ok (Fl.nx, E1 (.own (ts.map fun t => encRT (rowQ c t))) .no .no) = _
    rw [show (rowsQ c book gs k).map encRT = ts.map fun t => encRT (rowQ c t) from by
      show ((told book (k : Nat) gs).map (rowQ c)).map encRT = _
      rw [List.map_map]
      rfl]
  have it : iZipF (aCons (eVar 5) (aCons (eSl (some 1) none (eVar 5)) aNil)) (E1 (.own ((rowsQ c book gs k).map encRT)) .no .no) = .ok (((rowsQ c book gs k).zip (rowsQ c book gs k).tail).map fun p => .tuple [encRT p.1, encRT p.2], E1 (.val (.list ((rowsQ c book gs k).map encRT))) .no .no) := by
    rw [← zip_tail]
    have v6 : eVar 5 (E1 (.own ((rowsQ c book gs k).map encRT)) .no .no) = .ok (.list ((rowsQ c book gs k).map encRT), E1 (.val (.list ((rowsQ c book gs k).map encRT))) .no .no) := rfl
    have w6 : eVar 5 (E1 (.val (.list ((rowsQ c book gs k).map encRT))) .no .no) = .ok (.list ((rowsQ c book gs k).map encRT), E1 (.val (.list ((rowsQ c book gs k).map encRT))) .no .no) := rfl
    have sl : sliF (some 1) none (.list ((rowsQ c book gs k).map encRT)) = .ok (.list ((rowsQ c book gs k).tail.map encRT)) := by
      show Res.ok (PyData.list (cutD _ _ _)) = _
      rw [cut_tail, List.map_tail]
    simp only [iZipF, aCons, aNil, eSl, v6, w6, rb, sl]
  have hlz : ((rowsQ c book gs k).zip (rowsQ c book gs k).tail).length ≤ 1000 := by
    rw [List.length_zip]
    have : (rowsQ c book gs k).length ≤ 900 := by
      show ((told book (k : Nat) gs).map (rowQ c)).length ≤ 900
      rw [List.length_map]
      exact htl
    omega
  obtain ⟨t8, t9, t10, t11, t12, lp⟩ := lw_loop (c := .val (.tuple ents)) (bk := .val (.tuple (book.map encO))) (gl := .val (.tuple (gs.map encG))) (lk := .val c.view) (nm := .val (.int (k : Nat))) (rw := .val (.list ((rowsQ c book gs k).map encRT))) (sp := .val (.list (ts.map encT)))
    ((rowsQ c book gs k).zip (rowsQ c book gs k).tail) [] .no .no .no .no .no (fun p hp => rows_ok hc hg p hp) (by simp; simpa using hlz)
  have s5 := (for_ok (g := lwG) (b := lwB) it).trans lp
  refine runD_ro (ρ := lwE (.val (.tuple ents)) (.val (.tuple (book.map encO))) (.val (.tuple (gs.map encG))) (.val c.view) (.val (.int (k : Nat))) (.val (.list ((rowsQ c book gs k).map encRT))) (spansQ c book gs k) (.val (.list (ts.map encT))) t8 t9 t10 t11 t12) ?_
  show m_law_ranges I0 = _
  unfold m_law_ranges
  rw [seq_nx s1, seq_nx s4, seq_nx s5]
  rfl
/-! ### seen -/
theorem F_seen_ok (hc : CfgOk c) {cD lD sD vD aD : D} {p : Rat × Rat} {s : Rat} (hC : F_tuple_of [cD] = .ok (.tuple ents)) (hW : F_window [vD, aD] = .ok (encW (c.win s))) (hL : F_tuple_of [lD] = .ok (.tuple [.int (k : Nat)])) (hS : F_tuple_of [sD] = .ok (.tuple [encP p]))
    (hk : ents[k]? = some (encE c.ew c.eh e3 e4)) {n m : Nat} (hs : Bd n s) (h1 : Bd m p.1) (h2 : Bd m p.2) (hn : n + m ≤ 2000) :
    F_seen [cD, lD, sD, vD, aD] = .ok (.tuple (if (gapsQ (boxQ c.ew c.eh p) (c.win s)).all (fun q => decide (0 < q)) = true then [.int (k : Nat)] else [])) := by
  let b : Bool := (gapsQ (boxQ c.ew c.eh p) (c.win s)).all fun q => decide (0 < q)
  let E : Sl → Sl → Sl → En := fun s5 s8 s9 => [.val cD, .val lD, .val sD, .val vD, .val aD, s5, .val (.tuple ents), .val (encW (c.win s)), s8, s9]
  have s1 : sTup [6, 7] (csC (cV (eFn 1 F_tuple_of (aCons (eVar 0) aNil))) (csC (cV (eFn 2 F_window (aCons (eVar 3) (aCons (eVar 4) aNil)))) csN)) [.val cD, .val lD, .val sD, .val vD, .val aD, .no, .no, .no, .no, .no] = .ok (.nx, E .no .no .no) := by
    simp only [eFn, eOp, eVar, eC, aCons, aNil, eTup, eLst, rb, List.getElem?_cons_zero, List.getElem?_cons_succ, List.length_cons, List.length_nil, Nat.zero_add, Nat.reduceAdd, few2, if_true, eq_self, ite_true, reduceIte, List.set_cons_zero, List.set_cons_succ, sTup, csC, cV, csN, hC, hW, setSs]
    rfl
  have bx : F_box_in [encE c.ew c.eh e3 e4, encP p] = .ok (encW (boxQ c.ew c.eh p)) := F_box_in_ok hc.ew hc.eh h1 h2 (by omega)
  have mt : F_meets [encW (boxQ c.ew c.eh p), encW (c.win s)] = .ok (.bool b) := F_meets_ok (box_bd hc h1 h2) (win_bd hc hs) (by omega)
  have tt : tB1 (eFn 2 F_meets (aCons (eFn 2 F_box_in (aCons (eOp idxF (eVar 6) (eVar 8)) (aCons (eVar 9) aNil))) (aCons (eVar 7) aNil))) (E .no (.val (.int (k : Nat))) (.val (encP p))) = .ok (b, E .no (.val (.int (k : Nat))) (.val (encP p))) := tb_ok (by
    simp only [eFn, eOp, eVar, eC, aCons, aNil, eTup, eLst, rb, List.getElem?_cons_zero, List.getElem?_cons_succ, List.length_cons, List.length_nil, Nat.zero_add, Nat.reduceAdd, few2, if_true, eq_self, ite_true, reduceIte, List.set_cons_zero, List.set_cons_succ, E, ixT hk, bx, mt])
  have lc : lcL (gT 2 (gsC (gN 8) (gsC (gN 9) gsN))) (tB1 (eFn 2 F_meets (aCons (eFn 2 F_box_in (aCons (eOp idxF (eVar 6) (eVar 8)) (aCons (eVar 9) aNil))) (aCons (eVar 7) aNil)))) (eVar 8) [8, 9] (zipD [.int (k : Nat)] [encP p]) (E .no .no .no) = .ok (if b = true then [.int (k : Nat)] else [], E .no .no .no) := by
    show lcL _ _ _ _ [.tuple [.int (k : Nat), encP p]] _ = _
    conv => lhs; unfold lcL
    rw [show (gT 2 (gsC (gN 8) (gsC (gN 9) gsN))) (.tuple [.int (k : Nat), encP p]) (E .no .no .no) = some (E .no (.val (.int (k : Nat))) (.val (encP p))) from rfl]
    dsimp only
    rw [tt, rbN]
    dsimp only
    cases b with
    | true => rfl
    | false => rfl
  refine runD_rt (ρ := E .no .no .no) ?_
  show m_seen [.val cD, .val lD, .val sD, .val vD, .val aD, .no, .no, .no, .no, .no] = _
  unfold m_seen
  rw [seq_nx s1]
  have a1 : aCons (eFn 1 F_tuple_of (aCons (eVar 1) aNil)) (aCons (eFn 1 F_tuple_of (aCons (eVar 2) aNil)) aNil) (E .no .no .no) = .ok ([.tuple [.int (k : Nat)], .tuple [encP p]], E .no .no .no) := by
    simp only [eFn, eOp, eVar, eC, aCons, aNil, eTup, eLst, rb, List.getElem?_cons_zero, List.getElem?_cons_succ, List.length_cons, List.length_nil, Nat.zero_add, Nat.reduceAdd, few2, if_true, eq_self, ite_true, reduceIte, List.set_cons_zero, List.set_cons_succ, E, hL, hS]
  unfold sZipRet
  rw [a1, rb]
  dsimp only
  rw [if_pos (show (decide (5 < (E .no .no .no).length) && few (zipD [PyData.int (k : Nat)] [encP p]).length) = true from rfl)]
  rw [show wipeR ((E .no .no .no).set 5 .no) [8, 9] = E .no .no .no from rfl, lc, rbN]
  rfl
end
end GN

set_option Elab.async false
set_option linter.all false
set_option maxRecDepth 100000
set_option maxHeartbeats 8000000
/-! M11: the three defs that call themselves. -/
namespace GN
open PySem
theorem few_le {n : Nat} (h : n ≤ 100000) : few n = true := decide_eq_true h
def TT (n : Nat) (d e : D) : Prop := recG 2 m_tuple_of n [d] = .ok e
def LL (n : Nat) (d e : D) : Prop := recG 2 m_law_lists n [d] = .ok e
def SS (n : Nat) (d e : D) : Prop := recG 4 m_law_same n [d, e] = .ok (.bool true)
theorem TT.int (n : Nat) (i : Int) : TT (n + 1) (.int i) (.int i) := rfl
theorem TT.none (n : Nat) : TT (n + 1) .none .none := rfl
theorem LL.int (n : Nat) (i : Int) : LL (n + 1) (.int i) (.int i) := rfl
theorem LL.none (n : Nat) : LL (n + 1) .none .none := rfl
theorem f_one {i : Nat} {F : List D → Res D} {ρ : En} {d e : D} (h0 : ρ[i]? = some (.val d)) (h : F [d] = .ok e) : eFn 1 F (aCons (eVar i) aNil) ρ = .ok (e, ρ) := by
  simp only [eFn, eOp, eVar, eC, aCons, aNil, eTup, eLst, rb, List.getElem?_cons_zero, List.getElem?_cons_succ, List.length_cons, List.length_nil, Nat.zero_add, Nat.reduceAdd, few2, if_true, eq_self, ite_true, reduceIte, List.set_cons_zero, List.set_cons_succ, h0, h]
theorem f_two {i j : Nat} {F : List D → Res D} {ρ : En} {d d' e : D} (h0 : ρ[i]? = some (.val d)) (h1 : ρ[j]? = some (.val d')) (h : F [d, d'] = .ok e) : eFn 2 F (aCons (eVar i) (aCons (eVar j) aNil)) ρ = .ok (e, ρ) := by
  simp only [eFn, eOp, eVar, eC, aCons, aNil, eTup, eLst, rb, List.getElem?_cons_zero, List.getElem?_cons_succ, List.length_cons, List.length_nil, Nat.zero_add, Nat.reduceAdd, few2, if_true, eq_self, ite_true, reduceIte, List.set_cons_zero, List.set_cons_succ, h0, h1, h]
theorem op_two {i j : Nat} {F : D → D → Res D} {ρ : En} {d d' e : D} (h0 : ρ[i]? = some (.val d)) (h1 : ρ[j]? = some (.val d')) (h : F d d' = .ok e) : eOp F (eVar i) (eVar j) ρ = .ok (e, ρ) := by
  simp only [eFn, eOp, eVar, eC, aCons, aNil, eTup, eLst, rb, List.getElem?_cons_zero, List.getElem?_cons_succ, List.length_cons, List.length_nil, Nat.zero_add, Nat.reduceAdd, few2, if_true, eq_self, ite_true, reduceIte, List.set_cons_zero, List.set_cons_succ, h0, h1, h]
theorem and_e {f g : EF} {ρ ρ1 : En} (h : f ρ = .ok (.bool true, ρ1)) : eAnd2 f g ρ = g ρ1 := by
  unfold eAnd2
  rw [h, rb]
theorem TT.seq (n : Nat) (xs : List (D × D)) (hl : xs.length ≤ 100000) (h : ∀ x ∈ xs, TT n x.1 x.2) {d : D} (hd : d = .tuple (xs.map Prod.fst) ∨ d = .list (xs.map Prod.fst)) : TT (n + 1) d (.tuple (xs.map Prod.snd)) := by
  have hi : iSeq (eVar 0) [.val d, .no] = .ok (xs.map Prod.fst, [.val d, .no]) := by
    cases hd with
    | inl h => subst h; rfl
    | inr h => subst h; rfl
  have ht : tB1 (eIs2 "list" "tuple" (eVar 0)) [.val d, .no] = .ok (true, [.val d, .no]) := by
    cases hd with
    | inl h => subst h; rfl
    | inr h => subst h; rfl
  refine runD_rt (ρ := [.val d, .no]) ?_
  show m_tuple_of (recG 2 m_tuple_of n) [.val d, .no] = _
  unfold m_tuple_of
  refine seq_rt ?_
  rw [if_tt ht]
  refine ret_ok (call_ok (cons_ok (fz_ok (lc_mapT (enc := Prod.fst) (ψ := Prod.snd) (ρ := [.val d, .no]) hi hl rfl rfl fun t h1 => ⟨[.val d, .val t.1], rfl, ?_, rfl⟩)) nil_ok) rfl)
  exact f_one rfl (h t h1)
theorem LL.seq (n : Nat) (xs : List (D × D)) (hl : xs.length ≤ 100000) (h : ∀ x ∈ xs, LL n x.1 x.2) {d : D} (hd : d = .tuple (xs.map Prod.fst) ∨ d = .list (xs.map Prod.fst)) : LL (n + 1) d (.list (xs.map Prod.snd)) := by
  have hi : iSeq (eVar 0) [.val d, .no] = .ok (xs.map Prod.fst, [.val d, .no]) := by
    cases hd with
    | inl h => subst h; rfl
    | inr h => subst h; rfl
  have ht : tB1 (eIs2 "list" "tuple" (eVar 0)) [.val d, .no] = .ok (true, [.val d, .no]) := by
    cases hd with
    | inl h => subst h; rfl
    | inr h => subst h; rfl
  refine runD_rt (ρ := [.val d, .no]) ?_
  show m_law_lists (recG 2 m_law_lists n) [.val d, .no] = _
  unfold m_law_lists
  refine ret_ok ?_
  unfold eIf
  rw [ht, rb]
  show eFz _ _ = _
  exact fz_ok (lc_mapT (enc := Prod.fst) (ψ := Prod.snd) (ρ := [.val d, .no]) hi hl rfl rfl fun t h1 => ⟨[.val d, .val t.1], rfl, f_one rfl (h t h1), rfl⟩)
theorem SS.int (n : Nat) (i : Int) : SS (n + 1) (.int i) (.int i) := by
  have e : eqF (.int i) (.int i) = .ok (.bool true) := by
    have e1 : eqF (.int i) (.int i) = .ok (.bool (PyData.eqv (.int i) (.int i))) := rfl
    rw [e1]
    have e2 : PyData.eqv (.int i) (.int i) = decide (i = i) := rfl
    rw [e2, decide_eq_true rfl]
  refine runD_rt (ρ := [.val (.int i), .val (.int i), .no, .no]) ?_
  show m_law_same (recG 4 m_law_same n) [.val (.int i), .val (.int i), .no, .no] = _
  unfold m_law_same
  rw [seq_nx (ρ1 := [.val (.int i), .val (.int i), .no, .no]) rfl, seq_nx (ρ1 := [.val (.int i), .val (.int i), .no, .no]) rfl]
  refine ret_ok ?_
  rw [and_e (ρ1 := [.val (.int i), .val (.int i), .no, .no]) rfl, and_e (ρ1 := [.val (.int i), .val (.int i), .no, .no]) rfl]
  exact op_two rfl rfl e
theorem zipD_pairs : ∀ (xs : List (D × D)), zipD (xs.map Prod.fst) (xs.map Prod.snd) = xs.map fun x => .tuple [x.1, x.2]
  | [] => rfl
  | x :: r => by
    rw [List.map_cons, List.map_cons, List.map_cons]
    show _ :: zipD _ _ = _
    rw [zipD_pairs r]
theorem all_true {α : Type} : ∀ (xs : List α), allF [.list (xs.map fun _ => .bool true)] = .ok (.bool true) := by
  intro xs
  have : blsOf (xs.map fun _ => .bool true) = some (xs.map fun _ => true) := by
    induction xs with
    | nil => rfl
    | cons x r ih => rw [List.map_cons]; simp only [blsOf, ih, List.map_cons, Option.map_some]
  unfold allF
  dsimp only
  rw [this]
  show Res.ok (PyData.bool _) = _
  congr 2
  clear this
  induction xs with
  | nil => rfl
  | cons x r ih => simp
theorem SS.seq (n : Nat) (xs : List (D × D)) (hl : xs.length ≤ 100000) (h : ∀ x ∈ xs, SS n x.1 x.2) {d e : D} (hd : (d = .tuple (xs.map Prod.fst) ∧ e = .tuple (xs.map Prod.snd)) ∨ (d = .list (xs.map Prod.fst) ∧ e = .list (xs.map Prod.snd))) : SS (n + 1) d e := by
  let R : En := [.val d, .val e, .no, .no]
  have hi : iZipF (aCons (eVar 0) (aCons (eVar 1) aNil)) R = .ok (xs.map fun x => .tuple [x.1, x.2], R) := by
    rw [← zipD_pairs]
    cases hd with
    | inl h => obtain ⟨rfl, rfl⟩ := h; rfl
    | inr h => obtain ⟨rfl, rfl⟩ := h; rfl
  have ht : tB1 (eIs2 "list" "tuple" (eVar 1)) R = .ok (true, R) := by
    cases hd with
    | inl h => obtain ⟨rfl, rfl⟩ := h; rfl
    | inr h => obtain ⟨rfl, rfl⟩ := h; rfl
  have hu : tOr2 (tB1 (eOp neF (eIs "list" (eVar 0)) (eIs "list" (eVar 1)))) (tB1 (eOp neF (eIs "tuple" (eVar 0)) (eIs "tuple" (eVar 1)))) R = .ok (false, R) := by
    cases hd with
    | inl h => obtain ⟨rfl, rfl⟩ := h; rfl
    | inr h => obtain ⟨rfl, rfl⟩ := h; rfl
  have hq : eOp eqF (eCall lenF (aCons (eVar 0) aNil)) (eCall lenF (aCons (eVar 1) aNil)) R = .ok (.bool true, R) := by
    have e1 : eCall lenF (aCons (eVar 0) aNil) R = .ok (.int (xs.length : Nat), R) := by
      have : (xs.map Prod.fst).length = xs.length := List.length_map ..
      rw [← this]
      cases hd with
      | inl h => obtain ⟨rfl, rfl⟩ := h; rfl
      | inr h => obtain ⟨rfl, rfl⟩ := h; rfl
    have e2 : eCall lenF (aCons (eVar 1) aNil) R = .ok (.int (xs.length : Nat), R) := by
      have : (xs.map Prod.snd).length = xs.length := List.length_map ..
      rw [← this]
      cases hd with
      | inl h => obtain ⟨rfl, rfl⟩ := h; rfl
      | inr h => obtain ⟨rfl, rfl⟩ := h; rfl
    have e3 : eqF (.int (xs.length : Nat)) (.int (xs.length : Nat)) = .ok (.bool (decide ((xs.length : Int) = xs.length))) := rfl
    rw [decide_eq_true rfl] at e3
    simp only [eOp, e1, e2, rb, e3]
  refine runD_rt (ρ := R) ?_
  show m_law_same (recG 4 m_law_same n) R = _
  unfold m_law_same
  refine seq_rt ?_
  rw [if_tt ht]
  rw [seq_nx (ρ1 := R) (by rw [if_ff hu]; rfl)]
  refine ret_ok ?_
  unfold eAnd2
  rw [hq, rb]
  refine call_ok (cons_ok (fz_ok (lc_mapT (enc := fun x : D × D => .tuple [x.1, x.2]) (ψ := fun _ => .bool true) (ρ := R) hi hl rfl rfl fun t h1 => ⟨[.val d, .val e, .val t.1, .val t.2], rfl, ?_, rfl⟩)) nil_ok) (all_true xs)
  exact f_two rfl rfl (h t h1)
end GN

set_option Elab.async false
set_option linter.all false
set_option maxRecDepth 100000
set_option maxHeartbeats 8000000
/-! M12: what is drawn. -/
namespace GN
open PySem
def Tn (k : Nat) (ms : List D) : Prop := ∃ u0 u1 u2 : Int, ms = [.int u0, .int u1, .int u2] ∧ 0 ≤ u1 ∧ u1 < 2 ^ 70 ∧ 0 ≤ u2 ∧ u2 ≤ k
theorem opk {F : D → D → Res D} {f g : EF} {ρ ρ1 ρ2 : En} {a b d : D} (h1 : f ρ = .ok (a, ρ1)) (h2 : g ρ1 = .ok (b, ρ2)) (h : F a b = .ok d) : eOp F f g ρ = .ok (d, ρ2) := by
  simp only [eOp, h1, h2, rb, h]
theorem intk {f : EF} {ρ ρ1 : En} {i : Int} (h : f ρ = .ok (.int i, ρ1)) : eCall intF (aCons f aNil) ρ = .ok (.int i, ρ1) := call_ok (cons_ok h nil_ok) rfl
theorem modk {i j : Int} (h : 0 < j) : modI (.int i) (.int j) = .ok (.int (i % j)) := by
  have e : modI (.int i) (.int j) = if 0 < j then Res.ok (PyData.int (i % j)) else .bad := rfl
  rw [e, if_pos h]
theorem mulk {i j : Int} (h : j.natAbs < 2 ^ 63) : mulF (.int i) (.int j) = .ok (.int (i * j)) := mulF_ok (by rw [decide_eq_true h, Bool.or_true])
theorem runM_rt {N : Nat} {f : SF} {ms ds es : List D} {d : D} {ρ : En} (h : f (iniM N ms ds) = .ok (.rt d, ρ)) (h0 : ρ[0]? = some (.own es)) : runM N f ms ds = .ok (d, es) := by
  unfold runM
  rw [h]
  dsimp only
  rw [h0]
theorem F_law_take_ok {k : Nat} {ms : List D} (h : Tn k ms) (hk : k < 2 ^ 40) {n : Int} (hn : 0 < n) (hs : n < 2 ^ 40) : ∃ v ms', F_law_take ms [.int n] = .ok (.int v, ms') ∧ 0 ≤ v ∧ v < n ∧ Tn (k + 1) ms' := by
  obtain ⟨u0, u1, u2, rfl, a1, a2, b1, b2⟩ := h
  have sn : sml n = true := sml_of (n := 40) (by omega) (by decide)
  by_cases h0 : 0 < u0
  · have e1 : tB1 (eOp gtI (eIxO 0 (eC (.int 0))) (eC (.int 0))) [.own [.int u0, .int u1, .int u2], .val (.int n), .no, .no, .no, .no] = .ok (true, [.own [.int u0, .int u1, .int u2], .val (.int n), .no, .no, .no, .no]) := by
      have : tB1 (eOp gtI (eIxO 0 (eC (.int 0))) (eC (.int 0))) [.own [.int u0, .int u1, .int u2], .val (.int n), .no, .no, .no, .no] = .ok (decide (0 < u0), [.own [.int u0, .int u1, .int u2], .val (.int n), .no, .no, .no, .no]) := rfl
      rw [this, decide_eq_true h0]
    refine ⟨u0 % n, [.int (u0.fdiv n), .int u1, .int u2], ?_, Int.emod_nonneg _ (by omega), Int.emod_lt_of_pos _ hn, ⟨_, _, _, rfl, a1, a2, b1, by omega⟩⟩
    refine runM_rt (ρ := [.own [.int (u0.fdiv n), .int u1, .int u2], .val (.int n), .no, .no, .no, .val (.int (u0 % n))]) ?_ rfl
    show m_law_take [.own [.int u0, .int u1, .int u2], .val (.int n), .no, .no, .no, .no] = _
    unfold m_law_take
    refine seq_rt ?_
    rw [if_tt e1]
    rw [seq_nx (set_ok (opk (intk (i := u0) rfl) rfl (modk hn)))]
    have e2 : eOp fdivI (eIxO 0 (eC (.int 0))) (eVar 1) [.own [.int u0, .int u1, .int u2], .val (.int n), .no, .no, .no, .val (.int (u0 % n))] = .ok (.int (u0.fdiv n), [.own [.int u0, .int u1, .int u2], .val (.int n), .no, .no, .no, .val (.int (u0 % n))]) := opk (a := .int u0) (b := .int n) rfl rfl (fdivI_ok (by omega) sn)
    rw [seq_nx (ρ1 := [.own [.int (u0.fdiv n), .int u1, .int u2], .val (.int n), .no, .no, .no, .val (.int (u0 % n))]) (by
      show sPut 0 (eC (.int 0)) _ [.own [.int u0, .int u1, .int u2], .val (.int n), .no, .no, .no, .val (.int (u0 % n))] = _
      unfold sPut
      rw [e2, rb]
      rfl)]
    rfl
  · have e1 : tB1 (eOp gtI (eIxO 0 (eC (.int 0))) (eC (.int 0))) [.own [.int u0, .int u1, .int u2], .val (.int n), .no, .no, .no, .no] = .ok (false, [.own [.int u0, .int u1, .int u2], .val (.int n), .no, .no, .no, .no]) := by
      have : tB1 (eOp gtI (eIxO 0 (eC (.int 0))) (eC (.int 0))) [.own [.int u0, .int u1, .int u2], .val (.int n), .no, .no, .no, .no] = .ok (decide (0 < u0), [.own [.int u0, .int u1, .int u2], .val (.int n), .no, .no, .no, .no]) := rfl
      rw [this, decide_eq_false h0]
    let w := ((u1 + 48271 * (u2 + 1)) * (39373 + (u2 + 1))) % 2147483647
    let far := w % 40009 + 7
    let tw := ((w + (u2 + 1) + u1.fdiv 1000003) * far) % 2147483629
    have hf0 : 0 ≤ w % 40009 := Int.emod_nonneg _ (by decide)
    have hf1 : w % 40009 < 40009 := Int.emod_lt_of_pos _ (by decide)
    have hf : far.natAbs < 2 ^ 63 := by
      show (w % 40009 + 7).natAbs < _
      omega
    let v := (((tw * 48271 + w) % 2147483587).fdiv 64) % n
    let R1 : Sl → Sl → Sl → En := fun x y z => [.own [.int u0, .int u1, .int (u2 + 1)], .val (.int n), x, y, z, .no]
    refine ⟨v, [.int u0, .int u1, .int (u2 + 1)], ?_, Int.emod_nonneg _ (by omega), Int.emod_lt_of_pos _ hn, ⟨_, _, _, rfl, a1, a2, by omega, by omega⟩⟩
    refine runM_rt (ρ := R1 (.val (.int w)) (.val (.int far)) (.val (.int tw))) ?_ rfl
    show m_law_take [.own [.int u0, .int u1, .int u2], .val (.int n), .no, .no, .no, .no] = _
    unfold m_law_take
    rw [seq_nx (ρ1 := [.own [.int u0, .int u1, .int u2], .val (.int n), .no, .no, .no, .no]) (by rw [if_ff e1]; rfl)]
    rw [seq_nx (ρ1 := R1 .no .no .no) rfl]
    have s2 : eOp modI (eCall intF (aCons (eOp mulF (eOp addF (eIxO 0 (eC (.int 1))) (eOp mulF (eC (.int 48271)) (eIxO 0 (eC (.int 2))))) (eOp addF (eC (.int 39373)) (eIxO 0 (eC (.int 2))))) aNil)) (eC (.int 2147483647)) (R1 .no .no .no) = .ok (.int w, R1 .no .no .no) := by
      have m1 : mulF (.int 48271) (.int (u2 + 1)) = .ok (.int (48271 * (u2 + 1))) := mulk (by omega)
      have m2 : mulF (.int (u1 + 48271 * (u2 + 1))) (.int (39373 + (u2 + 1))) = .ok (.int ((u1 + 48271 * (u2 + 1)) * (39373 + (u2 + 1)))) := mulk (by omega)
      have x1 : eIxO 0 (eC (.int 1)) (R1 .no .no .no) = .ok (.int u1, R1 .no .no .no) := rfl
      have x2 : eIxO 0 (eC (.int 2)) (R1 .no .no .no) = .ok (.int (u2 + 1), R1 .no .no .no) := rfl
      exact opk (intk (opk (opk x1 (opk (a := .int 48271) rfl x2 m1) (addF_int _ _)) (opk (a := .int 39373) rfl x2 (addF_int _ _)) m2)) (b := .int 2147483647) rfl (modk (by decide))
    rw [seq_nx (ρ1 := R1 (.val (.int w)) .no .no) (set_ok s2)]
    have s3 : eOp addF (eOp modI (eCall intF (aCons (eVar 2) aNil)) (eC (.int 40009))) (eC (.int 7)) (R1 (.val (.int w)) .no .no) = .ok (.int far, R1 (.val (.int w)) .no .no) :=
      opk (opk (intk (i := w) rfl) (b := .int 40009) rfl (modk (by decide))) (b := .int 7) rfl (addF_int _ _)
    rw [seq_nx (ρ1 := R1 (.val (.int w)) (.val (.int far)) .no) (set_ok s3)]
    have s4 : eOp modI (eCall intF (aCons (eOp mulF (eOp addF (eOp addF (eVar 2) (eIxO 0 (eC (.int 2)))) (eOp fdivI (eIxO 0 (eC (.int 1))) (eC (.int 1000003)))) (eVar 3)) aNil)) (eC (.int 2147483629)) (R1 (.val (.int w)) (.val (.int far)) .no) = .ok (.int tw, R1 (.val (.int w)) (.val (.int far)) .no) := by
      have x1 : eIxO 0 (eC (.int 1)) (R1 (.val (.int w)) (.val (.int far)) .no) = .ok (.int u1, R1 (.val (.int w)) (.val (.int far)) .no) := rfl
      have x2 : eIxO 0 (eC (.int 2)) (R1 (.val (.int w)) (.val (.int far)) .no) = .ok (.int (u2 + 1), R1 (.val (.int w)) (.val (.int far)) .no) := rfl
      exact opk (intk (opk (opk (opk (a := .int w) rfl x2 (addF_int _ _)) (opk x1 (b := .int 1000003) rfl (fdivI_ok (by decide) (by decide +kernel))) (addF_int _ _)) (b := .int far) rfl (mulk hf))) (b := .int 2147483629) rfl (modk (by decide))
    rw [seq_nx (ρ1 := R1 (.val (.int w)) (.val (.int far)) (.val (.int tw))) (set_ok s4)]
    refine ret_ok ?_
    exact opk (intk (opk (opk (intk (opk (opk (a := .int tw) rfl (b := .int 48271) rfl (mulk (by decide))) (b := .int w) rfl (addF_int _ _))) (b := .int 2147483587) rfl (modk (by decide))) (b := .int 64) rfl (fdivI_ok (by decide) (by decide +kernel)))) (b := .int n) rfl (modk hn)
theorem fnMk {i n : Nat} {F : List D → List D → Res (D × List D)} {fs : LF} {ρ ρ1 : En} {ms ms' ms0 ds : List D} {d : D} (h00 : ρ[i]? = some (.own ms0)) (h0 : ρ1[i]? = some (.own ms)) (h1 : fs ρ = .ok (ds, ρ1)) (hl : ds.length = n) (h : F ms ds = .ok (d, ms')) : eFnM i n F fs ρ = .ok (d, ρ1.set i (.own ms')) := by
  unfold eFnM
  rw [h00]
  dsimp only
  rw [h1, rb]
  dsimp only
  rw [if_pos hl, h0]
  dsimp only
  rw [h, rb]
/-- one draw below a number -/
theorem takek {i : Nat} {ρ : En} {ms : List D} {k : Nat} {n : Int} (h0 : ρ[i]? = some (.own ms)) (h : Tn k ms) (hk : k < 2 ^ 40) (hn : 0 < n) (hs : n < 2 ^ 40) {f : EF} (hf : f ρ = .ok (.int n, ρ)) : ∃ v ms', eFnM i 1 F_law_take (aCons f aNil) ρ = .ok (.int v, ρ.set i (.own ms')) ∧ 0 ≤ v ∧ v < n ∧ Tn (k + 1) ms' := by
  obtain ⟨v, ms', e, a, b, c⟩ := F_law_take_ok h hk hn hs
  exact ⟨v, ms', fnMk h0 h0 (cons_ok hf nil_ok) rfl e, a, b, c⟩
end GN

set_option Elab.async false
set_option linter.all false
set_option maxRecDepth 100000
set_option maxHeartbeats 8000000
/-! M13: what is drawn, on. -/
namespace GN
open PySem
theorem Tn.mono {k l : Nat} {ms : List D} (h : Tn k ms) (hl : k ≤ l) : Tn l ms := by
  obtain ⟨a, b, c, e, h1, h2, h3, h4⟩ := h
  exact ⟨a, b, c, e, h1, h2, h3, by omega⟩
theorem ixL {ds : List D} {k : Nat} {d : D} (h : ds[k]? = some d) : idxF (.list ds) (.int (k : Nat)) = .ok d := by
  have hl := (List.getElem?_eq_some_iff.mp h).1
  unfold idxF L2.atI L2.ixN
  dsimp only
  rw [if_pos (by omega), if_pos (by omega)]
  show (match ds[((k : Nat) : Int).toNat]? with | some d => Res.ok d | none => .bad) = _
  rw [Int.toNat_natCast, h]
theorem F_law_of_ok {k : Nat} {ms : List D} (h : Tn k ms) (hk : k < 2 ^ 40) {ds : List D} {g : D} (hg : g = .list ds ∨ g = .tuple ds) (h0 : ds ≠ []) (hl : ds.length < 2 ^ 40) : ∃ d ms', d ∈ ds ∧ F_law_of ms [g] = .ok (d, ms') ∧ Tn (k + 1) ms' := by
  have hp : 0 < ds.length := List.length_pos_iff.mpr h0
  obtain ⟨v, ms', e, a, b, c⟩ := F_law_take_ok h hk (n := (ds.length : Nat)) (by omega) (by omega)
  have hv : v.toNat < ds.length := by omega
  refine ⟨ds[v.toNat], ms', List.getElem_mem hv, ?_, c⟩
  have he : v = (v.toNat : Nat) := by omega
  have l : eCall lenF (aCons (eVar 1) aNil) [.own ms, .val g] = .ok (.int (ds.length : Nat), [.own ms, .val g]) := by
    cases hg with
    | inl h => subst h; rfl
    | inr h => subst h; rfl
  have i : idxF g (.int v) = .ok ds[v.toNat] := by
    have i' : idxF g (.int (v.toNat : Nat)) = .ok ds[v.toNat] := by
      cases hg with
      | inl h => subst h; exact ixL (List.getElem?_eq_getElem hv)
      | inr h => subst h; exact ixT (List.getElem?_eq_getElem hv)
    rw [← he] at i'
    exact i'
  refine runM_rt (ρ := [.own ms', .val g]) ?_ rfl
  show m_law_of [.own ms, .val g] = _
  unfold m_law_of
  exact ret_ok (opk (a := g) (ρ1 := [.own ms, .val g]) rfl (fnMk (ρ1 := [.own ms, .val g]) rfl rfl (cons_ok l nil_ok) rfl e) i)
/-- a comprehension that changes what it stands in -/
theorem lcL_inv {g : GF} {f : EF} {vs : List Nat} (I : Nat → En → Prop) (Q : D → D → Prop) : ∀ (ds : List D) (n : Nat) (ρ : En), I n ρ → (∀ d ∈ ds, ∀ m ρ, n ≤ m → m < n + ds.length → I m ρ → ∃ ρ1 e ρ2, g d ρ = some ρ1 ∧ f ρ1 = .ok (e, ρ2) ∧ I (m + 1) (wipeR ρ2 vs) ∧ Q d e) →
    ∃ (es : List D) (ρ' : En), lcL g tYesF f vs ds ρ = .ok (es, ρ') ∧ I (n + ds.length) ρ' ∧ es.length = ds.length ∧ ∀ (i : Nat) (e : D), es[i]? = some e → ∃ d : D, ds[i]? = some d ∧ Q d e
  | [], n, ρ, h, _ => ⟨[], ρ, rfl, h, rfl, fun i e h => by cases h⟩
  | d :: ds, n, ρ, h, st => by
    obtain ⟨ρ1, e, ρ2, a, b, c, q⟩ := st d List.mem_cons_self n ρ (Nat.le_refl _) (by rw [List.length_cons]; omega) h
    obtain ⟨es, ρ', h1, h2, h3, h4⟩ := lcL_inv I Q ds (n + 1) (wipeR ρ2 vs) c fun d' hd m ρ h1 h2 hI => st d' (List.mem_cons_of_mem _ hd) m ρ (by omega) (by rw [List.length_cons]; omega) hI
    refine ⟨e :: es, ρ', ?_, by rw [List.length_cons, show n + (ds.length + 1) = n + 1 + ds.length by omega]; exact h2, by rw [List.length_cons, List.length_cons, h3], fun i x hx => ?_⟩
    · show (match g d ρ with | none => Res.bad | some ρ1 => (tYesF ρ1).bindN fun k => if k.1 then (f k.2).bindN fun a => (lcL g tYesF f vs ds (wipeR a.2 vs)).bindN fun r => .ok (a.1 :: r.1, r.2) else lcL g tYesF f vs ds (wipeR k.2 vs)) = _
      rw [a]
      dsimp only
      rw [show tYesF ρ1 = .ok (true, ρ1) from rfl, rbN]
      dsimp only
      rw [if_pos rfl, b, rbN]
      dsimp only
      rw [h1, rbN]
    · cases i with
      | zero => cases hx; exact ⟨d, rfl, q⟩
      | succ i => exact h4 i x hx
theorem lc_inv {it : LF} {g : GF} {f : EF} {vs : List Nat} {ρ ρ0 : En} {ds : List D} (I : Nat → En → Prop) (Q : D → D → Prop) (hi : it ρ0 = .ok (ds, ρ)) (hf : ds.length ≤ 100000) (hw : I 0 (wipeR ρ vs))
    (h : ∀ d ∈ ds, ∀ m ρ, m < ds.length → I m ρ → ∃ ρ1 e ρ2, g d ρ = some ρ1 ∧ f ρ1 = .ok (e, ρ2) ∧ I (m + 1) (wipeR ρ2 vs) ∧ Q d e) : ∃ (es : List D) (ρ' : En), oLc it g tYesF f vs ρ0 = .ok (es, restR ρ ρ' vs) ∧ I ds.length ρ' ∧ es.length = ds.length ∧ ∀ (i : Nat) (e : D), es[i]? = some e → ∃ d : D, ds[i]? = some d ∧ Q d e := by
  obtain ⟨es, ρ', h1, h2, h3, h4⟩ := lcL_inv I Q ds 0 (wipeR ρ vs) hw fun d hd m ρ _ hm hI => h d hd m ρ (by omega) hI
  refine ⟨es, ρ', ?_, by rw [Nat.zero_add] at h2; exact h2, h3, h4⟩
  unfold oLc
  rw [hi, rb]
  dsimp only
  rw [if_pos (few_le hf), h1, rbN]
/-- a look -/
theorem F_law_look_ok {k : Nat} {ms : List D} (h : Tn k ms) (hk : k + 10 < 2 ^ 40) : ∃ a d w h' ms', F_law_look ms [] = .ok (encV a d w h', ms') ∧ a.natAbs < 16 ∧ d.natAbs < 16 ∧ w.natAbs < 16 ∧ h'.natAbs < 16 ∧ 0 < w ∧ 0 < h' ∧ Tn (k + 4) ms' := by
  obtain ⟨a, m1, ea, a0, a1, t1⟩ := takek (i := 0) (ρ := [.own ms]) rfl h (by omega) (n := 7) (by decide) (by decide) (f := eC (.int 7)) rfl
  obtain ⟨b, m2, eb, b0, b1, t2⟩ := takek (i := 0) (ρ := [.own m1]) rfl t1 (by omega) (n := 5) (by decide) (by decide) (f := eC (.int 5)) rfl
  obtain ⟨c, m3, ec, c0, c1, t3⟩ := takek (i := 0) (ρ := [.own m2]) rfl t2 (by omega) (n := 12) (by decide) (by decide) (f := eC (.int 12)) rfl
  obtain ⟨d, m4, ed, d0, d1, t4⟩ := takek (i := 0) (ρ := [.own m3]) rfl t3 (by omega) (n := 6) (by decide) (by decide) (f := eC (.int 6)) rfl
  refine ⟨a - 2, b - 1, 1 + c, 1 + d, m4, ?_, by omega, by omega, by omega, by omega, by omega, by omega, t4⟩
  refine runM_rt (ρ := [.own m4]) ?_ rfl
  show m_law_look [.own ms] = _
  unfold m_law_look
  refine ret_ok ?_
  have e1 : eOp subI (eFnM 0 1 F_law_take (aCons (eC (.int 7)) aNil)) (eC (.int 2)) [.own ms] = .ok (.int (a - 2), [.own m1]) := opk ea (b := .int 2) rfl rfl
  have e2 : eOp subI (eFnM 0 1 F_law_take (aCons (eC (.int 5)) aNil)) (eC (.int 1)) [.own m1] = .ok (.int (b - 1), [.own m2]) := opk eb (b := .int 1) rfl rfl
  have e3 : eOp addF (eC (.int 1)) (eFnM 0 1 F_law_take (aCons (eC (.int 12)) aNil)) [.own m2] = .ok (.int (1 + c), [.own m3]) := opk (a := .int 1) rfl ec rfl
  have e4 : eOp addF (eC (.int 1)) (eFnM 0 1 F_law_take (aCons (eC (.int 6)) aNil)) [.own m3] = .ok (.int (1 + d), [.own m4]) := opk (a := .int 1) rfl ed rfl
  unfold eTup
  rw [cons_ok e1 (cons_ok e2 (cons_ok e3 (cons_ok e4 nil_ok)))]
  rfl
end GN

set_option Elab.async false
set_option linter.all false
set_option maxRecDepth 100000
set_option maxHeartbeats 8000000
/-! M14: some of a list, each once. -/
namespace GN
open PySem
theorem erase_perm {α : Type} : ∀ (l : List α) (i : Nat) (x : α), l[i]? = some x → (x :: l.eraseIdx i).Perm l
  | [], i, x, h => by cases h
  | a :: l, 0, x, h => by
    cases h
    exact .refl _
  | a :: l, i + 1, x, h => by
    have := erase_perm l i x h
    exact (List.Perm.swap a x (l.eraseIdx i)).trans (this.cons a)
theorem erase_map {α β : Type} (f : α → β) : ∀ (l : List α) (i : Nat), (l.map f).eraseIdx i = (l.eraseIdx i).map f
  | [], _ => rfl
  | a :: l, 0 => rfl
  | a :: l, i + 1 => by
    show f a :: (l.map f).eraseIdx i = f a :: (l.eraseIdx i).map f
    rw [erase_map f l i]
abbrev pkB : SF := sApp 5 (ePopA 4 (eFnM 0 1 F_law_take (aCons (eLenO 4) aNil)))
abbrev pkE (ms : List D) (g m : D) (s3 : Sl) (pool found : List Int) : En := [.own ms, .val g, .val m, s3, .own (pool.map PyData.int), .own (found.map PyData.int)]
theorem pick_step {k : Nat} {ms : List D} (h : Tn k ms) (hk : k < 2 ^ 40) {g m : D} {s3 : Sl} {pool found : List Int} (hp : pool ≠ []) (hl : pool.length ≤ 1000) (hf : found.length ≤ 1000) :
    ∃ ms' pool' x, pkB (pkE ms g m s3 pool found) = .ok (.nx, pkE ms' g m s3 pool' (found ++ [x])) ∧ Tn (k + 1) ms' ∧ (x :: pool').Perm pool := by
  have h0 : 0 < pool.length := List.length_pos_iff.mpr hp
  have e0 : eLenO 4 (pkE ms g m s3 pool found) = .ok (.int (pool.length : Nat), pkE ms g m s3 pool found) := by
    have : (pool.map PyData.int).length = pool.length := List.length_map ..
    rw [← this]
    rfl
  obtain ⟨v, ms', e, a, b, c⟩ := takek (i := 0) (ρ := pkE ms g m s3 pool found) rfl h hk (n := (pool.length : Nat)) (by omega) (by omega) e0
  have hv : v.toNat < pool.length := by omega
  have e1 : ePopA 4 (eFnM 0 1 F_law_take (aCons (eLenO 4) aNil)) (pkE ms g m s3 pool found) = .ok (.int pool[v.toNat], pkE ms' g m s3 (pool.eraseIdx v.toNat) found) := by
    show ePopA 4 _ [.own ms, .val g, .val m, s3, .own (pool.map PyData.int), .own (found.map PyData.int)] = _
    unfold ePopA
    dsimp only [List.getElem?_cons_succ, List.getElem?_cons_zero]
    rw [e, rb]
    dsimp only [List.set_cons_zero, List.getElem?_cons_succ, List.getElem?_cons_zero]
    rw [if_pos ⟨a, by omega⟩, List.getElem?_map, List.getElem?_eq_getElem hv, erase_map]
    rfl
  refine ⟨ms', pool.eraseIdx v.toNat, pool[v.toNat], ?_, c, erase_perm _ _ _ (List.getElem?_eq_getElem hv)⟩
  have r := app_ok (i := 5) (f := ePopA 4 (eFnM 0 1 F_law_take (aCons (eLenO 4) aNil))) (ρ := pkE ms g m s3 pool found) rfl e1 rfl (by rw [List.length_map]; omega)
  show sApp 5 _ _ = _
  rw [r, show List.map PyData.int found ++ [PyData.int pool[v.toNat]] = (found ++ [pool[v.toNat]]).map PyData.int by rw [List.map_append]; rfl]
  rfl
theorem pick_loop : ∀ (ds : List D) {k : Nat} {ms : List D} (h : Tn k ms) (hk : k + ds.length < 2 ^ 40) {g m : D} (s3 : Sl) (pool found : List Int) (hp : ds.length ≤ pool.length) (hl : pool.length ≤ 1000) (hf : found.length + ds.length ≤ 1000),
    ∃ ms' s3' pool' found', forL (gN 3) pkB ds (pkE ms g m s3 pool found) = .ok (.nx, pkE ms' g m s3' pool' found') ∧ Tn (k + ds.length) ms' ∧ (found' ++ pool').Perm (found ++ pool) ∧ found'.length = found.length + ds.length
  | [], k, ms, h, hk, g, m, s3, pool, found, hp, hl, hf => ⟨ms, s3, pool, found, rfl, h, .refl _, rfl⟩
  | d :: ds, k, ms, h, hk, g, m, s3, pool, found, hp, hl, hf => by
    rw [List.length_cons] at hk hp hf
    obtain ⟨ms1, p1, x, e1, t1, q1⟩ := pick_step h (by omega) (g := g) (m := m) (s3 := .val d) (pool := pool) (found := found) (by intro z; subst z; simp at hp) hl (by omega)
    have hq := q1.length_eq
    rw [List.length_cons] at hq
    obtain ⟨ms2, s2, p2, f2, e2, t2, q2, l2⟩ := pick_loop ds t1 (by omega) (g := g) (m := m) (.val d) p1 (found ++ [x]) (by omega) (by omega) (by rw [List.length_append]; simp only [List.length_cons, List.length_nil]; omega)
    refine ⟨ms2, s2, p2, f2, ?_, by rw [List.length_cons]; exact t2.mono (by omega), ?_, by rw [l2, List.length_append, List.length_cons]; simp only [List.length_cons, List.length_nil]; omega⟩
    · conv => lhs; unfold forL
      rw [show (gN 3) d (pkE ms g m s3 pool found) = some (pkE ms g m (.val d) pool found) from rfl]
      dsimp only
      rw [show pkB (pkE ms g m (.val d) pool found) = _ from e1, rb]
      dsimp only
      exact e2
    · refine q2.trans ?_
      rw [List.append_assoc]
      exact List.Perm.append_left found q1
theorem F_law_pick_ok {k : Nat} {ms : List D} (h : Tn k ms) {l : List Int} (hl : l.length ≤ 1000) (hd : l.Nodup) {m : Int} (h0 : 0 ≤ m) (hm : m ≤ l.length) (hk : k + 1000 < 2 ^ 40) :
    ∃ (ms' : List D) (r : List Int), F_law_pick ms [.list (l.map PyData.int), .int m] = .ok (.list (r.map PyData.int), ms') ∧ Tn (k + 1000) ms' ∧ r.Nodup ∧ (∀ x ∈ r, x ∈ l) ∧ r.length = m.toNat := by
  have hln : (rngL 0 m.toNat).length = m.toNat := by unfold rngL; rw [List.length_map, List.length_range]
  obtain ⟨ms', s3', p', r, e, t, q, n⟩ := pick_loop (rngL 0 m.toNat) h (by rw [hln]; omega) (g := .list (l.map PyData.int)) (m := .int m) .no l [] (by rw [hln]; omega) hl (by rw [hln, List.length_nil]; omega)
  rw [List.nil_append] at q
  have hn := (q.nodup_iff).mpr hd
  rw [hln] at t
  refine ⟨ms', r, ?_, t.mono (by omega), (List.nodup_append.mp hn).1, fun x hx => q.subset (List.mem_append_left _ hx), by rw [n, hln, List.length_nil, Nat.zero_add]⟩
  refine runM_rt (ρ := (pkE ms' (.list (l.map PyData.int)) (.int m) s3' p' r).set 5 (.val (.list (r.map PyData.int)))) ?_ rfl
  show m_law_pick [.own ms, .val (.list (l.map PyData.int)), .val (.int m), .no, .no, .no] = _
  unfold m_law_pick
  rw [seq_nx (ρ1 := pkE ms (.list (l.map PyData.int)) (.int m) .no l []) rfl]
  have it : iRange1 (aCons (eCall min2F (aCons (eCall intF (aCons (eVar 2) aNil)) (aCons (eLenO 4) aNil))) aNil) (pkE ms (.list (l.map PyData.int)) (.int m) .no l []) = .ok (rngL 0 m.toNat, pkE ms (.list (l.map PyData.int)) (.int m) .no l []) := by
    have e0 : eLenO 4 (pkE ms (.list (l.map PyData.int)) (.int m) .no l []) = .ok (.int (l.length : Nat), pkE ms (.list (l.map PyData.int)) (.int m) .no l []) := by
      have : (l.map PyData.int).length = l.length := List.length_map ..
      rw [← this]
      rfl
    have e1 : min2F [.int m, .int (l.length : Nat)] = .ok (.int m) := by
      show Res.ok (PyData.int (if (l.length : Int) < m then (l.length : Int) else m)) = _
      rw [if_neg (by omega)]
    unfold iRange1
    rw [cons_ok (call_ok (cons_ok (intk (i := m) rfl) (cons_ok e0 nil_ok)) e1) nil_ok, rb]
    dsimp only
    rw [if_pos (decide_eq_true (by omega))]
  have f : sFor (iRange1 (aCons (eCall min2F (aCons (eCall intF (aCons (eVar 2) aNil)) (aCons (eLenO 4) aNil))) aNil)) (gN 3) pkB (pkE ms (.list (l.map PyData.int)) (.int m) .no l []) = .ok (.nx, pkE ms' (.list (l.map PyData.int)) (.int m) s3' p' r) := by
    unfold sFor
    rw [it, rb]
    exact e
  rw [seq_nx f]
  exact ret_ok rfl
end GN

set_option Elab.async false
set_option linter.all false
set_option maxRecDepth 100000
set_option maxHeartbeats 8000000
/-! M15: seen at a scale between two, exactly within a range. -/
namespace GN
open PySem
theorem mul_neg' {a b : Rat} (h1 : 0 < a) (h2 : b ≤ 0) : a * b ≤ 0 := by
  have := Rat.mul_le_mul_of_nonneg_left h2 (Rat.le_of_lt h1)
  rw [Rat.mul_zero] at this
  exact this
theorem mid_neg {x y t : Rat} (h0 : 0 < t) (h1 : t < 1) (hx : x ≤ 0) (hy : y ≤ 0) : ¬ 0 < x + t * (y - x) := by
  have a := mul_neg' h0 hy
  have b := mul_neg' (a := 1 - t) (by grind) hx
  grind
theorem mid_pos {x y t : Rat} (h0 : 0 < t) (h1 : t < 1) (hx : 0 < x) (hy : 0 < y) : 0 < x + t * (y - x) := by
  have a := Rat.mul_pos h0 hy
  have b := Rat.mul_pos (a := 1 - t) (by grind) hx
  grind
theorem lt_div {a b c : Rat} (hc : 0 < c) : a < b / c ↔ a * c < b := by
  have e : b / c * c = b := Rat.div_mul_cancel (by grind)
  constructor
  · intro h
    have := Rat.mul_lt_mul_of_pos_right h hc
    rw [e] at this
    exact this
  · intro h
    refine Rat.not_le.mp fun h' => ?_
    have := Rat.mul_le_mul_of_nonneg_right h' (Rat.le_of_lt hc)
    rw [e] at this
    grind
theorem div_lt {a b c : Rat} (hc : 0 < c) : b / c < a ↔ b < a * c := by
  have e : b / c * c = b := Rat.div_mul_cancel (by grind)
  constructor
  · intro h
    have := Rat.mul_lt_mul_of_pos_right h hc
    rw [e] at this
    exact this
  · intro h
    refine Rat.not_le.mp fun h' => ?_
    have := Rat.mul_le_mul_of_nonneg_right h' (Rat.le_of_lt hc)
    rw [e] at this
    grind
theorem lt_mul {a b c : Rat} (hc : 0 < c) : a * c < b * c ↔ a < b := by
  constructor
  · intro h
    refine Rat.not_le.mp fun h' => ?_
    have := Rat.mul_le_mul_of_nonneg_right h' (Rat.le_of_lt hc)
    grind
  · intro h
    exact Rat.mul_lt_mul_of_pos_right h hc
/-- above the turn -/
theorem turn_up {low high x y t : Rat} (hw : low < high) (hx : x ≤ 0) (hy : 0 < y) : turnQ low high x y < low + t * (high - low) ↔ 0 < x + t * (y - x) := by
  have hd : 0 < y - x := by grind
  have e : turnQ low high x y = low + ((-x) / (y - x)) * (high - low) := by
    unfold turnQ
    rw [Rat.div_def, Rat.div_def]
    grind
  have a := lt_mul (a := (-x) / (y - x)) (b := t) (c := high - low) (by grind)
  have b := div_lt (a := t) (b := -x) hd
  rw [e]
  constructor
  · intro h
    have := b.mp (a.mp (by grind))
    grind
  · intro h
    have := a.mpr (b.mpr (by grind))
    grind
theorem turn_dn {low high x y t : Rat} (hw : low < high) (hx : 0 < x) (hy : y ≤ 0) : low + t * (high - low) < turnQ low high x y ↔ 0 < x + t * (y - x) := by
  have hd : 0 < x - y := by grind
  have e : turnQ low high x y = low + (x / (x - y)) * (high - low) := by
    unfold turnQ
    have : x / (x - y) = - (x / (y - x)) := by
      have i1 := Rat.mul_inv_cancel (x - y) (by grind)
      have i2 := Rat.mul_inv_cancel (y - x) (by grind)
      rw [Rat.div_def, Rat.div_def]
      generalize (x - y)⁻¹ = i at *
      generalize (y - x)⁻¹ = j at *
      have : i = - j := by grind
      grind
    rw [this, Rat.div_def, Rat.div_def]
    grind
  have a := lt_mul (a := t) (b := x / (x - y)) (c := high - low) (by grind)
  have b := lt_div (a := t) (b := x) hd
  rw [e]
  constructor
  · intro h
    have := b.mp (a.mp (by grind))
    grind
  · intro h
    have := a.mpr (b.mpr (by grind))
    grind
def midL (t : Rat) (ps : List (Rat × Rat)) : Prop := ∀ p ∈ ps, 0 < p.1 + t * (p.2 - p.1)
theorem midL_cons {t : Rat} {p : Rat × Rat} {r : List (Rat × Rat)} : midL t (p :: r) ↔ 0 < p.1 + t * (p.2 - p.1) ∧ midL t r := by
  unfold midL
  constructor
  · intro h
    exact ⟨h p List.mem_cons_self, fun q hq => h q (List.mem_cons_of_mem _ hq)⟩
  · intro h q hq
    cases List.mem_cons.mp hq with
    | inl e => subst e; exact h.1
    | inr e => exact h.2 q e
theorem segL_mid {low high t : Rat} (hw : low < high) (h0 : 0 < t) (h1 : t < 1) : ∀ (ps : List (Rat × Rat)) (b e : Rat),
    (b < low + t * (high - low) ∧ low + t * (high - low) < e ∧ midL t ps) ↔ ∃ q, segL low high ps b e = some q ∧ q.1 < low + t * (high - low) ∧ low + t * (high - low) < q.2
  | [], b, e => by
    constructor
    · intro h
      exact ⟨(b, e), rfl, h.1, h.2.1⟩
    · rintro ⟨q, h, i, j⟩
      cases h
      exact ⟨i, j, fun p hp => by cases hp⟩
  | p :: r, b, e => by
    unfold segL
    rw [midL_cons]
    by_cases c1 : p.1 ≤ 0 ∧ p.2 ≤ 0
    · rw [if_pos c1]
      constructor
      · intro h
        exact absurd h.2.2.1 (mid_neg h0 h1 c1.1 c1.2)
      · rintro ⟨q, h, _⟩
        cases h
    rw [if_neg c1]
    by_cases c2 : 0 < p.1 ∧ 0 < p.2
    · rw [if_pos c2, ← segL_mid hw h0 h1 r b e]
      have := mid_pos h0 h1 c2.1 c2.2
      exact ⟨fun h => ⟨h.1, h.2.1, h.2.2.2⟩, fun h => ⟨h.1, h.2.1, this, h.2.2⟩⟩
    rw [if_neg c2]
    by_cases c3 : 0 < p.1
    · rw [if_pos c3, ← segL_mid hw h0 h1 r]
      have hy : p.2 ≤ 0 := by grind
      have k := turn_dn (t := t) hw c3 hy
      by_cases c4 : turnQ low high p.1 p.2 < e
      · rw [if_pos c4, ← k]
        exact ⟨fun h => ⟨h.1, h.2.2.1, h.2.2.2⟩, fun h => ⟨h.1, by grind, h.2.1, h.2.2⟩⟩
      · rw [if_neg c4, ← k]
        exact ⟨fun h => ⟨h.1, h.2.1, h.2.2.2⟩, fun h => ⟨h.1, h.2.1, by grind, h.2.2⟩⟩
    · rw [if_neg c3, ← segL_mid hw h0 h1 r]
      have hx : p.1 ≤ 0 := by grind
      have hy : 0 < p.2 := by grind
      have k := turn_up (t := t) hw hx hy
      by_cases c4 : b < turnQ low high p.1 p.2
      · rw [if_pos c4, ← k]
        exact ⟨fun h => ⟨h.2.2.1, h.2.1, h.2.2.2⟩, fun h => ⟨by grind, h.2.1, h.1, h.2.2⟩⟩
      · rw [if_neg c4, ← k]
        exact ⟨fun h => ⟨h.1, h.2.1, h.2.2.2⟩, fun h => ⟨h.1, h.2.1, by grind, h.2.2⟩⟩
theorem segQ_mid {low high t : Rat} (hw : low < high) (h0 : 0 < t) (h1 : t < 1) (ps : List (Rat × Rat)) :
    midL t ps ↔ ∃ q, segQ low high ps = some q ∧ q.1 < low + t * (high - low) ∧ low + t * (high - low) < q.2 := by
  have k := segL_mid hw h0 h1 ps low high
  have p := Rat.mul_pos h0 (show 0 < high - low by grind)
  have p' := Rat.mul_pos (a := 1 - t) (by grind) (show 0 < high - low by grind)
  constructor
  · intro h
    obtain ⟨q, a, b, c⟩ := k.mp ⟨by grind, by grind, h⟩
    refine ⟨q, ?_, b, c⟩
    unfold segQ
    rw [a]
    dsimp only
    rw [if_pos (by grind)]
  · rintro ⟨q, a, b, c⟩
    unfold segQ at a
    split at a
    · cases a
    · rename_i z hz
      split at a
      · cases a
        exact (k.mpr ⟨q, hz, b, c⟩).2.2
      · cases a
theorem segL_in {low high : Rat} : ∀ (ps : List (Rat × Rat)) (b e : Rat) (q : Rat × Rat), segL low high ps b e = some q → b ≤ q.1 ∧ q.2 ≤ e
  | [], b, e, q, h => by
    cases h
    exact ⟨Rat.le_refl, Rat.le_refl⟩
  | p :: r, b, e, q, h => by
    unfold segL at h
    split at h
    · cases h
    split at h
    · exact segL_in r b e q h
    split at h
    · have := segL_in r _ _ q h
      refine ⟨this.1, ?_⟩
      have h2 := this.2
      split at h2 <;> grind
    · have := segL_in r _ _ q h
      refine ⟨?_, this.2⟩
      have h2 := this.1
      split at h2 <;> grind
theorem segQ_in {low high : Rat} {ps : List (Rat × Rat)} {q : Rat × Rat} (h : segQ low high ps = some q) : low ≤ q.1 ∧ q.2 ≤ high ∧ q.1 < q.2 := by
  unfold segQ at h
  split at h
  · cases h
  · rename_i z hz
    split at h
    · rename_i hl
      cases h
      have := segL_in _ _ _ _ hz
      exact ⟨this.1, this.2, hl⟩
    · cases h
def Ins (found : List (Rat × Rat)) (a : Rat) : Prop := ∃ r ∈ found, r.1 < a ∧ a < r.2
theorem Ins_app {found : List (Rat × Rat)} {q : Rat × Rat} {a : Rat} : Ins (found ++ [q]) a ↔ Ins found a ∨ (q.1 < a ∧ a < q.2) := by
  unfold Ins
  constructor
  · rintro ⟨r, hr, h⟩
    cases List.mem_append.mp hr with
    | inl hr => exact .inl ⟨r, hr, h⟩
    | inr hr => cases List.mem_singleton.mp hr; exact .inr h
  · intro h
    cases h with
    | inl h => obtain ⟨r, hr, h⟩ := h; exact ⟨r, List.mem_append_left _ hr, h⟩
    | inr h => exact ⟨q, List.mem_append_right _ (List.mem_singleton.mpr rfl), h⟩
theorem last_app {α : Type} : ∀ {l : List α} {x : α}, l[l.length - 1]? = some x → l = l.dropLast ++ [x] := by
  intro l x h
  have hne : l ≠ [] := by intro e; subst e; cases h
  have e : l.getLast hne = x := by
    have := List.getLast?_eq_getElem? (l := l)
    rw [h, List.getLast?_eq_some_getLast hne] at this
    exact Option.some.inj this
  rw [← e]
  exact (List.dropLast_concat_getLast hne).symm
/-- below this pair nothing changes -/
theorem step_low {found : List (Rat × Rat)} {ab : Row × Row} {a : Rat} (h : a < ab.1.1) : Ins (joinStep found ab) a ↔ Ins found a := by
  unfold joinStep
  split
  · rfl
  · rename_i q hq
    have hi := segQ_in hq
    split
    · rw [Ins_app]
      exact ⟨fun h => h.elim id fun h => by exfalso; grind, .inl⟩
    · rename_i l hl
      split
      · rename_i hc
        have e := segQ_low hq hc.2
        have e1 := last_app hl
        rw [Ins_app]
        conv => rhs; rw [e1, Ins_app]
        have : (l.1 < a ∧ a < q.2) ↔ (l.1 < a ∧ a < l.2) := by
          have := hc.1
          constructor <;> intro ⟨x, y⟩ <;> refine ⟨x, ?_⟩ <;> grind
        show _ ∨ (l.1 < a ∧ a < q.2) ↔ _
        rw [this]
      · rw [Ins_app]
        exact ⟨fun h => h.elim id fun h => by exfalso; grind, .inl⟩
theorem fold_low : ∀ (ps : List (Row × Row)) (found : List (Rat × Rat)) {a : Rat}, (∀ p ∈ ps, a < p.1.1) → (Ins (ps.foldl joinStep found) a ↔ Ins found a)
  | [], _, _, _ => .rfl
  | p :: r, found, a, h => (fold_low r (joinStep found p) fun q hq => h q (List.mem_cons_of_mem _ hq)).trans (step_low (h p List.mem_cons_self))
def Und (found : List (Rat × Rat)) (m : Rat) : Prop := ∀ r ∈ found, r.1 ≤ r.2 ∧ r.2 ≤ m
theorem Und_app {found : List (Rat × Rat)} {q : Rat × Rat} {m : Rat} (h : Und found m) (h1 : q.1 ≤ q.2) (h2 : q.2 ≤ m) : Und (found ++ [q]) m := by
  intro r hr
  cases List.mem_append.mp hr with
  | inl hr => exact h r hr
  | inr hr => cases List.mem_singleton.mp hr; exact ⟨h1, h2⟩
theorem step_und {found : List (Rat × Rat)} {ab : Row × Row} {m : Rat} (h : Und found m) (h1 : m ≤ ab.1.1) (h2 : ab.1.1 < ab.2.1) : Und (joinStep found ab) ab.2.1 := by
  have hu : Und found ab.2.1 := fun r hr => ⟨(h r hr).1, by have := (h r hr).2; grind⟩
  unfold joinStep
  split
  · exact hu
  · rename_i q hq
    have hi := segQ_in hq
    split
    · exact Und_app hu (by grind) hi.2.1
    · rename_i l hl
      split
      · rename_i hc
        have hm : l ∈ found := List.mem_of_getElem? hl
        have := hu l hm
        exact Und_app (fun r hr => hu r (List.dropLast_subset _ hr)) (by show l.1 ≤ q.2; have := hc.1; grind) hi.2.1
      · exact Und_app hu (by grind) hi.2.1
theorem step_in {found : List (Rat × Rat)} {ab : Row × Row} {m a : Rat} (h : Und found m) (h1 : m ≤ ab.1.1) (h2 : ab.1.1 < a) :
    Ins (joinStep found ab) a ↔ ∃ q, segQ ab.1.1 ab.2.1 (ab.1.2.zip ab.2.2) = some q ∧ q.1 < a ∧ a < q.2 := by
  have hn : ¬ Ins found a := fun ⟨r, hr, x, y⟩ => by
    have := (h r hr).2
    grind
  unfold joinStep
  split
  · rename_i hq
    exact ⟨fun h => absurd h hn, fun ⟨q, e, _⟩ => by rw [hq] at e; cases e⟩
  · rename_i q hq
    have hs : (∃ q', segQ ab.1.1 ab.2.1 (ab.1.2.zip ab.2.2) = some q' ∧ q'.1 < a ∧ a < q'.2) ↔ (q.1 < a ∧ a < q.2) :=
      ⟨fun ⟨q', e, x⟩ => by rw [hq] at e; cases e; exact x, fun x => ⟨q, hq, x⟩⟩
    rw [hs]
    split
    · rw [Ins_app]
      exact ⟨fun h => h.resolve_left hn, .inr⟩
    · rename_i l hl
      split
      · rename_i hc
        have e := segQ_low hq hc.2
        have hm : l ∈ found := List.mem_of_getElem? hl
        have hl1 := (h l hm).1
        have hd : ¬ Ins found.dropLast a := fun ⟨r, hr, x⟩ => hn ⟨r, List.dropLast_subset _ hr, x⟩
        rw [Ins_app]
        have : (l.1 < a ∧ a < q.2) ↔ (q.1 < a ∧ a < q.2) := by
          have := hc.1
          constructor <;> intro ⟨x, y⟩ <;> refine ⟨?_, y⟩ <;> grind
        show _ ∨ (l.1 < a ∧ a < q.2) ↔ _
        rw [this]
        exact ⟨fun h => h.resolve_left hd, .inr⟩
      · rw [Ins_app]
        exact ⟨fun h => h.resolve_left hn, .inr⟩
theorem fold_und : ∀ (ps : List (Row × Row)) (found : List (Rat × Rat)) {m M : Rat}, Und found m → m ≤ M → ps.Pairwise (fun a b => a.2.1 ≤ b.1.1) → (∀ p ∈ ps, m ≤ p.1.1 ∧ p.1.1 < p.2.1 ∧ p.2.1 ≤ M) → Und (ps.foldl joinStep found) M
  | [], found, m, M, h, hM, _, _ => fun r hr => ⟨(h r hr).1, by have := (h r hr).2; grind⟩
  | p :: r, found, m, M, h, hM, hp, ha => by
    obtain ⟨h1, h2, h3⟩ := ha p List.mem_cons_self
    exact fold_und r (joinStep found p) (step_und h h1 h2) h3 (List.pairwise_cons.mp hp).2 fun q hq => ⟨(List.pairwise_cons.mp hp).1 q hq, (ha q (List.mem_cons_of_mem _ hq)).2⟩
/-- within a joined range, at a scale between this pair's: within this pair's part -/
theorem join_mid {ps : List (Row × Row)} (hp : ps.Pairwise (fun a b => a.2.1 ≤ b.1.1)) (hs : ∀ p ∈ ps, p.1.1 < p.2.1) {ab : Row × Row} (hm : ab ∈ ps) {a : Rat} (h1 : ab.1.1 < a) (h2 : a < ab.2.1) :
    Ins (joinAll ps) a ↔ ∃ q, segQ ab.1.1 ab.2.1 (ab.1.2.zip ab.2.2) = some q ∧ q.1 < a ∧ a < q.2 := by
  obtain ⟨pre, suf, rfl⟩ := List.append_of_mem hm
  obtain ⟨g1, g2, g3⟩ := List.pairwise_append.mp hp
  obtain ⟨g4, g5⟩ := List.pairwise_cons.mp g2
  unfold joinAll
  rw [List.foldl_append, List.foldl_cons, fold_low suf _ fun p hp => by have := g4 p hp; grind]
  cases pre with
  | nil => exact step_in (m := ab.1.1) (fun r hr => by cases hr) Rat.le_refl h1
  | cons p0 r0 =>
    have hu := fold_und (p0 :: r0) [] (m := p0.1.1) (M := ab.1.1) (fun r hr => by cases hr) (by
      have a := g3 p0 List.mem_cons_self ab List.mem_cons_self
      have b := hs p0 (List.mem_append_left _ List.mem_cons_self)
      grind) g1 fun q hq => by
        refine ⟨?_, hs q (List.mem_append_left _ hq), g3 q hq ab List.mem_cons_self⟩
        cases List.mem_cons.mp hq with
        | inl e => subst e; exact Rat.le_refl
        | inr e =>
          have a := (List.pairwise_cons.mp g1).1 q e
          have b := hs p0 (List.mem_append_left _ List.mem_cons_self)
          grind
    exact step_in hu Rat.le_refl h1
end GN

set_option Elab.async false
set_option linter.all false
set_option maxRecDepth 100000
set_option maxHeartbeats 8000000
/-! M16: the glide that is drawn: a pair's spots. -/
namespace GN
open PySem
theorem rngL_cons (j : Int) (r : Nat) : rngL j (r + 1) = .int j :: rngL (j + 1) r := by
  unfold rngL
  rw [List.range_succ_eq_map, List.map_cons, List.map_map]
  congr 1
  · show PyData.int (j + ((0 : Nat) : Int)) = _
    congr 1
    omega
  · refine List.map_congr_left fun a _ => ?_
    show PyData.int (j + ((a + 1 : Nat) : Int)) = PyData.int (j + 1 + (a : Int))
    congr 1
    omega
abbrev gdE (ms : List D) (mn : Nat) (ch tp sc cm bk : D) (prs : List D) (a s9 x sp : Sl) : En := [.own ms, .val (.int mn), .val ch, .val tp, .val sc, .val cm, .val bk, .own prs, a, s9, .no, x, sp]
abbrev inT : TF := tAnd2 (tB1 (eOp isnF (eOp idxF (eVar 6) (eVar 9)) (eC .none))) (tNot1 (tB1 (eFn 2 F_law_less (aCons (eVar 8) (aCons (eOp idxF (eVar 6) (eVar 9)) aNil)))))
abbrev inA : SF := sApp 12 (eTup (aCons (eVar 11) (aCons (eFn 2 F_law_part (aCons (eOp subI (eFnM 0 1 F_law_take (aCons (eC (.int 9)) aNil)) (eC (.int 4))) (aCons (eC (.int 2)) aNil))) aNil)))
abbrev inX : SF := sSet 11 (eFn 2 F_law_plus (aCons (eVar 11) (aCons (eFn 2 F_law_part (aCons (eOp addF (eOp mulF (eC (.int 2)) (eOp idxF (eOp idxF (eVar 2) (eVar 9)) (eC (.int 0)))) (eFnM 0 1 F_law_take (aCons (eC (.int 7)) aNil))) (aCons (eC (.int 2)) aNil))) aNil)))
abbrev inB : SF := sSeq (sIf inT inA sSkip) inX
theorem fnk {n : Nat} {F : List D → Res D} {fs : LF} {ρ ρ1 : En} {ds : List D} {d : D} (c : fs ρ = .ok (ds, ρ1)) (hl : ds.length = n) (h : F ds = .ok d) : eFn n F fs ρ = .ok (d, ρ1) := by
  unfold eFn
  rw [c, rb]
  dsimp only
  rw [if_pos hl, h, rb]
theorem ptk {f : EF} {ρ ρ1 : En} {i : Int} {n : Int} (hn : n ≠ 0) (hs : sml n = true) (h : f ρ = .ok (.int i, ρ1)) : eFn 2 F_law_part (aCons f (aCons (eC (.int n)) aNil)) ρ = .ok (encQ (Rat.divInt i n), ρ1) := by
  have e := F_law_part_ok (a := i) hn hs
  exact fnk (cons_ok h (cons_ok rfl nil_ok)) rfl e
section
variable {mn : Nat} {tp sc cm : D} {prs ents : List D} {book : List (Option Rat)} {s : Rat}
def seeB (s : Rat) : Option Rat → Bool
  | some b => !decide (s < b)
  | none => false
def seeN (s : Rat) : Option Rat → Nat
  | some b => if s < b then 0 else 1
  | none => 0
theorem shown_step (s : Rat) (book : List (Option Rat)) (j : Nat) (o : Option Rat) (h : book[j]? = some o) :
    (shown s j (book.drop j)).length = seeN s o + (shown s (j + 1) (book.drop (j + 1))).length := by
  obtain ⟨hl, e⟩ := List.getElem?_eq_some_iff.mp h
  rw [List.drop_eq_getElem_cons hl, e]
  cases o with
  | none =>
    show (shown s (j + 1) _).length = 0 + _
    rw [Nat.zero_add]
  | some b =>
    conv => lhs; unfold shown
    unfold seeN
    dsimp only
    by_cases c : s < b
    · rw [if_pos c, if_pos c, Nat.zero_add]
    · rw [if_neg c, if_neg c, List.length_cons, Nat.add_comm]
theorem inT_ok {ms : List D} {x sp : Sl} {j : Nat} {o : Option Rat} (hs : Bd 30 s) (h : book[j]? = some o) (hb : ∀ q, o = some q → Bd 10 q) :
    inT (gdE ms mn (.tuple ents) tp sc cm (.tuple (book.map encO)) prs (.val (encQ s)) (.val (.int (j : Nat))) x sp) = .ok (seeB s o, gdE ms mn (.tuple ents) tp sc cm (.tuple (book.map encO)) prs (.val (encQ s)) (.val (.int (j : Nat))) x sp) := by
  have ix : eOp idxF (eVar 6) (eVar 9) (gdE ms mn (.tuple ents) tp sc cm (.tuple (book.map encO)) prs (.val (encQ s)) (.val (.int (j : Nat))) x sp) = .ok (encO o, gdE ms mn (.tuple ents) tp sc cm (.tuple (book.map encO)) prs (.val (encQ s)) (.val (.int (j : Nat))) x sp) :=
    op_two rfl rfl (ixT (by rw [List.getElem?_map, h]; rfl))
  unfold inT tAnd2
  cases o with
  | none =>
    rw [tb_ok (opk ix rfl (F := isnF) (b := .none) (d := .bool false) rfl), rb]
    rfl
  | some b =>
    rw [tb_ok (opk ix rfl (F := isnF) (b := .none) (d := .bool true) rfl), rb]
    have l := F_law_less_ok hs (hb b rfl) (by decide)
    have c : aCons (eVar 8) (aCons (eOp idxF (eVar 6) (eVar 9)) aNil) (gdE ms mn (.tuple ents) tp sc cm (.tuple (book.map encO)) prs (.val (encQ s)) (.val (.int (j : Nat))) x sp) = .ok ([encQ s, encQ b], gdE ms mn (.tuple ents) tp sc cm (.tuple (book.map encO)) prs (.val (encQ s)) (.val (.int (j : Nat))) x sp) := cons_ok rfl (cons_ok ix nil_ok)
    have f : eFn 2 F_law_less (aCons (eVar 8) (aCons (eOp idxF (eVar 6) (eVar 9)) aNil)) (gdE ms mn (.tuple ents) tp sc cm (.tuple (book.map encO)) prs (.val (encQ s)) (.val (.int (j : Nat))) x sp) = .ok (.bool (decide (s < b)), gdE ms mn (.tuple ents) tp sc cm (.tuple (book.map encO)) prs (.val (encQ s)) (.val (.int (j : Nat))) x sp) := fnk c rfl l
    show tNot1 (tB1 _) _ = _
    unfold tNot1
    rw [tb_ok f, rb]
    rfl
theorem half_int {i : Int} {n : Nat} (h : i.natAbs < 2 ^ n) (hn : 2 ≤ n) : Bd n (Rat.divInt i 2) :=
  divInt_bd (by decide) h (Nat.lt_of_lt_of_le (by decide : (2 : Int).natAbs < 2 ^ 2) (Nat.pow_le_pow_right (by decide) hn))
theorem inX_ok {k : Nat} {ms : List D} (h : Tn k ms) (hk : k + 10 < 2 ^ 40) {j : Nat} {x : Rat} {n : Nat} (hx : Bd n x) (hn : n ≤ 100) {a : Sl} {bk : D} {sp : Sl} {w h' : Int} {e3 e4 : D} (he : ents[j]? = some (encE w h' e3 e4)) (hw : w.natAbs < 16) :
    ∃ ms' x', inX (gdE ms mn (.tuple ents) tp sc cm bk prs a (.val (.int (j : Nat))) (.val (encQ x)) sp) = .ok (.nx, gdE ms' mn (.tuple ents) tp sc cm bk prs a (.val (.int (j : Nat))) (.val (encQ x')) sp) ∧ Tn (k + 1) ms' ∧ Bd (n + 8) x' := by
  obtain ⟨v, ms', e, v0, v1, t⟩ := takek (i := 0) (ρ := gdE ms mn (.tuple ents) tp sc cm bk prs a (.val (.int (j : Nat))) (.val (encQ x)) sp) rfl h (by omega) (n := 7) (by decide) (by decide) (f := eC (.int 7)) rfl
  have m : mulF (.int 2) (.int w) = .ok (.int (2 * w)) := mulk (by omega)
  have hb : Bd 7 (Rat.divInt (2 * w + v) 2) := half_int (by omega) (by decide)
  have pl := F_law_plus_ok hx hb (by omega)
  refine ⟨ms', x + Rat.divInt (2 * w + v) 2, ?_, t, (hx.add hb).mono (by omega)⟩
  have ix : eOp idxF (eOp idxF (eVar 2) (eVar 9)) (eC (.int 0)) (gdE ms mn (.tuple ents) tp sc cm bk prs a (.val (.int (j : Nat))) (.val (encQ x)) sp) = .ok (.int w, gdE ms mn (.tuple ents) tp sc cm bk prs a (.val (.int (j : Nat))) (.val (encQ x)) sp) :=
    opk (op_two rfl rfl (ixT he)) (b := .int 0) rfl rfl
  have p := ptk (n := 2) (by decide) (by decide +kernel) (opk (opk (a := .int 2) (f := eC (.int 2)) rfl ix m) e (addF_int _ _))
  have c := cons_ok (f := eVar 11) (d := encQ x) (ρ := gdE ms mn (.tuple ents) tp sc cm bk prs a (.val (.int (j : Nat))) (.val (encQ x)) sp) rfl (cons_ok p nil_ok)
  refine set_ok (ρ1 := gdE ms' mn (.tuple ents) tp sc cm bk prs a (.val (.int (j : Nat))) (.val (encQ x)) sp) ?_
  exact fnk c rfl pl
theorem inA_ok {k : Nat} {ms : List D} (h : Tn k ms) (hk : k + 10 < 2 ^ 40) {j : Nat} {x : Rat} {a : Sl} {bk ch : D} {sp : List (Rat × Rat)} (hl : sp.length ≤ 1000) :
    ∃ ms' y, inA (gdE ms mn ch tp sc cm bk prs a (.val (.int (j : Nat))) (.val (encQ x)) (.own (sp.map encP))) = .ok (.nx, gdE ms' mn ch tp sc cm bk prs a (.val (.int (j : Nat))) (.val (encQ x)) (.own ((sp ++ [(x, y)]).map encP))) ∧ Tn (k + 1) ms' ∧ Bd 7 y := by
  obtain ⟨v, ms', e, v0, v1, t⟩ := takek (i := 0) (ρ := gdE ms mn ch tp sc cm bk prs a (.val (.int (j : Nat))) (.val (encQ x)) (.own (sp.map encP))) rfl h (by omega) (n := 9) (by decide) (by decide) (f := eC (.int 9)) rfl
  refine ⟨ms', Rat.divInt (v - 4) 2, ?_, t, half_int (by omega) (by decide)⟩
  have p := ptk (n := 2) (by decide) (by decide +kernel) (opk e (b := .int 4) (g := eC (.int 4)) rfl (subI_int _ _))
  have c := cons_ok (f := eVar 11) (d := encQ x) (ρ := gdE ms mn ch tp sc cm bk prs a (.val (.int (j : Nat))) (.val (encQ x)) (.own (sp.map encP))) rfl (cons_ok p nil_ok)
  have tt : eTup (aCons (eVar 11) (aCons (eFn 2 F_law_part (aCons (eOp subI (eFnM 0 1 F_law_take (aCons (eC (.int 9)) aNil)) (eC (.int 4))) (aCons (eC (.int 2)) aNil))) aNil)) (gdE ms mn ch tp sc cm bk prs a (.val (.int (j : Nat))) (.val (encQ x)) (.own (sp.map encP))) = .ok (encP (x, Rat.divInt (v - 4) 2), gdE ms' mn ch tp sc cm bk prs a (.val (.int (j : Nat))) (.val (encQ x)) (.own (sp.map encP))) := by
    unfold eTup
    rw [c]
    rfl
  have r := app_ok (i := 12) rfl tt rfl (by rw [List.length_map]; omega)
  show sApp 12 _ _ = _
  rw [r, show List.map encP sp ++ [encP (x, Rat.divInt (v - 4) 2)] = (sp ++ [(x, Rat.divInt (v - 4) 2)]).map encP by rw [List.map_append]; rfl]
  rfl
end
end GN

set_option Elab.async false
set_option linter.all false
set_option maxRecDepth 100000
set_option maxHeartbeats 8000000
/-! M17: the glide that is drawn: the loops. -/
namespace GN
open PySem
structure EntOk (d : D) : Prop where
  ex : ∃ w h a b, d = encE w h (.tuple [.int a, .int 900, .int a, .int 900]) (.tuple [.int b, .int 90, .int b, .int 90]) ∧ w.natAbs < 16 ∧ h.natAbs < 16
section
variable {mn : Nat} {tp sc cm : D} {prs ents : List D} {book : List (Option Rat)} {s : Rat}
theorem gd_inner (hs : Bd 30 s) (hb : ∀ q, some q ∈ book → Bd 10 q) (hbl : book.length = mn) (hel : ents.length = mn) (he : ∀ e ∈ ents, EntOk e) (hm : mn ≤ 4) :
    ∀ (r j : Nat) (k : Nat) (ms : List D) (s9 : Sl) (x : Rat) (sp : List (Rat × Rat)), j + r = mn → Tn k ms → k + 2 * r + 100 < 2 ^ 40 → Bd (7 + 8 * j) x → (∀ p ∈ sp, Bd 200 p.1 ∧ Bd 200 p.2) → sp.length + (shown s j (book.drop j)).length = (shown s 0 book).length → sp.length ≤ j →
    ∃ (ms' : List D) (s9' : Sl) (x' : Rat) (sp' : List (Rat × Rat)), forL (gN 9) inB (rngL j r) (gdE ms mn (.tuple ents) tp sc cm (.tuple (book.map encO)) prs (.val (encQ s)) s9 (.val (encQ x)) (.own (sp.map encP))) = .ok (.nx, gdE ms' mn (.tuple ents) tp sc cm (.tuple (book.map encO)) prs (.val (encQ s)) s9' (.val (encQ x')) (.own (sp'.map encP))) ∧
      Tn (k + 2 * r) ms' ∧ (∀ p ∈ sp', Bd 200 p.1 ∧ Bd 200 p.2) ∧ sp'.length = (shown s 0 book).length
  | 0, j, k, ms, s9, x, sp, hj, ht, hk, hx, hp, hl, hsl => by
    refine ⟨ms, s9, x, sp, rfl, ht, hp, ?_⟩
    rw [List.drop_eq_nil_of_le (by omega)] at hl
    exact hl
  | r + 1, j, k, ms, s9, x, sp, hj, ht, hk, hx, hp, hl, hsl => by
    have hjb : j < book.length := by omega
    have hje : j < ents.length := by omega
    obtain ⟨w, h', a, b, ee, hw, _⟩ := (he ents[j] (List.getElem_mem hje)).ex
    have e0 : ents[j]? = some (encE w h' (.tuple [.int a, .int 900, .int a, .int 900]) (.tuple [.int b, .int 90, .int b, .int 90])) := by rw [List.getElem?_eq_getElem hje, ee]
    have o0 : book[j]? = some book[j] := List.getElem?_eq_getElem hjb
    have st := shown_step s book j _ o0
    have it := inT_ok (mn := mn) (tp := tp) (sc := sc) (cm := cm) (prs := prs) (ents := ents) (ms := ms) (x := .val (encQ x)) (sp := .own (sp.map encP)) hs o0 (fun q hq => hb q (by rw [← hq]; exact List.getElem_mem hjb))
    have mid : ∃ (ms1 : List D) (sp1 : List (Rat × Rat)), sIf inT inA sSkip (gdE ms mn (.tuple ents) tp sc cm (.tuple (book.map encO)) prs (.val (encQ s)) (.val (.int (j : Nat))) (.val (encQ x)) (.own (sp.map encP))) = .ok (.nx, gdE ms1 mn (.tuple ents) tp sc cm (.tuple (book.map encO)) prs (.val (encQ s)) (.val (.int (j : Nat))) (.val (encQ x)) (.own (sp1.map encP))) ∧
        Tn (k + 1) ms1 ∧ (∀ p ∈ sp1, Bd 200 p.1 ∧ Bd 200 p.2) ∧ sp1.length + (shown s (j + 1) (book.drop (j + 1))).length = (shown s 0 book).length ∧ sp1.length ≤ j + 1 := by
      cases z : book[j] with
      | none =>
        rw [z] at it st
        unfold seeN at st
        unfold seeB at it
        dsimp only at st it
        refine ⟨ms, sp, ?_, ht.mono (by omega), hp, by omega, by omega⟩
        rw [if_ff it]
        rfl
      | some q =>
        rw [z] at it st
        unfold seeN at st
        unfold seeB at it
        dsimp only at it
        by_cases c : s < q
        · rw [decide_eq_true c] at it
          dsimp only at st
          rw [if_pos c] at st
          refine ⟨ms, sp, ?_, ht.mono (by omega), hp, by omega, by omega⟩
          rw [if_ff it]
          rfl
        · rw [decide_eq_false c] at it
          dsimp only at st
          rw [if_neg c] at st
          obtain ⟨ms1, y, e1, t1, by'⟩ := inA_ok (mn := mn) (tp := tp) (sc := sc) (cm := cm) (prs := prs) ht (by omega) (j := j) (x := x) (a := .val (encQ s)) (bk := .tuple (book.map encO)) (ch := .tuple ents) (sp := sp) (by omega)
          refine ⟨ms1, sp ++ [(x, y)], ?_, t1, fun p h => ?_, ?_, ?_⟩
          · rw [if_tt it]
            exact e1
          · cases List.mem_append.mp h with
            | inl h => exact hp p h
            | inr h => cases List.mem_singleton.mp h; exact ⟨hx.mono (by omega), by'.mono (by omega)⟩
          · rw [List.length_append]; simp only [List.length_cons, List.length_nil]; omega
          · rw [List.length_append]; simp only [List.length_cons, List.length_nil]; omega
    obtain ⟨ms1, sp1, e1, t1, p1, l1, l2⟩ := mid
    obtain ⟨ms2, x2, e2, t2, b2⟩ := inX_ok (mn := mn) (tp := tp) (sc := sc) (cm := cm) (prs := prs) t1 (by omega) hx (by omega) (a := .val (encQ s)) (bk := .tuple (book.map encO)) (sp := .own (sp1.map encP)) e0 hw
    obtain ⟨ms3, s3, x3, sp3, e3, t3, q3, l3⟩ := gd_inner hs hb hbl hel he hm r (j + 1) (k + 1 + 1) ms2 (.val (.int (j : Nat))) x2 sp1 (by omega) t2 (by omega) (b2.mono (by omega)) p1 l1 l2
    refine ⟨ms3, s3, x3, sp3, ?_, t3.mono (by omega), q3, l3⟩
    rw [rngL_cons]
    conv => lhs; unfold forL
    rw [show (gN 9) (.int (j : Nat)) (gdE ms mn (.tuple ents) tp sc cm (.tuple (book.map encO)) prs (.val (encQ s)) s9 (.val (encQ x)) (.own (sp.map encP))) = some (gdE ms mn (.tuple ents) tp sc cm (.tuple (book.map encO)) prs (.val (encQ s)) (.val (.int (j : Nat))) (.val (encQ x)) (.own (sp.map encP))) from rfl]
    dsimp only
    unfold inB
    rw [seq_nx e1, e2, rb]
    dsimp only
    exact e3
abbrev ouB : SF := sSeq (sTup [11, 12] (csC (cV (eFn 2 F_law_part (aCons (eOp subI (eFnM 0 1 F_law_take (aCons (eC (.int 13)) aNil)) (eC (.int 6))) (aCons (eC (.int 1)) aNil)))) (csC (cO (oLst aNil)) csN))) (sSeq (sFor (iRange1 (aCons (eVar 1) aNil)) (gN 9) inB) (sApp 7 (eTup (aCons (eVar 8) (aCons (eCall tupleF (aCons (eVar 12) aNil)) aNil)))))
theorem gd_outer (hb : ∀ q, some q ∈ book → Bd 10 q) (hbl : book.length = mn) (hel : ents.length = mn) (he : ∀ e ∈ ents, EntOk e) (hm : mn ≤ 4) :
    ∀ (ss : List Rat) (k : Nat) (ms : List D) (a s9 x sp : Sl) (gs : List (Rat × List (Rat × Rat))), (∀ s ∈ ss, Bd 30 s) → Tn k ms → k + 100 * ss.length + 200 < 2 ^ 40 → gs.length + ss.length ≤ 900 → (∀ g ∈ gs, GlOk book g) →
    ∃ (ms' : List D) (a' s9' x' sp' : Sl) (gs' : List (Rat × List (Rat × Rat))), forL (gN 8) ouB (ss.map encQ) (gdE ms mn (.tuple ents) tp sc cm (.tuple (book.map encO)) (gs.map encG) a s9 x sp) = .ok (.nx, gdE ms' mn (.tuple ents) tp sc cm (.tuple (book.map encO)) ((gs ++ gs').map encG) a' s9' x' sp') ∧
      Tn (k + 100 * ss.length) ms' ∧ (∀ g ∈ gs ++ gs', GlOk book g) ∧ gs'.map Prod.fst = ss
  | [], k, ms, a, s9, x, sp, gs, hs, ht, hk, hl, hg => ⟨ms, a, s9, x, sp, [], by rw [List.append_nil]; rfl, ht, by rw [List.append_nil]; exact hg, rfl⟩
  | s :: ss, k, ms, a, s9, x, sp, gs, hs, ht, hk, hl, hg => by
    rw [List.length_cons] at hk hl
    have hs0 := hs s List.mem_cons_self
    obtain ⟨v, m1, e, v0, v1, t1⟩ := takek (i := 0) (ρ := gdE ms mn (.tuple ents) tp sc cm (.tuple (book.map encO)) (gs.map encG) (.val (encQ s)) s9 x sp) rfl ht (by omega) (n := 13) (by decide) (by decide) (f := eC (.int 13)) rfl
    have p := ptk (n := 1) (by decide) (by decide +kernel) (opk e (b := .int 6) (g := eC (.int 6)) rfl (subI_int _ _))
    have bx : Bd 7 (Rat.divInt (v - 6) 1) := divInt_bd (by decide) (by omega) (by decide)
    have s1 : sTup [11, 12] (csC (cV (eFn 2 F_law_part (aCons (eOp subI (eFnM 0 1 F_law_take (aCons (eC (.int 13)) aNil)) (eC (.int 6))) (aCons (eC (.int 1)) aNil)))) (csC (cO (oLst aNil)) csN)) (gdE ms mn (.tuple ents) tp sc cm (.tuple (book.map encO)) (gs.map encG) (.val (encQ s)) s9 x sp) = .ok (.nx, gdE m1 mn (.tuple ents) tp sc cm (.tuple (book.map encO)) (gs.map encG) (.val (encQ s)) s9 (.val (encQ (Rat.divInt (v - 6) 1))) (.own (List.map encP []))) := by
      unfold sTup csC cV
      rw [p, rb]
      rfl
    obtain ⟨m2, s2, x2, sp2, e2, t2, q2, l2⟩ := gd_inner (mn := mn) (tp := tp) (sc := sc) (cm := cm) (prs := gs.map encG) (s := s) hs0 hb hbl hel he hm mn 0 (k + 1) m1 s9 (Rat.divInt (v - 6) 1) [] (by omega) t1 (by omega) bx (fun p h => by cases h) (by rw [List.drop_zero, List.length_nil, Nat.zero_add]) (by rw [List.length_nil]; omega)
    have it : iRange1 (aCons (eVar 1) aNil) (gdE m1 mn (.tuple ents) tp sc cm (.tuple (book.map encO)) (gs.map encG) (.val (encQ s)) s9 (.val (encQ (Rat.divInt (v - 6) 1))) (.own (List.map encP []))) = .ok (rngL 0 mn, gdE m1 mn (.tuple ents) tp sc cm (.tuple (book.map encO)) (gs.map encG) (.val (encQ s)) s9 (.val (encQ (Rat.divInt (v - 6) 1))) (.own (List.map encP []))) := by
      have c : aCons (eVar 1) aNil (gdE m1 mn (.tuple ents) tp sc cm (.tuple (book.map encO)) (gs.map encG) (.val (encQ s)) s9 (.val (encQ (Rat.divInt (v - 6) 1))) (.own (List.map encP []))) = .ok ([.int (mn : Nat)], gdE m1 mn (.tuple ents) tp sc cm (.tuple (book.map encO)) (gs.map encG) (.val (encQ s)) s9 (.val (encQ (Rat.divInt (v - 6) 1))) (.own (List.map encP []))) := rfl
      unfold iRange1
      rw [c, rb]
      dsimp only
      rw [if_pos (decide_eq_true (by omega)), Int.toNat_natCast]
    have f : sFor (iRange1 (aCons (eVar 1) aNil)) (gN 9) inB (gdE m1 mn (.tuple ents) tp sc cm (.tuple (book.map encO)) (gs.map encG) (.val (encQ s)) s9 (.val (encQ (Rat.divInt (v - 6) 1))) (.own (List.map encP []))) = .ok (.nx, gdE m2 mn (.tuple ents) tp sc cm (.tuple (book.map encO)) (gs.map encG) (.val (encQ s)) s2 (.val (encQ x2)) (.own (sp2.map encP))) := by
      unfold sFor
      rw [it, rb]
      exact e2
    have tt : eTup (aCons (eVar 8) (aCons (eCall tupleF (aCons (eVar 12) aNil)) aNil)) (gdE m2 mn (.tuple ents) tp sc cm (.tuple (book.map encO)) (gs.map encG) (.val (encQ s)) s2 (.val (encQ x2)) (.own (sp2.map encP))) = .ok (encG (s, sp2), gdE m2 mn (.tuple ents) tp sc cm (.tuple (book.map encO)) (gs.map encG) (.val (encQ s)) s2 (.val (encQ x2)) (.val (.list (sp2.map encP)))) := rfl
    have r := app_ok (i := 7) rfl tt rfl (by rw [List.length_map]; omega)
    have hg' : ∀ g ∈ gs ++ [(s, sp2)], GlOk book g := fun g h => by
      cases List.mem_append.mp h with
      | inl h => exact hg g h
      | inr h => cases List.mem_singleton.mp h; exact ⟨hs0, l2, q2⟩
    obtain ⟨m3, a3, s3, x3, sp3, gs3, e3, t3, g3, n3⟩ := gd_outer hb hbl hel he hm ss (k + 1 + 2 * mn) m2 (.val (encQ s)) s2 (.val (encQ x2)) (.val (.list (sp2.map encP))) (gs ++ [(s, sp2)]) (fun q hq => hs q (List.mem_cons_of_mem _ hq)) t2 (by omega) (by rw [List.length_append]; simp only [List.length_cons, List.length_nil]; omega) hg'
    refine ⟨m3, a3, s3, x3, sp3, (s, sp2) :: gs3, ?_, t3.mono (by rw [List.length_cons]; omega), ?_, ?_⟩
    · rw [List.map_cons]
      conv => lhs; unfold forL
      rw [show (gN 8) (encQ s) (gdE ms mn (.tuple ents) tp sc cm (.tuple (book.map encO)) (gs.map encG) a s9 x sp) = some (gdE ms mn (.tuple ents) tp sc cm (.tuple (book.map encO)) (gs.map encG) (.val (encQ s)) s9 x sp) from rfl]
      dsimp only
      unfold ouB
      rw [seq_nx s1, seq_nx f, r, rb]
      dsimp only
      rw [show gs ++ (s, sp2) :: gs3 = (gs ++ [(s, sp2)]) ++ gs3 by simp, ← e3, show (gs ++ [(s, sp2)]).map encG = gs.map encG ++ [encG (s, sp2)] by rw [List.map_append]; rfl]
      rfl
    · rw [show gs ++ (s, sp2) :: gs3 = (gs ++ [(s, sp2)]) ++ gs3 by simp]
      exact g3
    · rw [List.map_cons, n3]
end
end GN

set_option Elab.async false
set_option linter.all false
set_option maxRecDepth 100000
set_option maxHeartbeats 8000000
/-! M18: the glide that is drawn: chart and tops. -/
namespace GN
open PySem
theorem rngL_mem {j : Int} {n : Nat} {d : D} (h : d ∈ rngL j n) : ∃ i : Int, d = .int i := by
  unfold rngL at h
  obtain ⟨a, _, rfl⟩ := List.mem_map.mp h
  exact ⟨_, rfl⟩
theorem rngL_len (j : Int) (n : Nat) : (rngL j n).length = n := by unfold rngL; rw [List.length_map, List.length_range]
abbrev chB : EF := eTup (aCons (eOp addF (eC (.int 1)) (eFnM 0 1 F_law_take (aCons (eC (.int 4)) aNil))) (aCons (eOp addF (eC (.int 1)) (eFnM 0 1 F_law_take (aCons (eC (.int 2)) aNil))) (aCons (eTup (aCons (eVar 9) (aCons (eC (.int 900)) (aCons (eVar 9) (aCons (eC (.int 900)) aNil))))) (aCons (eTup (aCons (eC (.int 0)) (aCons (eC (.int 90)) (aCons (eC (.int 0)) (aCons (eC (.int 90)) aNil))))) aNil))))
abbrev chE (ms : List D) (mn : Nat) (s9 : Sl) : En := [.own ms, .val (.int mn), .no, .no, .no, .no, .no, .no, .no, s9, .no, .no, .no]
theorem chB_ok {k : Nat} {ms : List D} (h : Tn k ms) (hk : k + 10 < 2 ^ 40) {mn : Nat} (i : Int) : ∃ ms' e, chB (chE ms mn (.val (.int i))) = .ok (e, chE ms' mn (.val (.int i))) ∧ Tn (k + 2) ms' ∧ EntOk e := by
  obtain ⟨a, m1, ea, a0, a1, t1⟩ := takek (i := 0) (ρ := chE ms mn (.val (.int i))) rfl h (by omega) (n := 4) (by decide) (by decide) (f := eC (.int 4)) rfl
  obtain ⟨b, m2, eb, b0, b1, t2⟩ := takek (i := 0) (ρ := chE m1 mn (.val (.int i))) rfl t1 (by omega) (n := 2) (by decide) (by decide) (f := eC (.int 2)) rfl
  refine ⟨m2, encE (1 + a) (1 + b) (.tuple [.int i, .int 900, .int i, .int 900]) (.tuple [.int 0, .int 90, .int 0, .int 90]), ?_, t2, ⟨⟨_, _, _, _, rfl, by omega, by omega⟩⟩⟩
  have e1 : eOp addF (eC (.int 1)) (eFnM 0 1 F_law_take (aCons (eC (.int 4)) aNil)) (chE ms mn (.val (.int i))) = .ok (.int (1 + a), chE m1 mn (.val (.int i))) := opk (a := .int 1) rfl ea rfl
  have e2 : eOp addF (eC (.int 1)) (eFnM 0 1 F_law_take (aCons (eC (.int 2)) aNil)) (chE m1 mn (.val (.int i))) = .ok (.int (1 + b), chE m2 mn (.val (.int i))) := opk (a := .int 1) rfl eb rfl
  have e3 : eTup (aCons (eVar 9) (aCons (eC (.int 900)) (aCons (eVar 9) (aCons (eC (.int 900)) aNil)))) (chE m2 mn (.val (.int i))) = .ok (.tuple [.int i, .int 900, .int i, .int 900], chE m2 mn (.val (.int i))) := rfl
  have e4 : eTup (aCons (eC (.int 0)) (aCons (eC (.int 90)) (aCons (eC (.int 0)) (aCons (eC (.int 90)) aNil)))) (chE m2 mn (.val (.int i))) = .ok (.tuple [.int 0, .int 90, .int 0, .int 90], chE m2 mn (.val (.int i))) := rfl
  have c := cons_ok e1 (cons_ok e2 (cons_ok e3 (cons_ok e4 nil_ok)))
  show eTup _ _ = _
  unfold eTup at c ⊢
  rw [c]
  rfl
theorem chart_ok {k : Nat} {ms : List D} (h : Tn k ms) (hk : k + 100 < 2 ^ 40) {mn : Nat} (hm : mn ≤ 4) :
    ∃ (ms' : List D) (ents : List D), eCall tupleF (aCons (eFz (oLc (iRange1 (aCons (eVar 1) aNil)) (gN 9) tYesF chB [9])) aNil) (chE ms mn .no) = .ok (.tuple ents, chE ms' mn .no) ∧ Tn (k + 8) ms' ∧ ents.length = mn ∧ ∀ e ∈ ents, EntOk e := by
  have it : iRange1 (aCons (eVar 1) aNil) (chE ms mn .no) = .ok (rngL 0 mn, chE ms mn .no) := by
    have c : aCons (eVar 1) aNil (chE ms mn .no) = .ok ([.int (mn : Nat)], chE ms mn .no) := rfl
    unfold iRange1
    rw [c, rb]
    dsimp only
    rw [if_pos (decide_eq_true (by omega)), Int.toNat_natCast]
  obtain ⟨es, ρ', e, hI, hl, hq⟩ := lc_inv (f := chB) (vs := [9]) (g := gN 9) (fun m ρ => ∃ ms', ρ = chE ms' mn .no ∧ Tn (k + 2 * m) ms') (fun _ e => EntOk e) it (by rw [rngL_len]; omega) ⟨ms, rfl, h⟩ fun d hd m ρ hm' ⟨ms1, hρ, t⟩ => by
    subst hρ
    rw [rngL_len] at hm'
    obtain ⟨i, rfl⟩ := rngL_mem hd
    obtain ⟨ms2, x, e, t2, ok⟩ := chB_ok (mn := mn) t (by omega) i
    exact ⟨_, x, _, rfl, e, ⟨ms2, rfl, t2.mono (by omega)⟩, ok⟩
  obtain ⟨ms', hρ, t⟩ := hI
  subst hρ
  rw [rngL_len] at t hl
  refine ⟨ms', es, call_ok (cons_ok (fz_ok e) nil_ok) rfl, t.mono (by omega), hl, fun x hx => ?_⟩
  obtain ⟨i, hi⟩ := List.mem_iff_getElem?.mp hx
  obtain ⟨d, _, q⟩ := hq i x hi
  exact q
end GN

set_option Elab.async false
set_option linter.all false
set_option maxRecDepth 100000
set_option maxHeartbeats 8000000
/-! M19: the glide that is drawn: tops, scales, book. -/
namespace GN
open PySem
theorem intsOf_mapI : ∀ l : List Int, intsOf (l.map PyData.int) = some l
  | [] => rfl
  | i :: l => by
    rw [List.map_cons]
    show (intsOf (l.map PyData.int)).map (i :: ·) = _
    rw [intsOf_mapI l]
    rfl
theorem lt_of_le_nodup : ∀ {l : List Int}, l.Pairwise (· ≤ ·) → l.Nodup → l.Pairwise (· < ·) := fun h n => by
  refine List.Pairwise.imp (fun {a b} (x : a ≤ b ∧ a ≠ b) => ?_) (h.and n)
  omega
theorem sorted_ok {r : List Int} (hl : r.length < 64) : sortedF [.list (r.map PyData.int)] = .ok (.list ((sortI r).map PyData.int)) := by
  unfold sortedF
  dsimp only
  rw [intsOf_mapI]
  dsimp only
  rw [if_pos hl]
theorem tops_ok {k : Nat} {ms : List D} (h : Tn k ms) (hk : k + 2000 < 2 ^ 40) {ρ : En} (h0 : ρ[0]? = some (.own ms)) (hs : ∀ a b : List D, (ρ.set 0 (.own a)).set 0 (.own b) = ρ.set 0 (.own b)) (hg : ∀ a : List D, (ρ.set 0 (.own a))[0]? = some (.own a)) :
    ∃ (ms' : List D) (tp : List Int), eCall sortedF (aCons (eFnM 0 2 F_law_pick (aCons (eFz (oLrg2 (eC (.int 1)) (eC (.int 13)))) (aCons (eOp addF (eC (.int 2)) (eFnM 0 1 F_law_take (aCons (eC (.int 3)) aNil))) aNil))) aNil) ρ = .ok (.list (tp.map PyData.int), ρ.set 0 (.own ms')) ∧
      Tn (k + 1001) ms' ∧ tp.Pairwise (· < ·) ∧ (∀ x ∈ tp, 1 ≤ x ∧ x ≤ 12) ∧ tp.length ≤ 4 := by
  obtain ⟨v, m1, e, v0, v1, t1⟩ := takek (i := 0) (ρ := ρ) h0 h (by omega) (n := 3) (by decide) (by decide) (f := eC (.int 3)) rfl
  have l : rngL 1 12 = ((List.range 12).map fun k : Nat => (1 + (k : Int))).map PyData.int := by unfold rngL; rw [List.map_map]; rfl
  have r12 : eFz (oLrg2 (eC (.int 1)) (eC (.int 13))) ρ = .ok (.list (((List.range 12).map fun k : Nat => (1 + (k : Int))).map PyData.int), ρ) := by
    rw [← l]
    rfl
  obtain ⟨m2, r, e2, t2, n2, s2, l2⟩ := F_law_pick_ok t1 (l := (List.range 12).map fun k : Nat => (1 + (k : Int))) (by decide) (by decide) (m := 2 + v) (by omega) (by rw [List.length_map, List.length_range]; omega) (by omega)
  have p := sortI_perm r
  refine ⟨m2, sortI r, ?_, t2.mono (by omega), lt_of_le_nodup (sortI_pw r) (p.nodup_iff.mpr n2), fun x hx => ?_, by rw [p.length_eq, l2]; omega⟩
  · have c := cons_ok r12 (cons_ok (opk (a := .int 2) (f := eC (.int 2)) rfl e (addF_int _ _)) nil_ok)
    have f := fnMk (i := 0) h0 (hg m1) c rfl e2
    rw [hs] at f
    exact call_ok (cons_ok f nil_ok) (sorted_ok (by rw [l2]; omega))
  · obtain ⟨a, ha, rfl⟩ := List.mem_map.mp (s2 x (p.subset hx))
    have := List.mem_range.mp ha
    omega
end GN

set_option Elab.async false
set_option linter.all false
set_option maxRecDepth 100000
set_option maxHeartbeats 8000000
/-! M20: the glide that is drawn: the book. -/
namespace GN
open PySem
theorem list_of {α : Type} {P : α → Prop} {enc : α → D} : ∀ (es : List D), (∀ e ∈ es, ∃ a, e = enc a ∧ P a) → ∃ as : List α, es = as.map enc ∧ ∀ a ∈ as, P a
  | [], _ => ⟨[], rfl, fun a h => by cases h⟩
  | e :: es, h => by
    obtain ⟨a, rfl, p⟩ := h e List.mem_cons_self
    obtain ⟨as, rfl, q⟩ := list_of (enc := enc) es fun x hx => h x (List.mem_cons_of_mem _ hx)
    exact ⟨a :: as, rfl, fun x hx => by
      cases List.mem_cons.mp hx with
      | inl e => subst e; exact p
      | inr e => exact q x e⟩
abbrev bkB : EF := eIf (tB1 (eOp eqF (eFnM 0 1 F_law_take (aCons (eC (.int 3)) aNil)) (eC (.int 0)))) (eFnM 0 1 F_law_of (aCons (eVar 5) aNil)) (eTup (aCons (eC (.int 0)) (aCons (eC (.int 1)) aNil)))
abbrev bkE (ms : List D) (mn : Nat) (ch tp sc : D) (cs : List D) (s9 : Sl) : En := [.own ms, .val (.int mn), .val ch, .val tp, .val sc, .val (.list cs), .no, .no, .no, s9, .no, .no, .no]
def OOk (e : D) : Prop := ∃ o : Option Rat, e = encO o ∧ ∀ q, o = some q → Bd 10 q
theorem bkB_ok {k : Nat} {ms : List D} (h : Tn k ms) (hk : k + 10 < 2 ^ 40) {mn : Nat} {ch tp sc d : D} {cs : List D} (hc : ∀ e ∈ cs, OOk e) (h0 : cs ≠ []) (hl : cs.length ≤ 1000) :
    ∃ (ms' : List D) (e : D), bkB (bkE ms mn ch tp sc cs (.val d)) = .ok (e, bkE ms' mn ch tp sc cs (.val d)) ∧ Tn (k + 2) ms' ∧ OOk e := by
  obtain ⟨a, m1, ea, a0, a1, t1⟩ := takek (i := 0) (ρ := bkE ms mn ch tp sc cs (.val d)) rfl h (by omega) (n := 3) (by decide) (by decide) (f := eC (.int 3)) rfl
  have eq : eqF (.int a) (.int 0) = .ok (.bool (decide (a = 0))) := rfl
  have tt := tb_ok (opk ea (g := eC (.int 0)) (b := .int 0) rfl eq)
  unfold bkB eIf
  rw [tt, rb]
  by_cases c : a = 0
  · rw [decide_eq_true c]
    obtain ⟨x, m2, hx, e, t2⟩ := F_law_of_ok t1 (by omega) (ds := cs) (.inl rfl) h0 (by omega)
    refine ⟨m2, x, ?_, t2, hc x hx⟩
    have c1 : aCons (eVar 5) aNil (bkE m1 mn ch tp sc cs (.val d)) = .ok ([.list cs], bkE m1 mn ch tp sc cs (.val d)) := rfl
    exact fnMk (i := 0) (ρ := bkE m1 mn ch tp sc cs (.val d)) rfl rfl c1 rfl e
  · rw [decide_eq_false c]
    exact ⟨m1, encQ 0, rfl, t1.mono (by omega), ⟨some 0, rfl, fun q h => by cases h; exact ⟨by decide, by decide⟩⟩⟩
end GN

set_option Elab.async false
set_option linter.all false
set_option maxRecDepth 100000
set_option maxHeartbeats 8000000
/-! M21: the glide that is drawn: the book, the scales. -/
namespace GN
open PySem
theorem book_ok {k : Nat} {ms : List D} (h : Tn k ms) (hk : k + 100 < 2 ^ 40) {mn : Nat} (hm : mn ≤ 4) {ch tp sc : D} {cs : List D} (hc : ∀ e ∈ cs, OOk e) (h0 : cs ≠ []) (hl : cs.length ≤ 1000) :
    ∃ (ms' : List D) (book : List (Option Rat)), eCall tupleF (aCons (eFz (oLc (iRange1 (aCons (eVar 1) aNil)) (gN 9) tYesF bkB [9])) aNil) (bkE ms mn ch tp sc cs .no) = .ok (.tuple (book.map encO), bkE ms' mn ch tp sc cs .no) ∧ Tn (k + 8) ms' ∧ book.length = mn ∧ ∀ q, some q ∈ book → Bd 10 q := by
  have it : iRange1 (aCons (eVar 1) aNil) (bkE ms mn ch tp sc cs .no) = .ok (rngL 0 mn, bkE ms mn ch tp sc cs .no) := by
    have c : aCons (eVar 1) aNil (bkE ms mn ch tp sc cs .no) = .ok ([.int (mn : Nat)], bkE ms mn ch tp sc cs .no) := rfl
    unfold iRange1
    rw [c, rb]
    dsimp only
    rw [if_pos (decide_eq_true (by omega)), Int.toNat_natCast]
  obtain ⟨es, ρ', e, hI, hl', hq⟩ := lc_inv (f := bkB) (vs := [9]) (g := gN 9) (fun m ρ => ∃ ms', ρ = bkE ms' mn ch tp sc cs .no ∧ Tn (k + 2 * m) ms') (fun _ e => OOk e) it (by rw [rngL_len]; omega) ⟨ms, rfl, h⟩ fun d hd m ρ hm' ⟨ms1, hρ, t⟩ => by
    subst hρ
    rw [rngL_len] at hm'
    obtain ⟨ms2, x, e, t2, ok⟩ := bkB_ok (mn := mn) (ch := ch) (tp := tp) (sc := sc) (d := d) t (by omega) hc h0 hl
    exact ⟨_, x, _, rfl, e, ⟨ms2, rfl, t2.mono (by omega)⟩, ok⟩
  obtain ⟨ms', hρ, t⟩ := hI
  subst hρ
  rw [rngL_len] at t hl'
  obtain ⟨book, rfl, hb⟩ := list_of (enc := encO) (P := fun o => ∀ q, o = some q → Bd 10 q) es fun x hx => by
    obtain ⟨i, hi⟩ := List.mem_iff_getElem?.mp hx
    obtain ⟨d, _, o, q⟩ := hq i x hi
    exact ⟨o, q⟩
  rw [List.length_map] at hl'
  exact ⟨ms', book, call_ok (cons_ok (fz_ok e) nil_ok) rfl, t.mono (by omega), hl', fun q hx => hb _ hx q rfl⟩
end GN

set_option Elab.async false
set_option linter.all false
set_option maxRecDepth 100000
set_option maxHeartbeats 8000000
/-! M22: the glide that is drawn: the scales. -/
namespace GN
open PySem
theorem third_lt {x y : Int} (h : x < y) : Rat.divInt x 3 < Rat.divInt y 3 := by
  have hx : (x : Rat) < (y : Rat) := Rat.intCast_lt_intCast.mpr h
  rw [Rat.divInt_eq_div, Rat.divInt_eq_div, Rat.div_def, Rat.div_def]
  exact Rat.mul_lt_mul_of_pos_right hx (Rat.inv_pos.mpr (by decide))
theorem third_bd {x : Int} (h : 1 ≤ x ∧ x ≤ 12) : Bd 10 (Rat.divInt x 3) := divInt_bd (by decide) (by omega) (by decide)
theorem scales_ok {tp : List Int} (hp : tp.Pairwise (· < ·)) (hx : ∀ x ∈ tp, 1 ≤ x ∧ x ≤ 12) : (tp.map fun x => Rat.divInt x 3).Pairwise (· < ·) ∧ ∀ s ∈ tp.map (fun x => Rat.divInt x 3), Bd 10 s :=
  ⟨List.pairwise_map.mpr (hp.imp third_lt), fun s hs => by
    obtain ⟨x, h, rfl⟩ := List.mem_map.mp hs
    exact third_bd (hx x h)⟩
theorem sc_lc {ρ : En} {tp : List Int} (hi : iSeq (eVar 3) ρ = .ok (tp.map PyData.int, ρ)) (hf : tp.length ≤ 4) (hw : wipeR ρ [10] = ρ) (hr : restR ρ ρ [10] = ρ) (hg : ∀ d : D, (ρ.set 10 (.val d))[10]? = some (.val d)) (hb : ∀ d : D, wipeR (ρ.set 10 (.val d)) [10] = ρ) :
    oLc (iSeq (eVar 3)) (gN 10) tYesF (eFn 2 F_law_part (aCons (eVar 10) (aCons (eC (.int 3)) aNil))) [10] ρ = .ok ((tp.map fun x => Rat.divInt x 3).map encQ, ρ) := by
  rw [List.map_map]
  refine lc_mapT (enc := PyData.int) hi (by omega) hw hr fun t ht => ⟨ρ.set 10 (.val (.int t)), rfl, ptk (n := 3) (i := t) (by decide) (by decide +kernel) ?_, hb _⟩
  unfold eVar
  rw [hg]
end GN

set_option Elab.async false
set_option linter.all false
set_option maxRecDepth 100000
set_option maxHeartbeats 8000000
/-! M23: the glide that is drawn, as a whole. -/
namespace GN
open PySem
theorem F_law_glide_drawn_ok {k : Nat} {ms : List D} (h : Tn k ms) (hk : k + 5000 < 2 ^ 40) :
    ∃ (ms' : List D) (mn : Nat) (ents : List D) (book : List (Option Rat)) (gs : List (Rat × List (Rat × Rat))), F_law_glide_drawn ms [] = .ok (.tuple [.tuple ents, .tuple (book.map encO), .tuple (gs.map encG)], ms') ∧ Tn (k + 5000) ms' ∧ mn ≤ 4 ∧ ents.length = mn ∧ book.length = mn ∧
      (∀ e ∈ ents, EntOk e) ∧ (∀ q, some q ∈ book → Bd 10 q) ∧ (∀ g ∈ gs, GlOk book g) ∧ gs.length ≤ 4 ∧ (gs.map Prod.fst).Pairwise (· < ·) := by
  obtain ⟨v, m1, e1, v0, v1, t1⟩ := takek (i := 0) (ρ := iniM 13 ms []) rfl h (by omega) (n := 4) (by decide) (by decide) (f := eC (.int 4)) rfl
  let mn := (1 + v).toNat
  have hmn : ((mn : Nat) : Int) = 1 + v := by show (((1 + v).toNat : Nat) : Int) = _; omega
  have s1 : sSet 1 (eOp addF (eC (.int 1)) (eFnM 0 1 F_law_take (aCons (eC (.int 4)) aNil))) (iniM 13 ms []) = .ok (.nx, chE m1 mn .no) := by
    rw [set_ok (opk (a := .int 1) (f := eC (.int 1)) rfl e1 (addF_int _ _)), ← hmn]
    rfl
  obtain ⟨m2, ents, e2, t2, l2, q2⟩ := chart_ok t1 (by omega) (mn := mn) (by omega)
  obtain ⟨m3, tp, e3, t3, p3, q3, l3⟩ := tops_ok t2 (by omega) (ρ := (chE m2 mn .no).set 2 (.val (.tuple ents))) rfl (fun _ _ => rfl) (fun _ => rfl)
  obtain ⟨p4, q4⟩ := scales_ok p3 q3
  let ss := tp.map fun x => Rat.divInt x 3
  have e4 := sc_lc (ρ := [.own m3, .val (.int mn), .val (.tuple ents), .val (.list (tp.map PyData.int)), .no, .no, .no, .no, .no, .no, .no, .no, .no]) (tp := tp) rfl l3 rfl rfl (fun _ => rfl) (fun _ => rfl)
  let cs : List D := [.tuple [.int 0, .int 1], .none, .tuple [.int 9, .int 1]] ++ ss.map encQ
  have hls : ss.length ≤ 4 := by show (tp.map _).length ≤ 4; rw [List.length_map]; exact l3
  have hcs : cs.length ≤ 1000 := by
    show (_ ++ ss.map encQ).length ≤ 1000
    rw [List.length_append, List.length_map]
    simp only [List.length_cons, List.length_nil]
    omega
  have hco : ∀ e ∈ cs, OOk e := fun e he => by
    cases List.mem_append.mp he with
    | inl he =>
      simp only [List.mem_cons, List.not_mem_nil, or_false] at he
      rcases he with rfl | rfl | rfl
      · exact ⟨some 0, rfl, fun q h => by cases h; exact ⟨by decide, by decide⟩⟩
      · exact ⟨none, rfl, fun q h => by cases h⟩
      · exact ⟨some 9, rfl, fun q h => by cases h; exact ⟨by decide, by decide⟩⟩
    | inr he =>
      obtain ⟨s, hs, rfl⟩ := List.mem_map.mp he
      exact ⟨some s, rfl, fun q h => by cases h; exact q4 s hs⟩
  obtain ⟨m6, book, e6, t6, l6, q6⟩ := book_ok t3 (by omega) (mn := mn) (by omega) (ch := .tuple ents) (tp := .list (tp.map PyData.int)) (sc := .list (ss.map encQ)) hco (List.cons_ne_nil _ _) hcs
  obtain ⟨m8, a8, s8, x8, sp8, gs, e8, t8, g8, n8⟩ := gd_outer (mn := mn) (tp := .list (tp.map PyData.int)) (sc := .list (ss.map encQ)) (cm := .list cs) q6 l6 l2 q2 (by omega) ss _ m6 .no .no .no .no [] (fun s hs => (q4 s hs).mono (by decide)) t6 (by omega) (by rw [List.length_nil]; omega) (fun g h => by cases h)
  rw [List.nil_append] at e8 g8
  have hgl : gs.length ≤ 4 := by
    have := congrArg List.length n8
    rw [List.length_map] at this
    omega
  refine ⟨m8, mn, ents, book, gs, ?_, t8.mono (by omega), by omega, l2, l6, q2, q6, g8, hgl, by rw [n8]; exact p4⟩
  refine runM_rt (ρ := gdE m8 mn (.tuple ents) (.list (tp.map PyData.int)) (.list (ss.map encQ)) (.list cs) (.tuple (book.map encO)) (gs.map encG) a8 s8 x8 sp8 |>.set 7 (.val (.list (gs.map encG)))) ?_ rfl
  unfold m_law_glide_drawn
  rw [seq_nx s1, seq_nx (set_ok e2), seq_nx (set_ok e3)]
  have s4 : sSetO 4 (oLc (iSeq (eVar 3)) (gN 10) tYesF (eFn 2 F_law_part (aCons (eVar 10) (aCons (eC (.int 3)) aNil))) [10]) [.own m3, .val (.int mn), .val (.tuple ents), .val (.list (tp.map PyData.int)), .no, .no, .no, .no, .no, .no, .no, .no, .no] = .ok (.nx, [.own m3, .val (.int mn), .val (.tuple ents), .val (.list (tp.map PyData.int)), .own (ss.map encQ), .no, .no, .no, .no, .no, .no, .no, .no]) := by
    unfold sSetO
    rw [e4, rb]
    rfl
  refine Eq.trans (seq_nx s4) ?_
  have s5 : sSet 5 (eOp addF (eLst (aCons (eTup (aCons (eC (.int 0)) (aCons (eC (.int 1)) aNil))) (aCons (eC .none) (aCons (eTup (aCons (eC (.int 9)) (aCons (eC (.int 1)) aNil))) aNil)))) (eVar 4)) [.own m3, .val (.int mn), .val (.tuple ents), .val (.list (tp.map PyData.int)), .own (ss.map encQ), .no, .no, .no, .no, .no, .no, .no, .no] = .ok (.nx, bkE m3 mn (.tuple ents) (.list (tp.map PyData.int)) (.list (ss.map encQ)) cs .no) := by
    have c : addF (.list [.tuple [.int 0, .int 1], .none, .tuple [.int 9, .int 1]]) (.list (ss.map encQ)) = .ok (.list cs) := by
      have c2 : catL (.list [.tuple [.int 0, .int 1], .none, .tuple [.int 9, .int 1]]) (.list (ss.map encQ)) = .ok (.list cs) := by
        unfold catL
        dsimp only
        rw [if_pos (few_le (by rw [List.length_map]; simp only [List.length_cons, List.length_nil]; omega))]
      exact c2
    exact set_ok (opk (ρ1 := [.own m3, .val (.int mn), .val (.tuple ents), .val (.list (tp.map PyData.int)), .own (ss.map encQ), .no, .no, .no, .no, .no, .no, .no, .no]) (a := .list [.tuple [.int 0, .int 1], .none, .tuple [.int 9, .int 1]]) rfl (g := eVar 4) (ρ2 := [.own m3, .val (.int mn), .val (.tuple ents), .val (.list (tp.map PyData.int)), .val (.list (ss.map encQ)), .no, .no, .no, .no, .no, .no, .no, .no]) rfl c)
  rw [seq_nx s5, seq_nx (set_ok e6)]
  have s7 : sSetO 7 (oLst aNil) ((bkE m6 mn (.tuple ents) (.list (tp.map PyData.int)) (.list (ss.map encQ)) cs .no).set 6 (.val (.tuple (book.map encO)))) = .ok (.nx, gdE m6 mn (.tuple ents) (.list (tp.map PyData.int)) (.list (ss.map encQ)) (.list cs) (.tuple (book.map encO)) (List.map encG []) .no .no .no .no) := rfl
  rw [seq_nx s7]
  have s8' : sFor (iSeq (eVar 4)) (gN 8) ouB (gdE m6 mn (.tuple ents) (.list (tp.map PyData.int)) (.list (ss.map encQ)) (.list cs) (.tuple (book.map encO)) (List.map encG []) .no .no .no .no) = .ok (.nx, gdE m8 mn (.tuple ents) (.list (tp.map PyData.int)) (.list (ss.map encQ)) (.list cs) (.tuple (book.map encO)) (gs.map encG) a8 s8 x8 sp8) := by
    unfold sFor
    rw [show iSeq (eVar 4) (gdE m6 mn (.tuple ents) (.list (tp.map PyData.int)) (.list (ss.map encQ)) (.list cs) (.tuple (book.map encO)) (List.map encG []) .no .no .no .no) = .ok (ss.map encQ, _) from rfl, rb]
    exact e8
  refine Eq.trans (seq_nx s8') ?_
  rfl
end GN

set_option Elab.async false
set_option linter.all false
set_option maxRecDepth 100000
set_option maxHeartbeats 8000000
/-! M24: what the recursive defs give on what is drawn. -/
namespace GN
open PySem
theorem TT.two {n : Nat} {a b a' b' : D} (h1 : TT n a a') (h2 : TT n b b') {d : D} (hd : d = .tuple [a, b] ∨ d = .list [a, b]) : TT (n + 1) d (.tuple [a', b']) :=
  TT.seq n [(a, a'), (b, b')] (show 2 ≤ 100000 by decide) (fun x hx => by
    simp only [List.mem_cons, List.not_mem_nil, or_false] at hx
    rcases hx with rfl | rfl
    · exact h1
    · exact h2) hd
theorem LL.two {n : Nat} {a b a' b' : D} (h1 : LL n a a') (h2 : LL n b b') {d : D} (hd : d = .tuple [a, b] ∨ d = .list [a, b]) : LL (n + 1) d (.list [a', b']) :=
  LL.seq n [(a, a'), (b, b')] (show 2 ≤ 100000 by decide) (fun x hx => by
    simp only [List.mem_cons, List.not_mem_nil, or_false] at hx
    rcases hx with rfl | rfl
    · exact h1
    · exact h2) hd
theorem SS.two {n : Nat} {a b a' b' : D} (h1 : SS n a a') (h2 : SS n b b') : SS (n + 1) (.tuple [a, b]) (.tuple [a', b']) :=
  SS.seq n [(a, a'), (b, b')] (show 2 ≤ 100000 by decide) (fun x hx => by
    simp only [List.mem_cons, List.not_mem_nil, or_false] at hx
    rcases hx with rfl | rfl
    · exact h1
    · exact h2) (.inl ⟨rfl, rfl⟩)
theorem TT.q (n : Nat) (q : Rat) : TT (n + 2) (encQ q) (encQ q) := TT.two (TT.int n _) (TT.int n _) (.inl rfl)
theorem TT.p (n : Nat) (p : Rat × Rat) : TT (n + 3) (encP p) (encP p) := TT.two (TT.q n _) (TT.q n _) (.inl rfl)
theorem SS.q (n : Nat) (q : Rat) : SS (n + 2) (encQ q) (encQ q) := SS.two (SS.int n _) (SS.int n _)
theorem SS.p (n : Nat) (p : Rat × Rat) : SS (n + 3) (encP p) (encP p) := SS.two (SS.q n _) (SS.q n _)
end GN

set_option Elab.async false
set_option linter.all false
set_option maxRecDepth 100000
set_option maxHeartbeats 8000000
/-! M25: what the recursive defs give on what is drawn, on. -/
namespace GN
open PySem
def lq (q : Rat) : D := .list [.int q.num, .int (q.den : Int)]
def lp (p : Rat × Rat) : D := .list [lq p.1, lq p.2]
def lg (g : Rat × List (Rat × Rat)) : D := .list [lq g.1, .list (g.2.map lp)]
theorem LL.q (n : Nat) (q : Rat) : LL (n + 2) (encQ q) (lq q) := LL.two (LL.int n _) (LL.int n _) (.inl rfl)
theorem LL.p (n : Nat) (p : Rat × Rat) : LL (n + 3) (encP p) (lp p) := LL.two (LL.q n _) (LL.q n _) (.inl rfl)
theorem TT.lq (n : Nat) (q : Rat) : TT (n + 2) (lq q) (encQ q) := TT.two (TT.int n _) (TT.int n _) (.inr rfl)
theorem TT.lp (n : Nat) (p : Rat × Rat) : TT (n + 3) (lp p) (encP p) := TT.two (TT.lq n _) (TT.lq n _) (.inr rfl)
theorem TT.map {α : Type} {f g : α → D} {n : Nat} (l : List α) (hl : l.length ≤ 100000) (h : ∀ a ∈ l, TT n (f a) (g a)) {d : D} (hd : d = .tuple (l.map f) ∨ d = .list (l.map f)) : TT (n + 1) d (.tuple (l.map g)) := by
  have k := TT.seq n (l.map fun a => (f a, g a)) (by rw [List.length_map]; exact hl) (fun x hx => by
    obtain ⟨a, ha, rfl⟩ := List.mem_map.mp hx
    exact h a ha) (d := d) (by rw [List.map_map]; exact hd)
  rw [List.map_map] at k
  exact k
theorem LL.map {α : Type} {f g : α → D} {n : Nat} (l : List α) (hl : l.length ≤ 100000) (h : ∀ a ∈ l, LL n (f a) (g a)) {d : D} (hd : d = .tuple (l.map f) ∨ d = .list (l.map f)) : LL (n + 1) d (.list (l.map g)) := by
  have k := LL.seq n (l.map fun a => (f a, g a)) (by rw [List.length_map]; exact hl) (fun x hx => by
    obtain ⟨a, ha, rfl⟩ := List.mem_map.mp hx
    exact h a ha) (d := d) (by rw [List.map_map]; exact hd)
  rw [List.map_map] at k
  exact k
theorem SS.map {α : Type} {f : α → D} {n : Nat} (l : List α) (hl : l.length ≤ 100000) (h : ∀ a ∈ l, SS n (f a) (f a)) : SS (n + 1) (.tuple (l.map f)) (.tuple (l.map f)) ∧ SS (n + 1) (.list (l.map f)) (.list (l.map f)) := by
  have k := fun d e hd => SS.seq n (l.map fun a => (f a, f a)) (by rw [List.length_map]; exact hl) (fun x hx => by
    obtain ⟨a, ha, rfl⟩ := List.mem_map.mp hx
    exact h a ha) (d := d) (e := e) hd
  simp only [List.map_map] at k
  exact ⟨k _ _ (.inl ⟨rfl, rfl⟩), k _ _ (.inr ⟨rfl, rfl⟩)⟩
theorem TT.o (n : Nat) (o : Option Rat) : TT (n + 2) (encO o) (encO o) := by
  cases o with
  | none => exact TT.none _
  | some q => exact TT.q n q
end GN

set_option Elab.async false
set_option linter.all false
set_option maxRecDepth 100000
set_option maxHeartbeats 8000000
/-! M26: lists and tuples of a chart, a book, a glide, a view. -/
namespace GN
open PySem
theorem four_mem {α : Type} {P : α → Prop} {a b c d : α} (h1 : P a) (h2 : P b) (h3 : P c) (h4 : P d) : ∀ x ∈ [a, b, c, d], P x := fun x hx => by
  simp only [List.mem_cons, List.not_mem_nil, or_false] at hx
  rcases hx with rfl | rfl | rfl | rfl
  · exact h1
  · exact h2
  · exact h3
  · exact h4
theorem TT.four {n : Nat} {a b c e a' b' c' e' : D} (h1 : TT n a a') (h2 : TT n b b') (h3 : TT n c c') (h4 : TT n e e') {d : D} (hd : d = .tuple [a, b, c, e] ∨ d = .list [a, b, c, e]) : TT (n + 1) d (.tuple [a', b', c', e']) :=
  TT.seq n [(a, a'), (b, b'), (c, c'), (e, e')] (show 4 ≤ 100000 by decide) (four_mem (P := fun x : D × D => TT n x.1 x.2) h1 h2 h3 h4) hd
theorem LL.four {n : Nat} {a b c e a' b' c' e' : D} (h1 : LL n a a') (h2 : LL n b b') (h3 : LL n c c') (h4 : LL n e e') {d : D} (hd : d = .tuple [a, b, c, e] ∨ d = .list [a, b, c, e]) : LL (n + 1) d (.list [a', b', c', e']) :=
  LL.seq n [(a, a'), (b, b'), (c, c'), (e, e')] (show 4 ≤ 100000 by decide) (four_mem (P := fun x : D × D => LL n x.1 x.2) h1 h2 h3 h4) hd
theorem TT.i4 (n : Nat) (a b c e : Int) {d : D} (hd : d = .tuple [.int a, .int b, .int c, .int e] ∨ d = .list [.int a, .int b, .int c, .int e]) : TT (n + 2) d (.tuple [.int a, .int b, .int c, .int e]) :=
  TT.four (TT.int n a) (TT.int n b) (TT.int n c) (TT.int n e) hd
theorem LL.i4 (n : Nat) (a b c e : Int) : LL (n + 2) (.tuple [.int a, .int b, .int c, .int e]) (.list [.int a, .int b, .int c, .int e]) :=
  LL.four (LL.int n a) (LL.int n b) (LL.int n c) (LL.int n e) (.inl rfl)
theorem EntOk.ll {d : D} (h : EntOk d) : ∃ e, LL 8 d e ∧ TT 8 e d ∧ TT 8 d d := by
  obtain ⟨w, h', a, b, rfl, _, _⟩ := h.ex
  refine ⟨.list [.int w, .int h', .list [.int a, .int 900, .int a, .int 900], .list [.int b, .int 90, .int b, .int 90]], ?_, ?_, ?_⟩
  · exact LL.four (LL.int 6 w) (LL.int 6 h') (LL.i4 5 a 900 a 900) (LL.i4 5 b 90 b 90) (.inl rfl)
  · exact TT.four (TT.int 6 w) (TT.int 6 h') (TT.i4 5 a 900 a 900 (.inr rfl)) (TT.i4 5 b 90 b 90 (.inr rfl)) (.inr rfl)
  · exact TT.four (TT.int 6 w) (TT.int 6 h') (TT.i4 5 a 900 a 900 (.inl rfl)) (TT.i4 5 b 90 b 90 (.inl rfl)) (.inl rfl)
theorem pick_all {α β : Type} {R : α → β → Prop} : ∀ (l : List α), (∀ a ∈ l, ∃ b, R a b) → ∃ ps : List (α × β), ps.map Prod.fst = l ∧ ∀ p ∈ ps, R p.1 p.2
  | [], _ => ⟨[], rfl, fun p h => by cases h⟩
  | a :: l, h => by
    obtain ⟨b, hb⟩ := h a List.mem_cons_self
    obtain ⟨ps, e, hp⟩ := pick_all l fun x hx => h x (List.mem_cons_of_mem _ hx)
    refine ⟨(a, b) :: ps, by rw [List.map_cons, e], fun p hp' => ?_⟩
    cases List.mem_cons.mp hp' with
    | inl e => subst e; exact hb
    | inr e => exact hp p e
theorem chart_ll {ents : List D} (h : ∀ e ∈ ents, EntOk e) (hl : ents.length ≤ 100000) : F_tuple_of [.tuple ents] = .ok (.tuple ents) ∧ ∃ x, F_law_lists [.tuple ents] = .ok x ∧ F_tuple_of [x] = .ok (.tuple ents) := by
  obtain ⟨ps, rfl, hp⟩ := pick_all ents fun e he => (h e he).ll
  rw [List.length_map] at hl
  refine ⟨?_, .list (ps.map Prod.snd), LL.seq 8 ps hl (fun p h => (hp p h).1) (.inl rfl), ?_⟩
  · have k := TT.seq 8 (ps.map fun p => (p.1, p.1)) (by rw [List.length_map]; exact hl) (fun x hx => by
      obtain ⟨p, hm, rfl⟩ := List.mem_map.mp hx
      exact (hp p hm).2.2) (d := .tuple (ps.map Prod.fst)) (.inl (by rw [List.map_map]; rfl))
    rw [List.map_map] at k
    exact k
  · have k := TT.seq 8 (ps.map fun p => (p.2, p.1)) (by rw [List.length_map]; exact hl) (fun x hx => by
      obtain ⟨p, hm, rfl⟩ := List.mem_map.mp hx
      exact (hp p hm).2.1) (d := .list (ps.map Prod.snd)) (.inr (by rw [List.map_map]; rfl))
    rw [List.map_map] at k
    exact k
theorem book_tt {book : List (Option Rat)} (hl : book.length ≤ 100000) {d : D} (hd : d = .tuple (book.map encO) ∨ d = .list (book.map encO)) : F_tuple_of [d] = .ok (.tuple (book.map encO)) :=
  TT.map (n := 8) book hl (fun o _ => TT.o 6 o) hd
theorem G_ll {n : Nat} (g : Rat × List (Rat × Rat)) (hl : g.2.length ≤ 100000) : LL (n + 5) (encG g) (lg g) :=
  LL.two (LL.q (n + 2) g.1) (LL.map (n := n + 3) g.2 hl (fun p _ => LL.p n p) (.inl rfl)) (.inl rfl)
theorem G_tl {n : Nat} (g : Rat × List (Rat × Rat)) (hl : g.2.length ≤ 100000) : TT (n + 5) (lg g) (encG g) :=
  TT.two (TT.lq (n + 2) g.1) (TT.map (n := n + 3) g.2 hl (fun p _ => TT.lp n p) (.inr rfl)) (.inr rfl)
theorem G_tt {n : Nat} (g : Rat × List (Rat × Rat)) (hl : g.2.length ≤ 100000) : TT (n + 5) (encG g) (encG g) :=
  TT.two (TT.q (n + 2) g.1) (TT.map (n := n + 3) g.2 hl (fun p _ => TT.p n p) (.inl rfl)) (.inl rfl)
theorem glide_ll {gs : List (Rat × List (Rat × Rat))} (hl : gs.length ≤ 100000) (h : ∀ g ∈ gs, g.2.length ≤ 100000) : F_law_lists [.tuple (gs.map encG)] = .ok (.list (gs.map lg)) :=
  LL.map (n := 8) gs hl (fun g hg => G_ll (n := 3) g (h g hg)) (.inl rfl)
theorem glide_tl {gs : List (Rat × List (Rat × Rat))} (hl : gs.length ≤ 100000) (h : ∀ g ∈ gs, g.2.length ≤ 100000) : F_tuple_of [.list (gs.map lg)] = .ok (.tuple (gs.map encG)) :=
  TT.map (n := 8) gs hl (fun g hg => G_tl (n := 3) g (h g hg)) (.inr rfl)
theorem glide_tt {gs : List (Rat × List (Rat × Rat))} (hl : gs.length ≤ 100000) (h : ∀ g ∈ gs, g.2.length ≤ 100000) : F_tuple_of [.tuple (gs.map encG)] = .ok (.tuple (gs.map encG)) :=
  TT.map (n := 8) gs hl (fun g hg => G_tt (n := 3) g (h g hg)) (.inl rfl)
theorem view_tt (c : Cfg) {d : D} (hd : d = c.view ∨ d = .list [.int c.va, .int c.vd, .int c.vw, .int c.vh]) : F_tuple_of [d] = .ok c.view := TT.i4 7 c.va c.vd c.vw c.vh hd
theorem one_tt {n : Nat} {d e : D} (h : TT n d e) : TT (n + 1) (.tuple [d]) (.tuple [e]) :=
  TT.seq n [(d, e)] (show 1 ≤ 100000 by decide) (fun x hx => by cases List.mem_singleton.mp hx; exact h) (.inl rfl)
theorem window_ok {c : Cfg} (hc : CfgOk c) {s : Rat} {m : Nat} (hs : Bd m s) (hm : m ≤ 3000) : F_window [c.view, encQ s] = .ok (encW (c.win s)) := by
  have a1 := view_tt c (.inl rfl)
  have a2 : F_tuple_of [encQ s] = .ok (encQ s) := TT.q 7 s
  have a3 : F_window_in [c.view, encQ s] = .ok (encW (c.win s)) := F_window_in_ok hc.va hc.vd hc.vw hc.vh hs hm
  refine runD_rt (ρ := [.val c.view, .val (encQ s)]) ?_
  show m_window [.val c.view, .val (encQ s)] = _
  unfold m_window
  refine ret_ok ?_
  simp only [eFn, eOp, eVar, eC, aCons, aNil, eTup, eLst, rb, List.getElem?_cons_zero, List.getElem?_cons_succ, List.length_cons, List.length_nil, Nat.zero_add, Nat.reduceAdd, few2, if_true, eq_self, ite_true, reduceIte, List.set_cons_zero, List.set_cons_succ, a1, a2, a3]
theorem same_spans (l : List (Rat × Rat)) (hl : l.length ≤ 100000) : F_law_same [.list (l.map encP), .list (l.map encP)] = .ok (.bool true) := (SS.map (n := 8) l hl fun p _ => SS.p 5 p).2
theorem same_lot (b : Bool) (k : Nat) : F_law_same [.tuple (if b = true then [.int (k : Nat)] else []), .tuple (if b = true then [.int (k : Nat)] else [])] = .ok (.bool true) := by
  cases b with
  | true => exact SS.seq 8 [(.int (k : Nat), .int (k : Nat))] (show 1 ≤ 100000 by decide) (fun x hx => by cases List.mem_singleton.mp hx; exact SS.int 7 _) (.inl ⟨rfl, rfl⟩)
  | false => exact SS.seq 8 [] (show 0 ≤ 100000 by decide) (fun x hx => by cases hx) (.inl ⟨rfl, rfl⟩)
end GN

set_option Elab.async false
set_option linter.all false
set_option maxRecDepth 100000
set_option maxHeartbeats 8000000
/-! M27: pairs of told places next to one another. -/
namespace GN
open PySem
theorem told_sub (book : List (Option Rat)) (k : Int) : ∀ (gs : List (Rat × List (Rat × Rat))), ((told book k gs).map Prod.fst).Sublist (gs.map Prod.fst)
  | [] => .slnil
  | g :: r => by
    have ih := told_sub book k r
    unfold told
    cases idxI k (shown g.1 0 book) with
    | none => exact .cons _ ih
    | some j => exact .cons₂ _ ih
theorem zip_tail_mem {α β : Type} (f : α → β) {t u : α} : ∀ {l : List α}, (t, u) ∈ l.zip l.tail → (f t, f u) ∈ (l.map f).zip (l.map f).tail
  | [], h => by cases h
  | [a], h => by cases h
  | a :: b :: r, h => by
    have ih := zip_tail_mem f (t := t) (u := u) (l := b :: r)
    rw [List.tail_cons, List.zip_cons_cons] at h
    rw [List.map_cons, List.map_cons, List.tail_cons, List.zip_cons_cons]
    cases List.mem_cons.mp h with
    | inl e => cases e; exact List.mem_cons_self
    | inr e =>
      refine List.mem_cons_of_mem _ ?_
      have := ih e
      rw [List.map_cons, List.tail_cons] at this
      exact this
theorem zip_lt : ∀ {l : List Row}, (l.map Prod.fst).Pairwise (· < ·) → ∀ p ∈ l.zip l.tail, p.1.1 < p.2.1
  | [], _, p, h => by cases h
  | [a], _, p, h => by cases h
  | a :: b :: r, hp, p, h => by
    rw [List.tail_cons, List.zip_cons_cons] at h
    rw [List.map_cons] at hp
    obtain ⟨h1, h2⟩ := List.pairwise_cons.mp hp
    cases List.mem_cons.mp h with
    | inl e =>
      cases e
      exact h1 b.1 (by rw [List.map_cons]; exact List.mem_cons_self)
    | inr e => exact zip_lt (l := b :: r) h2 p e
theorem zip_pw : ∀ {l : List Row}, (l.map Prod.fst).Pairwise (· < ·) → (l.zip l.tail).Pairwise (fun a b => a.2.1 ≤ b.1.1)
  | [], _ => .nil
  | [a], _ => .nil
  | a :: b :: r, hp => by
    rw [List.tail_cons, List.zip_cons_cons]
    rw [List.map_cons] at hp
    obtain ⟨h1, h2⟩ := List.pairwise_cons.mp hp
    refine .cons (fun q hq => ?_) (zip_pw (l := b :: r) h2)
    show b.1 ≤ q.1.1
    have hm : q.1 ∈ b :: r := (List.of_mem_zip hq).1
    cases List.mem_cons.mp hm with
    | inl e => rw [e]; exact Rat.le_refl
    | inr e =>
      rw [List.map_cons] at h2
      have := (List.pairwise_cons.mp h2).1 q.1.1 (List.mem_map.mpr ⟨q.1, e, rfl⟩)
      exact Rat.le_of_lt this
def midQ (q x y : Rat) : Rat := x + q * (y - x)
theorem gap_lin (a w t u x y q : Rat) : midQ q t u * a + w - midQ q x y = (t * a + w - x) + q * ((u * a + w - y) - (t * a + w - x)) := by
  unfold midQ
  grind
theorem gap_lin2 (a w t u x y e q : Rat) : midQ q x y + e - (midQ q t u * a - w) = (x + e - (t * a - w)) + q * ((y + e - (u * a - w)) - (x + e - (t * a - w))) := by
  unfold midQ
  grind
theorem mid_gaps (c : Cfg) (t u : Rat × (Rat × Rat)) (q : Rat) :
    ((gapsQ (boxQ c.ew c.eh (midQ q t.2.1 u.2.1, midQ q t.2.2 u.2.2)) (c.win (midQ q t.1 u.1))).all fun x => decide (0 < x)) = true ↔ midL q ((rowQ c t).2.zip (rowQ c u).2) := by
  have e1 := gap_lin c.va (Rat.divInt c.vw 2) t.1 u.1 t.2.1 u.2.1 q
  have e2 := gap_lin c.vd (Rat.divInt c.vh 2) t.1 u.1 t.2.2 u.2.2 q
  have e3 := gap_lin2 c.va (Rat.divInt c.vw 2) t.1 u.1 t.2.1 u.2.1 c.ew q
  have e4 := gap_lin2 c.vd (Rat.divInt c.vh 2) t.1 u.1 t.2.2 u.2.2 c.eh q
  have l : (gapsQ (boxQ c.ew c.eh (midQ q t.2.1 u.2.1, midQ q t.2.2 u.2.2)) (c.win (midQ q t.1 u.1))) = ((rowQ c t).2.zip (rowQ c u).2).map fun p => p.1 + q * (p.2 - p.1) := by
    show [_, _, _, _] = [_, _, _, _]
    exact congr (congrArg _ e1) (congr (congrArg _ e2) (congr (congrArg _ e3) (congrArg (fun z => [z]) e4)))
  rw [l, List.all_map]
  constructor
  · intro z p hp
    exact of_decide_eq_true (List.all_eq_true.mp z p hp)
  · intro h
    exact List.all_eq_true.mpr fun p hp => decide_eq_true (h p hp)
theorem mid_seen (c : Cfg) {book : List (Option Rat)} {gs : List (Rat × List (Rat × Rat))} {k : Nat} (hs : (gs.map Prod.fst).Pairwise (· < ·)) {t u : Rat × (Rat × Rat)} (hm : (t, u) ∈ (told book (k : Nat) gs).zip (told book (k : Nat) gs).tail) {q : Rat} (h0 : 0 < q) (h1 : q < 1) :
    midL q ((rowQ c t).2.zip (rowQ c u).2) ↔ Ins (spansQ c book gs k) (midQ q t.1 u.1) := by
  have hr : ((rowsQ c book gs k).map Prod.fst).Pairwise (· < ·) := by
    have e : (rowsQ c book gs k).map Prod.fst = (told book (k : Nat) gs).map Prod.fst := by
      unfold rowsQ
      rw [List.map_map]
      rfl
    rw [e]
    exact hs.sublist (told_sub book (k : Nat) gs)
  have hz : (rowQ c t, rowQ c u) ∈ (rowsQ c book gs k).zip (rowsQ c book gs k).tail := zip_tail_mem (rowQ c) hm
  have hw : t.1 < u.1 := zip_lt hr _ hz
  have p := Rat.mul_pos h0 (show 0 < u.1 - t.1 by grind)
  have p' := Rat.mul_pos (a := 1 - q) (by grind) (show 0 < u.1 - t.1 by grind)
  have a := segQ_mid hw h0 h1 ((rowQ c t).2.zip (rowQ c u).2)
  have b := join_mid (zip_pw hr) (zip_lt hr) hz (a := midQ q t.1 u.1) (by show t.1 < midQ q t.1 u.1; unfold midQ; grind) (by show midQ q t.1 u.1 < u.1; unfold midQ; grind)
  exact a.trans b.symm
end GN

set_option Elab.async false
set_option linter.all false
set_option maxRecDepth 100000
set_option maxHeartbeats 8000000
/-! M28: one pair of scales: what is seen between. -/
namespace GN
open PySem
theorem lc_mapW {α : Type} {enc ψ : α → D} {it : LF} {g : GF} {f : EF} {vs : List Nat} {ρ ρw ρ0 : En} {ts : List α} (hi : it ρ0 = .ok (ts.map enc, ρ)) (hf : ts.length ≤ 100000) (hw : wipeR ρ vs = ρw) (hr : restR ρ ρw vs = ρ)
    (h : ∀ t ∈ ts, ∃ ρd, g (enc t) ρw = some ρd ∧ f ρd = .ok (ψ t, ρd) ∧ wipeR ρd vs = ρw) : oLc it g tYesF f vs ρ0 = .ok (ts.map ψ, ρ) := by
  unfold oLc
  rw [hi, rb]
  dsimp only
  rw [if_pos (show few (ts.map enc).length = true from decide_eq_true (by rw [List.length_map]; exact hf)), hw, lcL_map ts h, rbN, hr]
theorem lcL_fil {α : Type} {enc : α → D} {keep : α → Bool} {e : D} {g : GF} {tt : TF} {f : EF} {vs : List Nat} {ρ : En} : ∀ (ts : List α), (∀ t ∈ ts, ∃ ρd, g (enc t) ρ = some ρd ∧ tt ρd = .ok (keep t, ρd) ∧ f ρd = .ok (e, ρd) ∧ wipeR ρd vs = ρ) → lcL g tt f vs (ts.map enc) ρ = .ok ((ts.filter keep).map (fun _ => e), ρ)
  | [], _ => rfl
  | t :: ts, h => by
    obtain ⟨ρd, h1, h2, h3, h4⟩ := h t List.mem_cons_self
    have ih := lcL_fil (f := f) ts fun e he => h e (List.mem_cons_of_mem _ he)
    rw [List.map_cons]
    conv => lhs; unfold lcL
    rw [h1]
    dsimp only
    rw [h2, rbN]
    dsimp only
    cases hk : keep t with
    | true =>
      rw [if_pos rfl, h3, rbN]
      dsimp only
      rw [h4, ih, rbN, List.filter_cons_of_pos hk]
      rfl
    | false =>
      rw [if_neg Bool.false_ne_true, h4, ih, List.filter_cons_of_neg (by simp [hk])]
theorem lay_ones {α : Type} : ∀ l : List α, PyData.canLayAll0 (l.map fun _ => PyData.int 1) = true
  | [] => rfl
  | _ :: r => lay_ones r
theorem dep_ones {α : Type} : ∀ l : List α, PyData.depthAll (l.map fun _ => PyData.int 1) ≤ 0
  | [] => Nat.le_refl 0
  | a :: r => by
    have h := dep_ones r
    show max (PyData.depth (.int 1)) (PyData.depthAll (r.map fun _ => PyData.int 1)) ≤ 0
    have e : PyData.depth (.int 1) = 0 := rfl
    rw [e]
    omega
theorem ne_ones {α : Type} (l : List α) : neF (.list (l.map fun _ => PyData.int 1)) (.list []) = .ok (.bool (!l.isEmpty)) := by
  have h : SeqAt.shaped (.list (l.map fun _ => PyData.int 1)) = true := by
    have h := dep_ones l
    show (PyData.canLayAll0 (l.map fun _ => PyData.int 1) && decide (PyData.depthAll (l.map fun _ => PyData.int 1) + 1 ≤ 64)) = true
    rw [lay_ones, decide_eq_true (by omega)]
    rfl
  unfold neF
  rw [h]
  cases l with
  | nil => rfl
  | cons a r => rfl
def InsB (found : List (Rat × Rat)) (a : Rat) : Bool := !(found.filter fun r => decide (r.1 < a) && decide (a < r.2)).isEmpty
theorem InsB_eq (found : List (Rat × Rat)) (a : Rat) : InsB found a = true ↔ Ins found a := by
  unfold InsB Ins
  constructor
  · intro h
    cases z : found.filter fun r => decide (r.1 < a) && decide (a < r.2) with
    | nil => rw [z] at h; cases h
    | cons r l =>
      have : r ∈ found.filter fun r => decide (r.1 < a) && decide (a < r.2) := by rw [z]; exact List.mem_cons_self
      obtain ⟨h1, h2⟩ := List.mem_filter.mp this
      rw [Bool.and_eq_true] at h2
      exact ⟨r, h1, of_decide_eq_true h2.1, of_decide_eq_true h2.2⟩
  · rintro ⟨r, h1, h2, h3⟩
    have : r ∈ found.filter fun r => decide (r.1 < a) && decide (a < r.2) := List.mem_filter.mpr ⟨h1, by rw [decide_eq_true h2, decide_eq_true h3]; rfl⟩
    cases z : found.filter fun r => decide (r.1 < a) && decide (a < r.2) with
    | nil => rw [z] at this; cases this
    | cons r l => rfl
theorem segQ_bd {low high : Rat} (hl : Bd 100 low) (hh : Bd 100 high) {ps : List (Rat × Rat)} (hp : ∀ p ∈ ps, GapOk p) {q : Rat × Rat} (h : segQ low high ps = some q) : Bd 1600 q.1 ∧ Bd 1600 q.2 := by
  unfold segQ at h
  split at h
  · cases h
  · rename_i z hz
    split at h
    · cases h
      exact segL_bd hl hh ps low high (hl.mono (by decide)) (hh.mono (by decide)) hp _ hz
    · cases h
abbrev SpBd (l : List (Rat × Rat)) : Prop := ∀ r ∈ l, Bd 1600 r.1 ∧ Bd 1600 r.2
theorem SpBd.app {l : List (Rat × Rat)} {q : Rat × Rat} (h : SpBd l) (h1 : Bd 1600 q.1 ∧ Bd 1600 q.2) : SpBd (l ++ [q]) := fun r hr => by
  cases List.mem_append.mp hr with
  | inl hr => exact h r hr
  | inr hr => cases List.mem_singleton.mp hr; exact h1
theorem join_bd {found : List (Rat × Rat)} {ab : Row × Row} (h : SpBd found) (h1 : RowOk ab.1) (h2 : RowOk ab.2) : SpBd (joinStep found ab) := by
  unfold joinStep
  split
  · exact h
  · rename_i q hq
    have hb := segQ_bd h1.bs h2.bs (zip_ok h1 h2) hq
    split
    · exact h.app hb
    · rename_i l hl
      have hm : l ∈ found := List.mem_of_getElem? hl
      split
      · exact SpBd.app (fun r hr => h r (List.dropLast_subset _ hr)) ⟨(h l hm).1, hb.2⟩
      · exact h.app hb
theorem joins_bd : ∀ (ps : List (Row × Row)) {found : List (Rat × Rat)}, SpBd found → (∀ p ∈ ps, RowOk p.1 ∧ RowOk p.2) → SpBd (ps.foldl joinStep found)
  | [], _, h, _ => h
  | p :: r, _, h, hp => joins_bd r (join_bd h (hp p List.mem_cons_self).1 (hp p List.mem_cons_self).2) fun q hq => hp q (List.mem_cons_of_mem _ hq)
theorem spans_bd {c : Cfg} (hc : CfgOk c) {book : List (Option Rat)} {gs : List (Rat × List (Rat × Rat))} (hg : ∀ g ∈ gs, GlOk book g) (k : Nat) : SpBd (spansQ c book gs k) :=
  joins_bd _ (fun r hr => by cases hr) fun p hp => ⟨(rows_ok hc hg p hp).1, (rows_ok hc hg p hp).2.1⟩
theorem joins_len : ∀ (ps : List (Row × Row)) (found : List (Rat × Rat)), (ps.foldl joinStep found).length ≤ found.length + ps.length
  | [], found => Nat.le_refl _
  | p :: r, found => by
    have h1 := joinStep_len found p
    have h2 := joins_len r (joinStep found p)
    rw [List.foldl_cons, List.length_cons]
    omega
theorem spans_len {c : Cfg} {book : List (Option Rat)} {gs : List (Rat × List (Rat × Rat))} {k : Nat} : (spansQ c book gs k).length ≤ gs.length := by
  have h := joins_len ((rowsQ c book gs k).zip (rowsQ c book gs k).tail) []
  rw [List.length_nil, Nat.zero_add, List.length_zip] at h
  have h2 : (rowsQ c book gs k).length ≤ gs.length := by
    unfold rowsQ
    rw [List.length_map]
    exact told_len book _ gs
  exact Nat.le_trans h (by omega)
abbrev crE (c : Cfg) (ents : List D) (book : List (Option Rat)) (gs : List (Rat × List (Rat × Rat))) (k : Nat) (ms : List D) (soft s8 s9 s10 s11 s12 s13 s14 s15 s16 s17 : Sl) : En :=
  [.own ms, .val (.tuple ents), .val (.tuple (book.map encO)), .val (.tuple (gs.map encG)), .val c.view, soft, .val (.int (k : Nat)), .val (.list ((spansQ c book gs k).map encP)), s8, s9, s10, s11, s12, s13, s14, s15, s16, s17, .no, .no]
abbrev crP : EF := eFn 2 F_law_part (aCons (eOp addF (eC (.int 1)) (eFnM 0 1 F_law_take (aCons (eC (.int 5)) aNil))) (aCons (eC (.int 7)) aNil))
abbrev crA : EF := eFn 2 F_law_plus (aCons (eVar 14) (aCons (eFn 2 F_law_times (aCons (eVar 10) (aCons (eFn 2 F_law_minus (aCons (eVar 16) (aCons (eVar 14) aNil))) aNil))) aNil))
abbrev crSx : EF := eFn 2 F_law_plus (aCons (eOp idxF (eVar 15) (eVar 13)) (aCons (eFn 2 F_law_times (aCons (eVar 10) (aCons (eFn 2 F_law_minus (aCons (eOp idxF (eVar 17) (eVar 13)) (aCons (eOp idxF (eVar 15) (eVar 13)) aNil))) aNil))) aNil))
abbrev crS : EF := eCall tupleF (aCons (eFz (oLc (iSeq (eTup (aCons (eC (.int 0)) (aCons (eC (.int 1)) aNil)))) (gN 13) tYesF crSx [13])) aNil)
abbrev crOt : TF := tAnd2 (tB1 (eFn 2 F_law_less (aCons (eVar 18) (aCons (eVar 11) aNil)))) (tB1 (eFn 2 F_law_less (aCons (eVar 11) (aCons (eVar 19) aNil))))
abbrev crO : EF := eOp neF (eFz (oLc (iSeq (eVar 7)) (gT 2 (gsC (gN 18) (gsC (gN 19) gsN))) crOt (eC (.int 1)) [18, 19])) (eLst aNil)
abbrev crT : TF := tNot1 (tB1 (eFn 2 F_law_same (aCons (eFn 5 F_seen (aCons (eVar 1) (aCons (eTup (aCons (eVar 6) aNil)) (aCons (eTup (aCons (eVar 12) aNil)) (aCons (eVar 4) (aCons (eVar 11) aNil)))))) (aCons (eIf (tB1 (eVar 13)) (eTup (aCons (eVar 6) aNil)) (eTup aNil)) aNil))))
abbrev crI : SF := sSeq (sSet 10 crP) (sSeq (sSet 11 crA) (sSeq (sSet 12 crS) (sSeq (sSet 13 crO) (sIf crT (sRet (eC (.bool false))) sSkip))))
theorem part_mid {v : Int} (h0 : 0 ≤ v) (h1 : v < 5) : 0 < Rat.divInt (1 + v) 7 ∧ Rat.divInt (1 + v) 7 < 1 ∧ Bd 10 (Rat.divInt (1 + v) 7) := by
  refine ⟨?_, ?_, divInt_bd (by decide) (by omega) (by decide)⟩
  · have hv : v = 0 ∨ v = 1 ∨ v = 2 ∨ v = 3 ∨ v = 4 := by omega
    rcases hv with rfl | rfl | rfl | rfl | rfl <;> decide
  · have hv : v = 0 ∨ v = 1 ∨ v = 2 ∨ v = 3 ∨ v = 4 := by omega
    rcases hv with rfl | rfl | rfl | rfl | rfl <;> decide
section
variable {c : Cfg} {ents : List D} {book : List (Option Rat)} {gs : List (Rat × List (Rat × Rat))} {k : Nat} {e3 e4 : D} {soft s8 s9 : Sl}
theorem crA_ok {ms : List D} {t u : Rat × (Rat × Rat)} {q : Rat} {s11 s12 s13 : Sl} (ht : PtOk 30 200 t) (hu : PtOk 30 200 u) (hq : Bd 10 q) :
    crA (crE c ents book gs k ms soft s8 s9 (.val (encQ q)) s11 s12 s13 (.val (encQ t.1)) (.val (encP t.2)) (.val (encQ u.1)) (.val (encP u.2))) = .ok (encQ (midQ q t.1 u.1), crE c ents book gs k ms soft s8 s9 (.val (encQ q)) s11 s12 s13 (.val (encQ t.1)) (.val (encP t.2)) (.val (encQ u.1)) (.val (encP u.2))) := by
  have a1 := F_law_minus_ok hu.bs ht.bs (by decide)
  have a2 := F_law_times_ok hq (hu.bs.sub ht.bs) (by decide)
  have a3 := F_law_plus_ok ht.bs (hq.mul (hu.bs.sub ht.bs)) (by decide)
  show _ = Res.ok (encQ (t.1 + q * (u.1 - t.1)), _)
  simp only [eFn, eOp, eVar, eC, aCons, aNil, eTup, eLst, rb, List.getElem?_cons_zero, List.getElem?_cons_succ, List.length_cons, List.length_nil, Nat.zero_add, Nat.reduceAdd, few2, if_true, eq_self, ite_true, reduceIte, List.set_cons_zero, List.set_cons_succ, a1, a2, a3]
theorem crSx_ok {ms : List D} {t u : Rat × (Rat × Rat)} {q : Rat} {s11 s12 : Sl} {s13 : Int} {x y : Rat} (h1 : idxF (encP t.2) (.int s13) = .ok (encQ x)) (h2 : idxF (encP u.2) (.int s13) = .ok (encQ y)) (hx : Bd 200 x) (hy : Bd 200 y) (hq : Bd 10 q) :
    crSx (crE c ents book gs k ms soft s8 s9 (.val (encQ q)) s11 s12 (.val (.int s13)) (.val (encQ t.1)) (.val (encP t.2)) (.val (encQ u.1)) (.val (encP u.2))) = .ok (encQ (midQ q x y), crE c ents book gs k ms soft s8 s9 (.val (encQ q)) s11 s12 (.val (.int s13)) (.val (encQ t.1)) (.val (encP t.2)) (.val (encQ u.1)) (.val (encP u.2))) := by
  have a1 := F_law_minus_ok hy hx (by decide)
  have a2 := F_law_times_ok hq (hy.sub hx) (by decide)
  have a3 := F_law_plus_ok hx (hq.mul (hy.sub hx)) (by decide)
  show _ = Res.ok (encQ (x + q * (y - x)), _)
  simp only [eFn, eOp, eVar, eC, aCons, aNil, eTup, eLst, rb, List.getElem?_cons_zero, List.getElem?_cons_succ, List.length_cons, List.length_nil, Nat.zero_add, Nat.reduceAdd, few2, if_true, eq_self, ite_true, reduceIte, List.set_cons_zero, List.set_cons_succ, h1, h2, a1, a2, a3]
theorem crS_ok {ms : List D} {t u : Rat × (Rat × Rat)} {q : Rat} {s11 s12 s13 : Sl} (h13 : keepV (some s13) = s13) (ht : PtOk 30 200 t) (hu : PtOk 30 200 u) (hq : Bd 10 q) :
    crS (crE c ents book gs k ms soft s8 s9 (.val (encQ q)) s11 s12 s13 (.val (encQ t.1)) (.val (encP t.2)) (.val (encQ u.1)) (.val (encP u.2))) = .ok (encP (midQ q t.2.1 u.2.1, midQ q t.2.2 u.2.2), crE c ents book gs k ms soft s8 s9 (.val (encQ q)) s11 s12 s13 (.val (encQ t.1)) (.val (encP t.2)) (.val (encQ u.1)) (.val (encP u.2))) := by
  let E : Sl → En := fun x => crE c ents book gs k ms soft s8 s9 (.val (encQ q)) s11 s12 x (.val (encQ t.1)) (.val (encP t.2)) (.val (encQ u.1)) (.val (encP u.2))
  have l := lc_mapW (enc := PyData.int) (ψ := fun i => if i = 0 then encQ (midQ q t.2.1 u.2.1) else encQ (midQ q t.2.2 u.2.2)) (it := iSeq (eTup (aCons (eC (.int 0)) (aCons (eC (.int 1)) aNil)))) (g := gN 13) (f := crSx) (vs := [13]) (ρ0 := E s13) (ρ := E s13) (ρw := E .no) (ts := [0, 1]) rfl (by decide) rfl
    (by show crE c ents book gs k ms soft s8 s9 (.val (encQ q)) s11 s12 (keepV (some s13)) (.val (encQ t.1)) (.val (encP t.2)) (.val (encQ u.1)) (.val (encP u.2)) = _; rw [h13]) fun i hi => by
      simp only [List.mem_cons, List.not_mem_nil, or_false] at hi
      rcases hi with rfl | rfl
      · exact ⟨E (.val (.int 0)), rfl, crSx_ok (ixP0 t.2) (ixP0 u.2) ht.bx hu.bx hq, rfl⟩
      · exact ⟨E (.val (.int 1)), rfl, crSx_ok (ixP1 t.2) (ixP1 u.2) ht.bY hu.bY hq, rfl⟩
  exact call_ok (cons_ok (fz_ok l) nil_ok) rfl
theorem crO_ok {ms : List D} {a : Rat} {s10 s12 s13 s14 s15 s16 s17 : Sl} (hb : SpBd (spansQ c book gs k)) (hl : gs.length ≤ 900) (ha : Bd 200 a) :
    crO (crE c ents book gs k ms soft s8 s9 s10 (.val (encQ a)) s12 s13 s14 s15 s16 s17) = .ok (.bool (InsB (spansQ c book gs k) a), crE c ents book gs k ms soft s8 s9 s10 (.val (encQ a)) s12 s13 s14 s15 s16 s17) := by
  let R : Sl → Sl → En := fun x y => [.own ms, .val (.tuple ents), .val (.tuple (book.map encO)), .val (.tuple (gs.map encG)), .val c.view, soft, .val (.int (k : Nat)), .val (.list ((spansQ c book gs k).map encP)), s8, s9, s10, .val (encQ a), s12, s13, s14, s15, s16, s17, x, y]
  have it : iSeq (eVar 7) (R .no .no) = .ok ((spansQ c book gs k).map encP, R .no .no) := rfl
  have hlen := spans_len (c := c) (book := book) (gs := gs) (k := k)
  have l : oLc (iSeq (eVar 7)) (gT 2 (gsC (gN 18) (gsC (gN 19) gsN))) crOt (eC (.int 1)) [18, 19] (R .no .no) = .ok (((spansQ c book gs k).filter fun r => decide (r.1 < a) && decide (a < r.2)).map (fun _ => PyData.int 1), R .no .no) := by
    have l0 := lcL_fil (enc := encP) (keep := fun r : Rat × Rat => decide (r.1 < a) && decide (a < r.2)) (e := PyData.int 1) (g := gT 2 (gsC (gN 18) (gsC (gN 19) gsN))) (tt := crOt) (f := eC (.int 1)) (vs := [18, 19]) (ρ := R .no .no) (spansQ c book gs k) fun r hr => by
      refine ⟨R (.val (encQ r.1)) (.val (encQ r.2)), rfl, ?_, rfl, rfl⟩
      have l1 := F_law_less_ok (hb r hr).1 ha (by decide)
      have l2 := F_law_less_ok ha (hb r hr).2 (by decide)
      refine and_r (p := decide (r.1 < a)) (tb_ok (fnk (ρ1 := R (.val (encQ r.1)) (.val (encQ r.2))) (ds := [encQ r.1, encQ a]) rfl rfl l1)) fun _ => tb_ok (fnk (ρ1 := R (.val (encQ r.1)) (.val (encQ r.2))) (ds := [encQ a, encQ r.2]) rfl rfl l2)
    unfold oLc
    rw [it, rb]
    dsimp only
    rw [if_pos (show few ((spansQ c book gs k).map encP).length = true from decide_eq_true (by rw [List.length_map]; omega))]
    rw [show wipeR (R .no .no) [18, 19] = R .no .no from rfl, l0, rbN]
    rfl
  exact opk (ρ1 := R .no .no) (ρ2 := R .no .no) (fz_ok l) (b := .list []) rfl (ne_ones _)
theorem crT_ok {ms : List D} {q : Rat} {t u : Rat × (Rat × Rat)} {s10 s14 s15 s16 s17 : Sl} (hc : CfgOk c) (hk : ents[k]? = some (encE c.ew c.eh e3 e4)) (hC : F_tuple_of [.tuple ents] = .ok (.tuple ents)) (hs : (gs.map Prod.fst).Pairwise (· < ·)) (hm : (t, u) ∈ (told book (k : Nat) gs).zip (told book (k : Nat) gs).tail)
    (ht : PtOk 30 200 t) (hu : PtOk 30 200 u) (h0 : 0 < q) (h1 : q < 1) (hq : Bd 10 q) :
    crT (crE c ents book gs k ms soft s8 s9 s10 (.val (encQ (midQ q t.1 u.1))) (.val (encP (midQ q t.2.1 u.2.1, midQ q t.2.2 u.2.2))) (.val (.bool (InsB (spansQ c book gs k) (midQ q t.1 u.1)))) s14 s15 s16 s17) =
      .ok (false, crE c ents book gs k ms soft s8 s9 s10 (.val (encQ (midQ q t.1 u.1))) (.val (encP (midQ q t.2.1 u.2.1, midQ q t.2.2 u.2.2))) (.val (.bool (InsB (spansQ c book gs k) (midQ q t.1 u.1)))) s14 s15 s16 s17) := by
  have ba : Bd 102 (midQ q t.1 u.1) := (ht.bs.add (hq.mul (hu.bs.sub ht.bs))).mono (by decide)
  have bx : Bd 612 (midQ q t.2.1 u.2.1) := (ht.bx.add (hq.mul (hu.bx.sub ht.bx))).mono (by decide)
  have bY : Bd 612 (midQ q t.2.2 u.2.2) := (ht.bY.add (hq.mul (hu.bY.sub ht.bY))).mono (by decide)
  have sn := F_seen_ok (p := (midQ q t.2.1 u.2.1, midQ q t.2.2 u.2.2)) hc hC (window_ok hc ba (by decide)) (show F_tuple_of [.tuple [.int (k : Nat)]] = .ok (.tuple [.int (k : Nat)]) from one_tt (TT.int 7 _)) (show F_tuple_of [.tuple [encP (midQ q t.2.1 u.2.1, midQ q t.2.2 u.2.2)]] = .ok (.tuple [encP (midQ q t.2.1 u.2.1, midQ q t.2.2 u.2.2)]) from one_tt (TT.p 5 _)) hk ba bx bY (by decide)
  have eb : ((gapsQ (boxQ c.ew c.eh (midQ q t.2.1 u.2.1, midQ q t.2.2 u.2.2)) (c.win (midQ q t.1 u.1))).all fun x => decide (0 < x)) = InsB (spansQ c book gs k) (midQ q t.1 u.1) := by
    have k0 := mid_gaps c t u q
    have k1 := mid_seen c hs hm h0 h1
    have k2 := InsB_eq (spansQ c book gs k) (midQ q t.1 u.1)
    cases z : InsB (spansQ c book gs k) (midQ q t.1 u.1) with
    | true => exact k0.mpr (k1.mpr (k2.mp z))
    | false => exact Bool.eq_false_iff.mpr fun w => by rw [k2.mpr (k1.mp (k0.mp w))] at z; cases z
  rw [eb] at sn
  let b := InsB (spansQ c book gs k) (midQ q t.1 u.1)
  let R : En := crE c ents book gs k ms soft s8 s9 s10 (.val (encQ (midQ q t.1 u.1))) (.val (encP (midQ q t.2.1 u.2.1, midQ q t.2.2 u.2.2))) (.val (.bool b)) s14 s15 s16 s17
  have f1 : eFn 5 F_seen (aCons (eVar 1) (aCons (eTup (aCons (eVar 6) aNil)) (aCons (eTup (aCons (eVar 12) aNil)) (aCons (eVar 4) (aCons (eVar 11) aNil))))) R = .ok (.tuple (if b = true then [.int (k : Nat)] else []), R) :=
    fnk (ρ1 := R) (ds := [.tuple ents, .tuple [.int (k : Nat)], .tuple [encP (midQ q t.2.1 u.2.1, midQ q t.2.2 u.2.2)], c.view, encQ (midQ q t.1 u.1)]) rfl rfl sn
  have f2 : eIf (tB1 (eVar 13)) (eTup (aCons (eVar 6) aNil)) (eTup aNil) R = .ok (.tuple (if b = true then [.int (k : Nat)] else []), R) := by
    unfold eIf
    rw [show tB1 (eVar 13) R = .ok (b, R) from rfl, rb]
    cases z : b with
    | true => rfl
    | false => rfl
  have f3 := fnk (n := 2) (cons_ok f1 (cons_ok f2 nil_ok)) rfl (same_lot b k)
  show tNot1 (tB1 _) R = .ok (false, R)
  unfold tNot1
  rw [tb_ok f3, rb]
  rfl
theorem cr_step {n : Nat} {ms : List D} (h : Tn n ms) (hn : n + 10 < 2 ^ 40) (hc : CfgOk c) (hk : ents[k]? = some (encE c.ew c.eh e3 e4)) (hC : F_tuple_of [.tuple ents] = .ok (.tuple ents)) (hs : (gs.map Prod.fst).Pairwise (· < ·)) (hl : gs.length ≤ 900) (hg : ∀ g ∈ gs, GlOk book g)
    {t u : Rat × (Rat × Rat)} (hm : (t, u) ∈ (told book (k : Nat) gs).zip (told book (k : Nat) gs).tail) {s10 s11 s12 s13 : Sl} (h13 : keepV (some s13) = s13) :
    ∃ ms' t10 t11 t12 t13, crI (crE c ents book gs k ms soft s8 s9 s10 s11 s12 s13 (.val (encQ t.1)) (.val (encP t.2)) (.val (encQ u.1)) (.val (encP u.2))) = .ok (.nx, crE c ents book gs k ms' soft s8 s9 t10 t11 t12 t13 (.val (encQ t.1)) (.val (encP t.2)) (.val (encQ u.1)) (.val (encP u.2))) ∧
      keepV (some t13) = t13 ∧ Tn (n + 1) ms' := by
  obtain ⟨m1, m2⟩ := List.of_mem_zip hm
  have ht := told_ok hg t m1
  have hu := told_ok hg u (List.mem_of_mem_tail m2)
  obtain ⟨v, ms', e, v0, v1, tn⟩ := takek (i := 0) (ρ := crE c ents book gs k ms soft s8 s9 s10 s11 s12 s13 (.val (encQ t.1)) (.val (encP t.2)) (.val (encQ u.1)) (.val (encP u.2))) rfl h (by omega) (n := 5) (by decide) (by decide) (f := eC (.int 5)) rfl
  obtain ⟨q0, q1, qb⟩ := part_mid v0 v1
  have p1 := ptk (n := 7) (by decide) (by decide +kernel) (opk (a := .int 1) (f := eC (.int 1)) rfl e (addF_int 1 v))
  have ba : Bd 200 (midQ (Rat.divInt (1 + v) 7) t.1 u.1) := (ht.bs.add (qb.mul (hu.bs.sub ht.bs))).mono (by decide)
  refine ⟨ms', .val (encQ (Rat.divInt (1 + v) 7)), .val (encQ (midQ (Rat.divInt (1 + v) 7) t.1 u.1)), .val (encP (midQ (Rat.divInt (1 + v) 7) t.2.1 u.2.1, midQ (Rat.divInt (1 + v) 7) t.2.2 u.2.2)), .val (.bool (InsB (spansQ c book gs k) (midQ (Rat.divInt (1 + v) 7) t.1 u.1))), ?_, rfl, tn⟩
  unfold crI
  rw [seq_nx (set_ok p1)]
  refine Eq.trans (seq_nx (set_ok (crA_ok (s11 := s11) (s12 := s12) (s13 := s13) ht hu qb))) ?_
  refine Eq.trans (seq_nx (set_ok (crS_ok (s11 := .val (encQ (midQ (Rat.divInt (1 + v) 7) t.1 u.1))) (s12 := s12) h13 ht hu qb))) ?_
  refine Eq.trans (seq_nx (set_ok (crO_ok (a := midQ (Rat.divInt (1 + v) 7) t.1 u.1) (spans_bd hc hg k) hl ba))) ?_
  exact if_ff (crT_ok hc hk hC hs hm ht hu q0 q1 qb)
end
end GN

set_option Elab.async false
set_option linter.all false
set_option maxRecDepth 100000
set_option maxHeartbeats 8000000
/-! M29: a case, whole. -/
namespace GN
open PySem
abbrev crG : GF := gT 2 (gsC (gT 2 (gsC (gN 14) (gsC (gN 15) gsN))) (gsC (gT 2 (gsC (gN 16) (gsC (gN 17) gsN))) gsN))
section
variable {c : Cfg} {ents : List D} {book : List (Option Rat)} {gs : List (Rat × List (Rat × Rat))} {k : Nat} {e3 e4 : D} {soft s8 s9 : Sl}
theorem cr_inner (hc : CfgOk c) (hk : ents[k]? = some (encE c.ew c.eh e3 e4)) (hC : F_tuple_of [.tuple ents] = .ok (.tuple ents)) (hs : (gs.map Prod.fst).Pairwise (· < ·)) (hl : gs.length ≤ 900) (hg : ∀ g ∈ gs, GlOk book g) :
    ∀ (ps : List ((Rat × (Rat × Rat)) × (Rat × (Rat × Rat)))) (n : Nat) (ms : List D) (s10 s11 s12 s13 s14 s15 s16 s17 : Sl), (∀ p ∈ ps, p ∈ (told book (k : Nat) gs).zip (told book (k : Nat) gs).tail) → Tn n ms → n + ps.length + 100 < 2 ^ 40 → keepV (some s13) = s13 →
    ∃ ms' t10 t11 t12 t13 t14 t15 t16 t17, forL crG crI (ps.map fun p => .tuple [encT p.1, encT p.2]) (crE c ents book gs k ms soft s8 s9 s10 s11 s12 s13 s14 s15 s16 s17) = .ok (.nx, crE c ents book gs k ms' soft s8 s9 t10 t11 t12 t13 t14 t15 t16 t17) ∧ keepV (some t13) = t13 ∧ Tn (n + ps.length) ms'
  | [], n, ms, s10, s11, s12, s13, s14, s15, s16, s17, _, h, _, h13 => ⟨ms, s10, s11, s12, s13, s14, s15, s16, s17, rfl, h13, h⟩
  | p :: r, n, ms, s10, s11, s12, s13, s14, s15, s16, s17, hm, h, hn, h13 => by
    rw [List.length_cons] at hn
    obtain ⟨m1, t10, t11, t12, t13, e1, k1, h1⟩ := cr_step (soft := soft) (s8 := s8) (s9 := s9) (s10 := s10) (s11 := s11) (s12 := s12) h (by omega) hc hk hC hs hl hg (hm p List.mem_cons_self) h13
    obtain ⟨m2, u10, u11, u12, u13, u14, u15, u16, u17, e2, k2, h2⟩ := cr_inner hc hk hC hs hl hg r (n + 1) m1 t10 t11 t12 t13 (.val (encQ p.1.1)) (.val (encP p.1.2)) (.val (encQ p.2.1)) (.val (encP p.2.2)) (fun q hq => hm q (List.mem_cons_of_mem _ hq)) h1 (by omega) k1
    refine ⟨m2, u10, u11, u12, u13, u14, u15, u16, u17, ?_, k2, h2.mono (by rw [List.length_cons]; omega)⟩
    have g : crG (.tuple [encT p.1, encT p.2]) (crE c ents book gs k ms soft s8 s9 s10 s11 s12 s13 s14 s15 s16 s17) = some (crE c ents book gs k ms soft s8 s9 s10 s11 s12 s13 (.val (encQ p.1.1)) (.val (encP p.1.2)) (.val (encQ p.2.1)) (.val (encP p.2.2))) := rfl
    rw [List.map_cons, forL_nx g e1]
    exact e2
end
theorem zip_tailT : ∀ (xs ys : List (Rat × (Rat × Rat))), zipD (xs.map encT) (ys.map encT) = (xs.zip ys).map fun p => .tuple [encT p.1, encT p.2]
  | [], ys => by simp [zipD]
  | x :: xs, [] => by simp [zipD]
  | x :: xs, y :: ys => by
    rw [List.map_cons, List.map_cons, List.zip_cons_cons, List.map_cons]
    unfold zipD
    rw [zip_tailT xs ys]
theorem ofnk {n : Nat} {F : List D → Res (List D)} {fs : LF} {ρ ρ1 : En} {ds es : List D} (c : fs ρ = .ok (ds, ρ1)) (hl : ds.length = n) (h : F ds = .ok es) : oFn n F fs ρ = .ok (es, ρ1) := by
  unfold oFn
  rw [c, rb]
  dsimp only
  rw [if_pos hl, h, rb]
theorem fnRk {i n : Nat} {F : List D → Res D} {fs : LF} {ρ ρ1 : En} {ms ms0 ds : List D} {b : Bool} (h00 : ρ[i]? = some (.own ms0)) (h0 : ρ1[i]? = some (.own ms)) (h1 : fs ρ = .ok (ds, ρ1)) (hl : ds.length + 1 = n) (h : F (.list ms :: ds) = .ok (.bool b)) : eFnR i n F fs ρ = .ok (.bool b, ρ1) := by
  unfold eFnR
  rw [h00]
  dsimp only
  rw [h1, rb]
  dsimp only
  rw [if_pos hl, h0]
  dsimp only
  rw [h, rb]
structure VwOk (a d w h : Int) : Prop where
  a : a.natAbs < 16
  d : d.natAbs < 16
  w : w.natAbs < 16
  h : h.natAbs < 16
abbrev cr7 : EF := eFn 5 F_law_ranges (aCons (eVar 1) (aCons (eVar 2) (aCons (eVar 3) (aCons (eVar 4) (aCons (eVar 6) aNil)))))
abbrev cr8 : LF := oFn 5 F_seen_spans (aCons (eFn 1 F_law_lists (aCons (eVar 1) aNil)) (aCons (eFz (oList (aCons (eVar 2) aNil))) (aCons (eVar 5) (aCons (eFz (oList (aCons (eVar 4) aNil))) (aCons (eVar 6) aNil)))))
abbrev crT1 : TF := tNot1 (tB1 (eFnR 8 2 F_law_same (aCons (eVar 7) aNil)))
abbrev crT2 : TF := tNot1 (tB1 (eFn 2 F_law_same (aCons (eFn 5 (fzF F_seen_spans) (aCons (eVar 1) (aCons (eVar 2) (aCons (eVar 3) (aCons (eVar 4) (aCons (eVar 6) aNil)))))) (aCons (eVar 7) aNil))))
abbrev cr9 : EF := eFn 3 F_law_spots (aCons (eVar 2) (aCons (eVar 3) (aCons (eVar 6) aNil)))
abbrev crZ : LF := iZipF (aCons (eVar 9) (aCons (eSl (some 1) none (eVar 9)) aNil))
abbrev crB : SF := sSeq (sSet 7 cr7) (sSeq (sSetO 8 cr8) (sSeq (sIf crT1 (sRet (eC (.bool false))) sSkip) (sSeq (sApp 8 (eC .none)) (sSeq (sIf crT2 (sRet (eC (.bool false))) sSkip) (sSeq (sSet 9 cr9) (sFor crZ crG crI))))))
abbrev crF (ents : List D) (book : List (Option Rat)) (gs : List (Rat × List (Rat × Rat))) (v : D) (ms : List D) (s6 s7 s8 s9 s10 s11 s12 s13 s14 s15 s16 s17 : Sl) : En :=
  [.own ms, .val (.tuple ents), .val (.tuple (book.map encO)), .val (.tuple (gs.map encG)), .val v, .val (.list (gs.map lg)), s6, s7, s8, s9, s10, s11, s12, s13, s14, s15, s16, s17, .no, .no]
section
variable {ents : List D} {book : List (Option Rat)} {gs : List (Rat × List (Rat × Rat))} {a d w h' : Int}
/-- what is told of all that is drawn -/
structure Drawn (ents : List D) (book : List (Option Rat)) (gs : List (Rat × List (Rat × Rat))) : Prop where
  el : ents.length ≤ 4
  eo : ∀ e ∈ ents, EntOk e
  bl : book.length = ents.length
  bo : ∀ q, some q ∈ book → Bd 10 q
  gl : gs.length ≤ 4
  go : ∀ g ∈ gs, GlOk book g
  gp : (gs.map Prod.fst).Pairwise (· < ·)
theorem Drawn.g2 (H : Drawn ents book gs) : ∀ g ∈ gs, g.2.length ≤ 100000 := fun g hg => by
  have h1 := (H.go g hg).ln
  have h2 := shown_len g.1 0 book
  have h3 := H.bl
  have h4 := H.el
  omega
theorem cr_turn (H : Drawn ents book gs) (V : VwOk a d w h') {n : Nat} {ms : List D} (h : Tn n ms) (hn : n + 200 < 2 ^ 40) {k : Nat} (hk : k < ents.length) {s7 s8 s9 s10 s11 s12 s13 s14 s15 s16 s17 : Sl} (h13 : keepV (some s13) = s13) :
    ∃ ms' t7 t8 t9 t10 t11 t12 t13 t14 t15 t16 t17, crB (crF ents book gs (encV a d w h') ms (.val (.int (k : Nat))) s7 s8 s9 s10 s11 s12 s13 s14 s15 s16 s17) = .ok (.nx, crF ents book gs (encV a d w h') ms' (.val (.int (k : Nat))) t7 t8 t9 t10 t11 t12 t13 t14 t15 t16 t17) ∧
      keepV (some t13) = t13 ∧ Tn (n + 10) ms' := by
  obtain ⟨ew, eh, ea, eb, ee, hw, hh⟩ := (H.eo _ (List.getElem_mem hk)).ex
  let c : Cfg := ⟨ew, eh, a, d, w, h'⟩
  have hc : CfgOk c := ⟨hw, hh, V.a, V.d, V.w, V.h⟩
  have he : ents[k]? = some (encE c.ew c.eh (.tuple [.int ea, .int 900, .int ea, .int 900]) (.tuple [.int eb, .int 90, .int eb, .int 90])) := by rw [List.getElem?_eq_getElem hk, ee]
  have hel := H.el
  have hgl := H.gl
  have hbl := H.bl
  obtain ⟨hC, cx, hx1, hx2⟩ := chart_ll H.eo (by omega)
  have hb : ∀ q, some q ∈ book → Bd 1000 q := fun q hq => (H.bo q hq).mono (by decide)
  have f7 := F_law_ranges_ok hc he hb (by omega) H.go (by omega)
  have f8 := F_seen_spans_ok hc (book := book) (gs := gs) (cD := cx) (bD := .list (book.map encO)) (gD := .list (gs.map lg)) (vD := .list [.int a, .int d, .int w, .int h']) hx2 (view_tt c (.inr rfl)) (book_tt (by omega) (.inr rfl)) (glide_tl (by omega) H.g2) he hb (by omega) H.go (by omega)
  have f8' := F_seen_spans_ok hc (book := book) (gs := gs) (cD := .tuple ents) (bD := .tuple (book.map encO)) (gD := .tuple (gs.map encG)) (vD := c.view) hC (view_tt c (.inl rfl)) (book_tt (by omega) (.inl rfl)) (glide_tt (by omega) H.g2) he hb (by omega) H.go (by omega)
  have f9 := F_law_spots_ok book (k : Nat) gs hb (by omega) (fun g hx => (H.go g hx).ok) (by omega)
  have sl := spans_len (c := c) (book := book) (gs := gs) (k := k)
  have ss := same_spans (spansQ c book gs k) (by omega)
  let due : D := .list ((spansQ c book gs k).map encP)
  let E : Sl → Sl → Sl → En := fun x7 x8 x9 => crF ents book gs (encV a d w h') ms (.val (.int (k : Nat))) x7 x8 x9 s10 s11 s12 s13 s14 s15 s16 s17
  have p7 : cr7 (E s7 s8 s9) = .ok (due, E s7 s8 s9) := fnk (ρ1 := E s7 s8 s9) (ds := [.tuple ents, .tuple (book.map encO), .tuple (gs.map encG), c.view, .int (k : Nat)]) rfl rfl f7
  have p8 : cr8 (E (.val due) s8 s9) = .ok ((spansQ c book gs k).map encP, E (.val due) s8 s9) := by
    have x1 : eFn 1 F_law_lists (aCons (eVar 1) aNil) (E (.val due) s8 s9) = .ok (cx, E (.val due) s8 s9) := fnk (ρ1 := E (.val due) s8 s9) (ds := [.tuple ents]) rfl rfl hx1
    have x2 : aCons (eFz (oList (aCons (eVar 2) aNil))) (aCons (eVar 5) (aCons (eFz (oList (aCons (eVar 4) aNil))) (aCons (eVar 6) aNil))) (E (.val due) s8 s9) = .ok ([.list (book.map encO), .list (gs.map lg), .list [.int a, .int d, .int w, .int h'], .int (k : Nat)], E (.val due) s8 s9) := rfl
    exact ofnk (cons_ok x1 x2) rfl f8
  have t1 : crT1 (E (.val due) (.own ((spansQ c book gs k).map encP)) s9) = .ok (false, E (.val due) (.own ((spansQ c book gs k).map encP)) s9) := by
    have x1 : eFnR 8 2 F_law_same (aCons (eVar 7) aNil) (E (.val due) (.own ((spansQ c book gs k).map encP)) s9) = .ok (.bool true, E (.val due) (.own ((spansQ c book gs k).map encP)) s9) := by
      exact fnRk (ms := (spansQ c book gs k).map encP) (ms0 := (spansQ c book gs k).map encP) (ds := [due]) rfl rfl rfl rfl ss
    show tNot1 (tB1 _) _ = _
    unfold tNot1
    rw [tb_ok x1, rb]
    rfl
  let told' : Sl := .own ((spansQ c book gs k).map encP ++ [.none])
  have ap : sApp 8 (eC .none) (E (.val due) (.own ((spansQ c book gs k).map encP)) s9) = .ok (.nx, E (.val due) told' s9) := app_ok (i := 8) (f := eC .none) (ρ1 := E (.val due) (.own ((spansQ c book gs k).map encP)) s9) rfl rfl rfl (by rw [List.length_map]; omega)
  have t2 : crT2 (E (.val due) told' s9) = .ok (false, E (.val due) told' s9) := by
    have x0 : fzF F_seen_spans [.tuple ents, .tuple (book.map encO), .tuple (gs.map encG), c.view, .int (k : Nat)] = .ok due := by
      unfold fzF
      rw [f8']
    have x1 : eFn 5 (fzF F_seen_spans) (aCons (eVar 1) (aCons (eVar 2) (aCons (eVar 3) (aCons (eVar 4) (aCons (eVar 6) aNil))))) (E (.val due) told' s9) = .ok (due, E (.val due) told' s9) := fnk (ρ1 := E (.val due) told' s9) (ds := [.tuple ents, .tuple (book.map encO), .tuple (gs.map encG), c.view, .int (k : Nat)]) rfl rfl x0
    have x2 := fnk (n := 2) (cons_ok x1 (cons_ok (f := eVar 7) (d := due) rfl nil_ok)) rfl ss
    show tNot1 (tB1 _) _ = _
    unfold tNot1
    rw [tb_ok x2, rb]
    rfl
  let ts := told book (k : Nat) gs
  have htl : ts.length ≤ gs.length := told_len book _ gs
  have p9 : cr9 (E (.val due) told' s9) = .ok (.list (ts.map encT), E (.val due) told' s9) := fnk (ρ1 := E (.val due) told' s9) (ds := [.tuple (book.map encO), .tuple (gs.map encG), .int (k : Nat)]) rfl rfl f9
  have it : crZ (E (.val due) told' (.val (.list (ts.map encT)))) = .ok ((ts.zip ts.tail).map fun p => .tuple [encT p.1, encT p.2], E (.val due) told' (.val (.list (ts.map encT)))) := by
    rw [← zip_tailT]
    have v9 : eVar 9 (E (.val due) told' (.val (.list (ts.map encT)))) = .ok (.list (ts.map encT), E (.val due) told' (.val (.list (ts.map encT)))) := rfl
    have sl : sliF (some 1) none (.list (ts.map encT)) = .ok (.list (ts.tail.map encT)) := by
      show Res.ok (PyData.list (cutD _ _ _)) = _
      rw [cut_tail, List.map_tail]
    simp only [iZipF, aCons, aNil, eSl, v9, rb, sl]
  have hz : (ts.zip ts.tail).length ≤ 4 := by
    rw [List.length_zip]
    omega
  obtain ⟨m2, u10, u11, u12, u13, u14, u15, u16, u17, e2, k2, h2⟩ := cr_inner (soft := .val (.list (gs.map lg))) (s8 := told') (s9 := .val (.list (ts.map encT))) hc he hC H.gp (by omega) H.go (ts.zip ts.tail) n ms s10 s11 s12 s13 s14 s15 s16 s17 (fun p hp => hp) h (by omega) h13
  refine ⟨m2, .val due, told', .val (.list (ts.map encT)), u10, u11, u12, u13, u14, u15, u16, u17, ?_, k2, h2.mono (by omega)⟩
  show crB (E s7 s8 s9) = _
  unfold crB
  rw [seq_nx (set_ok p7)]
  have q8 : sSetO 8 cr8 (E (.val due) s8 s9) = .ok (.nx, E (.val due) (.own ((spansQ c book gs k).map encP)) s9) := by
    unfold sSetO
    rw [p8, rb]
    rfl
  refine Eq.trans (seq_nx q8) ?_
  refine Eq.trans (seq_nx (ρ1 := E (.val due) (.own ((spansQ c book gs k).map encP)) s9) (by rw [if_ff t1]; rfl)) ?_
  refine Eq.trans (seq_nx ap) ?_
  refine Eq.trans (seq_nx (ρ1 := E (.val due) told' s9) (by rw [if_ff t2]; rfl)) ?_
  refine Eq.trans (seq_nx (set_ok p9)) ?_
  exact (for_ok (g := crG) (b := crI) it).trans e2
theorem cr_loop (H : Drawn ents book gs) (V : VwOk a d w h') : ∀ (r k : Nat) (n : Nat) (ms : List D) (s6 s7 s8 s9 s10 s11 s12 s13 s14 s15 s16 s17 : Sl), k + r = ents.length → Tn n ms → n + 10 * r + 200 < 2 ^ 40 → keepV (some s13) = s13 →
    ∃ ms' t6 t7 t8 t9 t10 t11 t12 t13 t14 t15 t16 t17, forL (gN 6) crB (rngL k r) (crF ents book gs (encV a d w h') ms s6 s7 s8 s9 s10 s11 s12 s13 s14 s15 s16 s17) = .ok (.nx, crF ents book gs (encV a d w h') ms' t6 t7 t8 t9 t10 t11 t12 t13 t14 t15 t16 t17) ∧ Tn (n + 10 * r) ms'
  | 0, k, n, ms, s6, s7, s8, s9, s10, s11, s12, s13, s14, s15, s16, s17, _, h, _, _ => ⟨ms, s6, s7, s8, s9, s10, s11, s12, s13, s14, s15, s16, s17, rfl, h⟩
  | r + 1, k, n, ms, s6, s7, s8, s9, s10, s11, s12, s13, s14, s15, s16, s17, hk, h, hn, h13 => by
    obtain ⟨m1, t7, t8, t9, t10, t11, t12, t13, t14, t15, t16, t17, e1, k1, h1⟩ := cr_turn H V h (by omega) (k := k) (by omega) (s7 := s7) (s8 := s8) (s9 := s9) (s10 := s10) (s11 := s11) (s12 := s12) (s14 := s14) (s15 := s15) (s16 := s16) (s17 := s17) h13
    obtain ⟨m2, u6, u7, u8, u9, u10, u11, u12, u13, u14, u15, u16, u17, e2, h2⟩ := cr_loop H V r (k + 1) (n + 10) m1 (.val (.int (k : Nat))) t7 t8 t9 t10 t11 t12 t13 t14 t15 t16 t17 (by omega) h1 (by omega) k1
    refine ⟨m2, u6, u7, u8, u9, u10, u11, u12, u13, u14, u15, u16, u17, ?_, h2.mono (by omega)⟩
    rw [rngL_cons, forL_nx (g := gN 6) (ρ1 := crF ents book gs (encV a d w h') ms (.val (.int (k : Nat))) s7 s8 s9 s10 s11 s12 s13 s14 s15 s16 s17) rfl e1]
    exact e2
theorem F_law_case_right_ok (H : Drawn ents book gs) (V : VwOk a d w h') {n : Nat} {ms : List D} (h : Tn n ms) (hn : n + 500 < 2 ^ 40) :
    ∃ ms', F_law_case_right ms [.tuple ents, .tuple (book.map encO), .tuple (gs.map encG), encV a d w h'] = .ok (.bool true, ms') ∧ Tn (n + 40) ms' := by
  have hel := H.el
  have hgl := H.gl
  obtain ⟨m2, u6, u7, u8, u9, u10, u11, u12, u13, u14, u15, u16, u17, e2, h2⟩ := cr_loop H V ents.length 0 n ms .no .no .no .no .no .no .no .no .no .no .no .no (by omega) h (by omega) rfl
  refine ⟨m2, ?_, h2.mono (by omega)⟩
  refine runM_rt (ρ := crF ents book gs (encV a d w h') m2 u6 u7 u8 u9 u10 u11 u12 u13 u14 u15 u16 u17) ?_ rfl
  let I : En := [.own ms, .val (.tuple ents), .val (.tuple (book.map encO)), .val (.tuple (gs.map encG)), .val (encV a d w h'), .no, .no, .no, .no, .no, .no, .no, .no, .no, .no, .no, .no, .no, .no, .no]
  show m_law_case_right I = _
  unfold m_law_case_right
  have l := glide_ll (gs := gs) (by omega) H.g2
  have p5 : eFn 1 F_law_lists (aCons (eVar 3) aNil) I = .ok (.list (gs.map lg), I) := fnk (ρ1 := I) (ds := [.tuple (gs.map encG)]) rfl rfl l
  have s5 : sSet 5 (eFn 1 F_law_lists (aCons (eVar 3) aNil)) I = .ok (.nx, crF ents book gs (encV a d w h') ms .no .no .no .no .no .no .no .no .no .no .no .no) := set_ok p5
  rw [seq_nx s5]
  have it : iRange1 (aCons (eCall lenF (aCons (eVar 1) aNil)) aNil) (crF ents book gs (encV a d w h') ms .no .no .no .no .no .no .no .no .no .no .no .no) = .ok (rngL 0 ents.length, crF ents book gs (encV a d w h') ms .no .no .no .no .no .no .no .no .no .no .no .no) := by
    have c : aCons (eCall lenF (aCons (eVar 1) aNil)) aNil (crF ents book gs (encV a d w h') ms .no .no .no .no .no .no .no .no .no .no .no .no) = .ok ([.int (ents.length : Nat)], crF ents book gs (encV a d w h') ms .no .no .no .no .no .no .no .no .no .no .no .no) := rfl
    unfold iRange1
    rw [c, rb]
    dsimp only
    rw [if_pos (decide_eq_true (by omega)), Int.toNat_natCast]
  refine Eq.trans (seq_nx ((for_ok (g := gN 6) (b := crB) it).trans e2)) ?_
  rfl
end
end GN

set_option Elab.async false
set_option linter.all false
set_option maxRecDepth 100000
set_option maxHeartbeats 8000000
/-! M30: the law's own text, from the parts by hand. -/
namespace GN
open PySem
theorem F_law_box_ok (c : Int) : ∃ es, F_law_box [.list [.int c], .int 0] = .ok es ∧ Tn 0 es := by
  let a : Int := if c < 0 then -c else c
  let b : Bool := decide ((10 : Int) ^ 18 ≤ a)
  let bi : Int := if b = true then 1 else 0
  let E : Sl → En := fun x => [.val (.list [.int c]), .val (.int 0), x]
  have s2 : sSet 2 (eIf (tB1 (eOp ltI (eVar 1) (eCall lenF (aCons (eVar 0) aNil)))) (eOp idxF (eVar 0) (eVar 1)) (eC (.int 0))) (E .no) = .ok (.nx, E (.val (.int c))) := rfl
  have hm := Int.emod_nonneg c (b := 2305843009213693951) (by decide)
  have hm2 := Int.emod_lt_of_pos c (b := 2305843009213693951) (by decide)
  have ea : eCall absF (aCons (eVar 2) aNil) (E (.val (.int c))) = .ok (.int a, E (.val (.int c))) := rfl
  have ep : eOp powI (eC (.int 10)) (eC (.int 18)) (E (.val (.int c))) = .ok (.int (10 ^ 18), E (.val (.int c))) := rfl
  have eg : eOp geI (eCall absF (aCons (eVar 2) aNil)) (eOp powI (eC (.int 10)) (eC (.int 18))) (E (.val (.int c))) = .ok (.bool b, E (.val (.int c))) := opk ea ep rfl
  have ei : eCall intF (aCons (eOp geI (eCall absF (aCons (eVar 2) aNil)) (eOp powI (eC (.int 10)) (eC (.int 18)))) aNil) (E (.val (.int c))) = .ok (.int bi, E (.val (.int c))) := by
    refine call_ok (cons_ok eg nil_ok) ?_
    show intF [.bool b] = .ok (.int (if b = true then 1 else 0))
    cases b with
    | true => rfl
    | false => rfl
  have hbi : bi.natAbs < 2 ^ 63 := by
    show (if b = true then (1 : Int) else 0).natAbs < _
    cases b with
    | true => decide
    | false => decide
  have e1 := opk ea ei (mulk (i := a) hbi)
  have e2 : eOp addF (eOp addF (eOp modI (eCall intF (aCons (eVar 2) aNil)) (eC (.int 2305843009213693951))) (eOp mulF (eC (.int 39373)) (eVar 1))) (eC (.int 3197041)) (E (.val (.int c))) = .ok (.int (c % 2305843009213693951 + 39373 * 0 + 3197041), E (.val (.int c))) :=
    opk (opk (opk (intk (i := c) rfl) (b := .int 2305843009213693951) rfl (modk (by decide))) (opk (a := .int 39373) (b := .int 0) rfl rfl (mulk (by decide))) (addF_int _ _)) (b := .int 3197041) rfl (addF_int _ _)
  have e3 := cons_ok e1 (cons_ok e2 (cons_ok (f := eC (.int 0)) (d := .int 0) rfl nil_ok))
  refine ⟨[.int (a * bi), .int (c % 2305843009213693951 + 39373 * 0 + 3197041), .int 0], ?_, ⟨_, _, _, rfl, by omega, by omega, by omega, by omega⟩⟩
  show runO 3 m_law_box _ = _
  unfold runO
  rw [show ini 3 [.list [.int c], .int 0] = E .no from rfl]
  unfold m_law_box
  rw [seq_nx s2]
  unfold sRetO oLst
  rw [e3]
  rfl
abbrev lrE (ms : List D) (s2 s3 s4 s5 s6 s7 : Sl) : En := [.no, .own ms, s2, s3, s4, s5, s6, s7]
abbrev lrT : TF := tOr2 (tNot1 (tB1 (eFn 0 F_law_by_hand_right aNil))) (tNot1 (tB1 (eFn 1 F_law_refused_right (aCons (eFnM 1 1 F_law_take (aCons (eC (.int 9)) aNil)) aNil))))
abbrev lkD (v : Int × Int × Int × Int) : D := encV v.1 v.2.1 v.2.2.1 v.2.2.2
theorem looks_ok {n : Nat} {ms : List D} (h : Tn n ms) (hn : n + 100 < 2 ^ 40) {s2 s3 s4 s5 : Sl} :
    ∃ (ms' : List D) (vs : List (Int × Int × Int × Int)), oLc (iRange1 (aCons (eC (.int 2)) aNil)) (gN 6) tYesF (eFnM 1 0 F_law_look aNil) [6] (lrE ms s2 s3 s4 s5 .no .no) = .ok (vs.map lkD, lrE ms' s2 s3 s4 s5 .no .no) ∧ Tn (n + 8) ms' ∧ vs.length ≤ 2 ∧ ∀ v ∈ vs, VwOk v.1 v.2.1 v.2.2.1 v.2.2.2 := by
  obtain ⟨es, ρ', e, hI, hl', hq⟩ := lc_inv (it := iRange1 (aCons (eC (.int 2)) aNil)) (f := eFnM 1 0 F_law_look aNil) (vs := [6]) (g := gN 6) (ρ := lrE ms s2 s3 s4 s5 .no .no) (ρ0 := lrE ms s2 s3 s4 s5 .no .no) (ds := [.int 0, .int 1]) (fun m ρ => ∃ ms', ρ = lrE ms' s2 s3 s4 s5 .no .no ∧ Tn (n + 4 * m) ms') (fun _ e => ∃ v : Int × Int × Int × Int, e = lkD v ∧ VwOk v.1 v.2.1 v.2.2.1 v.2.2.2) rfl (show 2 ≤ 100000 by decide) ⟨ms, rfl, h⟩ fun d hd m ρ hm' ⟨ms1, hρ, t⟩ => by
    subst hρ
    have hm2 : m < 2 := hm'
    obtain ⟨a, d', w, h', ms2, e, x1, x2, x3, x4, x5, x6, t2⟩ := F_law_look_ok t (by omega)
    refine ⟨lrE ms1 s2 s3 s4 s5 (.val d) .no, lkD (a, d', w, h'), lrE ms2 s2 s3 s4 s5 (.val d) .no, rfl, ?_, ⟨ms2, rfl, t2.mono (by omega)⟩, (a, d', w, h'), rfl, ⟨x1, x2, x3, x4⟩⟩
    exact fnMk (i := 1) (ρ := lrE ms1 s2 s3 s4 s5 (.val d) .no) (ρ1 := lrE ms1 s2 s3 s4 s5 (.val d) .no) rfl rfl rfl rfl e
  obtain ⟨ms', hρ, t⟩ := hI
  subst hρ
  obtain ⟨vs, rfl, hv⟩ := list_of (enc := lkD) (P := fun v => VwOk v.1 v.2.1 v.2.2.1 v.2.2.2) es fun x hx => by
    obtain ⟨i, hi⟩ := List.mem_iff_getElem?.mp hx
    obtain ⟨d, _, o, q⟩ := hq i x hi
    exact ⟨o, q⟩
  rw [List.length_map] at hl'
  exact ⟨ms', vs, e, t, Nat.le_of_eq hl', hv⟩
theorem all_rep (es : List D) (h : ∀ e ∈ es, e = .bool true) : allF [.list es] = .ok (.bool true) := by
  have e : es = es.map fun _ => PyData.bool true := by
    refine (List.map_id es).symm.trans (List.map_congr_left fun x hx => h x hx)
  rw [e]
  exact all_true es
theorem cases_ok {ents : List D} {book : List (Option Rat)} {gs : List (Rat × List (Rat × Rat))} (H : Drawn ents book gs) {n : Nat} {ms : List D} (h : Tn n ms) (hn : n + 1000 < 2 ^ 40) {vs : List (Int × Int × Int × Int)} (hl : vs.length ≤ 2) (hv : ∀ v ∈ vs, VwOk v.1 v.2.1 v.2.2.1 v.2.2.2) :
    ∃ ρ', eCall allF (aCons (eFz (oLc (iSeq (eVar 2)) (gN 7) tYesF (eFnM 1 4 F_law_case_right (aCons (eVar 3) (aCons (eVar 4) (aCons (eVar 5) (aCons (eVar 7) aNil))))) [7])) aNil) (lrE ms (.own (vs.map lkD)) (.val (.tuple ents)) (.val (.tuple (book.map encO))) (.val (.tuple (gs.map encG))) .no .no) = .ok (.bool true, ρ') := by
  let E : List D → Sl → Sl → En := fun ms s2 s7 => lrE ms s2 (.val (.tuple ents)) (.val (.tuple (book.map encO))) (.val (.tuple (gs.map encG))) .no s7
  have it : iSeq (eVar 2) (E ms (.own (vs.map lkD)) .no) = .ok (vs.map lkD, E ms (.val (.list (vs.map lkD))) .no) := rfl
  obtain ⟨es, ρ', e, hI, hl', hq⟩ := lc_inv (it := iSeq (eVar 2)) (f := eFnM 1 4 F_law_case_right (aCons (eVar 3) (aCons (eVar 4) (aCons (eVar 5) (aCons (eVar 7) aNil))))) (vs := [7]) (g := gN 7) (ρ := E ms (.val (.list (vs.map lkD))) .no) (ρ0 := E ms (.own (vs.map lkD)) .no) (ds := vs.map lkD) (fun m ρ => ∃ ms', ρ = E ms' (.val (.list (vs.map lkD))) .no ∧ Tn (n + 40 * m) ms') (fun _ e => e = .bool true) it (by rw [List.length_map]; omega) ⟨ms, rfl, h⟩ fun d hd m ρ hm' ⟨ms1, hρ, t⟩ => by
    subst hρ
    rw [List.length_map] at hm'
    obtain ⟨v, hvm, rfl⟩ := List.mem_map.mp hd
    obtain ⟨ms2, e, t2⟩ := F_law_case_right_ok H (hv v hvm) t (by omega)
    refine ⟨E ms1 (.val (.list (vs.map lkD))) (.val (lkD v)), .bool true, E ms2 (.val (.list (vs.map lkD))) (.val (lkD v)), rfl, ?_, ⟨ms2, rfl, t2.mono (by omega)⟩, rfl⟩
    exact fnMk (i := 1) (ρ := E ms1 (.val (.list (vs.map lkD))) (.val (lkD v))) (ρ1 := E ms1 (.val (.list (vs.map lkD))) (.val (lkD v))) (ds := [.tuple ents, .tuple (book.map encO), .tuple (gs.map encG), lkD v]) rfl rfl rfl rfl e
  refine ⟨_, call_ok (cons_ok (fz_ok e) nil_ok) (all_rep es fun x hx => ?_)⟩
  obtain ⟨i, hi⟩ := List.mem_iff_getElem?.mp hx
  obtain ⟨d, _, q⟩ := hq i x hi
  exact q
theorem law_main (hand : F_law_by_hand_right [] = .ok (.bool true)) (ref : ∀ v : Int, 0 ≤ v → v < 9 → F_law_refused_right [.int v] = .ok (.bool true)) (c : Int) :
    ∃ es ρ', F_law_box [.list [.int c], .int 0] = .ok es ∧ m_law_rest (lawEn es) = .ok (.rt (.bool true), ρ') := by
  obtain ⟨es, e0, t0⟩ := F_law_box_ok c
  obtain ⟨v, m1, e1, v0, v1, t1⟩ := takek (i := 1) (ρ := lrE es .no .no .no .no .no .no) rfl t0 (by decide) (n := 9) (by decide) (by decide) (f := eC (.int 9)) rfl
  have tt : lrT (lrE es .no .no .no .no .no .no) = .ok (false, lrE m1 .no .no .no .no .no .no) := by
    have a1 : eFn 0 F_law_by_hand_right aNil (lrE es .no .no .no .no .no .no) = .ok (.bool true, lrE es .no .no .no .no .no .no) := fnk nil_ok rfl hand
    have a2 : eFn 1 F_law_refused_right (aCons (eFnM 1 1 F_law_take (aCons (eC (.int 9)) aNil)) aNil) (lrE es .no .no .no .no .no .no) = .ok (.bool true, lrE m1 .no .no .no .no .no .no) := fnk (cons_ok e1 nil_ok) rfl (ref v v0 v1)
    unfold lrT tOr2 tNot1
    rw [tb_ok a1, rb, rb]
    dsimp only
    rw [if_neg (by decide), tb_ok a2, rb]
    rfl
  obtain ⟨m2, mn, ents, book, gs, e2, t2, hmn, hel, hbl, heo, hbo, hgo, hgl, hgp⟩ := F_law_glide_drawn_ok t1 (by decide)
  have H : Drawn ents book gs := ⟨by omega, heo, by omega, hbo, hgl, hgo, hgp⟩
  have s2 : sAsg (gT 3 (gsC (gN 3) (gsC (gN 4) (gsC (gN 5) gsN)))) (eFnM 1 0 F_law_glide_drawn aNil) (lrE m1 .no .no .no .no .no .no) = .ok (.nx, lrE m2 .no (.val (.tuple ents)) (.val (.tuple (book.map encO))) (.val (.tuple (gs.map encG))) .no .no) := by
    have a1 := fnMk (i := 1) (n := 0) (fs := aNil) (ρ := lrE m1 .no .no .no .no .no .no) (ρ1 := lrE m1 .no .no .no .no .no .no) rfl rfl nil_ok rfl e2
    unfold sAsg
    rw [a1, rb]
    rfl
  obtain ⟨m3, vs, e3, t3, hl3, hv3⟩ := looks_ok t2 (by decide) (s2 := .no) (s3 := .val (.tuple ents)) (s4 := .val (.tuple (book.map encO))) (s5 := .val (.tuple (gs.map encG)))
  obtain ⟨ρ', e4⟩ := cases_ok H t3 (by decide) hl3 hv3
  refine ⟨es, ρ', e0, ?_⟩
  show m_law_rest (lrE es .no .no .no .no .no .no) = _
  unfold m_law_rest
  rw [seq_nx (ρ1 := lrE m1 .no .no .no .no .no .no) (by rw [if_ff tt]; rfl)]
  refine Eq.trans (seq_nx s2) ?_
  refine Eq.trans (seq_nx (ρ1 := lrE m3 (.own (vs.map lkD)) (.val (.tuple ents)) (.val (.tuple (book.map encO))) (.val (.tuple (gs.map encG))) .no .no) (by
    unfold sSetO
    rw [e3, rb]
    rfl)) ?_
  exact ret_ok e4
end GN

set_option Elab.async false
set_option linter.all false
set_option maxRecDepth 100000
set_option maxHeartbeats 8000000
namespace GN
open PySem PySem.Spec PyProof.Rows L2
theorem mkl3 {K : PySem.W.Frag} {f : Addr} {o : Obj} {F : Value → Value → Option Addr → Value → Value → FuncData} {C : Value → Prop} (h : K.lookup f = some o) (g : ∃ (oc : Value) (od : Option Addr) (doc pm : Value) (an : Option Addr) (cdv cc : Value) (osl : Array (Option Value)), o = ⟨oc, od, .func (F doc pm an cdv cc), osl⟩ ∧ C cdv) :
    ∃ (oc : Value) (od : Option Addr) (doc pm : Value) (an : Option Addr) (cdv cc : Value) (osl : Array (Option Value)), K.lookup f = some ⟨oc, od, .func (F doc pm an cdv cc), osl⟩ ∧ C cdv := by
  obtain ⟨oc, od, doc, pm, an, cdv, cc, osl, e, c⟩ := g
  subst e
  exact ⟨oc, od, doc, pm, an, cdv, cc, osl, h, c⟩
theorem mkl2 {K : PySem.W.Frag} {x : Str} {st : Stmt} {f : Addr} {o : Obj} (h : K.lookup f = some o) (g : (∃ (oc : Value) (od : Option Addr) (kV dc pm : Value) (an : Option Addr) (cd ct : Value) (sl : Array (Option Value)), o = ⟨oc, od, .func (PySem.W.fnOf x x (defArgs st) (defBody st) (defScope st) .none kV dc pm an cd ct), sl⟩ ∧ PySem.W.codeIn K cd x = true)) :
   ∃ (oc : Value) (od : Option Addr) (kV dc pm : Value) (an : Option Addr) (cd ct : Value) (sl : Array (Option Value)), K.lookup f = some ⟨oc, od, .func (PySem.W.fnOf x x (defArgs st) (defBody st) (defScope st) .none kV dc pm an cd ct), sl⟩ ∧ PySem.W.codeIn K cd x = true := by
  obtain ⟨oc, od, kV, dc, pm, an, cd, ct, sl, e, c⟩ := g
  subst e
  exact ⟨oc, od, kV, dc, pm, an, cd, ct, sl, h, c⟩
end GN

open PySem PySem.W PyProof.Rows
set_option maxRecDepth 100000 in
set_option maxHeartbeats 0 in
theorem PySem.Challenge.cw_glidenames_k41_whole_from_when_to_when_a_holds : PySem.Challenge.rw_glidenames_k41_whole_from_when_to_when_a.Holds := by
  w_on; o_law; k_head; (case hw => w_witness2)
  k_fill
  refine L2.walk_of (l := PySem.Challenge.rw_glidenames_k41_whole_from_when_to_when_a) (n := 63) (k := 14) (x := "_law_script") (CX := fun w => L2.CX PySem.Challenge.rw_glidenames_k41_whole_from_when_to_when_a.prog w) (sp := fun w => GN.spLaw _) rfl (by decide) rfl ⟨rfl, by decide, by decide⟩ (fun w h Y => PySem.W.kIn_of Y) ?F (fun _ _ a ns _ _ hS => ⟨a, ns, rfl, hS, fun _ => rfl⟩) fun _ _ _ _ _ ⟨_, _, _, _, _, _, _, _, _, _, _, _, z⟩ => z
  case F =>
    intro w mg fa h KX G hmg
    refine' GN.all_ok KX G hmg ?top ?d_law_box ?d_law_take ?d_law_pick ?d_law_part ?d_law_plus ?d_law_of ?d_law_less ?d_law_glide_drawn ?d_law_cells ?d_law_look ?d_law_same ?d_law_row_map ?d_is_number ?d_sure_name ?d_is_less ?d_told_places ?d_tuple_of ?d_fraction ?d_over ?d_plus ?d_minus ?d_times ?d_straight ?d_least ?d_greatest ?d_part_seen ?d_gaps_in ?d_box_in ?d_window_in ?d_seen_spans ?d_law_lists ?d_law_by_hand_right ?d_up ?d_cells_between ?d_picture ?d_tiles_in ?d_tiles_under ?d_window ?d_meets ?d_cut_at ?d_by_tiles ?d_law_heard ?d_is_tuple_of ?d_is_view ?d_least_view ?d_law_refused_right ?d_law_spots ?d_law_minus ?d_law_turn ?d_law_range ?d_law_gaps ?d_law_frame ?d_law_times ?d_law_pane ?d_law_ranges ?d_seen ?d_law_case_right ?d_law GN.nx_row GN.nx_hand (GN.law_main GN.t_hand GN.t_ref)
    case top =>
      refine' ⟨?z_len, ?z_abs, ?z_isinstance, ?z_int, ?z_bool, ?z_str, ?z_list, ?z_tuple, ?z_all, ?z_zip, ?z_range, ?z_enumerate, ?z_min, ?z_max, ?z_sorted, ?z_LookupError, ?z_ValueError, ?g_gcd, ⟨_, ?g_SIGNS⟩, ⟨_, ?g_MOST_CELLS⟩, ⟨_, ?g_MOST_TILES⟩, ?aN, ?aT, ?nq, ?nov, ?nhd, ?nsa, ?nno, ?ni, ?nt, ?nk, ?ne, ?nty, ?nfX, ?nga, ?ngg, ?nca, ?nmo, ?tq, ?tk, ?te, ?tty, ?thd, ?tga, ?tgg, ?tca, ?tmo, ?cg, ?ctk, ?snn, ?stn, ?stt, ?kn, ?kt⟩
      (case z_len => first | k_is | rfl)
      (case z_abs => first | k_is | rfl)
      (case z_isinstance => first | k_is | rfl)
      (case z_int => first | k_is | rfl)
      (case z_bool => first | k_is | rfl)
      (case z_str => first | k_is | rfl)
      (case z_list => first | k_is | rfl)
      (case z_tuple => first | k_is | rfl)
      (case z_all => first | k_is | rfl)
      (case z_zip => first | k_is | rfl)
      (case z_range => first | k_is | rfl)
      (case z_enumerate => first | k_is | rfl)
      (case z_min => first | k_is | rfl)
      (case z_max => first | k_is | rfl)
      (case z_sorted => first | k_is | rfl)
      (case z_LookupError => first | k_is | rfl)
      (case z_ValueError => first | k_is | rfl)
      (case g_gcd => first | k_is | rfl)
      (case g_SIGNS => first | k_is | rfl)
      (case g_MOST_CELLS => first | k_is | rfl)
      (case g_MOST_TILES => first | k_is | rfl)
      (case aN => first | k_is | rfl)
      (case aT => first | k_is | rfl)
      (case nq => first | k_is | rfl)
      (case nov => first | k_is | rfl)
      (case nhd => first | k_is | rfl)
      (case nsa => first | k_is | rfl)
      (case nno => first | k_is | rfl)
      (case ni => first | k_is | rfl)
      (case nt => first | k_is | rfl)
      (case nk => first | k_is | rfl)
      (case ne => first | k_is | rfl)
      (case nty => first | k_is | rfl)
      case nfX =>
        apply GN.mkl3 (h := by k_is)
        exact ⟨_, _, _, _, _, _, _, _, rfl, by k_is⟩
      (case nga => first | k_is | rfl)
      (case ngg => first | k_is | rfl)
      (case nca => first | k_is | rfl)
      (case nmo => first | k_is | rfl)
      (case tq => first | k_is | kernel_rfl)
      (case tk => first | k_is | rfl)
      (case te => first | k_is | rfl)
      (case tty => first | k_is | rfl)
      (case thd => first | k_is | rfl)
      (case tga => first | k_is | rfl)
      (case tgg => first | k_is | rfl)
      (case tca => first | k_is | rfl)
      (case tmo => first | k_is | rfl)
      (case cg => first | k_is | rfl)
      (case ctk => first | k_is | rfl)
      (case snn => first | k_is | rfl)
      (case stn => first | k_is | rfl)
      (case stt => first | k_is | rfl)
      (case kn => first | k_is | rfl)
      (case kt => first | k_is | rfl)
    case d_law_box =>
      refine' ⟨?a, ?l, ?k⟩
      (case a => k_is)
      case l =>
        apply GN.mkl2 (h := by k_is)
        exact ⟨_, _, _, _, _, _, _, _, _, rfl, by k_is⟩
      (case k => k_is)
    case d_law_take =>
      refine' ⟨?a, ?l, ?k⟩
      (case a => k_is)
      case l =>
        apply GN.mkl2 (h := by k_is)
        exact ⟨_, _, _, _, _, _, _, _, _, rfl, by k_is⟩
      (case k => k_is)
    case d_law_pick =>
      refine' ⟨?a, ?l, ?k⟩
      (case a => k_is)
      case l =>
        apply GN.mkl2 (h := by k_is)
        exact ⟨_, _, _, _, _, _, _, _, _, rfl, by k_is⟩
      (case k => k_is)
    case d_law_part =>
      refine' ⟨?a, ?l, ?k⟩
      (case a => k_is)
      case l =>
        apply GN.mkl2 (h := by k_is)
        exact ⟨_, _, _, _, _, _, _, _, _, rfl, by k_is⟩
      (case k => k_is)
    case d_law_plus =>
      refine' ⟨?a, ?l, ?k⟩
      (case a => k_is)
      case l =>
        apply GN.mkl2 (h := by k_is)
        exact ⟨_, _, _, _, _, _, _, _, _, rfl, by k_is⟩
      (case k => k_is)
    case d_law_of =>
      refine' ⟨?a, ?l, ?k⟩
      (case a => k_is)
      case l =>
        apply GN.mkl2 (h := by k_is)
        exact ⟨_, _, _, _, _, _, _, _, _, rfl, by k_is⟩
      (case k => k_is)
    case d_law_less =>
      refine' ⟨?a, ?l, ?k⟩
      (case a => k_is)
      case l =>
        apply GN.mkl2 (h := by k_is)
        exact ⟨_, _, _, _, _, _, _, _, _, rfl, by k_is⟩
      (case k => k_is)
    case d_law_glide_drawn =>
      refine' ⟨?a, ?l, ?k⟩
      (case a => k_is)
      case l =>
        apply GN.mkl2 (h := by k_is)
        exact ⟨_, _, _, _, _, _, _, _, _, rfl, by k_is⟩
      (case k => k_is)
    case d_law_cells =>
      refine' ⟨?a, ?l, ?k⟩
      (case a => k_is)
      case l =>
        apply GN.mkl2 (h := by k_is)
        exact ⟨_, _, _, _, _, _, _, _, _, rfl, by k_is⟩
      (case k => k_is)
    case d_law_look =>
      refine' ⟨?a, ?l, ?k⟩
      (case a => k_is)
      case l =>
        apply GN.mkl2 (h := by k_is)
        exact ⟨_, _, _, _, _, _, _, _, _, rfl, by k_is⟩
      (case k => k_is)
    case d_law_same =>
      refine' ⟨?a, ?l, ?k⟩
      (case a => k_is)
      case l =>
        apply GN.mkl2 (h := by k_is)
        exact ⟨_, _, _, _, _, _, _, _, _, rfl, by k_is⟩
      (case k => k_is)
    case d_law_row_map =>
      refine' ⟨?a, ?l, ?k⟩
      (case a => k_is)
      case l =>
        apply GN.mkl2 (h := by k_is)
        exact ⟨_, _, _, _, _, _, _, _, _, rfl, by k_is⟩
      (case k => k_is)
    case d_is_number =>
      refine' ⟨?a, ?l, ?k⟩
      (case a => k_is)
      case l =>
        apply GN.mkl2 (h := by k_is)
        exact ⟨_, _, _, _, _, _, _, _, _, rfl, by k_is⟩
      (case k => k_is)
    case d_sure_name =>
      refine' ⟨?a, ?l, ?k⟩
      (case a => k_is)
      case l =>
        apply GN.mkl2 (h := by k_is)
        exact ⟨_, _, _, _, _, _, _, _, _, rfl, by k_is⟩
      (case k => k_is)
    case d_is_less =>
      refine' ⟨?a, ?l, ?k⟩
      (case a => k_is)
      case l =>
        apply GN.mkl2 (h := by k_is)
        exact ⟨_, _, _, _, _, _, _, _, _, rfl, by k_is⟩
      (case k => k_is)
    case d_told_places =>
      refine' ⟨?a, ?l, ?k⟩
      (case a => k_is)
      case l =>
        apply GN.mkl2 (h := by k_is)
        exact ⟨_, _, _, _, _, _, _, _, _, rfl, by k_is⟩
      (case k => k_is)
    case d_tuple_of =>
      refine' ⟨?a, ?l, ?k⟩
      (case a => k_is)
      case l =>
        apply GN.mkl2 (h := by k_is)
        exact ⟨_, _, _, _, _, _, _, _, _, rfl, by k_is⟩
      (case k => k_is)
    case d_fraction =>
      refine' ⟨?a, ?l, ?k⟩
      (case a => k_is)
      case l =>
        apply GN.mkl2 (h := by k_is)
        exact ⟨_, _, _, _, _, _, _, _, _, rfl, by k_is⟩
      (case k => k_is)
    case d_over =>
      refine' ⟨?a, ?l, ?k⟩
      (case a => k_is)
      case l =>
        apply GN.mkl2 (h := by k_is)
        exact ⟨_, _, _, _, _, _, _, _, _, rfl, by k_is⟩
      (case k => k_is)
    case d_plus =>
      refine' ⟨?a, ?l, ?k⟩
      (case a => k_is)
      case l =>
        apply GN.mkl2 (h := by k_is)
        exact ⟨_, _, _, _, _, _, _, _, _, rfl, by k_is⟩
      (case k => k_is)
    case d_minus =>
      refine' ⟨?a, ?l, ?k⟩
      (case a => k_is)
      case l =>
        apply GN.mkl2 (h := by k_is)
        exact ⟨_, _, _, _, _, _, _, _, _, rfl, by k_is⟩
      (case k => k_is)
    case d_times =>
      refine' ⟨?a, ?l, ?k⟩
      (case a => k_is)
      case l =>
        apply GN.mkl2 (h := by k_is)
        exact ⟨_, _, _, _, _, _, _, _, _, rfl, by k_is⟩
      (case k => k_is)
    case d_straight =>
      refine' ⟨?a, ?l, ?k⟩
      (case a => k_is)
      case l =>
        apply GN.mkl2 (h := by k_is)
        exact ⟨_, _, _, _, _, _, _, _, _, rfl, by k_is⟩
      (case k => k_is)
    case d_least =>
      refine' ⟨?a, ?l, ?k⟩
      (case a => k_is)
      case l =>
        apply GN.mkl2 (h := by k_is)
        exact ⟨_, _, _, _, _, _, _, _, _, rfl, by k_is⟩
      (case k => k_is)
    case d_greatest =>
      refine' ⟨?a, ?l, ?k⟩
      (case a => k_is)
      case l =>
        apply GN.mkl2 (h := by k_is)
        exact ⟨_, _, _, _, _, _, _, _, _, rfl, by k_is⟩
      (case k => k_is)
    case d_part_seen =>
      refine' ⟨?a, ?l, ?k⟩
      (case a => k_is)
      case l =>
        apply GN.mkl2 (h := by k_is)
        exact ⟨_, _, _, _, _, _, _, _, _, rfl, by k_is⟩
      (case k => k_is)
    case d_gaps_in =>
      refine' ⟨?a, ?l, ?k⟩
      (case a => k_is)
      case l =>
        apply GN.mkl2 (h := by k_is)
        exact ⟨_, _, _, _, _, _, _, _, _, rfl, by k_is⟩
      (case k => k_is)
    case d_box_in =>
      refine' ⟨?a, ?l, ?k⟩
      (case a => k_is)
      case l =>
        apply GN.mkl2 (h := by k_is)
        exact ⟨_, _, _, _, _, _, _, _, _, rfl, by k_is⟩
      (case k => k_is)
    case d_window_in =>
      refine' ⟨?a, ?l, ?k⟩
      (case a => k_is)
      case l =>
        apply GN.mkl2 (h := by k_is)
        exact ⟨_, _, _, _, _, _, _, _, _, rfl, by k_is⟩
      (case k => k_is)
    case d_seen_spans =>
      refine' ⟨?a, ?l, ?k⟩
      (case a => k_is)
      case l =>
        apply GN.mkl2 (h := by k_is)
        exact ⟨_, _, _, _, _, _, _, _, _, rfl, by k_is⟩
      (case k => k_is)
    case d_law_lists =>
      refine' ⟨?a, ?l, ?k⟩
      (case a => k_is)
      case l =>
        apply GN.mkl2 (h := by k_is)
        exact ⟨_, _, _, _, _, _, _, _, _, rfl, by k_is⟩
      (case k => k_is)
    case d_law_by_hand_right =>
      refine' ⟨?a, ?l, ?k⟩
      (case a => k_is)
      case l =>
        apply GN.mkl2 (h := by k_is)
        exact ⟨_, _, _, _, _, _, _, _, _, rfl, by k_is⟩
      (case k => k_is)
    case d_up =>
      refine' ⟨?a, ?l, ?k⟩
      (case a => k_is)
      case l =>
        apply GN.mkl2 (h := by k_is)
        exact ⟨_, _, _, _, _, _, _, _, _, rfl, by k_is⟩
      (case k => k_is)
    case d_cells_between =>
      refine' ⟨?a, ?l, ?k⟩
      (case a => k_is)
      case l =>
        apply GN.mkl2 (h := by k_is)
        exact ⟨_, _, _, _, _, _, _, _, _, rfl, by k_is⟩
      (case k => k_is)
    case d_picture =>
      refine' ⟨?a, ?l, ?k⟩
      (case a => k_is)
      case l =>
        apply GN.mkl2 (h := by k_is)
        exact ⟨_, _, _, _, _, _, _, _, _, rfl, by k_is⟩
      (case k => k_is)
    case d_tiles_in =>
      refine' ⟨?a, ?l, ?k⟩
      (case a => k_is)
      case l =>
        apply GN.mkl2 (h := by k_is)
        exact ⟨_, _, _, _, _, _, _, _, _, rfl, by k_is⟩
      (case k => k_is)
    case d_tiles_under =>
      refine' ⟨?a, ?l, ?k⟩
      (case a => k_is)
      case l =>
        apply GN.mkl2 (h := by k_is)
        exact ⟨_, _, _, _, _, _, _, _, _, rfl, by k_is⟩
      (case k => k_is)
    case d_window =>
      refine' ⟨?a, ?l, ?k⟩
      (case a => k_is)
      case l =>
        apply GN.mkl2 (h := by k_is)
        exact ⟨_, _, _, _, _, _, _, _, _, rfl, by k_is⟩
      (case k => k_is)
    case d_meets =>
      refine' ⟨?a, ?l, ?k⟩
      (case a => k_is)
      case l =>
        apply GN.mkl2 (h := by k_is)
        exact ⟨_, _, _, _, _, _, _, _, _, rfl, by k_is⟩
      (case k => k_is)
    case d_cut_at =>
      refine' ⟨?a, ?l, ?k⟩
      (case a => k_is)
      case l =>
        apply GN.mkl2 (h := by k_is)
        exact ⟨_, _, _, _, _, _, _, _, _, rfl, by k_is⟩
      (case k => k_is)
    case d_by_tiles =>
      refine' ⟨?a, ?l, ?k⟩
      (case a => k_is)
      case l =>
        apply GN.mkl2 (h := by k_is)
        exact ⟨_, _, _, _, _, _, _, _, _, rfl, by k_is⟩
      (case k => k_is)
    case d_law_heard =>
      refine' ⟨?a, ?l, ?k⟩
      (case a => k_is)
      case l =>
        apply GN.mkl2 (h := by k_is)
        exact ⟨_, _, _, _, _, _, _, _, _, rfl, by k_is⟩
      (case k => k_is)
    case d_is_tuple_of =>
      refine' ⟨?a, ?l, ?k⟩
      (case a => k_is)
      case l =>
        apply GN.mkl2 (h := by k_is)
        exact ⟨_, _, _, _, _, _, _, _, _, rfl, by k_is⟩
      (case k => k_is)
    case d_is_view =>
      refine' ⟨?a, ?l, ?k⟩
      (case a => k_is)
      case l =>
        apply GN.mkl2 (h := by k_is)
        exact ⟨_, _, _, _, _, _, _, _, _, rfl, by k_is⟩
      (case k => k_is)
    case d_least_view =>
      refine' ⟨?a, ?l, ?k⟩
      (case a => k_is)
      case l =>
        apply GN.mkl2 (h := by k_is)
        exact ⟨_, _, _, _, _, _, _, _, _, rfl, by k_is⟩
      (case k => k_is)
    case d_law_refused_right =>
      refine' ⟨?a, ?l, ?k⟩
      (case a => k_is)
      case l =>
        apply GN.mkl2 (h := by k_is)
        exact ⟨_, _, _, _, _, _, _, _, _, rfl, by k_is⟩
      (case k => k_is)
    case d_law_spots =>
      refine' ⟨?a, ?l, ?k⟩
      (case a => k_is)
      case l =>
        apply GN.mkl2 (h := by k_is)
        exact ⟨_, _, _, _, _, _, _, _, _, rfl, by k_is⟩
      (case k => k_is)
    case d_law_minus =>
      refine' ⟨?a, ?l, ?k⟩
      (case a => k_is)
      case l =>
        apply GN.mkl2 (h := by k_is)
        exact ⟨_, _, _, _, _, _, _, _, _, rfl, by k_is⟩
      (case k => k_is)
    case d_law_turn =>
      refine' ⟨?a, ?l, ?k⟩
      (case a => k_is)
      case l =>
        apply GN.mkl2 (h := by k_is)
        exact ⟨_, _, _, _, _, _, _, _, _, rfl, by k_is⟩
      (case k => k_is)
    case d_law_range =>
      refine' ⟨?a, ?l, ?k⟩
      (case a => k_is)
      case l =>
        apply GN.mkl2 (h := by k_is)
        exact ⟨_, _, _, _, _, _, _, _, _, rfl, by k_is⟩
      (case k => k_is)
    case d_law_gaps =>
      refine' ⟨?a, ?l, ?k⟩
      (case a => k_is)
      case l =>
        apply GN.mkl2 (h := by k_is)
        exact ⟨_, _, _, _, _, _, _, _, _, rfl, by k_is⟩
      (case k => k_is)
    case d_law_frame =>
      refine' ⟨?a, ?l, ?k⟩
      (case a => k_is)
      case l =>
        apply GN.mkl2 (h := by k_is)
        exact ⟨_, _, _, _, _, _, _, _, _, rfl, by k_is⟩
      (case k => k_is)
    case d_law_times =>
      refine' ⟨?a, ?l, ?k⟩
      (case a => k_is)
      case l =>
        apply GN.mkl2 (h := by k_is)
        exact ⟨_, _, _, _, _, _, _, _, _, rfl, by k_is⟩
      (case k => k_is)
    case d_law_pane =>
      refine' ⟨?a, ?l, ?k⟩
      (case a => k_is)
      case l =>
        apply GN.mkl2 (h := by k_is)
        exact ⟨_, _, _, _, _, _, _, _, _, rfl, by k_is⟩
      (case k => k_is)
    case d_law_ranges =>
      refine' ⟨?a, ?l, ?k⟩
      (case a => k_is)
      case l =>
        apply GN.mkl2 (h := by k_is)
        exact ⟨_, _, _, _, _, _, _, _, _, rfl, by k_is⟩
      (case k => k_is)
    case d_seen =>
      refine' ⟨?a, ?l, ?k⟩
      (case a => k_is)
      case l =>
        apply GN.mkl2 (h := by k_is)
        exact ⟨_, _, _, _, _, _, _, _, _, rfl, by k_is⟩
      (case k => k_is)
    case d_law_case_right =>
      refine' ⟨?a, ?l, ?k⟩
      (case a => k_is)
      case l =>
        apply GN.mkl2 (h := by k_is)
        exact ⟨_, _, _, _, _, _, _, _, _, rfl, by k_is⟩
      (case k => k_is)
    case d_law =>
      refine' ⟨?a, ?l, ?k⟩
      (case a => k_is)
      case l =>
        apply GN.mkl2 (h := by k_is)
        exact ⟨_, _, _, _, _, _, _, _, _, rfl, by k_is⟩
      (case k => k_is)

